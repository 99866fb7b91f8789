import PyProof.Rows.All
import Wide.All
import OpenK.AllK
import Wide.FinOn
import KE.KNest
import Lean
import PySem.Challenge.RW_nz0184_01
set_option Elab.async false
set_option maxRecDepth 100000
set_option compiler.extract_closed false
set_option bootstrap.genMatcherCode false
set_option tactic.hygienic false
set_option hygiene false
set_option genSizeOf false
set_option maxHeartbeats 8000000
set_option linter.unusedVariables false
set_option linter.unusedSimpArgs false
noncomputable section
namespace Mine
inductive Cl where
 | scalar | array | hash | code | glob | ref | heap | counter | limits
 deriving DecidableEq
noncomputable def Cl.fields:Cl→List String
 | .scalar=>["number","count","blessed","weak","is_destroyed","is_freed","value","magic"]
 | .array=>["number","count","blessed","weak","is_destroyed","is_freed","items","tied"]
 | .hash=>["number","count","blessed","weak","is_destroyed","is_freed","table","at","tied"]
 | .ref=>["target","is_weak"]
 | .heap=>["limits","last","zero"]
 | .counter=>["heap","destroy","places"]
 | .limits=>["width","depth","steps","text","items"]
 | .code=>[]
 | .glob=>[]
inductive AV where
 | none | bool (b:Bool) | int (i:Int) | str (s:String) | obj (i:Nat) | dstr
 deriving DecidableEq
inductive AO where
 | inst (c:Cl) (fs:List (String × AV))
 | list (xs:List AV)
 | tup (xs:List AV)
 | dI (lk:Bool) (es:List (Int × AV))
 | dS (lk:Bool) (es:List (String × AV))
 deriving DecidableEq
abbrev Mem:=List AO
abbrev M (α:Type):=Mem→Option (α × Mem)
abbrev Cx0:=List (Option AV)
noncomputable def bd {α β:Type} (m:M α) (f:α→M β):M β:=λ μ=>match m μ with
 | some (a,μ')=>f a μ'
 | none=>none
noncomputable def rt {α:Type} (a:α):M α:=λ μ=>some (a,μ)
noncomputable def fl {α:Type}:M α:=λ _=>none
noncomputable def rd (i:Nat):M AO:=λ μ=>match μ[i]? with
 | some o=>some (o,μ)
 | none=>none
noncomputable def wr (i:Nat) (o:AO):M Unit:=λ μ=>some ((),μ.set i o)
noncomputable def al (o:AO):M AV:=λ μ=>some (.obj μ.length,μ ++ [o])
noncomputable def big:Nat:=1048576
noncomputable def put {κ:Type} [DecidableEq κ] (k:κ) (v:AV):List (κ × AV)→List (κ × AV)
 | []=>[(k,v)]
 | e :: r=>if e.1=k then (k,v) :: r else e :: put k v r
noncomputable def get {κ:Type} [DecidableEq κ] (k:κ):List (κ × AV)→Option AV
 | []=>none
 | e :: r=>if e.1=k then some e.2 else get k r
noncomputable def del {κ:Type} [DecidableEq κ] (k:κ):List (κ × AV)→List (κ × AV)
 | []=>[]
 | e :: r=>if e.1=k then r else e :: del k r
theorem wu {κ:Type} [DecidableEq κ] {k:κ} {v:AV} {e:κ × AV} {r:List (κ × AV)}:put k v (e :: r)=if e.1=k then (k,v) :: r else e :: put k v r:=rfl
theorem xb {κ:Type} [DecidableEq κ] {k:κ} {e:κ × AV} {r:List (κ × AV)}:get k (e :: r)=if e.1=k then some e.2 else get k r:=rfl
theorem gw {κ:Type} [DecidableEq κ] {k:κ} {e:κ × AV} {r:List (κ × AV)}:del k (e :: r)=if e.1=k then r else e :: del k r:=rfl
theorem Yh {κ:Type} [DecidableEq κ] {k:κ} {v:AV}:put k v []=[(k,v)]:=rfl
theorem Vm {κ:Type} [DecidableEq κ] {k:κ}:get k []=none:=rfl
noncomputable def getA (v:AV) (f:String):M AV:=match v with
 | .obj i=>bd (rd i) λ o=>match o with
  | .inst _ fs=>match get f fs with
   | some x=>rt x
   | none=>fl
  | _=>fl
 | _=>fl
noncomputable def setA (v:AV) (f:String) (x:AV):M Unit:=match v with
 | .obj i=>bd (rd i) λ o=>match o with
  | .inst c fs=>if f∈c.fields∧fs.length < 100 then wr i (.inst c (put f x fs)) else fl
  | _=>fl
 | _=>fl
noncomputable def rdL (v:AV):M (List AV):=match v with
 | .obj i=>bd (rd i) λ o=>match o with
  | .list xs=>rt xs
  | _=>fl
 | _=>fl
noncomputable def appL (v x:AV):M AV:=match v with
 | .obj i=>bd (rd i) λ o=>match o with
  | .list xs=>if xs.length < big then bd (wr i (.list (xs ++ [x]))) λ _=>rt .none else fl
  | _=>fl
 | _=>fl
noncomputable def popL (v:AV):M AV:=match v with
 | .obj i=>bd (rd i) λ o=>match o with
  | .list (x :: xs)=>bd (wr i (.list xs)) λ _=>rt x
  | _=>fl
 | _=>fl
noncomputable def opt {α:Type}:Option α→M α
 | some a=>rt a
 | none=>fl
noncomputable def getI (o k:AV):M AV:=match o with
 | .obj i=>match k with
  | .int n=>bd (rd i) λ o=>match o with
   | .list xs=>if 0≤n then opt xs[n.toNat]? else fl
   | .tup xs=>if 0≤n then opt xs[n.toNat]? else fl
   | .dI _ es=>opt (get n es)
   | _=>fl
  | .str s=>bd (rd i) λ o=>match o with
   | .dS _ es=>opt (get s es)
   | _=>fl
  | _=>fl
 | _=>fl
noncomputable def setI (o k x:AV):M Unit:=match o with
 | .obj i=>match k with
  | .int n=>bd (rd i) λ o=>match o with
   | .list xs=>if 0≤n∧n.toNat < xs.length then wr i (.list (xs.set n.toNat x)) else fl
   | .dI lk es=>if lk=false∧es.length < big then wr i (.dI false (put n x es)) else fl
   | _=>fl
  | .str s=>bd (rd i) λ o=>match o with
   | .dS lk es=>if lk=false∧es.length < big then wr i (.dS false (put s x es)) else fl
   | _=>fl
  | _=>fl
 | _=>fl
noncomputable def setAll (o l:AV):M Unit:=match o with
 | .obj i=>bd (rd i) λ o=>match o with
  | .list _=>bd (rdL l) λ xs=>wr i (.list xs)
  | _=>fl
 | _=>fl
noncomputable def yZ (o l:AV):M Unit:=if o=l then fl else setAll o l
noncomputable def slFrom (l k:AV):M AV:=match k with
 | .int n=>if 0≤n then bd (rdL l) λ xs=>al (.list (xs.drop n.toNat)) else fl
 | _=>fl
noncomputable def slTo (l k:AV):M AV:=match k with
 | .int n=>if 0≤n then bd (rdL l) λ xs=>al (.list (xs.take n.toNat)) else fl
 | _=>fl
noncomputable def getK (d k:AV):M (Option AV):=match d with
 | .obj i=>match k with
  | .int n=>bd (rd i) λ o=>match o with
   | .dI _ es=>rt (get n es)
   | _=>fl
  | .str s=>bd (rd i) λ o=>match o with
   | .dS _ es=>rt (get s es)
   | _=>fl
  | _=>fl
 | _=>fl
noncomputable def dget1 (d k:AV):M AV:=bd (getK d k) λ r=>rt (r.getD .none)
noncomputable def dget2 (d k x:AV):M AV:=bd (getK d k) λ r=>rt (r.getD x)
noncomputable def delK (d k:AV):M Unit:=match d with
 | .obj i=>match k with
  | .int n=>bd (rd i) λ o=>match o with
   | .dI lk es=>if lk=false then wr i (.dI false (del n es)) else fl
   | _=>fl
  | .str s=>bd (rd i) λ o=>match o with
   | .dS lk es=>if lk=false then wr i (.dS false (del s es)) else fl
   | _=>fl
  | _=>fl
 | _=>fl
noncomputable def dpop1 (d k:AV):M AV:=bd (getK d k) λ r=>match r with
 | some x=>bd (delK d k) λ _=>rt x
 | none=>fl
noncomputable def dpop2 (d k y:AV):M AV:=bd (getK d k) λ r=>match r with
 | some x=>bd (delK d k) λ _=>rt x
 | none=>rt y
noncomputable def ninK (k d:AV):M AV:=bd (getK d k) λ r=>rt (.bool (!r.isSome))
noncomputable def isI (c:Cl) (v:AV):M AV:=match v with
 | .none=>rt (.bool false)
 | .int _=>rt (.bool false)
 | .obj i=>bd (rd i) λ o=>match o with
  | .inst d _=>rt (.bool (decide (d=c)))
  | _=>fl
 | _=>fl
noncomputable def isT (v:AV):M AV:=match v with
 | .none=>rt (.bool false)
 | .int _=>rt (.bool false)
 | .obj i=>bd (rd i) λ o=>match o with
  | .tup _=>rt (.bool true)
  | .list _=>rt (.bool false)
  | _=>fl
 | _=>fl
noncomputable def tru (v:AV):M Bool:=match v with
 | .bool b=>rt b
 | _=>fl
set_option genInjectivity false in
inductive D where
 | none | int (i:Int) | str (s:String) | node (l:Bool) (ds:List D)
noncomputable def readO (f:AV→Option D) (o:AO):Option D:=match o with
 | .list xs=>(xs.mapM f).map (.node true)
 | .tup xs=>(xs.mapM f).map (.node false)
 | _=>Option.none
noncomputable def readA (f:Nat→Option D) (v:AV):Option D:=match v with
 | .none=>some .none
 | .int i=>some (.int i)
 | .str s=>some (.str s)
 | .obj i=>f i
 | _=>Option.none
noncomputable def readD (μ:Mem):Nat→AV→Option D
 | 0=>readA λ _=>Option.none
 | n+1=>readA λ i=>μ[i]?.bind (readO (readD μ n))
mutual
noncomputable def D.same:D→D→Bool
 | .none,y=>match y with
  | .none=>true
  | _=>false
 | .int i,y=>match y with
  | .int j=>i == j
  | _=>false
 | .str s,y=>match y with
  | .str t=>s == t
  | _=>false
 | .node a xs,y=>match y with
  | .node b ys=>a == b && D.sames xs ys
  | _=>false
noncomputable def D.sames:List D→List D→Bool
 | [],ys=>match ys with
  | []=>true
  | _=>false
 | x :: xs,ys=>match ys with
  | y :: ys=>D.same x y && D.sames xs ys
  | _=>false
end
noncomputable def eqD (a b:AV):M AV:=λ μ=>(readD μ 3 a).bind λ x=>(readD μ 3 b).bind λ y=>some (.bool (D.same x y),μ)
noncomputable def eqM (a b:AV):M AV:=match a with
 | .bool i=>match b with
  | .bool j=>rt (.bool (decide (i=j)))
  | _=>eqD a b
 | _=>eqD a b
noncomputable def neg (v:AV):M AV:=match v with
 | .bool b=>rt (.bool (!b))
 | _=>fl
noncomputable def neM (a b:AV):M AV:=bd (eqM a b) neg
noncomputable def isN (v:AV):M AV:=rt (.bool (decide (v= .none)))
noncomputable def isNN (v:AV):M AV:=rt (.bool (!decide (v= .none)))
noncomputable def i2 (a b:AV) (f:Int→Int→M AV):M AV:=match a with
 | .int i=>match b with
  | .int j=>f i j
  | _=>fl
 | _=>fl
noncomputable def ltM (a b:AV):M AV:=i2 a b λ i j=>rt (.bool (decide (i < j)))
noncomputable def gtM (a b:AV):M AV:=i2 a b λ i j=>rt (.bool (decide (j < i)))
noncomputable def addM (a b:AV):M AV:=match a with
 | .int i=>match b with
  | .int j=>rt (.int (i+j))
  | _=>fl
 | .str s=>match b with
  | .str t=>if s.length≤100∧t.length≤100 then rt (.str (s ++ t)) else fl
  | _=>fl
 | .obj i=>match b with
  | .obj j=>bd (rdL (.obj i)) λ xs=>bd (rdL (.obj j)) λ ys=>if xs.length+ys.length≤big then al (.list (xs ++ ys)) else fl
  | _=>fl
 | _=>fl
noncomputable def iaddM (a b:AV):M AV:=i2 a b λ i j=>rt (.int (i+j))
noncomputable def subM (a b:AV):M AV:=i2 a b λ i j=>rt (.int (i - j))
noncomputable def modM (a b:AV):M AV:=i2 a b λ i j=>if 0 < j then rt (.int (Int.fmod i j)) else fl
noncomputable def divM (a b:AV):M AV:=i2 a b λ i j=>if 0 < j∧j < 1000 then rt (.int (Int.fdiv i j)) else fl
noncomputable def powM (a b:AV):M AV:=i2 a b λ i j=>if i=10∧j=9 then rt (.int 1000000000) else fl
noncomputable def absM (a:AV):M AV:=match a with
 | .int i=>rt (.int (Int.natAbs i))
 | _=>fl
noncomputable def strM (a:AV):M AV:=match a with
 | .int i=>if 0≤i∧i < 10 then rt (.str (toString i)) else fl
 | _=>fl
noncomputable def lenM (a:AV):M AV:=bd (rdL a) λ xs=>rt (.int xs.length)
noncomputable def intsOf:List AV→Option (List Int)
 | []=>some []
 | x :: r=>match x with
  | .int i=>(intsOf r).map (i :: ·)
  | _=>none
noncomputable def sumM (a:AV):M AV:=bd (rdL a) λ xs=>bd (opt (intsOf xs)) λ is=>rt (.int is.sum)
noncomputable def ins (i:Int):List Int→List Int
 | []=>[i]
 | j :: r=>if i≤j then i :: j :: r else j :: ins i r
theorem Yi {i j:Int} {r:List Int}:ins i (j :: r)=if i≤j then i :: j :: r else j :: ins i r:=rfl
theorem JU {i:Int}:ins i []=[i]:=rfl
noncomputable def isort:List Int→List Int
 | []=>[]
 | i :: r=>ins i (isort r)
noncomputable def vF (a:AV):M AV:=bd (rdL a) λ xs=>bd (opt (intsOf xs)) λ is=>if is.length < 64 then al (.list ((isort is).map AV.int)) else fl
noncomputable def uL (a:AV):M AV:=match a with
 | .obj i=>bd (rd i) λ o=>match o with
  | .dI _ es=>if es.length < 64 then al (.list ((isort (es.map (·.1))).map AV.int)) else fl
  | _=>fl
 | _=>fl
noncomputable def sah (k:AV):M AV:=match k with
 | .int n=>if n=0 then rt (.str "S") else if n=1 then rt (.str "A") else if n=2 then rt (.str "H") else fl
 | _=>fl
noncomputable def evs:List (M AV)→M (List AV)
 | []=>rt []
 | m :: r=>bd m λ a=>bd (evs r) λ as=>rt (a :: as)
noncomputable def mkL (ms:List (M AV)):M AV:=bd (evs ms) λ xs=>al (.list xs)
noncomputable def mkT (ms:List (M AV)):M AV:=bd (evs ms) λ xs=>al (.tup xs)
noncomputable def chk (v:AV) (c:Cl):M Unit:=match v with
 | .obj i=>bd (rd i) λ o=>match o with
  | .inst d _=>if d=c then rt () else fl
  | _=>fl
 | _=>fl
noncomputable def chkL (v:AV):M Unit:=match v with
 | .obj i=>bd (rd i) λ o=>match o with
  | .list _=>rt ()
  | _=>fl
 | _=>fl
noncomputable def chkD (v:AV):M Unit:=match v with
 | .obj i=>bd (rd i) λ o=>match o with
  | .dI _ _=>rt ()
  | .dS _ _=>rt ()
  | _=>fl
 | _=>fl
noncomputable def new (c:Cl) (init:AV→M AV):M AV:=bd (al (.inst c [])) λ o=>bd (init o) λ r=>if r= .none then rt o else fl
set_option genInjectivity false in
inductive Fl (ρ:Type) where
 | nxt (r:ρ) | cnt | ret (v:AV)
noncomputable def thn {ρ σ:Type} (m:M (Fl ρ)) (k:ρ→M (Fl σ)):M (Fl σ):=bd m λ f=>match f with
 | .nxt r=>k r
 | .cnt=>rt .cnt
 | .ret v=>rt (.ret v)
noncomputable def thnG {ρ σ:Type} (_G:ρ→Cx0) (m:M (Fl ρ)) (k:ρ→M (Fl σ)):M (Fl σ):=thn m k
noncomputable def fin (m:M (Fl Unit)):M AV:=bd m λ f=>match f with
 | .nxt _=>rt .none
 | .cnt=>fl
 | .ret v=>rt v
noncomputable def ckO (i:Nat) (o:AO):M Unit:=bd (rd i) λ p=>if p=o then rt () else fl
noncomputable def goG {ρ:Type} (ck:M Unit) (body:ρ→AV→M (Fl ρ)):List AV→ρ→M (Fl ρ)
 | [],r=>bd ck λ _=>rt (.nxt r)
 | x :: xs,r=>bd ck λ _=>bd (body r x) λ f=>match f with
     | .nxt r'=>goG ck body xs r'
     | .cnt=>goG ck body xs r
     | .ret v=>rt (.ret v)
noncomputable def keysOf:AO→Option (List AV)
 | .list xs=>some xs
 | .dI _ es=>some (es.map λ e=> .int e.1)
 | .dS _ es=>some (es.map λ e=> .str e.1)
 | _=>none
noncomputable def valsOf:AO→Option (List AV)
 | .dI _ es=>some (es.map (·.2))
 | .dS _ es=>some (es.map (·.2))
 | _=>none
noncomputable def AO.locked:AO→Bool
 | .dI lk _=>lk
 | .dS lk _=>lk
 | _=>false
noncomputable def AO.lock:AO→AO
 | .dI _ es=> .dI true es
 | .dS _ es=> .dS true es
 | o=>o
noncomputable def walked {α:Type} (i:Nat) (o:AO) (m:M α):M α:=if o.locked then fl else bd (wr i o.lock) λ _=>bd m λ a=>bd (rd i) λ p=>if p=o.lock then bd (wr i o) λ _=>rt a else fl
noncomputable def forL {ρ:Type} (_G:ρ→Cx0) (l:AV) (r:ρ) (body:ρ→AV→M (Fl ρ)):M (Fl ρ):=match l with
 | .obj i=>bd (rd i) λ o=>bd (opt (keysOf o)) λ xs=>walked i o (goG (ckO i o.lock) body xs r)
 | _=>fl
noncomputable def forV {ρ:Type} (_G:ρ→Cx0) (l:AV) (r:ρ) (body:ρ→AV→M (Fl ρ)):M (Fl ρ):=match l with
 | .obj i=>bd (rd i) λ o=>bd (opt (valsOf o)) λ xs=>walked i o (goG (ckO i o.lock) body xs r)
 | _=>fl
noncomputable def forR {ρ:Type} (_G:ρ→Cx0) (n:AV) (r:ρ) (body:ρ→AV→M (Fl ρ)):M (Fl ρ):=match n with
 | .int k=>if 0≤k∧k≤1000 then goG (rt ()) body ((List.range k.toNat).map λ j:Nat=>AV.int (Int.ofNat j)) r else fl
 | _=>fl
noncomputable def whl (_G:Cx0):Nat→M Bool→M (Fl Unit)→M (Fl Unit)
 | 0,_,_=>fl
 | n+1,c,body=>bd c λ b=>if b then bd body λ f=>match f with
    | .nxt _=>whl _G n c body
    | .cnt=>whl _G n c body
    | .ret v=>rt (.ret v)
  else rt (.nxt ())
noncomputable def goC (ck:M Unit) (test:AV→M Bool) (elt:AV→M AV):List AV→List AV→M (List AV)
 | [],acc=>bd ck λ _=>rt acc
 | x :: xs,acc=>bd ck λ _=>bd (test x) λ b =>
     if b then bd (elt x) λ y=>goC ck test elt xs (acc ++ [y]) else goC ck test elt xs acc
noncomputable def comp (_G:AV→Cx0) (src:AV) (test:AV→M Bool) (elt:AV→M AV):M AV:=match src with
 | .obj i=>bd (rd i) λ o=>bd (opt (keysOf o)) λ xs=>if xs.length≤big then bd (walked i o (goC (ckO i o.lock) test elt xs [])) λ ys=>al (.list ys) else fl
 | _=>fl
noncomputable def andV (a:M AV) (b:M AV):M AV:=bd a λ x=>bd (tru x) λ t=>if t then b else rt x
noncomputable def andC (a b:M Bool):M Bool:=bd a λ t=>if t then b else rt false
noncomputable def orC (a b:M Bool):M Bool:=bd a λ t=>if t then rt true else b
noncomputable def notC (a:M Bool):M Bool:=bd a λ t=>rt (!t)
noncomputable def iteV (c:M Bool) (a b:M AV):M AV:=bd c λ t=>if t then a else b
theorem za {β:Type} {P:Prop} {b:β} (e:none=some b):P:=nomatch e
theorem hideP {G:Prop} (h: ∀ P:Prop,(G→P)→P):G:=h G id
theorem jJ {β:Type} {P:Prop} {b:β} (e:some b=none):P:=nomatch e
theorem some2 {α β:Type} {a c:α} {b d:β} (e:some (a,b)=some (c,d)):a=c∧b=d:=Prod.mk.inj (Option.some.inj e)
set_option genInjectivity false in
set_option genCtorIdx false in
structure CV where
 heard:AV
 real:AV
 rescue:AV
 roots:AV
 box:AV
abbrev k_1 (v_self:AV):M (Fl Unit) :=
 bd (rt (.bool false)) λ x11=>bd (rt v_self) λ o12=>bd (setA o12 "is_freed" x11) λ _ =>
 rt (.nxt ())
abbrev k_2 (v_self:AV):M (Fl Unit) :=
 bd (rt (.bool false)) λ x9=>bd (rt v_self) λ o10=>bd (setA o10 "is_destroyed" x9) λ _=>k_1 v_self
abbrev k_3 (v_self:AV):M (Fl Unit) :=
 bd (mkL []) λ x7=>bd (rt v_self) λ o8=>bd (setA o8 "weak" x7) λ _=>k_2 v_self
abbrev k_4 (v_self:AV):M (Fl Unit) :=
 bd (rt .none) λ x5=>bd (rt v_self) λ o6=>bd (setA o6 "blessed" x5) λ _=>k_3 v_self
abbrev k_5 (v_self:AV):M (Fl Unit) :=
 bd (rt (.int 0)) λ x3=>bd (rt v_self) λ o4=>bd (setA o4 "count" x3) λ _=>k_4 v_self
abbrev xv (v_self v_number:AV):M (Fl Unit) :=
 bd (rt v_number) λ x1=>bd (rt v_self) λ o2=>bd (setA o2 "number" x1) λ _=>k_5 v_self
noncomputable def ya (v_self v_number:AV):M AV:=fin (xv v_self v_number)
abbrev k_6 (v_self:AV):M (Fl Unit) :=
 bd (rt .none) λ x5=>bd (rt v_self) λ o6=>bd (setA o6 "magic" x5) λ _ =>
 rt (.nxt ())
abbrev k_7 (v_self v_value:AV):M (Fl Unit) :=
 bd (rt v_value) λ x3=>bd (rt v_self) λ o4=>bd (setA o4 "value" x3) λ _=>k_6 v_self
abbrev xc (v_self v_number v_value:AV):M (Fl Unit) :=
 bd (bd (rt v_self) λ a1=>bd (rt v_number) λ a2=>ya a1 a2) λ _=>k_7 v_self v_value
noncomputable def yW (v_self v_number v_value:AV):M AV:=fin (xc v_self v_number v_value)
abbrev k_8 (v_self:AV):M (Fl Unit) :=
 bd (rt .none) λ x5=>bd (rt v_self) λ o6=>bd (setA o6 "tied" x5) λ _ =>
 rt (.nxt ())
abbrev k_9 (v_self:AV):M (Fl Unit) :=
 bd (mkL []) λ x3=>bd (rt v_self) λ o4=>bd (setA o4 "items" x3) λ _=>k_8 v_self
abbrev xw (v_self v_number:AV):M (Fl Unit) :=
 bd (bd (rt v_self) λ a1=>bd (rt v_number) λ a2=>ya a1 a2) λ _=>k_9 v_self
noncomputable def xh (v_self v_number:AV):M AV:=fin (xw v_self v_number)
abbrev KH (v_self:AV):M (Fl Unit) :=
 bd (rt .none) λ x7=>bd (rt v_self) λ o8=>bd (setA o8 "tied" x7) λ _ =>
 rt (.nxt ())
abbrev KI (v_self:AV):M (Fl Unit) :=
 bd (rt (.int 0)) λ x5=>bd (rt v_self) λ o6=>bd (setA o6 "at" x5) λ _=>KH v_self
abbrev KJ (v_self:AV):M (Fl Unit) :=
 bd (al (.dS false [])) λ x3=>bd (rt v_self) λ o4=>bd (setA o4 "table" x3) λ _=>KI v_self
abbrev xI (v_self v_number:AV):M (Fl Unit) :=
 bd (bd (rt v_self) λ a1=>bd (rt v_number) λ a2=>ya a1 a2) λ _=>KJ v_self
noncomputable def xE (v_self v_number:AV):M AV:=fin (xI v_self v_number)
abbrev KL (v_self v_is_weak:AV):M (Fl Unit) :=
 bd (rt v_is_weak) λ x3=>bd (rt v_self) λ o4=>bd (setA o4 "is_weak" x3) λ _ =>
 rt (.nxt ())
abbrev yG (v_self v_target v_is_weak:AV):M (Fl Unit) :=
 bd (rt v_target) λ x1=>bd (rt v_self) λ o2=>bd (setA o2 "target" x1) λ _=>KL v_self v_is_weak
noncomputable def zL (v_self v_target v_is_weak:AV):M AV:=fin (yG v_self v_target v_is_weak)
abbrev KM (v_self:AV):M (Fl Unit) :=
 bd (mkL []) λ x5=>bd (rt v_self) λ o6=>bd (setA o6 "zero" x5) λ _ =>
 rt (.nxt ())
abbrev KN (v_self:AV):M (Fl Unit) :=
 bd (rt (.int 0)) λ x3=>bd (rt v_self) λ o4=>bd (setA o4 "last" x3) λ _=>KM v_self
abbrev wI (v_self v_limits:AV):M (Fl Unit) :=
 bd (rt v_limits) λ x1=>bd (rt v_self) λ o2=>bd (setA o2 "limits" x1) λ _=>KN v_self
noncomputable def xF (v_self v_limits:AV):M AV:=fin (wI v_self v_limits)
abbrev ye (v_self:AV):M (Fl Unit) :=
 bd (rt v_self) λ o1=>bd (getA o1 "last") λ a2=>bd (rt (.int 1)) λ a3=>bd (iaddM a2 a3) λ x4=>bd (setA o1 "last" x4) λ _ =>
 bd (bd (rt v_self) λ a6=>getA a6 "last") λ r5=>rt (.ret r5)
noncomputable def zx (v_self:AV):M AV:=fin (ye v_self)
abbrev yn (v_self v_value:AV):M (Fl Unit) :=
 bd (bd (bd (rt v_self) λ o2=>bd (chk o2 .heap) λ _=>zx o2 ) λ a3=>bd (rt v_value) λ a4=>new .scalar λ o=>yW o a3 a4) λ r1=>rt (.ret r1)
noncomputable def zH (v_self v_value:AV):M AV:=fin (yn v_self v_value)
abbrev yr (v_self:AV):M (Fl Unit) :=
 bd (bd (bd (rt v_self) λ o2=>bd (chk o2 .heap) λ _=>zx o2 ) λ a3=>new .array λ o=>xh o a3) λ r1=>rt (.ret r1)
noncomputable def zW (v_self:AV):M AV:=fin (yr v_self)
abbrev yC (v_self:AV):M (Fl Unit) :=
 bd (bd (bd (rt v_self) λ o2=>bd (chk o2 .heap) λ _=>zx o2 ) λ a3=>new .hash λ o=>xE o a3) λ r1=>rt (.ret r1)
noncomputable def yb (v_self:AV):M AV:=fin (yC v_self)
abbrev KO (v_thing:AV):M (Fl AV) :=
   bd (bd (bd (rt v_thing) λ a4=>getA a4 "table") λ a8=>comp (λ v_key=>[none,some v_key,some v_thing]) a8 (λ v_key=>(rt true)) (λ v_key=>(bd (bd (rt v_thing) λ a7=>getA a7 "table") λ a5=>bd (rt v_key) λ a6=>getI a5 a6))) λ v_held =>
   rt (.nxt v_held)
abbrev KP (v_thing:AV):M (Fl AV) :=
    bd (bd (bd (rt v_thing) λ a12=>isI .glob a12) tru) λ c10=>if c10 then
     fl
    else
     bd (mkL []) λ v_held =>
     rt (.nxt v_held)
abbrev KQ (v_thing:AV):M (Fl AV) :=
  bd (bd (bd (rt v_thing) λ a16=>isI .hash a16) tru) λ c3=>if c3 then KO v_thing
  else
   bd (bd (bd (rt v_thing) λ a14=>isI .code a14) tru) λ c9=>if c9 then
    fl
   else KP v_thing
abbrev KR (v_held:AV):M (Fl Unit) :=
 bd (bd (rt v_held) λ a20=>comp (λ v_one=>[none,some v_one]) a20 (λ v_one=>(bd (bd (rt v_one) λ a19=>isNN a19) tru)) (λ v_one=>(rt v_one))) λ r17=>rt (.ret r17)
abbrev wv (v_thing:AV):M (Fl Unit) :=
 thnG (λ v_held=>[some v_thing,some v_held,none,none,none,none,none]) (bd (bd (bd (rt v_thing) λ a22=>isI .array a22) tru) λ c1=>if c1 then
  bd (bd (rt v_thing) λ a2=>getA a2 "items") λ v_held =>
  rt (.nxt v_held)
 else KQ v_thing) λ v_held=>KR v_held
noncomputable def xQ (v_thing:AV):M AV:=fin (wv v_thing)
abbrev KS (v_thing:AV):M (Fl Unit) :=
   bd (rt (.int 0)) λ x7=>bd (rt v_thing) λ o8=>bd (setA o8 "at" x7) λ _ =>
   rt (.nxt ())
abbrev KT (v_thing:AV):M (Fl Unit) :=
   bd (bd (bd (rt v_thing) λ a14=>isI .code a14) tru) λ c9=>if c9 then
    fl
   else
    bd (bd (bd (rt v_thing) λ a12=>isI .glob a12) tru) λ c10=>if c10 then
     fl
    else
     rt (.nxt ())
abbrev KU (v_thing:AV):M (Fl Unit) :=
  bd (bd (bd (rt v_thing) λ a16=>isI .hash a16) tru) λ c4=>if c4 then
   bd (al (.dS false [])) λ x5=>bd (rt v_thing) λ o6=>bd (setA o6 "table" x5) λ _=>KS v_thing
  else KT v_thing
abbrev xJ (v_thing:AV):M (Fl Unit) :=
 bd (bd (bd (rt v_thing) λ a18=>isI .array a18) tru) λ c1=>if c1 then
  bd (mkL []) λ x2=>bd (rt v_thing) λ o3=>bd (setA o3 "items" x2) λ _ =>
  rt (.nxt ())
 else KU v_thing
noncomputable def y0 (v_thing:AV):M AV:=fin (xJ v_thing)
abbrev KV (v_found v_thing:AV):M (Fl Unit) :=
  bd (andC (bd (bd (bd (rt v_thing) λ a10=>getA a10 "count") λ a8=>bd (rt (.int 0)) λ a9=>eqM a8 a9) tru) (notC (bd (bd (rt v_thing) λ a12=>getA a12 "is_freed") tru))) λ c2=>if c2 then
   bd (rt v_thing) λ x3=>bd (rt v_found) λ o4=>bd (bd (rt v_thing) λ a6=>getA a6 "number") λ k5=>bd (setI o4 k5 x3) λ _ =>
   rt (.nxt ())
  else
   rt (.nxt ())
abbrev KW (v_found:AV):M (Fl Unit) :=
 bd (bd (bd (rt v_found) λ a14=>uL a14) λ a17=>comp (λ v_number=>[none,some v_number,some v_found]) a17 (λ v_number=>(rt true)) (λ v_number=>(bd (rt v_found) λ a15=>bd (rt v_number) λ a16=>getI a15 a16))) λ r13=>rt (.ret r13)
abbrev KX (v_things v_found:AV):M (Fl Unit) :=
 thnG (λ _=>[some v_things,some v_found,none,none]) (bd (rt v_things) λ a1=>forL (λ _=>[some v_things,some v_found,none,none]) a1 () λ _ v_thing=>KV v_found v_thing) λ _=>KW v_found
abbrev xW (v_things:AV):M (Fl Unit) :=
 bd (al (.dI false [])) λ v_found=>KX v_things v_found
noncomputable def xx (v_things:AV):M AV:=fin (xW v_things)
abbrev KY (v_self:AV):M (Fl Unit) :=
 bd (al (.dI false [])) λ x5=>bd (rt v_self) λ o6=>bd (setA o6 "places" x5) λ _ =>
 rt (.nxt ())
abbrev KZ (v_self v_destroy:AV):M (Fl Unit) :=
 bd (rt v_destroy) λ x3=>bd (rt v_self) λ o4=>bd (setA o4 "destroy" x3) λ _=>KY v_self
abbrev xN (v_self v_heap v_destroy:AV):M (Fl Unit) :=
 bd (rt v_heap) λ x1=>bd (rt v_self) λ o2=>bd (setA o2 "heap" x1) λ _=>KZ v_self v_destroy
noncomputable def xy (v_self v_heap v_destroy:AV):M AV:=fin (xN v_self v_heap v_destroy)
abbrev yK (v_self v_thing:AV):M (Fl Unit) :=
 bd (rt v_thing) λ o1=>bd (getA o1 "count") λ a2=>bd (rt (.int 1)) λ a3=>bd (iaddM a2 a3) λ x4=>bd (setA o1 "count" x4) λ _ =>
 rt (.nxt ())
noncomputable def yi (v_self v_thing:AV):M AV:=fin (yK v_self v_thing)
abbrev K1 (v_self v_thing:AV):M (Fl Unit) :=
  bd (bd (bd (bd (rt v_self) λ a8=>getA a8 "heap") λ a7=>getA a7 "zero") λ o6=>bd (chkL o6) λ _=>bd (rt v_thing) λ a9=>appL o6 a9) λ _ =>
  rt (.nxt ())
abbrev K2 (v_self v_thing:AV):M (Fl Unit) :=
 bd (bd (bd (bd (rt v_thing) λ a13=>getA a13 "count") λ a11=>bd (rt (.int 0)) λ a12=>eqM a11 a12) tru) λ c5=>if c5 then K1 v_self v_thing
 else
  rt (.nxt ())
abbrev yt (v_self v_thing:AV):M (Fl Unit) :=
 bd (rt v_thing) λ o1=>bd (getA o1 "count") λ a2=>bd (rt (.int 1)) λ a3=>bd (subM a2 a3) λ x4=>bd (setA o1 "count" x4) λ _=>K2 v_self v_thing
noncomputable def zv (v_self v_thing:AV):M AV:=fin (yt v_self v_thing)
abbrev K3 (v_self v_thing:AV):M (Fl Unit) :=
  bd (bd (bd (bd (rt v_self) λ a4=>getA a4 "heap") λ a3=>getA a3 "zero") λ o2=>bd (chkL o2) λ _=>bd (rt v_thing) λ a5=>appL o2 a5) λ _ =>
  rt (.nxt ())
abbrev yL (v_self v_thing:AV):M (Fl Unit) :=
 bd (bd (bd (bd (rt v_thing) λ a9=>getA a9 "count") λ a7=>bd (rt (.int 0)) λ a8=>eqM a7 a8) tru) λ c1=>if c1 then K3 v_self v_thing
 else
  rt (.nxt ())
noncomputable def yj (v_self v_thing:AV):M AV:=fin (yL v_self v_thing)
abbrev K4 (v_self v_value:AV):M (Fl Unit) :=
 thnG (λ _=>[some v_self,some v_value,none,none]) (bd (bd (bd (rt v_value) λ a12=>getA a12 "is_weak") tru) λ c6=>if c6 then
  bd (bd (bd (rt v_value) λ a8=>getA a8 "target") λ a9=>new .ref λ o=>zL o a9 (.bool false)) λ r7=>rt (.ret r7)
 else
  rt (.nxt ())) λ _ =>
 bd (rt v_value) λ r10=>rt (.ret r10)
abbrev K5 (v_self v_value:AV):M (Fl Unit) :=
 bd (bd (rt v_self) λ o3=>bd (chk o3 .counter) λ _=>bd (bd (rt v_value) λ a4=>getA a4 "target") λ a5=>yi o3 a5) λ _=>K4 v_self v_value
abbrev yM (v_self v_value:AV):M (Fl Unit) :=
 thnG (λ _=>[some v_self,some v_value,none,none]) (bd (notC (bd (bd (rt v_value) λ a14=>isI .ref a14) tru)) λ c1=>if c1 then
  bd (rt v_value) λ r2=>rt (.ret r2)
 else
  rt (.nxt ())) λ _=>K5 v_self v_value
noncomputable def zX (v_self v_value:AV):M AV:=fin (yM v_self v_value)
abbrev K6 (v_scalar v_value:AV):M (Fl Unit) :=
  bd (bd (bd (bd (rt v_value) λ a6=>getA a6 "target") λ a5=>getA a5 "weak") λ a12=>comp (λ v_one=>[none,some v_one,some v_scalar]) a12 (λ v_one=>(bd (bd (bd (rt v_one) λ a10=>getA a10 "number") λ a8=>bd (bd (rt v_scalar) λ a11=>getA a11 "number") λ a9=>neM a8 a9) tru)) (λ v_one=>(rt v_one))) λ x3=>bd (bd (rt v_value) λ a13=>getA a13 "target") λ o4=>bd (setA o4 "weak" x3) λ _ =>
  rt (.nxt ())
abbrev K7 (v_self v_value:AV):M (Fl Unit) :=
  bd (bd (rt v_self) λ o14=>bd (chk o14 .counter) λ _=>bd (bd (rt v_value) λ a15=>getA a15 "target") λ a16=>zv o14 a16) λ _ =>
  rt (.nxt ())
abbrev K8 (v_self v_scalar v_value:AV):M (Fl Unit) :=
 bd (bd (bd (rt v_value) λ a18=>getA a18 "is_weak") tru) λ c2=>if c2 then K6 v_scalar v_value
 else K7 v_self v_value
abbrev yo (v_self v_scalar v_value:AV):M (Fl Unit) :=
 thnG (λ _=>[some v_self,some v_scalar,some v_value,none,none]) (bd (notC (bd (bd (rt v_value) λ a20=>isI .ref a20) tru)) λ c1=>if c1 then
  rt (.ret .none)
 else
  rt (.nxt ())) λ _=>K8 v_self v_scalar v_value
noncomputable def zI (v_self v_scalar v_value:AV):M AV:=fin (yo v_self v_scalar v_value)
abbrev K9 (v_self v_scalar v_old:AV):M (Fl Unit) :=
 bd (bd (rt v_self) λ o12=>bd (chk o12 .counter) λ _=>bd (rt v_scalar) λ a13=>bd (rt v_old) λ a14=>zI o12 a13 a14) λ _ =>
 rt (.nxt ())
abbrev Ha (v_self v_scalar v_value v_old:AV):M (Fl Unit) :=
 bd (bd (rt v_self) λ o10=>bd (chk o10 .counter) λ _=>bd (rt v_value) λ a11=>zX o10 a11) λ x8=>bd (rt v_scalar) λ o9=>bd (setA o9 "value" x8) λ _=>K9 v_self v_scalar v_old
abbrev Hb (v_self v_scalar v_value:AV):M (Fl Unit) :=
 bd (bd (rt v_scalar) λ a7=>getA a7 "value") λ v_old=>Ha v_self v_scalar v_value v_old
abbrev Hc (v_self v_scalar v_value:AV):M (Fl Unit) :=
 thnG (λ _=>[some v_self,some v_scalar,some v_value,none]) (bd (bd (bd (bd (rt v_scalar) λ a17=>getA a17 "magic") λ a16=>isNN a16) tru) λ c6=>if c6 then
  fl
 else
  rt (.nxt ())) λ _=>Hb v_self v_scalar v_value
abbrev yD (v_self v_scalar v_value:AV):M (Fl Unit) :=
 bd (bd (bd (rt v_self) λ a2=>getA a2 "places") λ o1=>bd (chkD o1) λ _=>bd (bd (rt v_scalar) λ a3=>getA a3 "number") λ a4=>bd (rt .none) λ a5=>dpop2 o1 a4 a5) λ _=>Hc v_self v_scalar v_value
noncomputable def zz (v_self v_scalar v_value:AV):M AV:=fin (yD v_self v_scalar v_value)
abbrev Hd (v_scalar:AV):M (Fl Unit) :=
 bd (rt (.int 1)) λ x6=>bd (rt v_scalar) λ o7=>bd (setA o7 "count" x6) λ _ =>
 bd (rt v_scalar) λ r8=>rt (.ret r8)
abbrev yE (v_self v_value:AV):M (Fl Unit) :=
 bd (bd (bd (rt v_self) λ a2=>getA a2 "heap") λ o1=>bd (chk o1 .heap) λ _=>bd (bd (rt v_self) λ o3=>bd (chk o3 .counter) λ _=>bd (rt v_value) λ a4=>zX o3 a4) λ a5=>zH o1 a5) λ v_scalar=>Hd v_scalar
noncomputable def zQ (v_self v_value:AV):M AV:=fin (yE v_self v_value)
abbrev yN (v_self v_scalar:AV):M (Fl Unit) :=
 bd (bd (rt v_self) λ o1=>bd (chk o1 .counter) λ _=>bd (rt v_scalar) λ a2=>zv o1 a2) λ _ =>
 rt (.nxt ())
noncomputable def zO (v_self v_scalar:AV):M AV:=fin (yN v_self v_scalar)
abbrev He (v_counter v_target:AV):M (Fl Unit) :=
 bd (bd (rt v_counter) λ o11=>bd (chk o11 .counter) λ _=>bd (rt v_target) λ a12=>zv o11 a12) λ _ =>
 rt (.nxt ())
abbrev Hf (v_counter v_scalar v_target:AV):M (Fl Unit) :=
 bd (bd (bd (rt v_target) λ a9=>getA a9 "weak") λ o8=>bd (chkL o8) λ _=>bd (rt v_scalar) λ a10=>appL o8 a10) λ _=>He v_counter v_target
abbrev Hg (v_counter v_scalar v_target:AV):M (Fl Unit) :=
 bd (bd (rt v_target) λ a6=>bd (rt (.bool true)) λ a7=>new .ref λ o=>zL o a6 a7) λ x4=>bd (rt v_scalar) λ o5=>bd (setA o5 "value" x4) λ _=>Hf v_counter v_scalar v_target
abbrev Hh (v_counter v_scalar:AV):M (Fl Unit) :=
 bd (bd (bd (rt v_scalar) λ a3=>getA a3 "value") λ a2=>getA a2 "target") λ v_target=>Hg v_counter v_scalar v_target
abbrev yF (v_counter v_scalar:AV):M (Fl Unit) :=
 thnG (λ _=>[some v_counter,some v_scalar,none,none,none]) (bd (orC (notC (bd (bd (bd (rt v_scalar) λ a15=>getA a15 "value") λ a14=>isI .ref a14) tru)) (bd (bd (bd (rt v_scalar) λ a18=>getA a18 "value") λ a17=>getA a17 "is_weak") tru)) λ c1=>if c1 then
  rt (.ret .none)
 else
  rt (.nxt ())) λ _=>Hh v_counter v_scalar
noncomputable def yc (v_counter v_scalar:AV):M AV:=fin (yF v_counter v_scalar)
abbrev xd (v_thing v_package:AV):M (Fl Unit) :=
 bd (rt v_package) λ x1=>bd (rt v_thing) λ o2=>bd (setA o2 "blessed" x1) λ _ =>
 rt (.nxt ())
noncomputable def yp (v_thing v_package:AV):M AV:=fin (xd v_thing v_package)
abbrev Hi (v_self v_items:AV):M (Fl Unit) :=
 bd (rt v_items) λ x9=>bd (rt v_self) λ o10=>bd (setA o10 "items" x9) λ _ =>
 rt (.nxt ())
abbrev Hj (v_self v_text v_items:AV):M (Fl Unit) :=
 bd (rt v_text) λ x7=>bd (rt v_self) λ o8=>bd (setA o8 "text" x7) λ _=>Hi v_self v_items
abbrev Hk (v_self v_steps v_text v_items:AV):M (Fl Unit) :=
 bd (rt v_steps) λ x5=>bd (rt v_self) λ o6=>bd (setA o6 "steps" x5) λ _=>Hj v_self v_text v_items
abbrev Hl (v_self v_depth v_steps v_text v_items:AV):M (Fl Unit) :=
 bd (rt v_depth) λ x3=>bd (rt v_self) λ o4=>bd (setA o4 "depth" x3) λ _=>Hk v_self v_steps v_text v_items
abbrev xX (v_self v_width v_depth v_steps v_text v_items:AV):M (Fl Unit) :=
 bd (rt v_width) λ x1=>bd (rt v_self) λ o2=>bd (setA o2 "width" x1) λ _=>Hl v_self v_depth v_steps v_text v_items
noncomputable def yX (v_self v_width v_depth v_steps v_text v_items:AV):M AV:=fin (xX v_self v_width v_depth v_steps v_text v_items)
abbrev Hm (cv:CV) (v_thing:AV):M (Fl Unit) :=
  bd (bd (bd (rt cv.box) λ a6=>bd (rt (.int 0)) λ a7=>getI a6 a7) λ o5=>bd (chk o5 .counter) λ _=>bd (bd (rt cv.real) λ a8=>bd (bd (rt cv.roots) λ a10=>bd (bd (bd (rt v_thing) λ a14=>getA a14 "number") λ a12=>bd (rt (.int 4)) λ a13=>modM a12 a13) λ a11=>getI a10 a11) λ a9=>getI a8 a9) λ a16=>bd (bd (rt v_thing) λ a15=>new .ref λ o=>zL o a15 (.bool false)) λ a17=>zz o5 a16 a17) λ _ =>
  rt (.nxt ())
abbrev Hn (cv:CV) (v_thing:AV):M (Fl Unit) :=
 bd (andC (bd (bd (bd (bd (rt v_thing) λ a23=>getA a23 "number") λ a21=>bd (rt (.int 3)) λ a22=>modM a21 a22) λ a19=>bd (rt cv.rescue) λ a20=>eqM a19 a20) tru) (bd (bd (rt cv.roots) λ a25=>bd (mkL []) λ a26=>neM a25 a26) tru)) λ c4=>if c4 then Hm cv v_thing
 else
  rt (.nxt ())
abbrev ww (cv:CV) (v_thing:AV):M (Fl Unit) :=
 bd (bd (rt cv.heard) λ o1=>bd (chkL o1) λ _=>bd (bd (rt v_thing) λ a2=>getA a2 "number") λ a3=>appL o1 a3) λ _=>Hn cv v_thing
noncomputable def vf (cv:CV) (v_thing:AV):M AV:=fin (ww cv v_thing)
noncomputable def callD (cv:CV) (d a:AV):M AV:=match d with
 | .dstr=>vf cv a
 | _=>fl
abbrev Ho (v_thing:AV):M (Fl Unit) :=
 bd (rt v_thing) λ o11=>bd (getA o11 "count") λ a12=>bd (rt (.int 1)) λ a13=>bd (subM a12 a13) λ x14=>bd (setA o11 "count" x14) λ _ =>
 rt (.nxt ())
abbrev Hp (cv:CV) (v_self v_thing:AV):M (Fl Unit) :=
 bd (bd (rt v_self) λ o8=>bd (getA o8 "destroy") λ d9=>bd (rt v_thing) λ a10=>callD cv d9 a10) λ _=>Ho v_thing
abbrev Hq (cv:CV) (v_self v_thing:AV):M (Fl Unit) :=
 bd (rt v_thing) λ o4=>bd (getA o4 "count") λ a5=>bd (rt (.int 1)) λ a6=>bd (iaddM a5 a6) λ x7=>bd (setA o4 "count" x7) λ _=>Hp cv v_self v_thing
abbrev Hr (cv:CV) (v_self v_thing:AV):M (Fl Unit) :=
 bd (rt (.bool true)) λ x2=>bd (rt v_thing) λ o3=>bd (setA o3 "is_destroyed" x2) λ _=>Hq cv v_self v_thing
abbrev yu (cv:CV) (v_self v_thing:AV):M (Fl Unit) :=
 thnG (λ _=>[some v_self,some v_thing]) (bd (orC (bd (bd (bd (rt v_thing) λ a18=>getA a18 "count") λ a16=>bd (rt (.int 0)) λ a17=>neM a16 a17) tru) (orC (bd (bd (bd (rt v_thing) λ a21=>getA a21 "blessed") λ a20=>isN a20) tru) (orC (bd (bd (rt v_thing) λ a23=>getA a23 "is_destroyed") tru) (bd (bd (bd (rt v_self) λ a26=>getA a26 "destroy") λ a25=>isN a25) tru)))) λ c1=>if c1 then
  rt (.ret .none)
 else
  rt (.nxt ())) λ _=>Hr cv v_self v_thing
noncomputable def zY (cv:CV) (v_self v_thing:AV):M AV:=fin (yu cv v_self v_thing)
abbrev Hs (v_scalar:AV):M (Fl Unit) :=
  bd (rt .none) λ x5=>bd (rt v_scalar) λ o6=>bd (setA o6 "value" x5) λ _ =>
  rt (.nxt ())
abbrev Ht (v_self v_thing v_old:AV):M (Fl Unit) :=
  bd (bd (rt v_self) λ o18=>bd (chk o18 .counter) λ _=>bd (rt v_thing) λ a19=>bd (rt v_old) λ a20=>zI o18 a19 a20) λ _ =>
  rt (.nxt ())
abbrev Hu (v_self v_thing v_old:AV):M (Fl Unit) :=
  bd (rt .none) λ x16=>bd (rt v_thing) λ o17=>bd (setA o17 "value" x16) λ _=>Ht v_self v_thing v_old
abbrev Hv (v_self v_thing:AV):M (Fl Unit) :=
  bd (bd (rt v_thing) λ a15=>getA a15 "value") λ v_old=>Hu v_self v_thing v_old
abbrev Hw (v_self v_thing:AV):M (Fl Unit) :=
  bd (bd (bd (rt v_self) λ a11=>getA a11 "places") λ o10=>bd (chkD o10) λ _=>bd (bd (rt v_thing) λ a12=>getA a12 "number") λ a13=>bd (rt .none) λ a14=>dpop2 o10 a13 a14) λ _=>Hv v_self v_thing
abbrev UO (v_self v_one:AV):M (Fl Unit) :=
  bd (bd (rt v_self) λ o24=>bd (chk o24 .counter) λ _=>bd (rt v_one) λ a25=>zv o24 a25) λ _ =>
  rt (.nxt ())
abbrev Hx (v_self v_thing v_gone:AV):M (Fl Unit) :=
 thnG (λ _=>[some v_self,some v_thing,none,none,some v_gone,none,none,none,none,none]) (bd (rt v_gone) λ a23=>forL (λ _=>[some v_self,some v_thing,none,none,some v_gone,none,none,none,none,none]) a23 () λ _ v_one=>UO v_self v_one) λ _ =>
 rt (.nxt ())
abbrev Hy (v_self v_thing v_gone:AV):M (Fl Unit) :=
 bd (bd (rt v_thing) λ a22=>y0 a22) λ _=>Hx v_self v_thing v_gone
abbrev Hz (v_self v_thing:AV):M (Fl Unit) :=
 bd (bd (rt v_thing) λ a21=>xQ a21) λ v_gone=>Hy v_self v_thing v_gone
abbrev HA (v_self v_thing:AV):M (Fl Unit) :=
 thnG (λ _=>[some v_self,some v_thing,none,none,none,none,none,none,none,none]) (bd (bd (bd (rt v_thing) λ a27=>isI .scalar a27) tru) λ c9=>if c9 then Hw v_self v_thing
 else
  rt (.nxt ())) λ _=>Hz v_self v_thing
abbrev HB (v_self v_thing:AV):M (Fl Unit) :=
 bd (mkL []) λ x7=>bd (rt v_thing) λ o8=>bd (setA o8 "weak" x7) λ _=>HA v_self v_thing
abbrev HC (v_self v_thing:AV):M (Fl Unit) :=
 thnG (λ _=>[some v_self,some v_thing,none,none,none,none,none,none,none,none]) (bd (bd (rt v_thing) λ a4=>getA a4 "weak") λ a3=>forL (λ _=>[some v_self,some v_thing,none,none,none,none,none,none,none,none]) a3 () λ _ v_scalar=>Hs v_scalar) λ _=>HB v_self v_thing
abbrev yO (v_self v_thing:AV):M (Fl Unit) :=
 bd (rt (.bool true)) λ x1=>bd (rt v_thing) λ o2=>bd (setA o2 "is_freed" x1) λ _=>HC v_self v_thing
noncomputable def yk (v_self v_thing:AV):M AV:=fin (yO v_self v_thing)
abbrev UP (cv:CV) (v_self v_thing:AV):M (Fl Unit) :=
   bd (bd (rt v_self) λ o20=>bd (chk o20 .counter) λ _=>bd (rt v_thing) λ a21=>zY cv o20 a21) λ _ =>
   rt (.nxt ())
abbrev UQ (v_self v_thing:AV):M (Fl Unit) :=
   bd (andC (bd (bd (bd (rt v_thing) λ a29=>getA a29 "count") λ a27=>bd (rt (.int 0)) λ a28=>eqM a27 a28) tru) (notC (bd (bd (rt v_thing) λ a31=>getA a31 "is_freed") tru))) λ c23=>if c23 then
    bd (bd (rt v_self) λ o24=>bd (chk o24 .counter) λ _=>bd (rt v_thing) λ a25=>yk o24 a25) λ _ =>
    rt (.nxt ())
   else
    rt (.nxt ())
abbrev HD (v_self v_start v_dying:AV):M (Fl Unit) :=
  thnG (λ _=>[some v_self,some v_start,some v_dying,none,none,none]) (bd (rt v_dying) λ a22=>forL (λ _=>[some v_self,some v_start,some v_dying,none,none,none]) a22 () λ _ v_thing=>UQ v_self v_thing) λ _ =>
  rt (.nxt ())
abbrev HE (cv:CV) (v_self v_start v_dying:AV):M (Fl Unit) :=
  thnG (λ _=>[some v_self,some v_start,some v_dying,none,none,none]) (bd (rt v_dying) λ a19=>forL (λ _=>[some v_self,some v_start,some v_dying,none,none,none]) a19 () λ _ v_thing=>UP cv v_self v_thing) λ _=>HD v_self v_start v_dying
abbrev HF (cv:CV) (v_self v_start v_dying:AV):M (Fl Unit) :=
  bd (bd (bd (bd (rt v_self) λ a17=>getA a17 "heap") λ a16=>getA a16 "zero") λ a14=>bd (rt v_start) λ a15=>slTo a14 a15) λ x12=>bd (bd (rt v_self) λ a18=>getA a18 "heap") λ o13=>bd (setA o13 "zero" x12) λ _=>HE cv v_self v_start v_dying
abbrev Wi (cv:CV) (v_self v_start:AV):M (Fl Unit) :=
  bd (bd (bd (bd (bd (rt v_self) λ a10=>getA a10 "heap") λ a9=>getA a9 "zero") λ a7=>bd (rt v_start) λ a8=>slFrom a7 a8) λ a11=>xx a11) λ v_dying=>HF cv v_self v_start v_dying
abbrev yv (cv:CV) (v_self v_start:AV):M (Fl Unit) :=
 thnG (λ _=>[some v_self,some v_start,none,none,none,none]) (whl [some v_self,some v_start,none,none,none,none] 1000 (bd (bd (bd (bd (bd (rt v_self) λ a6=>getA a6 "heap") λ a5=>getA a5 "zero") λ a4=>lenM a4) λ a2=>bd (rt v_start) λ a3=>gtM a2 a3) tru) (Wi cv v_self v_start)) λ _ =>
 rt (.nxt ())
noncomputable def zN (cv:CV) (v_self v_start:AV):M AV:=fin (yv cv v_self v_start)
abbrev HG (v_degrees v_number:AV):M (Fl Unit) :=
  bd (bd (bd (rt v_degrees) λ o6=>bd (chkD o6) λ _=>bd (rt v_number) λ a7=>bd (rt (.int 0)) λ a8=>dget2 o6 a7 a8) λ a4=>bd (rt (.int 1)) λ a5=>addM a4 a5) λ x2=>bd (rt v_degrees) λ o3=>bd (rt v_number) λ k9=>bd (setI o3 k9 x2) λ _ =>
  rt (.nxt ())
abbrev HH (v_inner v_goals:AV):M (Fl AV) :=
   bd (bd (rt v_inner) λ a20=>comp (λ v_pair=>[none,some v_pair]) a20 (λ v_pair=>(rt true)) (λ v_pair=>(bd (rt v_pair) λ a18=>bd (rt (.int 1)) λ a19=>getI a18 a19))) λ v_goals =>
   rt (.nxt v_goals)
abbrev UR (v_degrees v_goal:AV):M (Fl Unit) :=
   bd (bd (bd (rt v_degrees) λ o26=>bd (chkD o26) λ _=>bd (rt v_goal) λ a27=>bd (rt (.int 0)) λ a28=>dget2 o26 a27 a28) λ a24=>bd (rt (.int 1)) λ a25=>addM a24 a25) λ x22=>bd (rt v_degrees) λ o23=>bd (rt v_goal) λ k29=>bd (setI o23 k29 x22) λ _ =>
   rt (.nxt ())
abbrev HI (v_world v_roots v_degrees v_row v_inner v_goals:AV):M (Fl Unit) :=
  thnG (λ _=>[some v_world,some v_roots,some v_degrees,none,some v_row,some v_inner,some v_goals,none,none,none]) (bd (rt v_goals) λ a21=>forL (λ _=>[some v_world,some v_roots,some v_degrees,none,some v_row,some v_inner,some v_goals,none,none,none]) a21 () λ _ v_goal=>UR v_degrees v_goal) λ _ =>
  rt (.nxt ())
abbrev HJ (v_world v_roots v_degrees v_row v_inner v_goals:AV):M (Fl Unit) :=
  thnG (λ v_goals=>[some v_world,some v_roots,some v_degrees,none,some v_row,some v_inner,some v_goals,none,none,none]) (bd (bd (bd (bd (rt v_row) λ a33=>bd (rt (.int 0)) λ a34=>getI a33 a34) λ a31=>bd (rt (.str "H")) λ a32=>eqM a31 a32) tru) λ c17=>if c17 then HH v_inner v_goals
  else
   rt (.nxt v_goals)) λ v_goals=>HI v_world v_roots v_degrees v_row v_inner v_goals
abbrev HK (v_world v_roots v_degrees v_row v_inner v_goals:AV):M (Fl Unit) :=
  thnG (λ v_goals=>[some v_world,some v_roots,some v_degrees,none,some v_row,some v_inner,some v_goals,none,none,none]) (bd (bd (bd (bd (rt v_row) λ a38=>bd (rt (.int 0)) λ a39=>getI a38 a39) λ a36=>bd (rt (.str "A")) λ a37=>eqM a36 a37) tru) λ c16=>if c16 then
   bd (rt v_inner) λ v_goals =>
   rt (.nxt v_goals)
  else
   rt (.nxt v_goals)) λ v_goals=>HJ v_world v_roots v_degrees v_row v_inner v_goals
abbrev HL (v_world v_roots v_degrees v_row v_inner v_goals:AV):M (Fl Unit) :=
  thnG (λ v_goals=>[some v_world,some v_roots,some v_degrees,none,some v_row,some v_inner,some v_goals,none,none,none]) (bd (andC (bd (bd (bd (rt v_row) λ a43=>bd (rt (.int 0)) λ a44=>getI a43 a44) λ a41=>bd (rt (.str "S")) λ a42=>eqM a41 a42) tru) (andC (bd (bd (rt v_inner) λ a46=>isT a46) tru) (bd (bd (bd (rt v_inner) λ a50=>bd (rt (.int 0)) λ a51=>getI a50 a51) λ a48=>bd (rt (.str "ref")) λ a49=>eqM a48 a49) tru))) λ c13=>if c13 then
   bd (mkL [(bd (rt v_inner) λ a14=>bd (rt (.int 1)) λ a15=>getI a14 a15)]) λ v_goals =>
   rt (.nxt v_goals)
  else
   rt (.nxt v_goals)) λ v_goals=>HK v_world v_roots v_degrees v_row v_inner v_goals
abbrev HM (v_world v_roots v_degrees v_row v_inner:AV):M (Fl Unit) :=
  bd (mkL []) λ v_goals=>HL v_world v_roots v_degrees v_row v_inner v_goals
abbrev HN (v_world v_roots v_degrees v_row:AV):M (Fl Unit) :=
  bd (bd (rt v_row) λ a11=>bd (rt (.int 3)) λ a12=>getI a11 a12) λ v_inner=>HM v_world v_roots v_degrees v_row v_inner
abbrev HO (v_world v_roots v_degrees:AV):M (Fl Unit) :=
 thnG (λ _=>[some v_world,some v_roots,some v_degrees,none,none,none,none,none,none,none]) (bd (rt v_world) λ a10=>forV (λ _=>[some v_world,some v_roots,some v_degrees,none,none,none,none,none,none,none]) a10 () λ _ v_row=>HN v_world v_roots v_degrees v_row) λ _ =>
 bd (rt v_degrees) λ r52=>rt (.ret r52)
abbrev HP (v_world v_roots v_degrees:AV):M (Fl Unit) :=
 thnG (λ _=>[some v_world,some v_roots,some v_degrees,none,none,none,none,none,none,none]) (bd (rt v_roots) λ a1=>forL (λ _=>[some v_world,some v_roots,some v_degrees,none,none,none,none,none,none,none]) a1 () λ _ v_number=>HG v_degrees v_number) λ _=>HO v_world v_roots v_degrees
abbrev xe (v_world v_roots:AV):M (Fl Unit) :=
 bd (al (.dI false [])) λ v_degrees=>HP v_world v_roots v_degrees
noncomputable def zM (v_world v_roots:AV):M AV:=fin (xe v_world v_roots)
abbrev HQ (v_world v_roots v_number:AV):M (Fl Unit) :=
     bd (mkT [(rt (.str "ref")),(rt v_number)]) λ x22=>bd (bd (rt v_world) λ a25=>bd (bd (rt v_roots) λ a27=>bd (bd (rt v_number) λ a29=>bd (rt (.int 4)) λ a30=>modM a29 a30) λ a28=>getI a27 a28) λ a26=>getI a25 a26) λ o23=>bd (rt (.int 3)) λ k24=>bd (setI o23 k24 x22) λ _ =>
     rt (.nxt ())
abbrev HR (v_world v_roots v_rescue v_number:AV):M (Fl Unit) :=
    bd (andC (bd (bd (bd (rt v_number) λ a34=>bd (rt (.int 3)) λ a35=>modM a34 a35) λ a32=>bd (rt v_rescue) λ a33=>eqM a32 a33) tru) (bd (bd (rt v_roots) λ a37=>bd (mkL []) λ a38=>neM a37 a38) tru)) λ c21=>if c21 then HQ v_world v_roots v_number
    else
     rt (.nxt ())
abbrev HS (v_world v_roots v_log v_rescue v_number:AV):M (Fl Unit) :=
    bd (bd (rt v_log) λ o19=>bd (chkL o19) λ _=>bd (rt v_number) λ a20=>appL o19 a20) λ _=>HR v_world v_roots v_rescue v_number
abbrev HT (v_world v_roots v_log v_rescue v_number v_row:AV):M (Fl Unit) :=
    bd (rt (.bool true)) λ x16=>bd (rt v_row) λ o17=>bd (rt (.int 2)) λ k18=>bd (setI o17 k18 x16) λ _=>HS v_world v_roots v_log v_rescue v_number
abbrev HU (v_world v_roots v_log v_rescue v_number v_row:AV):M (Fl Unit) :=
   bd (andC (bd (bd (rt v_row) λ a40=>bd (rt (.int 1)) λ a41=>getI a40 a41) tru) (andC (notC (bd (bd (rt v_row) λ a43=>bd (rt (.int 2)) λ a44=>getI a43 a44) tru)) (bd (bd (bd (bd (rt v_world) λ a49=>bd (rt v_roots) λ a50=>zM a49 a50) λ o48=>bd (chkD o48) λ _=>bd (rt v_number) λ a51=>bd (rt (.int 0)) λ a52=>dget2 o48 a51 a52) λ a46=>bd (rt (.int 0)) λ a47=>eqM a46 a47) tru))) λ c15=>if c15 then HT v_world v_roots v_log v_rescue v_number v_row
   else
    rt (.nxt ())
abbrev US (v_world v_roots v_log v_rescue v_number:AV):M (Fl Unit) :=
   bd (bd (rt v_world) λ a13=>bd (rt v_number) λ a14=>getI a13 a14) λ v_row=>HU v_world v_roots v_log v_rescue v_number v_row
abbrev HV (v_number v_row:AV):M (Fl Unit) :=
    bd (bd (bd (bd (rt v_row) λ a73=>bd (rt (.int 3)) λ a74=>getI a73 a74) λ a71=>bd (mkT [(rt (.str "weak")),(rt v_number)]) λ a72=>eqM a71 a72) tru) λ c66=>if c66 then
     bd (rt .none) λ x67=>bd (rt v_row) λ o68=>bd (rt (.int 3)) λ k69=>bd (setI o68 k69 x67) λ _ =>
     rt (.nxt ())
    else
     rt (.nxt ())
abbrev HW (v_world v_roots v_log v_rescue v_degrees v_dying v_number:AV):M (Fl Unit) :=
   thnG (λ _=>[some v_world,some v_roots,some v_log,some v_rescue,some v_degrees,some v_number,some v_dying,none,none,none]) (bd (rt v_world) λ a65=>forV (λ _=>[some v_world,some v_roots,some v_log,some v_rescue,some v_degrees,some v_number,some v_dying,none,none,none]) a65 () λ _ v_row=>HV v_number v_row) λ _ =>
   rt (.nxt ())
abbrev UT (v_world v_roots v_log v_rescue v_degrees v_dying v_number:AV):M (Fl Unit) :=
   bd (bd (rt v_world) λ o63=>bd (chkD o63) λ _=>bd (rt v_number) λ a64=>dpop1 o63 a64) λ _=>HW v_world v_roots v_log v_rescue v_degrees v_dying v_number
abbrev HX (v_world v_roots v_log v_rescue v_degrees v_dying:AV):M (Fl Unit) :=
  thnG (λ _=>[some v_world,some v_roots,some v_log,some v_rescue,some v_degrees,none,some v_dying,none,none,none]) (bd (bd (rt v_dying) λ a62=>comp (λ v_one=>[none,some v_one,some v_degrees]) a62 (λ v_one=>(bd (bd (bd (rt v_degrees) λ o59=>bd (chkD o59) λ _=>bd (rt v_one) λ a60=>bd (rt (.int 0)) λ a61=>dget2 o59 a60 a61) λ a57=>bd (rt (.int 0)) λ a58=>eqM a57 a58) tru)) (λ v_one=>(rt v_one))) λ a55=>forL (λ _=>[some v_world,some v_roots,some v_log,some v_rescue,some v_degrees,none,some v_dying,none,none,none]) a55 () λ _ v_number=>UT v_world v_roots v_log v_rescue v_degrees v_dying v_number) λ _ =>
  rt (.nxt ())
abbrev HY (v_world v_roots v_log v_rescue v_degrees v_dying:AV):M (Fl Unit) :=
  bd (bd (rt v_world) λ a53=>bd (rt v_roots) λ a54=>zM a53 a54) λ v_degrees=>HX v_world v_roots v_log v_rescue v_degrees v_dying
abbrev HZ (v_world v_roots v_log v_rescue v_degrees v_dying:AV):M (Fl Unit) :=
  thnG (λ _=>[some v_world,some v_roots,some v_log,some v_rescue,some v_degrees,none,some v_dying,none,none,none]) (bd (rt v_dying) λ a12=>forL (λ _=>[some v_world,some v_roots,some v_log,some v_rescue,some v_degrees,none,some v_dying,none,none,none]) a12 () λ _ v_number=>US v_world v_roots v_log v_rescue v_number) λ _=>HY v_world v_roots v_log v_rescue v_degrees v_dying
abbrev H0 (v_world v_roots v_log v_rescue v_degrees v_dying:AV):M (Fl Unit) :=
  thnG (λ _=>[some v_world,some v_roots,some v_log,some v_rescue,some v_degrees,none,some v_dying,none,none,none]) (bd (bd (bd (rt v_dying) λ a76=>bd (mkL []) λ a77=>eqM a76 a77) tru) λ c11=>if c11 then
   rt (.ret .none)
  else
   rt (.nxt ())) λ _=>HZ v_world v_roots v_log v_rescue v_degrees v_dying
abbrev H1 (v_world v_roots v_log v_rescue v_degrees:AV):M (Fl Unit) :=
  bd (bd (bd (rt v_world) λ a10=>comp (λ v_number=>[none,some v_number,some v_degrees]) a10 (λ v_number=>(bd (bd (bd (rt v_degrees) λ o7=>bd (chkD o7) λ _=>bd (rt v_number) λ a8=>bd (rt (.int 0)) λ a9=>dget2 o7 a8 a9) λ a5=>bd (rt (.int 0)) λ a6=>eqM a5 a6) tru)) (λ v_number=>(rt v_number))) λ a3=>vF a3) λ v_dying=>H0 v_world v_roots v_log v_rescue v_degrees v_dying
abbrev H2 (v_world v_roots v_log v_rescue:AV):M (Fl Unit) :=
  bd (bd (rt v_world) λ a1=>bd (rt v_roots) λ a2=>zM a1 a2) λ v_degrees=>H1 v_world v_roots v_log v_rescue v_degrees
abbrev xf (v_world v_roots v_log v_rescue:AV):M (Fl Unit) :=
 thnG (λ _=>[some v_world,some v_roots,some v_log,some v_rescue,none,none,none,none,none,none]) (whl [some v_world,some v_roots,some v_log,some v_rescue,none,none,none,none,none,none] 1000 (bd (rt (.bool true)) tru) (H2 v_world v_roots v_log v_rescue)) λ _ =>
 rt (.nxt ())
noncomputable def yd (v_world v_roots v_log v_rescue:AV):M AV:=fin (xf v_world v_roots v_log v_rescue)
abbrev H3 (v_value:AV):M (Fl Unit) :=
  bd (mkT [(iteV (bd (bd (rt v_value) λ a4=>getA a4 "is_weak") tru) (rt (.str "weak")) (rt (.str "ref"))),(bd (bd (rt v_value) λ a6=>getA a6 "target") λ a5=>getA a5 "number")]) λ r2=>rt (.ret r2)
abbrev xK (v_value:AV):M (Fl Unit) :=
 thnG (λ _=>[some v_value,none,none]) (bd (bd (bd (rt v_value) λ a9=>isI .ref a9) tru) λ c1=>if c1 then H3 v_value
 else
  rt (.nxt ())) λ _ =>
 bd (rt v_value) λ r7=>rt (.ret r7)
noncomputable def y7 (v_value:AV):M AV:=fin (xK v_value)
abbrev JV (v_thing:AV):M (Fl AV) :=
    bd (bd (bd (rt v_thing) λ a15=>getA a15 "items") λ a17=>comp (λ v_one=>[none,some v_one]) a17 (λ v_one=>(rt true)) (λ v_one=>(bd (rt v_one) λ a16=>getA a16 "number"))) λ v_told =>
    rt (.nxt v_told)
abbrev JW (v_thing:AV):M (Fl AV) :=
    bd (bd (bd (rt v_thing) λ a18=>getA a18 "table") λ a23=>comp (λ v_key=>[none,some v_key,some v_thing]) a23 (λ v_key=>(rt true)) (λ v_key=>(mkL [(rt v_key),(bd (bd (bd (rt v_thing) λ a22=>getA a22 "table") λ a20=>bd (rt v_key) λ a21=>getI a20 a21) λ a19=>getA a19 "number")]))) λ v_told =>
    rt (.nxt v_told)
abbrev JX (v_thing v_row:AV):M (Fl AV) :=
   bd (bd (bd (bd (rt v_row) λ a27=>bd (rt (.int 0)) λ a28=>getI a27 a28) λ a25=>bd (rt (.str "A")) λ a26=>eqM a25 a26) tru) λ c14=>if c14 then JV v_thing
   else JW v_thing
abbrev JY (v_degrees v_number v_thing v_row v_told:AV):M (Fl Unit) :=
  bd (orC (bd (bd (rt v_told) λ a32=>bd (bd (rt v_row) λ a34=>bd (rt (.int 3)) λ a35=>getI a34 a35) λ a33=>neM a32 a33) tru) (orC (bd (bd (bd (rt v_thing) λ a39=>getA a39 "count") λ a37=>bd (bd (rt v_degrees) λ o40=>bd (chkD o40) λ _=>bd (rt v_number) λ a41=>bd (rt (.int 0)) λ a42=>dget2 o40 a41 a42) λ a38=>neM a37 a38) tru) (bd (bd (bd (rt v_thing) λ a46=>getA a46 "is_destroyed") λ a44=>bd (bd (rt v_row) λ a47=>bd (rt (.int 2)) λ a48=>getI a47 a48) λ a45=>neM a44 a45) tru))) λ c29=>if c29 then
   bd (rt (.bool false)) λ r30=>rt (.ret r30)
  else
   rt (.nxt ())
abbrev JZ (v_world v_roots v_real v_degrees v_number v_thing v_row:AV):M (Fl Unit) :=
  thnG (λ v_told=>[some v_world,some v_roots,some v_real,some v_degrees,some v_number,some v_thing,some v_row,some v_told,none,none]) (bd (bd (bd (bd (rt v_row) λ a52=>bd (rt (.int 0)) λ a53=>getI a52 a53) λ a50=>bd (rt (.str "S")) λ a51=>eqM a50 a51) tru) λ c11=>if c11 then
   bd (bd (bd (rt v_thing) λ a12=>getA a12 "value") λ a13=>y7 a13) λ v_told =>
   rt (.nxt v_told)
  else JX v_thing v_row) λ v_told=>JY v_degrees v_number v_thing v_row v_told
abbrev J0 (v_world v_roots v_real v_degrees v_number v_thing:AV):M (Fl Unit) :=
  bd (bd (rt v_world) λ a9=>bd (rt v_number) λ a10=>getI a9 a10) λ v_row=>JZ v_world v_roots v_real v_degrees v_number v_thing v_row
abbrev J3 (v_world v_roots v_real v_degrees v_number v_thing:AV):M (Fl Unit) :=
  thnG (λ _=>[some v_world,some v_roots,some v_real,some v_degrees,some v_number,some v_thing,none,none,none,none]) (bd (bd (bd (rt v_number) λ a55=>bd (rt v_world) λ a56=>ninK a55 a56) tru) λ c8=>if c8 then
   rt .cnt
  else
   rt (.nxt ())) λ _=>J0 v_world v_roots v_real v_degrees v_number v_thing
abbrev J4 (v_world v_roots v_real v_degrees v_number v_thing:AV):M (Fl Unit) :=
  thnG (λ _=>[some v_world,some v_roots,some v_real,some v_degrees,some v_number,some v_thing,none,none,none,none]) (bd (bd (bd (bd (rt v_thing) λ a60=>getA a60 "is_freed") λ a58=>bd (bd (rt v_number) λ a61=>bd (rt v_world) λ a62=>ninK a61 a62) λ a59=>neM a58 a59) tru) λ c6=>if c6 then
   bd (rt (.bool false)) λ r7=>rt (.ret r7)
  else
   rt (.nxt ())) λ _=>J3 v_world v_roots v_real v_degrees v_number v_thing
abbrev J5 (v_world v_roots v_real v_degrees v_number:AV):M (Fl Unit) :=
  bd (bd (rt v_real) λ a4=>bd (rt v_number) λ a5=>getI a4 a5) λ v_thing=>J4 v_world v_roots v_real v_degrees v_number v_thing
abbrev J6 (v_world v_roots v_real v_degrees:AV):M (Fl Unit) :=
 thnG (λ _=>[some v_world,some v_roots,some v_real,some v_degrees,none,none,none,none,none,none]) (bd (rt v_real) λ a3=>forL (λ _=>[some v_world,some v_roots,some v_real,some v_degrees,none,none,none,none,none,none]) a3 () λ _ v_number=>J5 v_world v_roots v_real v_degrees v_number) λ _ =>
 bd (rt (.bool true)) λ r63=>rt (.ret r63)
abbrev xY (v_world v_roots v_real:AV):M (Fl Unit) :=
 bd (bd (rt v_world) λ a1=>bd (rt v_roots) λ a2=>zM a1 a2) λ v_degrees=>J6 v_world v_roots v_real v_degrees
noncomputable def yP (v_world v_roots v_real:AV):M AV:=fin (xY v_world v_roots v_real)
abbrev J7 (v_number v_goal v_member:AV):M (Fl AV) :=
     bd (iteV (bd (bd (bd (rt v_goal) λ a29=>bd (rt (.int 0)) λ a30=>getI a29 a30) λ a27=>bd (rt (.str "A")) λ a28=>eqM a27 a28) tru) (rt v_member) (bd (rt v_member) λ a31=>bd (rt (.int 1)) λ a32=>getI a31 a32)) λ v_number =>
     rt (.nxt v_number)
abbrev J8 (v_k v_number v_goal:AV):M (Fl AV) :=
     bd (bd (bd (rt v_goal) λ a19=>bd (rt (.int 3)) λ a20=>getI a19 a20) λ a17=>bd (bd (rt v_k) λ a21=>bd (bd (bd (rt v_goal) λ a24=>bd (rt (.int 3)) λ a25=>getI a24 a25) λ a23=>lenM a23) λ a22=>modM a21 a22) λ a18=>getI a17 a18) λ v_member=>J7 v_number v_goal v_member
abbrev J9 (v_k v_number v_goal:AV):M (Fl AV) :=
    bd (bd (bd (bd (rt v_goal) λ a36=>bd (rt (.int 3)) λ a37=>getI a36 a37) λ a34=>bd (mkL []) λ a35=>neM a34 a35) tru) λ c16=>if c16 then J8 v_k v_number v_goal
    else
     rt (.nxt v_number)
abbrev Qa (v_k v_number v_inner v_goal:AV):M (Fl AV) :=
   bd (bd (bd (bd (rt v_goal) λ a41=>bd (rt (.int 0)) λ a42=>getI a41 a42) λ a39=>bd (rt (.str "S")) λ a40=>eqM a39 a40) tru) λ c13=>if c13 then
    bd (bd (rt v_inner) λ a14=>bd (rt (.int 1)) λ a15=>getI a14 a15) λ v_number =>
    rt (.nxt v_number)
   else J9 v_k v_number v_goal
abbrev Qb (v_world v_k v_number v_inner:AV):M (Fl AV) :=
   bd (bd (rt v_world) λ a9=>bd (bd (rt v_inner) λ a11=>bd (rt (.int 1)) λ a12=>getI a11 a12) λ a10=>getI a9 a10) λ v_goal=>Qa v_k v_number v_inner v_goal
abbrev Qc (v_world v_k v_number v_inner:AV):M (Fl AV) :=
  bd (bd (bd (rt v_inner) λ a44=>isT a44) tru) λ c8=>if c8 then Qb v_world v_k v_number v_inner
  else
   rt (.nxt v_number)
abbrev Qd (v_world v_k v_number:AV):M (Fl AV) :=
  bd (bd (bd (rt v_world) λ a6=>bd (rt v_number) λ a7=>getI a6 a7) λ a4=>bd (rt (.int 3)) λ a5=>getI a4 a5) λ v_inner=>Qc v_world v_k v_number v_inner
abbrev xL (v_world v_number v_k:AV):M (Fl Unit) :=
 thnG (λ v_number=>[some v_world,some v_number,some v_k,none,none,none,none,none,none,none,none]) (bd (bd (rt v_k) λ a2=>bd (rt (.int 3)) λ a3=>modM a2 a3) λ a1=>forR (λ v_number=>[some v_world,some v_number,some v_k,none,none,none,none,none,none,none,none]) a1 v_number λ v_number v_turn=>Qd v_world v_k v_number) λ v_number =>
 bd (rt v_number) λ r45=>rt (.ret r45)
noncomputable def yA (v_world v_number v_k:AV):M AV:=fin (xL v_world v_number v_k)
abbrev xz (v_inner:AV):M (Fl Unit) :=
 bd (iteV (bd (bd (rt v_inner) λ a3=>isT a3) tru) (mkT [(rt (.str "ref")),(bd (rt v_inner) λ a4=>bd (rt (.int 1)) λ a5=>getI a4 a5)]) (rt v_inner)) λ r1=>rt (.ret r1)
noncomputable def yl (v_inner:AV):M AV:=fin (xz v_inner)
abbrev Qe (v_world v_place v_thing:AV):M (Fl Unit) :=
 bd (mkT [(rt (.str "ref")),(bd (rt v_thing) λ a36=>getA a36 "number")]) λ x34=>bd (bd (rt v_world) λ a38=>bd (rt v_place) λ a39=>getI a38 a39) λ o35=>bd (rt (.int 3)) λ k37=>bd (setI o35 k37 x34) λ _ =>
 rt (.nxt ())
abbrev Qf (v_counter v_world v_real v_place v_thing:AV):M (Fl Unit) :=
 bd (bd (rt v_counter) λ o28=>bd (chk o28 .counter) λ _=>bd (bd (rt v_real) λ a29=>bd (rt v_place) λ a30=>getI a29 a30) λ a32=>bd (bd (rt v_thing) λ a31=>new .ref λ o=>zL o a31 (.bool false)) λ a33=>zz o28 a32 a33) λ _=>Qe v_world v_place v_thing
abbrev Qg (v_counter v_world v_real v_way v_place v_k v_thing:AV):M (Fl Unit) :=
 bd (mkL [(bd (rt v_way) λ a19=>sah a19),(bd (bd (rt v_k) λ a22=>bd (rt (.int 2)) λ a23=>modM a22 a23) λ a20=>bd (rt (.int 1)) λ a21=>eqM a20 a21),(rt (.bool false)),(bd (mkL [(rt .none),(mkL []),(mkL [])]) λ a24=>bd (rt v_way) λ a25=>getI a24 a25)]) λ x17=>bd (rt v_world) λ o18=>bd (bd (rt v_thing) λ a27=>getA a27 "number") λ k26=>bd (setI o18 k26 x17) λ _=>Qf v_counter v_world v_real v_place v_thing
abbrev Qh (v_counter v_world v_real v_way v_place v_k v_thing:AV):M (Fl Unit) :=
 bd (rt v_thing) λ x13=>bd (rt v_real) λ o14=>bd (bd (rt v_thing) λ a16=>getA a16 "number") λ k15=>bd (setI o14 k15 x13) λ _=>Qg v_counter v_world v_real v_way v_place v_k v_thing
abbrev Qi (v_counter v_world v_real v_way v_place v_k v_heap v_thing:AV):M (Fl Unit) :=
 thnG (λ _=>[some v_counter,some v_world,some v_real,some v_way,some v_place,some v_k,some v_heap,some v_thing,none,none]) (bd (bd (bd (bd (rt v_k) λ a43=>bd (rt (.int 2)) λ a44=>modM a43 a44) λ a41=>bd (rt (.int 1)) λ a42=>eqM a41 a42) tru) λ c10=>if c10 then
  bd (bd (rt v_thing) λ a11=>bd (rt (.str "P")) λ a12=>yp a11 a12) λ _ =>
  rt (.nxt ())
 else
  rt (.nxt ())) λ _=>Qh v_counter v_world v_real v_way v_place v_k v_thing
abbrev Qj (v_counter v_world v_real v_way v_place v_k v_heap v_thing:AV):M (Fl Unit) :=
 bd (bd (rt v_counter) λ o8=>bd (chk o8 .counter) λ _=>bd (rt v_thing) λ a9=>yj o8 a9) λ _=>Qi v_counter v_world v_real v_way v_place v_k v_heap v_thing
abbrev Qk (v_counter v_world v_real v_way v_place v_k v_heap:AV):M (Fl Unit) :=
 bd (bd (mkL [(bd (rt v_heap) λ o4=>bd (chk o4 .heap) λ _=>bd (rt .none) λ a5=>zH o4 a5),(bd (rt v_heap) λ o6=>bd (chk o6 .heap) λ _=>zW o6 ),(bd (rt v_heap) λ o7=>bd (chk o7 .heap) λ _=>yb o7 )]) λ a2=>bd (rt v_way) λ a3=>getI a2 a3) λ v_thing=>Qj v_counter v_world v_real v_way v_place v_k v_heap v_thing
abbrev wx (v_counter v_world v_real v_way v_place v_k:AV):M (Fl Unit) :=
 bd (bd (rt v_counter) λ a1=>getA a1 "heap") λ v_heap=>Qk v_counter v_world v_real v_way v_place v_k v_heap
noncomputable def xR (v_counter v_world v_real v_way v_place v_k:AV):M AV:=fin (wx v_counter v_world v_real v_way v_place v_k)
abbrev Ql (t_row v_scalar:AV):M (Fl Unit) :=
  bd (bd (bd (rt t_row) λ a37=>bd (rt (.int 3)) λ a38=>getI a37 a38) λ o36=>bd (chkL o36) λ _=>bd (bd (rt v_scalar) λ a39=>getA a39 "number") λ a40=>appL o36 a40) λ _ =>
  rt (.ret .none)
abbrev Qm (t_row v_scalar v_key:AV):M (Fl Unit) :=
  bd (bd (bd (rt t_row) λ a55=>bd (rt (.int 3)) λ a56=>getI a55 a56) λ o54=>bd (chkL o54) λ _=>bd (mkL [(rt v_key),(bd (rt v_scalar) λ a57=>getA a57 "number")]) λ a58=>appL o54 a58) λ _ =>
  rt (.nxt ())
abbrev Vn (t_row v_scalar v_key:AV):M (Fl Unit) :=
  bd (bd (bd (rt t_row) λ a63=>bd (rt (.int 3)) λ a64=>getI a63 a64) λ a75=>comp (λ v_one=>[none,some v_one,some v_key,some v_scalar]) a75 (λ v_one=>(rt true)) (λ v_one=>(mkL [(bd (rt v_one) λ a65=>bd (rt (.int 0)) λ a66=>getI a65 a66),(iteV (bd (bd (bd (rt v_one) λ a70=>bd (rt (.int 0)) λ a71=>getI a70 a71) λ a68=>bd (rt v_key) λ a69=>eqM a68 a69) tru) (bd (rt v_scalar) λ a72=>getA a72 "number") (bd (rt v_one) λ a73=>bd (rt (.int 1)) λ a74=>getI a73 a74))]))) λ x61=>bd (bd (rt t_row) λ a76=>bd (rt (.int 3)) λ a77=>getI a76 a77) λ o62=>bd (yZ o62 x61) λ _ =>
  rt (.nxt ())
abbrev Vo (v_counter t_row v_scalar v_key v_old:AV):M (Fl Unit) :=
 bd (bd (bd (rt v_old) λ a79=>isN a79) tru) λ c53=>if c53 then Qm t_row v_scalar v_key
 else
  bd (bd (rt v_counter) λ o59=>bd (chk o59 .counter) λ _=>bd (rt v_old) λ a60=>zO o59 a60) λ _=>Vn t_row v_scalar v_key
abbrev Qn (v_counter t_row t_thing v_scalar v_key v_old:AV):M (Fl Unit) :=
 bd (rt v_scalar) λ x49=>bd (bd (rt t_thing) λ a52=>getA a52 "table") λ o50=>bd (rt v_key) λ k51=>bd (setI o50 k51 x49) λ _=>Vo v_counter t_row v_scalar v_key v_old
abbrev Qo (v_counter t_row t_thing v_scalar v_key:AV):M (Fl Unit) :=
 bd (bd (bd (rt t_thing) λ a47=>getA a47 "table") λ o46=>bd (chkD o46) λ _=>bd (rt v_key) λ a48=>dget1 o46 a48) λ v_old=>Qn v_counter t_row t_thing v_scalar v_key v_old
abbrev Qp (v_counter v_k t_row t_thing v_scalar:AV):M (Fl Unit) :=
 bd (bd (rt (.str "k")) λ a41=>bd (bd (bd (rt v_k) λ a44=>bd (rt (.int 3)) λ a45=>modM a44 a45) λ a43=>strM a43) λ a42=>addM a41 a42) λ v_key=>Qo v_counter t_row t_thing v_scalar v_key
abbrev gx (v_counter v_world v_real v_place v_source v_k v_inner t_row t_thing v_scalar:AV):M (Fl Unit) :=
 thnG (λ _=>[some v_counter,some v_world,some v_real,some v_place,some v_source,some v_k,some v_inner,some t_row,some t_thing,some v_scalar,none,none,none,none,none,none]) (bd (bd (bd (bd (rt t_row) λ a83=>bd (rt (.int 0)) λ a84=>getI a83 a84) λ a81=>bd (rt (.str "A")) λ a82=>eqM a81 a82) tru) λ c32=>if c32 then
  bd (bd (bd (rt t_thing) λ a34=>getA a34 "items") λ o33=>bd (chkL o33) λ _=>bd (rt v_scalar) λ a35=>appL o33 a35) λ _=>Ql t_row v_scalar
 else
  rt (.nxt ())) λ _=>Qp v_counter v_k t_row t_thing v_scalar
abbrev Qq (v_counter v_world v_real v_place v_source v_k v_inner t_row t_thing v_scalar:AV):M (Fl Unit) :=
 bd (mkL [(rt (.str "S")),(rt (.bool false)),(rt (.bool false)),(bd (bd (bd (rt v_world) λ a27=>bd (rt v_source) λ a28=>getI a27 a28) λ a25=>bd (rt (.int 3)) λ a26=>getI a25 a26) λ a29=>yl a29)]) λ x23=>bd (rt v_world) λ o24=>bd (bd (rt v_scalar) λ a31=>getA a31 "number") λ k30=>bd (setI o24 k30 x23) λ _=>gx v_counter v_world v_real v_place v_source v_k v_inner t_row t_thing v_scalar
abbrev Vp (v_counter v_world v_real v_place v_source v_k v_inner t_row t_thing v_scalar:AV):M (Fl Unit) :=
 bd (rt v_scalar) λ x19=>bd (rt v_real) λ o20=>bd (bd (rt v_scalar) λ a22=>getA a22 "number") λ k21=>bd (setI o20 k21 x19) λ _=>Qq v_counter v_world v_real v_place v_source v_k v_inner t_row t_thing v_scalar
abbrev Qr (v_counter v_world v_real v_place v_source v_k v_inner t_row t_thing:AV):M (Fl Unit) :=
 bd (bd (rt v_counter) λ o14=>bd (chk o14 .counter) λ _=>bd (bd (bd (rt v_real) λ a16=>bd (rt v_source) λ a17=>getI a16 a17) λ a15=>getA a15 "value") λ a18=>zQ o14 a18) λ v_scalar=>Vp v_counter v_world v_real v_place v_source v_k v_inner t_row t_thing v_scalar
abbrev Qs (v_counter v_world v_real v_place v_source v_k v_inner:AV):M (Fl Unit) :=
 bd (bd (rt v_world) λ a6=>bd (bd (rt v_inner) λ a8=>bd (rt (.int 1)) λ a9=>getI a8 a9) λ a7=>getI a6 a7) λ t_row=>bd (bd (rt v_real) λ a10=>bd (bd (rt v_inner) λ a12=>bd (rt (.int 1)) λ a13=>getI a12 a13) λ a11=>getI a10 a11) λ t_thing=>bd (al (.tup [t_row,t_thing])) λ _=>  Qr v_counter v_world v_real v_place v_source v_k v_inner t_row t_thing
abbrev Qt (v_counter v_world v_real v_place v_source v_k v_inner:AV):M (Fl Unit) :=
 thnG (λ _=>[some v_counter,some v_world,some v_real,some v_place,some v_source,some v_k,some v_inner,none,none,none,none,none,none,none,none,none]) (bd (orC (notC (bd (bd (rt v_inner) λ a86=>isT a86) tru)) (bd (bd (bd (bd (rt v_world) λ a92=>bd (bd (rt v_inner) λ a94=>bd (rt (.int 1)) λ a95=>getI a94 a95) λ a93=>getI a92 a93) λ a90=>bd (rt (.int 0)) λ a91=>getI a90 a91) λ a88=>bd (rt (.str "S")) λ a89=>eqM a88 a89) tru)) λ c5=>if c5 then
  rt (.ret .none)
 else
  rt (.nxt ())) λ _=>Qs v_counter v_world v_real v_place v_source v_k v_inner
abbrev wy (v_counter v_world v_real v_place v_source v_k:AV):M (Fl Unit) :=
 bd (bd (bd (rt v_world) λ a3=>bd (rt v_place) λ a4=>getI a3 a4) λ a1=>bd (rt (.int 3)) λ a2=>getI a1 a2) λ v_inner=>Qt v_counter v_world v_real v_place v_source v_k v_inner
noncomputable def xS (v_counter v_world v_real v_place v_source v_k:AV):M AV:=fin (wy v_counter v_world v_real v_place v_source v_k)
abbrev Qu (v_counter t_thing:AV):M (Fl Unit) :=
  bd (bd (rt v_counter) λ o18=>bd (chk o18 .counter) λ _=>bd (bd (bd (rt t_thing) λ a20=>getA a20 "items") λ o19=>bd (chkL o19) λ _=>popL o19) λ a21=>zO o18 a21) λ _ =>
  rt (.nxt ())
abbrev Qv (v_counter t_thing v_gone:AV):M (Fl Unit) :=
  bd (bd (rt v_counter) λ o22=>bd (chk o22 .counter) λ _=>bd (bd (bd (rt t_thing) λ a24=>getA a24 "table") λ o23=>bd (chkD o23) λ _=>bd (bd (rt v_gone) λ a25=>bd (rt (.int 0)) λ a26=>getI a25 a26) λ a27=>dpop1 o23 a27) λ a28=>zO o22 a28) λ _ =>
  rt (.nxt ())
abbrev Qw (v_counter t_row t_thing v_gone:AV):M (Fl Unit) :=
 bd (bd (bd (bd (rt t_row) λ a32=>bd (rt (.int 0)) λ a33=>getI a32 a33) λ a30=>bd (rt (.str "A")) λ a31=>eqM a30 a31) tru) λ c17=>if c17 then Qu v_counter t_thing
 else Qv v_counter t_thing v_gone
abbrev Qx (v_counter t_row t_thing:AV):M (Fl Unit) :=
 bd (bd (bd (rt t_row) λ a15=>bd (rt (.int 3)) λ a16=>getI a15 a16) λ o14=>bd (chkL o14) λ _=>popL o14) λ v_gone=>Qw v_counter t_row t_thing v_gone
abbrev Qy (v_counter v_world v_real v_inner:AV):M (Fl Unit) :=
 bd (bd (rt v_world) λ a6=>bd (bd (rt v_inner) λ a8=>bd (rt (.int 1)) λ a9=>getI a8 a9) λ a7=>getI a6 a7) λ t_row=>bd (bd (rt v_real) λ a10=>bd (bd (rt v_inner) λ a12=>bd (rt (.int 1)) λ a13=>getI a12 a13) λ a11=>getI a10 a11) λ t_thing=>bd (al (.tup [t_row,t_thing])) λ _=>  Qx v_counter t_row t_thing
abbrev Qz (v_counter v_world v_real v_place v_inner:AV):M (Fl Unit) :=
 thnG (λ _=>[some v_counter,some v_world,some v_real,some v_place,some v_inner,none,none,none,none,none]) (bd (orC (notC (bd (bd (rt v_inner) λ a35=>isT a35) tru)) (orC (bd (bd (bd (bd (rt v_world) λ a41=>bd (bd (rt v_inner) λ a43=>bd (rt (.int 1)) λ a44=>getI a43 a44) λ a42=>getI a41 a42) λ a39=>bd (rt (.int 0)) λ a40=>getI a39 a40) λ a37=>bd (rt (.str "S")) λ a38=>eqM a37 a38) tru) (bd (bd (bd (bd (rt v_world) λ a50=>bd (bd (rt v_inner) λ a52=>bd (rt (.int 1)) λ a53=>getI a52 a53) λ a51=>getI a50 a51) λ a48=>bd (rt (.int 3)) λ a49=>getI a48 a49) λ a46=>bd (mkL []) λ a47=>eqM a46 a47) tru))) λ c5=>if c5 then
  rt (.ret .none)
 else
  rt (.nxt ())) λ _=>Qy v_counter v_world v_real v_inner
abbrev xM (v_counter v_world v_real v_place:AV):M (Fl Unit) :=
 bd (bd (bd (rt v_world) λ a3=>bd (rt v_place) λ a4=>getI a3 a4) λ a1=>bd (rt (.int 3)) λ a2=>getI a1 a2) λ v_inner=>Qz v_counter v_world v_real v_place v_inner
noncomputable def y8 (v_counter v_world v_real v_place:AV):M AV:=fin (xM v_counter v_world v_real v_place)
abbrev QA (v_counter v_world v_real t_way t_k v_place:AV):M (Fl Unit) :=
  bd (bd (rt v_counter) λ a28=>bd (rt v_world) λ a29=>bd (rt v_real) λ a30=>bd (rt t_way) λ a31=>bd (rt v_place) λ a32=>bd (bd (rt t_k) λ a26=>bd (rt (.int 9)) λ a27=>divM a26 a27) λ a33=>xR a28 a29 a30 a31 a32 a33) λ _ =>
  rt (.nxt ())
abbrev QB (v_world v_source v_place:AV):M (Fl Unit) :=
   bd (bd (bd (bd (rt v_world) λ a47=>bd (rt v_source) λ a48=>getI a47 a48) λ a45=>bd (rt (.int 3)) λ a46=>getI a45 a46) λ a49=>yl a49) λ x43=>bd (bd (rt v_world) λ a51=>bd (rt v_place) λ a52=>getI a51 a52) λ o44=>bd (rt (.int 3)) λ k50=>bd (setI o44 k50 x43) λ _ =>
   rt (.nxt ())
abbrev QC (v_counter v_world v_real v_source v_place:AV):M (Fl Unit) :=
   bd (bd (rt v_counter) λ o35=>bd (chk o35 .counter) λ _=>bd (bd (rt v_real) λ a36=>bd (rt v_place) λ a37=>getI a36 a37) λ a41=>bd (bd (bd (rt v_real) λ a39=>bd (rt v_source) λ a40=>getI a39 a40) λ a38=>getA a38 "value") λ a42=>zz o35 a41 a42) λ _=>QB v_world v_source v_place
abbrev QD (v_world v_place v_value:AV):M (Fl Unit) :=
    bd (rt v_value) λ x62=>bd (bd (rt v_world) λ a65=>bd (rt v_place) λ a66=>getI a65 a66) λ o63=>bd (rt (.int 3)) λ k64=>bd (setI o63 k64 x62) λ _ =>
    rt (.nxt ())
abbrev QE (v_counter v_world v_real v_place v_value:AV):M (Fl Unit) :=
    bd (bd (rt v_counter) λ o57=>bd (chk o57 .counter) λ _=>bd (bd (rt v_real) λ a58=>bd (rt v_place) λ a59=>getI a58 a59) λ a60=>bd (rt v_value) λ a61=>zz o57 a60 a61) λ _=>QD v_world v_place v_value
abbrev QG (v_counter v_world v_real t_way t_k v_place:AV):M (Fl Unit) :=
    bd (iteV (bd (bd (rt t_way) λ a55=>bd (rt (.int 4)) λ a56=>eqM a55 a56) tru) (rt t_k) (rt .none)) λ v_value=>QE v_counter v_world v_real v_place v_value
abbrev QH (v_world v_place:AV):M (Fl Unit) :=
      bd (mkT [(rt (.str "weak")),(bd (bd (bd (rt v_world) λ a79=>bd (rt v_place) λ a80=>getI a79 a80) λ a77=>bd (rt (.int 3)) λ a78=>getI a77 a78) λ a75=>bd (rt (.int 1)) λ a76=>getI a75 a76)]) λ x73=>bd (bd (rt v_world) λ a82=>bd (rt v_place) λ a83=>getI a82 a83) λ o74=>bd (rt (.int 3)) λ k81=>bd (setI o74 k81 x73) λ _ =>
      rt (.nxt ())
abbrev QI (v_world v_place:AV):M (Fl Unit) :=
     bd (bd (bd (bd (bd (rt v_world) λ a88=>bd (rt v_place) λ a89=>getI a88 a89) λ a86=>bd (rt (.int 3)) λ a87=>getI a86 a87) λ a85=>isT a85) tru) λ c72=>if c72 then QH v_world v_place
     else
      rt (.nxt ())
abbrev QJ (v_counter v_world v_real v_place:AV):M (Fl Unit) :=
     bd (bd (rt v_counter) λ a70=>bd (bd (rt v_real) λ a68=>bd (rt v_place) λ a69=>getI a68 a69) λ a71=>yc a70 a71) λ _=>QI v_world v_place
abbrev QK (v_counter v_world v_real t_k v_source v_place:AV):M (Fl Unit) :=
      bd (bd (rt v_counter) λ a91=>bd (rt v_world) λ a92=>bd (rt v_real) λ a93=>bd (rt v_place) λ a94=>bd (rt v_source) λ a95=>bd (rt t_k) λ a96=>xS a91 a92 a93 a94 a95 a96) λ _ =>
      rt (.nxt ())
abbrev QM (v_counter v_world v_real v_place:AV):M (Fl Unit) :=
              bd (bd (rt v_counter) λ a98=>bd (rt v_world) λ a99=>bd (rt v_real) λ a100=>bd (rt v_place) λ a101=>y8 a98 a99 a100 a101) λ _ =>
              rt (.nxt ())
abbrev QN (v_counter v_world v_real t_way v_place:AV):M (Fl Unit) :=
      bd (bd (bd (rt t_way) λ a103=>bd (rt (.int 7)) λ a104=>eqM a103 a104) tru) λ c97=>if c97 then QM v_counter v_world v_real v_place
      else
       rt (.nxt ())
abbrev QO (v_counter v_world v_real t_way t_k v_source v_place:AV):M (Fl Unit) :=
     bd (bd (bd (rt t_way) λ a106=>bd (rt (.int 6)) λ a107=>eqM a106 a107) tru) λ c90=>if c90 then QK v_counter v_world v_real t_k v_source v_place
     else QN v_counter v_world v_real t_way v_place
abbrev QP (v_counter v_world v_real t_way t_k v_source v_place:AV):M (Fl Unit) :=
    bd (bd (bd (rt t_way) λ a109=>bd (rt (.int 5)) λ a110=>eqM a109 a110) tru) λ c67=>if c67 then QJ v_counter v_world v_real v_place
    else QO v_counter v_world v_real t_way t_k v_source v_place
abbrev QR (v_counter v_world v_real t_way t_k v_source v_place:AV):M (Fl Unit) :=
   bd (orC (bd (bd (rt t_way) λ a112=>bd (rt (.int 4)) λ a113=>eqM a112 a113) tru) (bd (bd (rt t_way) λ a115=>bd (rt (.int 8)) λ a116=>eqM a115 a116) tru)) λ c53=>if c53 then QG v_counter v_world v_real t_way t_k v_place
   else QP v_counter v_world v_real t_way t_k v_source v_place
abbrev QS (v_counter v_world v_real t_way t_k v_source v_place:AV):M (Fl Unit) :=
  bd (bd (bd (rt t_way) λ a118=>bd (rt (.int 3)) λ a119=>eqM a118 a119) tru) λ c34=>if c34 then QC v_counter v_world v_real v_source v_place
  else QR v_counter v_world v_real t_way t_k v_source v_place
abbrev QT (v_counter v_world v_real t_way t_k v_source v_place:AV):M (Fl Unit) :=
 bd (bd (bd (rt t_way) λ a121=>bd (rt (.int 3)) λ a122=>ltM a121 a122) tru) λ c25=>if c25 then QA v_counter v_world v_real t_way t_k v_place
 else QS v_counter v_world v_real t_way t_k v_source v_place
abbrev QW (v_counter v_world v_real v_roots v_n t_way t_k v_source:AV):M (Fl Unit) :=
 bd (bd (rt v_world) λ a22=>bd (bd (rt v_roots) λ a16=>bd (bd (bd (rt v_n) λ a20=>bd (rt (.int 40)) λ a21=>divM a20 a21) λ a18=>bd (rt (.int 4)) λ a19=>modM a18 a19) λ a17=>getI a16 a17) λ a23=>bd (rt t_k) λ a24=>yA a22 a23 a24) λ v_place=>QT v_counter v_world v_real t_way t_k v_source v_place
abbrev QX (v_counter v_world v_real v_roots v_n t_way t_k:AV):M (Fl Unit) :=
 bd (bd (rt v_world) λ a13=>bd (bd (rt v_roots) λ a5=>bd (bd (bd (rt v_n) λ a9=>bd (rt (.int 10)) λ a10=>divM a9 a10) λ a7=>bd (rt (.int 4)) λ a8=>modM a7 a8) λ a6=>getI a5 a6) λ a14=>bd (bd (rt t_k) λ a11=>bd (rt (.int 3)) λ a12=>divM a11 a12) λ a15=>yA a13 a14 a15) λ v_source=>QW v_counter v_world v_real v_roots v_n t_way t_k v_source
abbrev xZ (v_counter v_world v_real v_roots v_n:AV):M (Fl Unit) :=
 bd (bd (rt v_n) λ a1=>bd (rt (.int 10)) λ a2=>modM a1 a2) λ t_way=>bd (bd (rt v_n) λ a3=>bd (rt (.int 160)) λ a4=>divM a3 a4) λ t_k=>bd (al (.tup [t_way,t_k])) λ _=>  QX v_counter v_world v_real v_roots v_n t_way t_k
noncomputable def xA (v_counter v_world v_real v_roots v_n:AV):M AV:=fin (xZ v_counter v_world v_real v_roots v_n)
set_option genInjectivity false in
set_option genCtorIdx false in
structure LT where
 script:AV
 heap:AV
 log:AV
 world:AV
 cv:CV
abbrev QY (t_roots v_scalar:AV):M (Fl Unit) :=
  bd (bd (rt t_roots) λ o28=>bd (chkL o28) λ _=>bd (bd (rt v_scalar) λ a29=>getA a29 "number") λ a30=>appL o28 a30) λ _ =>
  rt (.nxt ())
abbrev QZ (t_world t_roots v_turn v_scalar:AV):M (Fl Unit) :=
  bd (mkL [(rt (.str "S")),(rt (.bool false)),(rt (.bool false)),(rt v_turn)]) λ x24=>bd (rt t_world) λ o25=>bd (bd (rt v_scalar) λ a27=>getA a27 "number") λ k26=>bd (setI o25 k26 x24) λ _=>QY t_roots v_scalar
abbrev Q0 (t_world t_real t_roots v_turn v_scalar:AV):M (Fl Unit) :=
  bd (rt v_scalar) λ x20=>bd (rt t_real) λ o21=>bd (bd (rt v_scalar) λ a23=>getA a23 "number") λ k22=>bd (setI o21 k22 x20) λ _=>QZ t_world t_roots v_turn v_scalar
abbrev Q1 (t_world t_real t_roots v_counter v_turn:AV):M (Fl Unit) :=
  bd (bd (rt v_counter) λ o18=>bd (chk o18 .counter) λ _=>bd (rt v_turn) λ a19=>zQ o18 a19) λ v_scalar=>Q0 t_world t_real t_roots v_turn v_scalar
abbrev Q2 (t_log t_heard t_world t_real t_roots:AV):M (Fl Unit) :=
   bd (orC (bd (bd (rt t_heard) λ a49=>bd (rt t_log) λ a50=>neM a49 a50) tru) (notC (bd (bd (rt t_world) λ a52=>bd (rt t_roots) λ a53=>bd (rt t_real) λ a54=>yP a52 a53 a54) tru))) λ c46=>if c46 then
    bd (rt (.bool false)) λ r47=>rt (.ret r47)
   else
    rt (.nxt ())
abbrev Q3 (v_rescue t_log t_heard t_world t_real t_roots:AV):M (Fl Unit) :=
   bd (bd (rt t_world) λ a42=>bd (rt t_roots) λ a43=>bd (rt t_log) λ a44=>bd (rt v_rescue) λ a45=>yd a42 a43 a44 a45) λ _=>Q2 t_log t_heard t_world t_real t_roots
abbrev Q4 (cv:CV) (v_rescue t_log t_heard t_world t_real t_roots v_counter:AV):M (Fl Unit) :=
   bd (bd (rt v_counter) λ o40=>bd (chk o40 .counter) λ _=>bd (rt (.int 0)) λ a41=>zN cv o40 a41) λ _=>Q3 v_rescue t_log t_heard t_world t_real t_roots
abbrev Q5 (cv:CV) (v_rescue t_log t_heard t_world t_real t_roots v_counter v_n:AV):M (Fl Unit) :=
  bd (bd (bd (bd (rt v_n) λ a58=>bd (rt (.int 10)) λ a59=>modM a58 a59) λ a56=>bd (rt (.int 9)) λ a57=>eqM a56 a57) tru) λ c39=>if c39 then Q4 cv v_rescue t_log t_heard t_world t_real t_roots v_counter
  else
   rt (.nxt ())
abbrev Q6 (cv:CV) (v_rescue t_log t_heard t_world t_real t_roots v_counter v_n:AV):M (Fl Unit) :=
  bd (bd (rt v_counter) λ a34=>bd (rt t_world) λ a35=>bd (rt t_real) λ a36=>bd (rt t_roots) λ a37=>bd (rt v_n) λ a38=>xA a34 a35 a36 a37 a38) λ _=>Q5 cv v_rescue t_log t_heard t_world t_real t_roots v_counter v_n
abbrev Q7 (v_counter v_scalar:AV):M (Fl Unit) :=
  bd (bd (rt v_counter) λ o66=>bd (chk o66 .counter) λ _=>bd (rt v_scalar) λ a67=>zv o66 a67) λ _ =>
  rt (.nxt ())
abbrev Q8 (t_log t_heard t_world t_real t_roots:AV):M (Fl Unit) :=
 bd (andV (bd (rt t_heard) λ a75=>bd (rt t_log) λ a76=>eqM a75 a76) (bd (rt t_world) λ a77=>bd (rt t_roots) λ a78=>bd (rt t_real) λ a79=>yP a77 a78 a79)) λ r74=>rt (.ret r74)
abbrev Q9 (v_rescue t_log t_heard t_world t_real t_roots:AV):M (Fl Unit) :=
 bd (bd (rt t_world) λ a70=>bd (rt t_roots) λ a71=>bd (rt t_log) λ a72=>bd (rt v_rescue) λ a73=>yd a70 a71 a72 a73) λ _=>Q8 t_log t_heard t_world t_real t_roots
abbrev Ka (cv:CV) (v_rescue t_log t_heard t_world t_real t_roots v_counter:AV):M (Fl Unit) :=
 bd (bd (rt v_counter) λ o68=>bd (chk o68 .counter) λ _=>bd (rt (.int 0)) λ a69=>zN cv o68 a69) λ _=>Q9 v_rescue t_log t_heard t_world t_real t_roots
abbrev Kb (cv:CV) (v_script v_rescue v_heap t_log t_heard t_world t_real t_roots t_box v_counter v_gone:AV):M (Fl Unit) :=
 thnG (λ _=>[some v_script,none,some v_heap,some t_log,some t_world,some .dstr,some v_counter,none,none,some v_gone,some t_box,some t_heard,some t_real,some v_rescue,some t_roots,none,none,none,none,none,none,none,none]) (bd (rt v_gone) λ a65=>forL (λ _=>[some v_script,none,some v_heap,some t_log,some t_world,some .dstr,some v_counter,none,none,some v_gone,some t_box,some t_heard,some t_real,some v_rescue,some t_roots,none,none,none,none,none,none,none,none]) a65 () λ _ v_scalar=>Q7 v_counter v_scalar) λ _=>Ka cv v_rescue t_log t_heard t_world t_real t_roots v_counter
abbrev Kc (cv:CV) (v_script v_rescue v_heap t_log t_heard t_world t_real t_roots t_box v_counter v_gone:AV):M (Fl Unit) :=
 bd (mkL []) λ x63=>bd (rt t_roots) λ o64=>bd (yZ o64 x63) λ _=>Kb cv v_script v_rescue v_heap t_log t_heard t_world t_real t_roots t_box v_counter v_gone
abbrev Kd (cv:CV) (v_script v_rescue v_heap t_log t_heard t_world t_real t_roots t_box v_counter:AV):M (Fl Unit) :=
 bd (bd (rt t_roots) λ a62=>comp (λ v_number=>[none,some v_number,some t_real]) a62 (λ v_number=>(rt true)) (λ v_number=>(bd (rt t_real) λ a60=>bd (rt v_number) λ a61=>getI a60 a61))) λ v_gone=>Kc cv v_script v_rescue v_heap t_log t_heard t_world t_real t_roots t_box v_counter v_gone
abbrev Ke (cv:CV) (v_script v_rescue v_heap t_log t_heard t_world t_real t_roots t_box v_counter:AV):M (Fl Unit) :=
 thnG (λ _=>[some v_script,none,some v_heap,some t_log,some t_world,some .dstr,some v_counter,none,none,none,some t_box,some t_heard,some t_real,some v_rescue,some t_roots,none,none,none,none,none,none,none,none]) (bd (bd (rt v_script) λ a32=>bd (mkL [(rt (.int 1441)),(rt (.int 1603)),(rt (.int 8)),(rt (.int 9))]) λ a33=>addM a32 a33) λ a31=>forL (λ _=>[some v_script,none,some v_heap,some t_log,some t_world,some .dstr,some v_counter,none,none,none,some t_box,some t_heard,some t_real,some v_rescue,some t_roots,none,none,none,none,none,none,none,none]) a31 () λ _ v_n=>Q6 cv v_rescue t_log t_heard t_world t_real t_roots v_counter v_n) λ _=>Kd cv v_script v_rescue v_heap t_log t_heard t_world t_real t_roots t_box v_counter
abbrev Kf (cv:CV) (v_script v_rescue v_heap t_log t_heard t_world t_real t_roots t_box v_counter:AV):M (Fl Unit) :=
 thnG (λ _=>[some v_script,none,some v_heap,some t_log,some t_world,some .dstr,some v_counter,none,none,none,some t_box,some t_heard,some t_real,some v_rescue,some t_roots,none,none,none,none,none,none,none,none]) (bd (rt (.int 4)) λ a17=>forR (λ _=>[some v_script,none,some v_heap,some t_log,some t_world,some .dstr,some v_counter,none,none,none,some t_box,some t_heard,some t_real,some v_rescue,some t_roots,none,none,none,none,none,none,none,none]) a17 () λ _ v_turn=>Q1 t_world t_real t_roots v_counter v_turn) λ _=>Ke cv v_script v_rescue v_heap t_log t_heard t_world t_real t_roots t_box v_counter
abbrev Kg (cv:CV) (v_script v_rescue v_heap t_log t_heard t_world t_real t_roots t_box v_counter:AV):M (Fl Unit) :=
 bd (bd (rt t_box) λ o15=>bd (chkL o15) λ _=>bd (rt v_counter) λ a16=>appL o15 a16) λ _=>Kf cv v_script v_rescue v_heap t_log t_heard t_world t_real t_roots t_box v_counter
abbrev Kh (cv:CV) (v_script v_rescue v_heap t_log t_heard t_world t_real t_roots t_box:AV):M (Fl Unit) :=
 bd (bd (rt v_heap) λ a13=>bd (rt .dstr) λ a14=>new .counter λ o=>xy o a13 a14) λ v_counter=>Kg cv v_script v_rescue v_heap t_log t_heard t_world t_real t_roots t_box v_counter
noncomputable def ui (xs:List AV):M (Fl AV) :=
 bd (bd (al (.list (xs.take 24))) λ a8=>comp (λ v_n=>[none,some v_n,none]) a8 (λ v_n=>(rt true)) (λ v_n=>(bd (bd (rt v_n) λ a5=>absM a5) λ a3=>bd (bd (rt (.int 10)) λ a6=>bd (rt (.int 9)) λ a7=>powM a6 a7) λ a4=>modM a3 a4))) λ v_script =>
 rt (.nxt v_script)
noncomputable def uj (v_script:AV):M (Fl LT) :=
 bd (bd (bd (rt v_script) λ a11=>sumM a11) λ a9=>bd (rt (.int 4)) λ a10=>modM a9 a10) λ v_rescue =>
 bd (bd (new .limits λ o=>yX o (.int 64) (.int 50) (.int 1000000) (.int 100000) (.int 10000)) λ a12=>new .heap λ o=>xF o a12) λ v_heap =>
 bd (mkL []) λ t_log=>bd (mkL []) λ t_heard=>bd (al (.dI false [])) λ t_world=>bd (al (.dI false [])) λ t_real=>bd (mkL []) λ t_roots=>bd (mkL []) λ t_box=>bd (al (.tup [t_log,t_heard,t_world,t_real,t_roots,t_box])) λ _=> 
 rt (.nxt ⟨v_script,v_heap,t_log,t_world,⟨t_heard,t_real,v_rescue,t_roots,t_box⟩⟩)
noncomputable def wP (r:LT):M (Fl Unit) :=
 Kh r.cv r.script r.cv.rescue r.heap r.log r.cv.heard r.world r.cv.real r.cv.roots r.cv.box
end Mine
end
noncomputable section
namespace Mine.Pl
open Mine
noncomputable def wp {α:Type} (m:M α) (Q:α→Mem→Prop) (μ:Mem):Prop:= ∃ a μ',m μ=some (a,μ')∧Q a μ'
section
variable {α β ρ σ:Type} {μ:Mem}
theorem zf {m:M α} {a:α} {μ':Mem} {Q:α→Mem→Prop} (e:m μ=some (a,μ')) (h:Q a μ'):wp m Q μ:=⟨a,μ',e,h⟩
theorem zd {m:M α} {a:α} {μ':Mem} {Q:α→Mem→Prop} (e:m μ=some (a,μ')):wp m Q μ=Q a μ':=propext ⟨λ ⟨_,_,e',h⟩=>by rw [e] at e';obtain ⟨rfl,rfl⟩:=some2 e';exact h,zf e⟩
theorem wp_mono {m:M α} {Q Q':α→Mem→Prop} (h:wp m Q μ) (hq: ∀ a μ',Q a μ'→Q' a μ'):wp m Q' μ:=let ⟨a,μ',e,h⟩:=h;⟨a,μ',e,hq _ _ h⟩
theorem zq {m:M α} {f:α→M β} {Q:β→Mem→Prop}:wp (bd m f) Q μ=wp m (λ a μ'=>wp (f a) Q μ') μ:=by
 apply propext
 constructor
 ·rintro ⟨b,μ',e,h⟩
  unfold bd at e
  split at e
  ·exact ⟨_,_,by assumption,b,μ',e,h⟩
  ·exact za e
 ·rintro ⟨a,μ₁,e,b,μ',e',h⟩
  exact ⟨b,μ',by unfold bd;rw [e];exact e',h⟩
theorem zA {a:α} {Q:α→Mem→Prop}:wp (rt a) Q μ=Q a μ:=zd rfl
theorem Ki {Q:α→Mem→Prop}:wp (fl:M α) Q μ=False:=propext ⟨λ ⟨_,_,e,_⟩=>(by exact za e),False.elim⟩
theorem jK {a:α} {Q:α→Mem→Prop}:wp (opt (some a)) Q μ=Q a μ:=zd rfl
abbrev thnQ (Q:Fl σ→Mem→Prop) (k:ρ→M (Fl σ)):Fl ρ→Mem→Prop:=λ f μ=>match f with
 | .nxt r=>wp (k r) Q μ
 | .cnt=>Q .cnt μ
 | .ret v=>Q (.ret v) μ
theorem UU {m:M (Fl ρ)} {k:ρ→M (Fl σ)} {Q:Fl σ→Mem→Prop}:wp (thn m k) Q μ=wp m (thnQ Q k) μ:=by
 unfold thn
 rw [zq]
 congr 1
 funext f μ'
 cases f <;> simp [thnQ,zA]
theorem uM {G:ρ→Cx0} {m:M (Fl ρ)} {k:ρ→M (Fl σ)} {Q:Fl σ→Mem→Prop}:wp (thnG G m k) Q μ=wp m (thnQ Q k) μ:=UU
theorem gz {Q:Fl σ→Mem→Prop} {k:ρ→M (Fl σ)} {r:ρ}:thnQ Q k (.nxt r) μ=wp (k r) Q μ:=rfl
abbrev finQ (Q:AV→Mem→Prop):Fl Unit→Mem→Prop:=λ f μ=>match f with
 | .nxt _=>Q .none μ
 | .cnt=>False
 | .ret v=>Q v μ
theorem uk {m:M (Fl Unit)} {Q:AV→Mem→Prop}:wp (fin m) Q μ=wp m (finQ Q) μ:=by
 unfold fin
 rw [zq]
 congr 1
 funext f μ'
 cases f <;> simp [finQ,zA,Ki]
theorem ul {b:Bool} {Q:Bool→Mem→Prop}:wp (tru (.bool b)) Q μ=Q b μ:=zd rfl
theorem Zr {m:M Bool} {Q:Bool→Mem→Prop}:wp (notC m) Q μ=wp m (λ b μ'=>Q (!b) μ') μ:=by
 unfold notC;simp only [zq,zA]
theorem Gl {m n:M Bool} {Q:Bool→Mem→Prop}:wp (andC m n) Q μ=wp m (λ b μ'=>if b then wp n Q μ' else Q false μ') μ:=by
 unfold andC;simp only [zq]
 congr 1;funext b μ';cases b <;> simp [zA]
theorem Go {m n:M Bool} {Q:Bool→Mem→Prop}:wp (orC m n) Q μ=wp m (λ b μ'=>if b then Q true μ' else wp n Q μ') μ:=by
 unfold orC;simp only [zq]
 congr 1;funext b μ';cases b <;> simp [zA]
theorem Gm {c:M Bool} {m n:M AV} {Q:AV→Mem→Prop}:wp (iteV c m n) Q μ=wp c (λ b μ'=>if b then wp m Q μ' else wp n Q μ') μ:=by
 unfold iteV;simp only [zq]
 congr 1;funext b μ';cases b <;> exact rfl
theorem Vw {m n:M AV} {Q:AV→Mem→Prop}:wp (andV m n) Q μ=wp m (λ x μ'=>wp (tru x) (λ t μ''=>if t then wp n Q μ'' else Q x μ'') μ') μ:=by
 unfold andV;simp only [zq]
 congr 1;funext b μ'
 congr 1;funext t μ'';cases t <;> simp [zA]
theorem Gn {c:Bool} {m n:M α} {Q:α→Mem→Prop}:wp (if c then m else n) Q μ=if c then wp m Q μ else wp n Q μ:=by cases c <;> rfl
theorem gA {i j:Int} {Q:AV→Mem→Prop}:wp (eqM (.int i) (.int j)) Q μ=Q (.bool (decide (i=j))) μ:=zd (by
 show some _=_
 exact rfl)
theorem UV {i j:String} {Q:AV→Mem→Prop}:wp (eqM (.str i) (.str j)) Q μ=Q (.bool (decide (i=j))) μ:=zd (by
 show some _=_
 exact rfl)
theorem UW {i j:Bool} {Q:AV→Mem→Prop}:wp (eqM (.bool i) (.bool j)) Q μ=Q (.bool (decide (i=j))) μ:=zd rfl
theorem UX {b:Bool} {Q:AV→Mem→Prop}:wp (neg (.bool b)) Q μ=Q (.bool (!b)) μ:=zd rfl
theorem UY {v:AV} {Q:AV→Mem→Prop}:wp (isN v) Q μ=Q (.bool (decide (v= .none))) μ:=zd rfl
theorem Vx {v:AV} {Q:AV→Mem→Prop}:wp (isNN v) Q μ=Q (.bool (!decide (v= .none))) μ:=zd rfl
theorem Kj {i j:Int} {Q:AV→Mem→Prop}:wp (ltM (.int i) (.int j)) Q μ=Q (.bool (decide (i < j))) μ:=zd rfl
theorem Kk {i j:Int} {Q:AV→Mem→Prop}:wp (gtM (.int i) (.int j)) Q μ=Q (.bool (decide (j < i))) μ:=zd rfl
theorem UZ {i j:Int} {Q:AV→Mem→Prop}:wp (addM (.int i) (.int j)) Q μ=Q (.int (i+j)) μ:=zd rfl
theorem Vy {i j:Int} {Q:AV→Mem→Prop}:wp (iaddM (.int i) (.int j)) Q μ=Q (.int (i+j)) μ:=zd rfl
theorem Xa {i j:Int} {Q:AV→Mem→Prop}:wp (subM (.int i) (.int j)) Q μ=Q (.int (i - j)) μ:=zd rfl
theorem gB {i j:Nat} {Q:AV→Mem→Prop} (h:0 < j):wp (modM (.int i) (.int j)) Q μ=Q (.int ((i % j:Nat):Int)) μ:=by
 unfold modM i2;dsimp only
 have:(0:Int) < j:=by lia
 simp only [this,if_true,zA]
 rw [Int.fmod_eq_emod_of_nonneg _ (by lia)]
 rfl
theorem U0 {i j:Nat} {Q:AV→Mem→Prop} (h:0 < j) (h':j < 1000):wp (divM (.int i) (.int j)) Q μ=Q (.int ((i / j:Nat):Int)) μ:=by
 unfold divM i2;dsimp only
 have:(0:Int) < j∧(j:Int) < 1000:=by lia
 simp only [this,and_self,if_true,zA]
 rw [Int.fdiv_eq_ediv_of_nonneg _ (by lia)]
 rfl
theorem Vz {i k:Nat} {Q:AV→Mem→Prop} (h:0 < k):wp (modM (.int i) (.int (OfNat.ofNat k))) Q μ=Q (.int ((i % k:Nat):Int)) μ:=gB h
theorem VA {i k:Nat} {Q:AV→Mem→Prop} (h:0 < k) (h':k < 1000):wp (divM (.int i) (.int (OfNat.ofNat k))) Q μ=Q (.int ((i / k:Nat):Int)) μ:=U0 h h'
theorem Gr {p q:Prop}:(if (false=true) then p else q)=q:=rfl
theorem Gs {p q:Prop}:(if (true=true) then p else q)=p:=rfl
theorem VB {Q:List AV→Mem→Prop}:wp (evs []) Q μ=Q [] μ:=zA
theorem Xb {m:M AV} {ms:List (M AV)} {Q:List AV→Mem→Prop}:wp (evs (m :: ms)) Q μ=wp m (λ a μ'=>wp (evs ms) (λ as μ''=>Q (a :: as) μ'') μ') μ:=by
 show wp (bd m λ a=>bd (evs ms) λ as=>rt (a :: as)) Q μ=_
 simp only [zq,zA]
theorem toI {p q:Prop} (e:p=q) (h:q):p:=e.mpr h
abbrev bdQ (f:α→M β) (Q:β→Mem→Prop):α→Mem→Prop:=λ a μ=>wp (f a) Q μ
theorem bd_ {m:M α} {f:α→M β} {Q:β→Mem→Prop}:wp (bd m f) Q μ=wp m (bdQ f Q) μ:=zq
theorem wJ {f:α→M β} {Q:β→Mem→Prop} {a:α}:bdQ f Q a μ=wp (f a) Q μ:=rfl
abbrev ntQ (Q:Bool→Mem→Prop):Bool→Mem→Prop:=λ b μ=>Q (!b) μ
theorem nt_ {m:M Bool} {Q:Bool→Mem→Prop}:wp (notC m) Q μ=wp m (ntQ Q) μ:=Zr
abbrev anQ (n:M Bool) (Q:Bool→Mem→Prop):Bool→Mem→Prop:=bdQ (λ b=>if b then n else rt false) Q
theorem an_ {m n:M Bool} {Q:Bool→Mem→Prop}:wp (andC m n) Q μ=wp m (anQ n Q) μ:=zq
abbrev orQ (n:M Bool) (Q:Bool→Mem→Prop):Bool→Mem→Prop:=bdQ (λ b=>if b then rt true else n) Q
theorem or_ {m n:M Bool} {Q:Bool→Mem→Prop}:wp (orC m n) Q μ=wp m (orQ n Q) μ:=zq
abbrev itQ (m n:M AV) (Q:AV→Mem→Prop):Bool→Mem→Prop:=bdQ (λ b=>if b then m else n) Q
theorem it_ {c:M Bool} {m n:M AV} {Q:AV→Mem→Prop}:wp (iteV c m n) Q μ=wp c (itQ m n Q) μ:=zq
theorem ne_ {a b:AV} {Q:AV→Mem→Prop}:wp (neM a b) Q μ=wp (eqM a b) (bdQ neg Q) μ:=zq
abbrev coQ (a:AV) (Q:List AV→Mem→Prop):List AV→Mem→Prop:=λ as μ=>Q (a :: as) μ
theorem H4 {a:AV} {as:List AV} {Q:List AV→Mem→Prop}:coQ a Q as μ=Q (a :: as) μ:=rfl
abbrev evQ (ms:List (M AV)) (Q:List AV→Mem→Prop):AV→Mem→Prop:=λ a μ=>wp (evs ms) (coQ a Q) μ
theorem ev_ {m:M AV} {ms:List (M AV)} {Q:List AV→Mem→Prop}:wp (evs (m :: ms)) Q μ=wp m (evQ ms Q) μ:=Xb
theorem H5 {ms:List (M AV)} {Q:List AV→Mem→Prop} {a:AV}:evQ ms Q a μ=wp (evs ms) (coQ a Q) μ:=rfl
abbrev mlQ (Q:AV→Mem→Prop):List AV→Mem→Prop:=λ xs μ=>wp (al (.list xs)) Q μ
theorem ml_ {ms:List (M AV)} {Q:AV→Mem→Prop}:wp (mkL ms) Q μ=wp (evs ms) (mlQ Q) μ:=zq
theorem H6 {Q:AV→Mem→Prop} {xs:List AV}:mlQ Q xs μ=wp (al (.list xs)) Q μ:=rfl
abbrev mtQ (Q:AV→Mem→Prop):List AV→Mem→Prop:=λ xs μ=>wp (al (.tup xs)) Q μ
theorem mt_ {ms:List (M AV)} {Q:AV→Mem→Prop}:wp (mkT ms) Q μ=wp (evs ms) (mtQ Q) μ:=zq
theorem H7 {Q:AV→Mem→Prop} {xs:List AV}:mtQ Q xs μ=wp (al (.tup xs)) Q μ:=rfl
theorem iT {a:α} {f:α→M β} {Q:β→Mem→Prop} (h:wp (f a) Q μ):wp (bd (rt a) f) Q μ:=toI zq (toI zA h)
theorem w1.iz {m:M α} {f:α→M β} {Q:β→Mem→Prop} (h:wp m (bdQ f Q) μ):wp (bd m f) Q μ:=toI zq h
theorem w2.iz {a:α} {Q:α→Mem→Prop} (h:Q a μ):wp (rt a) Q μ:=toI zA h
theorem w3.iz {G:ρ→Cx0} {m:M (Fl ρ)} {k:ρ→M (Fl σ)} {Q:Fl σ→Mem→Prop} (h:wp m (thnQ Q k) μ):wp (thnG G m k) Q μ:=toI uM h
theorem w4.iz {m:M (Fl Unit)} {Q:AV→Mem→Prop} (h:wp m (finQ Q) μ):wp (fin m) Q μ:=toI uk h
theorem w5.iz {b:Bool} {Q:Bool→Mem→Prop} (h:Q b μ):wp (tru (.bool b)) Q μ:=toI ul h
theorem iA {c:Bool} {m n:M α} {Q:α→Mem→Prop} (e:c=true) (h:wp m Q μ):wp (if c then m else n) Q μ:=by rw [e];exact h
theorem iE {c:Bool} {m n:M α} {Q:α→Mem→Prop} (e:c=false) (h:wp n Q μ):wp (if c then m else n) Q μ:=by rw [e];exact h
theorem w6.iz {m:M Bool} {Q:Bool→Mem→Prop} (h:wp m (ntQ Q) μ):wp (notC m) Q μ:=toI Zr h
theorem w7.iz {m n:M Bool} {Q:Bool→Mem→Prop} (h:wp m (anQ n Q) μ):wp (andC m n) Q μ:=toI an_ h
theorem w8.iz {m n:M Bool} {Q:Bool→Mem→Prop} (h:wp m (orQ n Q) μ):wp (orC m n) Q μ:=toI or_ h
theorem w9.iz {c:M Bool} {m n:M AV} {Q:AV→Mem→Prop} (h:wp c (itQ m n Q) μ):wp (iteV c m n) Q μ:=toI it_ h
theorem w10.iz {a b:AV} {Q:AV→Mem→Prop} (h:wp (eqM a b) (bdQ neg Q) μ):wp (neM a b) Q μ:=toI zq h
theorem w11.iz {b:Bool} {Q:AV→Mem→Prop} (h:Q (.bool (!b)) μ):wp (neg (.bool b)) Q μ:=toI UX h
theorem w12.iz {m:M AV} {ms:List (M AV)} {Q:List AV→Mem→Prop} (h:wp m (evQ ms Q) μ):wp (evs (m :: ms)) Q μ:=toI Xb h
theorem w13.iz {Q:List AV→Mem→Prop} (h:Q [] μ):wp (evs []) Q μ:=toI zA h
theorem w14.iz {ms:List (M AV)} {Q:AV→Mem→Prop} (h:wp (evs ms) (mlQ Q) μ):wp (mkL ms) Q μ:=toI zq h
theorem w15.iz {ms:List (M AV)} {Q:AV→Mem→Prop} (h:wp (evs ms) (mtQ Q) μ):wp (mkT ms) Q μ:=toI zq h
theorem w16.iz {i j:Int} {Q:AV→Mem→Prop} (h:Q (.bool (decide (i=j))) μ):wp (eqM (.int i) (.int j)) Q μ:=toI gA h
theorem w17.iz {i j:String} {Q:AV→Mem→Prop} (h:Q (.bool (decide (i=j))) μ):wp (eqM (.str i) (.str j)) Q μ:=toI UV h
theorem w18.iz {i j:Bool} {Q:AV→Mem→Prop} (h:Q (.bool (decide (i=j))) μ):wp (eqM (.bool i) (.bool j)) Q μ:=toI UW h
theorem w19.iz {v:AV} {Q:AV→Mem→Prop} (h:Q (.bool (decide (v= .none))) μ):wp (isN v) Q μ:=toI UY h
theorem w20.iz {v:AV} {Q:AV→Mem→Prop} (h:Q (.bool (!decide (v= .none))) μ):wp (isNN v) Q μ:=toI Vx h
theorem w21.iz {i j:Int} {Q:AV→Mem→Prop} (h:Q (.bool (decide (i < j))) μ):wp (ltM (.int i) (.int j)) Q μ:=toI Kj h
theorem w22.iz {i j:Int} {Q:AV→Mem→Prop} (h:Q (.bool (decide (j < i))) μ):wp (gtM (.int i) (.int j)) Q μ:=toI Kk h
theorem w23.iz {i j:Int} {Q:AV→Mem→Prop} (h:Q (.int (i+j)) μ):wp (addM (.int i) (.int j)) Q μ:=toI UZ h
theorem w24.iz {i j:Int} {Q:AV→Mem→Prop} (h:Q (.int (i+j)) μ):wp (iaddM (.int i) (.int j)) Q μ:=toI Vy h
theorem w25.iz {i j:Int} {Q:AV→Mem→Prop} (h:Q (.int (i - j)) μ):wp (subM (.int i) (.int j)) Q μ:=toI Xa h
theorem w26.iz {i k:Nat} {Q:AV→Mem→Prop} (h:Q (.int ((i % k:Nat):Int)) μ) (h0:0 < k:=by decide):wp (modM (.int i) (.int (OfNat.ofNat k))) Q μ:=toI (Vz h0) h
theorem w27.iz {i k:Nat} {Q:AV→Mem→Prop} (h:Q (.int ((i / k:Nat):Int)) μ) (h0:0 < k:=by decide) (h1:k < 1000:=by decide):wp (divM (.int i) (.int (OfNat.ofNat k))) Q μ:=toI (VA h0 h1) h
theorem iW {c:Cl} {init:AV→M AV} {Q:AV→Mem→Prop} (h:wp (al (.inst c [])) (bdQ (λ o=>bd (init o) λ r=>if r= .none then rt o else fl) Q) μ):wp (new c init) Q μ:=toI zq h
theorem w28.iz {o:AV} {Q:AV→Mem→Prop} (h:Q o μ):wp (if AV.none=AV.none then rt o else fl) Q μ:=toI (by rw [if_pos rfl];exact zA) h
end
inductive L2 {α β:Type} (R:α→β→Prop):List α→List β→Prop
 | nil:L2 R [] []
 | cons {a b as bs}:R a b→L2 R as bs→L2 R (a :: as) (b :: bs)
namespace L2
variable {α β:Type} {R S:α→β→Prop}
theorem len {as:List α} {bs:List β} (h:L2 R as bs):as.length=bs.length:=by
 induction h with
 | nil=>rfl
 | cons _ _ ih=>simp [ih]
theorem mono (hm: ∀ a b,b∈bs→R a b→S a b) {as:List α} (h:L2 R as bs):L2 S as bs:=by
 induction h with
 | nil=>exact .nil
 | cons h _ ih=>exact .cons (hm _ _ (.head _) h) (ih λ a b hb=>hm a b (.tail _ ‹_›))
theorem imp (hm: ∀ a b,R a b→S a b) {as:List α} {bs:List β} (h:L2 R as bs):L2 S as bs:=h.mono λ a b _=>hm a b
theorem app {as as':List α} {bs bs':List β} (h:L2 R as bs) (h':L2 R as' bs'):L2 R (as ++ as') (bs ++ bs'):=by
 induction h with
 | nil=>exact h'
 | cons h _ ih=>exact .cons h ih
theorem snoc {as:List α} {bs:List β} {a:α} {b:β} (h:L2 R as bs) (h':R a b):L2 R (as ++ [a]) (bs ++ [b]):=h.app (.cons h' .nil)
theorem at_ {as:List α} {bs:List β} (h:L2 R as bs): ∀ {i:Nat} {b:β},bs[i]? =some b→ ∃ a,as[i]? =some a∧R a b:=by
 induction h with
 | nil=>intro i b e;simp at e
 | @cons a b as bs hr _ ih =>
  intro i c e
  cases i with
  | zero=>simp at e;subst e;exact ⟨a,rfl,hr⟩
  | succ i=>simp at e;obtain ⟨x,h1,h2⟩:=ih e;exact ⟨x,by simpa using h1,h2⟩
end L2
inductive PV where
 | none | int (i:Int) | ref (n:Nat) | weak (n:Nat)
 deriving DecidableEq
inductive Cont where
 | s (v:PV) | a (xs:List Nat) | h (es:List (String × Nat))
 deriving DecidableEq
set_option genCtorIdx false in
structure Th where
 c:Cont
 cnt:Int
 bl:Bool
 ds:Bool
 fr:Bool
 weak:List Nat
set_option genInjectivity false in
set_option genCtorIdx false in
structure Row where
 c:Cont
 bl:Bool
 ds:Bool
noncomputable def Cont.cl:Cont→Cl
 | .s _=> .scalar | .a _=> .array | .h _=> .hash
noncomputable def Cont.kind:Cont→String
 | .s _=>"S" | .a _=>"A" | .h _=>"H"
set_option genInjectivity false in
inductive Role where
 | junk | im (o:AO) | tm (o:AO) | nw (o:AO) | heap | counter | places | world | real | roots | log | heard | box | zero
 | thing (n:Nat) | weak (n:Nat) | cont (n:Nat) | row (n:Nat) | inn (n:Nat)
set_option genInjectivity false in
set_option genCtorIdx false in
structure S where
 th:Nat→Th
 zero:List Nat
 heard:List Nat
 last:Nat
 real:List Nat
 roots:List Nat
 wk:List Nat
 row:Nat→Row
 lastRow:Nat
 log:List Nat
 lkW:Bool
 lkR:Bool
 lkT:Nat→Bool
theorem thE {f g:Nat→Th} {a b d e h:List Nat} {c k:Nat} {r:Nat→Row} {l:List Nat} {x y:Bool} {z:Nat→Bool} (q: ∀ n,f n=g n):S.mk f a b c d e h r k l x y z=S.mk g a b c d e h r k l x y z:=by rw [funext q]
set_option genInjectivity false in
set_option genCtorIdx false in
structure Ad where
 heap:Nat
 counter:Nat
 places:Nat
 world:Nat
 real:Nat
 roots:Nat
 log:Nat
 heard:Nat
 box:Nat
abbrev Own:=Nat→Role
noncomputable def at_ (own:Own) (v:AV) (r:Role):Prop:= ∃ i,v= .obj i∧own i=r
noncomputable def refO (own:Own) (n:Nat) (w:Bool) (o:AO):Prop:= ∃ v,at_ own v (.thing n)∧o= .inst .ref [("target",v),("is_weak", .bool w)]
noncomputable def tupO (n:Nat) (w:Bool):AO:= .tup [.str (if w then "weak" else "ref"), .int n]
noncomputable def VT (own:Own):PV→AV→Prop
 | .none,x=>x= .none
 | .int i,x=>x= .int i
 | .ref n,x=> ∃ i o,x= .obj i∧own i= .im o∧refO own n false o
 | .weak n,x=> ∃ i o,x= .obj i∧own i= .im o∧refO own n true o
noncomputable def VW (own:Own):PV→AV→Prop
 | .none,x=>x= .none
 | .int i,x=>x= .int i
 | .ref n,x=>at_ own x (.im (tupO n false))
 | .weak n,x=>at_ own x (.im (tupO n true))
noncomputable def Things (own:Own) (vs:List AV) (ns:List Nat):Prop:=L2 (λ v n=>at_ own v (.thing n)) vs ns
noncomputable def nums (ns:List Nat):List AV:=ns.map λ n:Nat=>AV.int n
noncomputable def blv (b:Bool):AV:=if b then .str "P" else .none
noncomputable def Tail (own:Own) (n:Nat):Cont→List (String × AV)→Prop
 | .s v,l=> ∃ x,VT own v x∧l=[("value",x),("magic", .none)]
 | .a _,l=> ∃ x,at_ own x (.cont n)∧l=[("items",x),("tied", .none)]
 | .h _,l=> ∃ x,at_ own x (.cont n)∧l=[("table",x),("at", .int 0),("tied", .none)]
noncomputable def RTail (own:Own) (n:Nat):Cont→AV→Prop
 | .s v,x=>VW own v x
 | .a _,x=>at_ own x (.inn n)
 | .h _,x=>at_ own x (.inn n)
noncomputable def pairO (e:String × Nat):AO:= .list [.str e.1, .int e.2]
noncomputable def Desc (K:Ad) (own:Own) (σ:S):Role→AO→Prop
 | .junk,_=>True
 | .im o',o=>o=o'
 | .tm o',o=>o=o'
 | .nw o',o=>o=o'
 | .heap,o=> ∃ x z,at_ own z .zero∧o= .inst .heap [("limits",x),("last", .int σ.last),("zero",z)]
 | .counter,o=>o= .inst .counter [("heap", .obj K.heap),("destroy", .dstr),("places", .obj K.places)]
 | .places,o=>o= .dI false []
 | .world,o=> ∃ es,o= .dI σ.lkW es∧L2 (λ e (n:Nat)=>e.1=(n:Int)∧at_ own e.2 (.row n)) es σ.wk
 | .real,o=> ∃ es,o= .dI σ.lkR es∧L2 (λ e (n:Nat)=>e.1=(n:Int)∧at_ own e.2 (.thing n)) es σ.real
 | .roots,o=>o= .list (nums σ.roots)
 | .log,o=>o= .list (nums σ.log)
 | .heard,o=>o= .list (nums σ.heard)
 | .box,o=>o= .list [.obj K.counter]
 | .zero,o=> ∃ vs,o= .list vs∧Things own vs σ.zero
 | .thing n,o=> ∃ w l,at_ own w (.weak n)∧Tail own n (σ.th n).c l∧o= .inst (σ.th n).c.cl (("number", .int n) :: ("count", .int (σ.th n).cnt) :: ("blessed",blv (σ.th n).bl) :: ("weak",w) :: ("is_destroyed", .bool (σ.th n).ds) :: ("is_freed", .bool (σ.th n).fr) :: l)
 | .weak n,o=> ∃ vs,o= .list vs∧Things own vs (σ.th n).weak
 | .cont n,o=>match (σ.th n).c with
  | .s _=>False
  | .a xs=> ∃ vs,o= .list vs∧Things own vs xs
  | .h es=> ∃ ls,o= .dS (σ.lkT n) ls∧L2 (λ l e=>l.1=e.1∧at_ own l.2 (.thing e.2)) ls es
 | .row n,o=> ∃ x,RTail own n (σ.row n).c x∧o= .list [.str (σ.row n).c.kind, .bool (σ.row n).bl, .bool (σ.row n).ds,x]
 | .inn n,o=>match (σ.row n).c with
  | .s _=>False
  | .a xs=>o= .list (nums xs)
  | .h es=> ∃ vs,o= .list vs∧L2 (λ v e=>at_ own v (.im (pairO e))) vs es
noncomputable def Role.once:Role→Bool
 | .junk=>false | .im _=>false | .tm _=>false | .nw _=>false | _=>true
noncomputable def Role.num:Role→Nat
 | .thing n=>n | .weak n=>n | .cont n=>n | _=>0
noncomputable def Role.rnum:Role→Nat
 | .row n=>n | .inn n=>n | _=>0
structure Rep (K:Ad) (own:Own) (σ:S) (μ:Mem):Prop where
 len: ∀ i,μ.length≤i→own i= .junk
 desc: ∀ i o,μ[i]? =some o→Desc K own σ (own i) o
 uniq: ∀ i j,own i=own j→(own i).once=true→i=j
 bnd: ∀ i,(own i).num≤σ.last∧(own i).rnum≤σ.lastRow
 kH:own K.heap= .heap
 kC:own K.counter= .counter
 kP:own K.places= .places
 kW:own K.world= .world
 kR:own K.real= .real
 kO:own K.roots= .roots
 kL:own K.log= .log
 kE:own K.heard= .heard
 kB:own K.box= .box
noncomputable def Role.keep:Role→Bool
 | .junk=>false | .nw _=>false | .weak _=>false | .cont _=>false | .zero=>false | _=>true
noncomputable def Ext (own own':Own):Prop:= ∀ i,(own i).keep=true→own' i=own i
theorem Ext.refl {own:Own}:Ext own own:=λ _ _=>rfl
theorem Ext.trans {a b c:Own} (h:Ext a b) (h':Ext b c):Ext a c:=λ i hi=>by
 have:=h i hi
 rw [h' i (by rw [this];exact hi),this]
theorem at_.ext {own own':Own} {v:AV} {r:Role} (e:Ext own own') (hr:r.keep=true) (h:at_ own v r):at_ own' v r:=by
 obtain ⟨i,rfl,h⟩:=h
 exact ⟨i,rfl,by rw [e i (by rw [h];exact hr),h]⟩
theorem at_.th {own own':Own} {v:AV} {n:Nat} (h:at_ own v (.thing n)) (e:Ext own own'):at_ own' v (.thing n):=h.ext e rfl
theorem refO.ext {own own':Own} {n:Nat} {w:Bool} {o:AO} (e:Ext own own') (h:refO own n w o):refO own' n w o:=let ⟨v,a,b⟩:=h;⟨v,a.th e,b⟩
theorem VT.ext {own own':Own} {v:PV} {x:AV} (h:VT own v x) (e:Ext own own'):VT own' v x:=by
 cases v with
 | none=>exact h
 | int i=>exact h
 | ref n=>obtain ⟨i,o,a,b,c⟩:=h;exact ⟨i,o,a,by rw [e i (by rw [b];rfl),b],c.ext e⟩
 | weak n=>obtain ⟨i,o,a,b,c⟩:=h;exact ⟨i,o,a,by rw [e i (by rw [b];rfl),b],c.ext e⟩
theorem VW.ext {own own':Own} {v:PV} {x:AV} (h:VW own v x) (e:Ext own own'):VW own' v x:=by
 cases v with
 | none=>exact h
 | int i=>exact h
 | ref n=>exact at_.ext e rfl h
 | weak n=>exact at_.ext e rfl h
theorem Things.ext {own own':Own} {vs:List AV} {ns:List Nat} (h:Things own vs ns) (e:Ext own own'):Things own' vs ns:=L2.imp (λ _ _ h=>h.th e) h
noncomputable def Refs:Role→Role→Prop
 | .heap,r=>r= .zero
 | .world,r=> ∃ m,r= .row m
 | .real,r=> ∃ m,r= .thing m
 | .zero,r=> ∃ m,r= .thing m
 | .thing n,r=>r= .weak n∨r= .cont n∨(∃ m,r= .thing m)∨ ∃ o,r= .im o
 | .weak _,r=> ∃ m,r= .thing m
 | .cont _,r=> ∃ m,r= .thing m
 | .row n,r=>r= .inn n∨ ∃ o,r= .im o
 | .inn _,r=> ∃ o,r= .im o
 | _,_=>False
theorem at_.mono {own own':Own} {v:AV} {r:Role} (h:at_ own v r) (e: ∀ j,own j=r→own' j=r):at_ own' v r:=by
 obtain ⟨i,rfl,h⟩:=h;exact ⟨i,rfl,e i h⟩
theorem Tail.mono {own own':Own} {n:Nat} {c:Cont} {l:List (String × AV)} (h:Tail own n c l) (e: ∀ j r,own j=r→Refs (.thing n) r→own' j=r):Tail own' n c l:=by
 have ht: ∀ {m v},at_ own v (.thing m)→at_ own' v (.thing m):=λ h=>h.mono λ j hj=>e j _ hj (.inr (.inr (.inl ⟨_,rfl⟩)))
 cases c with
 | a _=>obtain ⟨x,a,b⟩:=h;exact ⟨x,a.mono λ j hj=>e j _ hj (.inr (.inl rfl)),b⟩
 | h _=>obtain ⟨x,a,b⟩:=h;exact ⟨x,a.mono λ j hj=>e j _ hj (.inr (.inl rfl)),b⟩
 | s v =>
  obtain ⟨x,a,b⟩:=h
  refine ⟨x,?_,b⟩
  cases v with
  | none=>exact a
  | int i=>exact a
  | ref m=>obtain ⟨i,o,a,b,v,c,d⟩:=a;exact ⟨i,o,a,e i _ b (.inr (.inr (.inr ⟨_,rfl⟩))),v,ht c,d⟩
  | weak m=>obtain ⟨i,o,a,b,v,c,d⟩:=a;exact ⟨i,o,a,e i _ b (.inr (.inr (.inr ⟨_,rfl⟩))),v,ht c,d⟩
set_option tactic.hygienic true in
theorem Desc.own_mono {K:Ad} {own own':Own} {σ:S} {r:Role} {o:AO} (h:Desc K own σ r o) (e: ∀ j r',own j=r'→Refs r r'→own' j=r'):Desc K own' σ r o:=by
 cases r with
 | heap=>obtain ⟨x,z,a,b⟩:=h;exact ⟨x,z,a.mono λ j hj=>e j _ hj rfl,b⟩
 | world=>obtain ⟨es,a,b⟩:=h;exact ⟨es,a,b.imp λ _ _ h=>⟨h.1,h.2.mono λ j hj=>e j _ hj ⟨_,rfl⟩⟩⟩
 | real=>obtain ⟨es,a,b⟩:=h;exact ⟨es,a,b.imp λ _ _ h=>⟨h.1,h.2.mono λ j hj=>e j _ hj ⟨_,rfl⟩⟩⟩
 | zero=>obtain ⟨es,a,b⟩:=h;exact ⟨es,a,L2.imp (λ _ _ h=>h.mono λ j hj=>e j _ hj ⟨_,rfl⟩) b⟩
 | thing n=>obtain ⟨w,l,a,b,c⟩:=h;exact ⟨w,l,a.mono λ j hj=>e j _ hj (.inl rfl),b.mono e,c⟩
 | weak n=>obtain ⟨es,a,b⟩:=h;exact ⟨es,a,L2.imp (λ _ _ h=>h.mono λ j hj=>e j _ hj ⟨_,rfl⟩) b⟩
 | cont n =>
  unfold Desc at h ⊢
  dsimp only at h ⊢
  split
  ·rename_i q;rw [q] at h;exact h
  ·rename_i q;rw [q] at h;obtain ⟨es,a,b⟩:=h;exact ⟨es,a,L2.imp (λ _ _ h=>h.mono λ j hj=>e j _ hj ⟨_,rfl⟩) b⟩
  ·rename_i q;rw [q] at h;obtain ⟨es,a,b⟩:=h;exact ⟨es,a,b.imp λ _ _ h=>⟨h.1,h.2.mono λ j hj=>e j _ hj ⟨_,rfl⟩⟩⟩
 | row n =>
  obtain ⟨x,a,b⟩:=h
  refine ⟨x,?_,b⟩
  have hi: ∀ {o v},at_ own v (.im o)→at_ own' v (.im o):=λ h=>h.mono λ j hj=>e j _ hj (.inr ⟨_,rfl⟩)
  revert a
  cases (σ.row n).c with
  | a _=>exact λ a=>at_.mono a λ j hj=>e j _ hj (.inl rfl)
  | h _=>exact λ a=>at_.mono a λ j hj=>e j _ hj (.inl rfl)
  | s v =>
   intro a
   cases v with
   | none=>exact a
   | int i=>exact a
   | ref m=>exact hi a
   | weak m=>exact hi a
 | inn n =>
  unfold Desc at h ⊢
  dsimp only at h ⊢
  split
  ·rename_i q;rw [q] at h;exact h
  ·rename_i q;rw [q] at h;exact h
  ·rename_i q;rw [q] at h;obtain ⟨es,a,b⟩:=h;exact ⟨es,a,b.imp λ _ _ h=>h.mono λ j hj=>e j _ hj ⟨_,rfl⟩⟩
 | _=>exact h
section
variable {K:Ad} {own own':Own} {σ σ':S} {μ:Mem}
theorem Rep.at' (R:Rep K own σ μ) {i:Nat} {r:Role} (h:own i=r) (hr:r≠ .junk): ∃ o,μ[i]? =some o∧Desc K own σ r o:=by
 have hi:i < μ.length:=by
  rcases Nat.lt_or_ge i μ.length with h' | h'
  ·exact h'
  ·exact absurd (h ▸ R.len i h') hr
 exact ⟨μ[i],List.getElem?_eq_getElem hi,h ▸ R.desc i _ (List.getElem?_eq_getElem hi)⟩
theorem Rep.set (R:Rep K own σ μ) {i:Nat} {r:Role} {o':AO} (hi:own i=r) (hr:r.once=true) (hl:σ.last≤σ'.last∧σ.lastRow≤σ'.lastRow) (hd:Desc K own σ' r o') (hs: ∀ r',r'≠r→ ∀ o,Desc K own σ r' o→Desc K own σ' r' o):Rep K own σ' (μ.set i o') :=
 {R with
  len:=λ j hj=>R.len j (by simpa using hj)
  bnd:=λ j=>⟨Nat.le_trans (R.bnd j).1 hl.1,Nat.le_trans (R.bnd j).2 hl.2⟩
  desc:=λ j o e=>by
   by_cases hj:i=j
   ·subst hj
    have hlt:i < μ.length:=by
     rcases Nat.lt_or_ge i μ.length with h' | h'
     ·exact h'
     ·simp [List.getElem?_eq_none (by simpa using h':(μ.set i o').length≤i)] at e
    rw [List.getElem?_set_self hlt] at e
    obtain rfl:=Option.some.inj e
    rw [hi];exact hd
   ·rw [List.getElem?_set_ne hj] at e
    exact hs _ (λ q=>hj (R.uniq i j (by rw [hi,q]) (by rw [hi];exact hr))) _ (R.desc j o e)}
theorem Rep.same (R:Rep K own σ μ) (hl:σ.last≤σ'.last∧σ.lastRow≤σ'.lastRow) (hs: ∀ r' o,Desc K own σ r' o→Desc K own σ' r' o):Rep K own σ' μ :=
 {R with
  bnd:=λ j=>⟨Nat.le_trans (R.bnd j).1 hl.1,Nat.le_trans (R.bnd j).2 hl.2⟩
  desc:=λ j o e=>hs _ _ (R.desc j o e)}
noncomputable def up (own:Own) (i:Nat) (r:Role):Own:=λ j=>if j=i then r else own j
theorem zy {i:Nat} {r:Role}:up own i r i=r:=by simp [up]
theorem zB {i j:Nat} {r:Role} (h:j≠i):up own i r j=own j:=by simp [up,h]
noncomputable def Role.live:Role→Bool
 | .junk=>false | .nw _=>false | _=>true
theorem Refs.live {r r':Role} (h:Refs r r'):r'.live=true:=by
 cases r with
 | thing m=>rcases h with rfl | rfl | ⟨_,rfl⟩ | ⟨_,rfl⟩ <;> rfl
 | heap=>rw [show r'= .zero from h];rfl
 | world=>obtain ⟨_,rfl⟩:=h;rfl
 | real=>obtain ⟨_,rfl⟩:=h;rfl
 | zero=>obtain ⟨_,rfl⟩:=h;rfl
 | weak _=>obtain ⟨_,rfl⟩:=h;rfl
 | cont _=>obtain ⟨_,rfl⟩:=h;rfl
 | row _=>rcases h with rfl | ⟨_,rfl⟩ <;> rfl
 | inn _=>obtain ⟨_,rfl⟩:=h;rfl
 | _=>exact h.elim
theorem Ext.up {i:Nat} {r:Role} (h:(own i).keep=false):Ext own (up own i r):=λ j hj=>by
 by_cases q:j=i
 ·rw [q,h] at hj;cases hj
 ·exact zB q
theorem Rep.ltOf (R:Rep K own σ μ) {i:Nat} {r:Role} (h:own i=r) (hr:r≠ .junk):i < μ.length:=by
 rcases Nat.lt_or_ge i μ.length with h' | h'
 ·exact h'
 ·exact absurd (h.symm.trans (R.len i h')) hr
theorem Rep.up1 (R:Rep K own σ μ) {i:Nat} {r:Role} {μ':Mem} (hi:(own i).live=false) (hl: ∀ j,μ'.length≤j→up own i r j= .junk) (h1: ∀ p,μ'[i]? =some p→Desc K (up own i r) σ r p) (h2: ∀ j p,j≠i→μ'[j]? =some p→μ[j]? =some p) (h3:r.once=true→ ∀ j,own j≠r) (h4:r.num≤σ.last∧r.rnum≤σ.lastRow):Rep K (up own i r) σ μ':=by
 have st: ∀ j r',own j=r'→r'.live=true→up own i r j=r':=λ j r' h hn=>by
  by_cases q:j=i
  ·rw [q] at h;rw [h,hn] at hi;cases hi
  ·exact (zB q).trans h
 refine {len:=hl,desc:=λ j p e=> ?_,uniq:=λ j k h ho=> ?_,bnd:=λ j=> ?_,kH:=st _ _ R.kH rfl,kC:=st _ _ R.kC rfl,kP:=st _ _ R.kP rfl,kW:=st _ _ R.kW rfl,kR:=st _ _ R.kR rfl,kO:=st _ _ R.kO rfl,kL:=st _ _ R.kL rfl,kE:=st _ _ R.kE rfl,kB:=st _ _ R.kB rfl}
 ·by_cases q:j=i
  ·rw [q] at e ⊢;rw [zy];exact h1 p e
  ·rw [zB q]
   exact (R.desc j p (h2 j p q e)).own_mono λ k r' h h'=>st k r' h h'.live
 ·by_cases q:j=i
  ·by_cases q':k=i
   ·rw [q,q']
   ·rw [q,zy] at h ho;rw [zB q'] at h;exact absurd h.symm (h3 ho k)
  ·rw [zB q] at h ho
   by_cases q':k=i
   ·rw [q',zy] at h;exact absurd h (h3 (h ▸ ho) j)
   ·rw [zB q'] at h;exact R.uniq j k h ho
 ·by_cases q:j=i
  ·rw [q,zy];exact h4
  ·rw [zB q];exact R.bnd j
theorem Rep.len1 (R:Rep K own σ μ) {i:Nat} {r:Role} (hi:i < μ.length): ∀ j,μ.length≤j→up own i r j= .junk:=λ j hj=>(zB (Nat.ne_of_gt (Nat.lt_of_lt_of_le hi hj))).trans (R.len j hj)
theorem Rep.al (R:Rep K own σ μ) {o:AO} {r:Role} (hr:r= .im o∨r= .tm o∨r= .nw o):Rep K (up own μ.length r) σ (μ ++ [o])∧Ext own (up own μ.length r)∧up own μ.length r μ.length=r:=by
 have hj:=R.len μ.length (Nat.le_refl _)
 have ro:r.once=false∧r.num=0∧r.rnum=0∧ ∀ own',Desc K own' σ r o:=by rcases hr with rfl | rfl | rfl <;> exact ⟨rfl,rfl,rfl,λ _=>rfl⟩
 refine ⟨R.up1 (by rw [hj];rfl) (λ j h=> ?_) (λ p e=> ?_) (λ j p q e=> ?_) (λ h=>by rw [ro.1] at h;cases h) (by rw [ro.2.1,ro.2.2.1];exact ⟨Nat.zero_le _,Nat.zero_le _⟩),Ext.up (by rw [hj];rfl),zy⟩
 ·have h:μ.length+1≤j:=by simpa using h
  exact (zB (Nat.ne_of_gt h)).trans (R.len j (Nat.le_of_succ_le h))
 ·rw [List.getElem?_concat_length] at e
  obtain rfl:=Option.some.inj e
  exact ro.2.2.2 _
 ·have h:=(List.getElem?_eq_some_iff.mp e).1
  rw [List.length_append] at h
  rwa [List.getElem?_append_left (Nat.lt_of_le_of_ne (Nat.le_of_lt_succ h) q)] at e
end
section
variable {K:Ad} {own own':Own} {σ σ':S} {μ:Mem} {α:Type}
theorem Ext.at (e:Ext own own') {i:Nat} {r:Role} (h:own i=r) (hr:r.keep=true):own' i=r:=by rw [e i (by rw [h];exact hr),h]
theorem Rep.nwSet (R:Rep K own σ μ) {i:Nat} {o o':AO} (hi:own i= .nw o):Rep K (up own i (.nw o')) σ (μ.set i o'):=by
 have hlt:=R.ltOf hi Role.noConfusion
 refine R.up1 (by rw [hi];rfl) (by rw [List.length_set];exact R.len1 hlt) (λ p e=> ?_) (λ j p q e=> ?_) (λ h=>by cases h) ⟨Nat.zero_le _,Nat.zero_le _⟩
 ·rw [List.getElem?_set_self hlt] at e
  exact (Option.some.inj e).symm
 ·rwa [List.getElem?_set_ne (λ h=>q h.symm)] at e
theorem Rep.nwTo (R:Rep K own σ μ) {i:Nat} {o:AO} {r:Role} (hi:own i= .nw o) (hr:r= .im o∨r= .tm o∨r= .junk):Rep K (up own i r) σ μ:=by
 have ro:r.once=false∧r.num=0∧r.rnum=0∧ ∀ own',Desc K own' σ r o:=by rcases hr with rfl | rfl | rfl <;> first | exact ⟨rfl,rfl,rfl,λ _=>rfl⟩ | exact ⟨rfl,rfl,rfl,λ _=>trivial⟩
 refine R.up1 (by rw [hi];rfl) (R.len1 (R.ltOf hi Role.noConfusion)) (λ p e=> ?_) (λ _ _ _ e=>e) (λ h=>by rw [ro.1] at h;cases h) (by rw [ro.2.1,ro.2.2.1];exact ⟨Nat.zero_le _,Nat.zero_le _⟩)
 have d:=R.desc i p e
 rw [hi] at d
 rw [show p=o from d];exact ro.2.2.2 _
theorem Xc {r:Role} (h:r.keep=true):r.live=true:=by cases r <;> first | rfl | cases h
theorem Xd {r:Role} (h:r.once=true):r.live=true:=by cases r <;> first | rfl | cases h
set_option tactic.hygienic true in
theorem Rep.move (R:Rep K own σ μ) {i a:Nat} {h ρ:Role} {o o':AO} (hi:own i=h) (hh:h.once=true) (ha:own a= .nw o) (hρ:ρ.once=true) (hne:ρ≠h) (hnum:ρ.num≤σ.last∧ρ.rnum≤σ.lastRow) (hl:σ.last=σ'.last∧σ.lastRow=σ'.lastRow)
  (hmine: ∀ r r',r≠h→Refs r r'→r'≠ρ)
  (hd: ∀ own',Ext own own'→own' a=ρ→(∀ j r,own j=r→Refs h r→r≠ρ→own' j=r)→Desc K own' σ' h o'∧Desc K own' σ' ρ o) (hs: ∀ r,r≠h→r≠ρ→ ∀ p,Desc K own σ r p→Desc K own σ' r p) (hkeep:ρ.keep=false) :
  ∃ own',Ext own own'∧own' a=ρ∧Rep K own' σ' (μ.set i o'):=by
 classical
 let own':Own:=λ j=>if j=a then ρ else if own j=ρ then .junk else own j
 have ha':own' a=ρ:=by simp [own']
 have st: ∀ j r,own j=r→r≠ρ→r.live=true→own' j=r:=λ j r e h1 h2=>by
  by_cases q:j=a
  ·rw [q,ha] at e;rw [← e] at h2;cases h2
  ·simp only [own',if_neg q,e,if_neg h1]
 have ext:Ext own own':=λ j hj=>st j _ rfl (λ q=>by rw [q,hkeep] at hj;cases hj) (Xc hj)
 have hlt:i < μ.length:=by
  rcases Nat.lt_or_ge i μ.length with h' | h'
  ·exact h'
  ·have:=R.len i h';rw [hi] at this;rw [this] at hh;cases hh
 have hia:i≠a:=λ q=>by rw [q,ha] at hi;rw [← hi] at hh;cases hh
 have hlta:a < μ.length:=by
  rcases Nat.lt_or_ge a μ.length with h' | h'
  ·exact h'
  ·have:=R.len a h';rw [ha] at this;cases this
 obtain ⟨hd1,hd2⟩:=hd own' ext ha' λ j r e h1 h2=>st j r e h2 h1.live
 have kk: ∀ {j r},own j=r→r.keep=true→own' j=r:=λ {j r} e h=>(ext j (e ▸ h)).trans e
 refine ⟨own',ext,ha',?_⟩
 refine {len:=λ j hj=> ?_,desc:=λ j p e=> ?_,uniq:=λ j k hjk ho=> ?_,bnd:=λ j=> ?_,kH:=kk R.kH rfl,kC:=kk R.kC rfl,kP:=kk R.kP rfl,kW:=kk R.kW rfl,kR:=kk R.kR rfl,kO:=kk R.kO rfl,kL:=kk R.kL rfl,kE:=kk R.kE rfl,kB:=kk R.kB rfl}
 ·simp at hj
  have:j≠a:=by lia
  have hjunk:=R.len j hj
  simp only [own',if_neg this,hjunk]
  split <;> rfl
 ·by_cases q:j=i
  ·subst q
   rw [List.getElem?_set_self hlt] at e
   obtain rfl:=Option.some.inj e
   rw [st j h hi hne.symm (Xd hh)]
   exact hd1
  ·rw [List.getElem?_set_ne (λ h=>q h.symm)] at e
   by_cases q':j=a
   ·subst q'
    have:=R.desc j p e
    rw [ha] at this
    rw [ha',show p=o from this]
    exact hd2
   ·by_cases q2:own j=ρ
    ·simp only [own',if_neg q',if_pos q2];trivial
    ·have e2:own' j=own j:=by simp only [own',if_neg q',if_neg q2]
     rw [e2]
     have hjh:own j≠h:=λ z=>q (R.uniq j i (z.trans hi.symm) (by rw [z];exact hh))
     refine (hs _ hjh q2 p (R.desc j p e)).own_mono λ k r' h1 h2=>st k r' h1 (hmine _ _ hjh h2) h2.live
 ·by_cases q1:j=a
  ·by_cases q2:k=a
   ·rw [q1,q2]
   ·exfalso
    subst q1
    rw [ha'] at hjk
    simp only [own',if_neg q2] at hjk
    split at hjk
    ·rw [hjk] at hρ;cases hρ
    ·rename_i z;exact z hjk.symm
  ·by_cases q2:k=a
   ·exfalso
    subst q2
    rw [ha'] at hjk
    simp only [own',if_neg q1] at hjk
    split at hjk
    ·rw [← hjk] at hρ;cases hρ
    ·rename_i z;exact z hjk
   ·simp only [own',if_neg q1,if_neg q2] at hjk ho
    split at ho
    ·cases ho
    ·rename_i z
     rw [if_neg z] at hjk
     split at hjk
     ·rw [hjk] at ho;cases ho
     ·exact R.uniq j k hjk ho
 ·by_cases q1:j=a
  ·subst q1;rw [ha',← hl.1,← hl.2];exact hnum
  ·simp only [own',if_neg q1]
   split
   ·exact ⟨Nat.zero_le _,Nat.zero_le _⟩
   ·rw [← hl.1,← hl.2];exact R.bnd j
theorem Desc.upd {r:Role} {o:AO} {f:Nat→Th} {row:Nat→Row} {lt:Nat→Bool} {z z' e e' a a' b b' w w' l l':List Nat} {m m' n n':Nat} {x x' y y':Bool} (D:Desc K own (S.mk f z e m a b w row n l x y lt) r o)
  (h1:r= .zero→z'=z) (h2:r= .heard→e'=e) (h3:r= .heap→m'=m) (h4:r= .real→a'=a) (h5:r= .real→y'=y) (h6:r= .roots→b'=b) (h7:r= .world→w'=w) (h8:r= .world→x'=x) (h9:r= .log→l'=l):Desc K own (S.mk f z' e' m' a' b' w' row n' l' x' y' lt) r o:=by
 cases r with
 | zero=>rw [h1 rfl];exact D
 | heard=>rw [h2 rfl];exact D
 | heap=>rw [h3 rfl];exact D
 | real=>rw [h4 rfl,h5 rfl];exact D
 | roots=>rw [h6 rfl];exact D
 | world=>rw [h7 rfl,h8 rfl];exact D
 | log=>rw [h9 rfl];exact D
 | _=>exact D
theorem Desc.dRow {k:Nat} {r:Role} {o:AO} (D:Desc K own σ r o):Desc K own {σ with lastRow:=k} r o:=D.upd (λ _=>rfl) (λ _=>rfl) (λ _=>rfl) (λ _=>rfl) (λ _=>rfl) (λ _=>rfl) (λ _=>rfl) (λ _=>rfl) (λ _=>rfl)
theorem Desc.dZero {c:List Nat} (r:Role) (h:r≠ .zero) (o:AO) (D:Desc K own σ r o):Desc K own {σ with zero:=c} r o:=D.upd (λ q=>absurd q h) (λ _=>rfl) (λ _=>rfl) (λ _=>rfl) (λ _=>rfl) (λ _=>rfl) (λ _=>rfl) (λ _=>rfl) (λ _=>rfl)
theorem Desc.dHeard {c:List Nat} (r:Role) (h:r≠ .heard) (o:AO) (D:Desc K own σ r o):Desc K own {σ with heard:=c} r o:=D.upd (λ _=>rfl) (λ q=>absurd q h) (λ _=>rfl) (λ _=>rfl) (λ _=>rfl) (λ _=>rfl) (λ _=>rfl) (λ _=>rfl) (λ _=>rfl)
theorem Desc.dLast {c:Nat} (r:Role) (h:r≠ .heap) (o:AO) (D:Desc K own σ r o):Desc K own {σ with last:=c} r o:=D.upd (λ _=>rfl) (λ _=>rfl) (λ q=>absurd q h) (λ _=>rfl) (λ _=>rfl) (λ _=>rfl) (λ _=>rfl) (λ _=>rfl) (λ _=>rfl)
theorem Desc.dReal {c:List Nat} {y:Bool} (r:Role) (h:r≠ .real) (o:AO) (D:Desc K own σ r o):Desc K own {σ with real:=c,lkR:=y} r o:=D.upd (λ _=>rfl) (λ _=>rfl) (λ _=>rfl) (λ q=>absurd q h) (λ q=>absurd q h) (λ _=>rfl) (λ _=>rfl) (λ _=>rfl) (λ _=>rfl)
theorem Desc.dRoots {c:List Nat} (r:Role) (h:r≠ .roots) (o:AO) (D:Desc K own σ r o):Desc K own {σ with roots:=c} r o:=D.upd (λ _=>rfl) (λ _=>rfl) (λ _=>rfl) (λ _=>rfl) (λ _=>rfl) (λ q=>absurd q h) (λ _=>rfl) (λ _=>rfl) (λ _=>rfl)
theorem Desc.dWorld {c:List Nat} {y:Bool} {k:Nat} (r:Role) (h:r≠ .world) (o:AO) (D:Desc K own σ r o):Desc K own {σ with wk:=c,lkW:=y,lastRow:=k} r o:=D.upd (λ _=>rfl) (λ _=>rfl) (λ _=>rfl) (λ _=>rfl) (λ _=>rfl) (λ _=>rfl) (λ q=>absurd q h) (λ q=>absurd q h) (λ _=>rfl)
theorem Desc.dLog {c:List Nat} (r:Role) (h:r≠ .log) (o:AO) (D:Desc K own σ r o):Desc K own {σ with log:=c} r o:=D.upd (λ _=>rfl) (λ _=>rfl) (λ _=>rfl) (λ _=>rfl) (λ _=>rfl) (λ _=>rfl) (λ _=>rfl) (λ _=>rfl) (λ q=>absurd q h)
theorem bdo {α β:Type} {m:M α} {f:α→M β} {a:α} {μ':Mem} {r:Option (β × Mem)} (h:m μ=some (a,μ')) (e:f a μ'=r):bd m f μ=r:=by unfold bd;rw [h];exact e
theorem rdo {β:Type} {i:Nat} {o:AO} {f:AO→M β} {r:Option (β × Mem)} (h:μ[i]? =some o) (e:f o μ=r):bd (rd i) f μ=r:=bdo (by unfold rd;rw [h]) e
theorem zP {i:Nat} {f:String} {c:Cl} {fs:List (String × AV)} {x:AV} (h:μ[i]? =some (.inst c fs)) (hg:get f fs=some x):getA (.obj i) f μ=some (x,μ):=by
 exact rdo h (by dsimp only;rw [hg];rfl)
theorem yq {i:Nat} {f:String} {c:Cl} {fs:List (String × AV)} {x:AV} (h:μ[i]? =some (.inst c fs)) (hf:f∈c.fields) (hl:fs.length < 100):setA (.obj i) f x μ=some ((),μ.set i (.inst c (put f x fs))):=by
 exact rdo h (by dsimp only;rw [if_pos ⟨hf,hl⟩];rfl)
theorem gC {i:Nat} {c d:Cl} {fs:List (String × AV)} (h:μ[i]? =some (.inst d fs)):isI c (.obj i) μ=some (.bool (decide (d=c)),μ):=by
 exact rdo h rfl
theorem Xe {i:Nat} {c:Cl} {fs:List (String × AV)} (h:μ[i]? =some (.inst c fs)):chk (.obj i) c μ=some ((),μ):=by
 exact rdo h (by dsimp only;rw [if_pos rfl];rfl)
theorem xT {i:Nat} {xs:List AV} (h:μ[i]? =some (.list xs)):chkL (.obj i) μ=some ((),μ):=by
 exact rdo h rfl
theorem xG {i:Nat} {xs:List AV} (h:μ[i]? =some (.list xs)):rdL (.obj i) μ=some (xs,μ):=by
 exact rdo h rfl
theorem xU {i:Nat} {xs:List AV} {x:AV} (h:μ[i]? =some (.list xs)) (hl:xs.length < big):appL (.obj i) x μ=some (.none,μ.set i (.list (xs ++ [x]))):=by
 exact rdo h (by dsimp only;rw [if_pos hl];rfl)
theorem qw {i:Nat} {xs:List AV} {x:AV} (h:μ[i]? =some (.list (x :: xs))):popL (.obj i) μ=some (x,μ.set i (.list xs)):=by
 exact rdo h rfl
inductive ThAt (own:Own) (μ:Mem) (v:AV) (n:Nat) (t:Th):Prop
 | mk (i:Nat) (w:AV) (l:List (String × AV)) (ev:v= .obj i) (hi:own i= .thing n) (hw:at_ own w (.weak n)) (ht:Tail own n t.c l) (e:μ[i]? =some (.inst t.c.cl (("number", .int n) :: ("count", .int t.cnt) :: ("blessed",blv t.bl) :: ("weak",w) :: ("is_destroyed", .bool t.ds) :: ("is_freed", .bool t.fr) :: l)))
inductive LiAt (own:Own) (μ:Mem) (v:AV) (r:Role) (ns:List Nat):Prop
 | mk (i:Nat) (vs:List AV) (ev:v= .obj i) (hi:own i=r) (hv:Things own vs ns) (e:μ[i]? =some (.list vs))
inductive HaAt (own:Own) (μ:Mem) (v:AV) (r:Role) (lk:Bool) (xs:List (String × Nat)):Prop
 | mk (i:Nat) (ls:List (String × AV)) (ev:v= .obj i) (hi:own i=r) (hv:L2 (λ l e=>l.1=e.1∧at_ own l.2 (.thing e.2)) ls xs) (e:μ[i]? =some (.dS lk ls))
theorem Rep.thing (R:Rep K own σ μ) {v:AV} {n:Nat} (h:at_ own v (.thing n)):ThAt own μ v n (σ.th n):=by
 refine hideP λ PZ hZ=> ?_
 obtain ⟨i,rfl,h⟩:=h
 obtain ⟨o,e,w,l,a,b,rfl⟩:=R.at' h nofun
 refine hZ ?_
 exact ⟨i,w,l,rfl,h,a,b,e⟩
section
variable {Q:AV→Mem→Prop} {v:AV} {n:Nat}
theorem zp (R:Rep K own σ μ) (h:at_ own v (.thing n)):wp (getA v "number") Q μ=Q (.int n) μ:=by
 obtain ⟨i,w,l,rfl,_,_,_,e⟩:=R.thing h;exact zd (zP e rfl)
theorem yB (R:Rep K own σ μ) (h:at_ own v (.thing n)):wp (getA v "count") Q μ=Q (.int (σ.th n).cnt) μ:=by
 obtain ⟨i,w,l,rfl,_,_,_,e⟩:=R.thing h;exact zd (zP e rfl)
theorem Yj (R:Rep K own σ μ) (h:at_ own v (.thing n)):wp (getA v "blessed") Q μ=Q (blv (σ.th n).bl) μ:=by
 obtain ⟨i,w,l,rfl,_,_,_,e⟩:=R.thing h;exact zd (zP e rfl)
theorem Vq (R:Rep K own σ μ) (h:at_ own v (.thing n)):wp (getA v "is_destroyed") Q μ=Q (.bool (σ.th n).ds) μ:=by
 obtain ⟨i,w,l,rfl,_,_,_,e⟩:=R.thing h;exact zd (zP e rfl)
theorem Yk (R:Rep K own σ μ) (h:at_ own v (.thing n)):wp (getA v "is_freed") Q μ=Q (.bool (σ.th n).fr) μ:=by
 obtain ⟨i,w,l,rfl,_,_,_,e⟩:=R.thing h;exact zd (zP e rfl)
theorem qx (R:Rep K own σ μ) (h:at_ own v (.thing n)) (hq: ∀ w,at_ own w (.weak n)→Q w μ):wp (getA v "weak") Q μ:=by
 obtain ⟨i,w,l,rfl,_,hw,_,e⟩:=R.thing h;exact zf (zP e rfl) (hq w hw)
theorem yQ (R:Rep K own σ μ) (h:at_ own v (.thing n)) {pv:PV} (hc:(σ.th n).c= .s pv) (hq: ∀ x,VT own pv x→Q x μ):wp (getA v "value") Q μ:=by
 obtain ⟨i,w,l,rfl,_,hw,ht,e⟩:=R.thing h
 rw [hc] at ht
 obtain ⟨x,hx,rfl⟩:=ht
 exact zf (zP e rfl) (hq x hx)
theorem Wj (R:Rep K own σ μ) (h:at_ own v (.thing n)) {pv:PV} (hc:(σ.th n).c= .s pv):wp (getA v "magic") Q μ=Q .none μ:=by
 obtain ⟨i,w,l,rfl,_,hw,ht,e⟩:=R.thing h
 rw [hc] at ht
 obtain ⟨x,hx,rfl⟩:=ht
 exact zd (zP e rfl)
theorem vL (R:Rep K own σ μ) (h:at_ own v (.thing n)) {xs:List Nat} (hc:(σ.th n).c= .a xs) (hq: ∀ x,at_ own x (.cont n)→Q x μ):wp (getA v "items") Q μ:=by
 obtain ⟨i,w,l,rfl,_,hw,ht,e⟩:=R.thing h
 rw [hc] at ht
 obtain ⟨x,hx,rfl⟩:=ht
 exact zf (zP e rfl) (hq x hx)
theorem xO (R:Rep K own σ μ) (h:at_ own v (.thing n)) {es:List (String × Nat)} (hc:(σ.th n).c= .h es) (hq: ∀ x,at_ own x (.cont n)→Q x μ):wp (getA v "table") Q μ:=by
 obtain ⟨i,w,l,rfl,_,hw,ht,e⟩:=R.thing h
 rw [hc] at ht
 obtain ⟨x,hx,rfl⟩:=ht
 exact zf (zP e rfl) (hq x hx)
theorem xi (R:Rep K own σ μ) (h:at_ own v (.thing n)) {c:Cl}:wp (isI c v) Q μ=Q (.bool (decide ((σ.th n).c.cl=c))) μ:=by
 obtain ⟨i,w,l,rfl,_,_,_,e⟩:=R.thing h;exact zd (gC e)
noncomputable def PV.isRef:PV→Bool
 | .ref _=>true | .weak _=>true | _=>false
noncomputable def PV.tgt:PV→Option Nat
 | .ref n=>some n | .weak n=>some n | _=>Option.none
noncomputable def PV.isWeak:PV→Bool
 | .weak _=>true | _=>false
theorem Rep.im (R:Rep K own σ μ) {i:Nat} {o:AO} (h:own i= .im o):μ[i]? =some o:=by
 obtain ⟨o',e,d⟩:=R.at' h nofun
 rw [e,show o'=o from d]
theorem Rep.tm (R:Rep K own σ μ) {i:Nat} {o:AO} (h:own i= .tm o):μ[i]? =some o:=by
 obtain ⟨o',e,d⟩:=R.at' h nofun
 rw [e,show o'=o from d]
theorem Rep.nw (R:Rep K own σ μ) {i:Nat} {o:AO} (h:own i= .nw o):μ[i]? =some o:=by
 obtain ⟨o',e,d⟩:=R.at' h nofun
 rw [e,show o'=o from d]
theorem VT.ref (R:Rep K own σ μ) {pv:PV} {x:AV} (h:VT own pv x) {m:Nat} (ht:pv.tgt=some m): ∃ i t,x= .obj i∧at_ own t (.thing m)∧μ[i]? =some (.inst .ref [("target",t),("is_weak", .bool pv.isWeak)]):=by
 cases pv with
 | none=>exact za ht
 | int i=>exact za ht
 | ref k=>cases ht;obtain ⟨i,o,rfl,h2,t,h3,rfl⟩:=h;exact ⟨i,t,rfl,h3,R.im h2⟩
 | weak k=>cases ht;obtain ⟨i,o,rfl,h2,t,h3,rfl⟩:=h;exact ⟨i,t,rfl,h3,R.im h2⟩
theorem vM (R:Rep K own σ μ) {pv:PV} {x:AV} (h:VT own pv x):wp (isI .ref x) Q μ=Q (.bool pv.isRef) μ:=by
 cases pv with
 | none=>cases h;exact zd rfl
 | int i=>cases h;exact zd rfl
 | ref k=>obtain ⟨i,t,rfl,_,e⟩:=VT.ref R h rfl;exact zd (gC e)
 | weak k=>obtain ⟨i,t,rfl,_,e⟩:=VT.ref R h rfl;exact zd (gC e)
theorem yw (R:Rep K own σ μ) {pv:PV} {x:AV} (h:VT own pv x) {m:Nat} (ht:pv.tgt=some m) (hq: ∀ t,at_ own t (.thing m)→Q t μ):wp (getA x "target") Q μ:=by
 obtain ⟨i,t,rfl,h3,e⟩:=VT.ref R h ht;exact zf (zP e rfl) (hq t h3)
theorem yI (R:Rep K own σ μ) {pv:PV} {x:AV} (h:VT own pv x) {m:Nat} (ht:pv.tgt=some m):wp (getA x "is_weak") Q μ=Q (.bool pv.isWeak) μ:=by
 obtain ⟨i,t,rfl,h3,e⟩:=VT.ref R h ht;exact zd (zP e rfl)
end
theorem at_.eq (R:Rep K own σ μ) {v w:AV} {r:Role} (hv:at_ own v r) (hw:at_ own w r) (hr:r.once=true):v=w:=by
 obtain ⟨i,rfl,h⟩:=hv
 obtain ⟨j,rfl,h'⟩:=hw
 rw [R.uniq i j (h.trans h'.symm) (by rw [h];exact hr)]
end
noncomputable def S.setTh (σ:S) (n:Nat) (t:Th):S:= {σ with th:=λ m=>if m=n then t else σ.th m}
theorem zc {σ:S} {n:Nat} {t:Th}:(σ.setTh n t).th n=t:=by simp [S.setTh]
theorem jl {σ:S} {n m:Nat} {t:Th} (h:m≠n):(σ.setTh n t).th m=σ.th m:=by simp [S.setTh,h]
noncomputable def S.setRow (σ:S) (n:Nat) (t:Row):S:= {σ with row:=λ m=>if m=n then t else σ.row m}
theorem zr {σ:S} {n:Nat} {t:Row}:(σ.setRow n t).row n=t:=by simp [S.setRow]
theorem vg {σ:S} {n m:Nat} {t:Row} (h:m≠n):(σ.setRow n t).row m=σ.row m:=by simp [S.setRow,h]
section
variable {K:Ad} {own own':Own} {σ σ':S} {μ:Mem} {α:Type}
theorem Desc.setTh {n:Nat} {t:Th} {r:Role} {o:AO} (h1:r≠ .thing n) (h2:r= .weak n→t.weak=(σ.th n).weak) (h3:r= .cont n→t.c=(σ.th n).c∨ ∃ v,(σ.th n).c= .s v) (h:Desc K own σ r o):Desc K own (σ.setTh n t) r o:=by
 cases r with
 | thing m =>
  have:m≠n:=λ q=>h1 (by rw [q])
  unfold Desc at h ⊢
  dsimp only at h ⊢
  rw [jl this];exact h
 | weak m =>
  by_cases q:m=n
  ·subst q
   unfold Desc at h ⊢
   dsimp only at h ⊢
   rw [zc,h2 rfl];exact h
  ·unfold Desc at h ⊢
   dsimp only at h ⊢
   rw [jl q];exact h
 | cont m =>
  by_cases q:m=n
  ·subst q
   unfold Desc at h ⊢
   dsimp only at h ⊢
   rw [zc]
   rcases h3 rfl with e | ⟨v,e⟩
   ·rw [e];exact h
   ·rw [e] at h;exact h.elim
  ·unfold Desc at h ⊢
   dsimp only at h ⊢
   rw [jl q];exact h
 | _=>exact h
theorem Desc.setRow {n:Nat} {t:Row} {r:Role} {o:AO} (h1:r≠ .row n) (h3:r= .inn n→t.c=(σ.row n).c∨ ∃ v,(σ.row n).c= .s v) (h:Desc K own σ r o):Desc K own (σ.setRow n t) r o:=by
 cases r with
 | row m =>
  have:m≠n:=λ q=>h1 (by rw [q])
  unfold Desc at h ⊢
  dsimp only at h ⊢
  rw [vg this];exact h
 | inn m =>
  by_cases q:m=n
  ·subst q
   unfold Desc at h ⊢
   dsimp only at h ⊢
   rw [zr]
   rcases h3 rfl with e | ⟨v,e⟩
   ·rw [e];exact h
   ·rw [e] at h;exact h.elim
  ·unfold Desc at h ⊢
   dsimp only at h ⊢
   rw [vg q];exact h
 | _=>exact h
theorem xj (c:Cont) (f:String) (h:f∈["number","count","blessed","weak","is_destroyed","is_freed"]):f∈c.cl.fields:=by
 cases c with
 | s v=>exact List.mem_append_left ["value","magic"] h
 | a xs=>exact List.mem_append_left ["items","tied"] h
 | h es=>exact List.mem_append_left ["table","at","tied"] h
theorem Tail.len {n:Nat} {c:Cont} {l:List (String × AV)} (h:Tail own n c l):l.length≤3:=by
 cases c <;> obtain ⟨x,_,rfl⟩:=h <;> exact Nat.le_of_ble_eq_true rfl
theorem Tail.lt {n:Nat} {c:Cont} {l:List (String × AV)} {x1 x2 x3 x4 x5 x6:String × AV} (h:Tail own n c l):(x1 :: x2 :: x3 :: x4 :: x5 :: x6 :: l).length < 100 :=
 Nat.lt_of_le_of_lt (Nat.add_le_add_right h.len 6) (Nat.le_of_ble_eq_true rfl)
section
variable {Q:Unit→Mem→Prop} {QV:AV→Mem→Prop} {v:AV} {n:Nat}
theorem xH (R:Rep K own σ μ) (h:at_ own v (.thing n)) {c:Int} (hq: ∀ μ',Rep K own (σ.setTh n {σ.th n with cnt:=c}) μ'→Q () μ'):wp (setA v "count" (.int c)) Q μ:=by
 obtain ⟨i,w,l,rfl,hi,hw,ht,e⟩:=R.thing h
 refine zf (yq e (xj _ _ (.tail _ (.head _))) ht.lt) (hq _ ?_)
 refine R.set hi rfl ⟨Nat.le_refl _,Nat.le_refl _⟩ ⟨w,l,hw,by rw [zc];exact ht,by rw [zc];rfl⟩ λ r hr o d=>d.setTh hr (λ _=>rfl) λ _=> .inl rfl
theorem bz (R:Rep K own σ μ) (h:at_ own v (.thing n)) (hq: ∀ μ',Rep K own (σ.setTh n {σ.th n with bl:=true}) μ'→Q () μ'):wp (setA v "blessed" (.str "P")) Q μ:=by
 obtain ⟨i,w,l,rfl,hi,hw,ht,e⟩:=R.thing h
 refine zf (yq e (xj _ _ (.tail _ (.tail _ (.head _)))) ht.lt) (hq _ ?_)
 refine R.set hi rfl ⟨Nat.le_refl _,Nat.le_refl _⟩ ⟨w,l,hw,by rw [zc];exact ht,by rw [zc];rfl⟩ λ r hr o d=>d.setTh hr (λ _=>rfl) λ _=> .inl rfl
theorem Wk (R:Rep K own σ μ) (h:at_ own v (.thing n)) {b:Bool} (hq: ∀ μ',Rep K own (σ.setTh n {σ.th n with ds:=b}) μ'→Q () μ'):wp (setA v "is_destroyed" (.bool b)) Q μ:=by
 obtain ⟨i,w,l,rfl,hi,hw,ht,e⟩:=R.thing h
 refine zf (yq e (xj _ _ (.tail _ (.tail _ (.tail _ (.tail _ (.head _)))))) ht.lt) (hq _ ?_)
 refine R.set hi rfl ⟨Nat.le_refl _,Nat.le_refl _⟩ ⟨w,l,hw,by rw [zc];exact ht,by rw [zc];rfl⟩ λ r hr o d=>d.setTh hr (λ _=>rfl) λ _=> .inl rfl
theorem Wl (R:Rep K own σ μ) (h:at_ own v (.thing n)) {b:Bool} (hq: ∀ μ',Rep K own (σ.setTh n {σ.th n with fr:=b}) μ'→Q () μ'):wp (setA v "is_freed" (.bool b)) Q μ:=by
 obtain ⟨i,w,l,rfl,hi,hw,ht,e⟩:=R.thing h
 refine zf (yq e (xj _ _ (.tail _ (.tail _ (.tail _ (.tail _ (.tail _ (.head _))))))) ht.lt) (hq _ ?_)
 refine R.set hi rfl ⟨Nat.le_refl _,Nat.le_refl _⟩ ⟨w,l,hw,by rw [zc];exact ht,by rw [zc];rfl⟩ λ r hr o d=>d.setTh hr (λ _=>rfl) λ _=> .inl rfl
theorem wz (R:Rep K own σ μ) (h:at_ own v (.thing n)) {pv pv':PV} (hc:(σ.th n).c= .s pv') {x:AV} (hx:VT own pv x) (hq: ∀ μ',Rep K own (σ.setTh n {σ.th n with c:= .s pv}) μ'→Q () μ'):wp (setA v "value" x) Q μ:=by
 obtain ⟨i,w,l,rfl,hi,hw,ht,e⟩:=R.thing h
 rw [hc] at ht e
 obtain ⟨y,hy,rfl⟩:=ht
 refine zf (yq e (of_decide_eq_true (by kernel_rfl)) (of_decide_eq_true (by kernel_rfl))) (hq _ ?_)
 refine R.set hi rfl ⟨Nat.le_refl _,Nat.le_refl _⟩ ⟨w,[("value",x),("magic", .none)],hw,by rw [zc];exact ⟨x,hx,rfl⟩,by rw [zc];rfl⟩ λ r hr o d=>d.setTh hr (λ _=>rfl) λ _=> .inr ⟨_,hc⟩
theorem Rep.weakL (R:Rep K own σ μ) {w:AV} (h:at_ own w (.weak n)):LiAt own μ w (.weak n) (σ.th n).weak:=by
 obtain ⟨i,rfl,h⟩:=h
 obtain ⟨o,e,vs,rfl,d⟩:=R.at' h nofun
 exact ⟨i,vs,rfl,h,d,e⟩
theorem bA (R:Rep K own σ μ) {w:AV} (h:at_ own w (.weak n)):wp (chkL w) Q μ=Q () μ:=by
 obtain ⟨i,vs,rfl,_,_,e⟩:=R.weakL h;exact zd (xT e)
theorem Yl (R:Rep K own σ μ) {w s:AV} {m:Nat} (h:at_ own w (.weak n)) (hs:at_ own s (.thing m)) (hl:(σ.th n).weak.length < big) (hq: ∀ μ',Rep K own (σ.setTh n {σ.th n with weak:=(σ.th n).weak ++ [m]}) μ'→QV .none μ'):wp (appL w s) QV μ:=by
 obtain ⟨i,vs,rfl,hi,ht,e⟩:=R.weakL h
 refine zf (xU e (by rw [ht.len];exact hl)) (hq _ ?_)
 refine R.set hi rfl ⟨Nat.le_refl _,Nat.le_refl _⟩ ⟨_,rfl,by rw [zc];exact ht.snoc hs⟩ λ r hr o d=> ?_
 by_cases q:r= .thing n
 ·subst q
  obtain ⟨w,l,a,b,c⟩:=d
  exact ⟨w,l,a,by rw [zc];exact b,by rw [zc];exact c⟩
 ·exact d.setTh q (λ q=>absurd q hr) λ _=> .inl rfl
theorem jL (R:Rep K own σ μ) (h:at_ own v (.thing n)) {a:Nat} {vs:List AV} {ns:List Nat} (ha:own a= .nw (.list vs)) (hv:Things own vs ns) (hn:n≤σ.last) (hq: ∀ own' μ',Ext own own'→Rep K own' (σ.setTh n {σ.th n with weak:=ns}) μ'→Q () μ'):wp (setA v "weak" (.obj a)) Q μ:=by
 obtain ⟨i,w,l,rfl,hi,hw,ht,e⟩:=R.thing h
 refine zf (yq e (xj _ _ (.tail _ (.tail _ (.tail _ (.head _))))) ht.lt) ?_
 refine (R.move (σ':=σ.setTh n {σ.th n with weak:=ns}) hi rfl ha (ρ:= .weak n) rfl Role.noConfusion ⟨hn,Nat.zero_le _⟩ ⟨rfl,rfl⟩ (λ r r' hr hr' q=> ?_) (λ own' e1 e2 e3=>⟨⟨.obj a,l,⟨a,rfl,e2⟩,?_,?_⟩,⟨vs,rfl,?_⟩⟩) (λ r hr hr' p d=> ?_) rfl).elim λ own' z=>hq own' _ z.1 z.2.2
 ·subst q
  cases r with
  | thing m =>
   rcases hr' with q | q | q | q
   ·cases q;exact hr rfl
   ·cases q
   ·obtain ⟨_,q⟩:=q;cases q
   ·obtain ⟨_,q⟩:=q;cases q
  | heap=>cases hr'
  | world=>obtain ⟨_,q⟩:=hr';cases q
  | real=>obtain ⟨_,q⟩:=hr';cases q
  | zero=>obtain ⟨_,q⟩:=hr';cases q
  | weak _=>obtain ⟨_,q⟩:=hr';cases q
  | cont _=>obtain ⟨_,q⟩:=hr';cases q
  | row _=>rcases hr' with q | ⟨_,q⟩ <;> cases q
  | inn _=>obtain ⟨_,q⟩:=hr';cases q
  | _=>exact hr'
 ·rw [zc]
  cases hc:(σ.th n).c with
  | s pv=>rw [hc] at ht;obtain ⟨x,hx,rfl⟩:=ht;exact ⟨x,hx.ext e1,rfl⟩
  | a xs=>rw [hc] at ht;obtain ⟨x,hx,rfl⟩:=ht;exact ⟨x,hx.mono λ j hj=>e3 j _ hj (.inr (.inl rfl)) nofun,rfl⟩
  | h xs=>rw [hc] at ht;obtain ⟨x,hx,rfl⟩:=ht;exact ⟨x,hx.mono λ j hj=>e3 j _ hj (.inr (.inl rfl)) nofun,rfl⟩
 ·rw [zc];rfl
 ·rw [zc];exact hv.ext e1
 ·exact d.setTh hr (λ q=>absurd q hr') λ _=> .inl rfl
theorem Rep.contA (R:Rep K own σ μ) {w:AV} {xs:List Nat} (hc:(σ.th n).c= .a xs) (h:at_ own w (.cont n)):LiAt own μ w (.cont n) xs:=by
 obtain ⟨i,rfl,h⟩:=h
 obtain ⟨o,e,d⟩:=R.at' h nofun
 unfold Desc at d
 dsimp only at d
 rw [hc] at d
 obtain ⟨vs,rfl,d⟩:=d
 exact ⟨i,vs,rfl,h,d,e⟩
theorem Rep.contH (R:Rep K own σ μ) {w:AV} {xs:List (String × Nat)} (hc:(σ.th n).c= .h xs) (h:at_ own w (.cont n)):HaAt own μ w (.cont n) (σ.lkT n) xs:=by
 obtain ⟨i,rfl,h⟩:=h
 obtain ⟨o,e,d⟩:=R.at' h nofun
 unfold Desc at d
 dsimp only at d
 rw [hc] at d
 obtain ⟨vs,rfl,d⟩:=d
 exact ⟨i,vs,rfl,h,d,e⟩
theorem Desc.setTh_c {n:Nat} {t:Th} {r:Role} {o:AO} (h1:r≠ .thing n) (h2:t.weak=(σ.th n).weak) (h3:r≠ .cont n) (h:Desc K own σ r o):Desc K own (σ.setTh n t) r o:=h.setTh h1 (λ _=>h2) λ q=>absurd q h3
theorem um (R:Rep K own σ μ) {w:AV} {xs:List Nat} (hc:(σ.th n).c= .a xs) (h:at_ own w (.cont n)):wp (chkL w) Q μ=Q () μ:=by
 obtain ⟨i,vs,rfl,_,_,e⟩:=R.contA hc h;exact zd (xT e)
theorem Desc.holder {n:Nat} {c:Cont} {o:AO} (hk:c.cl=(σ.th n).c.cl) (ht: ∀ l,Tail own n (σ.th n).c l→Tail own n c l) (d:Desc K own σ (.thing n) o):Desc K own (σ.setTh n {σ.th n with c:=c}) (.thing n) o:=by
 obtain ⟨w,l,a,b,rfl⟩:=d
 exact ⟨w,l,a,by rw [zc];exact ht l b,by rw [zc,← hk]⟩
theorem bB (R:Rep K own σ μ) {w s:AV} {m:Nat} {xs:List Nat} (hc:(σ.th n).c= .a xs) (h:at_ own w (.cont n)) (hs:at_ own s (.thing m)) (hl:xs.length < big) (hq: ∀ μ',Rep K own (σ.setTh n {σ.th n with c:= .a (xs ++ [m])}) μ'→QV .none μ'):wp (appL w s) QV μ:=by
 obtain ⟨i,vs,rfl,hi,ht,e⟩:=R.contA hc h
 refine zf (xU e (by rw [ht.len];exact hl)) (hq _ ?_)
 refine R.set hi rfl ⟨Nat.le_refl _,Nat.le_refl _⟩ (by unfold Desc;dsimp only;rw [zc];exact ⟨_,rfl,ht.snoc hs⟩) λ r hr o d=> ?_
 by_cases q:r= .thing n
 ·subst q
  exact d.holder (by rw [hc];rfl) (by rw [hc];exact λ l h=>h)
 ·exact d.setTh_c q rfl hr
theorem bC (R:Rep K own σ μ) {w:AV} {m:Nat} {xs:List Nat} (hc:(σ.th n).c= .a (m :: xs)) (h:at_ own w (.cont n)) (hq: ∀ x μ',at_ own x (.thing m)→Rep K own (σ.setTh n {σ.th n with c:= .a xs}) μ'→QV x μ'):wp (popL w) QV μ:=by
 obtain ⟨i,vs,rfl,hi,ht,e⟩:=R.contA hc h
 cases ht with
 | cons h1 h2 =>
 refine zf (qw e) (hq _ _ h1 ?_)
 refine R.set hi rfl ⟨Nat.le_refl _,Nat.le_refl _⟩ (by unfold Desc;dsimp only;rw [zc];exact ⟨_,rfl,h2⟩) λ r hr o d=> ?_
 by_cases q:r= .thing n
 ·subst q
  exact d.holder (by rw [hc];rfl) (by rw [hc];exact λ l h=>h)
 ·exact d.setTh_c q rfl hr
end
end
section
variable {κ β:Type} [DecidableEq κ]
noncomputable def aget (k:κ):List (κ × β)→Option β
 | []=>none
 | e :: r=>if e.1=k then some e.2 else aget k r
noncomputable def aput (k:κ) (v:β):List (κ × β)→List (κ × β)
 | []=>[(k,v)]
 | e :: r=>if e.1=k then (k,v) :: r else e :: aput k v r
noncomputable def adel (k:κ):List (κ × β)→List (κ × β)
 | []=>[]
 | e :: r=>if e.1=k then r else e :: adel k r
theorem wD {k:κ} {e:κ × β} {r:List (κ × β)}:aget k (e :: r)=if e.1=k then some e.2 else aget k r:=rfl
theorem jM {k:κ} {v:β} {e:κ × β} {r:List (κ × β)}:aput k v (e :: r)=if e.1=k then (k,v) :: r else e :: aput k v r:=rfl
theorem U1 {k:κ} {e:κ × β} {r:List (κ × β)}:adel k (e :: r)=if e.1=k then r else e :: adel k r:=rfl
theorem uN {R:AV→β→Prop} {ls:List (κ × AV)} {es:List (κ × β)} (h:L2 (λ l e=>l.1=e.1∧R l.2 e.2) ls es) (k:κ):(∀ m,aget k es=some m→ ∃ x,get k ls=some x∧R x m)∧(aget k es=none→get k ls=none):=by
 induction h with
 | nil=>exact ⟨λ m e=>(by exact za e),λ _=>rfl⟩
 | @cons a b as bs h1 h2 ih =>
  rw [wD,xb]
  rw [h1.1]
  split
  ·exact ⟨λ m e=>⟨a.2,rfl,by cases e;exact h1.2⟩,λ e=>by cases e⟩
  ·exact ih
theorem VC {R:AV→β→Prop} {ls:List (κ × AV)} {es:List (κ × β)} (h:L2 (λ l e=>l.1=e.1∧R l.2 e.2) ls es) {k:κ} {x:AV} {m:β} (hx:R x m):L2 (λ l e=>l.1=e.1∧R l.2 e.2) (put k x ls) (aput k m es):=by
 induction h with
 | nil=>exact .cons ⟨rfl,hx⟩ .nil
 | @cons a b as bs h1 h2 ih =>
  rw [jM,wu]
  rw [h1.1]
  split
  ·exact .cons ⟨rfl,hx⟩ h2
  ·exact .cons h1 ih
theorem VD {R:AV→β→Prop} {ls:List (κ × AV)} {es:List (κ × β)} (h:L2 (λ l e=>l.1=e.1∧R l.2 e.2) ls es) {k:κ}:L2 (λ l e=>l.1=e.1∧R l.2 e.2) (del k ls) (adel k es):=by
 induction h with
 | nil=>exact .nil
 | @cons a b as bs h1 h2 ih =>
  rw [U1,gw]
  rw [h1.1]
  split
  ·exact h2
  ·exact .cons h1 ih
end
section
variable {K:Ad} {own own':Own} {σ σ':S} {μ:Mem} {α:Type}
theorem jN {n:Nat}: ∀ r r',r≠Role.thing n→Refs r r'→r'≠ .cont n:=λ r r' hr hr' q=>by
 subst q
 cases r with
 | thing m =>
  rcases hr' with q | q | q | q
  ·cases q
  ·cases q;exact hr rfl
  ·obtain ⟨_,q⟩:=q;cases q
  ·obtain ⟨_,q⟩:=q;cases q
 | heap=>cases hr'
 | world=>obtain ⟨_,q⟩:=hr';cases q
 | real=>obtain ⟨_,q⟩:=hr';cases q
 | zero=>obtain ⟨_,q⟩:=hr';cases q
 | weak _=>obtain ⟨_,q⟩:=hr';cases q
 | cont _=>obtain ⟨_,q⟩:=hr';cases q
 | row _=>rcases hr' with q | ⟨_,q⟩ <;> cases q
 | inn _=>obtain ⟨_,q⟩:=hr';cases q
 | _=>exact hr'
theorem Ym: ∀ r r',r≠Role.heap→Refs r r'→r'≠ .zero:=λ r r' hr hr' q=>by
 subst q
 cases r with
 | thing m =>
  rcases hr' with q | q | q | q
  ·cases q
  ·cases q
  ·obtain ⟨_,q⟩:=q;cases q
  ·obtain ⟨_,q⟩:=q;cases q
 | heap=>exact hr rfl
 | world=>obtain ⟨_,q⟩:=hr';cases q
 | real=>obtain ⟨_,q⟩:=hr';cases q
 | zero=>obtain ⟨_,q⟩:=hr';cases q
 | weak _=>obtain ⟨_,q⟩:=hr';cases q
 | cont _=>obtain ⟨_,q⟩:=hr';cases q
 | row _=>rcases hr' with q | ⟨_,q⟩ <;> cases q
 | inn _=>obtain ⟨_,q⟩:=hr';cases q
 | _=>exact hr'
section
variable {Q:Unit→Mem→Prop} {QV:AV→Mem→Prop} {v:AV} {n:Nat}
theorem uo (R:Rep K own σ μ) {w:AV} {es:List (String × Nat)} (hc:(σ.th n).c= .h es) (h:at_ own w (.cont n)):wp (chkD w) Q μ=Q () μ:=by
 obtain ⟨i,ls,rfl,_,_,e⟩:=R.contH hc h
 exact zd (rdo e rfl)
theorem Zs {i:Nat} {lk:Bool} {ls:List (String × AV)} {k:String} (e:μ[i]? =some (.dS lk ls)):getK (.obj i) (.str k) μ=some (get k ls,μ):=rdo e rfl
theorem uO {i:Nat} {lk:Bool} {ls:List (Int × AV)} {k:Int} (e:μ[i]? =some (.dI lk ls)):getK (.obj i) (.int k) μ=some (get k ls,μ):=rdo e rfl
theorem u3 (R:Rep K own σ μ) {w:AV} {es:List (String × Nat)} {k:String} {m:Nat} (hc:(σ.th n).c= .h es) (h:at_ own w (.cont n)) (hk:aget k es=some m) (hq: ∀ x,at_ own x (.thing m)→QV x μ):wp (getI w (.str k)) QV μ:=by
 obtain ⟨i,ls,rfl,_,hl,e⟩:=R.contH hc h
 obtain ⟨x,e1,e2⟩:=(uN (R:=λ v m=>at_ own v (.thing m)) hl k).1 m hk
 exact zf (a:=x) (rdo e (by dsimp only;rw [e1];rfl)) (hq x e2)
set_option tactic.hygienic true in
theorem hW (R:Rep K own σ μ) {w:AV} {es:List (String × Nat)} {k:String} (hc:(σ.th n).c= .h es) (h:at_ own w (.cont n)) (hq: ∀ x,(match aget k es with | none=>x= .none | some m=>at_ own x (.thing m))→QV x μ):wp (dget1 w (.str k)) QV μ:=by
 obtain ⟨i,ls,rfl,_,hl,e⟩:=R.contH hc h
 obtain ⟨h1,h2⟩:=uN (R:=λ v m=>at_ own v (.thing m)) hl k
 refine zf (a:=(get k ls).getD .none) (bdo (Zs e) rfl) (hq _ ?_)
 split
 ·rename_i q;rw [h2 q];rfl
 ·rename_i m q
  obtain ⟨x,e1,e2⟩:=h1 m q
  rw [e1];exact e2
theorem bD (R:Rep K own σ μ) {w x:AV} {es:List (String × Nat)} {k:String} {m:Nat} (hc:(σ.th n).c= .h es) (hlk:σ.lkT n=false) (h:at_ own w (.cont n)) (hx:at_ own x (.thing m)) (hl:es.length < big) (hq: ∀ μ',Rep K own (σ.setTh n {σ.th n with c:= .h (aput k m es)}) μ'→Q () μ'):wp (setI w (.str k) x) Q μ:=by
 obtain ⟨i,ls,rfl,hi,ht,e⟩:=R.contH hc h
 rw [hlk] at e
 refine zf (μ':=μ.set i (.dS false (put k x ls))) (rdo e (by dsimp only;rw [if_pos ⟨rfl,by rw [ht.len];exact hl⟩];rfl)) (hq _ ?_)
 refine R.set hi rfl ⟨Nat.le_refl _,Nat.le_refl _⟩ (by unfold Desc;dsimp only;rw [zc];exact ⟨_,by rw [show (σ.setTh n {σ.th n with c:= .h (aput k m es)}).lkT n=false from hlk],VC (R:=λ v m=>at_ own v (.thing m)) ht hx⟩) λ r hr o d=> ?_
 by_cases q:r= .thing n
 ·subst q
  exact d.holder (by rw [hc];rfl) (by rw [hc];exact λ l h=>h)
 ·exact d.setTh_c q rfl hr
theorem bE (R:Rep K own σ μ) {w:AV} {es:List (String × Nat)} {k:String} {m:Nat} (hc:(σ.th n).c= .h es) (hlk:σ.lkT n=false) (h:at_ own w (.cont n)) (hk:aget k es=some m) (hq: ∀ x μ',at_ own x (.thing m)→Rep K own (σ.setTh n {σ.th n with c:= .h (adel k es)}) μ'→QV x μ'):wp (dpop1 w (.str k)) QV μ:=by
 obtain ⟨i,ls,rfl,hi,ht,e⟩:=R.contH hc h
 rw [hlk] at e
 obtain ⟨x,e1,e2⟩:=(uN (R:=λ v m=>at_ own v (.thing m)) ht k).1 m hk
 refine zf (a:=x) (μ':=μ.set i (.dS false (del k ls))) (bdo (Zs e) (by rw [e1];exact bdo (rdo e (by dsimp only;rw [if_pos rfl];rfl)) rfl)) (hq x _ e2 ?_)
 refine R.set hi rfl ⟨Nat.le_refl _,Nat.le_refl _⟩ (by unfold Desc;dsimp only;rw [zc];exact ⟨_,by rw [show (σ.setTh n {σ.th n with c:= .h (adel k es)}).lkT n=false from hlk],VD (R:=λ v m=>at_ own v (.thing m)) ht⟩) λ r hr o d=> ?_
 by_cases q:r= .thing n
 ·subst q
  exact d.holder (by rw [hc];rfl) (by rw [hc];exact λ l h=>h)
 ·exact d.setTh_c q rfl hr
theorem Wm (R:Rep K own σ μ) (h:at_ own v (.thing n)) {es:List (String × Nat)} (hc:(σ.th n).c= .h es) (hq: ∀ μ',Rep K own σ μ'→Q () μ'):wp (setA v "at" (.int 0)) Q μ:=by
 obtain ⟨i,w,l,rfl,hi,hw,ht,e⟩:=R.thing h
 rw [hc] at ht e
 obtain ⟨y,hy,rfl⟩:=ht
 refine zf (yq e (of_decide_eq_true (by kernel_rfl)) (of_decide_eq_true (by kernel_rfl))) (hq _ ?_)
 exact R.set hi rfl ⟨Nat.le_refl _,Nat.le_refl _⟩ ⟨w,_,hw,by rw [hc];exact ⟨y,hy,rfl⟩,by rw [hc];rfl⟩ λ r hr o d=>d
theorem bF (R:Rep K own σ μ) (h:at_ own v (.thing n)) {a:Nat} {xs:List Nat} (hc:(σ.th n).c= .a xs) (ha:own a= .nw (.list [])) (hn:n≤σ.last) (hq: ∀ own' μ',Ext own own'→Rep K own' (σ.setTh n {σ.th n with c:= .a []}) μ'→Q () μ'):wp (setA v "items" (.obj a)) Q μ:=by
 obtain ⟨i,w,l,rfl,hi,hw,ht,e⟩:=R.thing h
 rw [hc] at ht e
 obtain ⟨y,hy,rfl⟩:=ht
 refine zf (yq e (of_decide_eq_true (by kernel_rfl)) (of_decide_eq_true (by kernel_rfl))) ?_
 refine (R.move (σ':=σ.setTh n {σ.th n with c:= .a []}) hi rfl ha (ρ:= .cont n) rfl Role.noConfusion ⟨hn,Nat.zero_le _⟩ ⟨rfl,rfl⟩ jN (λ own' e1 e2 e3=>⟨⟨w,[("items", .obj a),("tied", .none)],hw.mono λ j hj=>e3 j _ hj (.inl rfl) nofun,?_,?_⟩,?_⟩) (λ r hr hr' p d=> ?_) rfl).elim λ own' z=>hq own' _ z.1 z.2.2
 ·exact zc ▸ (⟨.obj a,⟨a,rfl,e2⟩,rfl⟩)
 ·rw [zc];rfl
 ·unfold Desc;dsimp only;exact zc ▸ (⟨[],rfl, .nil⟩)
 ·exact d.setTh_c hr rfl hr'
theorem Xf (R:Rep K own σ μ) (h:at_ own v (.thing n)) {a:Nat} {es:List (String × Nat)} (hc:(σ.th n).c= .h es) (hlk:σ.lkT n=false) (ha:own a= .nw (.dS false [])) (hn:n≤σ.last) (hq: ∀ own' μ',Ext own own'→Rep K own' (σ.setTh n {σ.th n with c:= .h []}) μ'→Q () μ'):wp (setA v "table" (.obj a)) Q μ:=by
 obtain ⟨i,w,l,rfl,hi,hw,ht,e⟩:=R.thing h
 rw [hc] at ht e
 obtain ⟨y,hy,rfl⟩:=ht
 refine zf (yq e (of_decide_eq_true (by kernel_rfl)) (of_decide_eq_true (by kernel_rfl))) ?_
 refine (R.move (σ':=σ.setTh n {σ.th n with c:= .h []}) hi rfl ha (ρ:= .cont n) rfl Role.noConfusion ⟨hn,Nat.zero_le _⟩ ⟨rfl,rfl⟩ jN (λ own' e1 e2 e3=>⟨⟨w,[("table", .obj a),("at", .int 0),("tied", .none)],hw.mono λ j hj=>e3 j _ hj (.inl rfl) nofun,?_,?_⟩,?_⟩) (λ r hr hr' p d=> ?_) rfl).elim λ own' z=>hq own' _ z.1 z.2.2
 ·exact zc ▸ (⟨.obj a,⟨a,rfl,e2⟩,rfl⟩)
 ·rw [zc];rfl
 ·unfold Desc;dsimp only;exact zc ▸ (⟨[],by rw [show (σ.setTh n {σ.th n with c:= .h []}).lkT n=false from hlk], .nil⟩)
 ·exact d.setTh_c hr rfl hr'
theorem Rep.heap (R:Rep K own σ μ): ∃ x z,at_ own z .zero∧μ[K.heap]? =some (.inst .heap [("limits",x),("last", .int σ.last),("zero",z)]):=by
 obtain ⟨o,e,x,z,a,rfl⟩:=R.at' R.kH nofun;exact ⟨x,z,a,e⟩
theorem Rep.counter (R:Rep K own σ μ):μ[K.counter]? =some (.inst .counter [("heap", .obj K.heap),("destroy", .dstr),("places", .obj K.places)]):=by
 obtain ⟨o,e,rfl⟩:=R.at' R.kC nofun;exact e
theorem vG (R:Rep K own σ μ) (hq: ∀ z,at_ own z .zero→QV z μ):wp (getA (.obj K.heap) "zero") QV μ:=by
 obtain ⟨x,z,a,e⟩:=R.heap;exact zf (zP e rfl) (hq z a)
theorem Zt (R:Rep K own σ μ):wp (getA (.obj K.heap) "last") QV μ=QV (.int σ.last) μ:=by
 obtain ⟨x,z,a,e⟩:=R.heap;exact zd (zP e rfl)
theorem Yn (R:Rep K own σ μ) {m:Nat} (hm:σ.last≤m) (hq: ∀ μ',Rep K own {σ with last:=m} μ'→Q () μ'):wp (setA (.obj K.heap) "last" (.int m)) Q μ:=by
 obtain ⟨x,z,a,e⟩:=R.heap
 refine zf (yq e (by decide) (by simp)) (hq _ ?_)
 exact R.set (σ':= {σ with last:=m}) R.kH rfl ⟨hm,Nat.le_refl _⟩ ⟨x,z,a,rfl⟩ Desc.dLast
theorem xk (R:Rep K own σ μ):wp (getA (.obj K.counter) "heap") QV μ=QV (.obj K.heap) μ:=zd (zP R.counter rfl)
theorem u4 (R:Rep K own σ μ):wp (getA (.obj K.counter) "destroy") QV μ=QV .dstr μ:=zd (zP R.counter rfl)
theorem jO (R:Rep K own σ μ):wp (getA (.obj K.counter) "places") QV μ=QV (.obj K.places) μ:=zd (zP R.counter rfl)
theorem zu (R:Rep K own σ μ):wp (chk (.obj K.counter) .counter) Q μ=Q () μ:=zd (Xe R.counter)
theorem wg (R:Rep K own σ μ):wp (chk (.obj K.heap) .heap) Q μ=Q () μ:=by obtain ⟨x,z,a,e⟩:=R.heap;exact zd (Xe e)
theorem Rep.places (R:Rep K own σ μ):μ[K.places]? =some (.dI false []):=by
 obtain ⟨o,e,rfl⟩:=R.at' R.kP nofun;exact e
theorem Zu (R:Rep K own σ μ):wp (chkD (.obj K.places)) Q μ=Q () μ:=zd (rdo R.places rfl)
theorem Zv (R:Rep K own σ μ) {k:Int} {y:AV}:wp (dpop2 (.obj K.places) (.int k) y) QV μ=QV y μ:=zd (by simp [dpop2,bd,uO R.places,Vm,rt])
theorem Rep.zeroL (R:Rep K own σ μ) {z:AV} (h:at_ own z .zero):LiAt own μ z .zero σ.zero:=by
 obtain ⟨i,rfl,h⟩:=h
 obtain ⟨o,e,vs,rfl,d⟩:=R.at' h nofun
 exact ⟨i,vs,rfl,h,d,e⟩
theorem bG (R:Rep K own σ μ) {z:AV} (h:at_ own z .zero):wp (chkL z) Q μ=Q () μ:=by
 obtain ⟨i,vs,rfl,_,_,e⟩:=R.zeroL h;exact zd (xT e)
theorem jP (R:Rep K own σ μ) {z:AV} (h:at_ own z .zero):wp (lenM z) QV μ=QV (.int σ.zero.length) μ:=by
 obtain ⟨i,vs,rfl,_,ht,e⟩:=R.zeroL h
 exact zd (by simp [lenM,bd,xG e,rt,ht.len])
theorem Yo (R:Rep K own σ μ) {z x:AV} {m:Nat} (h:at_ own z .zero) (hx:at_ own x (.thing m)) (hl:σ.zero.length < big) (hq: ∀ μ',Rep K own {σ with zero:=σ.zero ++ [m]} μ'→QV .none μ'):wp (appL z x) QV μ:=by
 obtain ⟨i,vs,rfl,hi,ht,e⟩:=R.zeroL h
 refine zf (xU e (by rw [ht.len];exact hl)) (hq _ ?_)
 exact R.set (σ':= {σ with zero:=σ.zero ++ [m]}) hi rfl ⟨Nat.le_refl _,Nat.le_refl _⟩ ⟨_,rfl,ht.snoc hx⟩ Desc.dZero
theorem Yp (R:Rep K own σ μ) {a:Nat} {vs:List AV} {ns:List Nat} (ha:own a= .nw (.list vs)) (hv:Things own vs ns) (hq: ∀ own' μ',Ext own own'→Rep K own' {σ with zero:=ns} μ'→Q () μ'):wp (setA (.obj K.heap) "zero" (.obj a)) Q μ:=by
 obtain ⟨x,z,hz,e⟩:=R.heap
 refine zf (yq e (by decide) (by simp)) ?_
 refine (R.move (σ':= {σ with zero:=ns}) R.kH rfl ha (ρ:= .zero) rfl Role.noConfusion ⟨Nat.zero_le _,Nat.zero_le _⟩ ⟨rfl,rfl⟩ Ym (λ own' e1 e2 e3=>⟨⟨x, .obj a,⟨a,rfl,e2⟩,rfl⟩,⟨vs,rfl,hv.ext e1⟩⟩) (λ r hr hr' p d=>Desc.dZero r hr' p d) rfl).elim λ own' z=>hq own' _ z.1 z.2.2
end
end
open w1 w2 w3 w4 w5 w6 w7 w8 w9 w10 w11 w12 w13 w14 w15 w16 w17 w18 w19 w20 w21 w22 w23 w24 w25 w26 w27 w28
local macro_rules | `(tactic| walk_at "w")=> `(tactic| repeat first | with_reducible refine iT ?_ | with_reducible refine w1.iz ?_ | with_reducible refine w2.iz ?_ | with_reducible refine iz ?_ | ((with_reducible refine iA ?_ ?_); · rfl) | ((with_reducible refine iE ?_ ?_); · rfl))
section
variable {K:Ad} {own own':Own} {σ σ':S} {μ:Mem} {α:Type}
noncomputable def But (i:Nat) (own own':Own):Prop:= ∀ j,j≠i→own' j=own j
theorem Rep.promote (R:Rep K own σ μ) {i:Nat} {r:Role} {o:AO} (hi:own i= .nw o) (hr:r.once=true) (hfresh: ∀ j,own j≠r) (hnum:r.num≤σ.last∧r.rnum≤σ.lastRow) (hd:Desc K (up own i r) σ r o):Rep K (up own i r) σ μ :=
 R.up1 (by rw [hi];rfl) (R.len1 (R.ltOf hi Role.noConfusion)) (λ p e=>by
  have d:=R.desc i p e
  rw [hi] at d
  rw [show p=o from d];exact hd) (λ _ _ _ e=>e) (λ _=>hfresh) hnum
theorem Rep.same' (R:Rep K own σ μ) (hl:σ.last≤σ'.last∧σ.lastRow≤σ'.lastRow) (hs: ∀ i o,Desc K own σ (own i) o→Desc K own σ' (own i) o):Rep K own σ' μ :=
 {R with
  bnd:=λ j=>⟨Nat.le_trans (R.bnd j).1 hl.1,Nat.le_trans (R.bnd j).2 hl.2⟩
  desc:=λ j o e=>hs _ _ (R.desc j o e)}
noncomputable def Fresh (own:Own) (n:Nat):Prop:= ∀ j,(own j).num < n
theorem Fresh.but {i n:Nat} (h:Fresh own (n+1)) (b:But i own own') (hi:(own' i).num=0):Fresh own' (n+1):=λ j=>by
 by_cases q:j=i
 ·rw [q,hi];exact Nat.succ_pos n
 ·rw [b j q];exact h j
section
variable {Q:AV→Mem→Prop} {QU:Unit→Mem→Prop} {QL:List AV→Mem→Prop}
theorem ze (R:Rep K own σ μ) {o:AO} (r:Role) (hr:r= .im o∨r= .tm o∨r= .nw o) (hq: ∀ own' μ' a,Ext own own'→own' a=r→own a= .junk→But a own own'→Rep K own' σ μ'→Q (.obj a) μ'):wp (al o) Q μ:=by
 obtain ⟨h1,h2,h3⟩:=R.al hr
 exact zf rfl (hq _ _ _ h2 h3 (R.len _ (Nat.le_refl _)) (λ j hj=>zB hj) h1)
theorem Gp {ms:List (M AV)}:wp (mkL ms) Q μ=wp (evs ms) (λ xs μ'=>wp (al (.list xs)) Q μ') μ:=zq
theorem Gq {c:Cl} {init:AV→M AV}:wp (new c init) Q μ=wp (al (.inst c [])) (λ o μ'=>wp (init o) (λ r μ''=>wp (if r= .none then rt o else fl) Q μ'') μ') μ:=by
 unfold new;simp only [zq]
theorem zC (R:Rep K own σ μ) {i:Nat} {c:Cl} {fs:List (String × AV)} {f:String} {x:AV} (h:own i= .nw (.inst c fs)) (hf:f∈c.fields) (hl:fs.length < 100) (hq: ∀ own' μ',Ext own own'→own' i= .nw (.inst c (put f x fs))→But i own own'→Rep K own' σ μ'→QU () μ'):wp (setA (.obj i) f x) QU μ :=
 zf (yq (R.nw h) hf hl) (hq _ _ (Ext.up (by rw [h];rfl)) zy (λ j hj=>zB hj) (R.nwSet h))
theorem wQ (R:Rep K own σ μ) {i:Nat} {c:Cl} {n:Nat} (hc:c= .scalar∨c= .array∨c= .hash) (h:own i= .nw (.inst c []))
  (hq: ∀ own' μ' w,Ext own own'→own' i= .nw (.inst c [("number", .int n),("count", .int 0),("blessed", .none),("weak", .obj w),("is_destroyed", .bool false),("is_freed", .bool false)])→own' w= .nw (.list [])→(∀ n,Fresh own (n+1)→Fresh own' (n+1))→Rep K own' σ μ'→Q .none μ') :
  wp (ya (.obj i) (.int n)) Q μ:=by
 have hf: ∀ f∈["number","count","blessed","weak","is_destroyed","is_freed"],f∈c.fields:=λ f hf=>by
  rcases hc with rfl | rfl | rfl
  ·exact List.mem_append_left ["value","magic"] hf
  ·exact List.mem_append_left ["items","tied"] hf
  ·exact List.mem_append_left ["table","at","tied"] hf
 unfold ya xv
 walk_at "w";refine zC R h (hf _ (.head _)) (of_decide_eq_true (by kernel_rfl)) λ own1 μ1 e1 h1 b1 R1=> ?_
 walk_at "w";refine zC R1 h1 (hf _ (.tail _ (.head _))) (of_decide_eq_true (by kernel_rfl)) λ own2 μ2 e2 h2 b2 R2=> ?_
 walk_at "w";refine zC R2 h2 (hf _ (.tail _ (.tail _ (.head _)))) (of_decide_eq_true (by kernel_rfl)) λ own3 μ3 e3 h3 b3 R3=> ?_
 walk_at "w";refine ze R3 (.nw (.list [])) (.inr (.inr rfl)) λ own4 μ4 w e4 hw j4 b4 R4=> ?_
 have hwi:w≠i:=λ q=>by rw [q,h3] at j4;cases j4
 walk_at "w";refine zC R4 ((b4 i hwi.symm).trans h3) (hf _ (.tail _ (.tail _ (.tail _ (.head _))))) (of_decide_eq_true (by kernel_rfl)) λ own5 μ5 e5 h5 b5 R5=> ?_
 walk_at "w";refine zC R5 h5 (hf _ (.tail _ (.tail _ (.tail _ (.tail _ (.head _)))))) (of_decide_eq_true (by kernel_rfl)) λ own6 μ6 e6 h6 b6 R6=> ?_
 walk_at "w";refine zC R6 h6 (hf _ (.tail _ (.tail _ (.tail _ (.tail _ (.tail _ (.head _))))))) (of_decide_eq_true (by kernel_rfl)) λ own7 μ7 e7 h7 b7 R7=> ?_
 walk_at "w";refine hq own7 μ7 w ((((((e1.trans e2).trans e3).trans e4).trans e5).trans e6).trans e7) (h7.trans (by kernel_rfl)) ?_ (λ m hm=> ?_) R7
 ·rw [b7 w hwi,b6 w hwi,b5 w hwi];exact hw
 ·exact (((((((hm.but b1 (by rw [h1];rfl)).but b2 (by rw [h2];rfl)).but b3 (by rw [h3];rfl)).but b4 (by rw [hw];rfl)).but b5 (by rw [h5];rfl)).but b6 (by rw [h6];rfl)).but b7 (by rw [h7];rfl))
theorem Rep.born (R:Rep K own σ μ) {n i w:Nat} {c:Cont} {l:List (String × AV)} (hf:Fresh own n) (hn:n≤σ.last)
  (hi:own i= .nw (.inst c.cl (("number", .int n) :: ("count", .int 0) :: ("blessed", .none) :: ("weak", .obj w) :: ("is_destroyed", .bool false) :: ("is_freed", .bool false) :: l))) (hw:own w= .nw (.list []))
  (hlk:σ.lkT n=false) (ht:(∃ v x,c= .s v∧VT own v x∧l=[("value",x),("magic", .none)])∨(∃ k,c= .a []∧k≠w∧own k= .nw (.list [])∧l=[("items", .obj k),("tied", .none)])∨(∃ k,c= .h []∧own k= .nw (.dS false [])∧l=[("table", .obj k),("at", .int 0),("tied", .none)])) :
  ∃ own',Ext own own'∧own' i= .thing n∧Rep K own' (σ.setTh n ⟨c,0,false,false,false,[]⟩) μ:=by
 have fr: ∀ {r:Role},r.num=n→ ∀ j,own j≠r:=λ hr j q=>by have:=hf j;rw [q,hr] at this;exact Nat.lt_irrefl _ ‹_›
 have hiw:i≠w:=λ q=>by rw [q,hw] at hi;cases hi
 let σ1:=σ.setTh n ⟨c,0,false,false,false,[]⟩
 have R1:Rep K own σ1 μ:=R.same' ⟨Nat.le_refl _,Nat.le_refl _⟩ λ j o d=>d.setTh (λ q=>fr rfl j q) (λ q=>absurd q (fr rfl j)) λ q=>absurd q (fr rfl j)
 have R2:Rep K (up own w (.weak n)) σ1 μ:=R1.promote hw rfl (fr rfl) ⟨hn,Nat.zero_le _⟩ ⟨[],rfl,by rw [show σ1.th n=⟨c,0,false,false,false,[]⟩ from zc];exact .nil⟩
 have E2:Ext own (up own w (.weak n)):=Ext.up (by rw [hw];rfl)
 have hi2:up own w (.weak n) i=own i:=zB hiw
 have hw2:up own w (.weak n) w= .weak n:=zy
 have fin: ∀ own3,Ext own own3→own3 i=own i→own3 w= .weak n→Rep K own3 σ1 μ→(∀ j,own3 j≠ .thing n)→(∀ own4,Ext own3 own4→own4=up own3 i (.thing n)→Tail own4 n c l)→ ∃ own',Ext own own'∧own' i= .thing n∧Rep K own' (σ.setTh n ⟨c,0,false,false,false,[]⟩) μ:=by
  intro own3 e3 i3 w3 R3 f3 t3
  have e4:Ext own3 (up own3 i (.thing n)):=Ext.up (by rw [i3,hi];rfl)
  refine ⟨up own3 i (.thing n),e3.trans e4,zy,R3.promote (i3.trans hi) rfl f3 ⟨hn,Nat.zero_le _⟩ ⟨.obj w,l,⟨w,rfl,by rw [zB hiw.symm];exact w3⟩,?_,?_⟩⟩
  ·rw [show σ1.th n=⟨c,0,false,false,false,[]⟩ from zc];exact t3 _ e4 rfl
  ·rw [show σ1.th n=⟨c,0,false,false,false,[]⟩ from zc];rfl
 have f2: ∀ j,up own w (.weak n) j≠ .thing n:=λ j q=>by
  by_cases z:j=w
  ·rw [z,zy] at q;cases q
  ·rw [zB z] at q;exact fr rfl j q
 have f2c: ∀ j,up own w (.weak n) j≠ .cont n:=λ j q=>by
  by_cases z:j=w
  ·rw [z,zy] at q;cases q
  ·rw [zB z] at q;exact fr rfl j q
 rcases ht with ⟨v,x,rfl,hx,rfl⟩ | ⟨k,rfl,hkw,hk,rfl⟩ | ⟨k,rfl,hk,rfl⟩
 ·exact fin _ E2 hi2 hw2 R2 f2 λ own4 e4 _=>⟨x,(hx.ext E2).ext e4,rfl⟩
 ·have hki:k≠i:=λ q=>by rw [q,hi] at hk;cases hk
  have hk2:up own w (.weak n) k= .nw (.list []):=by rw [zB hkw];exact hk
  have R3:=R2.promote (r:= .cont n) hk2 rfl f2c ⟨hn,Nat.zero_le _⟩ (by unfold Desc;dsimp only;rw [show σ1.th n=⟨.a [],0,false,false,false,[]⟩ from zc];exact ⟨[],rfl, .nil⟩)
  refine fin _ (E2.trans (Ext.up (by rw [hk2];rfl))) ((zB hki.symm) ▸ hi2) ((zB hkw.symm) ▸ hw2) R3 (λ j q=> ?_) λ own4 e4 q=>⟨.obj k,⟨k,rfl,by rw [q,zB hki,zy]⟩,rfl⟩
  by_cases z:j=k
  ·rw [z,zy] at q;cases q
  ·rw [zB z] at q;exact f2 j q
 ·have hki:k≠i:=λ q=>by rw [q,hi] at hk;cases hk
  have hkw:k≠w:=λ q=>by rw [q,hw] at hk;cases hk
  have hk2:up own w (.weak n) k= .nw (.dS false []):=by rw [zB hkw];exact hk
  have R3:=R2.promote (r:= .cont n) hk2 rfl f2c ⟨hn,Nat.zero_le _⟩ (by unfold Desc;dsimp only;rw [show σ1.th n=⟨.h [],0,false,false,false,[]⟩ from zc];exact ⟨[],by rw [show σ1.lkT n=false from hlk], .nil⟩)
  refine fin _ (E2.trans (Ext.up (by rw [hk2];rfl))) ((zB hki.symm) ▸ hi2) ((zB hkw.symm) ▸ hw2) R3 (λ j q=> ?_) λ own4 e4 q=>⟨.obj k,⟨k,rfl,by rw [q,zB hki,zy]⟩,rfl⟩
  by_cases z:j=k
  ·rw [z,zy] at q;cases q
  ·rw [zB z] at q;exact f2 j q
theorem vh (R:Rep K own σ μ) {t:AV} {m:Nat} {b:Bool} (ht:at_ own t (.thing m)) (hq: ∀ own' μ' x,Ext own own'→VT own' (if b then .weak m else .ref m) x→Rep K own' σ μ'→Q x μ'):wp (new .ref λ o=>zL o t (.bool b)) Q μ:=by
 unfold zL yG
 walk_at "w";refine iW ?_;refine ze R (.nw (.inst .ref [])) (.inr (.inr rfl)) λ own1 μ1 i e1 h1 j1 b1 R1=> ?_
 walk_at "w";refine zC R1 h1 (by decide) (Nat.succ_pos _) λ own2 μ2 e2 h2 b2 R2=> ?_
 walk_at "w";refine zC R2 h2 (by decide) (of_decide_eq_true (by kernel_rfl)) λ own3 μ3 e3 h3 b3 R3=> ?_
 have e4:Ext own3 (up own3 i (.im (.inst .ref [("target",t),("is_weak", .bool b)]))):=Ext.up (by rw [h3];rfl)
 have h3':own3 i= .nw (.inst .ref [("target",t),("is_weak", .bool b)]):=h3
 have R4:=R3.nwTo h3' (.inl rfl)
 have ee:=((e1.trans e2).trans e3).trans e4
 walk_at "w";refine hq _ _ _ ee ?_ R4
 cases b
 ·exact ⟨i,_,rfl,zy,t,ht.th ee,rfl⟩
 ·exact ⟨i,_,rfl,zy,t,ht.th ee,rfl⟩
theorem qy (R:Rep K own σ μ) (hq: ∀ μ',Fresh own (σ.last+1)→Rep K own {σ with last:=σ.last+1} μ'→Q (.int ((σ.last+1:Nat):Int)) μ'):wp (zx (.obj K.heap)) Q μ:=by
 unfold zx ye
 walk_at "w";refine toI (Zt R) ?_
 walk_at "w";refine Yn (m:=σ.last+1) R (Nat.le_succ _) λ μ' R'=> ?_
 walk_at "w";refine toI (Zt R') ?_
 walk_at "w";exact hq μ' (λ j=>Nat.lt_succ_of_le (R.bnd j).1) R'
noncomputable def newTh (c:Cont):Th:=⟨c,0,false,false,false,[]⟩
noncomputable def S.fresh (σ:S) (c:Cont):S:= {σ with last:=σ.last+1}.setTh (σ.last+1) (newTh c)
theorem uq (R:Rep K own σ μ) {x:AV} {pv:PV} (hx:VT own pv x) (hlk: ∀ n,σ.lkT n=false) (hq: ∀ own' μ' v,Ext own own'→at_ own' v (.thing (σ.last+1))→Rep K own' (σ.fresh (.s pv)) μ'→Q v μ'):wp (zH (.obj K.heap) x) Q μ:=by
 unfold zH yn yW xc
 walk_at "w";refine toI (wg R) ?_
 walk_at "w";refine qy R λ μ1 hf R1=> ?_
 walk_at "w";refine iW ?_;refine ze R1 (.nw (.inst .scalar [])) (.inr (.inr rfl)) λ own2 μ2 i e2 h2 j2 b2 R2=> ?_
 walk_at "w";refine wQ R2 (.inl rfl) h2 λ own3 μ3 w e3 h3 hw b3 R3=> ?_
 walk_at "w";refine zC R3 h3 (by decide) (by simp) λ own4 μ4 e4 h4 b4 R4=> ?_
 walk_at "w";refine zC R4 h4 (by decide) (of_decide_eq_true (by kernel_rfl)) λ own5 μ5 e5 h5 b5 R5=> ?_
 have hwi:w≠i:=λ q=>by rw [q,h3] at hw;cases hw
 have ee:=((e2.trans e3).trans e4).trans e5
 have hw5:own5 w= .nw (.list []):=by rw [b5 w hwi,b4 w hwi];exact hw
 have hf5:Fresh own5 (σ.last+1):=((b3 _ (hf.but b2 (by rw [h2];rfl))).but b4 (by rw [h4];rfl)).but b5 (by rw [h5];rfl)
 obtain ⟨own6,e6,h6,R6⟩:=R5.born (c:= .s pv) (n:=σ.last+1) hf5 (Nat.le_refl _) (h5.trans (by kernel_rfl)) hw5 (hlk _) (.inl ⟨pv,x,rfl,hx.ext ee,rfl⟩)
 walk_at "w";exact hq own6 _ _ (ee.trans e6) ⟨i,rfl,h6⟩ R6
theorem bH (R:Rep K own σ μ) (hlk: ∀ n,σ.lkT n=false) (hq: ∀ own' μ' v,Ext own own'→at_ own' v (.thing (σ.last+1))→Rep K own' (σ.fresh (.a [])) μ'→Q v μ'):wp (zW (.obj K.heap)) Q μ:=by
 unfold zW yr xh xw
 walk_at "w";refine toI (wg R) ?_
 walk_at "w";refine qy R λ μ1 hf R1=> ?_
 walk_at "w";refine iW ?_;refine ze R1 (.nw (.inst .array [])) (.inr (.inr rfl)) λ own2 μ2 i e2 h2 j2 b2 R2=> ?_
 walk_at "w";refine wQ R2 (.inr (.inl rfl)) h2 λ own3 μ3 w e3 h3 hw b3 R3=> ?_
 walk_at "w";refine ze R3 (.nw (.list [])) (.inr (.inr rfl)) λ own3' μ3' k e3' hk j3 b3' R3'=> ?_
 have hwi:w≠i:=λ q=>by rw [q,h3] at hw;cases hw
 have hki:k≠i:=λ q=>by rw [q,h3] at j3;cases j3
 have hkw:k≠w:=λ q=>by rw [q,hw] at j3;cases j3
 walk_at "w";refine zC R3' ((b3' i hki.symm).trans h3) (by decide) (by simp) λ own4 μ4 e4 h4 b4 R4=> ?_
 walk_at "w";refine zC R4 h4 (by decide) (of_decide_eq_true (by kernel_rfl)) λ own5 μ5 e5 h5 b5 R5=> ?_
 have ee:=(((e2.trans e3).trans e3').trans e4).trans e5
 have hw5:own5 w= .nw (.list []):=by rw [b5 w hwi,b4 w hwi,b3' w hkw.symm];exact hw
 have hk5:own5 k= .nw (.list []):=by rw [b5 k hki,b4 k hki];exact hk
 have hf5:Fresh own5 (σ.last+1):=(((b3 _ (hf.but b2 (by rw [h2];rfl))).but b3' (by rw [hk];rfl)).but b4 (by rw [h4];rfl)).but b5 (by rw [h5];rfl)
 obtain ⟨own6,e6,h6,R6⟩:=R5.born (c:= .a []) (n:=σ.last+1) hf5 (Nat.le_refl _) (h5.trans (by kernel_rfl)) hw5 (hlk _) (.inr (.inl ⟨k,rfl,hkw,hk5,rfl⟩))
 walk_at "w";exact hq own6 _ _ (ee.trans e6) ⟨i,rfl,h6⟩ R6
theorem Yq (R:Rep K own σ μ) (hlk: ∀ n,σ.lkT n=false) (hq: ∀ own' μ' v,Ext own own'→at_ own' v (.thing (σ.last+1))→Rep K own' (σ.fresh (.h [])) μ'→Q v μ'):wp (yb (.obj K.heap)) Q μ:=by
 unfold yb yC xE xI
 walk_at "w";refine toI (wg R) ?_
 walk_at "w";refine qy R λ μ1 hf R1=> ?_
 walk_at "w";refine iW ?_;refine ze R1 (.nw (.inst .hash [])) (.inr (.inr rfl)) λ own2 μ2 i e2 h2 j2 b2 R2=> ?_
 walk_at "w";refine wQ R2 (.inr (.inr rfl)) h2 λ own3 μ3 w e3 h3 hw b3 R3=> ?_
 walk_at "w";refine ze R3 (.nw (.dS false [])) (.inr (.inr rfl)) λ own3' μ3' k e3' hk j3 b3' R3'=> ?_
 have hwi:w≠i:=λ q=>by rw [q,h3] at hw;cases hw
 have hki:k≠i:=λ q=>by rw [q,h3] at j3;cases j3
 have hkw:k≠w:=λ q=>by rw [q,hw] at j3;cases j3
 walk_at "w";refine zC R3' ((b3' i hki.symm).trans h3) (by decide) (by simp) λ own4 μ4 e4 h4 b4 R4=> ?_
 walk_at "w";refine zC R4 h4 (by decide) (of_decide_eq_true (by kernel_rfl)) λ own5 μ5 e5 h5 b5 R5=> ?_
 walk_at "w";refine zC R5 h5 (by decide) (of_decide_eq_true (by kernel_rfl)) λ own5' μ5' e5' h5' b5' R5'=> ?_
 have ee:=((((e2.trans e3).trans e3').trans e4).trans e5).trans e5'
 have hw5:own5' w= .nw (.list []):=by rw [b5' w hwi,b5 w hwi,b4 w hwi,b3' w hkw.symm];exact hw
 have hk5:own5' k= .nw (.dS false []):=by rw [b5' k hki,b5 k hki,b4 k hki];exact hk
 have hf5:Fresh own5' (σ.last+1):=((((b3 _ (hf.but b2 (by rw [h2];rfl))).but b3' (by rw [hk];rfl)).but b4 (by rw [h4];rfl)).but b5 (by rw [h5];rfl)).but b5' (by rw [h5'];rfl)
 obtain ⟨own6,e6,h6,R6⟩:=R5'.born (c:= .h []) (n:=σ.last+1) hf5 (Nat.le_refl _) (h5'.trans (by kernel_rfl)) hw5 (hlk _) (.inr (.inr ⟨k,rfl,hk5,rfl⟩))
 walk_at "w";exact hq own6 _ _ (ee.trans e6) ⟨i,rfl,h6⟩ R6
end
end
section
variable {ρ:Type} {μ:Mem}
abbrev loopQ (P:List AV→ρ→Mem→Prop) (xs:List AV) (r:ρ):Fl ρ→Mem→Prop:=λ f μ'=>match f with
 | .nxt r'=>P xs r' μ'
 | .cnt=>P xs r μ'
 | .ret _=>False
theorem Xg {ck:M Unit} {body:ρ→AV→M (Fl ρ)} {P:List AV→ρ→Mem→Prop} {Q:Fl ρ→Mem→Prop} (hck: ∀ xs r μ,P xs r μ→ck μ=some ((),μ))
  (hstep: ∀ x xs r μ,P (x :: xs) r μ→wp (body r x) (loopQ P xs r) μ) (hend: ∀ r μ,P [] r μ→Q (.nxt r) μ): ∀ xs r μ,P xs r μ→wp (goG ck body xs r) Q μ:=by
 intro xs
 induction xs with
 | nil =>
  intro r μ h
  show wp (bd _ _) _ _
  rw [zq,zd (hck _ _ _ h),zA]
  exact hend r μ h
 | cons x xs ih =>
  intro r μ h
  show wp (bd _ _) _ _
  rw [zq,zd (hck _ _ _ h),zq]
  refine wp_mono (hstep x xs r μ h) λ f μ' h'=> ?_
  cases f with
  | nxt r'=>exact ih r' μ' h'
  | cnt=>exact ih r μ' h'
  | ret v=>exact h'.elim
theorem U2 {ck:M Unit} {test:AV→M Bool} {elt:AV→M AV} {P:List AV→List AV→Mem→Prop} {Q:List AV→Mem→Prop} (hck: ∀ xs acc μ,P xs acc μ→ck μ=some ((),μ))
  (hstep: ∀ x xs acc μ,P (x :: xs) acc μ→wp (test x) (λ b μ'=>if b then wp (elt x) (λ y μ''=>P xs (acc ++ [y]) μ'') μ' else P xs acc μ') μ) (hend: ∀ acc μ,P [] acc μ→Q acc μ): ∀ xs acc μ,P xs acc μ→wp (goC ck test elt xs acc) Q μ:=by
 intro xs
 induction xs with
 | nil =>
  intro acc μ h
  show wp (bd _ _) _ _
  rw [zq,zd (hck _ _ _ h),zA]
  exact hend acc μ h
 | cons x xs ih =>
  intro acc μ h
  show wp (bd _ _) _ _
  rw [zq,zd (hck _ _ _ h),zq]
  refine wp_mono (hstep x xs acc μ h) λ b μ' h'=> ?_
  cases b with
  | true =>
   simp only [if_true] at h' ⊢
   rw [zq]
   exact wp_mono h' λ y μ'' h''=>ih _ _ h''
  | false=>exact ih _ _ h'
theorem gD {i:Nat} {o:AO} (h:μ[i]? =some o):ckO i o μ=some ((),μ):=by simp [ckO,bd,rd,h,rt]
theorem ur {α:Type} {i:Nat} {o:AO} {m:M α} {Q:α→Mem→Prop} (hu:o.locked=false) (h:wp m (λ a μ'=>μ'[i]? =some o.lock∧Q a (μ'.set i o)) (μ.set i o.lock)):wp (walked i o m) Q μ:=by
 unfold walked
 simp only [hu,Bool.false_eq_true,if_false]
 simp only [zq]
 refine zf rfl (wp_mono h λ a μ' h'=> ?_)
 obtain ⟨h1,h2⟩:=h'
 refine zf (show rd i μ'=some (o.lock,μ') by simp [rd,h1]) ?_
 simp only [if_true,zq]
 exact zf rfl (zA.mpr h2)
theorem Zw {G:ρ→Cx0} {i:Nat} {o:AO} {xs0:List AV} {r:ρ} {body:ρ→AV→M (Fl ρ)} {Q:Fl ρ→Mem→Prop} (P:List AV→ρ→Mem→Prop) (he:μ[i]? =some o) (hk:keysOf o=some xs0) (hu:o.locked=false) (h0:P xs0 r (μ.set i o.lock))
  (hin: ∀ xs r μ,P xs r μ→μ[i]? =some o.lock) (hstep: ∀ x xs r μ,P (x :: xs) r μ→wp (body r x) (loopQ P xs r) μ) (hend: ∀ r μ,P [] r μ→Q (.nxt r) (μ.set i o)):wp (forL G (.obj i) r body) Q μ:=by
 unfold forL
 simp only [zq]
 refine zf (show rd i μ=some (o,μ) by simp [rd,he]) ?_
 rw [hk,jK]
 exact ur hu (Xg (λ xs r μ h=>gD (hin xs r μ h)) hstep (λ r μ h=>⟨hin _ _ _ h,hend r μ h⟩) _ _ _ h0)
theorem Zx {G:ρ→Cx0} {i:Nat} {o:AO} {xs0:List AV} {r:ρ} {body:ρ→AV→M (Fl ρ)} {Q:Fl ρ→Mem→Prop} (P:List AV→ρ→Mem→Prop) (he:μ[i]? =some o) (hk:valsOf o=some xs0) (hu:o.locked=false) (h0:P xs0 r (μ.set i o.lock))
  (hin: ∀ xs r μ,P xs r μ→μ[i]? =some o.lock) (hstep: ∀ x xs r μ,P (x :: xs) r μ→wp (body r x) (loopQ P xs r) μ) (hend: ∀ r μ,P [] r μ→Q (.nxt r) (μ.set i o)):wp (forV G (.obj i) r body) Q μ:=by
 unfold forV
 simp only [zq]
 refine zf (show rd i μ=some (o,μ) by simp [rd,he]) ?_
 rw [hk,jK]
 exact ur hu (Xg (λ xs r μ h=>gD (hin xs r μ h)) hstep (λ r μ h=>⟨hin _ _ _ h,hend r μ h⟩) _ _ _ h0)
theorem qz {G:AV→Cx0} {i:Nat} {o:AO} {xs0:List AV} {test:AV→M Bool} {elt:AV→M AV} {Q:AV→Mem→Prop} (P:List AV→List AV→Mem→Prop) (he:μ[i]? =some o) (hk:keysOf o=some xs0) (hu:o.locked=false) (hl:xs0.length≤big) (h0:P xs0 [] (μ.set i o.lock))
  (hin: ∀ xs acc μ,P xs acc μ→μ[i]? =some o.lock) (hstep: ∀ x xs acc μ,P (x :: xs) acc μ→wp (test x) (λ b μ'=>if b then wp (elt x) (λ y μ''=>P xs (acc ++ [y]) μ'') μ' else P xs acc μ') μ)
  (hend: ∀ acc μ,P [] acc μ→wp (al (.list acc)) Q (μ.set i o)):wp (comp G (.obj i) test elt) Q μ:=by
 unfold comp
 simp only [zq]
 refine zf (show rd i μ=some (o,μ) by simp [rd,he]) ?_
 rw [hk,jK]
 simp only [hl,if_true,zq]
 exact ur hu (U2 (λ xs r μ h=>gD (hin xs r μ h)) hstep (λ r μ h=>⟨hin _ _ _ h,hend r μ h⟩) _ _ _ h0)
theorem wR {i:Nat} {o:AO} (h:μ[i]? =some o):μ.set i o=μ:=by
 apply List.ext_getElem?
 intro j
 by_cases q:i=j
 ·subst q
  rw [List.getElem?_set_self ((List.getElem?_eq_some_iff.mp h).1),h]
 ·rw [List.getElem?_set_ne q]
theorem wh {G:ρ→Cx0} {i:Nat} {xs0:List AV} {r:ρ} {body:ρ→AV→M (Fl ρ)} {Q:Fl ρ→Mem→Prop} (P:List AV→ρ→Mem→Prop) (he:μ[i]? =some (.list xs0)) (h0:P xs0 r μ)
  (hin: ∀ xs r μ,P xs r μ→μ[i]? =some (.list xs0)) (hstep: ∀ x xs r μ,P (x :: xs) r μ→wp (body r x) (loopQ P xs r) μ) (hend: ∀ r μ,P [] r μ→Q (.nxt r) μ):wp (forL G (.obj i) r body) Q μ :=
 Zw P he rfl rfl (by show P xs0 r (μ.set i (.list xs0));rw [wR he];exact h0) hin hstep λ r μ h=>by rw [wR (hin _ _ _ h)];exact hend r μ h
theorem jm {G:AV→Cx0} {i:Nat} {xs0:List AV} {test:AV→M Bool} {elt:AV→M AV} {Q:AV→Mem→Prop} (P:List AV→List AV→Mem→Prop) (he:μ[i]? =some (.list xs0)) (hl:xs0.length≤big) (h0:P xs0 [] μ)
  (hin: ∀ xs acc μ,P xs acc μ→μ[i]? =some (.list xs0)) (hstep: ∀ x xs acc μ,P (x :: xs) acc μ→wp (test x) (λ b μ'=>if b then wp (elt x) (λ y μ''=>P xs (acc ++ [y]) μ'') μ' else P xs acc μ') μ)
  (hend: ∀ acc μ,P [] acc μ→wp (al (.list acc)) Q μ):wp (comp G (.obj i) test elt) Q μ :=
 qz P he rfl rfl hl (by show P xs0 [] (μ.set i (.list xs0));rw [wR he];exact h0) hin hstep λ r μ h=>by rw [wR (hin _ _ _ h)];exact hend r μ h
theorem wi {G:AV→Cx0} {i:Nat} {xs0:List AV} {test:AV→M Bool} {elt:AV→M AV} {Q:AV→Mem→Prop} (p:AV→Bool) (f:AV→AV) (he:μ[i]? =some (.list xs0)) (hl:xs0.length≤big)
  (hstep: ∀ x∈xs0,test x μ=some (p x,μ)∧(p x=true→elt x μ=some (f x,μ))) (hend:wp (al (.list ((xs0.filter p).map f))) Q μ):wp (comp G (.obj i) test elt) Q μ:=by
 refine jm (λ xs acc μ'=>μ'=μ∧ ∃ ys,xs0=ys ++ xs∧acc=(ys.filter p).map f) he hl ⟨rfl,[],rfl,rfl⟩ (λ xs acc μ' h=>by rw [h.1];exact he) (λ x xs acc μ' h=> ?_) (λ acc μ' h=> ?_)
 ·obtain ⟨rfl,ys,e1,e2⟩:=h
  obtain ⟨h1,h2⟩:=hstep x (by rw [e1];exact List.mem_append_right _ (.head _))
  refine zf h1 ?_
  cases hp:p x with
  | true=>simp only [if_true];exact zf (h2 hp) ⟨rfl,ys ++ [x],by rw [e1];simp,by rw [e2];simp [hp]⟩
  | false=>exact ⟨rfl,ys ++ [x],by rw [e1];simp,by rw [e2];simp [hp]⟩
 ·obtain ⟨rfl,ys,e1,e2⟩:=h
  rw [List.append_nil] at e1
  subst e1
  rw [e2];exact hend
theorem Zy {G:ρ→Cx0} {n:Nat} {r:ρ} {body:ρ→AV→M (Fl ρ)} {Q:Fl ρ→Mem→Prop} (P:Nat→ρ→Mem→Prop) (hn:n≤1000) (h0:P 0 r μ) (hstep: ∀ j r μ,j < n→P j r μ→wp (body r (.int (Int.ofNat j))) (λ f μ'=>match f with | .nxt r'=>P (j+1) r' μ' | _=>False) μ) (hend: ∀ r μ,P n r μ→Q (.nxt r) μ):wp (forR G (.int n) r body) Q μ:=by
 have:(0:Int)≤n∧(n:Int)≤1000:=by lia
 show wp (if (0:Int)≤n∧(n:Int)≤1000 then goG (rt ()) body ((List.range (n:Int).toNat).map λ j:Nat=>AV.int (Int.ofNat j)) r else fl) Q μ
 rw [if_pos this]
 have hgo: ∀ (k j:Nat) (r:ρ) (μ:Mem),k+j=n→P j r μ→wp (goG (rt ()) body ((List.range' j k).map λ j:Nat=>AV.int (Int.ofNat j)) r) Q μ:=by
  intro k
  induction k with
  | zero =>
   intro j r μ e h
   simp only [List.range'_zero,List.map_nil]
   show wp (bd _ _) _ _
   rw [zq,zA,zA]
   exact hend r μ (by rw [show n=j by lia];exact h)
  | succ k ih =>
   intro j r μ e h
   simp only [List.range'_succ,List.map_cons]
   show wp (bd _ _) _ _
   rw [zq,zA,zq]
   refine wp_mono (hstep j r μ (by lia) h) λ f μ' h'=> ?_
   cases f with
   | nxt r'=>exact ih (j+1) r' μ' (by lia) h'
   | cnt=>exact h'.elim
   | ret v=>exact h'.elim
 rw [show ((n:Int)).toNat=n from rfl,List.range_eq_range']
 exact hgo n 0 r μ (by lia) h0
end
section
variable {K:Ad} {own own':Own} {σ σ':S} {μ:Mem} {α:Type}
variable {Q:Unit→Mem→Prop} {QV:AV→Mem→Prop} {v:AV} {n:Nat}
theorem Rep.real (R:Rep K own σ μ): ∃ es,μ[K.real]? =some (.dI σ.lkR es)∧L2 (λ e (n:Nat)=>e.1=(n:Int)∧at_ own e.2 (.thing n)) es σ.real:=by
 obtain ⟨o,e,es,rfl,d⟩:=R.at' R.kR nofun;exact ⟨es,e,d⟩
theorem Rep.world (R:Rep K own σ μ): ∃ es,μ[K.world]? =some (.dI σ.lkW es)∧L2 (λ e (n:Nat)=>e.1=(n:Int)∧at_ own e.2 (.row n)) es σ.wk:=by
 obtain ⟨o,e,es,rfl,d⟩:=R.at' R.kW nofun;exact ⟨es,e,d⟩
theorem wS {R:AV→Nat→Prop} {es:List (Int × AV)} {ns:List Nat} (h:L2 (λ e (n:Nat)=>e.1=(n:Int)∧R e.2 n) es ns) (n:Nat):(n∈ns→ ∃ x,get (n:Int) es=some x∧R x n)∧(n∉ns→get (n:Int) es=none):=by
 induction h with
 | nil=>exact ⟨λ h=>by simp at h,λ _=>rfl⟩
 | @cons a b as bs h1 h2 ih =>
  rw [xb]
  rw [h1.1]
  by_cases q:b=n
  ·subst b
   simp only [if_true]
   exact ⟨λ _=>⟨_,rfl,h1.2⟩,λ h=>absurd (List.mem_cons_self) h⟩
  ·have: ¬ (b:Int)=n:=by lia
   simp only [this,if_false]
   refine ⟨λ h=>ih.1 ?_,λ h=>ih.2 ?_⟩
   ·rcases List.mem_cons.mp h with rfl | h
    ·exact absurd rfl q
    ·exact h
   ·exact λ h'=>h (List.mem_cons_of_mem _ h')
theorem jn {R:AV→Nat→Prop} {es:List (Int × AV)} {ns:List Nat} (h:L2 (λ e (n:Nat)=>e.1=(n:Int)∧R e.2 n) es ns) {n:Nat} {x:AV} (hn:n∉ns) (hx:R x n):L2 (λ e (n:Nat)=>e.1=(n:Int)∧R e.2 n) (put (n:Int) x es) (ns ++ [n]):=by
 induction h with
 | nil=>exact .cons ⟨rfl,hx⟩ .nil
 | @cons a b as bs h1 h2 ih =>
  rw [wu]
  rw [h1.1]
  have q: ¬ b=n:=λ q=>hn (by simp [q])
  have: ¬ (b:Int)=n:=by lia
  simp only [this,if_false]
  exact .cons h1 (ih λ h=>hn (List.mem_cons_of_mem _ h))
theorem Wn {R:AV→Nat→Prop} {es:List (Int × AV)} {ns:List Nat} (h:L2 (λ e (n:Nat)=>e.1=(n:Int)∧R e.2 n) es ns) {n:Nat}:L2 (λ e (n:Nat)=>e.1=(n:Int)∧R e.2 n) (del (n:Int) es) (ns.erase n):=by
 induction h with
 | nil=>exact .nil
 | @cons a b as bs h1 h2 ih =>
  rw [gw]
  rw [h1.1,List.erase_cons]
  by_cases q:b=n
  ·subst q
   simp only [if_true,beq_self_eq_true]
   exact h2
  ·have: ¬ (b:Int)=n:=by lia
   simp only [this,if_false,beq_eq_false_iff_ne.mpr q,Bool.false_eq_true]
   exact .cons h1 ih
theorem zE (R:Rep K own σ μ) (hn:n∈σ.real) (hq: ∀ v,at_ own v (.thing n)→QV v μ):wp (getI (.obj K.real) (.int n)) QV μ:=by
 obtain ⟨es,e,h⟩:=R.real
 obtain ⟨x,e1,e2⟩:=(wS (R:=λ v n=>at_ own v (.thing n)) h n).1 hn
 exact zf (a:=x) (rdo e (by dsimp only;rw [e1];rfl)) (hq x e2)
theorem zj (R:Rep K own σ μ) (hn:n∈σ.wk) (hq: ∀ v,at_ own v (.row n)→QV v μ):wp (getI (.obj K.world) (.int n)) QV μ:=by
 obtain ⟨es,e,h⟩:=R.world
 obtain ⟨x,e1,e2⟩:=(wS (R:=λ v n=>at_ own v (.row n)) h n).1 hn
 exact zf (a:=x) (rdo e (by dsimp only;rw [e1];rfl)) (hq x e2)
theorem u5 (R:Rep K own σ μ):wp (ninK (.int n) (.obj K.world)) QV μ=QV (.bool (decide (n∉σ.wk))) μ:=by
 refine hideP λ PZ hZ=> ?_
 obtain ⟨es,e,h⟩:=R.world
 obtain ⟨h1,h2⟩:=wS (R:=λ v n=>at_ own v (.row n)) h n
 refine hZ ?_
 refine zd ?_
 unfold ninK bd
 rw [uO e]
 by_cases q:n∈σ.wk
 ·obtain ⟨x,e1,_⟩:=h1 q
  simp [e1,q,rt]
 ·simp [h2 q,q,rt]
theorem vN (R:Rep K own σ μ) (hlk:σ.lkR=false) (hl:σ.real.length < big) (hn:n∉σ.real) {x:AV} (hx:at_ own x (.thing n)) (hq: ∀ μ',Rep K own {σ with real:=σ.real ++ [n]} μ'→Q () μ'):wp (setI (.obj K.real) (.int n) x) Q μ:=by
 obtain ⟨es,e,h⟩:=R.real
 rw [hlk] at e
 refine zf (μ':=μ.set K.real (.dI false (put (n:Int) x es))) (rdo e (by dsimp only;rw [if_pos ⟨rfl,by rw [h.len];exact hl⟩];rfl)) (hq _ ?_)
 exact R.set (σ':= {σ with real:=σ.real ++ [n]}) R.kR rfl ⟨Nat.le_refl _,Nat.le_refl _⟩ ⟨_,by rw [show ({σ with real:=σ.real ++ [n]}:S).lkR=false from hlk],jn (R:=λ v n=>at_ own v (.thing n)) h hn hx⟩ Desc.dReal
theorem bI (R:Rep K own σ μ) (hlk:σ.lkW=false) (hn:n∈σ.wk) (hq: ∀ x μ',Rep K own {σ with wk:=σ.wk.erase n} μ'→QV x μ'):wp (dpop1 (.obj K.world) (.int n)) QV μ:=by
 obtain ⟨es,e,h⟩:=R.world
 rw [hlk] at e
 obtain ⟨x,e1,e2⟩:=(wS (R:=λ v n=>at_ own v (.row n)) h n).1 hn
 refine zf (a:=x) (μ':=μ.set K.world (.dI false (del (n:Int) es))) (bdo (uO e) (by rw [e1];exact bdo (rdo e (by dsimp only;rw [if_pos rfl];rfl)) rfl)) (hq x _ ?_)
 exact R.set (σ':= {σ with wk:=σ.wk.erase n}) R.kW rfl ⟨Nat.le_refl _,Nat.le_refl _⟩ ⟨_,by rw [show ({σ with wk:=σ.wk.erase n}:S).lkW=false from hlk],Wn (R:=λ v n=>at_ own v (.row n)) h⟩ Desc.dWorld
theorem Wo (R:Rep K own σ μ):wp (chkD (.obj K.world)) Q μ=Q () μ:=by obtain ⟨es,e,_⟩:=R.world;exact zd (rdo e rfl)
inductive RowAt (own:Own) (μ:Mem) (r:AV) (n:Nat) (w:Row):Prop
 | mk (i:Nat) (x:AV) (er:r= .obj i) (hi:own i= .row n) (ht:RTail own n w.c x) (e:μ[i]? =some (.list [.str w.c.kind, .bool w.bl, .bool w.ds,x]))
theorem Rep.row (R:Rep K own σ μ) {r:AV} (h:at_ own r (.row n)):RowAt own μ r n (σ.row n):=by
 obtain ⟨i,rfl,h⟩:=h
 obtain ⟨o,e,x,a,rfl⟩:=R.at' h nofun
 exact ⟨i,x,rfl,h,a,e⟩
theorem zJ {i:Nat} {xs:List AV} {k:Nat} {x:AV} (e:μ[i]? =some (.list xs)) (h:xs[k]? =some x):getI (.obj i) (.int (k:Int)) μ=some (x,μ):=by
 exact rdo e (by dsimp only;rw [if_pos (Int.natCast_nonneg k)];show opt xs[k]? μ=_;rw [h];rfl)
theorem gE {i:Nat} {xs:List AV} {k:Nat} {x:AV} (e:μ[i]? =some (.tup xs)) (h:xs[k]? =some x):getI (.obj i) (.int (k:Int)) μ=some (x,μ):=by
 exact rdo e (by dsimp only;rw [if_pos (Int.natCast_nonneg k)];show opt xs[k]? μ=_;rw [h];rfl)
theorem kb {i:Nat} {xs:List AV} {k:Nat} {x:AV} (e:μ[i]? =some (.list xs)) (h:k < xs.length):setI (.obj i) (.int (k:Int)) x μ=some ((),μ.set i (.list (xs.set k x))):=by
 have:(0:Int)≤(k:Int)∧((k:Int)).toNat < xs.length:=⟨Int.natCast_nonneg k,h⟩
 exact rdo e (by dsimp only;rw [if_pos this];rfl)
theorem Zz (R:Rep K own σ μ) {r:AV} (h:at_ own r (.row n)):wp (getI r (.int 0)) QV μ=QV (.str (σ.row n).c.kind) μ:=by
 obtain ⟨i,x,rfl,_,_,e⟩:=R.row h;exact zd (zJ (k:=0) e rfl)
theorem VE (R:Rep K own σ μ) {r:AV} (h:at_ own r (.row n)):wp (getI r (.int 1)) QV μ=QV (.bool (σ.row n).bl) μ:=by
 obtain ⟨i,x,rfl,_,_,e⟩:=R.row h;exact zd (zJ (k:=1) e rfl)
theorem ZA (R:Rep K own σ μ) {r:AV} (h:at_ own r (.row n)):wp (getI r (.int 2)) QV μ=QV (.bool (σ.row n).ds) μ:=by
 obtain ⟨i,x,rfl,_,_,e⟩:=R.row h;exact zd (zJ (k:=2) e rfl)
theorem zw (R:Rep K own σ μ) {r:AV} (h:at_ own r (.row n)) (hq: ∀ x,RTail own n (σ.row n).c x→QV x μ):wp (getI r (.int 3)) QV μ:=by
 obtain ⟨i,x,rfl,_,a,e⟩:=R.row h;exact zf (zJ (k:=3) e rfl) (hq x a)
theorem Yr (R:Rep K own σ μ) {r:AV} (h:at_ own r (.row n)) {b:Bool} (hq: ∀ μ',Rep K own (σ.setRow n {σ.row n with ds:=b}) μ'→Q () μ'):wp (setI r (.int 2) (.bool b)) Q μ:=by
 obtain ⟨i,x,rfl,hi,a,e⟩:=R.row h
 refine zf (kb (k:=2) e (by simp)) (hq _ ?_)
 exact R.set hi rfl ⟨Nat.le_refl _,Nat.le_refl _⟩ ⟨x,by rw [zr];exact a,by rw [zr];rfl⟩ λ r hr o d=>d.setRow hr λ _=> .inl rfl
theorem yR (R:Rep K own σ μ) {r:AV} (h:at_ own r (.row n)) {pv pv':PV} (hc:(σ.row n).c= .s pv') {x:AV} (hx:VW own pv x) (hq: ∀ μ',Rep K own (σ.setRow n {σ.row n with c:= .s pv}) μ'→Q () μ'):wp (setI r (.int 3) x) Q μ:=by
 obtain ⟨i,y,rfl,hi,a,e⟩:=R.row h
 refine zf (kb (k:=3) e (Nat.le_refl _)) (hq _ ?_)
 exact R.set hi rfl ⟨Nat.le_refl _,Nat.le_refl _⟩ ⟨x,by rw [zr];exact hx,by rw [zr,hc];rfl⟩ λ r hr o d=>d.setRow hr λ _=> .inr ⟨_,hc⟩
end
section
variable {K:Ad} {own own':Own} {σ σ':S} {μ:Mem} {α:Type}
variable {Q:Unit→Mem→Prop} {QV:AV→Mem→Prop} {v:AV} {n:Nat}
theorem VW.tup (R:Rep K own σ μ) {pv:PV} {x:AV} (h:VW own pv x) {m:Nat} (ht:pv.tgt=some m): ∃ i,x= .obj i∧μ[i]? =some (.tup [.str (if pv.isWeak then "weak" else "ref"), .int m]):=by
 cases pv with
 | none=>exact za ht
 | int i=>exact za ht
 | ref k=>cases ht;obtain ⟨i,rfl,h2⟩:=h;exact ⟨i,rfl,R.im h2⟩
 | weak k=>cases ht;obtain ⟨i,rfl,h2⟩:=h;exact ⟨i,rfl,R.im h2⟩
theorem wj (R:Rep K own σ μ) {pv:PV} {x:AV} (h:VW own pv x):wp (isT x) QV μ=QV (.bool pv.isRef) μ:=by
 cases pv with
 | none=>cases h;exact zd rfl
 | int i=>cases h;exact zd rfl
 | ref k=>obtain ⟨i,rfl,e⟩:=VW.tup R h rfl;exact zd (rdo e rfl)
 | weak k=>obtain ⟨i,rfl,e⟩:=VW.tup R h rfl;exact zd (rdo e rfl)
theorem zS (R:Rep K own σ μ) {pv:PV} {x:AV} (h:VW own pv x) {m:Nat} (ht:pv.tgt=some m):wp (getI x (.int 1)) QV μ=QV (.int m) μ:=by
 obtain ⟨i,rfl,e⟩:=VW.tup R h ht;exact zd (gE (k:=1) e rfl)
theorem ZB (R:Rep K own σ μ) {pv:PV} {x:AV} (h:VW own pv x) {m:Nat} (ht:pv.tgt=some m):wp (getI x (.int 0)) QV μ=QV (.str (if pv.isWeak then "weak" else "ref")) μ:=by
 obtain ⟨i,rfl,e⟩:=VW.tup R h ht;exact zd (gE (k:=0) e rfl)
theorem xl (R:Rep K own σ μ) {m:Nat} {b:Bool} (hq: ∀ own' μ' x,Ext own own'→VW own' (if b then .weak m else .ref m) x→Rep K own' σ μ'→QV x μ'):wp (al (.tup [.str (if b then "weak" else "ref"), .int m])) QV μ:=by
 refine ze R (.im (tupO m b)) (.inl rfl) λ own1 μ1 i e1 h1 j1 b1 R1=>hq own1 μ1 _ e1 ?_ R1
 cases b
 ·exact ⟨i,rfl,h1⟩
 ·exact ⟨i,rfl,h1⟩
theorem Rep.innA (R:Rep K own σ μ) {x:AV} {xs:List Nat} (hc:(σ.row n).c= .a xs) (h:at_ own x (.inn n)): ∃ i,x= .obj i∧own i= .inn n∧μ[i]? =some (.list (nums xs)):=by
 obtain ⟨i,rfl,h⟩:=h
 obtain ⟨o,e,d⟩:=R.at' h nofun
 unfold Desc at d
 dsimp only at d
 rw [hc] at d
 cases d
 exact ⟨i,rfl,h,e⟩
inductive InAt (own:Own) (μ:Mem) (x:AV) (n:Nat) (es:List (String × Nat)):Prop
 | mk (i:Nat) (vs:List AV) (ev:x= .obj i) (hi:own i= .inn n) (hv:L2 (λ v e=>at_ own v (.im (pairO e))) vs es) (e:μ[i]? =some (.list vs))
theorem Rep.innH (R:Rep K own σ μ) {x:AV} {es:List (String × Nat)} (hc:(σ.row n).c= .h es) (h:at_ own x (.inn n)):InAt own μ x n es:=by
 obtain ⟨i,rfl,h⟩:=h
 obtain ⟨o,e,d⟩:=R.at' h nofun
 unfold Desc at d
 dsimp only at d
 rw [hc] at d
 obtain ⟨vs,rfl,d⟩:=d
 exact ⟨i,vs,rfl,h,d,e⟩
theorem wK (R:Rep K own σ μ) {x:AV} (hc: ∀ v,(σ.row n).c≠ .s v) (h:at_ own x (.inn n)):wp (chkL x) Q μ=Q () μ:=by
 cases c:(σ.row n).c with
 | s v=>exact absurd c (hc v)
 | a xs=>obtain ⟨i,rfl,_,e⟩:=R.innA c h;exact zd (xT e)
 | h es=>obtain ⟨i,vs,rfl,_,_,e⟩:=R.innH c h;exact zd (xT e)
theorem Desc.rholder {n:Nat} {c:Cont} {o:AO} (hk:c.kind=(σ.row n).c.kind) (ht: ∀ l,RTail own n (σ.row n).c l→RTail own n c l) (d:Desc K own σ (.row n) o):Desc K own (σ.setRow n {σ.row n with c:=c}) (.row n) o:=by
 obtain ⟨w,b,rfl⟩:=d
 exact ⟨w,by rw [zr];exact ht w b,by rw [zr,← hk]⟩
theorem Rep.setInn (R:Rep K own σ μ) {i:Nat} {c:Cont} {o:AO} (hi:own i= .inn n) (hk:c.kind=(σ.row n).c.kind) (ht: ∀ l,RTail own n (σ.row n).c l→RTail own n c l) (hd:Desc K own (σ.setRow n {σ.row n with c:=c}) (.inn n) o):Rep K own (σ.setRow n {σ.row n with c:=c}) (μ.set i o):=by
 refine R.set hi rfl ⟨Nat.le_refl _,Nat.le_refl _⟩ hd λ r hr o d=> ?_
 by_cases q:r= .row n
 ·subst q;exact d.rholder hk ht
 ·exact d.setRow q λ q=>absurd q hr
theorem vO {xs:List Nat} {m:Nat}:nums xs ++ [.int m]=nums (xs ++ [m]):=by simp [nums]
theorem Ys (R:Rep K own σ μ) {x:AV} {xs:List Nat} {m:Nat} (hc:(σ.row n).c= .a xs) (h:at_ own x (.inn n)) (hl:xs.length < big) (hq: ∀ μ',Rep K own (σ.setRow n {σ.row n with c:= .a (xs ++ [m])}) μ'→QV .none μ'):wp (appL x (.int m)) QV μ:=by
 obtain ⟨i,rfl,hi,e⟩:=R.innA hc h
 refine zf (xU e (by simpa [nums] using hl)) (hq _ ?_)
 refine R.setInn hi (by rw [hc];rfl) (by rw [hc];exact λ l h=>h) ?_
 unfold Desc;dsimp only;rw [zr]
 exact congrArg AO.list vO
theorem Yt (R:Rep K own σ μ) {x:AV} {xs:List Nat} {m:Nat} (hc:(σ.row n).c= .a (m :: xs)) (h:at_ own x (.inn n)) (hq: ∀ μ',Rep K own (σ.setRow n {σ.row n with c:= .a xs}) μ'→QV (.int m) μ'):wp (popL x) QV μ:=by
 obtain ⟨i,rfl,hi,e⟩:=R.innA hc h
 refine zf (qw e) (hq _ ?_)
 refine R.setInn hi (by rw [hc];rfl) (by rw [hc];exact λ l h=>h) ?_
 unfold Desc;dsimp only;rw [zr];rfl
theorem Yu (R:Rep K own σ μ) {x p:AV} {es:List (String × Nat)} {e:String × Nat} (hc:(σ.row n).c= .h es) (h:at_ own x (.inn n)) (hp:at_ own p (.im (pairO e))) (hl:es.length < big) (hq: ∀ μ',Rep K own (σ.setRow n {σ.row n with c:= .h (es ++ [e])}) μ'→QV .none μ'):wp (appL x p) QV μ:=by
 obtain ⟨i,vs,rfl,hi,d,ee⟩:=R.innH hc h
 refine zf (xU ee (by rw [d.len];exact hl)) (hq _ ?_)
 refine R.setInn hi (by rw [hc];rfl) (by rw [hc];exact λ l h=>h) ?_
 unfold Desc;dsimp only;rw [zr]
 exact ⟨_,rfl,d.snoc hp⟩
theorem Yv (R:Rep K own σ μ) {x:AV} {es:List (String × Nat)} {e:String × Nat} (hc:(σ.row n).c= .h (e :: es)) (h:at_ own x (.inn n)) (hq: ∀ p μ',at_ own p (.im (pairO e))→Rep K own (σ.setRow n {σ.row n with c:= .h es}) μ'→QV p μ'):wp (popL x) QV μ:=by
 obtain ⟨i,vs,rfl,hi,d,ee⟩:=R.innH hc h
 cases d with
 | cons d1 d2 =>
 refine zf (qw ee) (hq _ _ d1 ?_)
 refine R.setInn hi (by rw [hc];rfl) (hc ▸ (λ l h=>h)) ?_
 unfold Desc;dsimp only;rw [zr]
 exact ⟨_,rfl,d2⟩
theorem Yw (R:Rep K own σ μ) {x:AV} {es es':List (String × Nat)} {a:Nat} {vs:List AV} (hc:(σ.row n).c= .h es) (h:at_ own x (.inn n)) (ha:own a= .nw (.list vs)) (hv:L2 (λ v e=>at_ own v (.im (pairO e))) vs es') (hq: ∀ μ',Rep K own (σ.setRow n {σ.row n with c:= .h es'}) μ'→Q () μ'):wp (yZ x (.obj a)) Q μ:=by
 obtain ⟨i,ws,rfl,hi,d,ee⟩:=R.innH hc h
 have hia:i≠a:=λ q=>by rw [q,ha] at hi;cases hi
 refine zf (μ':=μ.set i (.list vs)) ?_ (hq _ ?_)
 ·have: ¬ AV.obj i=AV.obj a:=λ q=>hia (by injection q)
  unfold yZ;rw [if_neg this];exact rdo ee (bdo (xG (R.nw ha)) rfl)
 ·refine R.setInn hi (by rw [hc];rfl) (hc ▸ (λ l h=>h)) ?_
  unfold Desc;dsimp only;rw [zr]
  exact ⟨_,rfl,hv⟩
theorem jo (R:Rep K own σ μ) {p:AV} {e:String × Nat} (hp:at_ own p (.im (pairO e))):wp (getI p (.int 0)) QV μ=QV (.str e.1) μ:=by
 obtain ⟨i,rfl,h⟩:=hp;exact zd (zJ (k:=0) (R.im h) rfl)
theorem gF (R:Rep K own σ μ) {p:AV} {e:String × Nat} (hp:at_ own p (.im (pairO e))):wp (getI p (.int 1)) QV μ=QV (.int e.2) μ:=by
 obtain ⟨i,rfl,h⟩:=hp;exact zd (zJ (k:=1) (R.im h) rfl)
theorem us (R:Rep K own σ μ) (hlk:σ.lkW=false) (hl:σ.wk.length < big) {a:Nat} {c:Cont} {bl:Bool} {x:AV} (hn:n∉σ.wk) (hr:σ.lastRow < n) (ha:own a= .nw (.list [.str c.kind, .bool bl, .bool false,x]))
  (hc:(∃ v,c= .s v∧VW own v x)∨((c= .a []∨c= .h [])∧ ∃ k,x= .obj k∧own k= .nw (.list [])))
  (hq: ∀ own' μ',Ext own own'→Rep K own' ({σ with wk:=σ.wk ++ [n],lastRow:=n}.setRow n ⟨c,bl,false⟩) μ'→Q () μ'):wp (setI (.obj K.world) (.int n) (.obj a)) Q μ:=by
 have fr: ∀ {r:Role},r.rnum=n→ ∀ j,own j≠r:=λ hr' j q=>by have:=(R.bnd j).2;rw [q,hr'] at this;lia
 let σ1:S:= {σ with lastRow:=n}.setRow n ⟨c,bl,false⟩
 have R1:Rep K own σ1 μ:=R.same' ⟨Nat.le_refl _,Nat.le_of_lt hr⟩ λ j o d=>by
  exact d.dRow.setRow (fr rfl j) λ q=>absurd q (fr rfl j)
 have fin: ∀ own2,Ext own own2→own2 a=own a→(∀ j,own2 j≠ .row n)→RTail (up own2 a (.row n)) n c x→Rep K own2 σ1 μ→wp (setI (.obj K.world) (.int n) (.obj a)) Q μ:=by
  intro own2 e2 h2 f2 t2 R2
  have R3:=R2.promote (r:= .row n) (h2.trans ha) rfl f2 ⟨Nat.zero_le _,Nat.le_refl _⟩ ⟨x,by rw [show σ1.row n=⟨c,bl,false⟩ from zr];exact t2,by rw [show σ1.row n=⟨c,bl,false⟩ from zr]⟩
  have e3:Ext own2 (up own2 a (.row n)):=Ext.up (by rw [h2,ha];rfl)
  obtain ⟨es,e,h⟩:=R3.world
  rw [show σ1.lkW=false from hlk] at e
  refine zf (μ':=μ.set K.world (.dI false (put (n:Int) (.obj a) es))) (rdo e (by dsimp only;rw [if_pos ⟨rfl,by rw [h.len];exact hl⟩];rfl)) (hq _ _ (e2.trans e3) ?_)
  have hd:=jn (R:=λ v m=>at_ (up own2 a (.row n)) v (.row m)) (ns:=σ.wk) h hn ⟨a,rfl,zy⟩
  refine R3.set (σ':= {σ with wk:=σ.wk ++ [n],lastRow:=n}.setRow n ⟨c,bl,false⟩) R3.kW rfl ⟨Nat.le_refl _,Nat.le_refl _⟩ ⟨_,?_,hd⟩ Desc.dWorld
  show AO.dI false _=AO.dI σ.lkW _
  rw [hlk]
 rcases hc with ⟨v,q,hv⟩ | ⟨hc,k,ex,hk⟩
 ·exact fin own Ext.refl rfl (fr rfl) (by rw [q];exact hv.ext (Ext.up (by rw [ha];rfl))) R1
 ·have hka:k≠a:=λ q=>by rw [q,ha] at hk;cases hk
  have e2:Ext own (up own k (.inn n)):=Ext.up (by rw [hk];rfl)
  have R2:=R1.promote (r:= .inn n) hk rfl (fr rfl) ⟨Nat.zero_le _,Nat.le_refl _⟩ (by
   unfold Desc;dsimp only;rw [show σ1.row n=⟨c,bl,false⟩ from zr]
   rcases hc with q | q <;> rw [q]
   ·rfl
   ·exact ⟨[],rfl, .nil⟩)
  refine fin _ e2 (zB hka.symm) (λ j q=> ?_) ?_ R2
  ·by_cases z:j=k
   ·rw [z,zy] at q;cases q
   ·rw [zB z] at q;exact fr rfl j q
  ·rcases hc with q | q <;> rw [q] <;> exact ⟨k,ex,by rw [zB hka,zy]⟩
theorem Rep.roots (R:Rep K own σ μ):μ[K.roots]? =some (.list (nums σ.roots)):=by obtain ⟨o,e,rfl⟩:=R.at' R.kO nofun;exact e
theorem Rep.log (R:Rep K own σ μ):μ[K.log]? =some (.list (nums σ.log)):=by obtain ⟨o,e,rfl⟩:=R.at' R.kL nofun;exact e
theorem Rep.heard (R:Rep K own σ μ):μ[K.heard]? =some (.list (nums σ.heard)):=by obtain ⟨o,e,rfl⟩:=R.at' R.kE nofun;exact e
theorem Rep.box (R:Rep K own σ μ):μ[K.box]? =some (.list [.obj K.counter]):=by obtain ⟨o,e,rfl⟩:=R.at' R.kB nofun;exact e
theorem wL (R:Rep K own σ μ) {i m:Nat} (h:σ.roots[i]? =some m):wp (getI (.obj K.roots) (.int i)) QV μ=QV (.int m) μ:=zd (zJ R.roots (by simp [nums,h]))
theorem Xh (R:Rep K own σ μ):wp (getI (.obj K.box) (.int 0)) QV μ=QV (.obj K.counter) μ:=zd (zJ (k:=0) R.box rfl)
theorem Wp (R:Rep K own σ μ):wp (chkL (.obj K.roots)) Q μ=Q () μ:=zd (xT R.roots)
theorem Wq (R:Rep K own σ μ):wp (chkL (.obj K.log)) Q μ=Q () μ:=zd (xT R.log)
theorem Wr (R:Rep K own σ μ):wp (chkL (.obj K.heard)) Q μ=Q () μ:=zd (xT R.heard)
theorem bJ (R:Rep K own σ μ) {m:Nat} (hl:σ.roots.length < big) (hq: ∀ μ',Rep K own {σ with roots:=σ.roots ++ [m]} μ'→QV .none μ'):wp (appL (.obj K.roots) (.int m)) QV μ:=by
 refine zf (xU R.roots (by simpa [nums] using hl)) (hq _ ?_)
 exact R.set (σ':= {σ with roots:=σ.roots ++ [m]}) R.kO rfl ⟨Nat.le_refl _,Nat.le_refl _⟩ (congrArg AO.list vO) Desc.dRoots
theorem Xi (R:Rep K own σ μ) {m:Nat} (hl:σ.log.length < big) (hq: ∀ μ',Rep K own {σ with log:=σ.log ++ [m]} μ'→QV .none μ'):wp (appL (.obj K.log) (.int m)) QV μ:=by
 refine zf (xU R.log (by simpa [nums] using hl)) (hq _ ?_)
 exact R.set (σ':= {σ with log:=σ.log ++ [m]}) R.kL rfl ⟨Nat.le_refl _,Nat.le_refl _⟩ (congrArg AO.list vO) Desc.dLog
theorem bK (R:Rep K own σ μ) {m:Nat} (hl:σ.heard.length < big) (hq: ∀ μ',Rep K own {σ with heard:=σ.heard ++ [m]} μ'→QV .none μ'):wp (appL (.obj K.heard) (.int m)) QV μ:=by
 refine zf (xU R.heard (by simpa [nums] using hl)) (hq _ ?_)
 exact R.set (σ':= {σ with heard:=σ.heard ++ [m]}) R.kE rfl ⟨Nat.le_refl _,Nat.le_refl _⟩ (congrArg AO.list vO) Desc.dHeard
theorem hX (R:Rep K own σ μ) {a:Nat} (ha:own a= .nw (.list [])) (hq: ∀ μ',Rep K own {σ with roots:=[]} μ'→Q () μ'):wp (yZ (.obj K.roots) (.obj a)) Q μ:=by
 have hia:K.roots≠a:=λ q=>by have:=R.kO;rw [q,ha] at this;cases this
 refine zf (μ':=μ.set K.roots (.list [])) ?_ (hq _ ?_)
 ·have: ¬ AV.obj K.roots=AV.obj a:=λ q=>hia (by injection q)
  unfold yZ;rw [if_neg this];exact rdo R.roots (bdo (xG (R.nw ha)) rfl)
 ·exact R.set (σ':= {σ with roots:=[]}) R.kO rfl ⟨Nat.le_refl _,Nat.le_refl _⟩ rfl Desc.dRoots
mutual
theorem D.same_refl: ∀ d:D,D.same d d=true
 | .none=>rfl
 | .int i=>(beq_self_eq_true i:(i == i)=true)
 | .str s=>(beq_self_eq_true s:(s == s)=true)
 | .node l ds=>by show (l == l && D.sames ds ds)=true;rw [D.sames_refl ds,beq_self_eq_true];rfl
theorem D.sames_refl: ∀ ds:List D,D.sames ds ds=true
 | []=>rfl
 | d :: ds=>by show (D.same d d && D.sames ds ds)=true;rw [D.same_refl d,D.sames_refl ds];rfl
end
theorem ke {α β:Type} {f:α→Option β} {R:α→β→Prop} (hf: ∀ a b,R a b→f a=some b) {xs:List α} {ys:List β} (h:L2 R xs ys):xs.mapM f=some ys:=by
 induction h with
 | nil=>rfl
 | cons h _ ih=>simp [List.mapM_cons,hf _ _ h,ih]
theorem zT {n:Nat} {i:Int}:readD μ n (.int i)=some (.int i):=by cases n <;> rfl
theorem yJ {n:Nat} {s:String}:readD μ n (.str s)=some (.str s):=by cases n <;> rfl
theorem vP {n:Nat}:readD μ n .none=some .none:=by cases n <;> rfl
theorem zF {n i:Nat} {xs:List AV} {ds:List D} (h:μ[i]? =some (.list xs)) (hx:L2 (λ x d=>readD μ n x=some d) xs ds):readD μ (n+1) (.obj i)=some (.node true ds):=by
 show μ[i]?.bind (readO (readD μ n))=_
 rw [h];show (xs.mapM (readD μ n)).map (D.node true)=_
 rw [ke (λ a b h=>h) hx];rfl
theorem wE {n i:Nat} {xs:List AV} {ds:List D} (h:μ[i]? =some (.tup xs)) (hx:L2 (λ x d=>readD μ n x=some d) xs ds):readD μ (n+1) (.obj i)=some (.node false ds):=by
 show μ[i]?.bind (readO (readD μ n))=_
 rw [h];show (xs.mapM (readD μ n)).map (D.node false)=_
 rw [ke (λ a b h=>h) hx];rfl
theorem vQ {n:Nat} (ns:List Nat):L2 (λ x d=>readD μ n x=some d) (nums ns) (ns.map λ m:Nat=>D.int m):=by
 induction ns with
 | nil=>exact .nil
 | cons m ms ih=>exact .cons zT ih
theorem xm {a b:AV} {x y:D} (ha:readD μ 3 a=some x) (hb:readD μ 3 b=some y) (hn: ∀ i j,a= .bool i→b= .bool j→False):wp (eqM a b) QV μ=QV (.bool (D.same x y)) μ:=by
 have e:eqD a b μ=some (.bool (D.same x y),μ):=by unfold eqD;rw [ha,hb];rfl
 refine zd ?_
 cases a with
 | bool i=>cases b with
  | bool j=>exact (hn _ _ rfl rfl).elim
  | _=>exact e
 | _=>exact e
theorem jQ: ∀ xs ys:List Nat,D.sames (xs.map λ m:Nat=>D.int m) (ys.map λ m:Nat=>D.int m)=decide (xs=ys)
 | [],[]=>rfl
 | [],y :: ys=>rfl
 | x :: xs,[]=>rfl
 | x :: xs,y :: ys=>by
  show (((x:Int) == (y:Int)) && D.sames (xs.map _) (ys.map _))=_
  rw [jQ xs ys]
  by_cases q:x=y
  ·subst q;simp
  ·have: ¬ (x:Int)=y:=by lia
   simp [q]
   intro h;exact absurd h this
theorem yx {i j:Nat} {xs ys:List Nat} (hi:μ[i]? =some (.list (nums xs))) (hj:μ[j]? =some (.list (nums ys))):wp (eqM (.obj i) (.obj j)) QV μ=QV (.bool (decide (xs=ys))) μ:=by
 rw [xm (zF hi (vQ xs)) (zF hj (vQ ys)) (λ _ _ h=>by cases h)]
 show QV (.bool (true == true && D.sames _ _)) μ=_
 rw [jQ];rfl
end
section
variable {α β ρ σ:Type} {μ:Mem}
theorem ZC {m:M ρ} {Q:ρ→Mem→Prop} (h: ∀ Q':ρ→Mem→Prop,(∀ a μ',Q a μ'→Q' a μ')→wp m Q' μ):wp m Q μ:=h Q λ _ _ x=>x
inductive ThI (K:Ad) (own:Own) (τ:List Nat→S) (all:List Nat) (xs:List AV) (μ:Mem):Prop
 | mk (ds ns:List Nat) (own':Own) (q1:all=ds ++ ns) (q2:Ext own own') (q3:Things own' xs ns) (R:Rep K own' (τ ds) μ)
theorem qA {K:Ad} {own:Own} {G:Unit→Cx0} {i:Nat} {vs:List AV} {all:List Nat} {τ:List Nat→S} {body:Unit→AV→M (Fl Unit)} {P:Fl Unit→Mem→Prop} (R:Rep K own (τ []) μ) (hi:own i= .tm (.list vs)) (hv:Things own vs all)
  (step: ∀ ds b bs own' μ' x (P':Fl Unit→Mem→Prop),all=ds ++ b :: bs→Ext own own'→at_ own' x (.thing b)→Rep K own' (τ ds) μ'→(∀ own'' μ'',Ext own' own''→Rep K own'' (τ (ds ++ [b])) μ''→P' (.nxt ()) μ'')→wp (body () x) P' μ')
  (hq: ∀ own' μ',Ext own own'→Rep K own' (τ all) μ'→P (.nxt ()) μ'):wp (forL G (.obj i) () body) P μ:=by
 refine wh (λ xs _ μ'=>ThI K own τ all xs μ') (R.tm hi) ⟨[],_,own,rfl,Ext.refl,hv,R⟩ (λ xs _ μ' h=> ?_) (λ x xs _ μ' h=> ?_) (λ _ μ' h=> ?_)
 ·obtain ⟨ds,ns,own',q1,q2,q3,R'⟩:=h
  exact R'.tm (q2.at hi rfl)
 ·obtain ⟨ds,ns,own',q1,q2,q3,R'⟩:=h
  cases q3 with
  | @cons _ b _ bs p1 p2=>exact step ds b bs own' μ' x _ q1 q2 p1 R' λ own'' μ'' e R''=>⟨ds ++ [b],bs,own'',by rw [q1];simp,q2.trans e,Things.ext p2 e,R''⟩
 ·obtain ⟨ds,ns,own',q1,q2,q3,R'⟩:=h
  cases q3
  rw [List.append_nil] at q1
  rw [← q1] at R'
  exact hq own' μ' q2 R'
inductive NuI (K:Ad) (own:Own) (τ:List Nat→S) (all:List Nat) (xs:List AV) (μ:Mem):Prop
 | mk (ds ns:List Nat) (own':Own) (q1:all=ds ++ ns) (q2:Ext own own') (q3:xs=nums ns) (R:Rep K own' (τ ds) μ)
theorem ZD {K:Ad} {own:Own} {G:Unit→Cx0} {i:Nat} {all:List Nat} {τ:List Nat→S} {body:Unit→AV→M (Fl Unit)} {P:Fl Unit→Mem→Prop} (R:Rep K own (τ []) μ) (hi:own i= .tm (.list (nums all)))
  (step: ∀ (ds:List Nat) (b:Nat) (bs:List Nat) own' μ' (P':Fl Unit→Mem→Prop),all=ds ++ b :: bs→Ext own own'→Rep K own' (τ ds) μ'→(∀ own'' μ'',Ext own' own''→Rep K own'' (τ (ds ++ [b])) μ''→P' (.nxt ()) μ'')→wp (body () (.int (b:Int))) P' μ')
  (hq: ∀ own' μ',Ext own own'→Rep K own' (τ all) μ'→P (.nxt ()) μ'):wp (forL G (.obj i) () body) P μ:=by
 refine wh (λ xs _ μ'=>NuI K own τ all xs μ') (R.tm hi) ⟨[],_,own,rfl,Ext.refl,rfl,R⟩ (λ xs _ μ' h=> ?_) (λ x xs _ μ' h=> ?_) (λ _ μ' h=> ?_)
 ·obtain ⟨ds,ns,own',q1,q2,q3,R'⟩:=h
  exact R'.tm (q2.at hi rfl)
 ·obtain ⟨ds,ns,own',q1,q2,q3,R'⟩:=h
  cases ns with
  | nil=>cases q3
  | cons b bs =>
   simp only [nums,List.map_cons,List.cons.injEq] at q3
   rw [q3.1]
   exact step ds b bs own' μ' _ q1 q2 R' λ own'' μ'' e R''=>⟨ds ++ [b],bs,own'',by rw [q1];simp,q2.trans e,q3.2,R''⟩
 ·obtain ⟨ds,ns,own',q1,q2,q3,R'⟩:=h
  cases ns with
  | cons b bs=>cases q3
  | nil =>
   rw [List.append_nil] at q1
   rw [← q1] at R'
   exact hq own' μ' q2 R'
theorem qB {G:ρ→Cx0} {m:M (Fl ρ)} {k:ρ→M (Fl σ)} {Q:Fl σ→Mem→Prop} (P:ρ→Mem→Prop) (h:wp m (λ f μ'=> ∃ r,f= .nxt r∧P r μ') μ) (hk: ∀ r μ',P r μ'→wp (k r) Q μ'):wp (thnG G m k) Q μ:=by
 rw [uM]
 refine wp_mono h λ f μ' h=> ?_
 obtain ⟨r,rfl,h⟩:=h
 exact hk r μ' h
theorem sSS:decide ("S" ="S")=true:=rfl
theorem sSA:decide ("S" ="A")=false:=rfl
theorem sSH:decide ("S" ="H")=false:=rfl
theorem sAS:decide ("A" ="S")=false:=rfl
theorem sAA:decide ("A" ="A")=true:=rfl
theorem sAH:decide ("A" ="H")=false:=rfl
theorem sHS:decide ("H" ="S")=false:=rfl
theorem sHA:decide ("H" ="A")=false:=rfl
theorem sHH:decide ("H" ="H")=true:=rfl
theorem sWR:decide ("weak" ="ref")=false:=rfl
theorem sRR:decide ("ref" ="ref")=true:=rfl
end
noncomputable def PV.strong:PV→PV
 | .weak m=> .ref m
 | p=>p
noncomputable def Cont.val:Cont→PV
 | .s v=>v
 | _=> .none
noncomputable def S.setCnt (σ:S) (n:Nat) (c:Int):S:=σ.setTh n {σ.th n with cnt:=c}
noncomputable def S.hold (σ:S) (n:Nat):S:=σ.setCnt n ((σ.th n).cnt+1)
noncomputable def S.note (σ:S) (n:Nat):S:=if (σ.th n).cnt=0 then {σ with zero:=σ.zero ++ [n]} else σ
noncomputable def S.letGo (σ:S) (n:Nat):S:=(σ.setCnt n ((σ.th n).cnt - 1)).note n
noncomputable def S.take (σ:S):PV→S
 | .ref m=>σ.hold m
 | .weak m=>σ.hold m
 | _=>σ
noncomputable def S.setWeak (σ:S) (n:Nat) (ws:List Nat):S:=σ.setTh n {σ.th n with weak:=ws}
noncomputable def S.setVal (σ:S) (n:Nat) (v:PV):S:=σ.setTh n {σ.th n with c:= .s v}
noncomputable def S.putOff (σ:S) (s:Nat):PV→S
 | .ref m=>σ.letGo m
 | .weak m=>σ.setWeak m ((σ.th m).weak.filter (· ≠s))
 | _=>σ
noncomputable def S.store (σ:S) (s:Nat) (v:PV):S:=((σ.take v).setVal s v.strong).putOff s (σ.th s).c.val
noncomputable def S.weaken (σ:S) (s:Nat):S:=match (σ.th s).c.val with
 | .ref m=>((σ.setVal s (.weak m)).setWeak m (((σ.setVal s (.weak m)).th m).weak ++ [s])).letGo m
 | _=>σ
noncomputable def S.freshV (σ:S) (v:PV):S:=((σ.take v).fresh (.s v.strong)).setCnt (σ.last+1) 1
section
variable {K:Ad} {own own':Own} {σ σ':S} {μ:Mem} {α:Type}
variable {Q:AV→Mem→Prop} {v c:AV} {n:Nat}
theorem Ws {b:Bool}:decide (blv b= .none)= !b:=by cases b <;> rfl
theorem ZE (R:Rep K own σ μ) (h:at_ own v (.thing n)) (hq: ∀ μ',Rep K own (σ.hold n) μ'→Q .none μ'):wp (yi c v) Q μ:=by
 unfold yi yK
 walk_at "w";refine toI (yB R h) ?_
 walk_at "w";refine xH R h λ μ1 R1=> ?_
 walk_at "w";exact hq μ1 R1
theorem gG (R:Rep K own σ μ) (h:at_ own v (.thing n)) (hl:σ.zero.length < big) (hq: ∀ μ',Rep K own (σ.note n) μ'→Q .none μ'):wp (if decide ((σ.th n).cnt=0)=true then
  bd (bd (bd (bd (rt (.obj K.counter)) λ a8=>getA a8 "heap") λ a7=>getA a7 "zero") λ o6=>bd (chkL o6) λ _=>bd (rt v) λ a9=>appL o6 a9) λ _=>(rt (.nxt ()):M (Fl Unit)) else rt (.nxt ())) (finQ Q) μ:=by
 by_cases q:(σ.th n).cnt=0
 ·rw [show σ.note n= {σ with zero:=σ.zero ++ [n]} from if_pos q] at hq
  simp only [q,decide_true,if_true]
  walk_at "w";refine toI (xk R) ?_
  walk_at "w";refine vG R λ z hz=> ?_
  walk_at "w";refine toI (bG R hz) ?_
  walk_at "w";exact Yo R hz h hl λ μ1 R1=>by walk_at "w";exact hq μ1 R1
 ·rw [show σ.note n=σ from if_neg q] at hq
  simp only [q,decide_false,Bool.false_eq_true,if_false]
  walk_at "w";exact hq μ R
theorem VF (R:Rep K own σ μ) (h:at_ own v (.thing n)) (hl:σ.zero.length < big) (hq: ∀ μ',Rep K own (σ.note n) μ'→Q .none μ'):wp (yj (.obj K.counter) v) Q μ:=by
 unfold yj yL
 refine toI (uk) ?_
 simp only [bd_,wJ,zA,ul]
 walk_at "w";refine toI (yB R h) ?_
 simp only [bd_,wJ,zA,gA,ul]
 exact gG R h hl hq
theorem vR (R:Rep K own σ μ) (h:at_ own v (.thing n)) (hl:σ.zero.length < big) (hq: ∀ μ',Rep K own (σ.letGo n) μ'→Q .none μ'):wp (zv (.obj K.counter) v) Q μ:=by
 unfold zv yt
 refine toI (uk) ?_
 simp only [bd_,wJ,zA,ul]
 walk_at "w";refine toI (yB R h) ?_
 simp only [bd_,wJ,zA,Xa]
 walk_at "w";refine xH R h λ μ1 R1=> ?_
 walk_at "w";refine toI (yB R1 h) ?_
 simp only [bd_,wJ,zA,gA,ul]
 exact gG R1 h hl hq
theorem qC (R:Rep K own σ μ) (h:at_ own v (.thing n)) (hl:σ.zero.length < big) (hq: ∀ μ',Rep K own (σ.letGo n) μ'→Q .none μ'):wp (zO (.obj K.counter) v) Q μ:=by
 unfold zO yN
 walk_at "w";refine toI (zu R) ?_
 walk_at "w";refine vR R h hl λ μ1 R1=> ?_
 walk_at "w";exact hq μ1 R1
theorem ZF (R:Rep K own σ μ) {pv:PV} {x:AV} (h:VT own pv x) (hq: ∀ own' μ' y,Ext own own'→VT own' pv.strong y→Rep K own' (σ.take pv) μ'→Q y μ'):wp (zX (.obj K.counter) x) Q μ:=by
 unfold zX yM
 walk_at "w";refine toI (vM R h) ?_
 walk_at "w"
 cases pv with
 | none=>walk_at "w";exact hq own μ x Ext.refl h R
 | int i=>walk_at "w";exact hq own μ x Ext.refl h R
 | ref m =>
  walk_at "w"
  walk_at "w";refine toI (zu R) ?_
  walk_at "w";refine yw R h rfl λ t ht=> ?_
  walk_at "w";refine ZE R ht λ μ1 R1=> ?_
  walk_at "w";refine toI (yI R1 h rfl) ?_
  walk_at "w"
  walk_at "w";exact hq own μ1 x Ext.refl h R1
 | weak m =>
  walk_at "w"
  walk_at "w";refine toI (zu R) ?_
  walk_at "w";refine yw R h rfl λ t ht=> ?_
  walk_at "w";refine ZE R ht λ μ1 R1=> ?_
  walk_at "w";refine toI (yI R1 h rfl) ?_
  walk_at "w"
  walk_at "w";refine yw R1 h rfl λ t ht=> ?_
  walk_at "w";refine vh R1 ht λ own2 μ2 y e2 hy R2=> ?_
  walk_at "w";exact hq own2 μ2 y e2 hy R2
theorem Xj {vs:List AV} {ns:List Nat} (h:Things own vs ns) (p:AV→Bool) (q:Nat→Bool) (hpq: ∀ v n,v∈vs→n∈ns→at_ own v (.thing n)→p v=q n):Things own (vs.filter p) (ns.filter q):=by
 induction h with
 | nil=>exact .nil
 | @cons a b as bs h _ ih =>
  simp only [List.filter_cons,hpq a b (.head _) (.head _) h]
  have:=ih λ v n hv hn=>hpq v n (List.mem_cons_of_mem _ hv) (List.mem_cons_of_mem _ hn)
  split
  ·exact .cons h this
  ·exact this
theorem gH {G:AV→Cx0} {i:Nat} {vs:List AV} {ns:List Nat} {test:AV→M Bool} {elt:AV→M AV} (hi:μ[i]? =some (.list vs)) (hv:Things own vs ns) (hl:ns.length≤big) (q:Nat→Bool) (htest: ∀ v n,n∈ns→at_ own v (.thing n)→test v μ=some (q n,μ)) (helt: ∀ v,elt v μ=some (v,μ))
  (hend: ∀ ws,Things own ws (ns.filter q)→wp (al (.list ws)) Q μ):wp (comp G (.obj i) test elt) Q μ:=by
 have key: ∃ p:AV→Bool,∀ v∈vs,test v μ=some (p v,μ)∧ ∀ n∈ns,at_ own v (.thing n)→p v=q n:=by
  refine ⟨λ v=>match test v μ with | some (b,_)=>b | none=>false,λ v hv'=> ?_⟩
  have: ∃ n∈ns,at_ own v (.thing n):=by
   clear hi hl htest helt hend
   induction hv with
   | nil=>simp at hv'
   | @cons a b as bs h _ ih =>
    rcases List.mem_cons.mp hv' with rfl | hv'
    ·exact ⟨b, .head _,h⟩
    ·obtain ⟨n,h1,h2⟩:=ih hv'
     exact ⟨n, .tail _ ‹_›,h2⟩
  obtain ⟨n,hn,ha⟩:=this
  have e0:=htest v n hn ha
  refine ⟨by simp only [e0],λ m hm hb=> ?_⟩
  have h2:=htest v m hm hb
  rw [e0] at h2
  simp only [e0]
  injection h2 with h2
  injection h2
 obtain ⟨p,hp⟩:=key
 walk_at "w";refine wi p id hi (by rw [hv.len];exact hl) (λ x hx=>⟨(hp x hx).1,λ _=>helt x⟩) ?_
 rw [List.map_id]
 exact hend _ (Xj hv p q λ v n hv' hn ha=>(hp v hv').2 n hn ha)
theorem ut {α:Type} {m:M α} {P:α→Prop} {a:α} (h:wp m (λ b μ'=>b=a∧μ'=μ) μ):m μ=some (a,μ):=by
 obtain ⟨b,μ',e,rfl,rfl⟩:=h;exact e
theorem kh (R:Rep K own σ μ) {pv:PV} {x s:AV} {k:Nat} (hs:at_ own s (.thing k)) (h:VT own pv x) (hl:σ.zero.length < big) (hw: ∀ m,pv= .weak m→(σ.th m).weak.length≤big∧m≤σ.last) (hq: ∀ own' μ',Ext own own'→Rep K own' (σ.putOff k pv) μ'→Q .none μ'):wp (zI (.obj K.counter) s x) Q μ:=by
 unfold zI yo
 walk_at "w";refine toI (vM R h) ?_
 walk_at "w"
 cases pv with
 | none=>walk_at "w";exact hq own μ Ext.refl R
 | int i=>walk_at "w";exact hq own μ Ext.refl R
 | ref m =>
  walk_at "w"
  walk_at "w";refine toI (yI R h rfl) ?_
  walk_at "w"
  walk_at "w";refine toI (zu R) ?_
  walk_at "w";refine yw R h rfl λ t ht=> ?_
  walk_at "w";refine vR R ht hl λ μ1 R1=> ?_
  walk_at "w";exact hq own μ1 Ext.refl R1
 | weak m =>
  walk_at "w"
  walk_at "w";refine toI (yI R h rfl) ?_
  walk_at "w"
  walk_at "w";refine yw R h rfl λ t ht=> ?_
  walk_at "w";refine qx R ht λ w hw'=> ?_
  obtain ⟨i,vs,rfl,hi,hvs,e⟩:=R.weakL hw'
  walk_at "w";refine gH e hvs (hw m rfl).1 (λ j=>decide (j≠k)) (λ v j hj hv=> ?_) (λ v=>rfl) λ ws hws=> ?_
  ·walk_at "w";refine ut (P:=λ _=>True) ?_
   walk_at "w";refine toI (zp R hv) ?_
   walk_at "w";refine toI (zp R hs) ?_
   walk_at "w"
   refine ⟨?_,rfl⟩
   by_cases z:j=k
   ·simp [z]
   ·have: ¬ (j:Int)=k:=by lia
    simp [z,this]
  ·walk_at "w";refine ze R (.nw (.list ws)) (.inr (.inr rfl)) λ own1 μ1 a e1 h1 j1 b1 R1=> ?_
   walk_at "w";refine yw R1 (h.ext e1) rfl λ t' ht'=> ?_
   walk_at "w";refine jL R1 ht' h1 (hws.ext e1) (hw m rfl).2 λ own2 μ2 e2 R2=> ?_
   walk_at "w";exact hq own2 μ2 (e1.trans e2) R2
end
section
variable {σ:S} {n m s:Nat} {v pv:PV}
theorem zk {t:Th}:(σ.setTh n t).th m=if m=n then t else σ.th m:=rfl
theorem kp:(σ.take v).zero=σ.zero:=by cases v <;> rfl
theorem uu:(σ.take v).last=σ.last:=by cases v <;> rfl
theorem Wt:(σ.take v).lkT=σ.lkT:=by cases v <;> rfl
theorem jR:((σ.hold n).th m).c=(σ.th m).c:=by
 unfold S.hold S.setCnt;rw [zk];split
 ·subst_vars;rfl
 ·rfl
theorem uv:((σ.hold n).th m).weak=(σ.th m).weak:=by
 unfold S.hold S.setCnt;rw [zk];split
 ·subst_vars;rfl
 ·rfl
theorem Xk:((σ.take v).th m).c=(σ.th m).c:=by
 cases v with
 | none=>rfl
 | int i=>rfl
 | ref k=>exact jR
 | weak k=>exact jR
theorem Xl:((σ.take v).th m).weak=(σ.th m).weak:=by
 cases v with
 | none=>rfl
 | int i=>rfl
 | ref k=>exact uv
 | weak k=>exact uv
theorem wA:((σ.setVal n v).th m).weak=(σ.th m).weak:=by
 unfold S.setVal;rw [zk];split
 ·subst_vars;rfl
 ·rfl
end
section
variable {K:Ad} {own own':Own} {σ σ':S} {μ:Mem} {α:Type}
variable {Q:AV→Mem→Prop} {v c s:AV} {n k:Nat}
theorem Things.eq (R:Rep K own σ μ) {vs ws:List AV} {ns:List Nat} (h:Things own vs ns) (h':Things own ws ns):vs=ws:=by
 induction h generalizing ws with
 | nil=>cases h';rfl
 | cons h _ ih =>
  cases h' with
  | cons h1 h2=>rw [at_.eq R h h1 rfl,ih h2]
theorem wT (R:Rep K own σ μ) {pv old:PV} {x:AV} (hs:at_ own s (.thing k)) (hc:(σ.th k).c= .s old) (h:VT own pv x) (hl:σ.zero.length < big) (hw: ∀ m,old= .weak m→(σ.th m).weak.length≤big∧m≤σ.last) (hq: ∀ own' μ',Ext own own'→Rep K own' (σ.store k pv) μ'→Q .none μ'):wp (zz (.obj K.counter) s x) Q μ:=by
 unfold zz yD
 walk_at "w";refine toI (jO R) ?_
 walk_at "w";refine toI (Zu R) ?_
 walk_at "w";refine toI (zp R hs) ?_
 walk_at "w";refine toI (Zv R) ?_
 walk_at "w";refine toI (Wj R hs hc) ?_
 walk_at "w";refine yQ R hs hc λ o ho=> ?_
 walk_at "w";refine toI (zu R) ?_
 walk_at "w";refine ZF R h λ own1 μ1 y e1 hy R1=> ?_
 walk_at "w";refine wz R1 (hs.th e1) (by rw [Xk];exact hc) hy λ μ2 R2=> ?_
 walk_at "w";refine toI (zu R2) ?_
 walk_at "w";refine kh R2 (hs.th e1) (ho.ext e1) (by show (σ.take pv).zero.length < big;rw [kp];exact hl) (λ m hm=> ?_) λ own3 μ3 e3 R3=> ?_
 ·obtain ⟨a,b⟩:=hw m hm
  exact ⟨by show (((σ.take pv).setVal k pv.strong).th m).weak.length≤big;rw [wA,Xl];exact a,by show m≤(σ.take pv).last;rw [uu];exact b⟩
 ·walk_at "w";refine hq own3 μ3 (e1.trans e3) ?_
  unfold S.store
  rw [hc]
  exact R3
theorem gI (R:Rep K own σ μ) {pv:PV} {x:AV} (h:VT own pv x) (hlk: ∀ n,σ.lkT n=false) (hq: ∀ own' μ' v,Ext own own'→at_ own' v (.thing (σ.last+1))→Rep K own' (σ.freshV pv) μ'→Q v μ'):wp (zQ (.obj K.counter) x) Q μ:=by
 unfold zQ yE
 walk_at "w";refine toI (xk R) ?_
 walk_at "w";refine toI (wg R) ?_
 walk_at "w";refine toI (zu R) ?_
 walk_at "w";refine ZF R h λ own1 μ1 y e1 hy R1=> ?_
 walk_at "w";refine uq R1 hy (by rw [Wt];exact hlk) λ own2 μ2 z e2 hz R2=> ?_
 rw [uu] at hz
 walk_at "w";refine xH R2 hz λ μ3 R3=> ?_
 walk_at "w";exact hq own2 μ3 z (e1.trans e2) hz R3
theorem Xm (R:Rep K own σ μ) {pv:PV} (hs:at_ own s (.thing k)) (hc:(σ.th k).c= .s pv) (hl:σ.zero.length < big) (hw: ∀ m,pv= .ref m→(σ.th m).weak.length < big) (hq: ∀ own' μ',Ext own own'→Rep K own' (σ.weaken k) μ'→Q .none μ'):wp (yc (.obj K.counter) s) Q μ:=by
 unfold yc yF
 walk_at "w";refine yQ R hs hc λ x hx=> ?_
 walk_at "w";refine toI (vM R hx) ?_
 walk_at "w"
 have hv:(σ.th k).c.val=pv:=by rw [hc];rfl
 unfold S.weaken at hq
 rw [hv] at hq
 clear hv
 cases pv with
 | none=>walk_at "w";exact hq own μ Ext.refl R
 | int i=>walk_at "w";exact hq own μ Ext.refl R
 | weak m =>
  walk_at "w"
  walk_at "w";refine yQ R hs hc λ x hx=> ?_
  walk_at "w";refine toI (yI R hx rfl) ?_
  walk_at "w"
  walk_at "w";exact hq own μ Ext.refl R
 | ref m =>
  walk_at "w"
  walk_at "w";refine yQ R hs hc λ x hx=> ?_
  walk_at "w";refine toI (yI R hx rfl) ?_
  walk_at "w"
  walk_at "w";refine yQ R hs hc λ x hx=> ?_
  walk_at "w";refine yw R hx rfl λ t ht=> ?_
  walk_at "w";refine vh R ht λ own1 μ1 y e1 hy R1=> ?_
  have hy:VT own1 (.weak m) y:=hy
  walk_at "w";refine wz R1 (hs.th e1) hc hy λ μ2 R2=> ?_
  walk_at "w";refine qx R2 (ht.th e1) λ w hw'=> ?_
  walk_at "w";refine toI (bA R2 hw') ?_
  walk_at "w";refine Yl R2 hw' (hs.th e1) (by rw [show ((σ.setTh k {σ.th k with c:= .s (.weak m)}).th m).weak=(σ.th m).weak from wA];exact hw m rfl) λ μ3 R3=> ?_
  walk_at "w";refine toI (zu R3) ?_
  walk_at "w";refine vR R3 (ht.th e1) hl λ μ4 R4=> ?_
  walk_at "w";exact hq own1 μ4 e1 R4
theorem Wu (R:Rep K own σ μ) (h:at_ own v (.thing n)) (hq: ∀ μ',Rep K own (σ.setTh n {σ.th n with bl:=true}) μ'→Q .none μ'):wp (yp v (.str "P")) Q μ:=by
 unfold yp xd
 walk_at "w";refine bz R h λ μ1 R1=> ?_
 walk_at "w";exact hq μ1 R1
theorem uw {G:AV→Cx0} {i:Nat} {o:AO} {xs0:List AV} {test:AV→M Bool} {elt:AV→M AV} (p:AV→Bool) (f:AV→AV) (he:μ[i]? =some o) (hk:keysOf o=some xs0) (hu:o.locked=false) (hl:xs0.length≤big)
  (hstep: ∀ x∈xs0,test x (μ.set i o.lock)=some (p x,μ.set i o.lock)∧(p x=true→elt x (μ.set i o.lock)=some (f x,μ.set i o.lock))) (hend:wp (al (.list ((xs0.filter p).map f))) Q μ):wp (comp G (.obj i) test elt) Q μ:=by
 have hlt:i < μ.length:=(List.getElem?_eq_some_iff.mp he).1
 walk_at "w";refine qz (λ xs acc μ'=>μ'=μ.set i o.lock∧ ∃ ys,xs0=ys ++ xs∧acc=(ys.filter p).map f) he hk hu hl ⟨rfl,[],rfl,rfl⟩ (λ xs acc μ' h=>by rw [h.1,List.getElem?_set_self hlt]) (λ x xs acc μ' h=> ?_) (λ acc μ' h=> ?_)
 ·obtain ⟨rfl,ys,e1,e2⟩:=h
  obtain ⟨h1,h2⟩:=hstep x (by rw [e1];exact List.mem_append_right _ (.head _))
  walk_at "w";refine zf h1 ?_
  cases hp:p x with
  | true=>simp only [if_true];exact zf (h2 hp) ⟨rfl,ys ++ [x],by rw [e1];simp,by rw [e2];simp [hp]⟩
  | false=>exact ⟨rfl,ys ++ [x],by rw [e1];simp,by rw [e2];simp [hp]⟩
 ·obtain ⟨rfl,ys,e1,e2⟩:=h
  rw [List.append_nil] at e1
  subst e1
  rw [e2,List.set_set,wR he];exact hend
theorem Rep.lockT (R:Rep K own σ μ) {es:List (String × Nat)} {i:Nat} {ls:List (String × AV)} (hc:(σ.th n).c= .h es) (hi:own i= .cont n) (hls:L2 (λ l e=>l.1=e.1∧at_ own l.2 (.thing e.2)) ls es):Rep K own {σ with lkT:=λ m=>if m=n then true else σ.lkT m} (μ.set i (.dS true ls)):=by
 refine R.set (σ':= {σ with lkT:=λ m=>if m=n then true else σ.lkT m}) hi rfl ⟨Nat.le_refl _,Nat.le_refl _⟩ ?_ λ r hr o d=> ?_
 ·unfold Desc;dsimp only;exact hc ▸ (⟨ls,by simp,hls⟩)
 ·cases r with
  | cont m =>
   have:m≠n:=λ q=>hr (by rw [q])
   unfold Desc at d ⊢
   dsimp only at d ⊢
   simp only [this,if_false]
   exact d
  | _=>exact d
noncomputable def zi:Cont→List Nat
 | .s _=>[]
 | .a xs=>xs
 | .h es=>es.map (·.2)
noncomputable def KeysOk (c:Cont):Prop:= ∀ es,c= .h es→(es.map (·.1)).Nodup
theorem vS {β:Type}: ∀ {es:List (String × β)} {e:String × β},(es.map (·.1)).Nodup→e∈es→aget e.1 es=some e.2
 | p :: r,e,nd,h=>by
  rw [wD]
  simp only [List.map_cons,List.nodup_cons] at nd
  rcases List.mem_cons.mp h with rfl | h
  ·simp
  ·have: ¬ p.1=e.1:=λ q=>nd.1 (by rw [q];exact List.mem_map_of_mem (f:=(·.1)) h)
   rw [if_neg this];exact vS nd.2 h
theorem L2.left {α β:Type} {R:α→β→Prop} {as:List α} {bs:List β} (h:L2 R as bs): ∀ a∈as,∃ b∈bs,R a b:=by
 induction h with
 | nil=>intro a ha;simp at ha
 | @cons x y xs ys h _ ih =>
  intro a ha
  rcases List.mem_cons.mp ha with rfl | ha
  ·exact ⟨y, .head _,h⟩
  ·obtain ⟨b,h1,h2⟩:=ih a ha
   exact ⟨b, .tail _ ‹_›,h2⟩
theorem L2.map {α β γ δ:Type} {R:α→β→Prop} {S:γ→δ→Prop} {f:α→γ} {g:β→δ} (hm: ∀ a b,R a b→S (f a) (g b)) {as:List α} {bs:List β} (h:L2 R as bs):L2 S (as.map f) (bs.map g):=by
 induction h with
 | nil=>exact .nil
 | cons h _ ih=>exact .cons (hm _ _ h) ih
theorem Wv {x:AV} {r:Role} (h:at_ own x r):bd (bd (rt x) λ a=>isNN a) tru μ=some (true,μ):=by
 obtain ⟨i,rfl,_⟩:=h;rfl
theorem Xn (R:Rep K own σ μ) (h:at_ own v (.thing n)) (hk:KeysOk (σ.th n).c) (hl:(zi (σ.th n).c).length≤big) (hlk:σ.lkT n=false) (hq: ∀ own' μ' a vs,Ext own own'→own' a= .tm (.list vs)→Things own' vs (zi (σ.th n).c)→Rep K own' σ μ'→Q (.obj a) μ'):wp (xQ v) Q μ:=by
 unfold xQ wv
 walk_at "w";refine toI (xi R h) ?_
 have second: ∀ {own1:Own} {μ1:Mem} {i:Nat} {vs:List AV} {Q':AV→Mem→Prop},(∀ a μ',Q a μ'→Q' a μ')→Ext own own1→Rep K own1 σ μ1→μ1[i]? =some (.list vs)→Things own1 vs (zi (σ.th n).c) →
   wp (comp (λ v_one=>[none,some v_one]) (.obj i) (λ v_one=>bd (bd (rt v_one) λ a19=>isNN a19) tru) λ v_one=>rt v_one) Q' μ1:=by
  intro own1 μ1 i vs Q' hQ e1 R1 hi hv
  walk_at "w";refine gH (own:=own1) hi hv hl (λ _=>true) (λ v n _ hv=>Wv hv) (λ v=>rfl) λ ws hws=> ?_
  rw [List.filter_eq_self.mpr (λ _ _=>rfl)] at hws
  walk_at "w";refine ze R1 (.tm (.list ws)) (.inr (.inl rfl)) λ own2 μ2 a e2 h2 j2 b2 R2=> ?_
  exact hQ _ _ (hq own2 μ2 a ws (e1.trans e2) h2 (hws.ext e2) R2)
 cases hc:(σ.th n).c with
 | a xs =>
  walk_at "w"
  walk_at "w";refine vL R h hc λ x hx=> ?_
  obtain ⟨i,vs,rfl,hi,hv,e⟩:=R.contA hc hx
  walk_at "w";refine second (λ _ _ h=>by walk_at "w";exact h) Ext.refl R e (by rw [hc];exact hv)
 | s pv =>
  walk_at "w"
  walk_at "w";refine toI (xi R h) ?_;rw [hc]
  walk_at "w"
  walk_at "w";refine toI (xi R h) ?_;rw [hc]
  walk_at "w"
  walk_at "w";refine toI (xi R h) ?_;rw [hc]
  walk_at "w"
  walk_at "w";refine ze R (.tm (.list [])) (.inr (.inl rfl)) λ own1 μ1 i e1 h1 j1 b1 R1=> ?_
  walk_at "w";refine second (λ _ _ h=>by walk_at "w";exact h) e1 R1 (R1.tm h1) (by rw [hc];exact .nil)
 | h es =>
  walk_at "w"
  walk_at "w";refine toI (xi R h) ?_;rw [hc]
  walk_at "w"
  walk_at "w";refine xO R h hc λ x hx=> ?_
  obtain ⟨i,ls,rfl,hi,hv,e⟩:=R.contH hc hx
  rw [hlk] at e
  have R':=R.lockT hc hi hv
  have nd:=hk es hc
  have hself: ∀ l∈ls,∃ e'∈es,l.1=e'.1∧at_ own l.2 (.thing e'.2)∧get l.1 ls=some l.2:=λ l hm=>by
   obtain ⟨e',he',h1,h2⟩:=hv.left l hm
   refine ⟨e',he',h1,h2,?_⟩
   obtain ⟨y,e1,e2⟩:=(uN (R:=λ v m=>at_ own v (.thing m)) hv l.1).1 e'.2 (by rw [h1];exact vS nd he')
   rw [e1,at_.eq R e2 h2 rfl]
  have hval: ∀ l∈ls,(bd (bd (rt v) λ a7=>getA a7 "table") λ a5=>bd (rt (.str l.1)) λ a6=>getI a5 a6) (μ.set i (.dS true ls))=some (l.2,μ.set i (.dS true ls)):=λ l hm=>by
   obtain ⟨e',he',h1,h2,h3⟩:=hself l hm
   walk_at "w";refine ut (P:=λ _=>True) ?_
   walk_at "w";refine xO R' h hc λ x' hx'=> ?_
   rw [h1]
   walk_at "w";refine u3 R' hc hx' (vS nd he') λ y hy=>⟨at_.eq R' hy h2 rfl,rfl⟩
  have hlen:es.length≤big:=by rw [hc] at hl;simpa [zi] using hl
  walk_at "w";refine uw (λ _=>true) (λ k=>match k with | .str t=>(get t ls).getD .none | _=> .none) e rfl rfl (by rw [List.length_map,hv.len];exact hlen) (λ x hx=>⟨rfl,λ _=> ?_⟩) ?_
  ·obtain ⟨l,hm,rfl⟩:=List.mem_map.mp hx
   obtain ⟨e',he',h1,h2,h3⟩:=hself l hm
   refine (hval l hm).trans ?_
   simp only [h3,Option.getD_some]
   rfl
  ·rw [List.filter_eq_self.mpr (λ _ _=>rfl),List.map_map]
   have e2:ls.map ((λ k=>match k with | AV.str t=>(get t ls).getD .none | _=> .none) ∘ λ e=>AV.str e.1)=ls.map (·.2):=List.map_congr_left λ l hm=>by
    obtain ⟨e',he',h1,h2,h3⟩:=hself l hm
    simp [h3]
   rw [e2]
   walk_at "w";refine ze R (.tm (.list (ls.map (·.2)))) (.inr (.inl rfl)) λ own1 μ1 a e1 h1 j1 b1 R1=> ?_
   walk_at "w";refine second (λ _ _ h=>by walk_at "w";exact h) e1 R1 (R1.tm h1) (by rw [hc];exact L2.map (λ l e hle=>hle.2.th e1) hv)
end
noncomputable def Cont.emptied:Cont→Cont
 | .s v=> .s v
 | .a _=> .a []
 | .h _=> .h []
noncomputable def S.clearVals (σ:S) (ds:List Nat):S:= {σ with th:=λ m=>if m∈ds then {σ.th m with c:= .s .none} else σ.th m}
noncomputable def S.freed (σ:S) (n:Nat):S:=σ.setTh n {σ.th n with fr:=true}
noncomputable def S.free3 (σ:S) (n:Nat):S:=((σ.freed n).clearVals (σ.th n).weak).setWeak n []
noncomputable def S.free4 (σ:S) (n:Nat):S:=match ((σ.free3 n).th n).c with
 | .s old=>((σ.free3 n).setVal n .none).putOff n old
 | _=>σ.free3 n
noncomputable def S.empty (σ:S) (n:Nat):S:=σ.setTh n {σ.th n with c:=(σ.th n).c.emptied}
noncomputable def S.free (σ:S) (n:Nat):S:=(zi ((σ.free4 n).th n).c).foldl S.letGo ((σ.free4 n).empty n)
section
variable {σ:S} {n m s:Nat}
theorem jS:σ.setTh n (σ.th n)=σ:=by
 unfold S.setTh
 have:(λ m=>if m=n then σ.th n else σ.th m)=σ.th:=by
  funext m;split
  ·subst_vars;rfl
  ·rfl
 rw [this]
theorem hY:σ.clearVals []=σ:=by unfold S.clearVals;exact rfl
theorem qD {ds:List Nat}:(σ.clearVals ds).setVal s .none=σ.clearVals (ds ++ [s]):=by
 unfold S.clearVals S.setVal S.setTh
 refine thE λ m=> ?_
 dsimp only
 by_cases h1:m=s
 ·subst h1
  simp only [if_true,List.mem_append,List.mem_singleton,or_true]
  split <;> rfl
 ·simp [h1]
theorem vH {ds:List Nat}:((σ.clearVals ds).th m).weak=(σ.th m).weak:=by
 unfold S.clearVals;dsimp only;split <;> rfl
theorem vT:((σ.freed n).th m).weak=(σ.th m).weak:=by
 unfold S.freed;rw [zk];split
 ·subst_vars;rfl
 ·rfl
theorem ZG:((σ.freed n).th m).c=(σ.th m).c:=by
 unfold S.freed;rw [zk];split
 ·subst_vars;rfl
 ·rfl
theorem Xo:(σ.note n).zero.length≤σ.zero.length+1:=by
 unfold S.note;split
 ·simp
 ·lia
theorem jT:(σ.letGo n).zero.length≤σ.zero.length+1:=Xo
theorem x0: ∀ (ds:List Nat) (σ:S),(ds.foldl S.letGo σ).zero.length≤σ.zero.length+ds.length
 | [],σ=>Nat.le_refl _
 | d :: ds,σ=>by
  have h1:=x0 ds (σ.letGo d)
  have h2:=jT (σ:=σ) (n:=d)
  simp only [List.foldl_cons,List.length_cons]
  lia
theorem kq {K:Ad} {own:Own} {σ:S} {μ:Mem} {i:Nat} {vs:List AV} {all:List Nat} {G:Unit→Cx0} {P:Fl Unit→Mem→Prop} (R:Rep K own σ μ) (hi:own i= .tm (.list vs)) (hv:Things own vs all) (hz:σ.zero.length+all.length≤big) (hq: ∀ own' μ',Ext own own'→Rep K own' (all.foldl S.letGo σ) μ'→P (.nxt ()) μ'):wp (forL G (.obj i) () λ _ v=>UO (.obj K.counter) v) P μ:=by
 refine qA (τ:=λ ds=>ds.foldl S.letGo σ) R hi hv (λ ds b bs own8 μ8 x P' q1 q2 p1 R8 hP=> ?_) hq
 walk_at "w";refine toI (zu R8) ?_
 have z1:=x0 ds σ
 have:ds.length < all.length:=by rw [q1];simp
 walk_at "w";refine vR R8 p1 (by lia) λ μ9 R9=> ?_
 walk_at "w";exact hP own8 μ9 Ext.refl (by rw [List.foldl_append];exact R9)
theorem bL {v:PV}:(σ.putOff s v).zero.length≤σ.zero.length+1:=by
 cases v with
 | none=>exact Nat.le_succ _
 | int i=>exact Nat.le_succ _
 | ref m=>exact jT
 | weak m=>exact Nat.le_succ _
theorem Xp:(σ.note n).last=σ.last:=by unfold S.note;split <;> rfl
theorem bM {v:PV}:(σ.putOff s v).last=σ.last:=by
 cases v with
 | ref m=>exact Xp
 | _=>rfl
theorem Ww:(σ.note n).lkT=σ.lkT:=by unfold S.note;split <;> rfl
theorem Yx {v:PV}:(σ.putOff s v).lkT=σ.lkT:=by
 cases v with
 | ref m=>exact Ww
 | _=>rfl
theorem uP:(σ.note n).th=σ.th:=by unfold S.note;split <;> rfl
theorem VG:((σ.letGo n).th m).c=(σ.th m).c:=by
 unfold S.letGo;rw [uP];unfold S.setCnt;rw [zk];split
 ·subst_vars;rfl
 ·rfl
theorem gJ {v:PV}:((σ.putOff s v).th m).c=(σ.th m).c:=by
 cases v with
 | none=>rfl
 | int i=>rfl
 | ref k=>exact VG
 | weak k =>
  show ((σ.setTh _ _).th m).c=_;rw [zk];split
  ·subst_vars;rfl
  ·rfl
theorem wU:(∃ old,((σ.free3 n).th n).c= .s old∧σ.free4 n=((σ.free3 n).setVal n .none).putOff n old)∨σ.free4 n=σ.free3 n:=by
 unfold S.free4
 cases ((σ.free3 n).th n).c with
 | s old=>exact .inl ⟨old,rfl,rfl⟩
 | _=>exact .inr rfl
theorem jU:(σ.free4 n).zero.length≤σ.zero.length+1:=by
 rcases wU (σ:=σ) (n:=n) with ⟨o,_,e⟩ | e <;> rw [e]
 ·exact bL
 ·exact Nat.le_succ _
theorem Yy:(σ.free4 n).last=σ.last:=by
 rcases wU (σ:=σ) (n:=n) with ⟨o,_,e⟩ | e <;> rw [e]
 ·exact bM
 ·rfl
theorem kr:(σ.free4 n).lkT=σ.lkT:=by
 rcases wU (σ:=σ) (n:=n) with ⟨o,_,e⟩ | e <;> rw [e]
 ·exact Yx
 ·rfl
end
section
variable {K:Ad} {own own':Own} {σ σ':S} {μ:Mem} {α:Type}
variable {Q:AV→Mem→Prop} {v c s:AV} {n k:Nat}
theorem bN (R:Rep K own σ μ) (h:at_ own v (.thing n)) (hn:n≤σ.last) (hlk:σ.lkT n=false) (hq: ∀ own' μ',Ext own own'→Rep K own' (σ.empty n) μ'→Q .none μ'):wp (y0 v) Q μ:=by
 unfold y0 xJ
 walk_at "w";refine toI (xi R h) ?_
 unfold S.empty at hq
 cases hc:(σ.th n).c with
 | a xs =>
  rw [hc] at hq
  walk_at "w"
  walk_at "w";refine ze R (.nw (.list [])) (.inr (.inr rfl)) λ own1 μ1 i e1 h1 j1 b1 R1=> ?_
  walk_at "w";refine bF R1 (h.th e1) hc h1 hn λ own2 μ2 e2 R2=> ?_
  walk_at "w";exact hq own2 μ2 (e1.trans e2) R2
 | s pv =>
  walk_at "w"
  walk_at "w";refine toI (xi R h) ?_;rw [hc]
  walk_at "w"
  walk_at "w";refine toI (xi R h) ?_;rw [hc]
  walk_at "w"
  walk_at "w";refine toI (xi R h) ?_;rw [hc]
  walk_at "w"
  walk_at "w";refine hq own μ Ext.refl ?_
  have:({σ.th n with c:=(σ.th n).c.emptied}:Th)=σ.th n:=by rw [hc];show ({σ.th n with c:= .s pv}:Th)=_;rw [← hc]
  rw [this,jS];exact R
 | h es =>
  rw [hc] at hq
  walk_at "w"
  walk_at "w";refine toI (xi R h) ?_;rw [hc]
  walk_at "w"
  walk_at "w";refine ze R (.nw (.dS false [])) (.inr (.inr rfl)) λ own1 μ1 i e1 h1 j1 b1 R1=> ?_
  walk_at "w";refine Xf R1 (h.th e1) hc hlk h1 hn λ own2 μ2 e2 R2=> ?_
  walk_at "w";refine Wm R2 ((h.th e1).th e2) (es:=[]) (by rw [zc]) λ μ3 R3=> ?_
  walk_at "w";exact hq own2 μ3 (e1.trans e2) R3
structure FreeOk (σ:S) (n:Nat):Prop where
 ws: ∀ s∈(σ.th n).weak,∃ v,(σ.th s).c= .s v
 zb:σ.zero.length+(zi (σ.th n).c).length+2≤big
 nl:n≤σ.last
 ko:KeysOk (σ.th n).c
 lk: ∀ m,σ.lkT m=false
 wk: ∀ m,(σ.th n).c= .s (.weak m)→(σ.th m).weak.length≤big∧m≤σ.last
set_option tactic.hygienic true in
theorem ZH (ok:FreeOk σ n):((σ.free3 n).th n).c=(σ.th n).c∨((∃ v,(σ.th n).c= .s v)∧((σ.free3 n).th n).c= .s .none):=by
 have e:((σ.free3 n).th n).c=(((σ.freed n).clearVals (σ.th n).weak).th n).c:=by unfold S.free3 S.setWeak;rw [zc]
 rw [e]
 unfold S.clearVals
 dsimp only
 split
 ·rename_i q;exact .inr ⟨ok.ws n q,rfl⟩
 ·left;exact ZG
theorem ZI (ok:FreeOk σ n):((σ.free4 n).th n).c=(σ.th n).c∨((∃ v,(σ.th n).c= .s v)∧((σ.free4 n).th n).c= .s .none):=by
 have h3:=ZH ok
 rcases wU (σ:=σ) (n:=n) with ⟨o,ho,e⟩ | e <;> rw [e]
 ·right
  refine ⟨?_,by rw [gJ];unfold S.setVal;rw [zc]⟩
  rcases h3 with q | q
  ·exact ⟨o,by rw [← q];exact ho⟩
  ·exact q.1
 ·exact h3
theorem VH (R:Rep K own σ μ) (h:at_ own v (.thing n)) (ok:FreeOk σ n) (hq: ∀ own' μ',Ext own own'→Rep K own' (σ.free n) μ'→Q .none μ'):wp (yk (.obj K.counter) v) Q μ:=by
 unfold yk yO
 walk_at "w";refine Wl R h λ μ1 R1=> ?_
 have R1:Rep K own (σ.freed n) μ1:=R1
 walk_at "w";refine qx R1 h λ w hw=> ?_
 obtain ⟨i,vs,rfl,hi,hvs,e⟩:=R1.weakL hw
 have hvs:Things own vs (σ.th n).weak:=by rw [← vT (σ:=σ) (n:=n) (m:=n)];exact hvs
 walk_at "w";refine wh (λ xs _ μ'=> ∃ ds ns,(σ.th n).weak=ds ++ ns∧Things own xs ns∧Rep K own ((σ.freed n).clearVals ds) μ') e ⟨[],_,rfl,hvs,by rw [hY];exact R1⟩ (λ xs _ μ' h'=> ?_) (λ x xs _ μ' h'=> ?_) (λ _ μ' h'=> ?_)
 ·obtain ⟨ds,ns,e1,e2,R2⟩:=h'
  obtain ⟨i',vs',q1,q2,q3,q4⟩:=R2.weakL (w:= .obj i) ⟨i,rfl,hi⟩
  rw [vH,vT] at q3
  cases q1
  rw [q4,Things.eq R2 q3 hvs]
 ·obtain ⟨ds,ns,e1,e2,R2⟩:=h'
  cases e2 with
  | @cons _ b _ bs h1 h2 =>
  walk_at "w"
  have hsc: ∃ v,(((σ.freed n).clearVals ds).th b).c= .s v:=by
   obtain ⟨v,hv⟩:=ok.ws b (by rw [e1];exact List.mem_append_right _ (.head _))
   unfold S.clearVals
   dsimp only
   split
   ·exact ⟨_,rfl⟩
   ·exact ⟨v,by rw [ZG];exact hv⟩
  obtain ⟨v',hv'⟩:=hsc
  walk_at "w";refine wz (pv:= .none) R2 h1 hv' rfl λ μ3 R3=> ?_
  walk_at "w";refine ⟨ds ++ [b],bs,by rw [e1];simp,h2,?_⟩
  rw [← qD];exact R3
 ·obtain ⟨ds,ns,e1,e2,R2⟩:=h'
  cases e2
  rw [List.append_nil] at e1
  rw [← e1] at R2
  clear e1
  walk_at "w";refine ze R2 (.nw (.list [])) (.inr (.inr rfl)) λ own3 μ3 a e3 h3 j3 b3 R3=> ?_
  walk_at "w";refine jL R3 (h.th e3) h3 .nil ok.nl λ own4 μ4 e4 R4=> ?_
  have R4:Rep K own4 (σ.free3 n) μ4:=R4
  have h4:at_ own4 v (.thing n):=(h.th e3).th e4
  have e34:=e3.trans e4
  simp only [wJ,zA,gz]
  refine qB (λ _ μ'=> ∃ own5,Ext own own5∧Rep K own5 (σ.free4 n) μ') ?_ λ _ μ5 h'=> ?_;rotate_left
  ·obtain ⟨own5,e5,R5⟩:=h'
   have h5:=h.th e5
   have c4:=ZI ok
   have hmem:(zi ((σ.free4 n).th n).c).length≤(zi (σ.th n).c).length:=by
    rcases c4 with q | ⟨_,q⟩
    ·rw [q];exact Nat.le_refl _
    ·rw [q];exact Nat.zero_le _
   have hko:KeysOk ((σ.free4 n).th n).c:=by
    rcases c4 with q | ⟨_,q⟩
    ·rw [q];exact ok.ko
    ·rw [q];intro es h;cases h
   have zb:=ok.zb
   walk_at "w";refine Xn R5 h5 hko (by lia) (by rw [kr];exact ok.lk n) λ own6 μ6 a vs6 e6 h6 hv6 R6=> ?_
   walk_at "w";refine bN R6 (h5.th e6) (by rw [Yy];exact ok.nl) (by rw [kr];exact ok.lk n) λ own7 μ7 e7 R7=> ?_
   have h7:own7 a= .tm (.list vs6):=e7.at h6 rfl
   have z2:((σ.free4 n).empty n).zero=(σ.free4 n).zero:=rfl
   have z3:=jU (σ:=σ) (n:=n)
   walk_at "w";refine kq R7 h7 (hv6.ext e7) (by rw [z2];lia) λ own8 μ8 q2 R8=> ?_
   walk_at "w";exact hq own8 μ8 ((e5.trans e6).trans (e7.trans q2)) R8
  walk_at "w";refine toI (xi R4 h4) ?_
  have h3c:=ZH ok
  cases hc:((σ.free3 n).th n).c with
  | s old =>
   have hf4:σ.free4 n=((σ.free3 n).setVal n .none).putOff n old:=by unfold S.free4;rw [hc]
   walk_at "w"
   walk_at "w";refine toI (jO R4) ?_
   walk_at "w";refine toI (Zu R4) ?_
   walk_at "w";refine toI (zp R4 h4) ?_
   walk_at "w";refine toI (Zv R4) ?_
   walk_at "w";refine yQ R4 h4 hc λ o ho=> ?_
   walk_at "w";refine wz (pv:= .none) R4 h4 hc rfl λ μ5 R5=> ?_
   walk_at "w";refine toI (zu R5) ?_
   have zb:=ok.zb
   walk_at "w";refine kh R5 h4 ho (by show σ.zero.length < big;lia) (λ m hm=> ?_) λ own6 μ6 e6 R6=> ?_
   ·subst hm
    have hw':(σ.th n).c= .s (.weak m):=by
     rcases h3c with q | ⟨_,q⟩
     ·rw [← q];exact hc
     ·rw [hc] at q;cases q
    obtain ⟨b1,b2⟩:=ok.wk m hw'
    refine ⟨?_,b2⟩
    have:(((σ.free3 n).setVal n .none).th m).weak.length≤(σ.th m).weak.length:=by
     rw [wA]
     unfold S.free3 S.setWeak
     rw [zk]
     split
     ·exact Nat.zero_le _
     ·rw [vH,vT];exact Nat.le_refl _
    exact Nat.le_trans this b1
   ·walk_at "w";exact ⟨(),rfl,own6,e34.trans e6,by rw [hf4];exact R6⟩
  | a xs =>
   walk_at "w"
   exact ⟨(),rfl,own4,e34,by unfold S.free4;rw [hc];exact R4⟩
  | h es =>
   walk_at "w"
   exact ⟨(),rfl,own4,e34,by unfold S.free4;rw [hc];exact R4⟩
end
noncomputable def nins (i:Nat):List Nat→List Nat
 | []=>[i]
 | j :: r=>if i≤j then i :: j :: r else j :: nins i r
noncomputable def nsort:List Nat→List Nat
 | []=>[]
 | i :: r=>nins i (nsort r)
theorem xn {i j:Nat} {r:List Nat}:nins i (j :: r)=if i≤j then i :: j :: r else j :: nins i r:=rfl
theorem ux {i:Nat}:nins i []=[i]:=rfl
theorem uQ {i:Nat} {r:List Nat}:nsort (i :: r)=nins i (nsort r):=rfl
theorem VI:nsort []=[]:=rfl
theorem gK (i:Nat): ∀ ns:List Nat,ins (i:Int) (ns.map λ n:Nat=>(n:Int))=(nins i ns).map λ n:Nat=>(n:Int)
 | []=>rfl
 | j :: r=>by
  simp only [List.map_cons,Yi,xn]
  by_cases q:i≤j
  ·have:(i:Int)≤j:=by lia
   simp [q]
  ·have: ¬ (i:Int)≤j:=by lia
   simp [q,gK i r]
theorem vU: ∀ ns:List Nat,isort (ns.map λ n:Nat=>(n:Int))=(nsort ns).map λ n:Nat=>(n:Int)
 | []=>rfl
 | i :: r=>by simp only [List.map_cons,isort,nsort,vU r,gK]
theorem gL (i:Nat): ∀ ns,(nins i ns).length=ns.length+1
 | []=>rfl
 | j :: r=>by rw [xn];split <;> simp [gL i r]
theorem uy: ∀ ns,(nsort ns).length=ns.length
 | []=>rfl
 | i :: r=>by rw [uQ];rw [gL,uy r];rfl
theorem gM {i k:Nat}: ∀ {ns},k∈nins i ns↔k=i∨k∈ns
 | []=>by simp [ux]
 | j :: r=>by
  rw [xn]
  split
  ·simp
  ·simp only [List.mem_cons,gM (ns:=r)]
   constructor
   ·rintro (h | h | h)
    ·exact .inr (.inl h)
    ·exact .inl h
    ·exact .inr (.inr h)
   ·rintro (h | h | h)
    ·exact .inr (.inl h)
    ·exact .inl h
    ·exact .inr (.inr h)
theorem uz {k:Nat}: ∀ {ns},k∈nsort ns↔k∈ns
 | []=>by simp [VI]
 | i :: r=>by rw [uQ];rw [gM,uz (ns:=r),List.mem_cons]
noncomputable def addK (fs:List Nat) (n:Nat):List Nat:=if n∈fs then fs else fs ++ [n]
noncomputable def S.isDy (σ:S) (n:Nat):Bool:=decide ((σ.th n).cnt=0) && !(σ.th n).fr
noncomputable def S.keys (σ:S) (ns:List Nat):List Nat:=ns.foldl (λ fs n=>if σ.isDy n then addK fs n else fs) []
theorem Wx (fs:List Nat) (n:Nat):(addK fs n).length≤fs.length+1:=by unfold addK;split <;> simp
theorem kt {σ:S} {ds:List Nat} {n:Nat}:σ.keys (ds ++ [n])=if σ.isDy n then addK (σ.keys ds) n else σ.keys ds:=by
 unfold S.keys;rw [List.foldl_append];rfl
theorem Wy {σ:S} (ns:List Nat):(σ.keys ns).length≤ns.length:=by
 have: ∀ (ns fs:List Nat),(ns.foldl (λ fs n=>if σ.isDy n then addK fs n else fs) fs).length≤fs.length+ns.length:=by
  intro ns
  induction ns with
  | nil=>intro fs;exact Nat.le_refl _
  | cons n ns ih =>
   intro fs
   simp only [List.foldl_cons,List.length_cons]
   refine Nat.le_trans (ih _) ?_
   split
   ·have:=Wx fs n;lia
   ·lia
 have h:=this ns []
 simp only [List.length_nil,Nat.zero_add] at h
 exact h
theorem Wz {R:AV→Nat→Prop} {es:List (Int × AV)} {ns:List Nat} (h:L2 (λ e (n:Nat)=>e.1=(n:Int)∧R e.2 n) es ns) {n:Nat} {x:AV} (hx:R x n):L2 (λ e (n:Nat)=>e.1=(n:Int)∧R e.2 n) (put (n:Int) x es) (addK ns n):=by
 by_cases q:n∈ns
 ·unfold addK
  rw [if_pos q]
  induction h with
  | nil=>simp at q
  | @cons a b as bs h1 h2 ih =>
   rw [wu]
   rw [h1.1]
   by_cases z:b=n
   ·subst b
    simp only [if_true]
    exact .cons ⟨rfl,hx⟩ h2
   ·have: ¬ (b:Int)=n:=by lia
    simp only [this,if_false]
    refine .cons h1 (ih ?_)
    rcases List.mem_cons.mp q with rfl | q
    ·exact absurd rfl z
    ·exact q
 ·unfold addK
  rw [if_neg q]
  exact jn h q hx
section
variable {K:Ad} {own own':Own} {σ σ':S} {μ:Mem} {α:Type}
variable {Q:AV→Mem→Prop} {v c s:AV} {n k:Nat}
theorem VJ {i:Nat} {lk:Bool} {es:List (Int × AV)} {k:Int} {y:AV} (e:μ[i]? =some (.dI lk es)) (h:get k es=some y):getI (.obj i) (.int k) μ=some (y,μ):=by
 exact rdo e (by dsimp only;rw [h];rfl)
theorem keysL2 {R:AV→Nat→Prop} {es:List (Int × AV)} {ns:List Nat} (h:L2 (λ e (n:Nat)=>e.1=(n:Int)∧R e.2 n) es ns):es.map (·.1)=ns.map λ n:Nat=>(n:Int):=by
 induction h with
 | nil=>rfl
 | cons h _ ih=>simp [h.1,ih]
theorem ga (R:Rep K own σ μ) {z:AV} (h:at_ own z .zero) (hq: ∀ own' μ' a vs,Ext own own'→own' a= .tm (.list vs)→Things own' vs σ.zero→Rep K own' σ μ'→Q (.obj a) μ'):wp (slFrom z (.int 0)) Q μ:=by
 obtain ⟨i,vs,rfl,hi,hv,e⟩:=R.zeroL h
 show wp (if (0:Int)≤0 then bd (rdL (.obj i)) λ xs=>al (.list (xs.drop 0)) else fl) Q μ
 rw [if_pos (Int.le_refl 0)]
 walk_at "w";refine zf (xG e) ?_
 show wp (al (.list vs)) Q μ
 walk_at "w";refine ze R (.tm (.list vs)) (.inr (.inl rfl)) λ own1 μ1 a e1 h1 j1 b1 R1=> ?_
 walk_at "w";exact hq own1 μ1 a vs e1 h1 (hv.ext e1) R1
theorem bO (R:Rep K own σ μ) {z:AV} (h:at_ own z .zero) (hq: ∀ own' μ' a,Ext own own'→own' a= .nw (.list [])→Rep K own' σ μ'→Q (.obj a) μ'):wp (slTo z (.int 0)) Q μ:=by
 obtain ⟨i,vs,rfl,hi,hv,e⟩:=R.zeroL h
 show wp (if (0:Int)≤0 then bd (rdL (.obj i)) λ xs=>al (.list (xs.take 0)) else fl) Q μ
 rw [if_pos (Int.le_refl 0)]
 walk_at "w";refine zf (xG e) ?_
 show wp (al (.list [])) Q μ
 walk_at "w";refine ze R (.nw (.list [])) (.inr (.inr rfl)) λ own1 μ1 a e1 h1 j1 b1 R1=> ?_
 walk_at "w";exact hq own1 μ1 a e1 h1 R1
theorem setI_dI {i:Nat} {es:List (Int × AV)} {k:Int} {x:AV} (e:μ[i]? =some (.dI false es)) (hl:es.length < big):setI (.obj i) (.int k) x μ=some ((),μ.set i (.dI false (put k x es))):=by
 exact rdo e (by dsimp only;rw [if_pos ⟨rfl,hl⟩];rfl)
theorem Yz (R:Rep K own σ μ) {i:Nat} {vs:List AV} {ns:List Nat} (hi:own i= .tm (.list vs)) (hv:Things own vs ns) (hl:ns.length≤big) (hk:(σ.keys ns).length < 64)
  (hq: ∀ own' μ' a ws,Ext own own'→own' a= .tm (.list ws)→Things own' ws (nsort (σ.keys ns))→Rep K own' σ μ'→Q (.obj a) μ'):wp (xx (.obj i)) Q μ:=by
 unfold xx xW
 walk_at "w";refine ze R (.nw (.dI false [])) (.inr (.inr rfl)) λ own1 μ1 f e1 h1 j1 b1 R1=> ?_
 walk_at "w";refine wh (λ xs _ μ'=> ∃ ds ns' own' es,ns=ds ++ ns'∧Ext own1 own'∧own' f= .nw (.dI false es)∧L2 (λ e (n:Nat)=>e.1=(n:Int)∧at_ own' e.2 (.thing n)) es (σ.keys ds)∧Things own' xs ns'∧Rep K own' σ μ')
  (R1.tm (e1.at hi rfl)) ⟨[],ns,own1,[],rfl,Ext.refl,h1, .nil,hv.ext e1,R1⟩ (λ xs _ μ' h=> ?_) (λ x xs _ μ' h=> ?_) (λ _ μ' h=> ?_)
 ·obtain ⟨ds,ns',own2,es,q1,q2,q3,q4,q5,R2⟩:=h
  exact R2.tm (q2.at (e1.at hi rfl) rfl)
 ·obtain ⟨ds,ns',own2,es,q1,q2,q3,q4,q5,R2⟩:=h
  cases q5 with
  | @cons _ b _ bs p1 p2 =>
  walk_at "w";refine toI (yB R2 p1) ?_
  walk_at "w"
  have hdy:σ.isDy b=(decide ((σ.th b).cnt=0) && !(σ.th b).fr):=rfl
  have skip:σ.isDy b=false→ ∃ ds ns' own' es,ns=ds ++ ns'∧Ext own1 own'∧own' f= .nw (.dI false es)∧L2 (λ e (n:Nat)=>e.1=(n:Int)∧at_ own' e.2 (.thing n)) es (σ.keys ds)∧Things own' xs ns'∧Rep K own' σ μ':=λ hd =>
   ⟨ds ++ [b],bs,own2,es,by rw [q1];simp,q2,q3,by rw [kt,hd];exact q4,p2,R2⟩
  by_cases z:(σ.th b).cnt=0
  ·refine iA (decide_eq_true z) ?_;walk_at "w"
   walk_at "w";refine toI (Yk R2 p1) ?_
   cases hfr:(σ.th b).fr with
   | true=>walk_at "w";exact skip (by rw [hdy,hfr];simp)
   | false =>
    walk_at "w";refine toI (zp R2 p1) ?_
    have hes:es.length < big:=by
     rw [q4.len]
     have:=Wy (σ:=σ) ds
     have:ns.length=ds.length+(bs.length+1):=by rw [q1];exact List.length_append
     lia
    walk_at "w";refine zf (setI_dI (R2.nw q3) hes) ?_
    walk_at "w"
    have ee:Ext own2 (up own2 f (.nw (.dI false (put (b:Int) x es)))):=Ext.up (by rw [q3];rfl)
    walk_at "w";refine ⟨ds ++ [b],bs,_,_,by rw [q1];simp,q2.trans ee,zy,?_,Things.ext p2 ee,R2.nwSet q3⟩
    rw [kt,show σ.isDy b=true by rw [hdy,hfr,z];rfl,if_pos rfl]
    exact Wz (R:=λ v n=>at_ (up own2 f (.nw (.dI false (put (b:Int) x es)))) v (.thing n)) (q4.imp λ e n h=>⟨h.1,h.2.th ee⟩) (p1.th ee)
  ·refine iE (decide_eq_false z) ?_;walk_at "w";exact skip (by rw [hdy];simp [z])
 ·obtain ⟨ds,ns',own2,es,q1,q2,q3,q4,q5,R2⟩:=h
  cases q5
  rw [List.append_nil] at q1
  subst q1
  walk_at "w"
  have hkeys:=keysL2 (R:=λ v n=>at_ own2 v (.thing n)) q4
  unfold uL
  walk_at "w";refine zf (show rd f μ'=some (.dI false es,μ') by simp [rd,R2.nw q3]) ?_
  have hes:es.length < 64:=by rw [q4.len];exact hk
  simp only [wJ,hes,if_true]
  rw [hkeys,vU,List.map_map]
  walk_at "w";refine ze R2 (.tm (.list (nums (nsort (σ.keys ns))))) (.inr (.inl rfl)) λ own3 μ3 g e3 h3 j3 b3 R3=> ?_
  have hf3:own3 f= .nw (.dI false es):=by
   rw [b3 f (λ q=>by rw [q,j3] at q3;cases q3)];exact q3
  have hes3:L2 (λ e (n:Nat)=>e.1=(n:Int)∧at_ own3 e.2 (.thing n)) es (σ.keys ns):=q4.imp λ e n h=>⟨h.1,h.2.th e3⟩
  have hget: ∀ n∈nsort (σ.keys ns),∃ y,get (n:Int) es=some y∧at_ own3 y (.thing n):=λ n hn=>(wS (R:=λ v n=>at_ own3 v (.thing n)) hes3 n).1 (uz.mp hn)
  walk_at "w";refine wi (λ _=>true) (λ k=>match k with | .int t=>(get t es).getD .none | _=> .none) (R3.tm h3) (by simp [nums,uy];unfold big;lia) (λ x hx=>⟨rfl,λ _=> ?_⟩) ?_
  ·obtain ⟨n,hn,rfl⟩:=List.mem_map.mp hx
   obtain ⟨y,hy,_⟩:=hget n hn
   simp only [hy,Option.getD_some]
   exact VJ (R3.nw hf3) hy
  ·rw [List.filter_eq_self.mpr (λ _ _=>rfl)]
   walk_at "w";refine ze R3 (.tm (.list _)) (.inr (.inl rfl)) λ own4 μ4 a e4 h4 j4 b4 R4=> ?_
   walk_at "w";refine hq own4 μ4 a _ (((e1.trans q2).trans e3).trans e4) h4 ?_ R4
   have: ∀ ms:List Nat,(∀ m∈ms,m∈nsort (σ.keys ns))→Things own4 ((nums ms).map λ k=>match k with | .int t=>(get t es).getD .none | _=> .none) ms:=by
    intro ms
    induction ms with
    | nil=>intro _;exact .nil
    | cons m ms ih =>
     intro h
     obtain ⟨y,hy,hat⟩:=hget m (h m (.head _))
     refine .cons ?_ (ih λ k hk=>h k (.tail _ ‹_›))
     simp only [hy,Option.getD_some]
     exact hat.th e4
   exact this _ λ m h=>h
end
noncomputable def Ad.cv (K:Ad) (q:Nat):CV:=⟨.obj K.heard, .obj K.real, .int q, .obj K.roots, .obj K.box⟩
noncomputable def S.hears (σ:S) (n:Nat):S:= {σ with heard:=σ.heard ++ [n]}
noncomputable def S.destroy (σ:S) (q n:Nat):S:=if n % 3=q∧σ.roots≠[] then (σ.hears n).store (σ.roots.getD (n % 4) 0) (.ref n) else σ.hears n
noncomputable def S.marked (σ:S) (n:Nat):S:=σ.setTh n {σ.th n with ds:=true}
noncomputable def S.finish (σ:S) (q n:Nat):S:=if (σ.th n).cnt=0∧(σ.th n).bl=true∧(σ.th n).ds=false then
  let σ':=((σ.marked n).hold n).destroy q n
  σ'.setCnt n ((σ'.th n).cnt - 1) else σ
structure StoreOk (σ:S) (k:Nat):Prop where
 zb:σ.zero.length < big
 sc: ∃ old,(σ.th k).c= .s old∧ ∀ m,old= .weak m→(σ.th m).weak.length≤big∧m≤σ.last
structure DestroyOk (σ:S) (n:Nat):Prop where
 hb:σ.heard.length < big
 ro:σ.roots≠[]→ ∃ r,σ.roots[n % 4]? =some r∧r∈σ.real∧StoreOk σ r
section
variable {K:Ad} {own own':Own} {σ σ':S} {μ:Mem} {α:Type}
variable {Q:AV→Mem→Prop} {v c s:AV} {n k q:Nat}
theorem YA (R:Rep K own σ μ) (h:at_ own v (.thing n)) (ok:DestroyOk σ n) (hq: ∀ own' μ',Ext own own'→Rep K own' (σ.destroy q n) μ'→Q .none μ'):wp (vf (K.cv q) v) Q μ:=by
 unfold vf ww Ad.cv
 walk_at "w";refine toI (Wr R) ?_
 walk_at "w";refine toI (zp R h) ?_
 walk_at "w";refine bK R ok.hb λ μ1 R1=> ?_
 walk_at "w";refine toI (zp R1 h) ?_
 walk_at "w"
 have R1:Rep K own (σ.hears n) μ1:=R1
 unfold S.destroy at hq
 by_cases q3:n % 3=q
 ·have:((n % 3:Nat):Int)=(q:Int):=by lia
  refine iA (decide_eq_true this) ?_;walk_at "w"
  walk_at "w";refine ze R1 (.tm (.list [])) (.inr (.inl rfl)) λ own2 μ2 a e2 h2 j2 b2 R2=> ?_
  walk_at "w";refine toI (yx R2.roots (ys:=[]) (R2.tm h2)) ?_
  by_cases hr:σ.roots=[]
  ·have:(σ.hears n).roots=[]:=hr
   simp only [this];walk_at "w"
   rw [if_neg (λ z=>z.2 hr)] at hq
   walk_at "w";exact hq own2 μ2 e2 R2
  ·have: ¬ (σ.hears n).roots=[]:=hr
   simp only [this];walk_at "w"
   rw [if_pos ⟨q3,hr⟩] at hq
   obtain ⟨r,hr1,hr2,hr3⟩:=ok.ro hr
   walk_at "w";refine toI (Xh R2) ?_
   walk_at "w";refine toI (zu R2) ?_
   walk_at "w";refine toI (zp R2 (h.th e2)) ?_
   walk_at "w";refine toI (wL R2 (m:=r) hr1) ?_
   walk_at "w";refine zE R2 hr2 λ x hx=> ?_
   walk_at "w";refine vh (b:=false) R2 (h.th e2) λ own3 μ3 y e3 hy R3=> ?_
   obtain ⟨old,ho1,ho2⟩:=hr3.sc
   walk_at "w";refine wT R3 (pv:= .ref n) (hx.th e3) (old:=old) ho1 hy hr3.zb ho2 λ own4 μ4 e4 R4=> ?_
   walk_at "w";refine hq own4 μ4 ((e2.trans e3).trans e4) ?_
   have:σ.roots.getD (n % 4) 0=r:=by rw [List.getD_eq_getElem?_getD,hr1];rfl
   exact this ▸ (R4)
 ·have: ¬ ((n % 3:Nat):Int)=(q:Int):=by lia
  refine iE (decide_eq_false this) ?_;walk_at "w"
  rw [if_neg (λ z=>q3 z.1)] at hq
  walk_at "w";exact hq own μ1 Ext.refl R1
theorem jp {m:Nat}:((σ.marked n).th m).c=(σ.th m).c:=by
 unfold S.marked;rw [zk];split
 ·subst_vars;rfl
 ·rfl
theorem bP {m:Nat}:((σ.marked n).th m).weak=(σ.th m).weak:=by
 unfold S.marked;rw [zk];split
 ·subst_vars;rfl
 ·rfl
theorem Xq (R:Rep K own σ μ) (h:at_ own v (.thing n)) (ok:DestroyOk σ n) (hq: ∀ own' μ',Ext own own'→Rep K own' (σ.finish q n) μ'→Q .none μ'):wp (zY (K.cv q) (.obj K.counter) v) Q μ:=by
 unfold zY yu
 walk_at "w";refine toI (yB R h) ?_
 walk_at "w"
 unfold S.finish at hq
 by_cases z:(σ.th n).cnt=0
 ·simp only [z];walk_at "w"
  walk_at "w";refine toI (Yj R h) ?_
  walk_at "w"
  rw [Ws]
  cases hb:(σ.th n).bl with
  | false =>
   walk_at "w"
   rw [if_neg (λ z=>by rw [hb] at z;cases z.2.1)] at hq
   walk_at "w";exact hq own μ Ext.refl R
  | true =>
   walk_at "w";refine toI (Vq R h) ?_
   cases hd:(σ.th n).ds with
   | true =>
    walk_at "w"
    rw [if_neg (λ z=>by rw [hd] at z;cases z.2.2)] at hq
    walk_at "w";exact hq own μ Ext.refl R
   | false =>
    walk_at "w";refine toI (u4 R) ?_
    walk_at "w"
    rw [if_pos ⟨z,hb,hd⟩] at hq
    walk_at "w";refine Wk R h λ μ1 R1=> ?_
    walk_at "w";refine toI (yB R1 h) ?_
    walk_at "w";refine xH R1 h λ μ2 R2=> ?_
    have R2:Rep K own ((σ.marked n).hold n) μ2:=R2
    walk_at "w";refine toI (u4 R2) ?_
    have ok2:DestroyOk ((σ.marked n).hold n) n:=by
     refine ⟨ok.hb,λ hr=> ?_⟩
     obtain ⟨r,h1,h2,h3⟩:=ok.ro hr
     obtain ⟨old,h4,h5⟩:=h3.sc
     refine ⟨r,h1,h2,h3.zb,old,by rw [jR,jp];exact h4,λ m hm=> ?_⟩
     rw [uv,bP];exact h5 m hm
    walk_at "w";refine YA R2 h ok2 λ own3 μ3 e3 R3=> ?_
    walk_at "w";refine toI (yB R3 (h.th e3)) ?_
    walk_at "w";refine xH R3 (h.th e3) λ μ4 R4=> ?_
    walk_at "w";exact hq own3 μ4 e3 R4
 ·simp only [z];walk_at "w"
  rw [if_neg (λ h=>z h.1)] at hq
  walk_at "w";exact hq own μ Ext.refl R
noncomputable def S.free? (σ:S) (n:Nat):S:=if σ.isDy n then σ.free n else σ
noncomputable def S.dying (σ:S):List Nat:=nsort (σ.keys σ.zero)
noncomputable def S.round1 (σ:S) (q:Nat):S:=σ.dying.foldl (λ σ n=>σ.finish q n) {σ with zero:=[]}
noncomputable def S.round (σ:S) (q:Nat):S:=σ.dying.foldl S.free? (σ.round1 q)
structure RoundOk (σ:S) (q:Nat):Prop where
 zl:σ.zero.length≤big
 kl:(σ.keys σ.zero).length < 64
 f1: ∀ ds n ns,σ.dying=ds ++ n :: ns→DestroyOk (ds.foldl (λ σ n=>σ.finish q n) {σ with zero:=[]}) n
 f2: ∀ ds n ns,σ.dying=ds ++ n :: ns→(ds.foldl S.free? (σ.round1 q)).isDy n=true→FreeOk (ds.foldl S.free? (σ.round1 q)) n
inductive Settles (q:Nat):Nat→S→S→Prop
 | stop {σ:S}:σ.zero=[]→Settles q 0 σ σ
 | step {σ σ':S} {k:Nat}:σ.zero≠[]→RoundOk σ q→Settles q k (σ.round q) σ'→Settles q (k+1) σ σ'
theorem VK (R:Rep K own {σ with zero:=[]} μ) (ok:RoundOk σ q) {i:Nat} {vs:List AV} (hi:own i= .tm (.list vs)) (hv:Things own vs σ.dying) {G:Unit→Cx0} {P:Fl Unit→Mem→Prop} (hq: ∀ own' μ',Ext own own'→Rep K own' (σ.round1 q) μ'→P (.nxt ()) μ'):wp (forL G (.obj i) () λ _ v=>UP (K.cv q) (.obj K.counter) v) P μ:=by
 refine qA (τ:=λ ds=>ds.foldl (λ σ n=>σ.finish q n) {σ with zero:=[]}) R hi hv (λ ds b bs own8 μ8 x P' q1 q2 p1 R8 hP=> ?_) λ own' μ' e R'=>hq own' μ' e R'
 walk_at "w";refine toI (zu R8) ?_
 walk_at "w";refine Xq R8 p1 (ok.f1 _ _ _ q1) λ own9 μ9 e9 R9=> ?_
 walk_at "w";exact hP own9 μ9 e9 (by rw [List.foldl_append];exact R9)
theorem VL (R:Rep K own (σ.round1 q) μ) (ok:RoundOk σ q) {i:Nat} {vs:List AV} (hi:own i= .tm (.list vs)) (hv:Things own vs σ.dying) {G:Unit→Cx0} {P:Fl Unit→Mem→Prop} (hq: ∀ own' μ',Ext own own'→Rep K own' (σ.round q) μ'→P (.nxt ()) μ'):wp (forL G (.obj i) () λ _ v=>UQ (.obj K.counter) v) P μ:=by
 refine qA (τ:=λ ds=>ds.foldl S.free? (σ.round1 q)) R hi hv (λ ds b bs own9 μ9 x P' q4 q5 p1 R9 hP=> ?_) λ own' μ' e R'=>hq own' μ' e R'
 have ok2:=ok.f2 _ _ _ q4
 rw [List.foldl_append] at hP
 obtain ⟨σ9,h9⟩: ∃ s,s=ds.foldl S.free? (σ.round1 q):=⟨_,rfl⟩
 simp only [List.foldl_cons,List.foldl_nil,← h9] at R9 hP ok2
 clear h9 q4
 walk_at "w";refine toI (yB R9 p1) ?_
 walk_at "w"
 have hdy:σ9.isDy b=(decide ((σ9.th b).cnt=0) && !(σ9.th b).fr):=rfl
 by_cases z:(σ9.th b).cnt=0
 ·refine iA (decide_eq_true z) ?_;walk_at "w"
  walk_at "w";refine toI (Yk R9 p1) ?_
  cases hfr:(σ9.th b).fr with
  | true =>
   walk_at "w";refine hP own9 _ Ext.refl ?_
   rw [S.free?,if_neg (by rw [hdy,hfr];simp)];exact R9
  | false =>
   walk_at "w"
   have hd:σ9.isDy b=true:=by rw [hdy,hfr,z];rfl
   walk_at "w";refine toI (zu R9) ?_
   walk_at "w";refine VH R9 p1 (ok2 hd) λ own10 μ10 e10 R10=> ?_
   walk_at "w";refine hP own10 _ e10 ?_
   rw [S.free?,if_pos hd];exact R10
 ·refine iE (decide_eq_false z) ?_;walk_at "w"
  walk_at "w";refine hP own9 _ Ext.refl ?_
  rw [S.free?,if_neg (by rw [hdy];simp [z])];exact R9
noncomputable def stC (K:Ad):M Bool:=bd (bd (bd (bd (bd (rt (.obj K.counter)) λ a6=>getA a6 "heap") λ a5=>getA a5 "zero") λ a4=>lenM a4) λ a2=>bd (rt (.int 0)) λ a3=>gtM a2 a3) tru
noncomputable def stW (K:Ad) (q fuel:Nat):M (Fl Unit):=whl [some (.obj K.counter),some (.int 0),none,none,none,none] fuel (stC K) (Wi (K.cv q) (.obj K.counter) (.int 0))
noncomputable def stK (K:Ad) (q fuel:Nat) (f:Fl Unit):M (Fl Unit):=match f with
 | .nxt _=>stW K q fuel
 | .cnt=>stW K q fuel
 | .ret v=>rt (.ret v)
theorem Vr {fuel:Nat}:stW K q (fuel+1)=bd (stC K) λ b=>if b then bd (Wi (K.cv q) (.obj K.counter) (.int 0)) (stK K q fuel) else rt (.nxt ()):=rfl
theorem U3 {j:Nat} {σ σ':S} (st:Settles q j σ σ'): ∀ {fuel:Nat},j < fuel→ ∀ {own:Own} {μ:Mem} {P:Fl Unit→Mem→Prop},Rep K own σ μ→(∀ own' μ',Ext own own'→Rep K own' σ' μ'→P (.nxt ()) μ')→wp (stW K q fuel) P μ:=by
 induction st with
 | @stop σ hz =>
  intro fuel hf own μ P R hP
  obtain ⟨fuel,rfl⟩: ∃ f,fuel=f+1:=⟨fuel - 1,by lia⟩
  rw [Vr,stC]
  walk_at "w";refine toI (xk R) ?_
  walk_at "w";refine vG R λ z hz'=> ?_
  walk_at "w";refine toI (jP R hz') ?_;rw [hz]
  walk_at "w"
  exact hP own μ Ext.refl R
 | @step σ σ' k hz ok _ ih =>
  intro fuel hf own μ P R hP
  obtain ⟨fuel,rfl⟩: ∃ f,fuel=f+1:=⟨fuel - 1,by lia⟩
  rw [Vr,stC]
  have hpos:(0:Int) < (σ.zero.length:Int):=Int.natCast_pos.mpr (List.length_pos_iff.mpr hz)
  walk_at "w";refine toI (xk R) ?_
  walk_at "w";refine vG R λ z hz'=> ?_
  walk_at "w";refine toI (jP R hz') ?_
  walk_at "w"
  simp only [hpos]
  walk_at "w";refine toI (xk R) ?_
  walk_at "w";refine vG R λ z1 hz1=> ?_
  walk_at "w";refine ga R hz1 λ own1 μ1 a1 vs1 e1 h1 hv1 R1=> ?_
  walk_at "w";refine Yz R1 h1 hv1 ok.zl ok.kl λ own2 μ2 a2 vs2 e2 h2 hv2 R2=> ?_
  walk_at "w";refine toI (xk R2) ?_
  walk_at "w";refine vG R2 λ z2 hz2=> ?_
  walk_at "w";refine bO R2 hz2 λ own3 μ3 a3 e3 h3 R3=> ?_
  walk_at "w";refine toI (xk R3) ?_
  walk_at "w";refine Yp R3 h3 .nil λ own4 μ4 e4 R4=> ?_
  have hd4:own4 a2= .tm (.list vs2):=(e3.trans e4).at h2 rfl
  walk_at "w";refine VK R4 ok hd4 (hv2.ext (e3.trans e4)) λ own8 μ8 q2 R8=> ?_
  walk_at "w";refine VL R8 ok (q2.at hd4 rfl) ((hv2.ext (e3.trans e4)).ext q2) λ own9 μ9 q5 R9=> ?_
  walk_at "w";unfold stK
  exact ih (by lia) R9 λ own10 μ10 e10 R10=>hP own10 μ10 (((((e1.trans e2).trans e3).trans e4).trans q2).trans (q5.trans e10)) R10
theorem ku {j:Nat} (st:Settles q j σ σ') (hj:j < 1000) (R:Rep K own σ μ) (hq: ∀ own' μ',Ext own own'→Rep K own' σ' μ'→Q .none μ'):wp (zN (K.cv q) (.obj K.counter) (.int 0)) Q μ:=by
 unfold zN yv
 walk_at "w"
 refine U3 st hj R λ own' μ' e R'=> ?_
 walk_at "w";exact hq own' μ' e R'
end
noncomputable def goals:Cont→List Nat
 | .s (.ref n)=>[n]
 | .s _=>[]
 | .a xs=>xs
 | .h es=>es.map (·.2)
noncomputable def zg (row:Nat→Row) (ns:List Nat) (n:Nat):Nat:=(ns.map λ m=>(goals (row m).c).count n).sum
noncomputable def S.deg (σ:S) (n:Nat):Nat:=σ.roots.count n+zg σ.row σ.wk n
noncomputable def y9 (row:Nat→Row) (ns:List Nat):Nat:=(ns.map λ m=>(goals (row m).c).length).sum
noncomputable def S.degLen (σ:S):Nat:=σ.roots.length+y9 σ.row σ.wk
noncomputable def DegD (f:Nat→Nat) (es:List (Int × AV)):Prop:= ∀ n:Nat,(get (n:Int) es).getD (.int 0)= .int (f n)
set_option tactic.hygienic true in
theorem gN {es:List (Int × AV)} {k:Int} {x:AV}:get k (put k x es)=some x:=by
 induction es with
 | nil=>simp [Yh,xb]
 | cons e es ih =>
  rw [wu]
  split
  ·rw [xb];simp
  ·rename_i h;rw [xb];simp [h,ih]
set_option tactic.hygienic true in
theorem YB {es:List (Int × AV)} {k j:Int} {x:AV} (h:j≠k):get j (put k x es)=get j es:=by
 induction es with
 | nil=>simp [Yh,xb,Vm,h.symm]
 | cons e es ih =>
  rw [wu]
  split
  ·rename_i q
   rw [xb,xb,if_neg h.symm,if_neg (q ▸ h.symm)]
  ·rw [xb,xb,ih]
theorem put_len (k:Int) (x:AV): ∀ es:List (Int × AV),(put k x es).length≤es.length+1
 | []=>Nat.succ_pos _
 | e :: r=>by
  rw [wu]
  split
  ·simp
  ·have:=put_len k x r;simp;omega
theorem DegD.bump {f:Nat→Nat} {es:List (Int × AV)} (h:DegD f es) (n:Nat):DegD (λ m=>f m+if m=n then 1 else 0) (put (n:Int) (.int ((f n:Int)+1)) es):=λ m=>by
 by_cases q:m=n
 ·subst q;rw [gN];simp
 ·rw [YB (by lia),h m];simp [q]
theorem L2.vals {R:AV→Nat→Prop} {es:List (Int × AV)} {ns:List Nat} (h:L2 (λ e (n:Nat)=>e.1=(n:Int)∧R e.2 n) es ns):L2 R (es.map (·.2)) ns:=by
 induction h with
 | nil=>exact .nil
 | cons h _ ih=>exact .cons h.2 ih
theorem L2.keysEq {R:AV→Nat→Prop} {es es':List (Int × AV)} {ns:List Nat} (hR: ∀ v w n,R v n→R w n→v=w) (h:L2 (λ e (n:Nat)=>e.1=(n:Int)∧R e.2 n) es ns) (h':L2 (λ e (n:Nat)=>e.1=(n:Int)∧R e.2 n) es' ns):es=es':=by
 induction h generalizing es' with
 | nil=>cases h';rfl
 | @cons a b _ _ h _ ih =>
  cases h' with
  | @cons a' _ _ _ h1 h2 =>
   rw [ih h2]
   have:a=a':=Prod.ext (by rw [h.1,h1.1]) (hR _ _ _ h.2 h1.2)
   rw [this]
section
variable {K:Ad} {own own':Own} {σ σ':S} {μ μ':Mem} {α:Type}
variable {Q:AV→Mem→Prop} {v c s:AV} {n k q:Nat}
abbrev S.lockedW (σ:S):S:= {σ with lkW:=true}
theorem Rep.lockW (R:Rep K own σ μ) (h:σ.lkW=false): ∃ es,μ[K.world]? =some (.dI false es)∧L2 (λ e (n:Nat)=>e.1=(n:Int)∧at_ own e.2 (.row n)) es σ.wk∧Rep K own σ.lockedW (μ.set K.world (.dI true es)):=by
 obtain ⟨es,e,d⟩:=R.world
 rw [h] at e
 exact ⟨es,e,d,R.set (σ':=σ.lockedW) R.kW rfl ⟨Nat.le_refl _,Nat.le_refl _⟩ ⟨es,rfl,d⟩ Desc.dWorld⟩
theorem Rep.unlockW {es:List (Int × AV)} (R:Rep K own σ.lockedW μ) (h:σ.lkW=false) (e:μ[K.world]? =some (.dI true es)):Rep K own σ (μ.set K.world (.dI false es)):=by
 obtain ⟨es',e',d⟩:=R.world
 rw [e] at e'
 cases e'
 exact R.set (σ':=σ) R.kW rfl ⟨Nat.le_refl _,Nat.le_refl _⟩ ⟨es,by rw [h],d⟩ Desc.dWorld
theorem Rep.sameW {es:List (Int × AV)} {ns:List Nat} (hes:L2 (λ e (n:Nat)=>e.1=(n:Int)∧at_ own e.2 (.row n)) es ns) (ext:Ext own own') (R:Rep K own' σ' μ) (h1:σ'.lkW=true) (h2:σ'.wk=ns):μ[K.world]? =some (.dI true es):=by
 obtain ⟨es',e',d⟩:=R.world
 rw [h1] at e'
 rw [h2] at d
 rw [e',L2.keysEq (R:=λ v n=>at_ own' v (.row n)) (λ v w n a b=>at_.eq R a b rfl) d (hes.imp λ e n h=>⟨h.1,h.2.ext ext rfl⟩)]
theorem zn (R:Rep K own σ μ) {r:AV} {c:Cont} (h:at_ own r (.row n)) (hc:(σ.row n).c=c):wp (getI r (.int 0)) Q μ=Q (.str c.kind) μ:=by rw [Zz R h,hc]
theorem vi {d:Nat} {lk:Bool} {es:List (Int × AV)} {f:Nat→Nat} (e:μ[d]? =some (.dI lk es)) (h:DegD f es):wp (dget2 (.obj d) (.int (n:Int)) (.int 0)) Q μ=Q (.int (f n)) μ:=by
 walk_at "w";refine zd ?_
 unfold dget2 bd
 rw [uO e]
 simp only [rt,h n]
theorem vV {d:Nat} {lk:Bool} {es:List (Int × AV)} {QU:Unit→Mem→Prop} (e:μ[d]? =some (.dI lk es)):wp (chkD (.obj d)) QU μ=QU () μ:=zd (rdo e rfl)
theorem YC {ds:List Nat} {b n:Nat}:(ds ++ [b]).count n=ds.count n+if n=b then 1 else 0:=by
 rw [List.count_append,List.count_singleton]
 by_cases q:n=b
 ·subst q;simp
 ·have: ¬ b=n:=λ h=>q h.symm
  simp [q,this]
inductive BumpI (K:Ad) (σ:S) (own:Own) (f:Nat) (gs:List Nat) (el:Nat) (F:Nat→Nat) (xs:List AV) (μ':Mem):Prop
 | mk (ds ns:List Nat) (own':Own) (es':List (Int × AV)) (q1:gs=ds ++ ns) (q2:xs=nums ns) (q3:Ext own own') (q4:own' f= .nw (.dI false es')) (q5:DegD (λ n=>F n+ds.count n) es') (q6:es'.length≤el+ds.length) (R:Rep K own' σ μ')
theorem gO {G:Unit→Cx0} (R:Rep K own σ μ) {f g:Nat} {gs:List Nat} {F:Nat→Nat} {es:List (Int × AV)} {QF:Fl Unit→Mem→Prop} (hf:own f= .nw (.dI false es)) (hF:DegD F es) (hg: ∀ own' μ',Ext own own'→Rep K own' σ μ'→μ'[g]? =some (.list (nums gs))) (hl:es.length+gs.length < big)
  (hq: ∀ own' μ' es',Ext own own'→own' f= .nw (.dI false es')→DegD (λ n=>F n+gs.count n) es'→es'.length≤es.length+gs.length→Rep K own' σ μ'→QF (.nxt ()) μ') :
  wp (forL G (.obj g) () λ _ v_goal=>bd (bd (bd (rt (.obj f)) λ o26=>bd (chkD o26) λ _=>bd (rt v_goal) λ a27=>bd (rt (.int 0)) λ a28=>dget2 o26 a27 a28) λ a24=>bd (rt (.int 1)) λ a25=>addM a24 a25) λ x22=>bd (rt (.obj f)) λ o23=>bd (rt v_goal) λ k29=>bd (setI o23 k29 x22) λ _=>rt (.nxt ())) QF μ:=by
 walk_at "w";refine wh (λ xs _ μ'=>BumpI K σ own f gs es.length F xs μ')
  (hg own μ Ext.refl R) ⟨[],gs,own,es,rfl,rfl,Ext.refl,hf,by simpa using hF,Nat.le_refl _,R⟩ (λ xs _ μ' h=> ?_) (λ x xs _ μ' h=> ?_) (λ _ μ' h=> ?_)
 ·obtain ⟨ds,ns,own',es',q1,q2,q3,q4,q5,q6,R'⟩:=h
  exact hg own' μ' q3 R'
 ·obtain ⟨ds,ns,own',es',q1,q2,q3,q4,q5,q6,R'⟩:=h
  cases ns with
  | nil=>cases q2
  | cons b bs =>
  simp only [nums,List.map_cons,List.cons.injEq] at q2
  obtain ⟨rfl,rfl⟩:=q2
  walk_at "w";refine toI (vV (R'.nw q4)) ?_
  walk_at "w";refine toI (vi (R'.nw q4) q5) ?_
  walk_at "w"
  have hlen:gs.length=ds.length+(bs.length+1):=by rw [q1];exact List.length_append
  walk_at "w";refine zf (setI_dI (R'.nw q4) (by lia)) ?_
  walk_at "w"
  walk_at "w";refine ⟨ds ++ [b],bs,up own' f (.nw (.dI false (put (b:Int) _ es'))),_,by rw [q1];simp,rfl,q3.trans (Ext.up (by rw [q4];rfl)),zy,?_,?_,R'.nwSet q4⟩
  ·have:=q5.bump b
   intro n
   rw [this n]
   dsimp only
   rw [YC,Nat.add_assoc]
  ·have:=put_len (b:Int) (.int (((F b+ds.count b:Nat):Int)+1)) es'
   simp only [List.length_append,List.length_singleton]
   lia
 ·obtain ⟨ds,ns,own',es',q1,q2,q3,q4,q5,q6,R'⟩:=h
  cases ns with
  | cons b bs=>cases q2
  | nil =>
  rw [List.append_nil] at q1
  subst q1
  walk_at "w";exact hq own' μ' es' q3 q4 q5 q6 R'
theorem kw {lk:Bool} {es:List (Int × AV)}:valsOf (.dI lk es)=some (es.map (·.2)):=rfl
inductive DegI (K:Ad) (σ:S) (own2:Own) (f:Nat) (xs:List AV) (μ':Mem):Prop
 | mk (ds ns:List Nat) (own':Own) (es':List (Int × AV)) (q1:σ.wk=ds ++ ns) (q2:L2 (λ v n=>at_ own' v (.row n)) xs ns) (q3:Ext own2 own') (q4:own' f= .nw (.dI false es')) (q5:DegD (λ n=>σ.roots.count n+zg σ.row ds n) es') (q6:es'.length≤σ.roots.length+y9 σ.row ds) (R:Rep K own' σ.lockedW μ')
theorem wa (R:Rep K own σ μ) (hlk:σ.lkW=false) (hl:σ.degLen < big) (hw:σ.wk.length≤big) (hq: ∀ own' μ' d es,Ext own own'→own' d= .tm (.dI false es)→DegD σ.deg es→Rep K own' σ μ'→Q (.obj d) μ'):wp (zM (.obj K.world) (.obj K.roots)) Q μ:=by
 unfold zM xe
 walk_at "w";refine ze R (.nw (.dI false [])) (.inr (.inr rfl)) λ own1 μ1 f e1 h1 j1 b1 R1=> ?_
 unfold S.degLen at hl
 walk_at "w";refine gO R1 h1 (F:=λ _=>0) (λ n=>rfl) (λ own' μ' _ R'=>R'.roots) (by simp;lia) λ own2 μ2 es2 e2 h2 d2 l2 R2=> ?_
 walk_at "w"
 obtain ⟨ws,hw1,hw2,R3⟩:=R2.lockW hlk
 walk_at "w";refine Zx (λ xs _ μ'=>DegI K σ own2 f xs μ')
  hw1 kw rfl ⟨[],σ.wk,own2,es2,rfl,L2.vals (R:=λ v n=>at_ own2 v (.row n)) hw2,Ext.refl,h2,λ n=>by rw [d2 n];simp [zg],by simp [y9] at l2 ⊢;lia,R3⟩ (λ xs _ μ' h=> ?_) (λ x xs _ μ' h=> ?_) (λ _ μ' h=> ?_)
 ·obtain ⟨ds,ns,own',es',q1,q2,q3,q4,q5,q6,R'⟩:=h
  exact R'.sameW hw2 q3 rfl rfl
 ·refine ZC λ Q' hQ=> ?_
  obtain ⟨ds,ns,own',es',q1,q2,q3,q4,q5,q6,R'⟩:=h
  cases q2 with
  | @cons _ b _ bs p1 p2 =>
  walk_at "w";refine zw R' p1 λ y hy=> ?_
  have hsum:y9 σ.row σ.wk=y9 σ.row ds+((goals (σ.row b).c).length+y9 σ.row bs):=by rw [q1];simp [y9]
  have go: ∀ own4 μ4 g,Ext own' own4→own4 f= .nw (.dI false es')→Rep K own4 σ.lockedW μ4→(∀ own5 μ5,Ext own4 own5→Rep K own5 σ.lockedW μ5→μ5[g]? =some (.list (nums (goals (σ.row b).c)))) →
    wp (forL (λ _=>[some (.obj K.world),some (.obj K.roots),some (.obj f),none,some x,some y,some (.obj g),none,none,none]) (.obj g) () λ _ v_goal=>UR (.obj f) v_goal)
     (thnQ Q' λ _=>rt (.nxt ())) μ4:=by
   intro own4 μ4 g e4 h4 R4 hg
   walk_at "w";refine gO R4 h4 q5 hg (by lia) λ own5 μ5 es5 e5 h5 d5 l5 R5=> ?_
   walk_at "w";refine hQ _ _ ?_
   walk_at "w";refine ⟨ds ++ [b],bs,own5,es5,by rw [q1];simp,p2.imp λ v n h=>(h.ext e4 rfl).ext e5 rfl,(q3.trans e4).trans e5,h5,λ n=> ?_,?_,R5⟩
   ·have:σ.roots.count n+zg σ.row ds n+(goals (σ.row b).c).count n=σ.roots.count n+zg σ.row (ds ++ [b]) n:=by simp [zg,Nat.add_assoc]
    rw [d5 n]
    dsimp only
    rw [this]
   ·simp only [y9,List.map_append,List.map_cons,List.map_nil,List.sum_append,List.sum_cons,List.sum_nil] at q6 ⊢
    lia
  walk_at "w";refine ze R' (.tm (.list [])) (.inr (.inl rfl)) λ own4 μ4 g e4 h4 j4 b4 R4=> ?_
  have hf4:own4 f= .nw (.dI false es'):=by rw [b4 f (λ z=>by rw [z,j4] at q4;cases q4)];exact q4
  have p4:=p1.ext e4 rfl
  cases hc:(σ.row b).c with
  | s pv =>
   rw [show (σ.lockedW.row b).c= .s pv from hc] at hy
   have hyy:VW own4 pv y:=VW.ext hy e4
   walk_at "w";refine toI (zn R4 p4 hc) ?_
   simp only [show (Cont.s pv).kind="S" from rfl];walk_at "w"
   walk_at "w";refine toI (wj R4 hyy) ?_
   have empty:goals (.s pv)=[]→ ∀ own5 μ5,Ext own4 own5→Rep K own5 σ.lockedW μ5→μ5[g]? =some (.list (nums (goals (σ.row b).c))):=λ hz own5 μ5 e5 R5=>by
    rw [hc,hz];exact R5.tm (e5.at h4 rfl)
   cases pv with
   | none =>
    walk_at "w";refine toI (zn R4 p4 hc) ?_;walk_at "w";refine toI (zn R4 p4 hc) ?_;walk_at "w"
    exact go own4 μ4 g e4 hf4 R4 (empty rfl)
   | int i =>
    walk_at "w";refine toI (zn R4 p4 hc) ?_;walk_at "w";refine toI (zn R4 p4 hc) ?_;walk_at "w"
    exact go own4 μ4 g e4 hf4 R4 (empty rfl)
   | weak m =>
    walk_at "w"
    walk_at "w";refine toI (ZB R4 hyy rfl) ?_
    walk_at "w";refine toI (zn R4 p4 hc) ?_;walk_at "w";refine toI (zn R4 p4 hc) ?_;walk_at "w"
    exact go own4 μ4 g e4 hf4 R4 (empty rfl)
   | ref m =>
    walk_at "w"
    walk_at "w";refine toI (ZB R4 hyy rfl) ?_
    walk_at "w"
    walk_at "w";refine toI (zS R4 hyy rfl) ?_
    walk_at "w";refine ze R4 (.tm (.list [.int m])) (.inr (.inl rfl)) λ own5 μ5 g5 e5 h5 j5 b5 R5=> ?_
    have p5:=p4.ext e5 rfl
    have hf5:own5 f= .nw (.dI false es'):=by rw [b5 f (λ z=>by rw [z,j5] at hf4;cases hf4)];exact hf4
    walk_at "w";refine toI (zn R5 p5 hc) ?_;walk_at "w";refine toI (zn R5 p5 hc) ?_;walk_at "w"
    exact go own5 μ5 g5 (e4.trans e5) hf5 R5 λ own6 μ6 e6 R6=>by rw [hc];exact R6.tm (e6.at h5 rfl)
  | a xs' =>
   rw [show (σ.lockedW.row b).c= .a xs' from hc] at hy
   walk_at "w";refine toI (zn R4 p4 hc) ?_;walk_at "w";refine toI (zn R4 p4 hc) ?_;walk_at "w";refine toI (zn R4 p4 hc) ?_;walk_at "w"
   obtain ⟨i,rfl,hi,_⟩:=R'.innA (x:=y) hc hy
   exact go own4 μ4 i e4 hf4 R4 λ own5 μ5 e5 R5=>by
    obtain ⟨i',q1,_,q2⟩:=R5.innA (x:= .obj i) (n:=b) (xs:=xs') hc ⟨i,rfl,e5.at (e4.at hi rfl) rfl⟩
    cases q1
    rw [q2,hc];rfl
  | h es =>
   rw [show (σ.lockedW.row b).c= .h es from hc] at hy
   walk_at "w";refine toI (zn R4 p4 hc) ?_;walk_at "w";refine toI (zn R4 p4 hc) ?_;walk_at "w";refine toI (zn R4 p4 hc) ?_;walk_at "w"
   obtain ⟨i,vs,rfl,hi,hv,e⟩:=R4.innH (x:=y) hc (at_.ext e4 rfl hy)
   have hgl:(goals (σ.row b).c).length < big:=by lia
   rw [hc] at hgl
   replace hgl:(es.map (·.2)).length < big:=hgl
   rw [List.length_map] at hgl
   walk_at "w";refine wi (λ _=>true) (λ p=>match getI p (.int 1) μ4 with | some (v,_)=>v | none=> .none) e (by rw [hv.len];lia) (λ p hp=>⟨rfl,λ _=> ?_⟩) ?_
   ·obtain ⟨e',_,he'⟩:=hv.left p hp
    obtain ⟨j,rfl,hj⟩:=he'
    have:=zJ (k:=1) (R4.im hj) rfl
    have this:getI (.obj j) (.int 1) μ4=some (.int e'.2,μ4):=this
    simp only [this]
    exact this
   ·rw [List.filter_eq_self.mpr (λ _ _=>rfl)]
    have hvals:vs.map (λ p=>match getI p (.int 1) μ4 with | some (v,_)=>v | none=> .none)=nums (es.map (·.2)):=by
     clear e hgl hc hy hi
     induction hv with
     | nil=>rfl
     | @cons p e' _ _ h _ ih =>
      obtain ⟨j,rfl,hj⟩:=h
      have:getI (.obj j) (.int 1) μ4=some (.int e'.2,μ4):=zJ (k:=1) (R4.im hj) rfl
      simp only [List.map_cons,this,ih,nums]
    rw [hvals]
    walk_at "w";refine ze R4 (.tm (.list (nums (es.map (·.2))))) (.inr (.inl rfl)) λ own5 μ5 g5 e5 h5 j5 b5 R5=> ?_
    have hf5:own5 f= .nw (.dI false es'):=by rw [b5 f (λ z=>by rw [z,j5] at hf4;cases hf4)];exact hf4
    walk_at "w"
    exact go own5 μ5 g5 (e4.trans e5) hf5 R5 λ own6 μ6 e6 R6=>by rw [hc];exact R6.tm (e6.at h5 rfl)
 ·obtain ⟨ds,ns,own',es',q1,q2,q3,q4,q5,q6,R'⟩:=h
  cases q2
  rw [List.append_nil] at q1
  subst q1
  walk_at "w"
  have R4:=R'.unlockW hlk (R'.sameW hw2 q3 rfl rfl)
  have R5:=R4.nwTo q4 (.inr (.inl rfl))
  walk_at "w";exact hq _ _ f es' (((e1.trans e2).trans q3).trans (Ext.up (by rw [q4];rfl))) zy q5 R5
end
noncomputable def S.wdying (σ:S):List Nat:=nsort (σ.wk.filter λ n=>decide (σ.deg n=0))
noncomputable def S.setRowV (σ:S) (r:Nat) (v:PV):S:=σ.setRow r {σ.row r with c:= .s v}
noncomputable def S.wmarked (σ:S) (n:Nat):S:= {σ.setRow n {σ.row n with ds:=true} with log:=σ.log ++ [n]}
noncomputable def S.wfinish (σ:S) (q n:Nat):S:=if (σ.row n).bl=true∧(σ.row n).ds=false∧σ.deg n=0 then
  if n % 3=q∧σ.roots≠[] then (σ.wmarked n).setRowV (σ.roots.getD (n % 4) 0) (.ref n) else σ.wmarked n
 else σ
noncomputable def zh (row:Nat→Row) (n:Nat) (ds:List Nat):Nat→Row:=λ m=>if m∈ds∧(row m).c= .s (.weak n) then {row m with c:= .s .none} else row m
noncomputable def S.clean (σ:S) (n:Nat) (ds:List Nat):S:= {σ with row:=zh σ.row n ds}
theorem gP {row:Nat→Row} {n:Nat}:zh row n []=row:=by funext m;exact rfl
theorem gQ {row:Nat→Row} {n b:Nat} {ds:List Nat} (z:(zh row n ds b).c= .s (.weak n)):zh row n (ds ++ [b])=λ m=>if m=b then {zh row n ds b with c:= .s .none} else zh row n ds m:=by
 have hnd: ¬ (b∈ds∧(row b).c= .s (.weak n)):=λ hh=>by
  unfold zh at z;rw [if_pos hh] at z;cases z
 have hb:zh row n ds b=row b:=by unfold zh;rw [if_neg hnd]
 rw [hb] at z
 funext m
 by_cases hm:m=b
 ·subst m
  rw [if_pos rfl,hb]
  unfold zh
  rw [if_pos ⟨List.mem_append_right _ (.head _),z⟩]
 ·rw [if_neg hm]
  unfold zh
  simp [hm]
theorem gb {row:Nat→Row} {n b:Nat} {ds:List Nat} (z: ¬ (zh row n ds b).c= .s (.weak n)):zh row n (ds ++ [b])=zh row n ds:=by
 funext m
 by_cases hm:m=b
 ·subst hm
  unfold zh at z ⊢
  by_cases hd:m∈ds
  ·simp [hd]
  ·rw [if_neg (λ h=>hd h.1)] at z
   rw [if_neg (λ h=>z h.2),if_neg (λ h=>z h.2)]
 ·unfold zh;simp [hm]
noncomputable def S.wpop (σ:S) (n:Nat):S:=({σ with wk:=σ.wk.erase n}:S).clean n (σ.wk.erase n)
noncomputable def S.wround1 (σ:S) (q:Nat):S:=σ.wdying.foldl (λ σ n=>σ.wfinish q n) σ
noncomputable def S.wdead (σ:S) (q:Nat):List Nat:=σ.wdying.filter λ n=>decide ((σ.wround1 q).deg n=0)
noncomputable def S.wround (σ:S) (q:Nat):S:=(σ.wdead q).foldl S.wpop (σ.wround1 q)
structure WOk (σ:S):Prop where
 lk:σ.lkW=false
 dl:σ.degLen < big
 wl:σ.wk.length < 64
structure WFinOk (σ:S) (n:Nat):Prop where
 ok:WOk σ
 mem:n∈σ.wk
 lb:σ.log.length < big
 ro:σ.roots≠[]→ ∃ r,σ.roots[n % 4]? =some r∧r∈σ.wk∧ ∃ v,(σ.row r).c= .s v
structure WRoundOk (σ:S) (q:Nat):Prop where
 ok:WOk σ
 f1: ∀ ds n ns,σ.wdying=ds ++ n :: ns→WFinOk (ds.foldl (λ σ n=>σ.wfinish q n) σ) n
 f2:WOk (σ.wround1 q)
 f3: ∀ ds n ns,σ.wdead q=ds ++ n :: ns→n∈(ds.foldl S.wpop (σ.wround1 q)).wk∧(ds.foldl S.wpop (σ.wround1 q)).lkW=false
inductive WSettles (q:Nat):Nat→S→S→Prop
 | stop {σ:S}:WOk σ→σ.wdying=[]→WSettles q 0 σ σ
 | step {σ σ':S} {k:Nat}:σ.wdying≠[]→WRoundOk σ q→WSettles q k (σ.wround q) σ'→WSettles q (k+1) σ σ'
section
variable {K:Ad} {own own':Own} {σ σ':S} {μ μ':Mem} {α:Type}
variable {Q:AV→Mem→Prop} {v c s:AV} {n k q:Nat}
theorem u6 (ns:List Nat):intsOf (nums ns)=some (ns.map λ n:Nat=>(n:Int)):=by
 induction ns with
 | nil=>rfl
 | cons n ns ih=>show (intsOf (nums ns)).map _=_;rw [ih];rfl
theorem uh {i:Nat} {ns:List Nat} (e:μ[i]? =some (.list (nums ns))) (hl:ns.length < 64):wp (vF (.obj i)) Q μ=wp (al (.list (nums (nsort ns)))) Q μ:=by
 unfold vF
 rw [zq];rw [zd (xG e)]
 rw [zq,u6,jK]
 simp only [List.length_map,hl,if_true,vU,List.map_map]
 rfl
theorem bQ (p:AV→Bool) (f:Nat→Bool) (h: ∀ n:Nat,p (.int n)=f n) (ns:List Nat):(nums ns).filter p=nums (ns.filter f):=by
 induction ns with
 | nil=>rfl
 | cons n ns ih =>
  simp only [nums,List.map_cons,List.filter_cons,h] at ih ⊢
  split <;> simp [ih]
theorem vA (ns:List Nat):(nums ns).map id=nums ns:=List.map_id _
theorem Xr (R:Rep K own σ μ) {m n:Nat} {x t:AV} (hx:RTail own m (σ.row m).c x) (ht:at_ own t (.im (tupO n true))):wp (eqM x t) Q μ=Q (.bool (decide ((σ.row m).c= .s (.weak n)))) μ:=by
 obtain ⟨j,rfl,hj⟩:=ht
 have hb:readD μ 3 (.obj j)=some (.node false [.str "weak", .int n]):=wE (n:=2) (R.im hj) (.cons yJ (.cons zT .nil))
 cases hc:(σ.row m).c with
 | s pv =>
  rw [hc] at hx
  cases pv with
  | none =>
   cases hx
   walk_at "w";rw [xm (x:= .none) vP hb (λ _ _ h=>by cases h)];exact rfl
  | int i =>
   cases hx
   walk_at "w";rw [xm (x:= .int i) zT hb (λ _ _ h=>by cases h)];exact rfl
  | ref k =>
   obtain ⟨i,rfl,e⟩:=VW.tup R (pv:= .ref k) hx rfl
   walk_at "w";rw [xm (wE (n:=2) (ds:=[.str "ref", .int k]) e (.cons yJ (.cons zT .nil))) hb (λ _ _ h=>by cases h)]
   exact rfl
  | weak k =>
   obtain ⟨i,rfl,e⟩:=VW.tup R (pv:= .weak k) hx rfl
   walk_at "w";rw [xm (wE (n:=2) (ds:=[.str "weak", .int k]) e (.cons yJ (.cons zT .nil))) hb (λ _ _ h=>by cases h)]
   by_cases z:k=n
   ·rw [z,D.same_refl,decide_eq_true rfl]
   ·have:((k:Int) == (n:Int))=false:=beq_eq_false_iff_ne.mpr ((by omega))
    show Q (.bool (false == false && ("weak" == "weak" && (((k:Int) == (n:Int)) && true)))) μ=_
    rw [this,decide_eq_false (λ h=>z (by cases h;rfl))];rfl
 | a xs =>
  rw [hc] at hx
  obtain ⟨i,rfl,_,e⟩:=R.innA hc hx
  walk_at "w";rw [xm (zF (n:=2) e (vQ xs)) hb (λ _ _ h=>by cases h)];exact rfl
 | h es =>
  rw [hc] at hx
  obtain ⟨i,vs,rfl,_,hv,e⟩:=R.innH hc hx
  have hl: ∃ ds,L2 (λ x d=>readD μ 2 x=some d) vs ds:=by
   clear hc hx e
   induction hv with
   | nil=>exact ⟨[], .nil⟩
   | @cons p e' _ _ h _ ih =>
    obtain ⟨ds,hds⟩:=ih
    obtain ⟨i',rfl,hi'⟩:=h
    exact ⟨.node true [.str e'.1, .int e'.2] :: ds, .cons (zF (n:=1) (R.im hi') (.cons yJ (.cons zT .nil))) hds⟩
  obtain ⟨ds,hds⟩:=hl
  walk_at "w";rw [xm (zF (n:=2) e hds) hb (λ _ _ h=>by cases h)];exact rfl
theorem Xs {n:Nat}:σ.clean n []=σ:=by unfold S.clean;rw [gP]
theorem gR {G:Unit→Cx0} {QF:Fl Unit→Mem→Prop} (R:Rep K own σ μ) (hlk:σ.lkW=false) (n:Nat) (hq: ∀ own' μ',Ext own own'→Rep K own' (σ.clean n σ.wk) μ'→QF (.nxt ()) μ') :
  wp (forV G (.obj K.world) () λ _ v_row =>
      bd (bd (bd (bd (rt v_row) λ a73=>bd (rt (.int 3)) λ a74=>getI a73 a74) λ a71=>bd (mkT [(rt (.str "weak")),(rt (.int (n:Int)))]) λ a72=>eqM a71 a72) tru) λ c66=>if c66 then
       bd (rt .none) λ x67=>bd (rt v_row) λ o68=>bd (rt (.int 3)) λ k69=>bd (setI o68 k69 x67) λ _ =>
       rt (.nxt ())
      else
       rt (.nxt ())) QF μ:=by
 obtain ⟨ws,hw1,hw2,R3⟩:=R.lockW hlk
 walk_at "w";refine Zx (λ xs _ μ'=> ∃ ds ns own',σ.wk=ds ++ ns∧L2 (λ v n=>at_ own' v (.row n)) xs ns∧Ext own own'∧Rep K own' (σ.clean n ds).lockedW μ')
  hw1 kw rfl ⟨[],σ.wk,own,rfl,L2.vals (R:=λ v n=>at_ own v (.row n)) hw2,Ext.refl,by rw [Xs];exact R3⟩ (λ xs _ μ' h=> ?_) (λ x xs _ μ' h=> ?_) (λ _ μ' h=> ?_)
 ·obtain ⟨ds,ns,own',q1,q2,q3,R'⟩:=h
  exact R'.sameW hw2 q3 rfl rfl
 ·obtain ⟨ds,ns,own',q1,q2,q3,R'⟩:=h
  cases q2 with
  | @cons _ b _ bs p1 p2 =>
  walk_at "w";refine zw R' p1 λ y hy=> ?_
  walk_at "w";refine ze R' (.im (tupO n true)) (.inl rfl) λ own4 μ4 t e4 h4 j4 b4 R4=> ?_
  have hy4:RTail own4 b (((σ.clean n ds).lockedW).row b).c y:=by
   revert hy
   cases (((σ.clean n ds).lockedW).row b).c with
   | s pv=>exact λ h=>VW.ext h e4
   | a xs=>exact λ h=>at_.ext e4 rfl h
   | h es=>exact λ h=>at_.ext e4 rfl h
  walk_at "w";refine toI (Xr R4 hy4 ⟨t,rfl,h4⟩) ?_
  walk_at "w"
  have done: ∀ own5 μ5,Ext own4 own5→Rep K own5 (σ.clean n (ds ++ [b])).lockedW μ5→ ∃ ds ns own',σ.wk=ds ++ ns∧L2 (λ v n=>at_ own' v (.row n)) xs ns∧Ext own own'∧Rep K own' (σ.clean n ds).lockedW μ5:=λ own5 μ5 e5 R5 =>
   ⟨ds ++ [b],bs,own5,by rw [q1];simp,p2.imp λ v n h=>(h.ext e4 rfl).ext e5 rfl,(q3.trans e4).trans e5,R5⟩
  by_cases z:((σ.clean n ds).row b).c= .s (.weak n)
  ·have z':(((σ.clean n ds).lockedW).row b).c= .s (.weak n):=z
   refine iA (decide_eq_true z) ?_;walk_at "w"
   walk_at "w";refine yR (pv:= .none) R4 (p1.ext e4 rfl) z' rfl λ μ5 R5=> ?_
   walk_at "w"
   refine done own4 μ5 Ext.refl ?_
   have:(σ.clean n (ds ++ [b])).lockedW=(σ.clean n ds).lockedW.setRow b {(σ.clean n ds).lockedW.row b with c:= .s .none}:=by
    show ({σ with row:=zh σ.row n (ds ++ [b]),lkW:=true}:S)= {σ with row:=λ m=>if m=b then {zh σ.row n ds b with c:= .s .none} else zh σ.row n ds m,lkW:=true}
    rw [gQ z]
   rw [this];exact R5
  ·have z': ¬ (((σ.clean n ds).lockedW).row b).c= .s (.weak n):=z
   refine iE (decide_eq_false z) ?_;walk_at "w"
   walk_at "w"
   refine done own4 μ4 Ext.refl ?_
   have:σ.clean n (ds ++ [b])=σ.clean n ds:=by
    unfold S.clean
    rw [gb z]
   rw [this];exact R4
 ·obtain ⟨ds,ns,own',q1,q2,q3,R'⟩:=h
  cases q2
  rw [List.append_nil] at q1
  rw [← q1] at R'
  walk_at "w";exact hq own' _ q3 (R'.unlockW hlk (R'.sameW hw2 q3 rfl rfl))
end
section
variable {K:Ad} {own own':Own} {σ σ':S} {μ μ':Mem} {α:Type}
variable {Q:AV→Mem→Prop} {v c s:AV} {n k q:Nat}
theorem qE {d:Nat} {lk:Bool} {es:List (Int × AV)} {f:Nat→Nat} (e:μ[d]? =some (.dI lk es)) (h:DegD f es):(bd (bd (bd (rt (.obj d)) λ o7=>bd (chkD o7) λ _=>bd (rt (.int (n:Int))) λ a8=>bd (rt (.int 0)) λ a9=>dget2 o7 a8 a9) λ a5=>bd (rt (.int 0)) λ a6=>eqM a5 a6) tru) μ=some (decide (f n=0),μ):=by
 walk_at "w";refine ut (P:=λ _=>True) ?_
 walk_at "w";refine toI (vV e) ?_
 walk_at "w";refine toI (vi e h) ?_
 walk_at "w"
 refine ⟨?_,rfl⟩
 by_cases z:f n=0
 ·simp [z]
 ·have: ¬ (f n:Int)=0:=by lia
  simp [z,this]
noncomputable def uR (f:Nat→Nat):AV→Bool:=λ x=>match x with | .int i=>decide (f i.toNat=0) | _=>false
theorem wV (f:Nat→Nat) (ns:List Nat):(nums ns).filter (uR f)=nums (ns.filter λ n=>decide (f n=0)):=bQ _ _ (λ n=>rfl) ns
theorem vB {lk:Bool} {ws:List (Int × AV)} {ns:List Nat} (h:ws.map (·.1)=ns.map λ n:Nat=>(n:Int)):keysOf (.dI lk ws)=some (nums ns):=by
 have:ws.map (λ e=>AV.int e.1)=nums ns:=by
  have:=congrArg (List.map AV.int) h
  simpa [nums,List.map_map,Function.comp_def] using this
 show some (ws.map λ e=>AV.int e.1)=_;rw [this]
theorem VM {τ:S} {b:Nat} {P:Fl Unit→Mem→Prop} (R':Rep K own' τ μ) (fo:WFinOk τ b) (next: ∀ own5 μ5,Ext own' own5→Rep K own5 (τ.wfinish q b) μ5→P (.nxt ()) μ5):wp (US (.obj K.world) (.obj K.roots) (.obj K.log) (.int (q:Int)) (.int (b:Int))) P μ:=by
 walk_at "w";refine zj R' fo.mem λ r hr=> ?_
 walk_at "w";refine toI (VE R' hr) ?_
 unfold S.wfinish at next
 cases hbl:(τ.row b).bl with
 | false =>
  walk_at "w"
  rw [if_neg (λ z=>by rw [hbl] at z;cases z.1)] at next
  walk_at "w";exact next own' _ Ext.refl R'
 | true =>
  walk_at "w";refine toI (ZA R' hr) ?_
  cases hds:(τ.row b).ds with
  | true =>
   walk_at "w"
   rw [if_neg (λ z=>by rw [hds] at z;cases z.2.1)] at next
   walk_at "w";exact next own' _ Ext.refl R'
  | false =>
   walk_at "w"
   have bl':τ.wk.length≤big:=by have:=fo.ok.wl;unfold big;lia
   walk_at "w";refine wa R' fo.ok.lk fo.ok.dl bl' λ own5 μ5 d5 es5 e5 h5 dd5 R5=> ?_
   walk_at "w";refine toI (vV (R5.tm h5)) ?_
   walk_at "w";refine toI (vi (R5.tm h5) dd5) ?_
   walk_at "w"
   by_cases hdeg:τ.deg b=0
   ·have hdi:(τ.deg b:Int)=0:=by lia
    walk_at "w";simp only [hdi];walk_at "w"
    rw [if_pos ⟨hbl,hds,hdeg⟩] at next
    walk_at "w";refine Yr R5 (hr.ext e5 rfl) λ μ6 R6=> ?_
    walk_at "w";refine toI (Wq R6) ?_
    walk_at "w";refine Xi R6 fo.lb λ μ7 R7=> ?_
    have R7:Rep K own5 (τ.wmarked b) μ7:=R7
    by_cases hq3:b % 3=q
    ·have:((b % 3:Nat):Int)=(q:Int):=by lia
     walk_at "w";simp only [this];walk_at "w"
     walk_at "w";refine ze R7 (.tm (.list [])) (.inr (.inl rfl)) λ own8 μ8 a8 e8 h8 j8 b8 R8=> ?_
     walk_at "w";refine toI (yx R8.roots (ys:=[]) (R8.tm h8)) ?_
     by_cases hro:τ.roots=[]
     ·have:(τ.wmarked b).roots=[]:=hro
      walk_at "w";simp only [this];walk_at "w"
      rw [if_neg (λ z=>z.2 hro)] at next
      walk_at "w";exact next own8 _ (e5.trans e8) R8
     ·have: ¬ (τ.wmarked b).roots=[]:=hro
      walk_at "w";simp only [this];walk_at "w"
      rw [if_pos ⟨hq3,hro⟩] at next
      obtain ⟨r',hr1,hr2,hr3⟩:=fo.ro hro
      walk_at "w";refine xl (b:=false) R8 λ own9 μ9 y e9 hy R9=> ?_
      walk_at "w";refine toI (wL R9 (m:=r') hr1) ?_
      walk_at "w";refine zj R9 hr2 λ w hw=> ?_
      obtain ⟨v0,hv0⟩:=hr3
      have hsc:((τ.wmarked b).row r').c= .s v0:=by
       show ((τ.setRow b {τ.row b with ds:=true}).row r').c= .s v0
       by_cases z:r'=b
       ·subst z;rw [zr];exact hv0
       ·rw [vg z];exact hv0
      walk_at "w";refine yR (pv:= .ref b) R9 hw hsc hy λ μ10 R10=> ?_
      walk_at "w";refine next own9 _ ((e5.trans e8).trans e9) ?_
      have:τ.roots.getD (b % 4) 0=r':=by rw [List.getD_eq_getElem?_getD,hr1];rfl
      rw [this];exact R10
    ·have: ¬ ((b % 3:Nat):Int)=(q:Int):=by lia
     walk_at "w";simp only [this];walk_at "w"
     rw [if_neg (λ z=>hq3 z.1)] at next
     walk_at "w";exact next own5 _ e5 R7
   ·have hdi: ¬ (τ.deg b:Int)=0:=by lia
    walk_at "w";simp only [hdi];walk_at "w"
    rw [if_neg (λ z=>hdeg z.2.2)] at next
    walk_at "w";exact next own5 _ e5 R5
theorem WA {τ:S} {all:List Nat} {i:Nat} {d e:AV} {G:Unit→Cx0} {P:Fl Unit→Mem→Prop} (R:Rep K own τ μ) (hi:own i= .tm (.list (nums all))) (ok: ∀ ds n ns,all=ds ++ n :: ns→n∈(ds.foldl S.wpop τ).wk∧(ds.foldl S.wpop τ).lkW=false) (hq: ∀ own' μ',Ext own own'→Rep K own' (all.foldl S.wpop τ) μ'→P (.nxt ()) μ') :
  wp (forL G (.obj i) () λ _ v=>UT (.obj K.world) (.obj K.roots) (.obj K.log) (.int (q:Int)) d e v) P μ:=by
 refine ZD (τ:=λ ds=>ds.foldl S.wpop τ) R hi (λ ds b bs own7 μ7 P' q4 q6 R7 hP=> ?_) hq
 obtain ⟨hm,hlk⟩:=ok _ _ _ q4
 simp only [bd_,wJ,zA,uM]
 walk_at "w";refine toI (Wo R7) ?_
 walk_at "w";refine bI R7 hlk hm λ _ μ8 R8=> ?_
 walk_at "w";refine gR R8 hlk b λ own9 μ9 e9 R9=> ?_
 walk_at "w";exact hP own9 μ9 e9 (by rw [List.foldl_append];exact R9)
theorem jV {j:Nat} (st:WSettles q j σ σ') (hj:j < 1000) (R:Rep K own σ μ) (hq: ∀ own' μ',Ext own own'→Rep K own' σ' μ'→Q .none μ'):wp (yd (.obj K.world) (.obj K.roots) (.obj K.log) (.int (q:Int))) Q μ:=by
 unfold yd xf
 rw [uk,uM]
 walk_at "w";refine wp_mono (Q:=λ f μ'=>f= .ret .none∧ ∃ own',Ext own own'∧Rep K own' σ' μ') ?_ λ f μ' h=>by
  obtain ⟨rfl,own',e,R'⟩:=h
  walk_at "w";exact hq own' μ' e R'
 clear hq
 generalize (1000:Nat)=fuel at hj
 induction st generalizing fuel own μ with
 | @stop σ ok hz =>
  obtain ⟨fuel,rfl⟩: ∃ f,fuel=f+1:=⟨fuel - 1,by lia⟩
  show wp (bd _ _) _ _
  walk_at "w"
  have bl:σ.wk.length≤big:=by have:=ok.wl;unfold big;lia
  walk_at "w";refine wa R ok.lk ok.dl bl λ own1 μ1 d es e1 h1 d1 R1=> ?_
  obtain ⟨ws,hw1,hw2,R3⟩:=R1.lockW ok.lk
  walk_at "w";refine uw (uR σ.deg) id hw1 (vB (keysL2 (R:=λ v n=>at_ own1 v (.row n)) hw2)) rfl (by simpa [nums] using bl) (λ x hx=> ?_) ?_
  ·obtain ⟨n,hn,rfl⟩:=List.mem_map.mp hx
   exact ⟨qE (R3.tm h1) d1,λ _=>rfl⟩
  rw [wV,vA]
  walk_at "w";refine ze R1 (.tm (.list (nums (σ.wk.filter λ n=>decide (σ.deg n=0))))) (.inr (.inl rfl)) λ own2 μ2 a2 e2 h2 j2 b2 R2=> ?_
  walk_at "w";refine toI (uh (R2.tm h2) (Nat.lt_of_le_of_lt (List.length_filter_le _ _) ok.wl)) ?_
  walk_at "w";refine ze R2 (.tm (.list (nums σ.wdying))) (.inr (.inl rfl)) λ own3 μ3 a3 e3 h3 j3 b3 R4=> ?_
  walk_at "w";refine ze R4 (.tm (.list [])) (.inr (.inl rfl)) λ own4 μ4 a4 e4 h4 j4 b4 R5=> ?_
  walk_at "w";refine toI (yx (R5.tm (e4.at h3 rfl)) (ys:=[]) (R5.tm h4)) ?_;rw [hz]
  walk_at "w"
  exact ⟨rfl,own4,((e1.trans e2).trans e3).trans e4,R5⟩
 | @step σ σ' k hz ok _ ih =>
  obtain ⟨fuel,rfl⟩: ∃ f,fuel=f+1:=⟨fuel - 1,by lia⟩
  show wp (bd _ _) _ _
  walk_at "w"
  have bl:σ.wk.length≤big:=by have:=ok.ok.wl;unfold big;lia
  walk_at "w";refine wa R ok.ok.lk ok.ok.dl bl λ own1 μ1 d es e1 h1 d1 R1=> ?_
  obtain ⟨ws,hw1,hw2,R3⟩:=R1.lockW ok.ok.lk
  walk_at "w";refine uw (uR σ.deg) id hw1 (vB (keysL2 (R:=λ v n=>at_ own1 v (.row n)) hw2)) rfl (by simpa [nums] using bl) (λ x hx=> ?_) ?_
  ·obtain ⟨n,hn,rfl⟩:=List.mem_map.mp hx
   exact ⟨qE (R3.tm h1) d1,λ _=>rfl⟩
  rw [wV,vA]
  walk_at "w";refine ze R1 (.tm (.list (nums (σ.wk.filter λ n=>decide (σ.deg n=0))))) (.inr (.inl rfl)) λ own2 μ2 a2 e2 h2 j2 b2 R2=> ?_
  walk_at "w";refine toI (uh (R2.tm h2) (Nat.lt_of_le_of_lt (List.length_filter_le _ _) ok.ok.wl)) ?_
  walk_at "w";refine ze R2 (.tm (.list (nums σ.wdying))) (.inr (.inl rfl)) λ own3 μ3 a3 e3 h3 j3 b3 R4=> ?_
  walk_at "w";refine ze R4 (.tm (.list [])) (.inr (.inl rfl)) λ own4 μ4 a4 e4 h4 j4 b4 R5=> ?_
  walk_at "w";refine toI (yx (R5.tm (e4.at h3 rfl)) (ys:=[]) (R5.tm h4)) ?_
  simp only [hz]
  walk_at "w"
  have h34:own4 a3= .tm (.list (nums σ.wdying)):=e4.at h3 rfl
  have e04:=((e1.trans e2).trans e3).trans e4
  walk_at "w";refine ZD (τ:=λ ds=>ds.foldl (λ σ n=>σ.wfinish q n) σ) R5 h34 (λ ds b bs own' μ' P' q1 q3 R' hP=>VM R' (ok.f1 _ _ _ q1) λ own5 μ5 e5 R5=>hP own5 μ5 e5 (by rw [List.foldl_append];exact R5)) λ own' μ' q3 R'=> ?_
  have R':Rep K own' (σ.wround1 q) μ':=R'
  walk_at "w"
  have bl1:(σ.wround1 q).wk.length≤big:=by have:=ok.f2.wl;unfold big;lia
  walk_at "w";refine wa R' ok.f2.lk ok.f2.dl bl1 λ own5 μ5 d5 es5 e5 h5 dd5 R5=> ?_
  have hl5:own5 a3= .tm (.list (nums σ.wdying)):=e5.at (q3.at h34 rfl) rfl
  walk_at "w";refine wi (uR (σ.wround1 q).deg) id (R5.tm hl5) (by simp only [nums,List.length_map,S.wdying,uy];exact Nat.le_trans (List.length_filter_le _ _) bl) (λ x hx=> ?_) ?_
  ·obtain ⟨n,hn,rfl⟩:=List.mem_map.mp hx
   exact ⟨qE (R5.tm h5) dd5,λ _=>rfl⟩
  rw [wV,vA]
  walk_at "w";refine ze R5 (.tm (.list (nums (σ.wdead q)))) (.inr (.inl rfl)) λ own6 μ6 a6 e6 h6 j6 b6 R6=> ?_
  walk_at "w";refine WA R6 h6 ok.f3 λ own7 μ7 q6 R7=> ?_
  have R7:Rep K own7 (σ.wround q) _:=R7
  walk_at "w";refine wp_mono (ih R7 fuel (by lia)) λ f μ' h=> ?_
  obtain ⟨rfl,own8,e8,R8⟩:=h
  exact ⟨rfl,own8,((e04.trans q3).trans (e5.trans e6)).trans (q6.trans e8),R8⟩
end
section
variable {K:Ad} {own own':Own} {σ σ':S} {μ μ':Mem} {α:Type}
variable {Q:AV→Mem→Prop} {v c s x:AV} {n k q:Nat}
theorem kx (R:Rep K own σ μ) {pv:PV} (h:VW own pv x) (hq: ∀ own' μ' y,Ext own own'→VW own' pv.strong y→Rep K own' σ μ'→Q y μ'):wp (yl x) Q μ:=by
 unfold yl xz
 walk_at "w";refine toI (wj R h) ?_
 cases pv with
 | none=>walk_at "w";exact hq own μ x Ext.refl h R
 | int i=>walk_at "w";exact hq own μ x Ext.refl h R
 | ref m=>walk_at "w";refine toI (zS R h rfl) ?_;walk_at "w";refine xl (b:=false) R λ own' μ' y e hy R'=> ?_;walk_at "w";exact hq own' μ' y e hy R'
 | weak m=>walk_at "w";refine toI (zS R h rfl) ?_;walk_at "w";refine xl (b:=false) R λ own' μ' y e hy R'=> ?_;walk_at "w";exact hq own' μ' y e hy R'
theorem bR (R:Rep K own σ μ) {pv:PV} (h:VT own pv x) (hq: ∀ own' μ' y,Ext own own'→VW own' pv y→Rep K own' σ μ'→Q y μ'):wp (y7 x) Q μ:=by
 unfold y7 xK
 walk_at "w";refine toI (vM R h) ?_
 cases pv with
 | none=>walk_at "w";exact hq own μ x Ext.refl h R
 | int i=>walk_at "w";exact hq own μ x Ext.refl h R
 | ref m =>
  walk_at "w"
  walk_at "w";refine toI (yI R h rfl) ?_
  walk_at "w"
  walk_at "w";refine yw R h rfl λ t ht=> ?_
  walk_at "w";refine toI (zp R ht) ?_
  walk_at "w";refine xl (b:=false) R λ own' μ' y e hy R'=> ?_
  walk_at "w";exact hq own' μ' y e hy R'
 | weak m =>
  walk_at "w"
  walk_at "w";refine toI (yI R h rfl) ?_
  walk_at "w"
  walk_at "w";refine yw R h rfl λ t ht=> ?_
  walk_at "w";refine toI (zp R ht) ?_
  walk_at "w";refine xl (b:=true) R λ own' μ' y e hy R'=> ?_
  walk_at "w";exact hq own' μ' y e hy R'
theorem VW.deep (R:Rep K own σ μ) {pv:PV} (h:VW own pv x):(∃ d,readD μ 3 x=some d∧ ∀ y,VW own pv y→readD μ 3 y=some d)∧ ∀ b,x≠ .bool b:=by
 cases pv with
 | none=>cases h;exact ⟨⟨_,vP,λ y hy=>by cases hy;exact vP⟩,nofun⟩
 | int i=>cases h;exact ⟨⟨_,zT,λ y hy=>by cases hy;exact zT⟩,nofun⟩
 | ref m =>
  have key: ∀ y,VW own (.ref m) y→readD μ 3 y=some (.node false [.str "ref", .int m]):=λ y hy=>by
   obtain ⟨i,rfl,e⟩:=VW.tup R hy rfl
   exact wE (n:=2) e (.cons yJ (.cons zT .nil))
  exact ⟨⟨_,key x h,key⟩,by obtain ⟨i,rfl,_⟩:=h;nofun⟩
 | weak m =>
  have key: ∀ y,VW own (.weak m) y→readD μ 3 y=some (.node false [.str "weak", .int m]):=λ y hy=>by
   obtain ⟨i,rfl,e⟩:=VW.tup R hy rfl
   exact wE (n:=2) e (.cons yJ (.cons zT .nil))
  exact ⟨⟨_,key x h,key⟩,by obtain ⟨i,rfl,_⟩:=h;nofun⟩
theorem VN (R:Rep K own σ μ) {pv:PV} {y:AV} (h:VW own pv x) (h':VW own pv y):wp (eqM x y) Q μ=Q (.bool true) μ:=by
 obtain ⟨⟨d,e1,e2⟩,hn⟩:=VW.deep R h
 walk_at "w";rw [xm e1 (e2 y h') (λ i j h _=>hn i h),D.same_refl]
noncomputable def LS (σ:S) (n:Nat):Prop:=n∈σ.wk∧ ∃ v,(σ.row n).c= .s v
noncomputable def Closed (σ:S):Prop:= ∀ n v m,n∈σ.wk→(σ.row n).c= .s v→v.tgt=some m→m∈σ.wk∧ ∀ x∈zi (σ.row m).c,LS σ x
theorem YD {i:Nat} {ns:List Nat} (e:μ[i]? =some (.list (nums ns))):wp (lenM (.obj i)) Q μ=Q (.int ns.length) μ:=zd (by simp [lenM,bd,xG e,rt,nums])
theorem YE {i:Nat} {vs:List AV} (e:μ[i]? =some (.list vs)):wp (lenM (.obj i)) Q μ=Q (.int vs.length) μ:=zd (by simp [lenM,bd,xG e,rt])
theorem vW {pv:PV} (h:pv.isRef=true): ∃ m,pv.tgt=some m:=by cases pv <;> first | exact ⟨_,rfl⟩ | cases h
theorem gS (R:Rep K own σ μ) (hcl:Closed σ) (hn:LS σ n) (hq: ∀ own' μ' m,Ext own own'→LS σ m→Rep K own' σ μ'→Q (.int m) μ'):wp (yA (.obj K.world) (.int (n:Int)) (.int (k:Int))) Q μ:=by
 unfold yA xL
 walk_at "w";refine Zy (n:=k % 3) (λ _ r μ'=> ∃ m own',r= .int (m:Nat)∧LS σ m∧Ext own own'∧Rep K own' σ μ') (by lia) ⟨n,own,rfl,hn,Ext.refl,R⟩ (λ j r μ' hj h=> ?_) (λ r μ' h=> ?_)
 ·obtain ⟨m,own',rfl,hm,e',R'⟩:=h
  walk_at "w";refine zj R' hm.1 λ w hw=> ?_
  walk_at "w";refine zw R' hw λ y hy=> ?_
  obtain ⟨pv,hpv⟩:=hm.2
  rw [hpv] at hy
  walk_at "w";refine toI (wj R' (pv:=pv) hy) ?_
  cases hr:pv.isRef with
  | false=>walk_at "w";exact ⟨m,own',rfl,hm,e',R'⟩
  | true =>
   obtain ⟨t,ht⟩:=vW hr
   obtain ⟨h1,h2⟩:=hcl m pv t hm.1 hpv ht
   walk_at "w";refine toI (zS R' (pv:=pv) hy ht) ?_
   walk_at "w";refine zj R' h1 λ g hg=> ?_
   cases hc:(σ.row t).c with
   | s v =>
    walk_at "w";refine toI (zn R' hg hc) ?_;walk_at "w"
    walk_at "w";refine toI (zS R' (pv:=pv) hy ht) ?_
    walk_at "w";exact ⟨t,own',rfl,⟨h1,v,hc⟩,e',R'⟩
   | a xs =>
    rw [hc] at h2
    walk_at "w";refine toI (zn R' hg hc) ?_;walk_at "w"
    walk_at "w";refine zw R' hg λ z hz=> ?_
    rw [hc] at hz
    walk_at "w";refine ze R' (.tm (.list [])) (.inr (.inl rfl)) λ own2 μ2 a2 e2 h2' j2 b2 R2=> ?_
    obtain ⟨i,rfl,hi,e⟩:=R2.innA (x:=z) hc (at_.ext e2 rfl hz)
    walk_at "w";refine toI (yx e (ys:=[]) (R2.tm h2')) ?_
    by_cases hx:xs=[]
    ·simp only [hx];walk_at "w";exact ⟨m,own2,rfl,hm,e'.trans e2,R2⟩
    ·simp only [hx];walk_at "w"
     walk_at "w";refine zw R2 (hg.ext e2 rfl) λ z' hz'=> ?_
     rw [hc] at hz'
     obtain rfl:=at_.eq R2 hz' (⟨i,rfl,hi⟩:at_ own2 (.obj i) (.inn t)) rfl
     walk_at "w";refine zw R2 (hg.ext e2 rfl) λ z'' hz''=> ?_
     rw [hc] at hz''
     obtain rfl:=at_.eq R2 hz'' (⟨i,rfl,hi⟩:at_ own2 (.obj i) (.inn t)) rfl
     walk_at "w";refine toI (YD e) ?_
     have hpos:0 < xs.length:=List.length_pos_iff.mpr hx
     walk_at "w";refine toI (gB hpos) ?_
     have hlt:=Nat.mod_lt k hpos
     walk_at "w";refine zf (zJ (x:= .int (xs[k % xs.length]:Nat)) e (by simp [nums,hlt])) ?_
     walk_at "w";refine toI (zn R2 (hg.ext e2 rfl) hc) ?_;walk_at "w"
     walk_at "w";exact ⟨xs[k % xs.length],own2,rfl,h2 _ (List.getElem_mem hlt),e'.trans e2,R2⟩
   | h es =>
    rw [hc] at h2
    walk_at "w";refine toI (zn R' hg hc) ?_;walk_at "w"
    walk_at "w";refine zw R' hg λ z hz=> ?_
    rw [hc] at hz
    walk_at "w";refine ze R' (.tm (.list [])) (.inr (.inl rfl)) λ own2 μ2 a2 e2 h2' j2 b2 R2=> ?_
    obtain ⟨i,vs,rfl,hi,hv,e⟩:=R2.innH (x:=z) hc (at_.ext e2 rfl hz)
    have hds: ∃ ds,L2 (λ x d=>readD μ2 2 x=some d) vs ds:=by
     clear e hi hc h2 hz
     induction hv with
     | nil=>exact ⟨[], .nil⟩
     | @cons p e' _ _ h _ ih =>
      obtain ⟨ds,hds⟩:=ih
      obtain ⟨i',rfl,hi'⟩:=h
      exact ⟨.node true [.str e'.1, .int e'.2] :: ds, .cons (zF (n:=1) (R2.im hi') (.cons yJ (.cons zT .nil))) hds⟩
    obtain ⟨ds,hds⟩:=hds
    walk_at "w";refine toI (xm (zF (n:=2) e hds) (zF (n:=2) (ds:=[]) (R2.tm h2') .nil) (λ _ _ h=>by cases h)) ?_
    cases hv with
    | nil =>
     cases hds
     walk_at "w";exact ⟨m,own2,rfl,hm,e'.trans e2,R2⟩
    | @cons p0 e0 ps es' hp0 hps =>
     cases hds with
     | cons d1 d2 =>
     walk_at "w";refine zw R2 (hg.ext e2 rfl) λ z' hz'=> ?_
     rw [hc] at hz'
     obtain rfl:=at_.eq R2 hz' (⟨i,rfl,hi⟩:at_ own2 (.obj i) (.inn t)) rfl
     walk_at "w";refine zw R2 (hg.ext e2 rfl) λ z'' hz''=> ?_
     rw [hc] at hz''
     obtain rfl:=at_.eq R2 hz'' (⟨i,rfl,hi⟩:at_ own2 (.obj i) (.inn t)) rfl
     walk_at "w";refine toI (YE e) ?_
     have hpos:0 < (p0 :: ps).length:=Nat.succ_pos _
     walk_at "w";refine toI (gB hpos) ?_
     have hlt:=Nat.mod_lt k hpos
     have hall:L2 (λ v e=>at_ own2 v (.im (pairO e))) (p0 :: ps) (e0 :: es'):= .cons hp0 hps
     have hlt':k % (p0 :: ps).length < (e0 :: es').length:=by rw [← hall.len];exact hlt
     obtain ⟨p,hp,hpe⟩:=hall.at_ (List.getElem?_eq_getElem hlt')
     walk_at "w";refine zf (zJ (x:=p) e hp) ?_
     walk_at "w";refine toI (zn R2 (hg.ext e2 rfl) hc) ?_;walk_at "w"
     walk_at "w";refine toI (gF R2 hpe) ?_
     walk_at "w";exact ⟨_,own2,rfl,h2 _ (List.mem_map_of_mem (f:=(·.2)) (List.getElem_mem hlt')),e'.trans e2,R2⟩
 ·obtain ⟨m,own',rfl,hm,e',R'⟩:=h
  walk_at "w";exact hq own' μ' m e' hm R'
end
section
variable {K:Ad} {own own':Own} {σ σ':S} {μ μ':Mem} {α:Type}
variable {Q:AV→Mem→Prop} {v c s x:AV} {n k q:Nat}
abbrev S.lockedR (σ:S):S:= {σ with lkR:=true}
theorem Rep.lockR (R:Rep K own σ μ) (h:σ.lkR=false): ∃ es,μ[K.real]? =some (.dI false es)∧L2 (λ e (n:Nat)=>e.1=(n:Int)∧at_ own e.2 (.thing n)) es σ.real∧Rep K own σ.lockedR (μ.set K.real (.dI true es)):=by
 obtain ⟨es,e,d⟩:=R.real
 rw [h] at e
 exact ⟨es,e,d,R.set (σ':=σ.lockedR) R.kR rfl ⟨Nat.le_refl _,Nat.le_refl _⟩ ⟨es,rfl,d⟩ Desc.dReal⟩
theorem Rep.unlockR {es:List (Int × AV)} (R:Rep K own σ.lockedR μ) (h:σ.lkR=false) (e:μ[K.real]? =some (.dI true es)):Rep K own σ (μ.set K.real (.dI false es)):=by
 obtain ⟨es',e',d⟩:=R.real
 rw [e] at e'
 cases e'
 exact R.set (σ':=σ) R.kR rfl ⟨Nat.le_refl _,Nat.le_refl _⟩ ⟨es,by rw [h],d⟩ Desc.dReal
theorem Rep.sameR {es:List (Int × AV)} {ns:List Nat} (hes:L2 (λ e (n:Nat)=>e.1=(n:Int)∧at_ own e.2 (.thing n)) es ns) (ext:Ext own own') (R:Rep K own' σ' μ) (h1:σ'.lkR=true) (h2:σ'.real=ns):μ[K.real]? =some (.dI true es):=by
 obtain ⟨es',e',d⟩:=R.real
 rw [h1] at e'
 rw [h2] at d
 rw [e',L2.keysEq (R:=λ v n=>at_ own' v (.thing n)) (λ v w n a b=>at_.eq R a b rfl) d (hes.imp λ e n h=>⟨h.1,h.2.th ext⟩)]
structure SameOk (σ:S):Prop where
 lw:σ.lkW=false
 lr:σ.lkR=false
 lt: ∀ n,σ.lkT n=false
 dl:σ.degLen < big
 wl:σ.wk.length≤big
 fr: ∀ n∈σ.real,(σ.th n).fr=decide (n∉σ.wk)
 cc: ∀ n∈σ.wk,(σ.th n).c=(σ.row n).c
 ct: ∀ n∈σ.wk,(σ.th n).cnt=σ.deg n
 ds: ∀ n∈σ.wk,(σ.th n).ds=(σ.row n).ds
 ml: ∀ n∈σ.wk,(zi (σ.th n).c).length≤big
 ko: ∀ n∈σ.wk,KeysOk (σ.th n).c
theorem L2.strKeys {R:AV→Nat→Prop} {ls:List (String × AV)} {es:List (String × Nat)} (h:L2 (λ l e=>l.1=e.1∧R l.2 e.2) ls es):ls.map (λ e=>AV.str e.1)=es.map λ e=>AV.str e.1:=by
 induction h with
 | nil=>rfl
 | cons h _ ih=>simp only [List.map_cons,h.1,ih]
theorem L2.tabEq {R:AV→Nat→Prop} (hR: ∀ v w n,R v n→R w n→v=w) {ls ls':List (String × AV)} {es:List (String × Nat)} (h:L2 (λ l e=>l.1=e.1∧R l.2 e.2) ls es) (h':L2 (λ l e=>l.1=e.1∧R l.2 e.2) ls' es):ls=ls':=by
 induction h generalizing ls' with
 | nil=>cases h';rfl
 | @cons a b _ _ h _ ih =>
  cases h' with
  | @cons a' _ _ _ h1 h2 =>
   rw [ih h2]
   have:a=a':=Prod.ext (by rw [h.1,h1.1]) (hR _ _ _ h.2 h1.2)
   rw [this]
theorem Rep.unlockT {es:List (String × Nat)} {i:Nat} {ls:List (String × AV)} (hc:(σ.th n).c= .h es) (hlk:σ.lkT n=false) (R:Rep K own {σ with lkT:=λ m=>if m=n then true else σ.lkT m} μ) (hi:own i= .cont n) (hls:L2 (λ l e=>l.1=e.1∧at_ own l.2 (.thing e.2)) ls es):Rep K own σ (μ.set i (.dS false ls)):=by
 refine R.set (σ':=σ) hi rfl ⟨Nat.le_refl _,Nat.le_refl _⟩ ?_ λ r hr o d=> ?_
 ·unfold Desc;dsimp only;exact hc ▸ (⟨ls,by rw [hlk],hls⟩)
 ·cases r with
  | cont m =>
   have:m≠n:=λ q=>hr (by rw [q])
   unfold Desc at d ⊢
   dsimp only at d ⊢
   simp only [this,if_false] at d
   exact d
  | _=>exact d
theorem WB (R:Rep K own σ μ) {w t:AV} {es:List (String × Nat)} (hv:at_ own w (.thing n)) (hc:(σ.th n).c= .h es) (hlk:σ.lkT n=false) (hk:KeysOk (.h es)) (hl:es.length≤big)
  (ht:at_ own t (.cont n)) (hq: ∀ own' μ' a vs,Ext own own'→L2 (λ v e=>at_ own' v (.im (pairO e))) vs es→own' a= .tm (.list vs)→Rep K own' σ μ'→Q (.obj a) μ') :
  wp (comp (λ v_key=>[none,some v_key,some w]) t (λ v_key=>rt true) λ v_key=>mkL [(rt v_key),(bd (bd (bd (rt w) λ a22=>getA a22 "table") λ a20=>bd (rt v_key) λ a21=>getI a20 a21) λ a19=>getA a19 "number")]) Q μ:=by
 obtain ⟨i,ls,rfl,hi,hls,e⟩:=R.contH hc ht
 rw [hlk] at e
 have R':=R.lockT hc hi hls
 have nd:=hk es rfl
 have hkeys:keysOf (.dS false ls)=some (es.map λ e=>AV.str e.1):=by
  show some (ls.map λ e=>AV.str e.1)=_;rw [L2.strKeys (R:=λ v m=>at_ own v (.thing m)) hls]
 walk_at "w";refine qz (λ xs acc μ'=> ∃ ds ns own',es=ds ++ ns∧xs=ns.map (λ e=>AV.str e.1)∧Ext own own'∧own' i= .cont n∧L2 (λ v e=>at_ own' v (.im (pairO e))) acc ds∧Rep K own' {σ with lkT:=λ m=>if m=n then true else σ.lkT m} μ') e hkeys rfl (by simpa using hl) ⟨[],es,own,rfl,rfl,Ext.refl,hi, .nil,R'⟩ (λ xs acc μ' h=> ?_) (λ x xs acc μ' h=> ?_) (λ acc μ' h=> ?_)
 ·obtain ⟨ds,ns,own',q1,q2,q3,q4,q5,R2⟩:=h
  obtain ⟨i',ls',r1,r2,r3,r4⟩:=R2.contH (n:=n) (xs:=es) hc ⟨i,rfl,q4⟩
  cases r1
  rw [r4]
  have:ls'=ls:=L2.tabEq (R:=λ v m=>at_ own' v (.thing m)) (λ v w n a b=>at_.eq R2 a b rfl) r3 (hls.imp λ l e h=>⟨h.1,h.2.th q3⟩)
  rw [this];show some (AO.dS (if n=n then true else σ.lkT n) ls)=_;rw [if_pos rfl];rfl
 ·obtain ⟨ds,ns,own',q1,q2,q3,q4,q5,R2⟩:=h
  cases ns with
  | nil=>cases q2
  | cons b bs =>
  simp only [List.map_cons,List.cons.injEq] at q2
  obtain ⟨rfl,rfl⟩:=q2
  walk_at "w";rw [if_pos rfl];walk_at "w";refine xO R2 (hv.th q3) hc λ y hy=> ?_
  walk_at "w";refine u3 R2 hc hy (vS nd (by rw [q1];exact List.mem_append_right _ (.head _))) λ z hz=> ?_
  walk_at "w";refine toI (zp R2 hz) ?_
  walk_at "w";refine ze R2 (.im (pairO b)) (.inl rfl) λ own3 μ3 a e3 h3 j3 b3 R3=> ?_
  have hi3:own3 i= .cont n:=by rw [b3 i (λ z=>by rw [z,j3] at q4;cases q4)];exact q4
  walk_at "w";exact ⟨ds ++ [b],bs,own3,by rw [q1];simp,rfl,q3.trans e3,hi3,(q5.imp λ v e h=>h.ext e3 rfl).snoc ⟨a,rfl,h3⟩,R3⟩
 ·obtain ⟨ds,ns,own',q1,q2,q3,q4,q5,R2⟩:=h
  cases ns with
  | cons b bs=>cases q2
  | nil =>
  rw [List.append_nil] at q1
  subst q1
  have R3:=Rep.unlockT hc hlk R2 q4 (hls.imp λ l e h=>⟨h.1,h.2.th q3⟩)
  walk_at "w";refine ze R3 (.tm (.list acc)) (.inr (.inl rfl)) λ own4 μ4 a e4 h4 j4 b4 R4=> ?_
  walk_at "w";exact hq own4 μ4 a acc (q3.trans e4) (q5.imp λ v e h=>h.ext e4 rfl) h4 R4
theorem uA {vs:List AV} {es:List (String × Nat)} (R:Rep K own σ μ) (h:L2 (λ v e=>at_ own v (.im (pairO e))) vs es):L2 (λ x d=>readD μ 2 x=some d) vs (es.map λ e=> .node true [.str e.1, .int e.2]):=by
 induction h with
 | nil=>exact .nil
 | @cons p e' _ _ h _ ih =>
  obtain ⟨i',rfl,hi'⟩:=h
  exact .cons (zF (n:=1) (R.im hi') (.cons yJ (.cons zT .nil))) ih
theorem ZJ (R:Rep K own σ μ) (ok:SameOk σ) (hq: ∀ own' μ',Ext own own'→Rep K own' σ μ'→Q (.bool true) μ'):wp (yP (.obj K.world) (.obj K.roots) (.obj K.real)) Q μ:=by
 unfold yP xY
 walk_at "w";refine wa R ok.lw ok.dl ok.wl λ own1 μ1 d es e1 h1 d1 R1=> ?_
 obtain ⟨ws,hw1,hw2,R2⟩:=R1.lockR ok.lr
 walk_at "w";refine Zw (λ xs _ μ'=> ∃ ds ns own',σ.real=ds ++ ns∧xs=nums ns∧Ext own1 own'∧Rep K own' σ.lockedR μ') hw1 (vB (keysL2 (R:=λ v n=>at_ own1 v (.thing n)) hw2)) rfl ⟨[],σ.real,own1,rfl,rfl,Ext.refl,R2⟩ (λ xs _ μ' h=> ?_) (λ x xs _ μ' h=> ?_) (λ _ μ' h=> ?_)
 ·obtain ⟨ds,ns,own',q1,q2,q3,R'⟩:=h
  exact R'.sameR hw2 q3 rfl rfl
 ·obtain ⟨ds,ns,own',q1,q2,q3,R'⟩:=h
  cases ns with
  | nil=>cases q2
  | cons b bs =>
  simp only [nums,List.map_cons,List.cons.injEq] at q2
  obtain ⟨rfl,rfl⟩:=q2
  have hb:b∈σ.real:=by rw [q1];exact List.mem_append_right _ (.head _)
  have next: ∀ own5 μ5,Ext own' own5→Rep K own5 σ.lockedR μ5→ ∃ ds ns own',σ.real=ds ++ ns∧nums bs=nums ns∧Ext own1 own'∧Rep K own' σ.lockedR μ5:=λ own5 μ5 e5 R5 =>
   ⟨ds ++ [b],bs,own5,by rw [q1];simp,rfl,q3.trans e5,R5⟩
  walk_at "w";refine zE (n:=b) R' hb λ w hw=> ?_
  walk_at "w";refine toI (Yk R' hw) ?_
  have hfr:((σ.lockedR).th b).fr=decide (b∉(σ.lockedR).wk):=ok.fr b hb
  rw [hfr]
  walk_at "w";refine toI (u5 R') ?_
  walk_at "w";simp only [decide_true]
  walk_at "w";refine toI (u5 R') ?_
  by_cases hin:b∈σ.wk
  ·have hin':(decide (b∉(σ.lockedR).wk))=false:=by simp [hin]
   rw [hin']
   walk_at "w";refine zj (n:=b) R' hin λ r hr=> ?_
   simp only [wJ]
   have hcc:((σ.lockedR).th b).c=(σ.row b).c:=ok.cc b hin
   refine qB (λ told μ4=> ∃ own4,Ext own' own4∧Rep K own4 σ.lockedR μ4∧ ∀ y (Q':AV→Mem→Prop),RTail own4 b (σ.row b).c y→wp (eqM told y) Q' μ4=Q' (.bool true) μ4) ?_ λ told μ4 hh=> ?_
   ·cases hc:(σ.row b).c with
    | s pv =>
     walk_at "w";refine toI (zn R' hr hc) ?_;walk_at "w"
     walk_at "w";refine yQ R' hw (hcc.trans hc) λ x hx=> ?_
     walk_at "w";refine bR R' hx λ own4 μ4 y e4 hy R4=> ?_
     walk_at "w";exact ⟨y,rfl,own4,e4,R4,λ z Q' hz=>VN R4 (pv:=pv) hy hz⟩
    | a xs =>
     walk_at "w";refine toI (zn R' hr hc) ?_;walk_at "w"
     walk_at "w";refine toI (zn R' hr hc) ?_;walk_at "w"
     walk_at "w";refine vL R' hw (hcc.trans hc) λ x hx=> ?_
     obtain ⟨i,vs,rfl,hi,hv,e⟩:=R'.contA (hcc.trans hc) hx
     have hxl:xs.length≤big:=by have:=ok.ml b hin;rw [ok.cc b hin,hc] at this;exact this
     walk_at "w";refine wi (λ _=>true) (λ p=>match getA p "number" μ' with | some (v,_)=>v | none=> .none) e (by rw [hv.len];exact hxl) (λ p hp=>⟨rfl,λ _=> ?_⟩) ?_
     ·obtain ⟨m,_,hm⟩:=hv.left p hp
      have this:getA p "number" μ'=some (.int m,μ'):=ut (P:=λ _=>True) (by refine toI (zp R' hm) ?_;exact ⟨rfl,rfl⟩)
      simp only [this]
      exact this
     ·rw [List.filter_eq_self.mpr (λ _ _=>rfl)]
      have hvals:vs.map (λ p=>match getA p "number" μ' with | some (v,_)=>v | none=> .none)=nums xs:=by
       clear e hxl hx hc hi
       induction hv with
       | nil=>rfl
       | @cons p m _ _ hm _ ih =>
        have this:getA p "number" μ'=some (.int m,μ'):=ut (P:=λ _=>True) (by refine toI (zp R' hm) ?_;exact ⟨rfl,rfl⟩)
        simp only [List.map_cons,this,ih,nums]
      rw [hvals]
      walk_at "w";refine ze R' (.tm (.list (nums xs))) (.inr (.inl rfl)) λ own4 μ4 g e4 h4 j4 b4 R4=> ?_
      walk_at "w"
      refine ⟨.obj g,rfl,own4,e4,R4,λ z Q' hz=> ?_⟩
      obtain ⟨i',rfl,_,e'⟩:=R4.innA (n:=b) hc hz
      walk_at "w";rw [yx (R4.tm h4) e'];simp
    | h es =>
     walk_at "w";refine toI (zn R' hr hc) ?_;walk_at "w"
     walk_at "w";refine toI (zn R' hr hc) ?_;walk_at "w"
     walk_at "w";refine xO R' hw (hcc.trans hc) λ x hx=> ?_
     have hxl:es.length≤big:=by have:=ok.ml b hin;rw [ok.cc b hin,hc] at this;simpa [zi] using this
     have hko:KeysOk (.h es):=by have:=ok.ko b hin;rw [ok.cc b hin,hc] at this;exact this
     walk_at "w";refine WB R' hw (hcc.trans hc) (ok.lt b) hko hxl hx λ own4 μ4 g vs e4 hv h4 R4=> ?_
     walk_at "w"
     refine ⟨.obj g,rfl,own4,e4,R4,λ z Q' hz=> ?_⟩
     obtain ⟨i',ws',rfl,_,hv',e'⟩:=R4.innH (n:=b) hc hz
     walk_at "w";rw [xm (zF (n:=2) (R4.tm h4) (uA R4 hv)) (zF (n:=2) e' (uA R4 hv')) (λ _ _ h=>by cases h),D.same_refl]
   ·obtain ⟨own4,e4,R4,hEq⟩:=hh
    have hw4:=hw.th e4
    have hr4:=hr.ext e4 rfl
    have hd4:own4 d= .tm (.dI false es):=e4.at (q3.at h1 rfl) rfl
    walk_at "w";refine zw R4 hr4 λ y hy=> ?_
    walk_at "w";rw [hEq y _ hy]
    walk_at "w";refine toI (yB R4 hw4) ?_
    walk_at "w";refine toI (vV (R4.tm hd4)) ?_
    walk_at "w";refine toI (vi (R4.tm hd4) d1) ?_
    walk_at "w"
    have hct:((σ.lockedR).th b).cnt=(σ.deg b:Int):=ok.ct b hin
    rw [show (!decide (((σ.lockedR).th b).cnt=(σ.deg b:Int)))=false by rw [decide_eq_true (ok.ct b hin)];rfl];walk_at "w"
    walk_at "w";refine toI (Vq R4 hw4) ?_
    walk_at "w";refine toI (ZA R4 hr4) ?_
    walk_at "w"
    have hds:((σ.lockedR).th b).ds=((σ.lockedR).row b).ds:=ok.ds b hin
    (first | rw [hds] | rw [ok.ds b hin]);simp only [decide_true];walk_at "w"
    walk_at "w";exact next own4 μ4 e4 R4
  ·have hin':(decide (b∉(σ.lockedR).wk))=true:=by simp [hin]
   rw [hin']
   walk_at "w";exact next own' _ Ext.refl R'
 ·obtain ⟨ds,ns,own',q1,q2,q3,R'⟩:=h
  walk_at "w";exact hq own' _ (e1.trans q3) (R'.unlockR ok.lr (R'.sameR hw2 q3 rfl rfl))
end
noncomputable def kinds (way:Nat):Cont:=if way=0 then .s .none else if way=1 then .a [] else .h []
noncomputable def S.new3 (σ:S):S:=((σ.fresh (.s .none)).fresh (.a [])).fresh (.h [])
noncomputable def S.addReal (σ:S) (n:Nat):S:= {σ with real:=σ.real ++ [n]}
noncomputable def S.addRow (σ:S) (n:Nat) (r:Row):S:= {σ with wk:=σ.wk ++ [n],lastRow:=n}.setRow n r
noncomputable def S.blessIf (σ:S) (n:Nat) (b:Bool):S:=if b then σ.setTh n {σ.th n with bl:=true} else σ
noncomputable def S.newT (σ:S) (way:Nat) (b:Bool):S:=(((σ.new3.note (σ.last+1+way)).blessIf (σ.last+1+way) b).addReal (σ.last+1+way)).addRow (σ.last+1+way) ⟨kinds way,b,false⟩
noncomputable def S.newD (σ:S) (way place:Nat) (b:Bool):S:=((σ.newT way b).store place (.ref (σ.last+1+way))).setRowV place (.ref (σ.last+1+way))
section
variable {K:Ad} {own own':Own} {σ σ':S} {μ μ':Mem} {α:Type}
variable {Q:AV→Mem→Prop} {v c s x:AV} {n k q:Nat}
structure Room (σ:S):Prop where
 lw:σ.lkW=false
 lr:σ.lkR=false
 lt: ∀ n,σ.lkT n=false
 zl:σ.zero.length+10 < big
 rl:σ.real.length+10 < big
 wl:σ.wk.length+10 < big
 rb: ∀ n∈σ.real,n≤σ.last
 wb: ∀ n∈σ.wk,n≤σ.last
 lb:σ.lastRow≤σ.last
theorem way3 {p:Nat→Prop} (h0:p 0) (h1:p 1) (h2:p 2) (w:Nat) (h:w < 3):p w:=by
 rcases w with _ | _ | _ | w
 ·exact h0
 ·exact h1
 ·exact h2
 ·lia
theorem Xu {way place:Nat} (R:Rep K own σ μ) (rm:Room σ) (hw:way < 3) (hp:place∈σ.real) (hpw:place∈σ.wk) (hst:StoreOk (σ.newT way (decide (k % 2=1))) place) (hrs: ∃ v,((σ.newT way (decide (k % 2=1))).row place).c= .s v)
  (hq: ∀ own' μ',Ext own own'→Rep K own' (σ.newD way place (decide (k % 2=1))) μ'→Q .none μ'):wp (xR (.obj K.counter) (.obj K.world) (.obj K.real) (.int (way:Int)) (.int (place:Int)) (.int (k:Int))) Q μ:=by
 unfold xR wx
 refine toI (uk) ?_
 simp only [bd_,wJ,zA,ml_,H6,mt_,H7,ev_,H5,H4,VB]
 walk_at "w";refine toI (xk R) ?_
 walk_at "w";refine toI (wg R) ?_
 walk_at "w";refine uq R (pv:= .none) rfl rm.lt λ own1 μ1 v1 e1 h1 R1=> ?_
 walk_at "w";refine toI (wg R1) ?_
 walk_at "w";refine bH R1 rm.lt λ own2 μ2 v2 e2 h2 R2=> ?_
 walk_at "w";refine toI (wg R2) ?_
 walk_at "w";refine Yq R2 rm.lt λ own3 μ3 v3 e3 h3 R3=> ?_
 have R3:Rep K own3 σ.new3 μ3:=R3
 walk_at "w";refine ze R3 (.tm (.list [v1,v2,v3])) (.inr (.inl rfl)) λ own4 μ4 a e4 h4 j4 b4 R4=> ?_
 have hv: ∀ w,w < 3→ ∃ v,[v1,v2,v3][w]? =some v∧at_ own4 v (.thing (σ.last+1+w)):=way3 ⟨v1,rfl,((h1.th e2).th e3).th e4⟩ ⟨v2,rfl,(h2.th e3).th e4⟩ ⟨v3,rfl,h3.th e4⟩
 obtain ⟨v,hv1,hv2⟩:=hv way hw
 walk_at "w";refine zf (zJ (R4.tm h4) hv1) ?_
 walk_at "w";refine toI (zu R4) ?_
 walk_at "w";refine VF R4 hv2 (by have:=rm.zl;show σ.zero.length < big;lia) λ μ5 R5=> ?_
 have e04:=((e1.trans e2).trans e3).trans e4
 generalize hn:σ.last+1+way=n at *
 have hnl:σ.last < n:=by lia
 have hnr:n∉σ.real:=λ h=>by have:=rm.rb n h;lia
 have hnw:n∉σ.wk:=λ h=>by have:=rm.wb n h;lia
 simp only [wJ]
 refine qB (λ _ μ6=>Rep K own4 ((σ.new3.note n).blessIf n (decide (k % 2=1))) μ6) ?_ λ _ μ6 R6=> ?_
 ·walk_at "w"
  unfold S.blessIf
  by_cases z:k % 2=1
  ·have:((k % 2:Nat):Int)=1:=by lia
   simp only [this,z];walk_at "w"
   walk_at "w";refine Wu R5 hv2 λ μ6 R6=> ?_
   walk_at "w";refine ⟨(),by first | rfl | trivial,?_⟩
   (try simp only [decide_true,if_true])
   exact R6
  ·have: ¬ ((k % 2:Nat):Int)=1:=by lia
   simp only [this,z];walk_at "w"
   refine ⟨(),by first | rfl | trivial,?_⟩
   (try simp only [decide_false,Bool.false_eq_true,if_false])
   exact R5
 ·walk_at "w"
  refine hideP λ PZ hZ=> ?_
  have hbz: ∀ σ:S,∀ b,(σ.blessIf n b).zero=σ.zero∧(σ.blessIf n b).real=σ.real∧(σ.blessIf n b).wk=σ.wk∧(σ.blessIf n b).lkR=σ.lkR∧(σ.blessIf n b).lkW=σ.lkW∧(σ.blessIf n b).lastRow=σ.lastRow:=λ σ b=>by
   unfold S.blessIf;cases b <;> exact ⟨rfl,rfl,rfl,rfl,rfl,rfl⟩
  have hnz: ∀ σ:S,(σ.note n).real=σ.real∧(σ.note n).wk=σ.wk∧(σ.note n).lkR=σ.lkR∧(σ.note n).lkW=σ.lkW∧(σ.note n).lastRow=σ.lastRow:=λ σ=>by
   unfold S.note;split <;> exact ⟨rfl,rfl,rfl,rfl,rfl⟩
  obtain ⟨z1,z2,z3,z4,z5,z6⟩:=hbz (σ.new3.note n) (decide (k % 2=1))
  obtain ⟨y1,y2,y3,y4,y5⟩:=hnz σ.new3
  refine hZ ?_
  walk_at "w";refine toI (zp R6 hv2) ?_
  walk_at "w";refine vN R6 (by rw [z4,y3];exact rm.lr) (by rw [z2,y1];have:=rm.rl;show σ.real.length < big;lia) (by rw [z2,y1];exact hnr) hv2 λ μ7 R7=> ?_
  have R7:Rep K own4 (((σ.new3.note n).blessIf n (decide (k % 2=1))).addReal n) μ7:=R7
  have hsah: ∀ w:Nat,w < 3→sah (.int (w:Int)) μ7=some (.str (kinds w).kind,μ7):=way3 rfl rfl rfl
  walk_at "w";refine zf (hsah way hw) ?_
  have hbb:decide (((k % 2:Nat):Int)=1)=decide (k % 2=1):=by
   by_cases z:k % 2=1
   ·have:((k % 2:Nat):Int)=1:=by lia
    simp [z]
   ·have: ¬ ((k % 2:Nat):Int)=1:=by lia
    simp only [z,this]
  walk_at "w";rw [hbb]
  walk_at "w";refine ze R7 (.nw (.list [])) (.inr (.inr rfl)) λ own8 μ8 p1 e8 h8 j8 b8 R8=> ?_
  walk_at "w";refine ze R8 (.nw (.list [])) (.inr (.inr rfl)) λ own9 μ9 p2 e9 h9 j9 b9 R9=> ?_
  have h8':own9 p1= .nw (.list []):=by rw [b9 p1 (λ z=>by rw [z,j9] at h8;cases h8)];exact h8
  walk_at "w";refine ze R9 (.tm (.list [.none, .obj p1, .obj p2])) (.inr (.inl rfl)) λ own10 μ10 p3 e10 h10 j10 b10 R10=> ?_
  have h8'':own10 p1= .nw (.list []):=by rw [b10 p1 (λ z=>by rw [z,j10] at h8';cases h8')];exact h8'
  have h9'':own10 p2= .nw (.list []):=by rw [b10 p2 (λ z=>by rw [z,j10] at h9;cases h9)];exact h9
  have hin: ∀ w,w < 3→ ∃ y,[AV.none, .obj p1, .obj p2][w]? =some y∧((∃ v,kinds w= .s v∧VW own10 v y)∨((kinds w= .a []∨kinds w= .h [])∧ ∃ k,y= .obj k∧own10 k= .nw (.list []))):=way3 ⟨.none,rfl, .inl ⟨.none,rfl,rfl⟩⟩ ⟨_,rfl, .inr ⟨.inl rfl,p1,rfl,h8''⟩⟩ ⟨_,rfl, .inr ⟨.inr rfl,p2,rfl,h9''⟩⟩
  obtain ⟨y,hy1,hy2⟩:=hin way hw
  walk_at "w";refine zf (zJ (R10.tm h10) hy1) ?_
  walk_at "w";refine ze R10 (.nw (.list [.str (kinds way).kind, .bool (decide (k % 2=1)), .bool false,y])) (.inr (.inr rfl)) λ own11 μ11 p4 e11 h11 j11 b11 R11=> ?_
  have e411:=(((e8.trans e9).trans e10).trans e11)
  walk_at "w";refine toI (zp R11 (hv2.th e411)) ?_
  have hy3:(∃ v,kinds way= .s v∧VW own11 v y)∨((kinds way= .a []∨kinds way= .h [])∧ ∃ k,y= .obj k∧own11 k= .nw (.list [])):=by
   rcases hy2 with ⟨v,a1,a2⟩ | ⟨a1,k',a2,a3⟩
   ·exact .inl ⟨v,a1,a2.ext e11⟩
   ·exact .inr ⟨a1,k',a2,by rw [b11 k' (λ z=>by rw [z,j11] at a3;cases a3)];exact a3⟩
  walk_at "w";refine us (c:=kinds way) (bl:=decide (k % 2=1)) R11 (by show ((σ.new3.note n).blessIf n (decide (k % 2=1))).lkW=false;rw [z5,y4];exact rm.lw) (by show ((σ.new3.note n).blessIf n (decide (k % 2=1))).wk.length < big;rw [z3,y2];have:=rm.wl;show σ.wk.length < big;lia) (by show n∉((σ.new3.note n).blessIf n (decide (k % 2=1))).wk;rw [z3,y2];exact hnw) (by show ((σ.new3.note n).blessIf n (decide (k % 2=1))).lastRow < n;rw [z6,y5];have:=rm.lb;show σ.lastRow < n;lia) h11 hy3 λ own12 μ12 e12 R12=> ?_
  have R12:Rep K own12 (σ.newT way (decide (k % 2=1))) μ12:=by unfold S.newT;rw [hn];exact R12
  have hv12:=(hv2.th e411).th e12
  walk_at "w";refine toI (zu R12) ?_
  walk_at "w";refine zE R12 (n:=place) ?_ λ pl hpl=> ?_
  ·show place∈((σ.new3.note (σ.last+1+way)).blessIf (σ.last+1+way) (decide (k % 2=1))).real ++ [σ.last+1+way]
   rw [hn,z2,y1];exact List.mem_append_left _ hp
  walk_at "w";refine vh (b:=false) R12 hv12 λ own13 μ13 rf e13 hrf R13=> ?_
  obtain ⟨old,ho1,ho2⟩:=hst.sc
  walk_at "w";refine wT R13 (pv:= .ref n) (hpl.th e13) ho1 hrf hst.zb ho2 λ own14 μ14 e14 R14=> ?_
  walk_at "w";refine toI (zp R14 ((hv12.th e13).th e14)) ?_
  walk_at "w";refine xl (b:=false) R14 λ own15 μ15 tp e15 htp R15=> ?_
  have hfin:((σ.newT way (decide (k % 2=1))).store place (.ref n)).wk=(σ.newT way (decide (k % 2=1))).wk∧((σ.newT way (decide (k % 2=1))).store place (.ref n)).row=(σ.newT way (decide (k % 2=1))).row:=by
   unfold S.store
   generalize ((σ.newT way (decide (k % 2=1))).th place).c.val=old'
   cases old' with
   | ref m=>unfold S.putOff S.letGo S.note;dsimp only;split <;> exact ⟨rfl,rfl⟩
   | _=>exact ⟨rfl,rfl⟩
  walk_at "w";refine zj R15 (n:=place) ?_ λ rw' hrw=> ?_
  ·rw [hfin.1]
   show place∈((σ.new3.note (σ.last+1+way)).blessIf (σ.last+1+way) (decide (k % 2=1))).wk ++ [σ.last+1+way]
   rw [hn,z3,y2];exact List.mem_append_left _ hpw
  obtain ⟨v0,hv0⟩:=hrs
  walk_at "w";refine yR (pv:= .ref n) R15 hrw (by rw [hfin.2];exact hv0) htp λ μ16 R16=> ?_
  walk_at "w";refine hq own15 μ16 ((((e04.trans e411).trans e12).trans e13).trans (e14.trans e15)) ?_
  unfold S.newD
  rw [hn];exact R16
end
noncomputable def keyOf (k:Nat):String:="k" ++ toString (((k % 3:Nat)):Int)
noncomputable def S.putT (σ:S) (source:Nat):S:=((σ.freshV (σ.th source).c.val).addReal (σ.last+1)).addRow (σ.last+1) ⟨.s (σ.row source).c.val.strong,false,false⟩
noncomputable def S.setC (σ:S) (t:Nat) (c:Cont):S:=σ.setTh t {σ.th t with c:=c}
noncomputable def S.setRC (σ:S) (t:Nat) (c:Cont):S:=σ.setRow t {σ.row t with c:=c}
noncomputable def S.putA (σ:S) (t n:Nat) (xs:List Nat):S:=(σ.setC t (.a (xs ++ [n]))).setRC t (.a (xs ++ [n]))
noncomputable def S.putH (σ:S) (t n:Nat) (key:String) (es:List (String × Nat)):S:=match aget key es with
 | none=>(σ.setC t (.h (aput key n es))).setRC t (.h (es ++ [(key,n)]))
 | some o=>((σ.setC t (.h (aput key n es))).letGo o).setRC t (.h (es.map λ e=>(e.1,if e.1=key then n else e.2)))
noncomputable def S.putD (σ:S) (place source k:Nat):S:=match (σ.row place).c.val.tgt with
 | none=>σ
 | some t=>match (σ.row t).c with
  | .s _=>σ
  | .a xs=>(σ.putT source).putA t (σ.last+1) xs
  | .h es=>(σ.putT source).putH t (σ.last+1) (keyOf k) es
noncomputable def S.takenD (σ:S) (place:Nat):S:=match (σ.row place).c.val.tgt with
 | none=>σ
 | some t=>match (σ.row t).c with
  | .s _=>σ
  | .a []=>σ
  | .a (m :: xs)=>((σ.setRC t (.a xs)).setC t (.a xs)).letGo m
  | .h []=>σ
  | .h (e :: es)=>((σ.setRC t (.h es)).setC t (.h (adel e.1 (e :: es)))).letGo e.2
section
variable {K:Ad} {own own':Own} {σ σ':S} {μ μ':Mem} {α:Type}
variable {Q:AV→Mem→Prop} {v c s x:AV} {n k q:Nat}
theorem U4:wp (strM (.int ((k % 3:Nat):Int))) (bdQ (λ y=>addM (.str "k") y) Q) μ=Q (.str (keyOf k)) μ:=by
 have h3:k % 3 < 3:=Nat.mod_lt _ (by decide)
 have hl:(toString (((k % 3:Nat)):Int)).length≤100:=by
  have:k % 3=0∨k % 3=1∨k % 3=2:=(by omega)
  rcases this with h | h | h <;> rw [h] <;> decide
 walk_at "w";rw [zd (m:=strM (.int ((k % 3:Nat):Int))) (a:= .str (toString (((k % 3:Nat)):Int))) (μ':=μ) (by
  have:(0:Int)≤((k % 3:Nat):Int)∧((k % 3:Nat):Int) < 10:=(by omega)
  show (if _ then _ else _:M AV) μ=_;rw [if_pos this];rfl)]
 walk_at "w";exact zd (by
  have:"k".length≤100∧(toString (((k % 3:Nat)):Int)).length≤100:=⟨by decide,hl⟩
  show (if _ then _ else _:M AV) μ=_;rw [if_pos this];rfl)
theorem Xv (R:Rep K own σ μ) {o:AO} (r:Role) (hr:r= .im o∨r= .tm o∨r= .nw o) (hq: ∀ own' a,Ext own own'→own' a=r→Rep K own' σ (μ ++ [o])→Q (.obj a) (μ ++ [o])):wp (al o) Q μ:=by
 obtain ⟨h1,h2,h3⟩:=R.al hr
 walk_at "w";exact zf rfl (hq _ _ h2 h3 h1)
theorem ZK {i:Nat} {o p:AO} (h:μ[i]? =some o):(μ ++ [p])[i]? =some o:=by
 rw [List.getElem?_append_left ((List.getElem?_eq_some_iff.mp h).1)];exact h
structure PutOk (σ:S) (place source:Nat):Prop where
 rm:Room σ
 pw:place∈σ.wk
 sw:source∈σ.wk
 sr:source∈σ.real
 pc: ∃ v,(σ.row place).c= .s v
 sc: ∃ v,(σ.row source).c= .s v∧(σ.th source).c= .s v
 tg: ∀ t,(σ.row place).c.val.tgt=some t→t∈σ.wk∧t∈σ.real∧(σ.th t).c=(σ.row t).c∧(zi (σ.row t).c).length < big∧t≤σ.last
theorem Xw {m:Nat} {pv:PV} (h:m≤σ.last):((σ.freshV pv).th m).c=(σ.th m).c:=by
 unfold S.freshV S.setCnt S.fresh
 have h1:m≠σ.last+1:=Nat.ne_of_lt (Nat.lt_succ_of_le ‹_›)
 rw [zk,if_neg h1]
 show (((({σ.take pv with last:=_}:S)).setTh _ _).th m).c=_
 rw [zk,if_neg (by rw [uu];exact h1)]
 exact Xk
theorem bS {pv:PV}:(σ.freshV pv).zero=σ.zero:=by show (σ.take pv).zero=σ.zero;exact kp
noncomputable def relab (key:String) (n:Nat) (e:String × Nat):String × Nat:=(e.1,if e.1=key then n else e.2)
noncomputable def PL (own:Own):List AV→List (String × Nat)→Prop:=L2 λ v e=>at_ own v (.im (pairO e))
theorem PL.ext {xs:List AV} {es:List (String × Nat)} (h:PL own xs es) (e:Ext own own'):PL own' xs es:=L2.imp (λ v b h=>h.ext e rfl) h
inductive ReI (K:Ad) (own:Own) (σ:S) (i:Nat) (vs:List AV) (es:List (String × Nat)) (key:String) (n:Nat) (xs acc:List AV) (μ:Mem):Prop
 | mk (ds ns:List (String × Nat)) (own':Own) (q1:es=ds ++ ns) (q2:PL own' xs ns) (q3:Ext own own') (q4:PL own' acc (ds.map (relab key n))) (q5:μ[i]? =some (.list vs)) (R:Rep K own' σ μ)
theorem WC {G:AV→Cx0} {i:Nat} {vs:List AV} {es:List (String × Nat)} {key:String} (R:Rep K own σ μ) (hsc:at_ own s (.thing n)) (e:μ[i]? =some (.list vs)) (hv:PL own vs es) (hl:es.length≤big) (hq: ∀ own' μ' acc,Ext own own'→PL own' acc (es.map (relab key n))→Rep K own' σ μ'→wp (al (.list acc)) Q μ') :
  wp (comp G (.obj i) (λ _=>rt true) λ v_one=>mkL [(bd (rt v_one) λ a65=>bd (rt (.int 0)) λ a66=>getI a65 a66),(iteV (bd (bd (bd (rt v_one) λ a70=>bd (rt (.int 0)) λ a71=>getI a70 a71) λ a68=>bd (rt (.str key)) λ a69=>eqM a68 a69) tru) (bd (rt s) λ a72=>getA a72 "number") (bd (rt v_one) λ a73=>bd (rt (.int 1)) λ a74=>getI a73 a74))]) Q μ:=by
 refine jm (ReI K own σ i vs es key n) e (by rw [L2.len hv];exact hl) ⟨[],es,own,rfl,hv,Ext.refl, .nil,e,R⟩ (λ xs acc μ' ⟨_,_,_,_,_,_,_,q5,_⟩=>q5) (λ x xs acc μ' h=> ?_) (λ acc μ' h=> ?_)
 ·obtain ⟨ds,ns,own',q1,q2,q3,q4,q5,R9⟩:=h
  cases q2 with
  | @cons _ b _ bs p1 p2 =>
  have fin: ∀ own10 μ10 y,Ext own' own10→at_ own10 y (.im (pairO (relab key n b)))→μ10[i]? =some (.list vs)→Rep K own10 σ μ10→ReI K own σ i vs es key n xs (acc ++ [y]) μ10:=λ own10 μ10 y e10 hy hi10 R10 =>
   ⟨ds ++ [b],bs,own10,by rw [q1];simp,PL.ext p2 e10,q3.trans e10,by rw [List.map_append];exact L2.snoc (q4.ext e10) hy,hi10,R10⟩
  refine toI (zA) ?_
  refine ZC λ Q' hQ=> ?_
  walk_at "w";refine toI (jo R9 p1) ?_
  walk_at "w";refine toI (jo R9 p1) ?_
  walk_at "w"
  by_cases z:b.1=key
  ·walk_at "w";simp only [z];walk_at "w"
   walk_at "w";refine toI (zp R9 (hsc.th q3)) ?_
   walk_at "w";refine Xv R9 (.im (pairO (key,n))) (.inl rfl) λ own10 a10 e10 h10 R10=>hQ _ _ ?_
   exact fin own10 _ _ e10 ⟨a10,rfl,by rw [h10,relab,z,if_pos rfl]⟩ (ZK q5) R10
  ·walk_at "w";simp only [z];walk_at "w"
   walk_at "w";refine toI (gF R9 p1) ?_
   walk_at "w";refine Xv R9 (.im (pairO (b.1,b.2))) (.inl rfl) λ own10 a10 e10 h10 R10=>hQ _ _ ?_
   exact fin own10 _ _ e10 ⟨a10,rfl,by rw [h10,relab,if_neg z]⟩ (ZK q5) R10
 ·obtain ⟨ds,ns,own',q1,q2,q3,q4,q5,R9⟩:=h
  cases q2
  rw [List.append_nil] at q1
  exact hq own' μ' acc q3 (q1 ▸ q4) R9
section
variable {t:Nat} {g w sc y1 y2 y3 y4 y5 y6:AV} {xs:List Nat} {es:List (String × Nat)} {key:String} {Q:Fl Unit→Mem→Prop}
theorem WD (R:Rep K own σ μ) (hg:at_ own g (.row t)) (hw:at_ own w (.thing t)) (hsc:at_ own sc (.thing n)) (hrc:(σ.row t).c= .a xs) (htc:(σ.th t).c= .a xs) (hl:xs.length < big) (hq: ∀ μ',Rep K own (σ.putA t n xs) μ'→Q (.ret .none) μ'):wp (gx y1 y2 y3 y4 y5 y6 x g w sc) Q μ:=by
 walk_at "w";refine toI (zn R hg hrc) ?_
 walk_at "w";refine vL R hw htc λ it hit=> ?_
 walk_at "w";refine toI (um R htc hit) ?_
 walk_at "w";refine bB R htc hit hsc hl λ μ7 R7=> ?_
 walk_at "w";refine zw R7 hg λ ry hry=> ?_
 have hrc7:((σ.setTh t {σ.th t with c:= .a (xs ++ [n])}).row t).c= .a xs:=hrc
 rw [hrc7] at hry
 walk_at "w";refine toI (wK (n:=t) R7 (by rw [hrc7];nofun) hry) ?_
 walk_at "w";refine toI (zp R7 hsc) ?_
 walk_at "w";refine Ys (n:=t) R7 hrc7 hry hl λ μ8 R8=> ?_
 walk_at "w";exact hq μ8 R8
theorem WE (R:Rep K own σ μ) (hg:at_ own g (.row t)) (hsc:at_ own sc (.thing n)) (hrc:(σ.row t).c= .h es) (hel:es.length < big) (hq: ∀ own' μ',Ext own own'→Rep K own' (σ.setRC t (.h (es ++ [(key,n)]))) μ'→Q (.nxt ()) μ'):wp (Vo y1 g sc (.str key) .none) Q μ:=by
 walk_at "w";refine zw R hg λ ry hry=> ?_
 rw [hrc] at hry
 walk_at "w";refine toI (wK (n:=t) R (by rw [hrc];nofun) hry) ?_
 walk_at "w";refine toI (zp R hsc) ?_
 walk_at "w";refine ze R (.im (pairO (key,n))) (.inl rfl) λ own8 μ8 a8 e8 h8 j8 b8 R8=> ?_
 walk_at "w";refine Yu (n:=t) (e:=(key,n)) R8 hrc (at_.ext e8 rfl hry) ⟨a8,rfl,h8⟩ hel λ μ9 R9=> ?_
 walk_at "w";exact hq own8 μ9 e8 R9
theorem VO (R:Rep K own σ μ) (hg:at_ own g (.row t)) (hsc:at_ own sc (.thing n)) (hrc:(σ.row t).c= .h es) (hel:es.length < big) (hq: ∀ own' μ',Ext own own'→Rep K own' (σ.setRC t (.h (es.map (relab key n)))) μ'→Q (.nxt ()) μ'):wp (Vn g sc (.str key)) Q μ:=by
 walk_at "w";refine zw R hg λ ry hry=> ?_
 rw [hrc] at hry
 obtain ⟨i,vs,rfl,hi,hv,e⟩:=R.innH (n:=t) hrc hry
 walk_at "w";refine WC R hsc e hv (Nat.le_of_lt hel) λ own9 μ9 acc q3 q4 R9=> ?_
 walk_at "w";refine ze R9 (.nw (.list acc)) (.inr (.inr rfl)) λ own10 μ10 a10 e10 h10 j10 b10 R10=> ?_
 walk_at "w";refine zw R10 ((hg.ext q3 rfl).ext e10 rfl) λ ry' hry'=> ?_
 rw [hrc] at hry'
 walk_at "w";refine Yw (n:=t) R10 hrc hry' h10 (q4.ext e10) λ μ11 R11=> ?_
 walk_at "w";exact hq own10 μ11 (q3.trans e10) R11
theorem WF (R:Rep K own σ μ) (hg:at_ own g (.row t)) (hw:at_ own w (.thing t)) (hsc:at_ own sc (.thing n)) (hrc:(σ.row t).c= .h es) (htc:(σ.th t).c= .h es) (hel:es.length < big) (hz:σ.zero.length < big) (hlk:σ.lkT t=false) (hq: ∀ own' μ',Ext own own'→Rep K own' (σ.putH t n (keyOf k) es) μ'→Q (.nxt ()) μ'):wp (gx (.obj K.counter) y2 y3 y4 y5 (.int (k:Int)) x g w sc) Q μ:=by
 walk_at "w";refine toI (zn R hg hrc) ?_
 walk_at "w";refine toI (U4) ?_
 walk_at "w";refine xO R hw htc λ tb htb=> ?_
 walk_at "w";refine toI (uo R htc htb) ?_
 walk_at "w";refine hW R htc htb λ ov hov=> ?_
 walk_at "w";refine xO R hw htc λ tb2 htb2=> ?_
 walk_at "w";refine bD R htc hlk htb2 hsc hel λ μ7 R7=> ?_
 have R7:Rep K own (σ.setC t (.h (aput (keyOf k) n es))) μ7:=R7
 unfold S.putH at hq
 cases hk:aget (keyOf k) es with
 | none =>
  rw [hk] at hov hq
  subst hov
  exact WE (key:=keyOf k) R7 hg hsc hrc hel hq
 | some o =>
  rw [hk] at hov hq
  have hnn:decide (ov= .none)=false:=by obtain ⟨i,rfl,_⟩:=hov;rfl
  walk_at "w";rw [hnn]
  walk_at "w";refine toI (zu R7) ?_
  walk_at "w";refine qC R7 hov hz λ μ8 R8=> ?_
  refine VO (key:=keyOf k) (n:=n) R8 hg hsc ?_ hel hq
  unfold S.letGo S.note;split <;> exact hrc
end
theorem U5 {place source:Nat} (h:(σ.row place).c.val.tgt=none):σ.putD place source k=σ:=by unfold S.putD;rw [h]
theorem U6 {place source t:Nat} (h:(σ.row place).c.val.tgt=some t):σ.putD place source k=match (σ.row t).c with
  | .s _=>σ
  | .a xs=>(σ.putT source).putA t (σ.last+1) xs
  | .h es=>(σ.putT source).putH t (σ.last+1) (keyOf k) es:=by unfold S.putD;rw [h]
theorem notS {c:Cont} (h: ¬ ∃ v,c= .s v):decide (c.kind="S")=false:=by
 cases c with
 | s v=>exact absurd ⟨v,rfl⟩ h
 | a xs=>rfl
 | h es=>rfl
theorem u7: ∀ pv:PV,(σ.freshV pv).real=σ.real∧(σ.freshV pv).wk=σ.wk∧(σ.freshV pv).lkR=σ.lkR∧(σ.freshV pv).lkW=σ.lkW∧(σ.freshV pv).lastRow=σ.lastRow∧(σ.freshV pv).row=σ.row∧(σ.freshV pv).lkT=σ.lkT:=λ pv=>by
 cases pv <;> exact ⟨rfl,rfl,rfl,rfl,rfl,rfl,rfl⟩
theorem VP {y1 y4 y6 w x g sc:AV} {source:Nat} {ps:PV} {Q:Fl Unit→Mem→Prop} (R:Rep K own (σ.freshV ps) μ) (hps:(σ.th source).c= .s ps) (hpr:(σ.row source).c= .s ps) (rm:Room σ) (sw:source∈σ.wk) (hsc:at_ own sc (.thing (σ.last+1)))
  (hq: ∀ own' μ',Ext own own'→Rep K own' (σ.putT source) μ'→wp (gx y1 (.obj K.world) (.obj K.real) y4 (.int (source:Int)) y6 x g w sc) Q μ'):wp (Vp y1 (.obj K.world) (.obj K.real) y4 (.int (source:Int)) y6 x g w sc) Q μ:=by
 obtain ⟨s1,s2,s3,s4,s5,s6,s7⟩:=u7 (σ:=σ) ps
 walk_at "w";refine toI (zp R hsc) ?_
 walk_at "w";refine vN R (by rw [s3];exact rm.lr) (by rw [s1];have:=rm.rl;exact (by omega)) (by rw [s1];exact λ h=>by have:=rm.rb _ h;exact Nat.lt_irrefl _ ‹_›) hsc λ μ3 R3=> ?_
 have R3:Rep K own ((σ.freshV ps).addReal (σ.last+1)) μ3:=R3
 walk_at "w";refine zj (n:=source) R3 (by show source∈(σ.freshV ps).wk;rw [s2];exact sw) λ sr hsr=> ?_
 walk_at "w";refine zw R3 hsr λ sy hsy=> ?_
 rw [show (((σ.freshV ps).addReal (σ.last+1)).row source).c= .s ps by show ((σ.freshV ps).row source).c=_;rw [s6];exact hpr] at hsy
 walk_at "w";refine kx R3 (pv:=ps) hsy λ own4 μ4 ty e4 hty R4=> ?_
 walk_at "w";refine ze R4 (.nw (.list [.str (Cont.s ps.strong).kind, .bool false, .bool false,ty])) (.inr (.inr rfl)) λ own5 μ5 a5 e5 h5 j5 b5 R5=> ?_
 walk_at "w";refine toI (zp R5 ((hsc.th e4).th e5)) ?_
 walk_at "w";refine us (c:= .s ps.strong) (bl:=false) R5 (by show (σ.freshV ps).lkW=false;rw [s4];exact rm.lw) (by show (σ.freshV ps).wk.length < big;rw [s2];have:=rm.wl;exact (by omega)) (by show σ.last+1∉(σ.freshV ps).wk;rw [s2];exact λ h=>by have:=rm.wb _ h;exact Nat.lt_irrefl _ ‹_›) (by show (σ.freshV ps).lastRow < σ.last+1;rw [s5];have:=rm.lb;exact Nat.lt_succ_of_le ‹_›) h5 (.inl ⟨_,rfl,hty.ext e5⟩) λ own6 μ6 e6 R6=> ?_
 refine hq own6 μ6 ((e4.trans e5).trans e6) ?_
 unfold S.putT;rw [hps,hpr];exact R6
theorem Xx {place source:Nat} (R:Rep K own σ μ) (ok:PutOk σ place source) (hq: ∀ own' μ',Ext own own'→Rep K own' (σ.putD place source k) μ'→Q .none μ'):wp (xS (.obj K.counter) (.obj K.world) (.obj K.real) (.int (place:Int)) (.int (source:Int)) (.int (k:Int))) Q μ:=by
 unfold xS wy
 walk_at "w";refine zj R ok.pw λ pr hpr=> ?_
 walk_at "w";refine zw R hpr λ y hy=> ?_
 obtain ⟨pv,hpv⟩:=ok.pc
 rw [hpv] at hy
 have htv:(σ.row place).c.val=pv:=by rw [hpv];rfl
 walk_at "w";refine toI (wj R (pv:=pv) hy) ?_
 cases hr:pv.isRef with
 | false =>
  walk_at "w";exact hq own μ Ext.refl (by rw [U5 (by rw [htv];cases pv <;> first | rfl | cases hr)];exact R)
 | true =>
  refine hideP λ PZ hZ=> ?_
  obtain ⟨t,ht⟩:=vW hr
  have hD:=U6 (k:=k) (source:=source) (htv ▸ ht)
  obtain ⟨t1,t2,t3,t4,t5⟩:=ok.tg t (htv ▸ ht)
  refine hZ ?_
  walk_at "w";refine toI (zS R (pv:=pv) hy ht) ?_
  walk_at "w";refine zj R t1 λ g hg=> ?_
  by_cases hS: ∃ v,(σ.row t).c= .s v
  ·obtain ⟨v,hc⟩:=hS
   walk_at "w";refine toI (zn R hg hc) ?_
   walk_at "w";exact hq own μ Ext.refl (by rw [hD,hc];exact R)
  ·walk_at "w";refine toI (Zz R hg) ?_
   walk_at "w";rw [notS hS]
   walk_at "w";refine toI (zS R (pv:=pv) hy ht) ?_
   walk_at "w";refine zj R t1 λ g' hg'=> ?_
   walk_at "w";refine toI (zS R (pv:=pv) hy ht) ?_
   walk_at "w";refine zE R t2 λ w hw=> ?_
   walk_at "w";refine ze R (.tm (.tup [g',w])) (.inr (.inl rfl)) λ own1 μ1 a1 e1 h1 j1 b1 R1=> ?_
   walk_at "w";refine toI (zu R1) ?_
   walk_at "w";refine zE R1 ok.sr λ sv hsv=> ?_
   obtain ⟨ps,hps1,hps2⟩:=ok.sc
   walk_at "w";refine yQ R1 hsv hps2 λ vx hvx=> ?_
   walk_at "w";refine gI R1 hvx ok.rm.lt λ own2 μ2 sc e2 hsc R2=> ?_
   refine VP R2 hps2 hps1 ok.rm ok.sw hsc λ own6 μ6 e6 R6=> ?_
   have e16:Ext own own6:=(e1.trans e2).trans e6
   obtain ⟨s1,s2,s3,s4,s5,s6,s7⟩:=u7 (σ:=σ) (σ.th source).c.val
   have hrow6:(σ.putT source).row t=σ.row t:=by
    unfold S.putT S.addRow
    rw [vg (Nat.ne_of_lt (Nat.lt_succ_of_le ‹_›))]
    show (σ.freshV _).row t=_
    rw [s6]
   have hth6:((σ.putT source).th t).c=(σ.row t).c:=t3 ▸ Xw t5
   cases hc:(σ.row t).c with
   | s v=>exact absurd ⟨v,hc⟩ hS
   | a xs =>
    rw [hc] at t4
    exact WD R6 (hg'.ext e16 rfl) (hw.th e16) (hsc.th e6) (hrow6 ▸ hc) (hth6 ▸ hc) t4 λ μ8 R8=>hq own6 μ8 e16 (by rw [hD,hc];exact R8)
   | h es =>
    rw [hc] at t4
    exact WF R6 (hg'.ext e16 rfl) (hw.th e16) (hsc.th e6) (hrow6 ▸ hc) (hth6 ▸ hc) (by simpa [zi] using t4) (by show (σ.freshV _).zero.length < _;rw [bS];have:=ok.rm.zl;exact (by omega)) (by show (σ.freshV _).lkT t=false;rw [s7];exact ok.rm.lt t) λ own8 μ8 e8 R8=>hq own8 μ8 (e16.trans e8) (by rw [hD,hc];exact R8)
end
noncomputable def S.copyD (σ:S) (place source:Nat):S:=(σ.store place (σ.th source).c.val).setRowV place (σ.row source).c.val.strong
noncomputable def S.setD (σ:S) (place:Nat) (v:PV):S:=(σ.store place v).setRowV place v
noncomputable def S.weakD (σ:S) (place:Nat):S:=match (σ.row place).c.val.tgt with
 | none=>σ.weaken place
 | some m=>(σ.weaken place).setRowV place (.weak m)
structure Ready (σ:S):Prop where
 rm:Room σ
 cl:Closed σ
 ro: ∀ i,i < 4→ ∃ r,σ.roots[i]? =some r∧LS σ r
 al: ∀ t∈σ.wk,t∈σ.real∧(σ.th t).c=(σ.row t).c∧(zi (σ.row t).c).length < big∧KeysOk (σ.row t).c∧t≤σ.last∧(σ.th t).weak.length < big
 wt: ∀ p m,p∈σ.wk→(σ.row p).c.val.tgt=some m→m∈σ.wk
inductive DeedOf (σ:S):S→Prop
 | new {place way:Nat} {b:Bool}:LS σ place→way < 3→DeedOf σ (σ.newD way place b)
 | copy {place source:Nat}:LS σ place→LS σ source→DeedOf σ (σ.copyD place source)
 | set {place:Nat} {v:PV}:LS σ place→v.tgt=none→DeedOf σ (σ.setD place v)
 | weak {place:Nat}:LS σ place→DeedOf σ (σ.weakD place)
 | put {place source k:Nat}:LS σ place→LS σ source→DeedOf σ (σ.putD place source k)
 | taken {place:Nat}:LS σ place→DeedOf σ (σ.takenD place)
 | nop:DeedOf σ σ
section
variable {K:Ad} {own own':Own} {σ σ':S} {μ μ':Mem} {α:Type}
variable {Q:AV→Mem→Prop} {v c s x:AV} {n k q:Nat}
theorem ky:(σ.letGo n).row=σ.row:=by unfold S.letGo S.note;split <;> rfl
theorem gT:(σ.letGo n).wk=σ.wk:=by unfold S.letGo S.note;split <;> rfl
theorem vj {pv:PV}:(σ.store n pv).row=σ.row:=by
 unfold S.store
 generalize (σ.th n).c.val=old
 have:((σ.take pv).setVal n pv.strong).row=σ.row:=by cases pv <;> rfl
 cases old with
 | ref m=>exact ky.trans this
 | _=>exact this
theorem vX {pv:PV}:(σ.store n pv).wk=σ.wk:=by
 unfold S.store
 generalize (σ.th n).c.val=old
 have:((σ.take pv).setVal n pv.strong).wk=σ.wk:=by cases pv <;> rfl
 cases old with
 | ref m=>exact gT.trans this
 | _=>exact this
theorem Ready.store (rd:Ready σ) {p:Nat} (h:LS σ p):p∈σ.real∧StoreOk σ p:=by
 refine hideP λ PZ hZ=> ?_
 obtain ⟨h1,v,h2⟩:=h
 obtain ⟨a1,a2,a3,a4,a5,a6⟩:=rd.al p h1
 refine hZ ?_
 refine ⟨a1,by have:=rd.rm.zl;lia,v,a2.trans h2,λ m hm=> ?_⟩
 have hm':m∈σ.wk:=rd.wt p m h1 (by rw [h2];show v.tgt=some m;rw [hm];rfl)
 obtain ⟨b1,b2,b3,b4,b5,b6⟩:=rd.al m hm'
 exact ⟨Nat.le_of_lt b6,b5⟩
theorem bT {place:Nat} (R:Rep K own σ μ) (rd:Ready σ) (hp:LS σ place) (hq: ∀ own' μ',Ext own own'→Rep K own' (σ.takenD place) μ'→Q .none μ'):wp (y8 (.obj K.counter) (.obj K.world) (.obj K.real) (.int (place:Int))) Q μ:=by
 unfold y8 xM
 walk_at "w";refine zj R hp.1 λ pr hpr=> ?_
 walk_at "w";refine zw R hpr λ y hy=> ?_
 obtain ⟨pv,hpv⟩:=hp.2
 rw [hpv] at hy
 unfold S.takenD at hq
 have htv:(σ.row place).c.val=pv:=by rw [hpv];rfl
 rw [htv] at hq
 walk_at "w";refine toI (wj R (pv:=pv) hy) ?_
 cases hr:pv.isRef with
 | false =>
  have:pv.tgt=none:=by cases pv <;> first | rfl | cases hr
  rw [this] at hq
  walk_at "w";exact hq own μ Ext.refl R
 | true =>
  refine hideP λ PZ hZ=> ?_
  obtain ⟨t,ht⟩:=vW hr
  rw [ht] at hq
  dsimp only at hq
  have t1:t∈σ.wk:=rd.wt place t hp.1 (by rw [htv];exact ht)
  obtain ⟨t2,t3,t4,t4',t5,t6⟩:=rd.al t t1
  refine hZ ?_
  walk_at "w";refine toI (zS R (pv:=pv) hy ht) ?_
  walk_at "w";refine zj R t1 λ g hg=> ?_
  cases hc:(σ.row t).c with
  | s v =>
   simp only [hc] at hq
   walk_at "w";refine toI (zn R hg hc) ?_
   walk_at "w";exact hq own μ Ext.refl R
  | a xs =>
   simp only [hc] at hq
   rw [hc] at t3
   walk_at "w";refine toI (zn R hg hc) ?_
   walk_at "w";refine toI (zS R (pv:=pv) hy ht) ?_
   walk_at "w";refine zj R t1 λ g' hg'=> ?_
   walk_at "w";refine zw R hg' λ z hz=> ?_
   rw [hc] at hz
   walk_at "w";refine ze R (.tm (.list [])) (.inr (.inl rfl)) λ own1 μ1 a1 e1 h1 j1 b1 R1=> ?_
   obtain ⟨i,rfl,hi,e⟩:=R1.innA (n:=t) hc (at_.ext e1 rfl hz)
   walk_at "w";refine toI (yx e (ys:=[]) (R1.tm h1)) ?_
   cases xs with
   | nil =>
    walk_at "w";exact hq own1 μ1 e1 R1
   | cons m xs =>
    walk_at "w";refine toI (zS R1 (pv:=pv) (VW.ext hy e1) ht) ?_
    walk_at "w";refine zj R1 t1 λ g2 hg2=> ?_
    walk_at "w";refine toI (zS R1 (pv:=pv) (VW.ext hy e1) ht) ?_
    walk_at "w";refine zE R1 t2 λ w hw=> ?_
    walk_at "w";refine ze R1 (.tm (.tup [g2,w])) (.inr (.inl rfl)) λ own2 μ2 a2 e2 h2 j2 b2 R2=> ?_
    walk_at "w";refine zw R2 (hg2.ext e2 rfl) λ z2 hz2=> ?_
    rw [hc] at hz2
    walk_at "w";refine toI (wK (n:=t) R2 (by rw [hc];nofun) hz2) ?_
    walk_at "w";refine Yt (n:=t) R2 hc hz2 λ μ3 R3=> ?_
    have R3:Rep K own2 (σ.setRC t (.a xs)) μ3:=R3
    walk_at "w";refine toI (zn R3 (hg2.ext e2 rfl) (c:= .a xs) (by unfold S.setRC;rw [zr])) ?_
    walk_at "w";refine toI (zu R3) ?_
    walk_at "w";refine vL R3 (hw.th e2) t3 λ it hit=> ?_
    walk_at "w";refine toI (um R3 t3 hit) ?_
    walk_at "w";refine bC R3 t3 hit λ mv μ4 hmv R4=> ?_
    walk_at "w";refine qC R4 hmv (by show σ.zero.length < big;have:=rd.rm.zl;lia) λ μ5 R5=> ?_
    walk_at "w";exact hq own2 μ5 (e1.trans e2) R5
  | h es =>
   simp only [hc] at hq
   rw [hc] at t3 t4'
   walk_at "w";refine toI (zn R hg hc) ?_
   walk_at "w";refine toI (zS R (pv:=pv) hy ht) ?_
   walk_at "w";refine zj R t1 λ g' hg'=> ?_
   walk_at "w";refine zw R hg' λ z hz=> ?_
   rw [hc] at hz
   walk_at "w";refine ze R (.tm (.list [])) (.inr (.inl rfl)) λ own1 μ1 a1 e1 h1 j1 b1 R1=> ?_
   obtain ⟨i,vs,rfl,hi,hv,e⟩:=R1.innH (n:=t) hc (at_.ext e1 rfl hz)
   walk_at "w";refine toI (xm (zF (n:=2) e (uA R1 hv)) (zF (n:=2) (ds:=[]) (R1.tm h1) .nil) (λ _ _ h=>by cases h)) ?_
   cases es with
   | nil =>
    walk_at "w";exact hq own1 μ1 e1 R1
   | cons e0 es =>
    walk_at "w";refine toI (zS R1 (pv:=pv) (VW.ext hy e1) ht) ?_
    walk_at "w";refine zj R1 t1 λ g2 hg2=> ?_
    walk_at "w";refine toI (zS R1 (pv:=pv) (VW.ext hy e1) ht) ?_
    walk_at "w";refine zE R1 t2 λ w hw=> ?_
    walk_at "w";refine ze R1 (.tm (.tup [g2,w])) (.inr (.inl rfl)) λ own2 μ2 a2 e2 h2 j2 b2 R2=> ?_
    walk_at "w";refine zw R2 (hg2.ext e2 rfl) λ z2 hz2=> ?_
    rw [hc] at hz2
    walk_at "w";refine toI (wK (n:=t) R2 (by rw [hc];nofun) hz2) ?_
    walk_at "w";refine Yv (n:=t) R2 hc hz2 λ gp μ3 hgp R3=> ?_
    have R3:Rep K own2 (σ.setRC t (.h es)) μ3:=R3
    walk_at "w";refine toI (zn R3 (hg2.ext e2 rfl) (c:= .h es) (by unfold S.setRC;rw [zr])) ?_
    walk_at "w";refine toI (zu R3) ?_
    walk_at "w";refine xO R3 (hw.th e2) t3 λ it hit=> ?_
    walk_at "w";refine toI (uo R3 t3 hit) ?_
    walk_at "w";refine toI (jo R3 hgp) ?_
    walk_at "w";refine bE R3 t3 (rd.rm.lt t) hit (m:=e0.2) (by rw [wD];simp) λ mv μ4 hmv R4=> ?_
    walk_at "w";refine qC R4 hmv (by show σ.zero.length < big;have:=rd.rm.zl;lia) λ μ5 R5=> ?_
    walk_at "w";exact hq own2 μ5 (e1.trans e2) R5
theorem Ready.putOk (rd:Ready σ) {p s:Nat} (hp:LS σ p) (hs:LS σ s):PutOk σ p s:=by
 obtain ⟨v,hv⟩:=hs.2
 obtain ⟨a1,a2,a3,a4,a5,a6⟩:=rd.al s hs.1
 refine ⟨rd.rm,hp.1,hs.1,a1,hp.2,⟨v,hv,a2.trans hv⟩,λ t ht=> ?_⟩
 have t1:=rd.wt p t hp.1 ht
 obtain ⟨t2,t3,t4,t4',t5,t6⟩:=rd.al t t1
 exact ⟨t1,t2,t3,t4,t5⟩
theorem VQ {n:Nat} (R:Rep K own σ μ) (rd:Ready σ) (hnew: ∀ way place b,LS σ place→way < 3→StoreOk (σ.newT way b) place∧ ∃ v,((σ.newT way b).row place).c= .s v) (hq: ∀ own' μ' σ',Ext own own'→DeedOf σ σ'→Rep K own' σ' μ'→Q .none μ'):wp (xA (.obj K.counter) (.obj K.world) (.obj K.real) (.obj K.roots) (.int (n:Int))) Q μ:=by
 unfold xA xZ
 walk_at "w";refine ze R (.tm (.tup [.int ((n % 10:Nat):Int), .int ((n / 160:Nat):Int)])) (.inr (.inl rfl)) λ own1 μ1 a1 e1 h1 j1 b1 R1=> ?_
 obtain ⟨r1,hr1,hl1⟩:=rd.ro (n / 10 % 4) (Nat.mod_lt _ (by decide))
 walk_at "w";refine toI (wL R1 (m:=r1) hr1) ?_
 walk_at "w";refine gS R1 rd.cl hl1 λ own2 μ2 source e2 hsrc R2=> ?_
 obtain ⟨r2,hr2,hl2⟩:=rd.ro (n / 40 % 4) (Nat.mod_lt _ (by decide))
 walk_at "w";refine toI (wL R2 (m:=r2) hr2) ?_
 walk_at "w";refine gS R2 rd.cl hl2 λ own3 μ3 place e3 hpl R3=> ?_
 have e03:=(e1.trans e2).trans e3
 generalize hk:n / 160=k
 have hway:n % 10 < 10:=Nat.mod_lt _ (by decide)
 generalize n % 10=way at *
 obtain ⟨hp1,hp2⟩:=rd.store hpl
 obtain ⟨hs1,hs2⟩:=rd.store hsrc
 have hsrcC: ∃ v,(σ.row source).c= .s v∧(σ.th source).c= .s v:=by
  obtain ⟨v,hv⟩:=hsrc.2
  exact ⟨v,hv,(rd.al source hsrc.1).2.1.trans hv⟩
 obtain ⟨vp,hvp⟩:=hpl.2
 have hthp:=(rd.al place hpl.1).2.1.trans hvp
 by_cases w3:way < 3
 ·have:(way:Int) < 3:=by lia
  walk_at "w";simp only [this];walk_at "w"
  obtain ⟨q1,q2⟩:=hnew way place (decide (k / 9 % 2=1)) hpl w3
  walk_at "w";refine Xu R3 rd.rm w3 hp1 hpl.1 q1 q2 λ own4 μ4 e4 R4=> ?_
  walk_at "w";exact hq own4 μ4 _ (e03.trans e4) (.new hpl w3) R4
 ·have: ¬ (way:Int) < 3:=by lia
  walk_at "w";simp only [this];walk_at "w"
  by_cases w:way=3
  ·have:(way:Int)=3:=by lia
   walk_at "w";simp only [this];walk_at "w"
   walk_at "w";refine toI (zu R3) ?_
   walk_at "w";refine zE R3 hp1 λ pt hpt=> ?_
   walk_at "w";refine zE R3 hs1 λ st hst=> ?_
   obtain ⟨sv,hsv1,hsv2⟩:=hsrcC
   walk_at "w";refine yQ R3 hst hsv2 λ vx hvx=> ?_
   obtain ⟨old,ho1,ho2⟩:=hp2.sc
   walk_at "w";refine wT R3 hpt ho1 hvx hp2.zb ho2 λ own4 μ4 e4 R4=> ?_
   walk_at "w";refine zj R4 (n:=source) (by rw [vX];exact hsrc.1) λ sr hsr=> ?_
   walk_at "w";refine zw R4 hsr λ sy hsy=> ?_
   rw [vj,hsv1] at hsy
   walk_at "w";refine kx R4 (pv:=sv) hsy λ own5 μ5 ty e5 hty R5=> ?_
   walk_at "w";refine zj R5 (n:=place) (by rw [vX];exact hpl.1) λ pr hpr=> ?_
   walk_at "w";refine yR (pv:=sv.strong) R5 hpr (by rw [vj];exact hvp) hty λ μ6 R6=> ?_
   walk_at "w";refine hq own5 μ6 (σ.copyD place source) (e03.trans (e4.trans e5)) (.copy hpl hsrc) ?_
   unfold S.copyD
   rw [hsv1,hsv2];exact R6
  ·have: ¬ (way:Int)=3:=by lia
   walk_at "w";simp only [this];walk_at "w"
   by_cases w4:way=4
   ·have t4:(way:Int)=4:=by lia
    walk_at "w";simp only [t4];walk_at "w"
    walk_at "w";refine toI (zu R3) ?_
    walk_at "w";refine zE R3 hp1 λ pt hpt=> ?_
    obtain ⟨old,ho1,ho2⟩:=hp2.sc
    walk_at "w";refine wT (pv:=(.int k)) R3 hpt ho1 rfl hp2.zb ho2 λ own4 μ4 e4 R4=> ?_
    walk_at "w";refine zj R4 (n:=place) (by rw [vX];exact hpl.1) λ pr hpr=> ?_
    walk_at "w";refine yR (pv:=(.int k)) R4 hpr (by rw [vj];exact hvp) rfl λ μ6 R6=> ?_
    walk_at "w";exact hq own4 μ6 (σ.setD place (.int k)) (e03.trans e4) (.set hpl rfl) R6
   ·have t4: ¬ (way:Int)=4:=by lia
    walk_at "w";simp only [t4];walk_at "w"
    by_cases w8:way=8
    ·have:(way:Int)=8:=by lia
     walk_at "w";simp only [this];walk_at "w"
     (try simp only [show ¬ ((8:Int)=4) by decide]);walk_at "w"
     walk_at "w";refine toI (zu R3) ?_
     walk_at "w";refine zE R3 hp1 λ pt hpt=> ?_
     obtain ⟨old,ho1,ho2⟩:=hp2.sc
     walk_at "w";refine wT (pv:= .none) R3 hpt ho1 rfl hp2.zb ho2 λ own4 μ4 e4 R4=> ?_
     walk_at "w";refine zj R4 (n:=place) (by rw [vX];exact hpl.1) λ pr hpr=> ?_
     walk_at "w";refine yR (pv:= .none) R4 hpr (by rw [vj];exact hvp) rfl λ μ6 R6=> ?_
     walk_at "w";exact hq own4 μ6 (σ.setD place .none) (e03.trans e4) (.set hpl rfl) R6
    ·have: ¬ (way:Int)=8:=by lia
     walk_at "w";simp only [this];walk_at "w"
     by_cases w5:way=5
     ·have:(way:Int)=5:=by lia
      walk_at "w";simp only [this];walk_at "w"
      walk_at "w";refine zE R3 hp1 λ pt hpt=> ?_
      walk_at "w";refine Xm R3 hpt hthp hp2.zb (λ m hm=> ?_) λ own4 μ4 e4 R4=> ?_
      ·have hm':m∈σ.wk:=rd.wt place m hpl.1 (by rw [hvp];show vp.tgt=some m;rw [hm];rfl)
       exact (rd.al m hm').2.2.2.2.2
      ·have hwr:(σ.weaken place).row=σ.row∧(σ.weaken place).wk=σ.wk:=by
        unfold S.weaken
        split
        ·exact ⟨ky,gT⟩
        ·exact ⟨rfl,rfl⟩
       walk_at "w";refine zj R4 (n:=place) (by rw [hwr.2];exact hpl.1) λ pr hpr=> ?_
       walk_at "w";refine zw R4 hpr λ sy hsy=> ?_
       rw [hwr.1,hvp] at hsy
       walk_at "w";refine toI (wj R4 (pv:=vp) hsy) ?_
       have hval:(σ.row place).c.val=vp:=by rw [hvp];rfl
       cases hr:vp.isRef with
       | false =>
        have hn:vp.tgt=none:=by cases vp <;> first | rfl | cases hr
        walk_at "w";refine hq own4 μ4 (σ.weakD place) (e03.trans e4) (.weak hpl) ?_
        unfold S.weakD
        rw [hval,hn];exact R4
       | true =>
        obtain ⟨t,ht⟩:=vW hr
        walk_at "w";refine zj R4 (n:=place) (by rw [hwr.2];exact hpl.1) λ pr2 hpr2=> ?_
        walk_at "w";refine zw R4 hpr2 λ sy2 hsy2=> ?_
        rw [hwr.1,hvp] at hsy2
        walk_at "w";refine toI (zS R4 (pv:=vp) hsy2 ht) ?_
        walk_at "w";refine xl (b:=true) R4 λ own5 μ5 ty e5 hty R5=> ?_
        walk_at "w";refine zj R5 (n:=place) (by rw [hwr.2];exact hpl.1) λ pr3 hpr3=> ?_
        walk_at "w";refine yR (pv:= .weak t) R5 hpr3 (by rw [hwr.1];exact hvp) hty λ μ6 R6=> ?_
        walk_at "w";refine hq own5 μ6 (σ.weakD place) (e03.trans (e4.trans e5)) (.weak hpl) ?_
        unfold S.weakD
        rw [hval,ht];exact R6
     ·have: ¬ (way:Int)=5:=by lia
      walk_at "w";simp only [this];walk_at "w"
      by_cases w6:way=6
      ·have:(way:Int)=6:=by lia
       walk_at "w";simp only [this];walk_at "w"
       walk_at "w";refine Xx R3 (rd.putOk hpl hsrc) λ own4 μ4 e4 R4=> ?_
       walk_at "w";exact hq own4 μ4 _ (e03.trans e4) (.put hpl hsrc) R4
      ·have: ¬ (way:Int)=6:=by lia
       walk_at "w";simp only [this];walk_at "w"
       by_cases w7:way=7
       ·have:(way:Int)=7:=by lia
        walk_at "w";simp only [this];walk_at "w"
        walk_at "w";refine bT R3 rd hpl λ own4 μ4 e4 R4=> ?_
        walk_at "w";exact hq own4 μ4 _ (e03.trans e4) (.taken hpl) R4
       ·have: ¬ (way:Int)=7:=by lia
        walk_at "w";simp only [this];walk_at "w"
        walk_at "w";exact hq own3 μ3 σ e03 .nop R3
end
structure InvD (D:List Nat) (B:Nat) (σ:S):Prop where
 lw:σ.lkW=false
 lr:σ.lkR=false
 lt: ∀ n,σ.lkT n=false
 nd:σ.wk.Nodup
 sub: ∀ n∈σ.wk,n∈σ.real
 rb: ∀ n∈σ.real,n≤σ.last
 lb:σ.lastRow≤σ.last
 fr: ∀ n∈σ.real,(σ.th n).fr=decide (n∉σ.wk)
 cc: ∀ n∈σ.wk,(σ.th n).c=(σ.row n).c
 bl: ∀ n∈σ.wk,(σ.th n).bl=(σ.row n).bl
 ds: ∀ n∈σ.wk,(σ.th n).ds=(σ.row n).ds
 ct: ∀ n∈σ.wk,(σ.th n).cnt=σ.deg n
 tg: ∀ n∈σ.wk,∀ m,m∈goals (σ.row n).c∨(σ.row n).c= .s (.weak m)→m∈σ.wk
 ms: ∀ n∈σ.wk,∀ m∈zi (σ.row n).c,∃ v,(σ.row m).c= .s v
 gn: ∀ n∈σ.wk,(goals (σ.row n).c).Nodup
 ko: ∀ n∈σ.wk,KeysOk (σ.row n).c
 we: ∀ t∈σ.wk,∀ s,s∈(σ.th t).weak↔(s∈σ.wk∧(σ.row s).c= .s (.weak t))
 wn: ∀ t∈σ.wk,(σ.th t).weak.Nodup
 ro: ∀ r∈σ.roots,LS σ r
 zm: ∀ n∈σ.wk,σ.deg n=0→n∈σ.zero∨n∈D
 zs: ∀ n∈σ.zero,n∈σ.real
 hl:σ.heard=σ.log
 ll:σ.log.length≤(σ.real.filter λ n=>(σ.th n).ds).length
 rl:σ.real.length≤B
 r4:σ.roots.length≤4
abbrev Inv:=InvD []
theorem yY {row row':Nat→Row} {ns:List Nat} {n:Nat} (h: ∀ m∈ns,(goals (row' m).c).count n=(goals (row m).c).count n):zg row' ns n=zg row ns n:=by
 unfold zg
 congr 1
 exact List.map_congr_left λ m hm=>h m hm
theorem bU {row:Nat→Row} {ns:List Nat} {n s:Nat} {r:Row} (nd:ns.Nodup) (hs:s∈ns):zg (λ m=>if m=s then r else row m) ns n+(goals (row s).c).count n=zg row ns n+(goals r.c).count n:=by
 induction ns with
 | nil=>simp at hs
 | cons a ns ih =>
  simp only [List.nodup_cons] at nd
  unfold zg
  simp only [List.map_cons,List.sum_cons]
  by_cases q:a=s
  ·subst q
   have:zg (λ m=>if m=a then r else row m) ns n=zg row ns n:=yY λ m hm=>by
    have:m≠a:=λ z=>nd.1 (z ▸ hm)
    simp [this]
   unfold zg at this
   rw [this]
   simp only [if_true]
   lia
  ·have h:=ih nd.2 (by rcases List.mem_cons.mp hs with h | h
                       ·exact absurd h.symm q
                       ·exact h)
   unfold zg at h
   dsimp only at h
   simp only [q,if_false]
   lia
theorem gc {row:Nat→Row} {ns:List Nat} {n a:Nat} (ha:a∈ns):zg row (ns.erase a) n+(goals (row a).c).count n=zg row ns n:=by
 induction ns with
 | nil=>simp at ha
 | cons b ns ih =>
  rw [List.erase_cons]
  by_cases q:b=a
  ·subst b
   simp only [beq_self_eq_true,if_true]
   unfold zg
   simp only [List.map_cons,List.sum_cons]
   exact Nat.add_comm _ _
  ·simp only [beq_eq_false_iff_ne.mpr q,Bool.false_eq_true,if_false]
   have h:=ih (by rcases List.mem_cons.mp ha with h | h
                  ·exact absurd h.symm q
                  ·exact h)
   unfold zg at h ⊢
   simp only [List.map_cons,List.sum_cons]
   lia
theorem bV {row:Nat→Row} {ns:List Nat} {n a:Nat}:zg row (ns ++ [a]) n=zg row ns n+(goals (row a).c).count n:=by
 unfold zg;simp
theorem uB {row:Nat→Row} {ns:List Nat} {n:Nat} (h:zg row ns n=0): ∀ m∈ns,n∉goals (row m).c:=by
 induction ns with
 | nil=>intro m hm;simp at hm
 | cons b ns ih =>
  unfold zg at h
  simp only [List.map_cons,List.sum_cons] at h
  intro m hm
  rcases List.mem_cons.mp hm with rfl | hm
  ·exact List.count_eq_zero.mp (by lia)
  ·exact ih (by unfold zg;lia) m hm
theorem vC {row:Nat→Row} {ns:List Nat} {n m:Nat} (hm:m∈ns) (h:n∈goals (row m).c):0 < zg row ns n:=by
 rcases Nat.eq_zero_or_pos (zg row ns n) with q | q
 ·exact absurd h (uB q m hm)
 ·exact q
section
variable {D:List Nat} {B:Nat} {σ:S} {n m s:Nat} {pv:PV}
theorem InvD.deg_zero (I:InvD D B σ) (h:σ.deg n=0):n∉σ.roots∧ ∀ m∈σ.wk,n∉goals (σ.row m).c:=by
 unfold S.deg at h
 exact ⟨List.count_eq_zero.mp (by lia),uB (by lia)⟩
theorem wc {l l':List Nat} (nd:l.Nodup) (h: ∀ x∈l,x∈l'):l.length≤l'.length:=by
 induction l generalizing l' with
 | nil=>exact Nat.zero_le _
 | cons a l ih =>
  simp only [List.nodup_cons] at nd
  have ha:=h a (.head _)
  have h1:=ih nd.2 (l':=l'.erase a) λ x hx=>(List.mem_erase_of_ne (show x≠a from λ q=>nd.1 (by rw [← q];exact hx))).mpr (h x (List.mem_cons_of_mem _ hx))
  have h2:=List.length_erase_of_mem ha
  have h3:=List.length_pos_of_mem ha
  simp only [List.length_cons]
  lia
theorem InvD.wl (I:InvD D B σ):σ.wk.length≤B:=Nat.le_trans (wc I.nd I.sub) I.rl
theorem InvD.gl (I:InvD D B σ) (h:n∈σ.wk):(goals (σ.row n).c).length≤B:=Nat.le_trans (wc (I.gn n h) λ m hm=>I.tg n h m (.inl hm)) I.wl
theorem gd {c:Cont}:(zi c).length≤(goals c).length:=by
 cases c with
 | s v=>exact Nat.zero_le _
 | a xs=>exact Nat.le_refl _
 | h es=>exact Nat.le_refl _
theorem wB {c:Cont}: ∀ x∈zi c,x∈goals c:=by
 cases c with
 | s v=>intro x hx;simp [zi] at hx
 | a xs=>exact λ x h=>h
 | h es=>exact λ x h=>h
theorem InvD.ml (I:InvD D B σ) (h:n∈σ.wk):(zi (σ.row n).c).length≤B:=Nat.le_trans gd (I.gl h)
theorem YF {row:Nat→Row} {ns:List Nat} {b:Nat} (h: ∀ m∈ns,(goals (row m).c).length≤b):y9 row ns≤ns.length * b:=by
 induction ns with
 | nil=>exact Nat.zero_le _
 | cons a ns ih =>
  have h1:=ih λ m hm=>h m (List.mem_cons_of_mem _ hm)
  have h2:=h a (.head _)
  unfold y9 at h1 ⊢
  simp only [List.map_cons,List.sum_cons,List.length_cons]
  rw [Nat.add_mul]
  lia
theorem InvD.degLen (I:InvD D B σ):σ.degLen≤4+B * B:=by
 unfold S.degLen
 have h1:=YF (row:=σ.row) (ns:=σ.wk) λ m hm=>I.gl hm
 have h2:=I.r4
 have h3:=Nat.mul_le_mul_right B I.wl
 lia
theorem InvD.wkl (I:InvD D B σ) (h:n∈σ.wk):(σ.th n).weak.length≤B:=Nat.le_trans (wc (I.wn n h) λ s hs=>((I.we n h s).mp hs).1) I.wl
end
noncomputable def hit (p:Prop) [Decidable p]:Int:=if p then 1 else 0
theorem yS {p:Prop} [Decidable p] (h:p):hit p=1:=if_pos h
theorem vY {p:Prop} [Decidable p]:hit p=((if p then 1 else 0:Nat):Int):=by unfold hit;split <;> rfl
theorem thC {t:Th} {a b:Int} (h:a=b):({t with cnt:=a}:Th)= {t with cnt:=b}:=by rw [h]
theorem thM {c:Cont} {a b:Int} {x y z:Bool} {w:List Nat} (h:a=b):Th.mk c a x y z w=Th.mk c b x y z w:=by rw [h]
theorem xg {p:Prop} [Decidable p] (h: ¬ p):hit p=0:=if_neg h
section
variable {D:List Nat} {B:Nat} {σ:S} {n m s:Nat} {pv old:PV}
abbrev S.tz (σ:S) (f:Nat→Th) (z:List Nat):S:= {σ with th:=f,zero:=z}
theorem iteN {α:Type} {f:Nat→α} (u:α→α):(if n=m then u (f m) else f n)=if n=m then u (f n) else f n:=by
 by_cases q:n=m
 ·rw [if_pos q,if_pos q,q]
 ·rw [if_neg q,if_neg q]
theorem U7 {p:Prop} [d:Decidable p] {t:Th} {v:Cont}:(if p then {t with c:=v} else t)= {t with c:=if p then v else t.c}:=by cases d <;> rfl
theorem H8 {p:Prop} [d:Decidable p] {t:Th} {v:Int}:(if p then {t with cnt:=v} else t)= {t with cnt:=if p then v else t.cnt}:=by cases d <;> rfl
theorem Gx {p:Prop} [d:Decidable p] {t:Th} {v:Bool}:(if p then {t with ds:=v} else t)= {t with ds:=if p then v else t.ds}:=by cases d <;> rfl
theorem Gy {p:Prop} [d:Decidable p] {t:Th} {v:Bool}:(if p then {t with fr:=v} else t)= {t with fr:=if p then v else t.fr}:=by cases d <;> rfl
theorem H9 {p:Prop} [d:Decidable p] {t:Th} {v:List Nat}:(if p then {t with weak:=v} else t)= {t with weak:=if p then v else t.weak}:=by cases d <;> rfl
theorem Vs {p:Prop} [d:Decidable p] {t:Row} {v:Cont}:(if p then {t with c:=v} else t)= {t with c:=if p then v else t.c}:=by cases d <;> rfl
theorem Gu {p:Prop} [d:Decidable p] {t:Row} {v:Bool}:(if p then {t with ds:=v} else t)= {t with ds:=if p then v else t.ds}:=by cases d <;> rfl
theorem wF {c:Int}:σ.setCnt m c=σ.tz (λ n=> {σ.th n with cnt:=if n=m then c else (σ.th n).cnt}) σ.zero:=thE λ n=>(iteN λ t:Th=> {t with cnt:=c}).trans H8
theorem kz:σ.setVal m pv=σ.tz (λ n=> {σ.th n with c:=if n=m then .s pv else (σ.th n).c}) σ.zero:=thE λ n=>(iteN λ t:Th=> {t with c:= .s pv}).trans U7
theorem jW {W:List Nat}:σ.setWeak m W=σ.tz (λ n=> {σ.th n with weak:=if n=m then W else (σ.th n).weak}) σ.zero:=thE λ n=>(iteN λ t:Th=> {t with weak:=W}).trans H9
abbrev S.tzr (σ:S) (f:Nat→Th) (z:List Nat) (g:Nat→Row):S:= {σ with th:=f,zero:=z,row:=g}
theorem jX:σ.setRowV m pv=σ.tzr σ.th σ.zero (λ n=> {σ.row n with c:=if n=m then .s pv else (σ.row n).c}):=congrArg (σ.tzr σ.th σ.zero) (funext λ n=>(iteN λ t:Row=> {t with c:= .s pv}).trans Vs)
theorem wO:σ.take pv=σ.tz (λ n=> {σ.th n with cnt:=(σ.th n).cnt+hit (pv.tgt=some n)}) σ.zero:=by
 have idle: ∀ σ:S,σ= {σ with th:=λ n=> {σ.th n with cnt:=(σ.th n).cnt+0}}:=λ σ=>thE λ n=>thC (t:=σ.th n) (Int.add_zero _).symm
 have held: ∀ m,σ.hold m= {σ with th:=λ n=> {σ.th n with cnt:=(σ.th n).cnt+hit (some m=some n)}}:=λ m=>by
  unfold S.hold
  rw [wF]
  refine thE λ n=>thC ?_
  by_cases q:n=m
  ·rw [if_pos q,yS (by rw [q]),q]
  ·rw [if_neg q,xg (λ z=>q (Option.some.inj z).symm),Int.add_zero]
 cases pv with
 | none=>exact idle σ
 | int i=>exact idle σ
 | ref m=>exact held m
 | weak m=>exact held m
noncomputable def zlist (f:Nat→Int):PV→List Nat
 | .ref m=>if f m - 1=0 then [m] else []
 | _=>[]
theorem xo:σ.letGo m=σ.tz (λ n=> {σ.th n with cnt:=(σ.th n).cnt - hit (n=m)}) (σ.zero ++ if (σ.th m).cnt - 1=0 then [m] else []):=by
 have e:σ.setCnt m ((σ.th m).cnt - 1)= {σ with th:=λ n=> {σ.th n with cnt:=(σ.th n).cnt - hit (n=m)}}:=by
  rw [wF]
  refine thE λ n=>thC ?_
  by_cases q:n=m
  ·rw [if_pos q,yS q,q]
  ·rw [if_neg q,xg q,Int.sub_zero]
 unfold S.letGo
 rw [e]
 unfold S.note
 have h1:(σ.th m).cnt - hit (m=m)=(σ.th m).cnt - 1:=by rw [yS rfl]
 by_cases z:(σ.th m).cnt - 1=0
 ·rw [if_pos (show (σ.th m).cnt - hit (m=m)=0 by rw [h1];exact z),if_pos z]
 ·rw [if_neg (show ¬ (σ.th m).cnt - hit (m=m)=0 by rw [h1];exact z),if_neg z,List.append_nil]
theorem idle0:σ=σ.tz (λ n=> {σ.th n with cnt:=(σ.th n).cnt - 0}) (σ.zero ++ []):=by
 rw [List.append_nil];exact thE λ n=>thC (t:=σ.th n) (Int.sub_zero _).symm
theorem uC:σ.putOff s old=σ.tz (λ n=> {σ.th n with cnt:=(σ.th n).cnt - hit (old= .ref n),weak:=if old= .weak n then (σ.th n).weak.filter (· ≠s) else (σ.th n).weak}) (σ.zero ++ zlist (λ m=>(σ.th m).cnt) old):=by
 cases old with
 | none=>exact idle0
 | int i=>exact idle0
 | ref m =>
  show σ.letGo m=_
  rw [xo]
  refine thE λ n=> ?_
  show _=({σ.th n with cnt:=(σ.th n).cnt - hit (PV.ref m= .ref n)}:Th)
  refine thC ?_
  by_cases q:n=m
  ·rw [yS q,yS (by rw [q])]
  ·rw [xg q,xg (λ z=>q (PV.ref.inj z).symm)]
 | weak m =>
  show σ.setWeak m _=σ.tz _ (σ.zero ++ [])
  rw [jW,List.append_nil]
  refine thE λ n=> ?_
  by_cases q:n=m
  ·cases q;rw [if_pos rfl,if_pos rfl];exact thM (Int.sub_zero _).symm
  ·rw [if_neg q,if_neg λ z=>q (PV.weak.inj z).symm];exact thM (Int.sub_zero _).symm
theorem xp (hc:(σ.th s).c= .s old):σ.store s pv=σ.tz
  (λ n=> {σ.th n with c:=if n=s then .s pv.strong else (σ.th n).c,cnt:=(σ.th n).cnt+hit (pv.tgt=some n) - hit (old= .ref n),weak:=if old= .weak n then (σ.th n).weak.filter (· ≠s) else (σ.th n).weak})
  (σ.zero ++ zlist (λ m=>(σ.th m).cnt+hit (pv.tgt=some m)) old):=by
 unfold S.store
 rw [hc,wO,kz]
 show S.putOff _ s old=_
 rw [uC]
noncomputable def S.jstore (σ:S) (s:Nat) (pv:PV):S:=(σ.store s pv).setRowV s pv.strong
theorem wW:(goals (.s pv.strong)).count n=if pv.tgt=some n then 1 else 0:=by
 cases pv with
 | none=>rfl
 | int i=>rfl
 | ref m=>show [m].count n=_;rw [List.count_singleton];simp [PV.tgt]
 | weak m=>show [m].count n=_;rw [List.count_singleton];simp [PV.tgt]
theorem uS:(goals (.s old)).count n=if old= .ref n then 1 else 0:=by
 cases old with
 | none=>rfl
 | int i=>rfl
 | ref m=>show [m].count n=_;rw [List.count_singleton];simp
 | weak m=>rfl
theorem wX {x:Nat} {p:Prop} [Decidable p]:x∈(if p then [n] else [])↔x=n∧p:=by
 by_cases q:p
 ·rw [if_pos q,List.mem_singleton,and_iff_left q]
 ·rw [if_neg q];exact ⟨nofun,λ h=>absurd h.2 q⟩
theorem vm {x:Nat} {f:Nat→Int} {o:PV}:x∈zlist f o↔o= .ref x∧f x - 1=0:=by
 cases o with
 | ref m=>exact wX.trans ⟨λ h=>⟨by rw [h.1],by rw [h.1];exact h.2⟩,λ h=>PV.ref.inj h.1 ▸ ⟨rfl,by rw [PV.ref.inj h.1];exact h.2⟩⟩
 | _=>exact ⟨nofun,λ h=>absurd h.1 nofun⟩
theorem iteI {α:Type} {p:Prop} [d:Decidable p] {a b:α} {P:α→Prop} (h1:p→P a) (h2: ¬ p→P b):P (if p then a else b):=by
 cases d with
 | isTrue h=>exact h1 h
 | isFalse h=>exact h2 h
theorem Gw {p:Prop} [d:Decidable p] {v:PV} {c:Cont} (h: ∃ v,c= .s v): ∃ w,(if p then .s v else c)= .s w:=by
 cases d with
 | isTrue h=>exact ⟨_,rfl⟩
 | isFalse _=>exact h
theorem kA:pv.strong≠ .weak m:=by cases pv <;> nofun
theorem Xy (h:m∈goals (.s pv.strong)∨Cont.s pv.strong= .s (.weak m)):pv.tgt=some m:=by
 have h:=h.resolve_right λ h=>kA (Cont.s.inj h)
 cases pv with
 | ref k=>rw [List.mem_singleton.mp h];rfl
 | weak k=>rw [List.mem_singleton.mp h];rfl
 | _=>cases h
theorem Xz:(goals (.s pv.strong)).Nodup:=by cases pv <;> first | exact .nil | exact List.nodup_cons.mpr ⟨nofun, .nil⟩
theorem XA (hc:(σ.th s).c= .s old):σ.jstore s pv=σ.tzr
  (λ n=> {σ.th n with c:=if n=s then .s pv.strong else (σ.th n).c,cnt:=(σ.th n).cnt+hit (pv.tgt=some n) - hit (old= .ref n),weak:=if old= .weak n then (σ.th n).weak.filter (· ≠s) else (σ.th n).weak})
  (σ.zero ++ zlist (λ m=>(σ.th m).cnt+hit (pv.tgt=some m)) old) (λ n=> {σ.row n with c:=if n=s then .s pv.strong else (σ.row n).c}):=by
 unfold S.jstore
 rw [xp hc,jX]
theorem U8 {W:List Nat} {x t:Nat} {c:Cont} (h0:x∈W↔(x∈D∧c= .s (.weak t))) (hc:x=s→c= .s old):x∈(if old= .weak t then W.filter (· ≠s) else W)↔(x∈D∧(if x=s then .s pv.strong else c)= .s (.weak t)):=by
 by_cases q:x=s
 ·rw [if_pos q]
  refine ⟨iteI (P:=λ l=>x∈l→_) (λ _ h=>absurd q (of_decide_eq_true (List.mem_filter.mp h).2)) (λ z h=>absurd (Cont.s.inj ((hc q).symm.trans (h0.mp h).2)) z),λ h=>absurd (Cont.s.inj h.2) kA⟩
 ·rw [if_neg q,← h0]
  exact iteI (P:=λ l=>x∈l↔_) (λ _=>List.mem_filter.trans (and_iff_left (decide_eq_true q))) λ _=> .rfl
abbrev S.setX (σ:S) (t:Nat) (c:Cont) (cn:Nat→Int) (w:Nat→List Nat) (z:List Nat):S:=σ.tzr (λ n=> {σ.th n with c:=if n=t then c else (σ.th n).c,cnt:=cn n,weak:=w n}) z (λ n=> {σ.row n with c:=if n=t then c else (σ.row n).c})
theorem InvD.setX (I:InvD D B σ) {t:Nat} {c:Cont} {cn:Nat→Int} {w:Nat→List Nat} {z:List Nat} (ht:t∈σ.wk) (hcnt: ∀ n∈σ.wk,cn n+(goals (σ.row t).c).count n=(σ.th n).cnt+(goals c).count n)
  (hweak: ∀ u∈σ.wk,∀ x,x∈w u↔x∈σ.wk∧(if x=t then c else (σ.row x).c)= .s (.weak u)) (hwn: ∀ u∈σ.wk,(w u).Nodup)
  (hsc:(∃ v,(σ.row t).c= .s v)→ ∃ v,c= .s v) (htg: ∀ m,m∈goals c∨c= .s (.weak m)→m∈σ.wk) (hms: ∀ m∈zi c,∃ v,(if m=t then c else (σ.row m).c)= .s v)
  (hgn:(goals c).Nodup) (hko:KeysOk c) (hz1: ∀ n∈σ.zero,n∈z) (hz2: ∀ n∈z,n∈σ.real) (hz3: ∀ n∈σ.wk,n∈goals (σ.row t).c→cn n=0→n∈z) :
  InvD D B (σ.setX t c cn w z)∧ ∀ n,(σ.setX t c cn w z).deg n+(goals (σ.row t).c).count n=σ.deg n+(goals c).count n:=by
 have hdeg: ∀ n,σ.roots.count n+zg (λ n=> {σ.row n with c:=if n=t then c else (σ.row n).c}) σ.wk n+(goals (σ.row t).c).count n=σ.deg n+(goals c).count n:=λ n=>by
  have h:=bU (row:=σ.row) (ns:=σ.wk) (n:=n) (s:=t) (r:= {σ.row t with c:=c}) I.nd ht
  rw [yY (row:=λ m=>if m=t then {σ.row t with c:=c} else σ.row m) λ m _=>by rw [apply_ite Row.c]]
  unfold S.deg
  lia
 have hscal: ∀ m,(∃ v,(σ.row m).c= .s v)→ ∃ v,(if m=t then c else (σ.row m).c)= .s v:=λ m h=>iteI (P:=λ c:Cont=> ∃ v,c= .s v) (λ q=>hsc (q ▸ h)) λ _=>h
 refine ⟨⟨I.lw,I.lr,I.lt,I.nd,I.sub,I.rb,I.lb,I.fr,λ n hn=>congrArg (ite (n=t) _) (I.cc n hn),I.bl,I.ds,λ n hn=> ?_,λ n hn m=>iteI (P:=λ c:Cont=>m∈goals c∨c= .s (.weak m)→m∈σ.wk) (λ _=>htg m) λ _=>I.tg n hn m,λ n hn m=>iteI (P:=λ c=>m∈zi c→_) (λ _=>hms m) λ _ h=>hscal m (I.ms n hn m h),λ n hn=>iteI (P:=λ c=>(goals c).Nodup) (λ _=>hgn) λ _=>I.gn n hn,λ n hn=>iteI (P:=KeysOk) (λ _=>hko) λ _=>I.ko n hn,hweak,hwn,λ r hr=>(I.ro r hr).imp_right (hscal r),λ n hn h0=> ?_,hz2,I.hl,I.ll,I.rl,I.r4⟩,hdeg⟩
 ·show cn n=((σ.roots.count n+zg _ σ.wk n:Nat):Int)
  have h1:=hcnt n hn
  have h2:=hdeg n
  rw [I.ct n hn] at h1
  lia
 ·have h2:=hdeg n
  replace h0:σ.roots.count n+zg _ σ.wk n=0:=h0
  by_cases q:n∈goals (σ.row t).c
  ·refine .inl (hz3 n hn q ?_)
   have h1:=hcnt n hn
   rw [I.ct n hn] at h1
   lia
  ·rw [List.count_eq_zero.mpr q] at h2
   exact (I.zm n hn (by lia)).imp_left (hz1 n)
theorem InvD.jstore (I:InvD D B σ) (hsw:s∈σ.wk) (hrow:(σ.row s).c= .s old) (hp: ∀ m,pv.tgt=some m→m∈σ.wk):InvD D B (σ.jstore s pv)∧(∀ n,(σ.jstore s pv).deg n+(if old= .ref n then 1 else 0)=σ.deg n+if pv.tgt=some n then 1 else 0):=by
 rw [XA ((I.cc s hsw).trans hrow)]
 have h:=I.setX (c:= .s pv.strong) (cn:=λ n=>(σ.th n).cnt+hit (pv.tgt=some n) - hit (old= .ref n)) (w:=λ n=>if old= .weak n then (σ.th n).weak.filter (· ≠s) else (σ.th n).weak) (z:=σ.zero ++ zlist (λ m=>(σ.th m).cnt+hit (pv.tgt=some m)) old) hsw (λ n _=>by rw [hrow,uS,wW,vY,vY];exact Int.sub_add_cancel _ _)
  (λ t ht x=>U8 (I.we t ht x) λ q=>q ▸ hrow) (λ t ht=>iteI (P:=List.Nodup) (λ _=>(I.wn t ht).filter _) λ _=>I.wn t ht) (λ _=>⟨_,rfl⟩) (λ m h=>hp m (Xy h)) nofun Xz nofun (λ n=>List.mem_append_left _) (λ n hn=>(List.mem_append.mp hn).elim (I.zs n) λ h=>I.sub _ (I.tg s hsw n (.inl (by rw [hrow,(vm.mp h).1];exact .head _))))
  λ n hn q h0=> ?_
 ·exact ⟨h.1,λ n=>by have:=h.2 n;rw [hrow,uS,wW] at this;exact this⟩
 ·rw [hrow] at q
  have q:old= .ref n:=by
   have h:=List.count_pos_iff.mpr q
   rw [uS] at h
   by_cases z:old= .ref n
   ·exact z
   ·rw [if_neg z] at h;cases h
  rw [yS q] at h0
  exact List.mem_append_right _ (vm.mpr ⟨q,h0⟩)
end
structure Same (σ τ:S):Prop where
 roots:τ.roots=σ.roots
 last:σ.last≤τ.last
 heard:τ.heard=σ.heard
 log:τ.log=σ.log
 lkW:τ.lkW=σ.lkW
 lkR:τ.lkR=σ.lkR
 lkT:τ.lkT=σ.lkT
section
variable {D D':List Nat} {B:Nat} {σ τ:S} {n m s t:Nat} {pv old:PV}
theorem InvD.add (I:InvD D B σ) (hn:σ.last < n) {c:Cont} {b:Bool} (e:Same σ τ) (ew:τ.wk=σ.wk ++ [n]) (er:τ.real=σ.real ++ [n]) (el:τ.lastRow=n) (hl:n≤τ.last)
  (hrow: ∀ m,τ.row m=if m=n then ⟨c,b,false⟩ else σ.row m)
  (hc: ∀ m∈σ.wk,(τ.th m).c=(σ.th m).c) (hcn:(τ.th n).c=c∧(τ.th n).bl=b∧(τ.th n).ds=false∧(τ.th n).fr=false∧(τ.th n).cnt=0∧(τ.th n).weak=[])
  (hb: ∀ m∈σ.real,(τ.th m).bl=(σ.th m).bl∧(τ.th m).ds=(σ.th m).ds∧(τ.th m).fr=(σ.th m).fr)
  (hcnt: ∀ m∈σ.wk,(τ.th m).cnt=(σ.th m).cnt+(goals c).count m) (hweak: ∀ u∈σ.wk,(τ.th u).weak=(σ.th u).weak)
  (htg: ∀ m∈goals c,m∈σ.wk) (hnw: ∀ m,c≠ .s (.weak m)) (hms: ∀ m∈zi c,∃ v,(σ.row m).c= .s v) (hgn:(goals c).Nodup) (hko:KeysOk c)
  (hz1: ∀ m∈σ.zero,m∈τ.zero) (hz2: ∀ m∈τ.zero,m∈σ.real∨m=n) (hz3:n∈τ.zero∨n∈D') (hD: ∀ d∈D,d∈D') :
  InvD D' (B+1) τ∧(∀ m,τ.deg m=σ.deg m+(goals c).count m)∧n∉σ.wk:=by
 have hnr:n∉σ.real:=λ h=>by have:=I.rb n h;lia
 have hnw':n∉σ.wk:=λ h=>hnr (I.sub n h)
 have hne: ∀ m∈σ.wk,m≠n:=λ m hm q=>hnw' (q ▸ hm)
 have hrow': ∀ m∈σ.wk,τ.row m=σ.row m:=λ m hm=>by rw [hrow,if_neg (hne m hm)]
 have hdeg: ∀ m,τ.deg m=σ.deg m+(goals c).count m:=λ m=>by
  unfold S.deg
  rw [ew,bV,e.roots,hrow n,if_pos rfl]
  have:zg τ.row σ.wk m=zg σ.row σ.wk m:=yY λ x hx=>by rw [hrow' x hx]
  dsimp only
  lia
 have hd0:σ.deg n=0:=by
  have h1:n∉σ.roots:=λ h=>hnw' (I.ro n h).1
  have h2:zg σ.row σ.wk n=0:=by
   rcases Nat.eq_zero_or_pos (zg σ.row σ.wk n) with q | q
   ·exact q
   ·exfalso
    have: ∀ ns,(∀ x∈ns,x∈σ.wk)→zg σ.row ns n=0:=by
     intro ns
     induction ns with
     | nil=>intro _;rfl
     | cons a ns ih =>
      intro h
      have h1:=ih λ x hx=>h x (List.mem_cons_of_mem _ hx)
      have h2:(goals (σ.row a).c).count n=0:=List.count_eq_zero.mpr λ hh=>hnw' (I.tg a (h a (.head _)) n (.inl hh))
      unfold zg at h1 ⊢
      simp only [List.map_cons,List.sum_cons]
      lia
    have:=this σ.wk λ _ h=>h
    lia
  unfold S.deg
  rw [List.count_eq_zero.mpr h1,h2]
 have hdn:τ.deg n=0:=by
  rw [hdeg,hd0,List.count_eq_zero.mpr λ h=>hnw' (htg n h)]
 have hscal: ∀ m∈σ.wk,(∃ v,(σ.row m).c= .s v)→ ∃ v,(τ.row m).c= .s v:=λ m hm h=>by rw [hrow' m hm];exact h
 have hcase: ∀ {p:Nat→Prop},(∀ m∈σ.wk,p m)→p n→ ∀ m∈τ.wk,p m:=λ h1 h2 m hm=>by
  rw [ew] at hm
  rcases List.mem_append.mp hm with h | h
  ·exact h1 m h
  ·rcases List.mem_singleton.mp h with rfl;exact h2
 refine ⟨⟨e.lkW ▸ I.lw,e.lkR ▸ I.lr,λ n=>by rw [e.lkT];exact I.lt n,?_,?_,?_,by rw [el];exact hl,?_,?_,?_,?_,?_,?_,?_,?_,?_,?_,?_,?_,?_,?_,by rw [e.heard,e.log];exact I.hl,?_,?_,by rw [e.roots];exact I.r4⟩,hdeg,hnw'⟩
 ·rw [ew,List.nodup_append]
  exact ⟨I.nd,by simp,λ a ha b hb q=>hne a ha (q.trans (List.mem_singleton.mp hb))⟩
 ·refine hcase (λ m hm=> ?_) ?_
  ·rw [er];exact List.mem_append_left _ (I.sub m hm)
  ·rw [er];exact List.mem_append_right _ (.head _)
 ·intro m hm
  rw [er] at hm
  rcases List.mem_append.mp hm with h | h
  ·exact Nat.le_trans (I.rb m h) e.last
  ·rcases List.mem_singleton.mp h with rfl;exact hl
 ·intro m hm
  rw [er] at hm
  rw [ew]
  rcases List.mem_append.mp hm with h | h
  ·have:m≠n:=λ q=>hnr (q ▸ h)
   rw [(hb m h).2.2,I.fr m h]
   simp [this]
  ·rcases List.mem_singleton.mp h with rfl
   rw [hcn.2.2.2.1];simp
 ·refine hcase (λ m hm=> ?_) ?_
  ·rw [hc m hm,hrow' m hm];exact I.cc m hm
  ·rw [hcn.1,hrow,if_pos rfl]
 ·refine hcase (λ m hm=> ?_) ?_
  ·rw [(hb m (I.sub m hm)).1,hrow' m hm];exact I.bl m hm
  ·rw [hcn.2.1,hrow,if_pos rfl]
 ·refine hcase (λ m hm=> ?_) ?_
  ·rw [(hb m (I.sub m hm)).2.1,hrow' m hm];exact I.ds m hm
  ·rw [hcn.2.2.1,hrow,if_pos rfl]
 ·refine hcase (λ m hm=> ?_) ?_
  ·rw [hcnt m hm,I.ct m hm,hdeg];exact rfl
  ·rw [hcn.2.2.2.2.1,hdn];rfl
 ·refine hcase (λ m hm x hx=> ?_) (λ x hx=> ?_)
  ·rw [hrow' m hm] at hx
   rw [ew];exact List.mem_append_left _ (I.tg m hm x hx)
  ·rw [hrow,if_pos rfl] at hx
   rw [ew]
   rcases hx with h | h
   ·exact List.mem_append_left _ (htg x h)
   ·exact absurd h (hnw x)
 ·refine hcase (λ m hm x hx=> ?_) (λ x hx=> ?_)
  ·rw [hrow' m hm] at hx
   exact hscal x (I.tg m hm x (.inl (wB x hx))) (I.ms m hm x hx)
  ·rw [hrow,if_pos rfl] at hx
   exact hscal x (htg x (wB x hx)) (hms x hx)
 ·refine hcase (λ m hm=> ?_) ?_
  ·rw [hrow' m hm];exact I.gn m hm
  ·rw [hrow,if_pos rfl];exact hgn
 ·refine hcase (λ m hm=> ?_) ?_
  ·rw [hrow' m hm];exact I.ko m hm
  ·rw [hrow,if_pos rfl];exact hko
 ·refine hcase (λ u hu x=> ?_) (λ x=> ?_)
  ·rw [hweak u hu,I.we u hu,ew]
   constructor
   ·rintro ⟨h1,h2⟩
    exact ⟨List.mem_append_left _ h1,by rw [hrow' x h1];exact h2⟩
   ·rintro ⟨h1,h2⟩
    rcases List.mem_append.mp h1 with h | h
    ·exact ⟨h,by rw [hrow' x h] at h2;exact h2⟩
    ·rcases List.mem_singleton.mp h with rfl
     rw [hrow,if_pos rfl] at h2
     exact absurd h2 (hnw u)
  ·rw [hcn.2.2.2.2.2,ew]
   constructor
   ·intro h;simp at h
   ·rintro ⟨h1,h2⟩
    exfalso
    rcases List.mem_append.mp h1 with h | h
    ·rw [hrow' x h] at h2
     exact hnw' (I.tg x h n (.inr h2))
    ·rcases List.mem_singleton.mp h with rfl
     rw [hrow,if_pos rfl] at h2
     exact hnw _ h2
 ·refine hcase (λ u hu=> ?_) ?_
  ·rw [hweak u hu];exact I.wn u hu
  ·rw [hcn.2.2.2.2.2];simp
 ·intro r hr
  rw [e.roots] at hr
  obtain ⟨h1,h2⟩:=I.ro r hr
  exact ⟨by rw [ew];exact List.mem_append_left _ h1,hscal r h1 h2⟩
 ·refine hcase (λ m hm h0=> ?_) (λ _=>hz3)
  rw [hdeg] at h0
  rcases I.zm m hm (by lia) with h | h
  ·exact .inl (hz1 m h)
  ·exact .inr (hD m h)
 ·intro m hm
  rw [er]
  rcases hz2 m hm with h | h
  ·exact List.mem_append_left _ h
  ·rw [h];exact List.mem_append_right _ (.head _)
 ·rw [e.log,er,List.filter_append]
  have:(σ.real.filter λ n=>(τ.th n).ds)=σ.real.filter λ n=>(σ.th n).ds:=List.filter_congr λ n hn=>(hb n hn).2.1
  rw [this,List.length_append]
  exact Nat.le_trans I.ll (Nat.le_add_right _ _)
 ·rw [er,List.length_append,List.length_singleton]
  exact Nat.succ_le_succ I.rl
end
section
variable {D D':List Nat} {B B':Nat} {σ τ:S} {n m s t:Nat} {pv old:PV}
theorem InvD.mono (I:InvD D B σ) (h:B≤B'):InvD D B' σ:= {I with rl:=Nat.le_trans I.rl h}
theorem InvD.drop (I:InvD D B σ) (h: ∀ d∈D,d∈σ.wk→σ.deg d=0→d∈σ.zero∨d∈D'):InvD D' B σ:= {I with zm:=λ n hn h0=>(I.zm n hn h0).elim .inl λ q=>h n q hn h0}
theorem XB {f:Nat→Int}:(zlist f old).length≤1:=by
 cases old with
 | ref m =>
  show (if f m - 1=0 then [m] else []).length≤1
  split <;> simp
 | _=>exact Nat.zero_le _
theorem YG (hc:(σ.th s).c= .s old):(σ.store s pv).zero.length≤σ.zero.length+1:=by
 rw [xp hc]
 simp only [List.length_append]
 have:=XB (f:=λ m=>(σ.th m).cnt+hit (pv.tgt=some m)) (old:=old)
 lia
theorem vD (hc:(σ.th s).c= .s old):(σ.jstore s pv).zero.length≤σ.zero.length+1:=YG hc
theorem WG {way:Nat} {b:Bool} (hm:m≤σ.last):(σ.newT way b).th m=σ.th m:=by
 have h1: ∀ τ:S,∀ k,(τ.note k).th m=τ.th m:=λ τ k=>by rw [uP]
 have h2: ∀ τ:S,∀ k,σ.last < k→(τ.blessIf k b).th m=τ.th m:=λ τ k hk=>by
  unfold S.blessIf;split
  ·rw [zk,if_neg (by lia)]
  ·rfl
 have h3:σ.new3.th m=σ.th m:=by
  unfold S.new3 S.fresh
  rw [zk,if_neg (by show m≠σ.last+1+1+1;lia)]
  show (({σ with last:=_}:S).setTh _ _ |>.setTh _ _).th m=_
  rw [zk,if_neg (by show m≠σ.last+1+1;lia)]
  show (({σ with last:=_}:S).setTh _ _).th m=_
  rw [zk,if_neg (Nat.ne_of_lt (Nat.lt_succ_of_le ‹_›))]
 show (((σ.new3.note (σ.last+1+way)).blessIf (σ.last+1+way) b)).th m=_
 rw [h2 _ _ (Nat.le_add_right _ _),h1,h3]
theorem qF {way:Nat} (hw:way < 3):σ.new3.th (σ.last+1+way)=⟨kinds way,0,false,false,false,[]⟩:=by
 unfold S.new3 S.fresh
 match way,hw with
 | 0,_ =>
  rw [zk,if_neg (by show σ.last+1+0≠σ.last+1+1+1;lia)]
  show (({σ with last:=_}:S).setTh _ _ |>.setTh _ _).th _=_
  rw [zk,if_neg (by show σ.last+1+0≠σ.last+1+1;exact Nat.ne_of_lt (Nat.lt_succ_self _))]
  show (({σ with last:=_}:S).setTh _ _).th _=_
  rw [zk];exact if_pos rfl
 | 1,_ =>
  rw [zk,if_neg (by show σ.last+1+1≠σ.last+1+1+1;exact Nat.ne_of_lt (Nat.lt_succ_self _))]
  show (({σ with last:=_}:S).setTh _ _ |>.setTh _ _).th _=_
  rw [zk];exact if_pos rfl
 | 2,_ =>
  rw [zk];exact if_pos rfl
theorem WH {way:Nat} {b:Bool} (hw:way < 3):(σ.newT way b).th (σ.last+1+way)=⟨kinds way,0,b,false,false,[]⟩:=by
 show (((σ.new3.note (σ.last+1+way)).blessIf (σ.last+1+way) b)).th (σ.last+1+way)=_
 unfold S.blessIf
 cases b with
 | true=>rw [if_pos rfl,zk,if_pos rfl,uP,qF hw]
 | false=>rw [if_neg nofun,uP,qF hw]
theorem uD {way:Nat} {b:Bool} (hw:way < 3):(σ.newT way b).zero=σ.zero ++ [σ.last+1+way]:=by
 show (((σ.new3.note (σ.last+1+way)).blessIf (σ.last+1+way) b)).zero=_
 have h1: ∀ τ:S,∀ k,(τ.blessIf k b).zero=τ.zero:=λ τ k=>by unfold S.blessIf;split <;> rfl
 rw [h1]
 unfold S.note
 rw [if_pos (by rw [qF hw])]
 rfl
theorem vn {way:Nat} {b:Bool}:Same σ (σ.newT way b)∧(σ.newT way b).wk=σ.wk ++ [σ.last+1+way]∧(σ.newT way b).real=σ.real ++ [σ.last+1+way]∧(σ.newT way b).lastRow=σ.last+1+way∧(σ.newT way b).last=σ.last+3∧ ∀ m,(σ.newT way b).row m=if m=σ.last+1+way then ⟨kinds way,b,false⟩ else σ.row m:=by
 unfold S.newT S.blessIf S.note
 split <;> split <;> exact ⟨⟨rfl,by show σ.last≤σ.last+1+1+1;lia,rfl,rfl,rfl,rfl,rfl⟩,rfl,rfl,rfl,rfl,λ m=>rfl⟩
theorem WI: ∀ {w:Nat},w < 3→goals (kinds w)=[]∧zi (kinds w)=[]∧(∀ m,kinds w≠ .s (.weak m))∧KeysOk (kinds w)
 | 0,_=>⟨rfl,rfl,λ m h=>(by cases h),λ es h=>(by cases h)⟩
 | 1,_=>⟨rfl,rfl,λ m h=>(by cases h),λ es h=>(by cases h)⟩
 | 2,_=>⟨rfl,rfl,λ m h=>(by cases h),λ es h=>by cases h;simp⟩
theorem InvD.newT (I:Inv B σ) {way:Nat} {b:Bool} (hw:way < 3):Inv (B+1) (σ.newT way b)∧σ.last+1+way∉σ.wk:=by
 refine hideP λ PZ hZ=> ?_
 obtain ⟨h1,h2,h3,h4,h5,h6⟩:=vn (σ:=σ) (way:=way) (b:=b)
 have hold: ∀ m∈σ.real,(σ.newT way b).th m=σ.th m:=λ m hm=>WG (I.rb m hm)
 have hold': ∀ m∈σ.wk,(σ.newT way b).th m=σ.th m:=λ m hm=>hold m (I.sub m hm)
 have hnew:=WH (σ:=σ) (b:=b) hw
 have hz:=uD (σ:=σ) (b:=b) hw
 obtain ⟨hg,hm,hk1,hk2⟩:=WI hw
 have:=I.add (D':=[]) (τ:=σ.newT way b) (n:=σ.last+1+way) (c:=kinds way) (b:=b) (Nat.le_add_right _ _) h1 h2 h3 h4 (by rw [h5];lia) h6 (λ m hm=>by rw [hold' m hm]) (by rw [hnew];exact ⟨rfl,rfl,rfl,rfl,rfl,rfl⟩) (λ m hm=>by rw [hold m hm];exact ⟨rfl,rfl,rfl⟩) (λ m hm=>by rw [hold' m hm,hg];simp) (λ u hu=>by rw [hold' u hu]) (by rw [hg];intro m hm;simp at hm) hk1 (by rw [hm];intro m hm;simp at hm) (by rw [hg];simp) hk2 (λ m hm=>by rw [hz];exact List.mem_append_left _ hm) (λ m hm=>by
   rw [hz] at hm
   rcases List.mem_append.mp hm with h | h
   ·exact .inl (I.zs m h)
   ·exact .inr (List.mem_singleton.mp h)) (.inl (by rw [hz];exact List.mem_append_right _ (.head _))) (λ d hd=>hd)
 refine hZ ?_
 exact ⟨this.1,this.2.2⟩
theorem InvD.store_ok (I:InvD D B σ) (hp:LS σ s) (hb:B≤1000) (hz:σ.zero.length < big):StoreOk σ s:=by
 obtain ⟨h1,v,h2⟩:=hp
 refine ⟨hz,v,(I.cc s h1).trans h2,λ m hm=> ?_⟩
 have hm':m∈σ.wk:=I.tg s h1 m (.inr (by rw [h2,hm]))
 have:=I.wkl hm'
 exact ⟨by unfold big;lia,I.rb m (I.sub m hm')⟩
theorem InvD.closed (I:InvD D B σ):Closed σ:=λ n v m hn hv hm=>by
 have hm':m∈σ.wk:=I.tg n hn m (by
  rw [hv]
  cases v with
  | none=>exact za hm
  | int i=>exact za hm
  | ref k=>cases hm;exact .inl (.head _)
  | weak k=>cases hm;exact .inr rfl)
 exact ⟨hm',λ x hx=>⟨I.tg m hm' x (.inl (wB x hx)),I.ms m hm' x hx⟩⟩
theorem InvD.target (I:InvD D B σ) (hn:n∈σ.wk) (h:(σ.row n).c.val.tgt=some m):m∈σ.wk:=by
 cases hc:(σ.row n).c with
 | s v=>rw [hc] at h;exact (I.closed n v m hn hc h).1
 | a xs=>rw [hc] at h;exact za h
 | h es=>rw [hc] at h;exact za h
theorem newLS {way:Nat} {b:Bool} (I:Inv B σ) (hw:way < 3) (hp:LS σ s):LS (σ.newT way b) s:=by
 obtain ⟨h1,h2,h3,h4,h5,h6⟩:=vn (σ:=σ) (way:=way) (b:=b)
 obtain ⟨a1,v,a2⟩:=hp
 refine ⟨by rw [h2];exact List.mem_append_left _ a1,v,?_⟩
 rw [h6,if_neg (λ q=>(I.newT (b:=b) hw).2 (by rw [← q];exact a1))];exact a2
theorem Inv.deedNew (I:Inv B σ) {way place:Nat} {b:Bool} (hw:way < 3) (hp:LS σ place):Inv (B+1) (σ.newD way place b)∧(σ.newD way place b).zero.length≤σ.zero.length+3∧(σ.newD way place b).roots=σ.roots:=by
 have hn:=(I.newT (b:=b) hw).1
 obtain ⟨b1,v,b2⟩:=newLS (b:=b) I hw hp
 have hj:=(hn.jstore (pv:= .ref (σ.last+1+way)) b1 b2 (λ m hm=>by cases hm;rw [vn.2.1];exact List.mem_append_right _ (.head _))).1
 have hth:=(hn.cc place b1).trans b2
 refine ⟨hj,?_,?_⟩
 ·have h1:=vD (pv:= .ref (σ.last+1+way)) hth
  rw [uD hw] at h1
  simp only [List.length_append,List.length_singleton] at h1
  show ((σ.newT way b).jstore place (.ref (σ.last+1+way))).zero.length≤_
  exact Nat.le_succ_of_le ‹_›
 ·show ((σ.newT way b).jstore place (.ref (σ.last+1+way))).roots=_
  unfold S.jstore
  rw [xp hth]
  exact vn.1.roots
theorem gU (hc:(σ.th s).c= .s old):(σ.jstore s pv).roots=σ.roots:=by unfold S.jstore;rw [xp hc];rfl
theorem Inv.deedJ (I:Inv B σ) (hp:LS σ s) (h: ∀ m,pv.tgt=some m→m∈σ.wk):Inv (B+1) (σ.jstore s pv)∧(σ.jstore s pv).zero.length≤σ.zero.length+3∧(σ.jstore s pv).roots=σ.roots:=by
 obtain ⟨b1,v,b2⟩:=hp
 have hth:=(I.cc s b1).trans b2
 refine ⟨(I.jstore b1 b2 h).1.mono (Nat.le_succ _),?_,gU hth⟩
 have:=vD (pv:=pv) hth
 lia
theorem weakX {W:List Nat}:(((σ.setVal s (.weak m)).setWeak m W).letGo m).setRowV s (.weak m)=σ.setX s (.s (.weak m)) (λ n=>(σ.th n).cnt - hit (n=m)) (λ n=>if n=m then W else (σ.th n).weak) (σ.zero ++ if (σ.th m).cnt - 1=0 then [m] else []):=by
 rw [kz,jW,xo,jX]
theorem VS {x t:Nat} {c:Cont} (h0: ∀ t∈D,x∈(σ.th t).weak↔(x∈D∧c= .s (.weak t))) (ht:t∈D) (hm:m∈D) (hs:s∈D) (hc:x=s→c= .s (.ref m)):x∈(if t=m then (σ.th m).weak ++ [s] else (σ.th t).weak)↔(x∈D∧(if x=s then .s (.weak m) else c)= .s (.weak t)):=by
 by_cases q:x=s
 ·rw [if_pos q]
  by_cases z:t=m
  ·rw [if_pos z,z,q];exact ⟨λ _=>⟨hs,rfl⟩,λ _=>List.mem_append_right _ (.head _)⟩
  ·rw [if_neg z,h0 t ht,hc q];exact ⟨λ h=>(by cases h.2),λ h=>absurd (PV.weak.inj (Cont.s.inj h.2)).symm z⟩
 ·rw [if_neg q,← h0 t ht]
  by_cases z:t=m
  ·rw [if_pos z,z,List.mem_append,List.mem_singleton];exact ⟨λ h=>h.resolve_right q, .inl⟩
  ·rw [if_neg z]
theorem Inv.deedWeak (I:Inv B σ) (hp:LS σ s):Inv (B+1) (σ.weakD s)∧(σ.weakD s).zero.length≤σ.zero.length+3∧(σ.weakD s).roots=σ.roots:=by
 obtain ⟨b1,v,b2⟩:=hp
 have hth:=(I.cc s b1).trans b2
 unfold S.weakD S.weaken
 rw [b2,hth]
 have idle:Inv (B+1) σ∧σ.zero.length≤σ.zero.length+3∧σ.roots=σ.roots:=⟨I.mono (Nat.le_succ _),Nat.le_add_right _ _,rfl⟩
 cases v with
 | none=>exact idle
 | int i=>exact idle
 | weak m =>
  have same:σ.setRowV s (.weak m)=σ:=by
   unfold S.setRowV S.setRow
   have:(λ n=>if n=s then {σ.row s with c:=Cont.s (.weak m)} else σ.row n)=σ.row:=by
    refine funext λ n=> ?_
    by_cases q:n=s
    ·rw [if_pos q,q,← b2]
    ·rw [if_neg q]
   rw [this]
  show Inv (B+1) (σ.setRowV s (.weak m))∧(σ.setRowV s (.weak m)).zero.length≤_∧(σ.setRowV s (.weak m)).roots=σ.roots
  rw [same];exact idle
 | ref m =>
  have hm:m∈σ.wk:=I.target b1 (by rw [b2];rfl)
  have hsn:s∉(σ.th m).weak:=λ h=>by have:=((I.we m hm s).mp h).2;rw [b2] at this;cases this
  show Inv (B+1) ((((σ.setVal s (.weak m)).setWeak m (((σ.setVal s (.weak m)).th m).weak ++ [s])).letGo m).setRowV s (.weak m))∧((((σ.setVal s (.weak m)).setWeak m (((σ.setVal s (.weak m)).th m).weak ++ [s])).letGo m).setRowV s (.weak m)).zero.length≤_∧((((σ.setVal s (.weak m)).setWeak m (((σ.setVal s (.weak m)).th m).weak ++ [s])).letGo m).setRowV s (.weak m)).roots=_
  rw [weakX,wA]
  refine ⟨(I.setX b1 (λ n hn=> ?_) (λ u hu x=>VS (λ t ht=>I.we t ht x) hu hm b1 λ q=>q ▸ b2) (λ u hu=>iteI (P:=List.Nodup) (λ _=> ?_) λ _=>I.wn u hu) (λ _=>⟨_,rfl⟩) (λ k hk=> ?_) (λ k hk=>absurd hk List.not_mem_nil) .nil (λ _ h=>by cases h) (λ n hn=>List.mem_append_left _ hn) (λ n hn=> ?_) (λ n hn hg h0=> ?_)).1.mono (Nat.le_succ _),?_,rfl⟩
  ·rw [b2]
   show (σ.th n).cnt - hit (n=m)+(([m].count n:Nat):Int)=(σ.th n).cnt+0
   rw [List.count_singleton,vY,Int.add_zero]
   by_cases q:n=m
   ·rw [if_pos q,q,if_pos (beq_self_eq_true m)];exact Int.sub_add_cancel _ _
   ·rw [if_neg q,if_neg (λ z=>q (beq_iff_eq.mp z).symm)];exact Int.sub_add_cancel _ _
  ·exact List.nodup_append.mpr ⟨I.wn _ hm,List.nodup_cons.mpr ⟨List.not_mem_nil, .nil⟩,λ a ha b hb q=>hsn (by rw [List.mem_singleton.mp hb] at q;rw [← q];exact ha)⟩
  ·rcases hk with h | h
   ·exact absurd h List.not_mem_nil
   ·cases h;exact hm
  ·rcases List.mem_append.mp hn with h | h
   ·exact I.zs n h
   ·rw [(wX.mp h).1];exact I.sub _ hm
  ·rw [b2] at hg
   have q:n=m:=List.mem_singleton.mp hg
   rw [yS q,q] at h0
   exact List.mem_append_right _ (wX.mpr ⟨q,h0⟩)
  ·refine Nat.le_trans (Nat.le_of_eq List.length_append) (Nat.add_le_add_left ?_ _)
   exact iteI (P:=λ l:List Nat=>l.length≤3) (λ _=>Nat.le_of_ble_eq_true rfl) λ _=>Nat.zero_le _
end
section
variable {D D':List Nat} {B B':Nat} {σ τ:S} {n m s t:Nat} {pv old:PV}
theorem wm {o x:Nat} {l:List Nat}:(o :: l).count x=l.count x+if o=x then 1 else 0:=by
 by_cases q:o=x
 ·rw [if_pos q,q,List.count_cons_self]
 ·rw [if_neg q,List.count_cons_of_ne q];rfl
theorem kD {key:String} {v:Nat}: ∀ {es:List (String × Nat)},aget key es=none→aput key v es=es ++ [(key,v)]
 | [],_=>rfl
 | e :: r,h=>by
  rw [wD] at h
  by_cases q:e.1=key
  ·rw [if_pos q] at h;exact jJ h
  ·rw [if_neg q] at h
   rw [jM,if_neg q,kD h];rfl
theorem kF {key:String}: ∀ {es:List (String × Nat)},aget key es=none→key∉es.map (·.1)
 | [],_=>List.not_mem_nil
 | e :: r,h=>by
  rw [wD] at h
  by_cases q:e.1=key
  ·rw [if_pos q] at h;exact jJ h
  ·rw [if_neg q] at h
   exact λ z=>(List.mem_cons.mp z).elim (λ z=>q z.symm) (kF h)
theorem kG {key:String} {v o:Nat}: ∀ {es:List (String × Nat)},(es.map (·.1)).Nodup→aget key es=some o→aput key v es=es.map λ e=>(e.1,if e.1=key then v else e.2)
 | [],_,h=>by cases h
 | e :: r,nd,h=>by
  have nd:=List.nodup_cons.mp nd
  rw [wD] at h
  rw [jM]
  show _=(e.1,if e.1=key then v else e.2) :: r.map _
  by_cases q:e.1=key
  ·rw [if_pos q,if_pos q,q]
   refine congrArg (_ :: ·) ((List.map_id _).symm.trans (List.map_congr_left λ x hx=> ?_))
   rw [if_neg λ z=>nd.1 (show e.1∈r.map (·.1) by rw [q,← z];exact List.mem_map_of_mem (f:=(·.1)) hx)];rfl
  ·rw [if_neg q] at h
   rw [if_neg q,if_neg q,kG nd.2 h]
theorem jY {key:String} {v o x:Nat}: ∀ {es:List (String × Nat)},aget key es=some o→((aput key v es).map (·.2)).count x+(if o=x then 1 else 0)=(es.map (·.2)).count x+(if v=x then 1 else 0)
 | [],h=>by cases h
 | e :: r,h=>by
  rw [wD] at h
  rw [jM]
  by_cases q:e.1=key
  ·rw [if_pos q] at h ⊢
   obtain rfl:=Option.some.inj h
   show (v :: r.map (·.2)).count x+_=(e.2 :: r.map (·.2)).count x+_
   rw [wm,wm,Nat.add_right_comm]
  ·rw [if_neg q] at h ⊢
   show (e.2 :: (aput key v r).map (·.2)).count x+_=(e.2 :: r.map (·.2)).count x+_
   rw [wm,wm,Nat.add_right_comm,jY (v:=v) (x:=x) h,Nat.add_right_comm]
theorem gV {key:String} {o:Nat}: ∀ {es:List (String × Nat)},aget key es=some o→o∈es.map (·.2)
 | [],h=>by cases h
 | e :: r,h=>by
  rw [wD] at h
  by_cases q:e.1=key
  ·rw [if_pos q] at h
   obtain rfl:=Option.some.inj h;exact .head _
  ·rw [if_neg q] at h
   exact .tail _ (gV h)
theorem qG {c:Cont}:σ.setC t c=σ.tz (λ n=> {σ.th n with c:=if n=t then c else (σ.th n).c}) σ.zero:=thE λ n=>(iteN λ t:Th=> {t with c:=c}).trans U7
theorem jq {c:Cont}:σ.setRC t c=σ.tzr σ.th σ.zero (λ n=> {σ.row n with c:=if n=t then c else (σ.row n).c}):=congrArg (σ.tzr σ.th σ.zero) (funext λ n=>(iteN λ t:Row=> {t with c:=c}).trans Vs)
theorem takeX {c:Cont}:((σ.setRC t c).setC t c).letGo m=σ.setX t c (λ n=>(σ.th n).cnt - hit (n=m)) (λ n=>(σ.th n).weak) (σ.zero ++ if (σ.th m).cnt - 1=0 then [m] else []):=by rw [jq,qG,xo]
theorem uE {c:Cont} (h: ∀ v,c≠ .s v):zi c=goals c:=by
 cases c with
 | s v=>exact absurd rfl (h v)
 | a xs=>rfl
 | h es=>rfl
theorem ZL {W:List Nat} {x:Nat} {c c':Cont} (h0:x∈W↔(x∈D∧c'= .s (.weak n))) (h1:x=t→ ∀ v,c'≠ .s v) (h2: ∀ v,c≠ .s v):x∈W↔(x∈D∧(if x=t then c else c')= .s (.weak n)):=by
 by_cases q:x=t
 ·rw [if_pos q];exact h0.trans ⟨λ h=>absurd h.2 (h1 q _),λ h=>absurd h.2 (h2 _)⟩
 ·rw [if_neg q];exact h0
theorem Inv.takeOut {c:Cont} (I:Inv B σ) (ht:t∈σ.wk) (hns: ∀ v,(σ.row t).c≠ .s v) (hns': ∀ v,c≠ .s v) (hcount: ∀ x,(goals (σ.row t).c).count x=(goals c).count x+if m=x then 1 else 0) (hko:KeysOk c):Inv (B+1) (((σ.setRC t c).setC t c).letGo m)∧(((σ.setRC t c).setC t c).letGo m).zero.length≤σ.zero.length+3∧(((σ.setRC t c).setC t c).letGo m).roots=σ.roots:=by
 have hmem:m∈goals (σ.row t).c:=by
  have:=hcount m
  rw [if_pos rfl] at this
  exact List.count_pos_iff.mp (this ▸ Nat.succ_pos _)
 have hmw:m∈σ.wk:=I.tg t ht m (.inl hmem)
 have hsubg: ∀ x∈goals c,x∈goals (σ.row t).c:=λ x hx=>List.count_pos_iff.mp (hcount x ▸ Nat.lt_of_lt_of_le (List.count_pos_iff.mpr hx) (Nat.le_add_right _ _))
 rw [takeX]
 refine ⟨(I.setX ht (λ n hn=> ?_) (λ u hu x=>ZL (I.we u hu x) (λ q=>by rw [q];exact hns) hns') I.wn (λ h=>absurd h.choose_spec (hns _)) (λ k hk=>I.tg t ht k (.inl (hsubg k (hk.resolve_right (hns' _))))) (λ k hk=> ?_) ?_ hko (λ n hn=>List.mem_append_left _ hn) (λ n hn=> ?_) (λ n hn hg h0=> ?_)).1.mono (Nat.le_succ _),?_,rfl⟩
 ·rw [hcount n,vY]
  by_cases q:n=m
  ·rw [if_pos q,if_pos q.symm];lia
  ·rw [if_neg q,if_neg (Ne.symm q),Nat.add_zero];exact congrArg (· +_) (Int.sub_zero _)
 ·have hk':=hsubg k (wB k hk)
  rw [← uE hns] at hk'
  obtain ⟨v,hv⟩:=I.ms t ht k hk'
  exact ⟨v,(if_neg λ q:k=t=>hns v (q ▸ hv)).trans hv⟩
 ·exact List.nodup_iff_count.mpr λ x=>Nat.le_trans (Nat.le_add_right _ _) (hcount x ▸ List.nodup_iff_count.mp (I.gn t ht) x)
 ·rcases List.mem_append.mp hn with h | h
  ·exact I.zs n h
  ·rw [(wX.mp h).1];exact I.sub _ hmw
 ·have h1:=I.ct n hn
  have h2:0 < σ.deg n:=Nat.lt_of_lt_of_le (vC ht hg) (Nat.le_add_left _ _)
  by_cases q:n=m
  ·rw [yS q,q] at h0
   exact List.mem_append_right _ (wX.mpr ⟨q,h0⟩)
  ·rw [xg q] at h0;lia
 ·refine Nat.le_trans (Nat.le_of_eq List.length_append) (Nat.add_le_add_left ?_ _)
  exact iteI (P:=λ l:List Nat=>l.length≤3) (λ _=>Nat.le_of_ble_eq_true rfl) λ _=>Nat.zero_le _
theorem Inv.deedTaken (I:Inv B σ) (hp:LS σ s):Inv (B+1) (σ.takenD s)∧(σ.takenD s).zero.length≤σ.zero.length+3∧(σ.takenD s).roots=σ.roots:=by
 have idle:Inv (B+1) σ∧σ.zero.length≤σ.zero.length+3∧σ.roots=σ.roots:=⟨I.mono (Nat.le_succ _),Nat.le_add_right _ _,rfl⟩
 unfold S.takenD
 cases htg:(σ.row s).c.val.tgt with
 | none=>exact idle
 | some t =>
  have ht:t∈σ.wk:=I.target hp.1 htg
  dsimp only
  cases hc:(σ.row t).c with
  | s v=>exact idle
  | a xs =>
   cases xs with
   | nil=>exact idle
   | cons mm xs=>exact I.takeOut (c:= .a xs) ht (λ v h=>by cases hc.symm.trans h) (λ v h=>by cases h) (λ x=>by rw [hc];exact wm) (λ es h=>by cases h)
  | h es =>
   cases es with
   | nil=>exact idle
   | cons e es =>
    have hko:=List.nodup_cons.mp (I.ko t ht _ hc)
    dsimp only
    rw [show adel e.1 (e :: es)=es from if_pos rfl]
    exact I.takeOut (c:= .h es) ht (λ v h=>by cases hc.symm.trans h) (λ v h=>by cases h) (λ x=>by rw [hc];exact wm) (λ es' h=>by cases h;exact hko.2)
theorem ZM (hm:m≤σ.last):(σ.putT s).th m= {σ.th m with cnt:=(σ.th m).cnt+hit ((σ.th s).c.val.tgt=some m)}:=by
 show (σ.freshV (σ.th s).c.val).th m=_
 unfold S.freshV S.setCnt S.fresh
 rw [zk,if_neg (Nat.ne_of_lt (Nat.lt_succ_of_le ‹_›))]
 rw [wO]
 rw [zk,if_neg (by show m≠σ.last+1;exact Nat.ne_of_lt (Nat.lt_succ_of_le ‹_›))]
theorem gW:(σ.putT s).th (σ.last+1)=⟨.s (σ.th s).c.val.strong,1,false,false,false,[]⟩:=by
 show (σ.freshV (σ.th s).c.val).th (σ.last+1)=_
 unfold S.freshV S.setCnt S.fresh
 rw [zk,if_pos rfl,wO]
 have: ∀ τ:S,∀ t,(τ.setTh (σ.last+1) t).th (σ.last+1)=t:=λ τ t=>by rw [zk,if_pos rfl]
 rw [this];rfl
theorem kI:Same σ (σ.putT s)∧(σ.putT s).wk=σ.wk ++ [σ.last+1]∧(σ.putT s).real=σ.real ++ [σ.last+1]∧(σ.putT s).lastRow=σ.last+1∧(σ.putT s).last=σ.last+1∧(σ.putT s).zero=σ.zero∧ ∀ m,(σ.putT s).row m=if m=σ.last+1 then ⟨.s (σ.row s).c.val.strong,false,false⟩ else σ.row m:=by
 unfold S.putT S.freshV
 exact wO ▸ (⟨⟨rfl,Nat.le_succ _,rfl,rfl,rfl,rfl,rfl⟩,rfl,rfl,rfl,rfl,rfl,λ m=>rfl⟩)
theorem kJ:goals (.s pv.strong)=match pv.tgt with | some m=>[m] | none=>[]:=by cases pv <;> rfl
theorem Inv.putT (I:Inv B σ) (hs:LS σ s):InvD [σ.last+1] (B+1) ((σ.putT s).setCnt (σ.last+1) 0)∧σ.last+1∉σ.wk:=by
 refine hideP λ PZ hZ=> ?_
 obtain ⟨b1,v,b2⟩:=hs
 have hth:=(I.cc s b1).trans b2
 have hv:(σ.row s).c.val=v:=by rw [b2];rfl
 have hv':(σ.th s).c.val=v:=by rw [hth];rfl
 obtain ⟨h1,h2,h3,h4,h5,h6,h7⟩:=kI (σ:=σ) (s:=s)
 have hold: ∀ m∈σ.real,((σ.putT s).setCnt (σ.last+1) 0).th m= {σ.th m with cnt:=(σ.th m).cnt+hit (v.tgt=some m)}:=λ m hm=>by
  have hm':=I.rb m hm
  unfold S.setCnt
  rw [zk,if_neg (Nat.ne_of_lt (Nat.lt_succ_of_le ‹_›)),ZM hm',hv']
 have hold': ∀ m∈σ.wk,((σ.putT s).setCnt (σ.last+1) 0).th m= {σ.th m with cnt:=(σ.th m).cnt+hit (v.tgt=some m)}:=λ m hm=>hold m (I.sub m hm)
 have hnew:((σ.putT s).setCnt (σ.last+1) 0).th (σ.last+1)=⟨.s v.strong,0,false,false,false,[]⟩:=by
  unfold S.setCnt
  rw [zk,if_pos rfl,gW,hv']
 have hr:Same σ ((σ.putT s).setCnt (σ.last+1) 0):=⟨h1.roots,h1.last,h1.heard,h1.log,h1.lkW,h1.lkR,h1.lkT⟩
 have htw: ∀ m,v.tgt=some m→m∈σ.wk:=λ m hm=>I.target b1 (hv ▸ hm)
 have hz:((σ.putT s).setCnt (σ.last+1) 0).zero=σ.zero:=h6
 have:=I.add (D':=[σ.last+1]) (τ:=(σ.putT s).setCnt (σ.last+1) 0) (n:=σ.last+1) (c:= .s v.strong) (b:=false) (Nat.le_refl _) hr h2 h3 h4 (by show σ.last+1≤(σ.putT s).last;lia) (λ m=>by show (σ.putT s).row m=_;rw [h7,hv]) (λ m hm=>by rw [hold' m hm]) (hnew ▸ (⟨rfl,rfl,rfl,rfl,rfl,rfl⟩)) (λ m hm=>by rw [hold m hm];exact ⟨rfl,rfl,rfl⟩) (λ m hm=>by
   rw [hold' m hm,wW]
   dsimp only
   unfold hit
   split <;> exact rfl) (λ u hu=>by rw [hold' u hu]) (λ m hm=>by
   rw [kJ] at hm
   cases ht:v.tgt with
   | none=>rw [ht] at hm;simp at hm
   | some k=>rw [ht] at hm;simp at hm;subst hm;exact htw _ ht) (λ m=>by cases v <;> nofun) (by intro m hm;simp [zi] at hm) (by rw [kJ];cases v.tgt <;> simp) nofun (λ m hm=>by rw [hz];exact hm) (λ m hm=>by rw [hz] at hm;exact .inl (I.zs m hm)) (.inr (by simp)) (λ d hd=>by simp at hd)
 refine hZ ?_
 exact ⟨this.1,this.2.2⟩
end
noncomputable def olist (f:Nat→Int):Option Nat→List Nat
 | some o=>if f o - 1=0 then [o] else []
 | none=>[]
section
variable {D D':List Nat} {B B':Nat} {σ τ:S} {n m s t:Nat} {pv old:PV}
theorem gX {x n:Nat} {l:List Nat}:(l ++ [n]).count x+0=l.count x+if n=x then 1 else 0:=by
 rw [List.count_append,wm,List.count_nil,Nat.zero_add];rfl
theorem VU {o x:Nat}:(if some o=some x then 1 else 0)=if o=x then 1 else 0:=by
 by_cases q:o=x
 ·rw [if_pos q,if_pos (congrArg some q)]
 ·rw [if_neg q,if_neg λ z=>q (Option.some.inj z)]
theorem kK {x:Nat} {f:Nat→Int} {oo:Option Nat}:x∈olist f oo↔oo=some x∧f x - 1=0:=by
 cases oo with
 | some o=>exact wX.trans ⟨λ h=>⟨by rw [h.1],by rw [h.1];exact h.2⟩,λ h=>⟨(Option.some.inj h.1).symm,by rw [Option.some.inj h.1];exact h.2⟩⟩
 | none=>exact ⟨λ h=>absurd h List.not_mem_nil,λ h=>za h.1⟩
theorem XC {f:Nat→Int} {oo:Option Nat}:(olist f oo).length≤3:=by
 cases oo with
 | some o=>exact iteI (P:=λ l:List Nat=>l.length≤3) (λ _=>Nat.le_of_ble_eq_true rfl) λ _=>Nat.zero_le _
 | none=>exact Nat.zero_le _
theorem putX0 {c:Cont}:(σ.setC t c).setRC t c=σ.setX t c (λ n=>(σ.th n).cnt - hit (none=some n)) (λ n=>(σ.th n).weak) (σ.zero ++ olist (λ o=>(σ.th o).cnt) none):=by
 rw [qG,jq,show olist (λ o=>(σ.th o).cnt) none=[] from rfl,List.append_nil]
 exact congrArg (λ f=>σ.tzr f _ _) (funext λ n=>thM (Int.sub_zero _).symm)
theorem putX1 {o:Nat} {c:Cont}:((σ.setC t c).letGo o).setRC t c=σ.setX t c (λ n=>(σ.th n).cnt - hit (some o=some n)) (λ n=>(σ.th n).weak) (σ.zero ++ olist (λ o=>(σ.th o).cnt) (some o)):=by
 rw [qG,xo,jq]
 refine congrArg (λ f=>σ.tzr f _ _) (funext λ n=>thM (congrArg ((σ.th n).cnt - ·) ?_))
 by_cases q:n=o
 ·rw [yS q,yS (by rw [q])]
 ·rw [xg q,xg λ z=>q (Option.some.inj z).symm]
theorem Inv.putGo (I:Inv B σ) (hs:LS σ s) (ht:t∈σ.wk) (hns: ∀ v,(σ.row t).c≠ .s v) {c:Cont} (hns': ∀ v,c≠ .s v) (oo:Option Nat)
  (hcount: ∀ x,(goals c).count x+(if oo=some x then 1 else 0)=(goals (σ.row t).c).count x+(if σ.last+1=x then 1 else 0)) (hoo: ∀ o,oo=some o→o∈goals (σ.row t).c) (hko:KeysOk c) :
  Inv (B+1) ((σ.putT s).setX t c (λ n=>((σ.putT s).th n).cnt - hit (oo=some n)) (λ n=>((σ.putT s).th n).weak) ((σ.putT s).zero ++ olist (λ o=>((σ.putT s).th o).cnt) oo))∧((σ.putT s).zero ++ olist (λ o=>((σ.putT s).th o).cnt) oo).length≤σ.zero.length+3∧(σ.putT s).roots=σ.roots:=by
 obtain ⟨I0,hnw⟩:=I.putT hs
 obtain ⟨h1,h2,h3,h4,h5,h6,h7⟩:=kI (σ:=σ) (s:=s)
 have hcn:((σ.putT s).th (σ.last+1)).cnt=1:=by rw [gW]
 have hcp: ∀ m∈σ.wk,(σ.th m).cnt≤((σ.putT s).th m).cnt:=λ m hm=>by
  rw [ZM (I.rb m (I.sub m hm)),vY];exact Int.le_add_of_nonneg_right (Int.natCast_nonneg _)
 rw [wF] at I0
 generalize σ.putT s=τ at *
 have hng: ∀ x∈goals (σ.row t).c,x∈σ.wk:=λ x hx=>I.tg t ht x (.inl hx)
 have hoow: ∀ o,oo=some o→o∈σ.wk:=λ o ho=>hng o (hoo o ho)
 have hon:oo≠some (σ.last+1):=λ h=>hnw (hoow _ h)
 have hold0:(goals (σ.row t).c).count (σ.last+1)=0:=List.count_eq_zero.mpr λ h=>hnw (hng _ h)
 have hrw: ∀ m∈σ.wk,τ.row m=σ.row m:=λ m hm=>(h7 m).trans (if_neg λ q:m=σ.last+1=>hnw (q ▸ hm))
 have hrt:=hrw t ht
 have hsub': ∀ x∈goals c,x∈goals (σ.row t).c∨x=σ.last+1:=λ x hx=>by
  have h8:=hcount x
  have h9:=List.count_pos_iff.mpr hx
  by_cases q:σ.last+1=x
  ·exact .inr q.symm
  ·rw [if_neg q] at h8
   exact .inl (List.count_pos_iff.mp (Nat.lt_of_lt_of_le h9 (Nat.le_trans (Nat.le_add_right _ _) (Nat.le_of_eq h8))))
 have hwl: ∀ m∈σ.wk,m∈τ.wk:=λ m hm=>by rw [h2];exact List.mem_append_left _ hm
 have hI:=I0.setX (t:=t) (c:=c) (cn:=λ n=>(τ.th n).cnt - hit (oo=some n)) (w:=λ n=>(τ.th n).weak) (z:=τ.zero ++ olist (λ o=>(τ.th o).cnt) oo) (hwl t ht) (λ m hm=> ?_) (λ u hu x=>ZL (I0.we u hu x) (λ q v h=>hns v (by rw [← hrt,← q];exact h)) hns') I0.wn (λ ⟨v,h⟩=>absurd ((congrArg Row.c hrt).symm.trans h) (hns v)) (λ x hx=> ?_) (λ x hx=> ?_) ?_ hko (λ m hm=>List.mem_append_left _ hm) (λ m hm=> ?_) (λ m hm hg h0=> ?_)
 ·refine ⟨hI.1.drop λ d hd _ h0=> ?_,?_,h1.roots⟩
  ·exfalso
   rw [List.mem_singleton.mp hd] at h0
   have h8:_+(goals (τ.row t).c).count _=_:=hI.2 (σ.last+1)
   have h9:=hcount (σ.last+1)
   rw [h0,hrt,hold0] at h8
   rw [if_pos rfl,if_neg hon] at h9
   lia
  ·rw [List.length_append,h6]
   exact Nat.add_le_add_left XC _
 ·show (τ.th m).cnt - hit (oo=some m)+((goals (τ.row t).c).count m:Int)=(if m=σ.last+1 then 0 else (τ.th m).cnt)+(goals c).count m
  have h8:=hcount m
  rw [hrt]
  by_cases q:m=σ.last+1
  ·rw [q,if_pos rfl,if_neg hon,hold0] at h8
   rw [q,xg hon,if_pos rfl,hcn,hold0]
   lia
  ·rw [if_neg (Ne.symm q)] at h8
   rw [if_neg q,vY]
   lia
 ·rcases hsub' x (hx.resolve_right (hns' _)) with q | q
  ·exact hwl x (hng x q)
  ·show x∈τ.wk
   rw [h2,q];exact List.mem_append_right _ (.head _)
 ·show ∃ v,(if x=t then c else (τ.row x).c)= .s v
  rw [uE hns'] at hx
  rcases hsub' x hx with q | q
  ·obtain ⟨v,hv⟩:=I.ms t ht x (by rw [uE hns];exact q)
   rw [hrw x (hng x q)]
   exact ⟨v,(if_neg λ q:x=t=>hns v (q ▸ hv)).trans hv⟩
  ·rw [h7,q,if_pos rfl]
   exact ⟨_,if_neg λ z:σ.last+1=t=>hnw (z ▸ ht)⟩
 ·refine List.nodup_iff_count.mpr λ x=> ?_
  have h8:=hcount x
  by_cases q:σ.last+1=x
  ·rw [← q,if_pos rfl,hold0] at h8
   rw [← q];exact Nat.le_trans (Nat.le_add_right _ _) (Nat.le_of_eq h8)
  ·rw [if_neg q] at h8
   exact Nat.le_trans (Nat.le_add_right _ _) (Nat.le_trans (Nat.le_of_eq h8) (List.nodup_iff_count.mp (I.gn t ht) x))
 ·show m∈τ.real
  rw [h3]
  refine List.mem_append_left _ ?_
  rcases List.mem_append.mp hm with h | h
  ·exact I.zs m (h6 ▸ h)
  ·exact I.sub _ (hoow _ (kK.mp h).1)
 ·replace hg:m∈goals (τ.row t).c:=hg
  replace h0:(τ.th m).cnt - hit (oo=some m)=0:=h0
  rw [hrt] at hg
  by_cases z:oo=some m
  ·rw [yS z] at h0
   exact List.mem_append_right _ (kK.mpr ⟨z,h0⟩)
  ·rw [xg z] at h0
   have hmw:=hng m hg
   have h8:=I.ct m hmw
   have h9:0 < σ.deg m:=Nat.lt_of_lt_of_le (vC ht hg) (Nat.le_add_left _ _)
   have:=hcp m hmw
   lia
theorem Inv.deedPut (I:Inv B σ) {k:Nat} (hp:LS σ m) (hs:LS σ s):Inv (B+1) (σ.putD m s k)∧(σ.putD m s k).zero.length≤σ.zero.length+3∧(σ.putD m s k).roots=σ.roots:=by
 have idle:Inv (B+1) σ∧σ.zero.length≤σ.zero.length+3∧σ.roots=σ.roots:=⟨I.mono (Nat.le_succ _),Nat.le_add_right _ _,rfl⟩
 unfold S.putD
 cases htg:(σ.row m).c.val.tgt with
 | none=>exact idle
 | some t =>
  have ht:t∈σ.wk:=I.target hp.1 htg
  dsimp only
  cases hc:(σ.row t).c with
  | s v=>exact idle
  | a xs =>
   dsimp only
   unfold S.putA
   rw [putX0]
   refine I.putGo hs ht (λ v h=>by cases hc.symm.trans h) (c:= .a (xs ++ [σ.last+1])) (λ v h=>by cases h) none (λ x=> ?_) (λ o h=>jJ h.symm) λ es h=>by cases h
   rw [hc]
   exact gX
  | h es =>
   dsimp only
   unfold S.putH
   have hko:=I.ko t ht _ hc
   cases hk:aget (keyOf k) es with
   | none =>
    dsimp only
    rw [kD (v:=σ.last+1) hk,putX0]
    refine I.putGo hs ht (λ v h=>by cases hc.symm.trans h) (c:= .h (es ++ [(keyOf k,σ.last+1)])) (λ v h=>by cases h) none (λ x=> ?_) (λ o h=>jJ h.symm) (λ es' h=> ?_)
    ·rw [hc]
     show ((es ++ [(keyOf k,σ.last+1)]).map (·.2)).count x+_=(es.map (·.2)).count x+_
     rw [List.map_append]
     exact gX
    ·cases h
     rw [List.map_append]
     exact List.nodup_append.mpr ⟨hko,List.nodup_cons.mpr ⟨List.not_mem_nil, .nil⟩,λ a ha b hb q=>kF hk ((q.trans (List.mem_singleton.mp hb):a=keyOf k) ▸ ha)⟩
   | some o =>
    dsimp only
    have hput:=kG (v:=σ.last+1) hko hk
    rw [hput,putX1]
    refine I.putGo hs ht (λ v h=>by cases hc.symm.trans h) (c:= .h (es.map λ e=>(e.1,if e.1=keyOf k then σ.last+1 else e.2))) (λ v h=>by cases h) (some o) (λ x=> ?_) (λ o' h=> ?_) (λ es' h=> ?_)
    ·rw [hc,← hput]
     exact Eq.trans (congrArg (_+ ·) VU) (jY (v:=σ.last+1) (x:=x) hk)
    ·rw [hc,← Option.some.inj h];exact gV hk
    ·cases h
     rw [List.map_map]
     exact hko
theorem Inv.deed (I:Inv B σ) (h:DeedOf σ τ):Inv (B+1) τ∧τ.zero.length≤σ.zero.length+3∧τ.roots=σ.roots:=by
 cases h with
 | new hp hw=>exact I.deedNew hw hp
 | @copy place source hp hs =>
  obtain ⟨b1,v,b2⟩:=hs
  have hth:=(I.cc source b1).trans b2
  have hv:(σ.row source).c.val=v:=by rw [b2];rfl
  have hv':(σ.th source).c.val=v:=by rw [hth];rfl
  show Inv (B+1) (σ.copyD place source)∧_
  unfold S.copyD
  rw [hv,hv']
  exact I.deedJ hp λ m hm=>I.target b1 (by rw [hv];exact hm)
 | @set place v hp hv =>
  have:v.strong=v:=by cases v <;> first | rfl | cases hv
  have:=I.deedJ (pv:=v) hp (λ m hm=>by rw [hv] at hm;cases hm)
  unfold S.jstore at this
  rw [‹v.strong=v›] at this
  exact this
 | weak hp=>exact I.deedWeak hp
 | put hp hs=>exact I.deedPut hp hs
 | taken hp=>exact I.deedTaken hp
 | nop=>exact ⟨I.mono (Nat.le_succ _),Nat.le_add_right _ _,rfl⟩
end
structure RSame (σ τ:S):Prop where
 last:τ.last=σ.last
 real:τ.real=σ.real
 roots:τ.roots=σ.roots
 wk:τ.wk=σ.wk
 row:τ.row=σ.row
 lastRow:τ.lastRow=σ.lastRow
 log:τ.log=σ.log
 lkW:τ.lkW=σ.lkW
 lkR:τ.lkR=σ.lkR
 lkT:τ.lkT=σ.lkT
theorem RSame.refl {σ:S}:RSame σ σ:=⟨rfl,rfl,rfl,rfl,rfl,rfl,rfl,rfl,rfl,rfl⟩
theorem RSame.trans {a b c:S} (h:RSame a b) (h':RSame b c):RSame a c:=⟨h'.1.trans h.1,h'.2.trans h.2,h'.3.trans h.3,h'.4.trans h.4,h'.5.trans h.5,h'.6.trans h.6,h'.7.trans h.7,h'.8.trans h.8,h'.9.trans h.9,h'.10.trans h.10⟩
section
variable {D D':List Nat} {B B':Nat} {σ τ:S} {n m s t x:Nat} {pv old:PV}
theorem RSame.tz {f:Nat→Th} {z:List Nat}:RSame σ (σ.tz f z):=⟨rfl,rfl,rfl,rfl,rfl,rfl,rfl,rfl,rfl,rfl⟩
theorem RSame.letGo:RSame σ (σ.letGo n):=xo ▸ .tz
theorem RSame.putOff:RSame σ (σ.putOff s old):=uC ▸ .tz
theorem RSame.take:RSame σ (σ.take pv):=wO ▸ .tz
theorem RSame.store:RSame σ (σ.store s pv):=by
 unfold S.store
 refine RSame.trans ?_ RSame.putOff
 exact RSame.take.trans ⟨rfl,rfl,rfl,rfl,rfl,rfl,rfl,rfl,rfl,rfl⟩
structure LetAll (ms:List Nat) (σ τ:S):Prop where
 th: ∀ x,τ.th x= {σ.th x with cnt:=(σ.th x).cnt - ms.count x}
 same:RSame σ τ
 heard:τ.heard=σ.heard
 z1: ∀ x∈σ.zero,x∈τ.zero
 z2: ∀ x∈τ.zero,x∈σ.zero∨x∈ms
 z3: ∀ x∈ms,(τ.th x).cnt=0→x∈τ.zero
theorem WJ:(σ.letGo m).th n= {σ.th n with cnt:=(σ.th n).cnt - hit (n=m)}:=congrFun (congrArg S.th xo) n
theorem qH:x∈(σ.letGo m).zero↔x∈σ.zero∨(x=m∧(σ.th m).cnt - 1=0):=by
 rw [show (σ.letGo m).zero=_ from congrArg S.zero xo,List.mem_append,wX]
theorem WK {ms:List Nat} {c:Int}:c - hit (x=n) - ms.count x=c - ((n :: ms).count x:Nat):=by
 by_cases q:x=n
 ·rw [yS q,q,List.count_cons_self];lia
 ·rw [xg q,List.count_cons_of_ne (Ne.symm q),Int.sub_zero]
theorem letAll: ∀ (ms:List Nat) (σ:S),LetAll ms σ (ms.foldl S.letGo σ)
 | [],σ=>⟨λ x=>thM (Int.sub_zero _).symm,RSame.refl,rfl,λ x h=>h,λ x h=> .inl h,nofun⟩
 | a :: ms,σ=>by
  have h1:=letAll ms (σ.letGo a)
  have hth: ∀ x,((a :: ms).foldl S.letGo σ).th x= {σ.th x with cnt:=(σ.th x).cnt - (a :: ms).count x}:=λ x=>(h1.th x).trans (by rw [WJ];exact thM WK)
  refine ⟨hth,RSame.letGo.trans h1.same,h1.heard.trans (congrArg S.heard xo :),λ x hx=> ?_,λ x hx=> ?_,λ x hx h0=> ?_⟩
  ·exact h1.z1 x (qH.mpr (.inl hx))
  ·rcases h1.z2 x hx with h | h
   ·rcases qH.mp h with h | h
    ·exact .inl h
    ·exact .inr (h.1 ▸ .head _)
   ·exact .inr (.tail _ h)
  ·by_cases q:x∈ms
   ·exact h1.z3 x q h0
   ·have hxa:x=a:=(List.mem_cons.mp hx).elim id λ h=>absurd h q
    refine h1.z1 x (qH.mpr (.inr ⟨hxa,?_⟩))
    rw [hth] at h0
    replace h0:(σ.th x).cnt - ((a :: ms).count x:Nat)=0:=h0
    rw [hxa,List.count_cons_self,List.count_eq_zero.mpr (hxa ▸ q)] at h0
    exact h0
structure Freed (σ τ:S) (n:Nat):Prop where
 c: ∀ x,x≠n→(τ.th x).c=if x∈(σ.th n).weak then .s .none else (σ.th x).c
 cnt: ∀ x,(τ.th x).cnt=(σ.th x).cnt - (goals (σ.th n).c).count x
 weak: ∀ x,x≠n→(τ.th x).weak=if (σ.th n).c= .s (.weak x) then (σ.th x).weak.filter (· ≠n) else (σ.th x).weak
 bl: ∀ x,(τ.th x).bl=(σ.th x).bl
 ds: ∀ x,(τ.th x).ds=(σ.th x).ds
 fr: ∀ x,(τ.th x).fr=if x=n then true else (σ.th x).fr
 same:RSame σ τ
 heard:τ.heard=σ.heard
 z1: ∀ x∈σ.zero,x∈τ.zero
 z2: ∀ x∈τ.zero,x∈σ.zero∨x∈goals (σ.th n).c
 z3: ∀ x∈goals (σ.th n).c,(τ.th x).cnt=0→x∈τ.zero
theorem WL:(σ.freed n).th x= {σ.th x with fr:=if x=n then true else (σ.th x).fr}:=by
 unfold S.freed
 rw [zk]
 by_cases q:x=n
 ·rw [if_pos q,if_pos q,q]
 ·rw [if_neg q,if_neg q]
theorem WM {W:List Nat}:(σ.clearVals W).th x= {σ.th x with c:=if x∈W then .s .none else (σ.th x).c}:=by
 unfold S.clearVals
 by_cases q:x∈W
 ·rw [if_pos q];exact if_pos q
 ·rw [if_neg q];exact if_neg q
theorem YH:(σ.setWeak n []).th x= {σ.th x with weak:=if x=n then [] else (σ.th x).weak}:=by
 unfold S.setWeak
 rw [zk]
 by_cases q:x=n
 ·rw [if_pos q,if_pos q,q]
 ·rw [if_neg q,if_neg q]
theorem vZ:(σ.free3 n).th x= {σ.th x with c:=if x∈(σ.th n).weak then .s .none else (σ.th x).c,weak:=if x=n then [] else (σ.th x).weak,fr:=if x=n then true else (σ.th x).fr}:=by
 unfold S.free3
 rw [YH,WM,WL]
theorem WN {t':Th} (h:σ.th n=t'):σ.setTh n t'=σ:=by rw [← h];exact jS
abbrev S.un (σ:S) (n:Nat) (f:Nat→Cont) (z:Nat):S:=σ.tz (λ x=> {σ.th x with c:=if x=z then f x else if x∈(σ.th n).weak then .s .none else (σ.th x).c,weak:=if x=n then [] else (σ.th x).weak,fr:=if x=n then true else (σ.th x).fr}) σ.zero
theorem hgo {o:PV} (ho:o=old∨(o= .none∧old= .weak n)):(goals (.s old)).count x=if o= .ref x then 1 else 0:=by
 rw [uS]
 rcases ho with q | ⟨q,q'⟩
 ·rw [q]
 ·rw [q,q'];exact rfl
theorem href {o:PV} (ho:o=old∨(o= .none∧old= .weak n)):x∈goals (.s old)↔o= .ref x:=by
 have:=hgo (x:=x) ho
 by_cases z:o= .ref x
 ·rw [if_pos z] at this
  exact ⟨λ _=>z,λ _=>List.count_pos_iff.mp (by lia)⟩
 ·rw [if_neg z] at this
  exact ⟨λ h=>absurd h (List.count_eq_zero.mp this),λ h=>absurd h z⟩
theorem VV {o:PV} (hc:(σ.th n).c= .s old) (ho:o=old∨(o= .none∧old= .weak n)):Freed σ ((σ.un n (λ _=> .s .none) n).putOff n o) n:=by
 rw [uC]
 refine ⟨λ x hx=>if_neg hx,λ x=> ?_,λ x hx=> ?_,λ _=>rfl,λ _=>rfl,λ _=>rfl,⟨rfl,rfl,rfl,rfl,rfl,rfl,rfl,rfl,rfl,rfl⟩,rfl,λ x hx=>List.mem_append_left _ hx,λ x hx=> ?_,λ x hx h0=> ?_⟩
 ·rw [hc,hgo ho,← vY]
 ·show (if o= .weak x then (if x=n then [] else (σ.th x).weak).filter (· ≠n) else (if x=n then [] else (σ.th x).weak))=_
  rw [hc,if_neg hx]
  rcases ho with q | ⟨q,q'⟩
  ·rw [q]
   by_cases z:old= .weak x
   ·rw [if_pos z,if_pos (by rw [z])]
   ·rw [if_neg z,if_neg (λ h=>z (Cont.s.inj h))]
  ·rw [q,q',if_neg nofun,if_neg (λ h=>hx (PV.weak.inj (Cont.s.inj h)).symm)]
 ·rw [hc]
  exact (List.mem_append.mp hx).imp_right λ h=>(href ho).mpr (vm.mp h).1
 ·rw [hc] at hx
  have hx:=(href ho).mp hx
  replace h0:(σ.th x).cnt - hit (o= .ref x)=0:=h0
  rw [yS hx] at h0
  exact List.mem_append_right _ (vm.mpr ⟨hx,h0⟩)
theorem VX {c:Cont} {e:Nat→Cont} (hc:(σ.th n).c=c) (hns: ∀ v,c≠ .s v) (hmg:zi c=goals c):Freed σ ((zi c).foldl S.letGo (σ.un n e n)) n:=by
 have L:=letAll (zi c) (σ.un n e n)
 rw [← hc] at hns
 rw [hmg,← hc] at L ⊢
 exact ⟨λ x hx=>(congrArg Th.c (L.th x)).trans (if_neg hx),λ x=>congrArg Th.cnt (L.th x),λ x hx=>(congrArg Th.weak (L.th x)).trans ((if_neg hx).trans (if_neg (hns _)).symm),λ x=>(congrArg Th.bl (L.th x) :),λ x=>(congrArg Th.ds (L.th x) :),λ x=>(congrArg Th.fr (L.th x) :),RSame.tz.trans L.same,L.heard,L.z1,L.z2,L.z3⟩
theorem WO (hws: ∀ s∈(σ.th n).weak,∃ v,(σ.th s).c= .s v) (hself:n∈(σ.th n).weak→(σ.th n).c= .s (.weak n)):Freed σ (σ.free n) n:=by
 have e3: ∀ v,(σ.free3 n).setTh n {(σ.free3 n).th n with c:=v}=σ.un n (λ _=>v) n:=λ v=>thE λ x=>by
  by_cases q:x=n
  ·rw [if_pos q,if_pos q,q,vZ]
  ·rw [if_neg q,if_neg q,vZ]
 have nonS: ∀ c,(σ.th n).c=c→(∀ v,c≠ .s v)→(zi c=goals c)→Freed σ (σ.free n) n:=by
  intro c hc hns hmg
  have hnw:n∉(σ.th n).weak:=λ h=>by
   obtain ⟨v,hv⟩:=hws n h
   exact hns v (hc.symm.trans hv)
  have h3:((σ.free3 n).th n).c=c:=(congrArg Th.c vZ).trans ((if_neg hnw).trans hc)
  have h4:σ.free4 n=σ.free3 n:=by
   unfold S.free4;rw [h3]
   cases c with
   | s v=>exact absurd rfl (hns v)
   | _=>rfl
  unfold S.free S.empty
  rw [h4,h3,e3]
  exact VX hc hns hmg
 cases hc:(σ.th n).c with
 | a xs=>exact nonS _ hc nofun rfl
 | h es=>exact nonS _ hc nofun rfl
 | s old =>
  have h3: ∃ o,((σ.free3 n).th n).c= .s o∧(o=old∨(o= .none∧old= .weak n)):=by
   rw [vZ]
   show ∃ o,(if n∈(σ.th n).weak then _ else _)=_∧_
   by_cases q:n∈(σ.th n).weak
   ·exact ⟨_,if_pos q, .inr ⟨rfl,Cont.s.inj (hc.symm.trans (hself q))⟩⟩
   ·exact ⟨_,(if_neg q).trans hc, .inl rfl⟩
  obtain ⟨o,h3,ho⟩:=h3
  have h4:σ.free4 n=(σ.un n (λ _=> .s .none) n).putOff n o:=by unfold S.free4;rw [h3,← e3];rfl
  have h4c:((σ.free4 n).th n).c= .s .none:=by
   rw [h4,gJ];exact if_pos rfl
  have h5:σ.free n=σ.free4 n:=by
   unfold S.free S.empty
   rw [h4c]
   exact WN (by
    show (σ.free4 n).th n= {(σ.free4 n).th n with c:= .s .none}
    rw [← h4c])
  rw [h5,h4]
  exact VV hc ho
end
section
variable {D D' ns:List Nat} {B B':Nat} {σ τ:S} {n m s t x a:Nat} {pv old:PV}
theorem XD (ok:FreeOk σ n):(σ.free n).zero.length≤σ.zero.length+1+(zi (σ.th n).c).length:=by
 have h1:=jU (σ:=σ) (n:=n)
 have h2:=x0 (zi ((σ.free4 n).th n).c) ((σ.free4 n).empty n)
 have h3:((σ.free4 n).empty n).zero=(σ.free4 n).zero:=rfl
 rw [h3] at h2
 have h4:(zi ((σ.free4 n).th n).c).length≤(zi (σ.th n).c).length:=by
  rcases ZI ok with q | ⟨_,q⟩
  ·rw [q];exact Nat.le_refl _
  ·rw [q];exact Nat.zero_le _
 show ((zi ((σ.free4 n).th n).c).foldl S.letGo ((σ.free4 n).empty n)).zero.length≤_
 lia
theorem InvD.freeOk (I:InvD D B σ) (ha:a∈σ.wk) (hb:B≤1000) (hz:σ.zero.length≤100000):FreeOk σ a:=by
 have hc:=I.cc a ha
 refine ⟨λ s hs=> ?_,?_,I.rb a (I.sub a ha),by rw [hc];exact I.ko a ha,I.lt,λ m hm=> ?_⟩
 ·obtain ⟨h1,h2⟩:=(I.we a ha s).mp hs
  exact ⟨_,(I.cc s h1).trans h2⟩
 ·have:=I.ml ha
  rw [hc];unfold big;lia
 ·have hm':m∈σ.wk:=I.tg a ha m (.inr (by rw [← hc];exact hm))
  have:=I.wkl hm'
  exact ⟨by unfold big;lia,I.rb m (I.sub m hm')⟩
theorem yy {row:Nat→Row} {ds:List Nat}:(zh row n ds m).c=(row m).c∧ ¬ (m∈ds∧(row m).c= .s (.weak n))∨(zh row n ds m).c= .s .none∧m∈ds∧(row m).c= .s (.weak n):=by
 unfold zh
 by_cases q:m∈ds∧(row m).c= .s (.weak n)
 ·rw [if_pos q];exact .inr ⟨rfl,q⟩
 ·rw [if_neg q];exact .inl ⟨rfl,q⟩
theorem xB {row:Nat→Row} {ds:List Nat}:goals (zh row n ds m).c=goals (row m).c:=by
 rcases yy (row:=row) (n:=n) (m:=m) (ds:=ds) with h | h
 ·rw [h.1]
 ·rw [h.1,h.2.2];rfl
theorem bW {row:Nat→Row} {ds:List Nat}:(zh row n ds m).bl=(row m).bl:=by unfold zh;split <;> rfl
theorem u8 {row:Nat→Row} {ds:List Nat}:(zh row n ds m).ds=(row m).ds:=by unfold zh;split <;> rfl
set_option tactic.hygienic true in
theorem InvD.goes (I:InvD (a :: ns) B σ) (ha:a∈σ.wk) (h0:σ.deg a=0):InvD ns B ((σ.free a).wpop a)∧ ∀ n,((σ.free a).wpop a).deg n+(goals (σ.row a).c).count n=σ.deg n:=by
 have hac:=I.cc a ha
 obtain ⟨hnr,hng⟩:=I.deg_zero h0
 have F:Freed σ (σ.free a) a:=WO (λ s hs=>by
  obtain ⟨h1,h2⟩:=(I.we a ha s).mp hs
  exact ⟨_,(I.cc s h1).trans h2⟩) (λ h=>by rw [hac];exact ((I.we a ha a).mp h).2)
 have hw:((σ.free a).wpop a).wk=σ.wk.erase a:=by show (σ.free a).wk.erase a=_;rw [F.same.wk]
 have hrow:((σ.free a).wpop a).row=zh σ.row a (σ.wk.erase a):=by show zh (σ.free a).row a ((σ.free a).wk.erase a)=_;rw [F.same.wk,F.same.row]
 have hth:((σ.free a).wpop a).th=(σ.free a).th:=rfl
 have hmem: ∀ n,n∈σ.wk.erase a↔n∈σ.wk∧n≠a:=λ n=>by
  rw [I.nd.mem_erase_iff];exact ⟨λ h=>⟨h.2,h.1⟩,λ h=>⟨h.2,h.1⟩⟩
 have hdeg: ∀ n,((σ.free a).wpop a).deg n+(goals (σ.row a).c).count n=σ.deg n:=λ n=>by
  unfold S.deg
  rw [hw,hrow]
  have e1:zg (zh σ.row a (σ.wk.erase a)) (σ.wk.erase a) n=zg σ.row (σ.wk.erase a) n:=yY λ m hm=>by rw [xB]
  have e2:=gc (row:=σ.row) (n:=n) ha
  have e3:((σ.free a).wpop a).roots=σ.roots:=F.same.roots
  rw [e1,e3]
  lia
 refine ⟨⟨?_,?_,?_,?_,?_,?_,?_,?_,?_,?_,?_,?_,?_,?_,?_,?_,?_,?_,?_,?_,?_,?_,?_,?_,?_⟩,hdeg⟩
 ·show (σ.free a).lkW=false;rw [F.same.lkW];exact I.lw
 ·show (σ.free a).lkR=false;rw [F.same.lkR];exact I.lr
 ·intro n;show (σ.free a).lkT n=false;rw [F.same.lkT];exact I.lt n
 ·rw [hw];exact I.nd.erase a
 ·intro n hn
  rw [hw] at hn
  show n∈(σ.free a).real
  rw [F.same.real];exact I.sub n ((hmem n).mp hn).1
 ·intro n hn
  show n≤(σ.free a).last
  rw [F.same.last]
  exact I.rb n (by rw [← F.same.real];exact hn)
 ·show (σ.free a).lastRow≤(σ.free a).last
  rw [F.same.lastRow,F.same.last];exact I.lb
 ·intro n hn
  have hn':n∈σ.real:=by rw [← F.same.real];exact hn
  rw [hth,F.fr,hw,I.fr n hn']
  by_cases q:n=a
  ·subst n;rw [if_pos rfl];simp [hmem]
  ·rw [if_neg q];simp [hmem,q]
 ·intro n hn
  rw [hw] at hn
  obtain ⟨h1,h2⟩:=(hmem n).mp hn
  rw [hth,F.c n h2,hrow]
  unfold zh
  by_cases q:(σ.row n).c= .s (.weak a)
  ·rw [if_pos ((I.we a ha n).mpr ⟨h1,q⟩),if_pos ⟨hn,q⟩]
  ·rw [if_neg (λ h=>q ((I.we a ha n).mp h).2),if_neg (λ h=>q h.2)]
   exact I.cc n h1
 ·intro n hn
  rw [hw] at hn
  rw [hth,F.bl,hrow,bW];exact I.bl n ((hmem n).mp hn).1
 ·intro n hn
  rw [hw] at hn
  rw [hth,F.ds,hrow,u8];exact I.ds n ((hmem n).mp hn).1
 ·intro n hn
  rw [hw] at hn
  rw [hth,F.cnt,hac,I.ct n ((hmem n).mp hn).1]
  have:=hdeg n
  lia
 ·intro n hn m hm
  rw [hw] at hn ⊢
  obtain ⟨h1,h2⟩:=(hmem n).mp hn
  rw [hrow] at hm
  rw [xB] at hm
  rcases hm with h | h
  ·exact (hmem m).mpr ⟨I.tg n h1 m (.inl h),λ q=>hng n h1 (by rw [← q];exact h)⟩
  ·rcases yy (row:=σ.row) (n:=a) (m:=n) (ds:=σ.wk.erase a) with z | z
   ·rw [z.1] at h
    exact (hmem m).mpr ⟨I.tg n h1 m (.inr h),λ q=>z.2 ⟨hn,by rw [← q];exact h⟩⟩
   ·rw [z.1] at h;cases h
 ·intro n hn m hm
  rw [hw] at hn
  obtain ⟨h1,h2⟩:=(hmem n).mp hn
  rw [hrow] at hm ⊢
  have hm':m∈zi (σ.row n).c:=by
   rcases yy (row:=σ.row) (n:=a) (m:=n) (ds:=σ.wk.erase a) with z | z
   ·rw [z.1] at hm;exact hm
   ·rw [z.1] at hm;simp [zi] at hm
  obtain ⟨v,hv⟩:=I.ms n h1 m hm'
  rcases yy (row:=σ.row) (n:=a) (m:=m) (ds:=σ.wk.erase a) with z | z
  ·exact ⟨v,by rw [z.1];exact hv⟩
  ·exact ⟨_,z.1⟩
 ·intro n hn
  rw [hw] at hn
  rw [hrow,xB];exact I.gn n ((hmem n).mp hn).1
 ·intro n hn
  rw [hw] at hn
  rw [hrow]
  rcases yy (row:=σ.row) (n:=a) (m:=n) (ds:=σ.wk.erase a) with z | z
  ·rw [z.1];exact I.ko n ((hmem n).mp hn).1
  ·rw [z.1];exact nofun
 ·intro t ht s
  rw [hw] at ht ⊢
  obtain ⟨t1,t2⟩:=(hmem t).mp ht
  rw [hth,F.weak t t2,hrow,hac]
  have hwe:=I.we t t1 s
  constructor
  ·intro h
   have hs:s∈(σ.th t).weak∧((σ.row a).c= .s (.weak t)→s≠a):=by
    split at h
    ·rw [List.mem_filter] at h
     exact ⟨h.1,λ _=>by simpa using h.2⟩
    ·rename_i q
     exact ⟨h,λ z=>absurd z q⟩
   obtain ⟨h1,h2⟩:=hwe.mp hs.1
   have hsa:s≠a:=λ q=>hs.2 (by rw [← q];exact h2) q
   refine ⟨(hmem s).mpr ⟨h1,hsa⟩,?_⟩
   rcases yy (row:=σ.row) (n:=a) (m:=s) (ds:=σ.wk.erase a) with z | z
   ·rw [z.1];exact h2
   ·rw [z.2.2] at h2
    injection h2 with h2
    injection h2 with h2
    exact absurd h2.symm t2
  ·rintro ⟨h1,h2⟩
   obtain ⟨h3,h4⟩:=(hmem s).mp h1
   have h5:s∈(σ.th t).weak:=by
    rcases yy (row:=σ.row) (n:=a) (m:=s) (ds:=σ.wk.erase a) with z | z
    ·rw [z.1] at h2;exact hwe.mpr ⟨h3,h2⟩
    ·rw [z.1] at h2;cases h2
   split
   ·rw [List.mem_filter];exact ⟨h5,by simpa using h4⟩
   ·exact h5
 ·intro t ht
  rw [hw] at ht
  obtain ⟨t1,t2⟩:=(hmem t).mp ht
  rw [hth,F.weak t t2]
  split
  ·exact (I.wn t t1).filter _
  ·exact I.wn t t1
 ·intro r hr
  have hr':r∈σ.roots:=by rw [← F.same.roots];exact hr
  obtain ⟨h1,v,h2⟩:=I.ro r hr'
  refine ⟨by rw [hw];exact (hmem r).mpr ⟨h1,λ q=>hnr (by rw [← q];exact hr')⟩,?_⟩
  rw [hrow]
  rcases yy (row:=σ.row) (n:=a) (m:=r) (ds:=σ.wk.erase a) with z | z
  ·exact ⟨v,by rw [z.1];exact h2⟩
  ·exact ⟨_,z.1⟩
 ·intro n hn hd
  rw [hw] at hn
  obtain ⟨h1,h2⟩:=(hmem n).mp hn
  have hdn:=hdeg n
  by_cases q:n∈goals (σ.row a).c
  ·left
   refine F.z3 n (by rw [hac];exact q) ?_
   rw [F.cnt,hac,I.ct n h1]
   lia
  ·rw [List.count_eq_zero.mpr q] at hdn
   rcases I.zm n h1 (by lia) with h | h
   ·exact .inl (F.z1 n h)
   ·rcases List.mem_cons.mp h with h | h
    ·exact absurd h h2
    ·exact .inr h
 ·intro n hn
  show n∈(σ.free a).real
  rw [F.same.real]
  rcases F.z2 n hn with h | h
  ·exact I.zs n h
  ·rw [hac] at h;exact I.sub n (I.tg a ha n (.inl h))
 ·show (σ.free a).heard=(σ.free a).log
  rw [F.heard,F.same.log];exact I.hl
 ·show (σ.free a).log.length≤((σ.free a).real.filter λ n=>((σ.free a).th n).ds).length
  rw [F.same.log,F.same.real]
  have:(σ.real.filter λ n=>((σ.free a).th n).ds)=σ.real.filter λ n=>(σ.th n).ds:=List.filter_congr λ n _=>F.ds n
  rw [this];exact I.ll
 ·show (σ.free a).real.length≤B
  rw [F.same.real];exact I.rl
 ·show (σ.free a).roots.length≤4
  rw [F.same.roots];exact I.r4
end
section
variable {D D' ns:List Nat} {B B':Nat} {σ τ j:S} {n m s t x a d q:Nat} {pv old:PV}
theorem bX {l:List Nat} {p p':Nat→Bool} (h: ∀ x∈l,p x=true→p' x=true) (hd:d∈l) (h1:p d=false) (h2:p' d=true):(l.filter p).length+1≤(l.filter p').length:=by
 obtain ⟨s,t,rfl⟩:=List.append_of_mem hd
 rw [← List.countP_eq_length_filter,← List.countP_eq_length_filter,List.countP_append,List.countP_append,List.countP_cons_of_neg (by rw [h1];nofun),List.countP_cons_of_pos h2]
 have a:s.countP p≤s.countP p':=List.countP_mono_left λ x hx=>h x (List.mem_append_left _ hx)
 have b:t.countP p≤t.countP p':=List.countP_mono_left λ x hx=>h x (List.mem_append_right _ (.tail _ hx))
 lia
noncomputable def S.mark (j:S) (d:Nat):S:=((j.marked d).hears d).wmarked d
theorem VY:(j.mark d).th m= {j.th m with ds:=if m=d then true else (j.th m).ds}:=by
 show (if m=d then {j.th d with ds:=true} else j.th m)=_
 by_cases q:m=d
 ·rw [if_pos q,if_pos q,q]
 ·rw [if_neg q,if_neg q]
theorem wY:(j.mark d).row m= {j.row m with ds:=if m=d then true else (j.row m).ds}:=by
 show (if m=d then {j.row d with ds:=true} else j.row m)=_
 by_cases q:m=d
 ·rw [if_pos q,if_pos q,q]
 ·rw [if_neg q,if_neg q]
theorem ZN:((j.mark d).row m).bl=(j.row m).bl:=by rw [wY]
theorem XE:((j.mark d).row m).c=(j.row m).c:=by rw [wY]
theorem ZO:((j.mark d).row m).ds=if m=d then true else (j.row m).ds:=by rw [wY]
theorem InvD.mark (I:InvD D B j) (hd:d∈j.wk) (hds:(j.row d).ds=false):InvD D B (j.mark d)∧(∀ n,(j.mark d).deg n=j.deg n):=by
 have hth: ∀ m,(j.mark d).th m=_:=λ m=>VY
 have hrow: ∀ m,(j.mark d).row m=_:=λ m=>wY
 have hdeg: ∀ n,(j.mark d).deg n=j.deg n:=λ n=>by
  unfold S.deg
  show j.roots.count n+zg (j.mark d).row j.wk n=_
  rw [yY (row:=j.row) λ m _=>by rw [hrow]]
 have hc: ∀ m,((j.mark d).row m).c=(j.row m).c:=λ m=>by rw [hrow]
 refine ⟨⟨I.lw,I.lr,I.lt,I.nd,I.sub,I.rb,I.lb,λ n hn=>by rw [hth];exact I.fr n hn,λ n hn=>by rw [hth,hc];exact I.cc n hn,λ n hn=>by rw [hth,hrow];exact I.bl n hn,λ n hn=>by rw [hth,hrow];dsimp only;rw [I.ds n hn],λ n hn=>by rw [hth,hdeg];exact I.ct n hn,λ n hn m hm=>by rw [hc] at hm;exact I.tg n hn m hm,λ n hn m hm=>by rw [hc] at hm;rw [hc];exact I.ms n hn m hm,λ n hn=>by rw [hc];exact I.gn n hn,λ n hn=>by rw [hc];exact I.ko n hn,λ t ht s=>by rw [hth,hc];exact I.we t ht s,λ t ht=>by rw [hth];exact I.wn t ht,λ r hr=>by obtain ⟨h1,h2⟩:=I.ro r hr;exact ⟨h1,by rw [hc];exact h2⟩,λ n hn h0=>by rw [hdeg] at h0;exact I.zm n hn h0,I.zs,?_,?_,I.rl,I.r4⟩,hdeg⟩
 ·show j.heard ++ [d]=j.log ++ [d];rw [I.hl]
 ·show (j.log ++ [d]).length≤(j.real.filter λ n=>((j.mark d).th n).ds).length
  have:=bX (l:=j.real) (p:=λ n=>(j.th n).ds) (p':=λ n=>((j.mark d).th n).ds) (d:=d) (λ x hx h=>by rw [hth];dsimp only;split <;> simp_all) (I.sub d hd) (by rw [I.ds d hd];exact hds) (by rw [hth];simp)
  have:=I.ll
  simp only [List.length_append,List.length_singleton]
  exact Nat.lt_of_le_of_lt ‹_› ‹_›
theorem tz2 {f g:Nat→Th} {x y:List Nat} (h: ∀ n,f n=g n) (e:x=y):σ.tz f x=σ.tz g y:=by rw [funext h,e]
theorem ZP:σ.hold d=σ.tz (λ n=> {σ.th n with cnt:=(σ.th n).cnt+hit ((PV.ref d).tgt=some n)}) σ.zero:=wO (pv:= .ref d)
theorem jZ (h: ¬ n=d): ¬ (PV.ref d).tgt=some n:=λ q=>h (Option.some.inj q).symm
theorem WP:(σ.hold d).setCnt d (((σ.hold d).th d).cnt - 1)=σ:=by
 rw [wF,ZP]
 refine tz2 (σ:=σ) (g:=σ.th) (λ n=>thM (a:=if n=d then (σ.th d).cnt+hit ((PV.ref d).tgt=some d) - 1 else (σ.th n).cnt+hit ((PV.ref d).tgt=some n)) ?_) rfl
 by_cases z:n=d
 ·cases z;rw [if_pos rfl,yS (p:=(PV.ref d).tgt=some d) rfl];exact Int.add_sub_cancel _ _
 ·rw [if_neg z,xg (jZ z)];exact Int.add_zero _
theorem YI (h1:(σ.th s).c= .s old) (hne:old≠ .ref d):((σ.hold d).store s (.ref d)).setCnt d ((((σ.hold d).store s (.ref d)).th d).cnt - 1)=σ.store s (.ref d):=by
 have h2:((σ.hold d).th s).c= .s old:=jR.trans h1
 rw [xp h1,xp h2,ZP,wF]
 refine tz2 (λ n=>thM (a:=if n=d then (σ.th d).cnt+hit ((PV.ref d).tgt=some d)+hit ((PV.ref d).tgt=some d) - hit (old= .ref d) - 1 else (σ.th n).cnt+hit ((PV.ref d).tgt=some n)+hit ((PV.ref d).tgt=some n) - hit (old= .ref n)) ?_) (congrArg (σ.zero ++ ·) ?_)
 ·by_cases z:n=d
  ·cases z;rw [if_pos rfl,yS (p:=(PV.ref d).tgt=some d) rfl,xg hne];lia
  ·rw [if_neg z,xg (jZ z),Int.add_zero]
 ·cases old with
  | ref m =>
   show (if (σ.th m).cnt+hit _+_ - 1=0 then [m] else [])=(if (σ.th m).cnt+hit _ - 1=0 then [m] else [])
   rw [xg (jZ λ z=>hne (by rw [z])),Int.add_zero]
  | _=>rfl
theorem XF (hcnt:(σ.th d).cnt=0) (hbl:(σ.th d).bl=true) (hds:(σ.th d).ds=false) (hold:σ.roots≠[]→ ∃ old,(σ.th (σ.roots.getD (d % 4) 0)).c= .s old∧old≠ .ref d) :
  σ.finish q d=if d % 3=q∧σ.roots≠[] then ((σ.marked d).hears d).store (σ.roots.getD (d % 4) 0) (.ref d) else (σ.marked d).hears d:=by
 unfold S.finish
 rw [if_pos ⟨hcnt,hbl,hds⟩]
 by_cases h:d % 3=q∧σ.roots≠[]
 ·obtain ⟨old,ho,hne⟩:=hold h.2
  rw [show ((σ.marked d).hold d).destroy q d=(((σ.marked d).hears d).hold d).store (σ.roots.getD (d % 4) 0) (.ref d) from if_pos h,if_pos h]
  exact YI (jp.trans ho) hne
 ·rw [show ((σ.marked d).hold d).destroy q d=((σ.marked d).hears d).hold d from if_neg h,if_neg h]
  exact WP
structure Step1 (j j':S) (d:Nat):Prop where
 wk:j'.wk=j.wk
 real:j'.real=j.real
 roots:j'.roots=j.roots
 bl: ∀ m,(j'.row m).bl=(j.row m).bl
 dsn: ∀ m,m≠d→(j'.row m).ds=(j.row m).ds
 ds1:(j.row d).ds=true→(j'.row d).ds=true
 ds2:(j.row d).bl=true→(j'.row d).ds=true
 zl:j'.zero.length≤j.zero.length+1
 dg: ∀ x,x≠d→j'.deg x≤j.deg x
 dd:j'.deg d≠0→(j.row d).ds=false∧(j'.row d).ds=true
 rf: ∀ m,goals (j'.row m).c=goals (j.row m).c∨m∈j.roots
theorem RSame.deg (h:RSame σ τ):τ.deg n=σ.deg n:=by unfold S.deg;rw [h.row,h.wk,h.roots]
theorem ZQ (h:RSame τ σ) (hb:(τ.row n).bl=true) (hd:(τ.row n).ds=false) (h0:τ.deg n=0):σ.wfinish q n=if n % 3=q∧τ.roots≠[] then (σ.wmarked n).setRowV (τ.roots.getD (n % 4) 0) (.ref n) else σ.wmarked n:=by
 unfold S.wfinish
 rw [h.row,h.deg,h.roots,if_pos ⟨hb,hd,h0⟩]
theorem j0:RSame σ ((σ.marked d).hears d):=⟨rfl,rfl,rfl,rfl,rfl,rfl,rfl,rfl,rfl,rfl⟩
theorem ge (hc:(σ.th s).c= .s old):(σ.store s pv).wmarked d=(σ.wmarked d).store s pv:=by
 rw [xp hc,xp (σ:=σ.wmarked d) hc];rfl
theorem v6:(σ.jstore s pv).row m= {σ.row m with c:=if m=s then .s pv.strong else (σ.row m).c}:=by
 unfold S.jstore S.setRowV S.setRow
 rw [(RSame.store (σ:=σ) (s:=s) (pv:=pv)).row]
 show (if m=s then {σ.row s with c:= .s pv.strong} else σ.row m)=_
 by_cases q:m=s
 ·rw [if_pos q,if_pos q,q]
 ·rw [if_neg q,if_neg q]
inductive Rsc (j:S) (d r:Nat):Prop
 | mk (old:PV) (h1:r∈j.roots) (h2:(j.row r).c= .s old) (h3:(j.th r).c= .s old) (h4:old≠ .ref d) (h5:r∈j.wk) (h6:r≠d)
theorem InvD.rsc (I:InvD D B j) (h0:j.deg d=0) (h4:j.roots=[]∨j.roots.length=4) (hr:j.roots≠[]):Rsc j d (j.roots.getD (d % 4) 0):=by
 obtain ⟨hnr,hng⟩:=I.deg_zero h0
 have hm:j.roots.getD (d % 4) 0∈j.roots:=by
  have:d % 4 < j.roots.length:=Nat.lt_of_lt_of_eq (Nat.mod_lt _ (Nat.succ_pos 3)) (h4.resolve_left hr).symm
  rw [List.getD_eq_getElem?_getD,List.getElem?_eq_getElem this]
  exact List.getElem_mem this
 obtain ⟨h1,v,h2⟩:=I.ro _ hm
 exact ⟨v,hm,h2,(I.cc _ h1).trans h2,λ z=>hng _ h1 (by rw [h2,z];exact .head _),h1,λ z=>hnr (z ▸ hm)⟩
theorem InvD.step1r {r:Nat} (I:InvD D B j) (hd:d∈j.wk) (hds:(j.row d).ds=false) (h:Rsc j d r):InvD D B ((j.mark d).jstore r (.ref d))∧Step1 j ((j.mark d).jstore r (.ref d)) d:=by
 obtain ⟨old,hrr,h1,h2,h3,h5,hrd⟩:=h
 obtain ⟨Im,hdm⟩:=I.mark hd hds
 have hmr:((j.mark d).row r).c= .s old:=by rw [wY];exact h1
 obtain ⟨J1,J2⟩:=Im.jstore (pv:= .ref d) (s:=r) h5 hmr (λ m hm=>by cases hm;exact hd)
 have hth:((j.mark d).th r).c= .s old:=(Im.cc r h5).trans hmr
 have hS:RSame (j.mark d) ((j.mark d).store r (.ref d)):=RSame.store
 have hb: ∀ m,(((j.mark d).jstore r (.ref d)).row m).ds=if m=d then true else (j.row m).ds:=λ m=>(congrArg Row.ds v6).trans ZO
 refine ⟨J1,⟨hS.wk,hS.real,hS.roots,λ m=>(congrArg Row.bl v6).trans ZN,λ m hm=>(hb m).trans (if_neg hm),λ _=>(hb d).trans (if_pos rfl),λ _=>(hb d).trans (if_pos rfl),vD hth,λ x hx=> ?_,λ _=>⟨hds,(hb d).trans (if_pos rfl)⟩,λ m=> ?_⟩⟩
 ·have:=J2 x
  rw [hdm,if_neg (jZ hx)] at this
  exact Nat.le_trans (Nat.le_add_right _ _) (Nat.le_of_eq this)
 ·by_cases z1:m=r
  ·exact .inr (z1 ▸ hrr)
  ·exact .inl (congrArg goals ((congrArg Row.c v6).trans ((if_neg z1).trans XE)))
theorem InvD.step1 (I:InvD D B j) (hd:d∈j.wk) (h0:j.deg d=0) (h4:j.roots=[]∨j.roots.length=4):InvD D B ((j.finish q d).wfinish q d)∧Step1 j ((j.finish q d).wfinish q d) d:=by
 have hcnt:(j.th d).cnt=0:=by rw [I.ct d hd,h0];rfl
 have hblr:=I.bl d hd
 have hdsr:=I.ds d hd
 by_cases hyes:(j.row d).bl=true∧(j.row d).ds=false
 ·obtain ⟨hbl,hds⟩:=hyes
  have hf:=XF (q:=q) hcnt (hblr.trans hbl) (hdsr.trans hds) (λ hr=>by obtain ⟨o,_,_,a,b,_⟩:=I.rsc h0 h4 hr;exact ⟨o,a,b⟩)
  by_cases hres:d % 3=q∧j.roots≠[]
  ·rw [if_pos hres] at hf
   have hr:=I.rsc h0 h4 hres.2
   have hw:(j.finish q d).wfinish q d=(j.mark d).jstore (j.roots.getD (d % 4) 0) (.ref d):=by
    rw [hf,ZQ (j0.trans RSame.store) hbl hds h0,if_pos hres]
    obtain ⟨old,_,_,h3,_⟩:=hr
    exact congrArg (λ x=>S.setRowV x _ _) (ge (jp.trans h3))
   rw [hw]
   exact I.step1r hd hds hr
  ·rw [if_neg hres] at hf
   have hw:(j.finish q d).wfinish q d=j.mark d:=by
    rw [hf,ZQ j0 hbl hds h0,if_neg hres]
    rfl
   rw [hw]
   obtain ⟨Im,hdm⟩:=I.mark hd hds
   have hb: ∀ m,((j.mark d).row m).ds=if m=d then true else (j.row m).ds:=λ m=>ZO
   exact ⟨Im,⟨rfl,rfl,rfl,λ m=>ZN,λ m hm=>(hb m).trans (if_neg hm),λ _=>(hb d).trans (if_pos rfl),λ _=>(hb d).trans (if_pos rfl),Nat.le_succ _,λ x _=>Nat.le_of_eq (hdm x),λ h=>absurd ((hdm d).trans h0) h,λ m=> .inl (congrArg goals XE)⟩⟩
 ·have hf:j.finish q d=j:=if_neg (λ h=>hyes ⟨hblr ▸ h.2.1,hdsr ▸ h.2.2⟩)
  have hw:(j.finish q d).wfinish q d=j:=by
   rw [hf]
   exact if_neg (λ h=>hyes ⟨h.1,h.2.1⟩)
  rw [hw]
  refine ⟨I,⟨rfl,rfl,rfl,λ _=>rfl,λ _ _=>rfl,λ h=>h,λ h=> ?_,Nat.le_succ _,λ _ _=>Nat.le_refl _,λ h=>absurd h0 h,λ _=> .inl rfl⟩⟩
  cases hds:(j.row d).ds with
  | true=>rfl
  | false=>exact absurd ⟨h,hds⟩ hyes
end
section
variable {D D' ns:List Nat} {B B':Nat} {σ τ j ρ:S} {n m s t x a d q:Nat} {pv old:PV}
theorem kM (i:Nat): ∀ l,(nins i l).Perm (i :: l)
 | []=>List.Perm.refl _
 | j :: r=>by
  rw [xn]
  split
  ·exact List.Perm.refl _
  ·exact (List.Perm.cons j (kM i r)).trans (List.Perm.swap i j r)
theorem v7: ∀ l,(nsort l).Perm l
 | []=>List.Perm.refl _
 | i :: r=>(kM i _).trans (List.Perm.cons i (v7 r))
theorem kN (a b:Nat): ∀ l,nins a (nins b l)=nins b (nins a l)
 | []=>by
  rw [ux,ux]
  by_cases h:a≤b
  ·by_cases h':b≤a
   ·have:a=b:=Nat.le_antisymm ‹_› ‹_›
    subst this;rfl
   ·simp [xn,ux,h,h']
  ·have h':b≤a:=by lia
   simp [xn,ux,h,h']
 | c :: l=>by
  by_cases h1:a≤c
  ·by_cases h2:b≤c
   ·by_cases h:a≤b
    ·by_cases h':b≤a
     ·have:a=b:=Nat.le_antisymm ‹_› ‹_›
      subst this;rfl
     ·simp [xn,h1,h2,h,h']
    ·have h':b≤a:=by lia
     simp [xn,h1,h2,h,h']
   ·have:a≤b:=by lia
    have h': ¬ b≤a:=by lia
    simp [xn,h1,h2,this,h']
  ·by_cases h2:b≤c
   ·have:b≤a:=by lia
    have h': ¬ a≤b:=by lia
    simp [xn,h1,h2,this,h']
   ·simp [xn,h1,h2,kN a b l]
theorem bY {l l':List Nat} (h:l.Perm l'):nsort l=nsort l':=by
 induction h with
 | nil=>rfl
 | cons x _ ih=>rw [uQ,uQ,ih]
 | swap x y l=>show nins y (nins x (nsort l))=nins x (nins y (nsort l));exact kN _ _ _
 | trans _ _ ih1 ih2=>rw [ih1,ih2]
theorem VZ {l l':List Nat} (h1:l.Nodup) (h2:l'.Nodup) (h: ∀ x,x∈l↔x∈l'):l.Perm l':=by
 rw [List.perm_iff_count]
 intro x
 by_cases q:x∈l
 ·have a1:=List.nodup_iff_count.mp h1 x
  have a2:=List.count_pos_iff.mpr q
  have b1:=List.nodup_iff_count.mp h2 x
  have b2:=List.count_pos_iff.mpr ((h x).mp q)
  lia
 ·rw [List.count_eq_zero.mpr q,List.count_eq_zero.mpr λ z=>q ((h x).mpr z)]
set_option tactic.hygienic true in
theorem YJ {fs:List Nat} (h:fs.Nodup):(addK fs n).Nodup:=by
 unfold addK
 split
 ·exact h
 ·rename_i q
  rw [List.nodup_append]
  exact ⟨h,by simp,λ a ha b hb z=>q (by rw [List.mem_singleton.mp hb] at z;rw [← z];exact ha)⟩
set_option tactic.hygienic true in
theorem WQ {fs:List Nat}:x∈addK fs n↔x∈fs∨x=n:=by
 unfold addK
 split
 ·rename_i q
  exact ⟨.inl,λ h=>h.elim id λ z=>z ▸ q⟩
 ·simp
theorem YK (ns:List Nat):(σ.keys ns).Nodup∧ ∀ x,x∈σ.keys ns↔x∈ns∧σ.isDy x=true:=by
 have: ∀ (ns fs:List Nat),fs.Nodup→(ns.foldl (λ fs n=>if σ.isDy n then addK fs n else fs) fs).Nodup∧ ∀ x,x∈ns.foldl (λ fs n=>if σ.isDy n then addK fs n else fs) fs↔x∈fs∨(x∈ns∧σ.isDy x=true):=by
  intro ns
  induction ns with
  | nil=>intro fs h;exact ⟨h,λ x=>by simp⟩
  | cons a ns ih =>
   intro fs h
   simp only [List.foldl_cons]
   cases hd:σ.isDy a with
   | true =>
    obtain ⟨h1,h2⟩:=ih (addK fs a) (YJ h)
    refine ⟨h1,λ x=>(h2 x).trans ?_⟩
    rw [WQ]
    constructor
    ·rintro ((h | h) | h)
     ·exact .inl h
     ·exact .inr ⟨by simp [h],by rw [h];exact hd⟩
     ·exact .inr ⟨List.mem_cons_of_mem _ h.1,h.2⟩
    ·rintro (h | ⟨h,h'⟩)
     ·exact .inl (.inl h)
     ·rcases List.mem_cons.mp h with h | h
      ·exact .inl (.inr h)
      ·exact .inr ⟨h,h'⟩
   | false =>
    obtain ⟨h1,h2⟩:=ih fs h
    refine ⟨h1,λ x=>(h2 x).trans ?_⟩
    constructor
    ·rintro (h | h)
     ·exact .inl h
     ·exact .inr ⟨List.mem_cons_of_mem _ h.1,h.2⟩
    ·rintro (h | ⟨h,h'⟩)
     ·exact .inl h
     ·rcases List.mem_cons.mp h with h | h
      ·rw [h,hd] at h';cases h'
      ·exact .inr ⟨h,h'⟩
 obtain ⟨h1,h2⟩:=this ns [] (by simp)
 exact ⟨h1,λ x=>(h2 x).trans (by simp)⟩
theorem Inv.isDy (I:InvD D B ρ) (h:n∈ρ.wk):ρ.isDy n=decide (ρ.deg n=0):=by
 unfold S.isDy
 rw [I.ct n h,I.fr n (I.sub n h)]
 have:decide (n∉ρ.wk)=false:=by simp [h]
 rw [this]
 simp only [Bool.not_false,Bool.and_true]
 by_cases q:ρ.deg n=0
 ·simp [q]
 ·have: ¬ (ρ.deg n:Int)=0:=by lia
  simp [q]
theorem Inv.dying (I:Inv B ρ):ρ.dying=ρ.wdying∧ρ.dying.Nodup∧ ∀ x,x∈ρ.dying↔x∈ρ.wk∧ρ.deg x=0:=by
 obtain ⟨h1,h2⟩:=YK (σ:=ρ) ρ.zero
 have hm: ∀ x,x∈ρ.keys ρ.zero↔x∈ρ.wk∧ρ.deg x=0:=λ x=>by
  rw [h2]
  constructor
  ·rintro ⟨a1,a2⟩
   have hx:=I.zs x a1
   have hfr:(ρ.th x).fr=false:=by
    unfold S.isDy at a2
    simp only [Bool.and_eq_true,Bool.not_eq_true'] at a2
    exact a2.2
   have hw:x∈ρ.wk:=by
    have:=I.fr x hx
    rw [hfr] at this
    simpa using this
   rw [Inv.isDy I hw] at a2
   exact ⟨hw,by simpa using a2⟩
  ·rintro ⟨a1,a2⟩
   refine ⟨(I.zm x a1 a2).resolve_right (by simp),?_⟩
   rw [Inv.isDy I a1];simpa using a2
 refine ⟨bY (VZ h1 (I.nd.filter _) λ x=> ?_),(v7 _).nodup_iff.mpr h1,λ x=> ?_⟩
 ·rw [hm,List.mem_filter];simp
 ·unfold S.dying;rw [uz,hm]
noncomputable def mix (σ τ:S):S:= {σ with wk:=τ.wk,row:=τ.row,log:=τ.log,lastRow:=τ.lastRow}
theorem WR:(mix σ τ).note n=mix (σ.note n) τ:=by
 unfold S.note
 show (if (σ.th n).cnt=0 then _ else _)=_
 split <;> rfl
theorem uF:(mix σ τ).letGo n=mix (σ.letGo n) τ:=WR (σ:=σ.setCnt n ((σ.th n).cnt - 1))
theorem XG:(mix σ τ).store s pv=mix (σ.store s pv) τ:=by
 unfold S.store
 have e1:((mix σ τ).take pv).setVal s pv.strong=mix ((σ.take pv).setVal s pv.strong) τ:=by cases pv <;> rfl
 rw [e1]
 show (mix ((σ.take pv).setVal s pv.strong) τ).putOff s (σ.th s).c.val=_
 cases (σ.th s).c.val with
 | ref m=>exact uF
 | _=>rfl
theorem bZ:(mix σ τ).destroy q n=mix (σ.destroy q n) τ:=by
 unfold S.destroy
 show (if n % 3=q∧σ.roots≠[] then ((mix (σ.hears n) τ).store (σ.roots.getD (n % 4) 0) (.ref n)) else mix (σ.hears n) τ)=_
 split
 ·exact XG
 ·rfl
theorem YL:(mix σ τ).finish q n=mix (σ.finish q n) τ:=by
 unfold S.finish
 show (if (σ.th n).cnt=0∧(σ.th n).bl=true∧(σ.th n).ds=false then _ else _)=_
 split
 ·have:(((mix σ τ).marked n).hold n).destroy q n=mix (((σ.marked n).hold n).destroy q n) τ:=bZ (σ:=(σ.marked n).hold n)
  dsimp only
  rw [this];rfl
 ·rfl
theorem gY: ∀ (ms:List Nat) (σ:S),ms.foldl S.letGo (mix σ τ)=mix (ms.foldl S.letGo σ) τ
 | [],σ=>rfl
 | a :: ms,σ=>by
  simp only [List.foldl_cons]
  rw [uF,gY ms]
theorem gZ:(mix σ τ).free n=mix (σ.free n) τ:=by
 have e4:(mix σ τ).free4 n=mix (σ.free4 n) τ:=by
  unfold S.free4
  show (match ((σ.free3 n).th n).c with | .s old=>((mix (σ.free3 n) τ).setVal n .none).putOff n old | _=>mix (σ.free3 n) τ)=_
  generalize ((σ.free3 n).th n).c=c
  cases c with
  | s old =>
   show (mix ((σ.free3 n).setVal n .none) τ).putOff n old=mix (((σ.free3 n).setVal n .none).putOff n old) τ
   cases old with
   | ref m=>exact uF
   | _=>rfl
  | _=>rfl
 unfold S.free
 exact e4 ▸ (gY _ ((σ.free4 n).empty n))
theorem zZ (h:σ.roots=τ.roots):(mix σ τ).deg n=τ.deg n:=by
 show σ.roots.count n+_=_
 rw [h];rfl
theorem b0 (h:σ.roots=τ.roots):(mix σ τ).wfinish q n=mix σ (τ.wfinish q n):=by
 unfold S.wfinish
 rw [zZ h]
 show (if (τ.row n).bl=true∧(τ.row n).ds=false∧τ.deg n=0 then (if n % 3=q∧σ.roots≠[] then ((mix σ τ).wmarked n).setRowV (σ.roots.getD (n % 4) 0) (.ref n) else (mix σ τ).wmarked n) else mix σ τ)=_
 rw [h]
 split
 ·split <;> rfl
 ·rfl
end
section
variable {D D' ns ds:List Nat} {B B':Nat} {σ τ j ρ σ' τ':S} {n m s t x a d q:Nat} {pv old:PV}
theorem RSame.finish:RSame σ (σ.finish q n):=by
 unfold S.finish
 split
 ·have h1:RSame σ ((σ.marked n).hold n):=⟨rfl,rfl,rfl,rfl,rfl,rfl,rfl,rfl,rfl,rfl⟩
  have h2:RSame ((σ.marked n).hold n) (((σ.marked n).hold n).destroy q n):=by
   have h0:RSame ((σ.marked n).hold n) (((σ.marked n).hold n).hears n):=⟨rfl,rfl,rfl,rfl,rfl,rfl,rfl,rfl,rfl,rfl⟩
   unfold S.destroy
   split
   ·exact h0.trans RSame.store
   ·exact h0
  have h3: ∀ A:S,∀ c,RSame A (A.setCnt n c):=λ A c=>⟨rfl,rfl,rfl,rfl,rfl,rfl,rfl,rfl,rfl,rfl⟩
  exact (h1.trans h2).trans (h3 _ _)
 ·exact RSame.refl
structure WSame (σ τ:S):Prop where
 roots:τ.roots=σ.roots
 lkW:τ.lkW=σ.lkW
 eq:τ=mix σ τ
theorem WSame.refl:WSame σ σ:=⟨rfl,rfl,rfl⟩
theorem WSame.trans {a b c:S} (h:WSame a b) (h':WSame b c):WSame a c:=⟨h'.1.trans h.1,h'.2.trans h.2,by
 have e:c=mix b c:=h'.3
 have e':mix b c=mix (mix a b) c:=by rw [← h.3]
 exact e.trans e'⟩
theorem WSame.wfinish:WSame σ (σ.wfinish q n):=by
 unfold S.wfinish
 split
 ·split <;> exact ⟨rfl,rfl,rfl⟩
 ·exact ⟨rfl,rfl,rfl⟩
theorem YM:(σ.wfinish q n).wk=σ.wk:=by
 unfold S.wfinish
 split
 ·split <;> rfl
 ·rfl
structure Ph1 (B q:Nat) (σ τ:S) (ds ns:List Nat) (σ' τ':S):Prop where
 I:InvD σ.dying B (mix σ' τ')
 rs:RSame σ σ'
 ts:WSame τ τ'
 tw:τ'.wk=τ.wk
 zl:σ'.zero.length≤ds.length
 dz: ∀ d∈σ.dying,τ'.deg d=0∨((τ'.row d).ds=true∧(τ.row d).ds=false)
 nm: ∀ d∈ns,(τ'.row d).ds=(τ.row d).ds
 dm: ∀ m,(τ.row m).ds=true→(τ'.row m).ds=true
 rf: ∀ d∈σ.dying,∀ m∈τ.wk,d∈goals (τ'.row m).c→m∈σ.roots
theorem ZR (l:List Nat) (h:l≠[]): ∃ l' b,l=l' ++ [b]:=⟨l.dropLast,l.getLast h,(List.dropLast_concat_getLast h).symm⟩
theorem phase1 (I:Inv B (mix σ τ)) (hr:σ.roots=τ.roots) (h4:σ.roots=[]∨σ.roots.length=4): ∀ (k:Nat) (ds ns:List Nat),ds.length=k→σ.dying=ds ++ ns→Ph1 B q σ τ ds ns (ds.foldl (λ σ n=>σ.finish q n) {σ with zero:=[]}) (ds.foldl (λ σ n=>σ.wfinish q n) τ):=by
 obtain ⟨d1,d2,d3⟩:=Inv.dying I
 have d1:σ.dying=(mix σ τ).wdying:=d1
 have d2:σ.dying.Nodup:=d2
 have d3: ∀ x,x∈σ.dying↔x∈τ.wk∧τ.deg x=0:=λ x=>by
  have:=d3 x
  rw [zZ hr] at this
  exact this
 intro k
 induction k with
 | zero =>
  intro ds ns hk hD
  obtain rfl:=List.length_eq_zero_iff.mp hk
  refine ⟨⟨I.lw,I.lr,I.lt,I.nd,I.sub,I.rb,I.lb,I.fr,I.cc,I.bl,I.ds,I.ct,I.tg,I.ms,I.gn,I.ko,I.we,I.wn,I.ro,λ n hn h0=> .inr ?_,λ n hn=>by simp [mix] at hn,I.hl,I.ll,I.rl,I.r4⟩,⟨rfl,rfl,rfl,rfl,rfl,rfl,rfl,rfl,rfl,rfl⟩,WSame.refl,rfl,Nat.le_refl _,λ d hd=> .inl ((d3 d).mp hd).2,λ _ _=>rfl,λ _ h=>h,λ d hd m hm hg=> ?_⟩
  ·exact (d3 n).mpr ⟨hn,by rw [← zZ (σ:= {σ with zero:=[]}) hr];exact h0⟩
  ·have h0:=((d3 d).mp hd).2
   exfalso
   have:0 < zg τ.row τ.wk d:=vC hm hg
   unfold S.deg at h0
   lia
 | succ k ih =>
  intro ds ns hk hD
  obtain ⟨ds',d,rfl⟩:=ZR ds (λ h=>by rw [h] at hk;cases hk)
  have hk':ds'.length=k:=by simpa using hk
  have P:=ih ds' (d :: ns) hk' (by rw [hD];exact List.append_assoc _ _ _)
  simp only [List.foldl_append,List.foldl_cons,List.foldl_nil]
  generalize ds'.foldl (λ σ n=>σ.finish q n) {σ with zero:=[]}=σ' at P
  generalize ds'.foldl (λ σ n=>σ.wfinish q n) τ=τ' at P
  have hr':σ'.roots=τ'.roots:=by rw [P.rs.roots,P.ts.roots,hr]
  have hdD:d∈σ.dying:=by rw [hD];exact List.mem_append_left _ (List.mem_append_right _ (.head _))
  have hdw:d∈τ'.wk:=by rw [P.tw];exact ((d3 d).mp hdD).1
  have hd0:τ'.deg d=0:=by
   rcases P.dz d hdD with h | h
   ·exact h
   ·have:=P.nm d (.head _);rw [this,h.2] at h;cases h.1
  obtain ⟨J,T⟩:=P.I.step1 (q:=q) (d:=d) hdw (by rw [zZ hr'];exact hd0) (by show σ'.roots=[]∨σ'.roots.length=4;rw [P.rs.roots];exact h4)
  have hfr:(σ'.finish q d).roots=τ'.roots:=by rw [(RSame.finish (σ:=σ') (q:=q) (n:=d)).roots];exact hr'
  have ej:((mix σ' τ').finish q d).wfinish q d=mix (σ'.finish q d) (τ'.wfinish q d):=by rw [YL,b0 hfr]
  rw [ej] at J T
  have hr2:(σ'.finish q d).roots=(τ'.wfinish q d).roots:=by rw [hfr,(WSame.wfinish (σ:=τ') (q:=q) (n:=d)).roots]
  have hdn:d∉ns:=λ h=>by
   rw [hD,List.append_assoc] at d2
   have:=(List.nodup_append.mp d2).2.1
   simp only [List.singleton_append,List.nodup_cons] at this
   exact this.1 h
  have edeg: ∀ x,(τ'.wfinish q d).deg x=(mix (σ'.finish q d) (τ'.wfinish q d)).deg x:=λ x=>(zZ hr2).symm
  have edeg': ∀ x,τ'.deg x=(mix σ' τ').deg x:=λ x=>(zZ hr').symm
  refine ⟨J,P.rs.trans RSame.finish,P.ts.trans WSame.wfinish,by rw [YM,P.tw],?_,λ x hx=> ?_,λ x hx=> ?_,λ m hm=> ?_,λ x hx m hm hg=> ?_⟩
  ·have h1:(σ'.finish q d).zero.length≤σ'.zero.length+1:=T.zl
   have:=P.zl
   simp only [List.length_append,List.length_singleton]
   lia
  ·by_cases z:x=d
   ·subst z
    by_cases h:(mix (σ'.finish q x) (τ'.wfinish q x)).deg x=0
    ·left;rw [edeg];exact h
    ·right
     obtain ⟨a1,a2⟩:=T.dd h
     refine ⟨a2,?_⟩
     rw [← P.nm x (.head _)];exact a1
   ·rcases P.dz x hx with h | h
    ·left
     rw [edeg]
     have:=T.dg x z
     rw [edeg'] at h
     lia
    ·right
     exact ⟨by have:=T.dsn x z;exact this.trans h.1,h.2⟩
  ·have z:x≠d:=λ h=>hdn (by rw [← h];exact hx)
   exact (T.dsn x z).trans (P.nm x (List.mem_cons_of_mem _ hx))
  ·by_cases z:m=d
   ·subst z;exact T.ds1 (P.dm m hm)
   ·exact (T.dsn m z).trans (P.dm m hm)
  ·rcases T.rf m with h | h
   ·refine P.rf x hx m hm ?_
    have h':goals ((τ'.wfinish q d).row m).c=goals (τ'.row m).c:=h
    rw [← h'];exact hg
   ·have h':m∈σ'.roots:=h
    rw [P.rs.roots] at h';exact h'
theorem RSame.free:RSame σ (σ.free n):=by
 have h3:RSame σ (σ.free3 n):=⟨rfl,rfl,rfl,rfl,rfl,rfl,rfl,rfl,rfl,rfl⟩
 have h4:RSame (σ.free3 n) (σ.free4 n):=by
  rcases wU (σ:=σ) (n:=n) with ⟨o,_,e⟩ | e <;> rw [e]
  ·have:RSame (σ.free3 n) ((σ.free3 n).setVal n .none):=⟨rfl,rfl,rfl,rfl,rfl,rfl,rfl,rfl,rfl,rfl⟩
   exact this.trans RSame.putOff
  ·exact RSame.refl
 have h5:RSame (σ.free4 n) ((σ.free4 n).empty n):=⟨rfl,rfl,rfl,rfl,rfl,rfl,rfl,rfl,rfl,rfl⟩
 exact ((h3.trans h4).trans h5).trans (letAll _ _).same
structure Ph2 (B q:Nat) (σ τ:S) (ds ns:List Nat) (σ' τ':S):Prop where
 I:InvD ns B (mix σ' τ')
 rs:RSame σ σ'
 ts:WSame τ τ'
 sub:τ'.wk.Sublist τ.wk
 dk: ∀ m,(τ'.row m).ds=((τ.wround1 q).row m).ds
 keep: ∀ d∈ns,d∈τ'.wk∧τ'.deg d=(τ.wround1 q).deg d
 gone: ∀ d∈ds,(τ.wround1 q).deg d=0→d∉τ'.wk
 rf: ∀ d∈ns,∀ m∈τ'.wk,d∈goals (τ'.row m).c→m∈σ.roots
 zl:σ'.zero.length≤σ.dying.length+100 * ds.length
theorem phase2 (I:Inv B (mix σ τ)) (hr:σ.roots=τ.roots) (h4:σ.roots=[]∨σ.roots.length=4) (hB:B≤60): ∀ (k:Nat) (ds ns:List Nat),ds.length=k→σ.dying=ds ++ ns→Ph2 B q σ τ ds ns (ds.foldl S.free? (σ.round1 q)) ((ds.filter λ n=>decide ((τ.wround1 q).deg n=0)).foldl S.wpop (τ.wround1 q)):=by
 obtain ⟨d1,d2,d3⟩:=Inv.dying I
 have d1:σ.dying=(mix σ τ).wdying:=d1
 have d2:σ.dying.Nodup:=d2
 have d3: ∀ x,x∈σ.dying↔x∈τ.wk∧τ.deg x=0:=λ x=>by
  have:=d3 x
  rw [zZ hr] at this
  exact this
 have dw:τ.wdying=σ.dying:=by
  rw [d1]
  show nsort (τ.wk.filter λ n=>decide (τ.deg n=0))=nsort (τ.wk.filter λ n=>decide ((mix σ τ).deg n=0))
  have:(λ n=>decide (τ.deg n=0))=λ n=>decide ((mix σ τ).deg n=0):=funext λ n=>by rw [zZ hr]
  rw [this]
 have P0:=phase1 (q:=q) I hr h4 σ.dying.length σ.dying [] rfl (by simp)
 have e1:(σ.dying.foldl (λ σ n=>σ.finish q n) {σ with zero:=[]})=σ.round1 q:=rfl
 have e2:(σ.dying.foldl (λ σ n=>σ.wfinish q n) τ)=τ.wround1 q:=by unfold S.wround1;rw [dw]
 rw [e1,e2] at P0
 intro k
 induction k with
 | zero =>
  intro ds ns hk hD
  obtain rfl:=List.length_eq_zero_iff.mp hk
  have hns:ns=σ.dying:=by rw [hD];rfl
  refine ⟨by rw [hns];exact P0.I,P0.rs,P0.ts,by show (τ.wround1 q).wk.Sublist τ.wk;rw [P0.tw];exact List.Sublist.refl _,λ _=>rfl,λ d hd=>⟨?_,rfl⟩,λ d hd=>by simp at hd,λ d hd m hm=> ?_,by have:=P0.zl;show (σ.round1 q).zero.length≤_;simp;exact this⟩
  ·show d∈(τ.wround1 q).wk
   rw [P0.tw];exact ((d3 d).mp (hns ▸ hd)).1
  ·exact P0.rf d (hns ▸ hd) m (by rw [← P0.tw];exact hm)
 | succ k ih =>
  intro ds ns hk hD
  obtain ⟨ds',d,rfl⟩:=ZR ds (λ h=>by rw [h] at hk;cases hk)
  have hk':ds'.length=k:=by simpa using hk
  have P:=ih ds' (d :: ns) hk' (by rw [hD];exact List.append_assoc _ _ _)
  simp only [List.foldl_append,List.foldl_cons,List.foldl_nil,List.filter_append]
  generalize ds'.foldl S.free? (σ.round1 q)=σ' at P
  generalize hτ:(ds'.filter λ n=>decide ((τ.wround1 q).deg n=0)).foldl S.wpop (τ.wround1 q)=τ' at P
  have hr':σ'.roots=τ'.roots:=by rw [P.rs.roots,P.ts.roots,hr]
  obtain ⟨hdw,hdd⟩:=P.keep d (.head _)
  have hdn:d∉ns∧d∉ds':=by
   rw [hD,List.append_assoc] at d2
   have h1:=List.nodup_append.mp d2
   have h2:=h1.2.1
   simp only [List.singleton_append,List.nodup_cons] at h2
   exact ⟨h2.1,λ h=>h1.2.2 d h d (.head _) rfl⟩
  have hisdy:σ'.isDy d=decide ((τ.wround1 q).deg d=0):=by
   have:=Inv.isDy P.I (n:=d) hdw
   rw [zZ hr',hdd] at this
   exact this
  by_cases h0:(τ.wround1 q).deg d=0
  ·have e3:([d].filter λ n=>decide ((τ.wround1 q).deg n=0))=[d]:=by simp [h0]
   rw [e3]
   simp only [List.foldl_cons,List.foldl_nil]
   have e4:S.free? σ' d=σ'.free d:=by unfold S.free?;rw [if_pos (by rw [hisdy];simp [h0])]
   rw [e4]
   have hj0:(mix σ' τ').deg d=0:=by rw [zZ hr',hdd];exact h0
   obtain ⟨J,hdeg⟩:=P.I.goes hdw hj0
   have ej:((mix σ' τ').free d).wpop d=mix (σ'.free d) (τ'.wpop d):=by rw [gZ];rfl
   rw [ej] at J hdeg
   have hrs:RSame σ' (σ'.free d):=RSame.free
   have hr2:(σ'.free d).roots=(τ'.wpop d).roots:=by rw [hrs.roots];exact hr'
   have hz:=P.zl
   have hBD:σ.dying.length≤B:=Nat.le_trans (wc d2 λ x hx=>((d3 x).mp hx).1) I.wl
   have hdl:ds'.length≤σ.dying.length:=by rw [hD];simp only [List.length_append];lia
   have ok:FreeOk (mix σ' τ') d:=P.I.freeOk hdw (by lia) (by show σ'.zero.length≤100000;lia)
   refine ⟨J,P.rs.trans hrs,P.ts.trans ⟨rfl,rfl,rfl⟩,(List.erase_sublist).trans P.sub,λ m=> ?_,λ x hx=> ?_,λ x hx hx0=> ?_,λ x hx m hm hg=> ?_,?_⟩
   ·show (zh τ'.row d (τ'.wk.erase d) m).ds=_
    rw [u8];exact P.dk m
   ·have hxd:x≠d:=λ z=>hdn.1 (by rw [← z];exact hx)
    obtain ⟨k1,k2⟩:=P.keep x (List.mem_cons_of_mem _ hx)
    refine ⟨(List.mem_erase_of_ne hxd).mpr k1,?_⟩
    have h5:=hdeg x
    rw [zZ hr2,zZ hr'] at h5
    have h6:(goals ((mix σ' τ').row d).c).count x=0:=List.count_eq_zero.mpr λ hg=>by
     have:=P.rf x (List.mem_cons_of_mem _ hx) d hdw hg
     exact (P.I.deg_zero hj0).1 (by show d∈σ'.roots;rw [P.rs.roots];exact this)
    rw [← k2];lia
   ·rcases List.mem_append.mp hx with h | h
    ·exact λ hm=>P.gone x h hx0 (List.mem_of_mem_erase hm)
    ·rcases List.mem_singleton.mp h with rfl
     have hnd:τ'.wk.Nodup:=P.I.nd
     show x∉τ'.wk.erase x
     rw [hnd.mem_erase_iff];exact nofun
   ·have hm':m∈τ'.wk:=List.mem_of_mem_erase hm
    refine P.rf x (List.mem_cons_of_mem _ hx) m hm' ?_
    have:goals (zh τ'.row d (τ'.wk.erase d) m).c=goals (τ'.row m).c:=xB
    rw [← this];exact hg
   ·have h7:=XD ok
    have h8:((mix σ' τ').free d).zero=(σ'.free d).zero:=by rw [gZ];rfl
    rw [h8] at h7
    have h9:(zi ((mix σ' τ').th d).c).length≤B:=by
     rw [P.I.cc d hdw];exact P.I.ml hdw
    have h10:(mix σ' τ').zero=σ'.zero:=rfl
    rw [h10] at h7
    simp only [List.length_append,List.length_singleton]
    lia
  ·have e3:([d].filter λ n=>decide ((τ.wround1 q).deg n=0))=[]:=by simp [h0]
   rw [e3]
   simp only [List.foldl_nil]
   have e4:S.free? σ' d=σ':=by unfold S.free?;rw [if_neg (by rw [hisdy];simp [h0])]
   rw [e4]
   refine ⟨P.I.drop λ x hx hxw hx0=> ?_,P.rs,P.ts,P.sub,P.dk,λ x hx=>P.keep x (List.mem_cons_of_mem _ hx),λ x hx hx0=> ?_,λ x hx=>P.rf x (List.mem_cons_of_mem _ hx),?_⟩
   ·rcases List.mem_cons.mp hx with h | h
    ·exfalso
     replace h:=h.symm;subst h
     rw [zZ hr',hdd] at hx0
     exact h0 hx0
    ·exact .inr h
   ·rcases List.mem_append.mp hx with h | h
    ·exact P.gone x h hx0
    ·rcases List.mem_singleton.mp h with rfl;exact absurd hx0 h0
   ·have:=P.zl
    simp only [List.length_append,List.length_singleton]
    lia
end
section
variable {D D' ns ds:List Nat} {B B':Nat} {σ τ j ρ σ' τ':S} {n m s t x a d q:Nat} {pv old:PV}
theorem g0:(mix σ τ).zero=σ.zero:=rfl
theorem XH:(mix σ τ).roots=σ.roots:=rfl
theorem DestroyOk.unmix (h:DestroyOk (mix σ τ) n):DestroyOk σ n:=⟨h.hb,λ hr=>let ⟨r,a,b,c⟩:=h.ro hr;⟨r,a,b,⟨c.zb,c.sc⟩⟩⟩
theorem FreeOk.unmix (h:FreeOk (mix σ τ) n):FreeOk σ n:=⟨h.ws,h.zb,h.nl,h.ko,h.lk,h.wk⟩
theorem InvD.logLen (I:InvD D B ρ):ρ.log.length≤B:=Nat.le_trans I.ll (Nat.le_trans (List.length_filter_le _ _) I.rl)
theorem InvD.destroyOk (I:InvD D B ρ) (h4:ρ.roots=[]∨ρ.roots.length=4) (hB:B≤60) (hz:ρ.zero.length≤100000):DestroyOk ρ n:=by
 refine ⟨by rw [I.hl];have:=I.logLen;unfold big;lia,λ h=> ?_⟩
 have hl:ρ.roots.length=4:=h4.resolve_left h
 have hlt:n % 4 < ρ.roots.length:=by lia
 have hm:=List.getElem_mem hlt
 refine ⟨ρ.roots[n % 4],List.getElem?_eq_getElem hlt,I.sub _ (I.ro _ hm).1,I.store_ok (I.ro _ hm) (by lia) (by unfold big;lia)⟩
theorem InvD.wOk (I:InvD D B (mix σ τ)) (hr:σ.roots=τ.roots) (hw:τ.lkW=false) (hB:B≤60):WOk τ:=by
 have h1:(mix σ τ).degLen=τ.degLen:=by unfold S.degLen mix;rw [hr]
 have h2:=I.degLen
 have h3:B * B≤60 * 60:=Nat.mul_le_mul hB hB
 have h4:τ.wk.length≤B:=I.wl
 exact ⟨hw,by unfold big;lia,by lia⟩
theorem InvD.wFinOk (I:InvD D B (mix σ τ)) (hr:σ.roots=τ.roots) (hw:τ.lkW=false) (h4:τ.roots=[]∨τ.roots.length=4) (hB:B≤60) (hn:n∈τ.wk):WFinOk τ n:=by
 refine ⟨I.wOk hr hw hB,hn,by have:τ.log.length≤B:=I.logLen;unfold big;lia,λ h=> ?_⟩
 have hl:τ.roots.length=4:=h4.resolve_left h
 have hlt:n % 4 < τ.roots.length:=by lia
 have hm:=List.getElem_mem hlt
 obtain ⟨k1,v,k2⟩:=I.ro τ.roots[n % 4] (by show _∈σ.roots;rw [hr];exact hm)
 exact ⟨τ.roots[n % 4],List.getElem?_eq_getElem hlt,k1,v,k2⟩
theorem wG (I:Inv B (mix σ τ)) (hr:σ.roots=τ.roots):τ.wdying=σ.dying∧σ.dying.Nodup∧(∀ x,x∈σ.dying↔x∈τ.wk∧τ.deg x=0)∧σ.dying.length≤B:=by
 obtain ⟨d1,d2,d3⟩:=Inv.dying I
 have d1:σ.dying=(mix σ τ).wdying:=d1
 have d2:σ.dying.Nodup:=d2
 have d3: ∀ x,x∈σ.dying↔x∈τ.wk∧τ.deg x=0:=λ x=>by
  have:=d3 x
  rw [zZ hr] at this
  exact this
 refine ⟨?_,d2,d3,Nat.le_trans (wc d2 λ x hx=>((d3 x).mp hx).1) I.wl⟩
 rw [d1]
 show nsort (τ.wk.filter λ n=>decide (τ.deg n=0))=nsort (τ.wk.filter λ n=>decide ((mix σ τ).deg n=0))
 have:(λ n=>decide (τ.deg n=0))=λ n=>decide ((mix σ τ).deg n=0):=funext λ n=>by rw [zZ hr]
 rw [this]
theorem jr (I:Inv B (mix σ τ)) (hr:σ.roots=τ.roots) (h4:σ.roots=[]∨σ.roots.length=4) (hB:B≤60) (hz:σ.zero.length≤100000):RoundOk σ q:=by
 obtain ⟨d1,d2,d3,d4⟩:=wG I hr
 refine ⟨by unfold big;lia,?_,λ ds n ns e=> ?_,λ ds n ns e hdy=> ?_⟩
 ·have:σ.dying.length=(σ.keys σ.zero).length:=(v7 _).length_eq
  lia
 ·have P:=phase1 (q:=q) I hr h4 ds.length ds (n :: ns) rfl e
  have hl:ds.length≤σ.dying.length:=by rw [e];simp only [List.length_append];exact Nat.le_add_right _ _
  have hzl:=P.zl
  exact (P.I.destroyOk (by rw [XH,P.rs.roots];exact h4) hB (by rw [g0];lia)).unmix
 ·have P:=phase2 (q:=q) I hr h4 hB ds.length ds (n :: ns) rfl e
  have hl:ds.length≤σ.dying.length:=by rw [e];simp only [List.length_append];exact Nat.le_add_right _ _
  have hzl:=P.zl
  exact (P.I.freeOk (P.keep n (.head _)).1 (by lia) (by rw [g0];lia)).unmix
theorem qI (I:Inv B (mix σ τ)) (hr:σ.roots=τ.roots) (h4:σ.roots=[]∨σ.roots.length=4) (e:σ.dying=ds ++ ns):Ph1 B q σ τ ds ns (ds.foldl (λ σ n=>σ.finish q n) {σ with zero:=[]}) (ds.foldl (λ σ n=>σ.wfinish q n) τ):=phase1 I hr h4 ds.length ds ns rfl e
theorem XI (I:Inv B (mix σ τ)) (hr:σ.roots=τ.roots) (h4:σ.roots=[]∨σ.roots.length=4) (hB:B≤60) (hw:τ.lkW=false):WRoundOk τ q:=by
 obtain ⟨d1,d2,d3,d4⟩:=wG I hr
 refine ⟨I.wOk hr hw hB,λ ds n ns e=> ?_,?_,λ ds n ns e=> ?_⟩
 ·rw [d1] at e
  have P:=qI (q:=q) I hr h4 e
  refine P.I.wFinOk (by rw [P.rs.roots,P.ts.roots];exact hr) (by rw [P.ts.lkW];exact hw) (by rw [P.ts.roots,← hr];exact h4) hB ?_
  rw [P.tw]
  exact ((d3 n).mp (by rw [e];exact List.mem_append_right _ (.head _))).1
 ·have P:=qI (q:=q) (ds:=σ.dying) (ns:=[]) I hr h4 (by simp)
  have e2:(σ.dying.foldl (λ σ n=>σ.wfinish q n) τ)=τ.wround1 q:=by unfold S.wround1;rw [d1]
  rw [e2] at P
  exact P.I.wOk (by rw [P.rs.roots,P.ts.roots];exact hr) (by rw [P.ts.lkW];exact hw) hB
 ·unfold S.wdead at e
  refine hideP λ PZ hZ=> ?_
  rw [d1] at e
  obtain ⟨l1,l2,e1,e2,e3⟩:=List.filter_eq_append_iff.mp e
  obtain ⟨m1,m2,e4,e5,e6,e7⟩:=List.filter_eq_cons_iff.mp e3
  have P:=phase2 (q:=q) I hr h4 hB (l1 ++ m1).length (l1 ++ m1) (n :: m2) rfl (by rw [e1,e4];exact (List.append_assoc _ _ _).symm)
  have e8:m1.filter (λ n=>decide ((τ.wround1 q).deg n=0))=[]:=List.filter_eq_nil_iff.mpr e5
  rw [List.filter_append,e2,e8,List.append_nil] at P
  refine hZ ?_
  exact ⟨(P.keep n (.head _)).1,by rw [P.ts.lkW];exact hw⟩
noncomputable def wt (row:Nat→Row) (n:Nat):Nat:=if (row n).ds then 1 else 2
noncomputable def phi (τ:S):Nat:=(τ.wk.map (wt τ.row)).sum
theorem XJ {l' l:List Nat} {f' f:Nat→Nat} (hs:l'.Sublist l) (h: ∀ x,f' x≤f x):(l'.map f').sum≤(l.map f).sum:=by
 induction hs with
 | slnil=>exact Nat.le_refl _
 | cons a _ ih=>simp only [List.map_cons,List.sum_cons];lia
 | cons_cons a _ ih=>simp only [List.map_cons,List.sum_cons];have:=h a;lia
theorem U9 {l' l:List Nat} {f' f:Nat→Nat} (hs:l'.Sublist l) (h: ∀ x,f' x≤f x) (hp: ∀ x,0 < f x) (hd:d∈l) (hc:d∉l'∨f' d < f d):(l'.map f').sum < (l.map f).sum:=by
 induction hs with
 | slnil=>simp at hd
 | cons a hs ih=>simp only [List.map_cons,List.sum_cons];have:=XJ hs h;have:=hp a;lia
 | cons_cons a hs ih =>
  simp only [List.map_cons,List.sum_cons]
  have h1:=XJ hs h
  have h2:=h a
  rcases List.mem_cons.mp hd with z | z
  ·subst z
   rcases hc with hc | hc
   ·simp at hc
   ·lia
  ·have:=ih z (hc.imp (λ q=>λ w=>q (List.mem_cons_of_mem _ w)) id)
   lia
theorem Ja (τ:S):phi τ≤2 * τ.wk.length:=by
 unfold phi
 generalize τ.wk=l
 induction l with
 | nil=>exact Nat.le_refl _
 | cons a l ih =>
  simp only [List.map_cons,List.sum_cons,List.length_cons]
  have:wt τ.row a≤2:=by unfold wt;split <;> lia
  lia
theorem kQ (I:Inv B (mix σ τ)) (hr:σ.roots=τ.roots) (h4:σ.roots=[]∨σ.roots.length=4) (hB:B≤60):Inv B (mix (σ.round q) (τ.wround q))∧RSame σ (σ.round q)∧WSame τ (τ.wround q)∧(σ.round q).zero.length≤100000∧(σ.dying≠[]→phi (τ.wround q) < phi τ):=by
 obtain ⟨d1,d2,d3,d4⟩:=wG I hr
 have P:=phase2 (q:=q) I hr h4 hB σ.dying.length σ.dying [] rfl (by simp)
 have e1:σ.dying.foldl S.free? (σ.round1 q)=σ.round q:=rfl
 have e2:(σ.dying.filter λ n=>decide ((τ.wround1 q).deg n=0)).foldl S.wpop (τ.wround1 q)=τ.wround q:=by
  unfold S.wround S.wdead;rw [d1]
 rw [e1,e2] at P
 refine ⟨P.I,P.rs,P.ts,by have:=P.zl;lia,λ hne=> ?_⟩
 have P1:=qI (q:=q) (ds:=σ.dying) (ns:=[]) I hr h4 (by simp)
 have e3:(σ.dying.foldl (λ σ n=>σ.wfinish q n) τ)=τ.wround1 q:=by unfold S.wround1;rw [d1]
 rw [e3] at P1
 obtain ⟨d,hd⟩:=List.exists_mem_of_ne_nil _ hne
 have hdw:=((d3 d).mp hd).1
 refine U9 P.sub (λ x=> ?_) (λ x=>by unfold wt;split <;> lia) hdw ?_
 ·unfold wt
  rw [P.dk x]
  cases h:(τ.row x).ds
  ·split <;> simp
  ·rw [P1.dm x h];exact Nat.succ_pos _
 ·rcases P1.dz d hd with h | ⟨h,h'⟩
  ·exact .inl (P.gone d hd h)
  ·right
   unfold wt
   rw [P.dk d,h,h'];exact Nat.le_refl _
theorem ZS (hB:B≤60): ∀ (m:Nat) (σ τ:S),phi τ≤m→Inv B (mix σ τ)→σ.roots=τ.roots→(σ.roots=[]∨σ.roots.length=4)→τ.lkW=false→σ.zero.length≤100000 →
  ∃ k k' σ' τ',k≤m+1∧k'≤m+1∧Settles q k σ σ'∧WSettles q k' τ τ'∧Inv B (mix σ' τ')∧σ'.zero=[]∧RSame σ σ'∧WSame τ τ':=by
 intro m
 induction m with
 | zero =>
  intro σ τ hm I hr h4 hw hz
  refine hideP λ PZ hZ=> ?_
  obtain ⟨d1,d2,d3,d4⟩:=wG I hr
  obtain ⟨J,r1,r2,r3,r4⟩:=kQ (q:=q) I hr h4 hB
  have hd:σ.dying=[]:=Classical.byContradiction λ h=>by have:=r4 h;lia
  have e1:σ.round q= {σ with zero:=[]}:=by unfold S.round S.round1;rw [hd];rfl
  have e2:τ.wround q=τ:=by unfold S.wround S.wdead S.wround1;rw [d1,hd];rfl
  rw [e1,e2] at J
  refine hZ ?_
  by_cases h0:σ.zero=[]
  ·exact ⟨0,0,σ,τ,Nat.le_succ _,Nat.le_succ _, .stop h0, .stop (I.wOk hr hw hB) (d1.trans hd),I,h0,RSame.refl,WSame.refl⟩
  ·exact ⟨1,0, {σ with zero:=[]},τ,Nat.le_refl _,Nat.le_succ _, .step h0 (jr I hr h4 hB hz) (by rw [e1];exact .stop rfl), .stop (I.wOk hr hw hB) (d1.trans hd),J,rfl,⟨rfl,rfl,rfl,rfl,rfl,rfl,rfl,rfl,rfl,rfl⟩,WSame.refl⟩
 | succ m ih =>
  intro σ τ hm I hr h4 hw hz
  refine hideP λ PZ hZ=> ?_
  obtain ⟨d1,d2,d3,d4⟩:=wG I hr
  obtain ⟨J,r1,r2,r3,r4⟩:=kQ (q:=q) I hr h4 hB
  refine hZ ?_
  by_cases hd:σ.dying=[]
  ·have e1:σ.round q= {σ with zero:=[]}:=by unfold S.round S.round1;rw [hd];rfl
   have e2:τ.wround q=τ:=by unfold S.wround S.wdead S.wround1;rw [d1,hd];rfl
   rw [e1,e2] at J
   by_cases h0:σ.zero=[]
   ·exact ⟨0,0,σ,τ,Nat.zero_le _,Nat.zero_le _, .stop h0, .stop (I.wOk hr hw hB) (d1.trans hd),I,h0,RSame.refl,WSame.refl⟩
   ·exact ⟨1,0, {σ with zero:=[]},τ,Nat.succ_pos _,Nat.zero_le _, .step h0 (jr I hr h4 hB hz) (by rw [e1];exact .stop rfl), .stop (I.wOk hr hw hB) (d1.trans hd),J,rfl,⟨rfl,rfl,rfl,rfl,rfl,rfl,rfl,rfl,rfl,rfl⟩,WSame.refl⟩
  ·have h0:σ.zero≠[]:=λ h=>hd (by unfold S.dying;rw [h];rfl)
   obtain ⟨k,k',σ',τ',a1,a2,a3,a4,a5,a6,a7,a8⟩:=ih (σ.round q) (τ.wround q) (by have:=r4 hd;lia) J (by rw [r1.roots,r2.roots];exact hr) (by rw [r1.roots];exact h4) (by rw [r2.lkW];exact hw) r3
   exact ⟨k+1,k'+1,σ',τ',Nat.lt_succ_of_le ‹_›,Nat.lt_succ_of_le ‹_›, .step h0 (jr I hr h4 hB hz) a3, .step (by rw [d1];exact hd) (XI I hr h4 hB hw) a4,a5,a6,r1.trans a7,r2.trans a8⟩
theorem Settles.det {k k':Nat} {σ a b:S} (h:Settles q k σ a) (h':Settles q k' σ b):a=b:=by
 induction h generalizing k' with
 | stop e =>
  cases h' with
  | stop _=>rfl
  | step e' _ _=>exact absurd e e'
 | step e _ _ ih =>
  cases h' with
  | stop e'=>exact absurd e' e
  | step _ _ s=>exact ih s
theorem Inv.settle (I:Inv B ρ) (h4:ρ.roots=[]∨ρ.roots.length=4) (hB:B≤60) (hz:ρ.zero.length≤100000): ∃ k k' σ' τ',k < 1000∧k' < 1000∧Settles q k ρ σ'∧WSettles q k' σ' τ'∧Inv B τ'∧τ'.zero=[]∧τ'.roots=ρ.roots:=by
 refine hideP λ PZ hZ=> ?_
 have hp:phi ρ≤120:=by have h1:=Ja ρ;have h2:=I.wl;lia
 obtain ⟨k,k',σ',τ',a1,a2,a3,a4,a5,a6,a7,a8⟩:=ZS (q:=q) hB 120 ρ ρ hp I rfl h4 I.lw hz
 have e:mix ρ σ'=ρ:=by
  unfold mix
  rw [a7.wk,a7.row,a7.log,a7.lastRow]
 have hp':phi σ'≤120:=by unfold phi at hp ⊢;rw [a7.wk,a7.row];exact hp
 obtain ⟨l,l',σ'',τ'',b1,b2,b3,b4,b5,b6,b7,b8⟩:=ZS (q:=q) hB 120 ρ σ' hp' (by rw [e];exact I) a7.roots.symm h4 (by rw [a7.lkW];exact I.lw) hz
 obtain rfl:=a3.det b3
 have e2:mix σ' τ''=τ'':=b8.eq.symm
 rw [e2] at b5
 refine hZ ?_
 refine ⟨k,l',σ',τ'',by lia,by lia,a3,b4,b5,?_,?_⟩
 ·rw [b8.eq];exact a6
 ·rw [b8.roots,a7.roots]
end
noncomputable def numOf (i:Int):Nat:=i.natAbs % 1000000000
noncomputable def yT (is:List Int):List Nat:=(is.take 24).map numOf
noncomputable def elt0 (v_n:AV):M AV:=bd (bd (rt v_n) λ a5=>absM a5) λ a3=>bd (bd (rt (.int 10)) λ a6=>bd (rt (.int 9)) λ a7=>powM a6 a7) λ a4=>modM a3 a4
theorem V0 {i:Int} {μ:Mem}:elt0 (.int i) μ=some (.int (numOf i),μ):=by
 have:(0:Int) < 1000000000:=by decide
 have h2:Int.fmod (Int.natAbs i) 1000000000=((i.natAbs % 1000000000:Nat):Int):=by
  rw [Int.fmod_eq_emod_of_nonneg _ (by decide)];rfl
 show (if 0 < (1000000000:Int) then rt (AV.int (Int.fmod (Int.natAbs i) 1000000000)) else fl) μ=_
 rw [if_pos this,h2];rfl
theorem bd_some {α β:Type} {m:M α} {f:α→M β} {μ μ':Mem} {a:α} (e:m μ=some (a,μ')):bd m f μ=f a μ':=by unfold bd;rw [e]
noncomputable def numV:AV→AV
 | .int i=> .int (numOf i)
 | _=> .none
theorem V1 (is:List Int):ui (is.map AV.int) []=some (.nxt (.obj 1),[.list ((is.take 24).map AV.int), .list (nums (yT is))]):=by
 have e1:(is.map AV.int).take 24=(is.take 24).map AV.int:=List.map_take.symm
 have h:wp (comp (λ v_n=>[none,some v_n,none]) (.obj 0) (λ v_n=>(rt true)) elt0) (λ a μ=>a= .obj 1∧μ=[.list ((is.take 24).map AV.int), .list (nums (yT is))]) [.list ((is.take 24).map AV.int)]:=by
  refine wi (λ _=>true) numV rfl (by simp [List.length_take];unfold big;lia) (λ x hx=>⟨rfl,λ _=> ?_⟩) ?_
  ·obtain ⟨i,_,rfl⟩:=List.mem_map.mp hx
   exact V0
  ·refine zf rfl ⟨rfl,?_⟩
   rw [List.filter_eq_self.mpr (λ _ _=>rfl)]
   simp only [List.map_map,yT,nums,List.cons_append,List.nil_append]
   rfl
 obtain ⟨a,μ',e,rfl,rfl⟩:=h
 have h1:(bd (al (.list ((is.map AV.int).take 24))) λ a8=>comp (λ v_n=>[none,some v_n,none]) a8 (λ v_n=>(rt true)) elt0) []=some (.obj 1,[.list ((is.take 24).map AV.int), .list (nums (yT is))]):=by
  rw [e1,bd_some (show al (.list ((is.take 24).map AV.int)) []=some (.obj 0,[.list ((is.take 24).map AV.int)]) from rfl)]
  exact e
 show bd (bd (al (.list ((is.map AV.int).take 24))) λ a8=>comp (λ v_n=>[none,some v_n,none]) a8 (λ v_n=>(rt true)) elt0) (λ v_script=>rt (Fl.nxt v_script)) []=_
 rw [bd_some h1]
 rfl
noncomputable def K0:Ad:=⟨3,12,13,7,8,9,5,6,10⟩
noncomputable def lim0:AO:= .inst .limits [("width", .int 64),("depth", .int 50),("steps", .int 1000000),("text", .int 100000),("items", .int 10000)]
noncomputable def mem1 (o0 o1:AO):Mem:=[o0,o1,lim0, .inst .heap [("limits", .obj 2),("last", .int 0),("zero", .obj 4)], .list [], .list [], .list [], .dI false [], .dI false [], .list [], .list [], .tup [.obj 5, .obj 6, .obj 7, .obj 8, .obj 9, .obj 10]]
noncomputable def mem2 (o0 o1:AO):Mem:=[o0,o1,lim0, .inst .heap [("limits", .obj 2),("last", .int 0),("zero", .obj 4)], .list [], .list [], .list [], .dI false [], .dI false [], .list [], .list [.obj 12], .tup [.obj 5, .obj 6, .obj 7, .obj 8, .obj 9, .obj 10], .inst .counter [("heap", .obj 3),("destroy", .dstr),("places", .obj 13)], .dI false []]
noncomputable def lt0 (q:Nat):LT:=⟨.obj 1, .obj 3, .obj 5, .obj 7,K0.cv q⟩
noncomputable def rest1 (v_script v_rescue:AV):M (Fl LT) :=
 bd (bd (new .limits λ o=>yX o (.int 64) (.int 50) (.int 1000000) (.int 100000) (.int 10000)) λ a12=>new .heap λ o=>xF o a12) λ v_heap =>
 bd (mkL []) λ t_log=>bd (mkL []) λ t_heard=>bd (al (.dI false [])) λ t_world=>bd (al (.dI false [])) λ t_real=>bd (mkL []) λ t_roots=>bd (mkL []) λ t_box=>bd (al (.tup [t_log,t_heard,t_world,t_real,t_roots,t_box])) λ _=> 
 rt (Fl.nxt ⟨v_script,v_heap,t_log,t_world,⟨t_heard,t_real,v_rescue,t_roots,t_box⟩⟩)
theorem WS {o0 o1:AO} {x:AV}:rest1 (.obj 1) x [o0,o1]=some (.nxt ⟨.obj 1, .obj 3, .obj 5, .obj 7,⟨.obj 6, .obj 8,x, .obj 9, .obj 10⟩⟩,mem1 o0 o1):=by kernel_rfl
noncomputable def v8 (ns:List Nat):Nat:=ns.sum % 4
theorem WT (ns:List Nat):(ns.map λ n:Nat=>(n:Int)).sum=((ns.sum:Nat):Int):=by
 induction ns with
 | nil=>rfl
 | cons a ns ih=>simp only [List.map_cons,List.sum_cons,ih];lia
theorem V2 {o0:AO} {ns:List Nat}:uj (.obj 1) [o0, .list (nums ns)]=some (.nxt (lt0 (v8 ns)),mem1 o0 (.list (nums ns))):=by
 have h:(bd (bd (rt (AV.obj 1)) λ a11=>sumM a11) λ a9=>bd (rt (.int 4)) λ a10=>modM a9 a10) [o0, .list (nums ns)]=some (.int (v8 ns),[o0, .list (nums ns)]):=by
  have h1:(bd (rt (AV.obj 1)) λ a11=>sumM a11) [o0, .list (nums ns)]=some (.int (ns.sum:Nat),[o0, .list (nums ns)]):=by
   show (bd (opt (intsOf (nums ns))) λ is=>rt (AV.int is.sum)) [o0, .list (nums ns)]=_
   rw [u6]
   show some (AV.int (ns.map λ n:Nat=>(n:Int)).sum,_)=_
   rw [WT]
  rw [bd_some h1]
  show (if 0 < (4:Int) then rt (AV.int (Int.fmod (ns.sum:Nat) 4)) else fl) [o0, .list (nums ns)]=_
  rw [if_pos (by decide),Int.fmod_eq_emod_of_nonneg _ (by decide)];rfl
 show bd _ (λ v_rescue=>rest1 (.obj 1) v_rescue) _=_
 rw [bd_some h]
 exact WS
noncomputable def roles0 (o1:AO):List Role:=[.junk, .im o1, .junk, .heap, .zero, .log, .heard, .world, .real, .roots, .box, .junk, .counter, .places]
noncomputable def own0 (o1:AO):Own:=λ i=>(roles0 o1)[i]?.getD .junk
noncomputable def S0:S:=⟨λ _=>⟨.s .none,0,false,false,false,[]⟩,[],[],0,[],[],[],λ _=>⟨.s .none,false,false⟩,0,[],false,false,λ _=>false⟩
noncomputable def tagOf:Role→Nat
 | .heap=>3 | .zero=>4 | .log=>5 | .heard=>6 | .world=>7 | .real=>8 | .roots=>9 | .box=>10 | .counter=>12 | .places=>13 | _=>0
theorem g1 {α:Type} {p:Nat→α→Bool}: ∀ (l:List α) (k:Nat),l.foldr (λ a f k=>p k a && f (k+1)) (λ _=>true) k=true→ ∀ i a,l[i]? =some a→p (k+i) a=true
 | [],_,_,_,_,h=>za h
 | a :: l,k,hl,i,b,h=>by
  have hl:=Bool.and_eq_true_iff.mp (show (p k a && l.foldr (λ a f k=>p k a && f (k+1)) (λ _=>true) (k+1))=true from hl)
  cases i with
  | zero=>rw [← Option.some.inj h];exact hl.1
  | succ i=>rw [← Nat.succ_add_eq_add_succ];exact g1 l (k+1) hl.2 i b h
theorem g7 {o1:AO} {i:Nat} (h:(own0 o1 i).once=true):tagOf (own0 o1 i)=i:=by
 unfold own0 at h ⊢
 cases e:(roles0 o1)[i]? with
 | none=>rw [e] at h;cases h
 | some r =>
  rw [e] at h
  have:=g1 (p:=λ k r=> !r.once || tagOf r == k && r.num == 0 && r.rnum == 0) (roles0 o1) 0 rfl i r e
  rw [show r.once=true from h,Nat.zero_add] at this
  exact eq_of_beq (Bool.and_eq_true_iff.mp (Bool.and_eq_true_iff.mp this).1).1
theorem L2.atR {α β:Type} {R:α→β→Prop} {as:List α} {bs:List β} (h:L2 R as bs) (d:β): ∀ {i:Nat} {a:α},as[i]? =some a→R a (bs[i]?.getD d):=by
 induction h with
 | nil=>intro i a e;exact za e
 | cons hr _ ih =>
  intro i a e
  cases i with
  | zero=>rw [← Option.some.inj e];exact hr
  | succ i=>exact ih e
theorem rep0 {o0 o1:AO}:Rep K0 (own0 o1) S0 (mem2 o0 o1) where
 len i h:=by unfold own0;rw [List.getElem?_eq_none (show (roles0 o1).length≤i from h)];rfl
 desc i o h:=L2.atR (R:=λ o r=>Desc K0 (own0 o1) S0 r o) (bs:=roles0 o1) (.cons trivial (.cons rfl (.cons trivial (.cons ⟨.obj 2, .obj 4,⟨4,rfl,rfl⟩,rfl⟩ (.cons ⟨[],rfl, .nil⟩ (.cons rfl (.cons rfl (.cons ⟨[],rfl, .nil⟩ (.cons ⟨[],rfl, .nil⟩ (.cons rfl (.cons rfl (.cons trivial (.cons rfl (.cons rfl .nil)))))))))))))) .junk h
 uniq i j e ho:=by
  have h1:=g7 ho
  have h2:=g7 (show (own0 o1 j).once=true by rw [← e];exact ho)
  rw [← h1,← h2,e]
 bnd i:=by
  unfold own0
  cases e:(roles0 o1)[i]? with
  | none=>exact ⟨Nat.le_refl _,Nat.le_refl _⟩
  | some r =>
   have:=Bool.and_eq_true_iff.mp (g1 (p:=λ _ r=>r.num == 0 && r.rnum == 0) (roles0 o1) 0 rfl i r e)
   exact ⟨Nat.le_of_eq (eq_of_beq this.1),Nat.le_of_eq (eq_of_beq this.2)⟩
 kH:=rfl
 kC:=rfl
 kP:=rfl
 kW:=rfl
 kR:=rfl
 kO:=rfl
 kL:=rfl
 kE:=rfl
 kB:=rfl
section
variable {D D' ns ds:List Nat} {B B':Nat} {σ τ j ρ σ' τ':S} {n m s t x a d q:Nat} {pv old:PV}
theorem InvD.sameOk (I:InvD D B σ) (hB:B≤60):SameOk σ:=by
 have h3:B * B≤60 * 60:=Nat.mul_le_mul hB hB
 have h2:=I.degLen
 have h4:=I.wl
 refine ⟨I.lw,I.lr,I.lt,by unfold big;lia,by unfold big;lia,I.fr,I.cc,I.ct,I.ds,λ n hn=> ?_,λ n hn=>by rw [I.cc n hn];exact I.ko n hn⟩
 rw [I.cc n hn]
 have:=I.ml hn
 unfold big;lia
theorem InvD.ready (I:InvD D B σ) (hB:B≤60) (h4:σ.roots.length=4) (hz:σ.zero.length≤100000):Ready σ:=by
 have h1:=I.wl
 have h2:=I.rl
 refine ⟨⟨I.lw,I.lr,I.lt,by unfold big;lia,by unfold big;lia,by unfold big;lia,I.rb,λ n hn=>I.rb n (I.sub n hn),I.lb⟩,I.closed,λ i hi=> ?_,λ t ht=> ?_,λ p m hp h=>I.target hp h⟩
 ·have hlt:i < σ.roots.length:=by lia
  exact ⟨σ.roots[i],List.getElem?_eq_getElem hlt,I.ro _ (List.getElem_mem hlt)⟩
 ·have:=I.ml ht
  have h5:=I.wkl ht
  exact ⟨I.sub t ht,I.cc t ht,by unfold big;lia,I.ko t ht,I.rb t (I.sub t ht),by unfold big;lia⟩
theorem Inv.hnew (I:Inv B σ) (hB:B≤60) (hz:σ.zero.length≤100000) (way place:Nat) (b:Bool) (hp:LS σ place) (hw:way < 3):StoreOk (σ.newT way b) place∧ ∃ v,((σ.newT way b).row place).c= .s v:=by
 have J:=(I.newT (b:=b) hw).1
 have hl:=newLS (b:=b) I hw hp
 refine ⟨J.store_ok hl (by lia) ?_,hl.2⟩
 rw [uD hw]
 simp only [List.length_append,List.length_singleton]
 unfold big;lia
noncomputable def laid (σ:S) (j:Nat):S:= {σ with wk:=σ.wk ++ [σ.last],lastRow:=σ.last}.setRow σ.last ⟨.s (.int j),false,false⟩
noncomputable def St1 (σ:S) (j:Nat):S :=
 let σ1:=σ.freshV (.int j)
 let σ2:S:= {σ1 with real:=σ1.real ++ [σ.last+1]}
 let σ3:S:= {σ2 with wk:=σ2.wk ++ [σ.last+1],lastRow:=σ.last+1}.setRow (σ.last+1) ⟨.s (.int j),false,false⟩
 {σ3 with roots:=σ3.roots ++ [σ.last+1]}
noncomputable def St:Nat→S
 | 0=>S0
 | j+1=>St1 (St j) j
structure StF (σ:S) (j:Nat):Prop where
 lk:σ.lkR=false∧σ.lkW=false∧ ∀ n,σ.lkT n=false
 la:σ.last=j∧σ.lastRow=j
 re:σ.real.length=j∧ ∀ x∈σ.real,x≤j
 wk:σ.wk=σ.real
 ro:σ.roots=σ.real
theorem stF: ∀ j,StF (St j) j
 | 0=>⟨⟨rfl,rfl,λ _=>rfl⟩,⟨rfl,rfl⟩,⟨rfl,λ x h=>by cases h⟩,rfl,rfl⟩
 | j+1=>by
  have h:=stF j
  have hl:=h.la.1
  refine ⟨h.lk,⟨congrArg (· +1) hl,congrArg (· +1) hl⟩,⟨?_,λ x hx=> ?_⟩,?_,?_⟩
  ·show ((St j).real ++ [(St j).last+1]).length=_
   simp [h.re.1]
  ·have hx:x∈(St j).real ++ [(St j).last+1]:=hx
   rcases List.mem_append.mp hx with q | q
   ·have:=h.re.2 x q;exact Nat.le_succ_of_le ‹_›
   ·rw [List.mem_singleton.mp q,hl];exact Nat.le_refl _
  ·show (St j).wk ++ [(St j).last+1]=(St j).real ++ [(St j).last+1];rw [h.wk]
  ·show (St j).roots ++ [(St j).last+1]=(St j).real ++ [(St j).last+1];rw [h.ro]
theorem XK:(St 4).wk=[1,2,3,4]∧(St 4).real=[1,2,3,4]∧(St 4).roots=[1,2,3,4]∧(St 4).zero=[]∧(St 4).heard=[]∧(St 4).log=[]∧(St 4).last=4∧(St 4).lastRow=4:=⟨rfl,rfl,rfl,rfl,rfl,rfl,rfl,rfl⟩
theorem Jb: ∀ n∈[1,2,3,4],(St 4).th n=⟨.s (.int ((n - 1:Nat):Int)),1,false,false,false,[]⟩∧(St 4).row n=⟨.s (.int ((n - 1:Nat):Int)),false,false⟩∧(St 4).deg n=1:=by
 intro n hn
 simp only [List.mem_cons,List.not_mem_nil,or_false] at hn
 rcases hn with rfl | rfl | rfl | rfl <;> exact ⟨rfl,rfl,rfl⟩
theorem inv4:Inv 4 (St 4):=by
 obtain ⟨e1,e2,e3,e4,e5,e6,e7,e8⟩:=XK
 have at4:=Jb
 have F:=stF 4
 refine ⟨F.lk.2.1,F.lk.1,F.lk.2.2,by rw [e1];decide,by rw [e1,e2];exact λ _ h=>h,by rw [e2,e7];decide,by rw [e7,e8];exact Nat.le_refl _,?_,?_,?_,?_,?_,?_,?_,?_,?_,?_,?_,?_,?_,?_,by rw [e5,e6],by rw [e6];exact Nat.zero_le _,by rw [e2];decide,by rw [e3];decide⟩
 ·rw [e1,e2];intro n hn;rw [(at4 n hn).1];simp [hn]
 ·rw [e1];intro n hn;rw [(at4 n hn).1,(at4 n hn).2.1]
 ·rw [e1];intro n hn;rw [(at4 n hn).1,(at4 n hn).2.1]
 ·rw [e1];intro n hn;rw [(at4 n hn).1,(at4 n hn).2.1]
 ·rw [e1];intro n hn;rw [(at4 n hn).1,(at4 n hn).2.2];rfl
 ·rw [e1];intro n hn m hm;rw [(at4 n hn).2.1] at hm;rcases hm with hm | hm; · exact absurd hm List.not_mem_nil
  ·cases hm
 ·rw [e1];intro n hn m hm;rw [(at4 n hn).2.1] at hm;exact absurd hm List.not_mem_nil
 ·rw [e1];intro n hn;rw [(at4 n hn).2.1];exact List.nodup_nil
 ·rw [e1];intro n hn;rw [(at4 n hn).2.1];intro es h;cases h
 ·rw [e1];intro t ht s
  rw [(at4 t ht).1]
  constructor
  ·intro h;cases h
  ·rintro ⟨h1,h2⟩;rw [(at4 s h1).2.1] at h2;cases h2
 ·rw [e1];intro t ht;rw [(at4 t ht).1];exact List.nodup_nil
 ·rw [e3];intro r hr;exact ⟨by rw [e1];exact hr,_,by rw [(at4 r hr).2.1]⟩
 ·rw [e1];intro n hn h;rw [(at4 n hn).2.2] at h;cases h
 ·rw [e4];intro n hn;cases hn
noncomputable def letFour (σ:S):S:=σ.roots.foldl S.letGo {σ with roots:=[]}
theorem Inv.letFour (I:Inv B σ):Inv B (letFour σ)∧(Pl.letFour σ).roots=[]∧(Pl.letFour σ).zero.length≤σ.zero.length+4:=by
 have L:=letAll σ.roots {σ with roots:=[]}
 have hz:=x0 σ.roots {σ with roots:=[]}
 change LetAll σ.roots {σ with roots:=[]} (Pl.letFour σ) at L
 change (Pl.letFour σ).zero.length≤_ at hz
 generalize Pl.letFour σ=τ at L hz
 have s:=L.same
 have ewk:τ.wk=σ.wk:=s.wk
 have erow:τ.row=σ.row:=s.row
 have ero:τ.roots=[]:=s.roots
 have elog:τ.log=σ.log:=s.log
 have elr:τ.lastRow=σ.lastRow:=s.lastRow
 have ela:τ.last=σ.last:=s.last
 have erl:τ.real=σ.real:=s.real
 have hth: ∀ x,τ.th x= {σ.th x with cnt:=(σ.th x).cnt - σ.roots.count x}:=L.th
 have hdeg: ∀ x,τ.deg x+σ.roots.count x=σ.deg x:=λ x=>by
  unfold S.deg
  rw [ero,ewk,erow]
  simp only [List.count_nil]
  lia
 have hwf: ∀ t,(τ.th t).weak=(σ.th t).weak:=λ t=>by rw [hth]
 refine ⟨⟨s.lkW.trans I.lw,s.lkR.trans I.lr,λ n=>by rw [s.lkT];exact I.lt n,by rw [ewk];exact I.nd,by rw [ewk,erl];exact I.sub,by rw [erl,ela];exact I.rb,by rw [elr,ela];exact I.lb,?_,?_,?_,?_,?_,by rw [ewk,erow];exact I.tg,by rw [ewk,erow];exact I.ms,by rw [ewk,erow];exact I.gn,by rw [ewk,erow];exact I.ko,?_,?_,by rw [ero];intro r hr;(cases hr),?_,?_,by rw [L.heard,elog];exact I.hl,?_,by rw [erl];exact I.rl,by rw [ero];exact Nat.zero_le _⟩,ero,?_⟩
 ·rw [erl,ewk];intro n hn;rw [hth];exact I.fr n hn
 ·rw [ewk,erow];intro n hn;rw [hth];exact I.cc n hn
 ·rw [ewk,erow];intro n hn;rw [hth];exact I.bl n hn
 ·rw [ewk,erow];intro n hn;rw [hth];exact I.ds n hn
 ·rw [ewk];intro n hn
  rw [hth]
  have h1:=I.ct n hn
  have h2:=hdeg n
  dsimp only
  lia
 ·rw [ewk,erow];intro t ht s;rw [hwf];exact I.we t ht s
 ·rw [ewk];intro t ht;rw [hwf];exact I.wn t ht
 ·rw [ewk];intro n hn h0
  left
  by_cases q:n∈σ.roots
  ·refine L.z3 n q ?_
   rw [hth]
   have h1:=I.ct n hn
   have h2:=hdeg n
   dsimp only
   lia
  ·have h2:=hdeg n
   rw [List.count_eq_zero.mpr q] at h2
   rcases I.zm n hn (by lia) with h | h
   ·exact L.z1 n h
   ·cases h
 ·rw [erl];intro n hn
  rcases L.z2 n hn with h | h
  ·exact I.zs n h
  ·exact I.sub n (I.ro n h).1
 ·rw [elog,erl]
  have:(σ.real.filter λ n=>(τ.th n).ds)=σ.real.filter λ n=>(σ.th n).ds:=List.filter_congr λ n hn=>by rw [hth]
  rw [this];exact I.ll
 ·have h1:=I.r4
  have h2:({σ with roots:=[]}:S).zero=σ.zero:=rfl
  rw [h2] at hz
  lia
end
theorem Ga {q:Nat}:(lt0 q).script= .obj 1:=rfl
theorem Gb {q:Nat}:(lt0 q).heap= .obj K0.heap:=rfl
theorem Gc {q:Nat}:(lt0 q).log= .obj K0.log:=rfl
theorem Ge {q:Nat}:(lt0 q).world= .obj K0.world:=rfl
theorem Gf {q:Nat}:(lt0 q).cv=K0.cv q:=rfl
section
variable {K:Ad} {own own':Own} {σ σ':S} {μ μ':Mem} {α:Type}
variable {Q:AV→Mem→Prop} {v c s x:AV} {n k q B:Nat}
theorem Gg:(K.cv q).box= .obj K.box:=rfl
theorem Gh:(K.cv q).heard= .obj K.heard:=rfl
theorem Gi:(K.cv q).real= .obj K.real:=rfl
theorem Gj:(K.cv q).roots= .obj K.roots:=rfl
theorem Gk:(K.cv q).rescue= .int q:=rfl
noncomputable def extra:List Nat:=[1441,1603,8,9]
theorem WU {xs ys:List Nat}:nums xs ++ nums ys=nums (xs ++ ys):=by simp [nums]
theorem V3 {i j:Nat} {xs ys:List AV} (hi:μ[i]? =some (.list xs)) (hj:μ[j]? =some (.list ys)) (hl:xs.length+ys.length≤big):wp (addM (.obj i) (.obj j)) Q μ=wp (al (.list (xs ++ ys))) Q μ:=by
 show wp (bd (rdL (.obj i)) λ xs=>bd (rdL (.obj j)) λ ys=>if xs.length+ys.length≤big then al (.list (xs ++ ys)) else fl) Q μ=_
 rw [zq,zd (xG hi),zq,zd (xG hj),if_pos hl]
theorem WV {o0:AO} {ns:List Nat} {q:Nat} (hl:ns.length≤24):wp (wP (lt0 q)) (λ f _=>f= .ret (.bool true)) (mem1 o0 (.list (nums ns))):=by
 unfold wP
 simp only [Ga,Gb,Gc,Ge,Gf,Gg,Gh,Gi,Gj,Gk]
 rw [bd_]
 refine zf (a:= .obj K0.counter) (μ':=mem1 o0 (.list (nums ns)) ++ [.inst .counter [("heap", .obj 3),("destroy", .dstr),("places", .obj 13)], .dI false []]) (by kernel_rfl) ?_
 rw [wJ,bd_]
 refine zf (a:= .none) (μ':=mem2 o0 (.list (nums ns))) (by kernel_rfl) ?_
 have R0:=rep0 (o0:=o0) (o1:= .list (nums ns))
 have hs:own0 (.list (nums ns)) 1= .im (.list (nums ns)):=rfl
 generalize own0 (.list (nums ns))=own at R0 hs
 generalize mem2 o0 (.list (nums ns))=μ at R0 ⊢
 walk_at "w";refine Zy (n:=4) (λ j _ μ'=> ∃ own',Ext own own'∧Rep K0 own' (St j) μ') (by decide) ⟨own,Ext.refl,R0⟩ (λ j _ μ1 hj h=> ?_) (λ _ μ1 h=> ?_)
 ·obtain ⟨own1,e1,R1⟩:=h
  have F:=stF j
  walk_at "w";refine toI (zu R1) ?_
  walk_at "w";refine gI R1 (pv:= .int j) (x:= .int (Int.ofNat j)) rfl F.lk.2.2 λ own2 μ2 v e2 hv R2=> ?_
  walk_at "w";refine toI (zp R2 hv) ?_
  have hlen:(St j).real.length < big:=by rw [F.re.1];unfold big;lia
  have hnm:(St j).last+1∉(St j).real:=λ hm=>by have:=F.re.2 _ hm;rw [F.la.1] at this;lia
  walk_at "w";refine vN R2 F.lk.1 hlen hnm hv λ μ3 R3=> ?_
  walk_at "w";refine ze R3 (.nw (.list [.str "S", .bool false, .bool false, .int (Int.ofNat j)])) (.inr (.inr rfl)) λ own4 μ4 a4 e4 h4 j4 b4 R4=> ?_
  walk_at "w";refine toI (zp R4 (hv.th e4)) ?_
  walk_at "w";refine us (c:= .s (.int j)) (bl:=false) (x:= .int (Int.ofNat j)) R4 F.lk.2.1 (by show (St j).wk.length < big;rw [F.wk];exact hlen) (by show _∉(St j).wk;rw [F.wk];exact hnm) (by show (St j).lastRow < _;rw [F.la.1,F.la.2];lia) h4 (.inl ⟨_,rfl,rfl⟩) λ own5 μ5 e5 R5=> ?_
  walk_at "w";refine toI (Wp R5) ?_
  walk_at "w";refine toI (zp R5 ((hv.th e4).th e5)) ?_
  walk_at "w";refine bJ R5 (by show (St j).roots.length < big;rw [F.ro];exact hlen) λ μ6 R6=> ?_
  walk_at "w";exact ⟨own5,((e1.trans e2).trans e4).trans e5,R6⟩
 obtain ⟨own1,e1,R1⟩:=h
 have hs1:own1 1= .im (.list (nums ns)):=e1.at hs rfl
 have I1:=inv4
 have r1:(St 4).roots.length=4:=rfl
 have z1:(St 4).zero.length=0:=rfl
 generalize St 4=σ at R1 I1 r1 z1
 clear R0 hs e1 own μ
 walk_at "w";refine ze R1 (.tm (.list (nums extra))) (.inr (.inl rfl)) λ own2 μ2 a2 e2 h2 j2 b2 R2=> ?_
 walk_at "w";refine toI (V3 (R2.im (e2.at hs1 rfl)) (R2.tm h2) (by simp [nums,extra];unfold big;lia)) ?_;rw [WU]
 walk_at "w";refine ze R2 (.tm (.list (nums (ns ++ extra)))) (.inr (.inl rfl)) λ own3 μ3 a3 e3 h3 j3 b3 R3=> ?_
 clear R1 R2 hs1 h2 j2 b2 j3 b3 e2 e3
 have hlen:(ns ++ extra).length≤28:=by rw [List.length_append];show _+4≤_;lia
 generalize ns ++ extra=script at h3 hlen
 walk_at "w";refine wh (λ xs _ μ'=> ∃ ds ks own' σ',script=ds ++ ks∧xs=nums ks∧Ext own3 own'∧Rep K0 own' σ' μ'∧Inv (4+ds.length) σ'∧σ'.roots.length=4∧σ'.zero.length≤3 * ds.length) (R3.tm h3) ⟨[],script,own3,σ,rfl,rfl,Ext.refl,R3,I1,r1,by rw [z1];exact Nat.zero_le _⟩ (λ xs _ μ' h=> ?_) (λ x xs _ μ' h=> ?_) (λ _ μ' h=> ?_)
 ·obtain ⟨ds,ks,own',σ',q1,q2,q3,q4,q5,q6,q7⟩:=h
  exact q4.tm (q3.at h3 rfl)
 ·obtain ⟨ds,ks,own',σ',q1,q2,q3,R',I',r',z'⟩:=h
  cases ks with
  | nil=>cases q2
  | cons n ks =>
  simp only [nums,List.map_cons,List.cons.injEq] at q2
  obtain ⟨rfl,rfl⟩:=q2
  have hds:ds.length+1≤28:=by rw [q1] at hlen;simp only [List.length_append,List.length_cons] at hlen;lia
  walk_at "w";refine VQ R' (I'.ready (by lia) r' (by lia)) (I'.hnew (by lia) (by lia)) λ own4 μ4 σ4 e4 hd R4=> ?_
  obtain ⟨I4,z4,ro4⟩:=I'.deed hd
  have r4:σ4.roots.length=4:=by rw [ro4];exact r'
  have hnext: ∀ own5 μ5 σ5,Ext own4 own5→Rep K0 own5 σ5 μ5→Inv (4+ds.length+1) σ5→σ5.roots.length=4→σ5.zero.length≤3 * (ds.length+1)→loopQ (λ xs _ μ'=> ∃ ds ks own' σ',script=ds ++ ks∧xs=nums ks∧Ext own3 own'∧Rep K0 own' σ' μ'∧Inv (4+ds.length) σ'∧σ'.roots.length=4∧σ'.zero.length≤3 * ds.length) (List.map (λ n:Nat=>AV.int n) ks) () (.nxt ()) μ5:=λ own5 μ5 σ5 e5 R5 I5 r5 z5 =>
   ⟨ds ++ [n],ks,own5,σ5,by rw [q1];simp,rfl,(q3.trans e4).trans e5,R5,by simpa [Nat.add_assoc] using I5,r5,by simpa using z5⟩
  walk_at "w"
  by_cases h9:((n % 10:Nat):Int)=9
  ·refine iA (decide_eq_true h9) ?_
   walk_at "w";refine toI (zu R4) ?_
   obtain ⟨k,k',σ5,σ6,hk,hk',st,st',I6,z6,ro6⟩:=I4.settle (q:=q) (.inr r4) (by lia) (by lia)
   walk_at "w";refine ku st hk R4 λ own5 μ5 e5 R5=> ?_
   walk_at "w";refine jV st' hk' R5 λ own6 μ6 e6 R6=> ?_
   walk_at "w";refine toI (yx R6.heard R6.log) ?_;rw [I6.hl]
   simp only [decide_true];walk_at "w";refine ZJ R6 (I6.sameOk (by lia)) λ own7 μ7 e7 R7=> ?_
   walk_at "w"
   exact hnext own7 μ7 σ6 ((e5.trans e6).trans e7) R7 I6 (by rw [ro6];exact r4) (by rw [z6];exact Nat.zero_le _)
  ·refine iE (decide_eq_false h9) ?_
   walk_at "w"
   exact hnext own4 μ4 σ4 Ext.refl R4 I4 r4 (by lia)
 obtain ⟨ds,ks,own',σ',q1,q2,q3,R',I',r',z'⟩:=h
 have hds:ds.length≤28:=by rw [q1] at hlen;simp only [List.length_append] at hlen;lia
 have hB:4+ds.length≤60:=by lia
 have hz:σ'.zero.length≤1000:=by lia
 clear R3 I1 r1 z1 h3
 generalize 4+ds.length=B at I' hB
 walk_at "w"
 have hgone: ∀ {G:AV→Cx0} {QQ:AV→Mem→Prop},(∀ own4 μ4 a4 vs,Ext own' own4→own4 a4= .tm (.list vs)→Things own4 vs σ'.roots→Rep K0 own4 σ' μ4→QQ (.obj a4) μ4)→wp (comp G (.obj K0.roots) (λ v_number=>(rt true)) (λ v_number=>(bd (rt (AV.obj K0.real)) λ a60=>bd (rt v_number) λ a61=>getI a60 a61))) QQ μ':=λ {G QQ} hq=>by
  walk_at "w";refine jm (λ xs acc μ4=>μ4=μ'∧ ∃ ds ks,σ'.roots=ds ++ ks∧xs=nums ks∧Things own' acc ds) R'.roots (by simp [nums,r'];unfold big;lia) ⟨rfl,[],σ'.roots,rfl,rfl, .nil⟩ (λ xs acc μ4 h=>by rw [h.1];exact R'.roots) (λ x xs acc μ4 h=> ?_) (λ acc μ4 h=> ?_)
  ·obtain ⟨rfl,ds,ks,p1,p2,p3⟩:=h
   cases ks with
   | nil=>cases p2
   | cons n ks =>
   simp only [nums,List.map_cons,List.cons.injEq] at p2
   obtain ⟨rfl,rfl⟩:=p2
   walk_at "w";refine zE R' (I'.sub n (I'.ro n (by rw [p1];exact List.mem_append_right _ (.head _))).1) λ v hv=> ?_
   walk_at "w";exact ⟨by first | rfl | trivial,ds ++ [n],ks,by rw [p1];simp,rfl,p3.snoc hv⟩
  ·obtain ⟨rfl,ds,ks,p1,p2,p3⟩:=h
   cases ks with
   | cons n ks=>cases p2
   | nil =>
   rw [List.append_nil] at p1
   subst p1
   walk_at "w";refine ze R' (.tm (.list acc)) (.inr (.inl rfl)) λ own4 μ4 a4 e4 h4 j4 b4 R4=> ?_
   walk_at "w";exact hq own4 μ4 a4 acc e4 h4 (p3.ext e4) R4
 refine hgone λ own4 μ4 a4 vs e4 h4 t4 R4=> ?_
 clear hgone
 walk_at "w";refine ze R4 (.nw (.list [])) (.inr (.inr rfl)) λ own5 μ5 a5 e5 h5 j5 b5 R5=> ?_
 walk_at "w";refine hX R5 h5 λ μ6 R6=> ?_
 have h6:own5 a4= .tm (.list vs):=e5.at h4 rfl
 have t6:=t4.ext e5
 have hz0:({σ' with roots:=[]}:S).zero=σ'.zero:=rfl
 walk_at "w";refine kq R6 h6 t6 (by rw [hz0];unfold big;lia) λ own7 μ' p3 R7=> ?_
 obtain ⟨I7,ro7,z7⟩:=I'.letFour
 change Rep K0 own7 (letFour σ') μ' at R7
 generalize letFour σ'=σ7 at R7 I7 ro7 z7
 rw [gz]
 walk_at "w";refine toI (zu R7) ?_
 obtain ⟨k,k',σ8,σ9,hk,hk',st,st',I9,z9,ro9⟩:=I7.settle (q:=q) (.inl ro7) hB (by lia)
 walk_at "w";refine ku st hk R7 λ own8 μ8 e8 R8=> ?_
 walk_at "w";refine jV st' hk' R8 λ own9 μ9 e9 R9=> ?_
 walk_at "w";refine toI (Vw) ?_
 walk_at "w";refine toI (yx R9.heard R9.log) ?_;rw [I9.hl]
 simp only [decide_true];walk_at "w";refine ZJ R9 (I9.sameOk hB) λ own10 μ10 e10 R10=> ?_
 walk_at "w";rfl
end
end Mine.Pl
end
noncomputable section
open PySem PySem.W PyProof.Rows
namespace Mine
noncomputable def nth:List Stmt→Nat→Stmt
 | [],_=> .Pass ⟨0,0,0,0⟩
 | s :: _,0=>s
 | _ :: r,n+1=>nth r n
noncomputable def st (i:Nat):Stmt:=nth Challenge.pw_nz0184_01.main.body i
noncomputable def sm (i j:Nat):Stmt:=if h:(st i).ctorIdx=2 then Stmt.ClassDef.elim (motive_2:=λ _=>Stmt) (st i) h λ _ _ _ b _ _ _ _ _ _ _=>nth b j else st i
noncomputable def fO (s:Stmt) (q:String) (m:Value) (c:Nat) (d:Value):Obj:=if h:s.ctorIdx=0 then Stmt.FunctionDef.elim (motive_2:=fun _=>Obj) s h fun n ps b _ _ _ sc _ _ _=>⟨.type "function",none, .func ⟨n,q,ps, .stmts b,sc,3,[],d, .none, .none,m,none, .ref c, .none,0⟩, #[]⟩ else ⟨.none,none, .plain, #[]⟩
noncomputable def sl (b:Option Value) (x y:Value):List (Option Value):=[b,none,some x,some y,some (.builtin "object.__new__"),some (.bool true)]
noncomputable def cO (n:String) (b m:List Value) (ns:Nat) (subs:List Value) (sl:List (Option Value)):Obj:=⟨.type "type",none, .cls ⟨n,b,m,ns,n,true,[],subs,false,none,false⟩,sl.toArray⟩
noncomputable def tO (l:List Value):Obj:=⟨.type "tuple",none, .seq l.toArray 0, #[]⟩
noncomputable def kO (n q:String) (t:Nat) (l a:Int) (m u:Nat) (x:Bool):Obj:=⟨.type "code",none, .fields [.str n t, .str q (t+1), .str "/claim/cut.py" (t+2), .int l 0, .int a 0, .int 0 0, .int 0 0, .int 3 0, .ref m, .bool true, .int 181 0, .ref (m+1), .none,cond x (.ref (m+2)) .none,cond x (.ref (m+3)) .none, .ref (cond x (m+4) (m+2)), .int u 0, .int l 0, .str "/claim/cut.py" (u+1)].toArray, #[]⟩
noncomputable def dO (n:Nat) (l:List DictEntry):Obj:=⟨.type "dict",none, .dict l.toArray n, #[]⟩
noncomputable def dE (P:Params) (x:Str) (t:Nat) (v:Value):DictEntry:=⟨PyData.keyHash P x, .str x t,v⟩
noncomputable def KK (P:Params):Frag :=
 (nat_lit 2,⟨.none,none, .dict #[] 0, #[]⟩) ::
 (nat_lit 3,dO 36 [dE P "__name__" 165 (.str "law_nz0184_01" 693),dE P "__doc__" 166 .none,dE P "__package__" 167 .none,dE P "__loader__" 168 (.builtin "__main__.__loader__#opaque"),dE P "__spec__" 169 .none,dE P "__annotations__" 170 (.ref 6),dE P "__builtins__" 171 (.ref 4),dE P "__file__" 173 (.str "/claim/cut.py" 172),dE P "__cached__" 174 .none,dE P "_wall" 193 (.ref 21),dE P "Thing" 229 (.ref 38),dE P "Scalar" 256 (.ref 59),dE P "Array" 282 (.ref 78),dE P "Hash" 309 (.ref 97),dE P "Code" 339 (.ref 116),dE P "Glob" 369 (.ref 135),dE P "Ref" 400 (.ref 155),dE P "Heap" 477 (.ref 218),dE P "held_by" 485 (.ref 227),dE P "empty_out" 492 (.ref 234),dE P "in_order" 498 (.ref 239),dE P "Counter" 625 (.ref 331),dE P "weaken_scalar" 634 (.ref 342),dE P "bless_thing" 642 (.ref 349),dE P "Limits" 692 (.ref 367),dE P "_law_degrees" 700 (.ref 376),dE P "_law_settled" 706 (.ref 381),dE P "_law_value" 713 (.ref 388),dE P "_law_same" 719 (.ref 393),dE P "_law_place" 732 (.ref 400),dE P "_law_strong" 739 (.ref 407),dE P "_law_new" 753 (.ref 414),dE P "_law_put" 759 (.ref 419),dE P "_law_taken" 773 (.ref 426),dE P "_law_deed" 789 (.ref 433),dE P "law" 795 (.ref 438)]) ::
 (nat_lit 34,kO "__init__" "Thing.__init__" 208 7 2 29 213 true) ::
 (nat_lit 35,fO (sm 2 0) "Thing.__init__" (.str "perlcore.values" 194) 34 .none) ::
 (nat_lit 37,dO 4 [dE P "__module__" 203 (.str "perlcore.values" 194),dE P "__firstlineno__" 207 (.int 5 206),dE P "__init__" 215 (.ref 35),dE P "__static_attributes__" 222 (.ref 36),dE P "__dict__" 224 (.ref 39),dE P "__weakref__" 226 (.ref 40),dE P "__doc__" 227 .none]) ::
 (nat_lit 38,cO "Thing" [.type "object"] [.ref 38, .type "object"] 37 [.ref 59, .ref 78, .ref 97, .ref 116, .ref 135] (sl none (.str "Thing" 196) (.str "Thing" 204))) ::
 (nat_lit 55,kO "__init__" "Scalar.__init__" 242 16 3 50 248 true) ::
 (nat_lit 56,fO (sm 3 0) "Scalar.__init__" (.str "perlcore.values" 194) 55 .none) ::
 (nat_lit 58,dO 2 [dE P "__module__" 237 (.str "perlcore.values" 194),dE P "__firstlineno__" 241 (.int 14 240),dE P "__init__" 250 (.ref 56),dE P "__static_attributes__" 253 (.ref 57),dE P "__doc__" 254 .none]) ::
 (nat_lit 59,cO "Scalar" [.ref 38] [.ref 59, .ref 38, .type "object"] 58 [] (sl (some (.ref 43)) (.str "Scalar" 230) (.str "Scalar" 238))) ::
 (nat_lit 74,kO "__init__" "Array.__init__" 269 22 2 69 274 true) ::
 (nat_lit 75,fO (sm 4 0) "Array.__init__" (.str "perlcore.values" 194) 74 .none) ::
 (nat_lit 77,dO 2 [dE P "__module__" 264 (.str "perlcore.values" 194),dE P "__firstlineno__" 268 (.int 20 267),dE P "__init__" 276 (.ref 75),dE P "__static_attributes__" 279 (.ref 76),dE P "__doc__" 280 .none]) ::
 (nat_lit 78,cO "Array" [.ref 38] [.ref 78, .ref 38, .type "object"] 77 [] (sl (some (.ref 62)) (.str "Array" 257) (.str "Array" 265))) ::
 (nat_lit 93,kO "__init__" "Hash.__init__" 295 28 2 88 300 true) ::
 (nat_lit 94,fO (sm 5 0) "Hash.__init__" (.str "perlcore.values" 194) 93 .none) ::
 (nat_lit 96,dO 2 [dE P "__module__" 290 (.str "perlcore.values" 194),dE P "__firstlineno__" 294 (.int 26 293),dE P "__init__" 302 (.ref 94),dE P "__static_attributes__" 306 (.ref 95),dE P "__doc__" 307 .none]) ::
 (nat_lit 97,cO "Hash" [.ref 38] [.ref 97, .ref 38, .type "object"] 96 [] (sl (some (.ref 81)) (.str "Hash" 283) (.str "Hash" 291))) ::
 (nat_lit 112,kO "__init__" "Code.__init__" 322 35 4 107 329 true) ::
 (nat_lit 113,fO (sm 6 0) "Code.__init__" (.str "perlcore.values" 194) 112 .none) ::
 (nat_lit 115,dO 2 [dE P "__module__" 317 (.str "perlcore.values" 194),dE P "__firstlineno__" 321 (.int 33 320),dE P "__init__" 331 (.ref 113),dE P "__static_attributes__" 336 (.ref 114),dE P "__doc__" 337 .none]) ::
 (nat_lit 116,cO "Code" [.ref 38] [.ref 116, .ref 38, .type "object"] 115 [] (sl (some (.ref 100)) (.str "Code" 310) (.str "Code" 318))) ::
 (nat_lit 131,kO "__init__" "Glob.__init__" 352 43 3 126 358 true) ::
 (nat_lit 132,fO (sm 7 0) "Glob.__init__" (.str "perlcore.values" 194) 131 .none) ::
 (nat_lit 134,dO 2 [dE P "__module__" 347 (.str "perlcore.values" 194),dE P "__firstlineno__" 351 (.int 41 350),dE P "__init__" 360 (.ref 132),dE P "__static_attributes__" 366 (.ref 133),dE P "__doc__" 367 .none]) ::
 (nat_lit 135,cO "Glob" [.ref 38] [.ref 135, .ref 38, .type "object"] 134 [] (sl (some (.ref 119)) (.str "Glob" 340) (.str "Glob" 348))) ::
 (nat_lit 145,tO [.bool false]) ::
 (nat_lit 151,kO "__init__" "Ref.__init__" 382 52 3 146 388 true) ::
 (nat_lit 152,fO (sm 8 0) "Ref.__init__" (.str "perlcore.values" 194) 151 (.ref 145)) ::
 (nat_lit 154,dO 4 [dE P "__module__" 377 (.str "perlcore.values" 194),dE P "__firstlineno__" 381 (.int 50 380),dE P "__init__" 390 (.ref 152),dE P "__static_attributes__" 393 (.ref 153),dE P "__dict__" 395 (.ref 156),dE P "__weakref__" 397 (.ref 157),dE P "__doc__" 398 .none]) ::
 (nat_lit 155,cO "Ref" [.type "object"] [.ref 155, .type "object"] 154 [] (sl none (.str "Ref" 370) (.str "Ref" 378))) ::
 (nat_lit 172,kO "__init__" "Heap.__init__" 413 57 2 167 418 true) ::
 (nat_lit 173,fO (sm 9 0) "Heap.__init__" (.str "perlcore.values" 194) 172 .none) ::
 (nat_lit 179,kO "next_number" "Heap.next_number" 421 62 1 174 425 true) ::
 (nat_lit 180,fO (sm 9 1) "Heap.next_number" (.str "perlcore.values" 194) 179 .none) ::
 (nat_lit 186,kO "new_scalar" "Heap.new_scalar" 428 66 2 181 433 true) ::
 (nat_lit 187,fO (sm 9 2) "Heap.new_scalar" (.str "perlcore.values" 194) 186 .none) ::
 (nat_lit 193,kO "new_array" "Heap.new_array" 436 69 1 188 440 true) ::
 (nat_lit 194,fO (sm 9 3) "Heap.new_array" (.str "perlcore.values" 194) 193 .none) ::
 (nat_lit 200,kO "new_hash" "Heap.new_hash" 443 72 1 195 447 true) ::
 (nat_lit 201,fO (sm 9 4) "Heap.new_hash" (.str "perlcore.values" 194) 200 .none) ::
 (nat_lit 217,dO 4 [dE P "__module__" 408 (.str "perlcore.values" 194),dE P "__firstlineno__" 412 (.int 55 411),dE P "__init__" 420 (.ref 173),dE P "next_number" 427 (.ref 180),dE P "new_scalar" 435 (.ref 187),dE P "new_array" 442 (.ref 194),dE P "new_hash" 449 (.ref 201),dE P "new_code" 458 (.ref 208),dE P "new_glob" 466 (.ref 215),dE P "__static_attributes__" 470 (.ref 216),dE P "__dict__" 472 (.ref 219),dE P "__weakref__" 474 (.ref 220),dE P "__doc__" 475 .none]) ::
 (nat_lit 218,cO "Heap" [.type "object"] [.ref 218, .type "object"] 217 [] (sl none (.str "Heap" 401) (.str "Heap" 409))) ::
 (nat_lit 226,kO "held_by" "held_by" 480 81 1 223 483 false) ::
 (nat_lit 227,fO (st 11) "held_by" (.str "perlcore.counts" 478) 226 .none) ::
 (nat_lit 233,kO "empty_out" "empty_out" 486 93 1 228 490 true) ::
 (nat_lit 234,fO (st 12) "empty_out" (.str "perlcore.counts" 478) 233 .none) ::
 (nat_lit 238,kO "in_order" "in_order" 493 106 1 235 496 false) ::
 (nat_lit 239,fO (st 13) "in_order" (.str "perlcore.counts" 478) 238 .none) ::
 (nat_lit 252,kO "__init__" "Counter.__init__" 511 114 3 247 517 true) ::
 (nat_lit 253,fO (sm 14 0) "Counter.__init__" (.str "perlcore.counts" 478) 252 .none) ::
 (nat_lit 259,kO "hold" "Counter.hold" 520 119 2 254 525 true) ::
 (nat_lit 260,fO (sm 14 1) "Counter.hold" (.str "perlcore.counts" 478) 259 .none) ::
 (nat_lit 266,kO "let_go" "Counter.let_go" 528 122 2 261 533 true) ::
 (nat_lit 267,fO (sm 14 2) "Counter.let_go" (.str "perlcore.counts" 478) 266 .none) ::
 (nat_lit 273,kO "note" "Counter.note" 536 127 2 268 541 true) ::
 (nat_lit 274,fO (sm 14 3) "Counter.note" (.str "perlcore.counts" 478) 273 .none) ::
 (nat_lit 280,kO "take" "Counter.take" 544 131 2 275 549 true) ::
 (nat_lit 281,fO (sm 14 4) "Counter.take" (.str "perlcore.counts" 478) 280 .none) ::
 (nat_lit 285,kO "put_off" "Counter.put_off" 552 139 3 282 555 false) ::
 (nat_lit 286,fO (sm 14 5) "Counter.put_off" (.str "perlcore.counts" 478) 285 .none) ::
 (nat_lit 292,kO "store" "Counter.store" 558 147 3 287 565 true) ::
 (nat_lit 293,fO (sm 14 6) "Counter.store" (.str "perlcore.counts" 478) 292 .none) ::
 (nat_lit 299,kO "fresh" "Counter.fresh" 568 156 2 294 574 true) ::
 (nat_lit 300,fO (sm 14 7) "Counter.fresh" (.str "perlcore.counts" 478) 299 .none) ::
 (nat_lit 306,kO "drop" "Counter.drop" 577 161 2 301 582 true) ::
 (nat_lit 307,fO (sm 14 8) "Counter.drop" (.str "perlcore.counts" 478) 306 .none) ::
 (nat_lit 313,kO "settle" "Counter.settle" 585 164 2 308 592 true) ::
 (nat_lit 314,fO (sm 14 9) "Counter.settle" (.str "perlcore.counts" 478) 313 .none) ::
 (nat_lit 320,kO "finish" "Counter.finish" 595 174 2 315 600 true) ::
 (nat_lit 321,fO (sm 14 10) "Counter.finish" (.str "perlcore.counts" 478) 320 .none) ::
 (nat_lit 327,kO "free" "Counter.free" 603 182 2 322 612 true) ::
 (nat_lit 328,fO (sm 14 11) "Counter.free" (.str "perlcore.counts" 478) 327 .none) ::
 (nat_lit 330,dO 4 [dE P "__module__" 506 (.str "perlcore.counts" 478),dE P "__firstlineno__" 510 (.int 112 509),dE P "__init__" 519 (.ref 253),dE P "hold" 527 (.ref 260),dE P "let_go" 535 (.ref 267),dE P "note" 543 (.ref 274),dE P "take" 551 (.ref 281),dE P "put_off" 557 (.ref 286),dE P "store" 567 (.ref 293),dE P "fresh" 576 (.ref 300),dE P "drop" 584 (.ref 307),dE P "settle" 594 (.ref 314),dE P "finish" 602 (.ref 321),dE P "free" 614 (.ref 328),dE P "__static_attributes__" 618 (.ref 329),dE P "__dict__" 620 (.ref 332),dE P "__weakref__" 622 (.ref 333),dE P "__doc__" 623 .none]) ::
 (nat_lit 331,cO "Counter" [.type "object"] [.ref 331, .type "object"] 330 [] (sl none (.str "Counter" 499) (.str "Counter" 507))) ::
 (nat_lit 341,kO "weaken_scalar" "weaken_scalar" 626 196 2 336 632 true) ::
 (nat_lit 342,fO (st 15) "weaken_scalar" (.str "perlcore.counts" 478) 341 .none) ::
 (nat_lit 348,kO "bless_thing" "bless_thing" 635 203 2 343 640 true) ::
 (nat_lit 349,fO (st 16) "bless_thing" (.str "perlcore.counts" 478) 348 .none) ::
 (nat_lit 357,tO [.int 64 657, .int 50 658, .int 1000000 661, .int 100000 664, .int 10000 667]) ::
 (nat_lit 363,kO "__init__" "Limits.__init__" 668 208 6 358 677 true) ::
 (nat_lit 364,fO (sm 18 0) "Limits.__init__" (.str "perlcore.limits" 643) 363 (.ref 357)) ::
 (nat_lit 366,dO 4 [dE P "__module__" 652 (.str "perlcore.limits" 643),dE P "__firstlineno__" 656 (.int 206 655),dE P "__init__" 679 (.ref 364),dE P "__static_attributes__" 685 (.ref 365),dE P "__dict__" 687 (.ref 368),dE P "__weakref__" 689 (.ref 369),dE P "__doc__" 690 .none]) ::
 (nat_lit 367,cO "Limits" [.type "object"] [.ref 367, .type "object"] 366 [] (sl none (.str "Limits" 645) (.str "Limits" 653))) ::
 (nat_lit 375,kO "_law_degrees" "_law_degrees" 695 215 2 372 698 false) ::
 (nat_lit 376,fO (st 20) "_law_degrees" (.str "law_nz0184_01" 693) 375 .none) ::
 (nat_lit 380,kO "_law_settled" "_law_settled" 701 231 4 377 704 false) ::
 (nat_lit 381,fO (st 21) "_law_settled" (.str "law_nz0184_01" 693) 380 .none) ::
 (nat_lit 387,kO "_law_value" "_law_value" 707 250 1 382 711 true) ::
 (nat_lit 388,fO (st 22) "_law_value" (.str "law_nz0184_01" 693) 387 .none) ::
 (nat_lit 392,kO "_law_same" "_law_same" 714 254 3 389 717 false) ::
 (nat_lit 393,fO (st 23) "_law_same" (.str "law_nz0184_01" 693) 392 .none) ::
 (nat_lit 399,kO "_law_place" "_law_place" 720 272 3 394 730 true) ::
 (nat_lit 400,fO (st 24) "_law_place" (.str "law_nz0184_01" 693) 399 .none) ::
 (nat_lit 406,kO "_law_strong" "_law_strong" 733 283 1 401 737 true) ::
 (nat_lit 407,fO (st 25) "_law_strong" (.str "law_nz0184_01" 693) 406 .none) ::
 (nat_lit 413,kO "_law_new" "_law_new" 740 285 6 408 751 true) ::
 (nat_lit 414,fO (st 26) "_law_new" (.str "law_nz0184_01" 693) 413 .none) ::
 (nat_lit 418,kO "_law_put" "_law_put" 754 295 6 415 757 false) ::
 (nat_lit 419,fO (st 27) "_law_put" (.str "law_nz0184_01" 693) 418 .none) ::
 (nat_lit 425,kO "_law_taken" "_law_taken" 760 315 4 420 771 true) ::
 (nat_lit 426,fO (st 28) "_law_taken" (.str "law_nz0184_01" 693) 425 .none) ::
 (nat_lit 432,kO "_law_deed" "_law_deed" 774 325 5 427 787 true) ::
 (nat_lit 433,fO (st 29) "_law_deed" (.str "law_nz0184_01" 693) 432 .none) ::
 (nat_lit 437,kO "law" "law" 790 346 1 434 793 false) ::
 (nat_lit 438,fO (st 30) "law" (.str "law_nz0184_01" 693) 437 .none) :: []
noncomputable def goR (st:SharedT→Thread→Option (SharedT × Thread)) (ok:Thread→Bool) (n:Nat):SharedT→Thread→Option SharedT :=
 @Nat.rec (λ _=>SharedT→Thread→Option SharedT) (λ _ _=>none) (λ _ ih s t =>
  @Bool.rec (λ _=>Option SharedT) (@Bool.rec (λ _=>Option SharedT) none (@Option.rec (SharedT × Thread) (λ _=>Option SharedT) none (λ x=>ih x.1 x.2) (st s t)) (ok t)) (some s) (through t)) n
theorem ZT {p:Program} {w:World} {n₀:Nat} {ann:Option Value}: ∀ (n:Nat) (s:SharedT) (t:Thread) (s':SharedT),goR (stepT (denote treeTable) p w) (stepOk n₀ ann) n s t=some s'→topRun treeTable p w n₀ ann n s.abs t=some s'.abs
 | 0,_,_,_,h=>by cases h
 | n+1,s,t,s',h=>by
  have h: @Bool.rec (λ _=>Option SharedT) (@Bool.rec (λ _=>Option SharedT) none (@Option.rec (SharedT × Thread) (λ _=>Option SharedT) none (λ x=>goR (stepT (denote treeTable) p w) (stepOk n₀ ann) n x.1 x.2) (stepT (denote treeTable) p w s t)) (stepOk n₀ ann t)) (some s) (through t)=some s':=h
  unfold topRun
  revert h
  cases through t with
  | true=>exact λ h=>congrArg _ (congrArg _ (Option.some.inj h))
  | false =>
   cases stepOk n₀ ann t with
   | false=>intro h;cases h
   | true =>
    cases e:stepT (denote treeTable) p w s t with
    | none=>intro h;cases h
    | some x =>
     intro h
     obtain ⟨s₂,t₂⟩:=x
     show (match step (denote treeTable) p w s.abs t with | .go s' t'=>topRun treeTable p w n₀ ann n s' t' | .halt _ _=>none)=_
     rw [stepT_spec e]
     exact ZT n _ _ _ h
noncomputable def bld:List Obj→Nat→BT→BT
 | [],_,t=>t
 | o :: r,n,t=>bld r (n+1) (t.ins n o)
noncomputable def T0 (P:Params):BT:=bld (boot_heap P).objs.toList 0 .nil
theorem V4 {p q:Program} {loose:List Str} {Xt:Shared→Bool} {α β:Type} {Yf:Shared→α} {Ya:World→α} {N M:Nat} {st:World→SharedT→Thread→Option (SharedT × Thread)} {ok:Thread→Bool} {sn:Shared→β} {sg:β}
  (open_: ∀ w:World,(fencedOpening treeTable p w N).map (λ s=>(s.heap,s.gens,s.drawn,s.toks))=some (boot_heap w.params, #[],boot_drawn,boot_toks)) (le:Nat.ble M N=true)
  (hst: ∀ w,stepT (denote treeTable) p w=st w) (hok:stepOk 11 (some (.ref 6))=ok) (hsn: ∀ s,sn s=sg→openSeen q loose (importedModules p.main.body) Xt true s=openGood q loose)
  (h: ∀ w os,(goR (st w) ok M ⟨T0 w.params,11,(boot_heap w.params).life, #[],boot_drawn,boot_toks,os⟩ (topStub p)).map (λ s =>
   ((staticsOk (importedModules p.main.body) (boot_heap w.params) s.abs.heap && namesBound p s.abs.heap && gensDone s.abs && laidKept (boot_heap w.params) s.abs.heap),sn s.abs,Yf s.abs))=some (true,sg,Ya w)):LeftO p q loose Xt Yf Ya N:=λ w=>by
 obtain ⟨⟨hp,gs,d,k,os⟩,e,e'⟩:=Option.map_eq_some_iff.mp (open_ w)
 obtain ⟨rfl,rfl,rfl,rfl⟩:hp=boot_heap w.params∧gs= #[]∧d=boot_drawn∧k=boot_toks:=by simpa using e'
 obtain ⟨s,r,l⟩:=Option.map_eq_some_iff.mp (h w os)
 obtain ⟨l1,l2,l3⟩:_∧_∧_:=by simpa only [Prod.mk.injEq] using l
 rw [← hst,← hok] at r
 have r:=topRun_mono (N - M) _ _ _ _ (ZT _ _ _ _ r)
 rw [show M+(N - M)=N by have:=Nat.le_of_ble_eq_true le;lia] at r
 have t:topFrom treeTable p w N ⟨boot_heap w.params, #[],boot_drawn,boot_toks,os⟩=some s.abs:=by
  unfold topFrom
  rw [show ((⟨boot_heap w.params, #[],boot_drawn,boot_toks,os⟩:Shared).heap.isNs mainGlobals && (⟨boot_heap w.params, #[],boot_drawn,boot_toks,os⟩:Shared).gens.size == 0)=true from by kernel_rfl]
  show (Option.bind (topRun treeTable p w 11 ((boot_heap w.params).nsMap mainGlobals "__annotations__") N (SharedT.abs ⟨T0 w.params,11,(boot_heap w.params).life, #[],boot_drawn,boot_toks,os⟩) (topStub p)) _)=_
  rw [show (boot_heap w.params).nsMap mainGlobals "__annotations__" =some (.ref 6) from by kernel_rfl,r]
  show (match staticsOk (importedModules p.main.body) (boot_heap w.params) s.abs.heap && namesBound p s.abs.heap && gensDone s.abs && laidKept (boot_heap w.params) s.abs.heap with | true=>_ | false=>_)=_
  rw [l1]
 unfold openEnds
 rw [e]
 show (topFrom treeTable p w N _).map _=_
 rw [t]
 exact congrArg some (Prod.ext (hsn _ l2) l3)
noncomputable abbrev vw:Program:=view Challenge.pw_nz0184_01 [0,2,3,4,5,6,7,8,9,11,12,13,14,15,16,18,20,21,22,23,24,25,26,27,28,29,30]
theorem tops (w:World):(fencedOpening treeTable Challenge.pw_nz0184_01 w 7090).map (λ s=>(s.heap,s.gens,s.drawn,s.toks))=some (boot_heap w.params, #[],boot_drawn,boot_toks) :=
 boot_open (by kernel_rfl) (by decide) (λ _=>by kernel_rfl) w
noncomputable def cas:List Addr:=[2,3,34,35,37,38,55,56,58,59,74,75,77,78,93,94,96,97,112,113,115,116,131,132,134,135,145,151,152,154,155,172,173,179,180,186,187,193,194,200,201,217,218,226,227,233,234,238,239,252,253,259,260,266,267,273,274,280,281,285,286,292,293,299,300,306,307,313,314,320,321,327,328,330,331,341,342,348,349,357,363,364,366,367,375,376,380,381,387,388,392,393,399,400,406,407,413,414,418,419,425,426,432,433,437,438]
theorem Jc (P:Params):cas=(KK P).map (·.1):=by kernel_rfl
noncomputable abbrev hook:=kmHook KK cas Jc [435]
noncomputable abbrev stF (w:World):=PySem.W.Fast.tw10156331382660048174 (PySem.W.Fast.tw11892475500146522536 PySem.W.Fast.tw14364793385576792824) Challenge.pw_nz0184_01 w
noncomputable abbrev okF:=PySem.W.Fast.tw6613529449190102663 11 (some (.ref 6))
noncomputable abbrev xtF:Shared→Bool:=λ s=>xlAt vw [] s && recOk Challenge.rw_nz0184_01.row.toRowW.records s
noncomputable abbrev snF:=PySem.W.Fast.tw4187177175401517315 vw [Str.ofString "Limits"] (importedModules Challenge.pw_nz0184_01.main.body) xtF true
theorem run1 (w:World) (os:OsState):(goR (stF w) okF 4000 ⟨T0 w.params,11,(boot_heap w.params).life, #[],boot_drawn,boot_toks,os⟩ (topStub Challenge.pw_nz0184_01)).map (λ s =>
 ((staticsOk (importedModules Challenge.pw_nz0184_01.main.body) (boot_heap w.params) s.abs.heap && namesBound Challenge.pw_nz0184_01 s.abs.heap && gensDone s.abs && laidKept (boot_heap w.params) s.abs.heap),snF s.abs,hook.obs s.abs))=some (true,openGood vw [Str.ofString "Limits"],hook.val w):=by kernel_rfl
theorem hd2: ∀ w,stepT (denote treeTable) Challenge.pw_nz0184_01 w=stF w:=(λ w=>by rw [PySem.W.Fast.te10156331382660048174,PySem.W.Fast.te11892475500146522536,PySem.W.Fast.te14364793385576792824])
theorem hd3:stepOk 11 (some (.ref 6))=okF:=(by rw [PySem.W.Fast.te6613529449190102663])
theorem hd4: ∀ s,snF s=openGood vw [Str.ofString "Limits"]→openSeen vw [Str.ofString "Limits"] (importedModules Challenge.pw_nz0184_01.main.body) xtF true s=openGood vw [Str.ofString "Limits"]:=(λ s e=>by rw [PySem.W.Fast.te4187177175401517315];exact e)
theorem hd5:Nat.ble 4000 7090=true:=by decide
theorem left1:LeftO Challenge.pw_nz0184_01 vw [Str.ofString "Limits"] xtF hook.obs hook.val 7090 :=
 V4 (st:=stF) (ok:=okF) (sn:=snF) (Yf:=hook.obs) (Ya:=hook.val) (M:=4000) tops hd5 hd2 hd3 hd4 run1
theorem said1:Challenge.rw_nz0184_01.wellSaid=true:=by
 rw [PySem.W.Fast.te9446332074065402090]
 kernel_rfl
end Mine
end
noncomputable section
open PySem PySem.W PySem.Calls PyProof.Rows
namespace Mine
inductive F2 {α β:Type} (R:α→β→Prop):List α→List β→Prop
 | nil:F2 R [] []
 | cons {a b as bs}:R a b→F2 R as bs→F2 R (a :: as) (b :: bs)
namespace F2
variable {α β:Type} {R S:α→β→Prop}
theorem len {as:List α} {bs:List β} (h:F2 R as bs):as.length=bs.length:=by
 induction h with
 | nil=>rfl
 | cons _ _ ih=>simp [ih]
theorem mono (hm: ∀ a b,R a b→S a b) {as:List α} {bs:List β} (h:F2 R as bs):F2 S as bs:=by
 induction h with
 | nil=>exact .nil
 | cons h _ ih=>exact .cons (hm _ _ h) ih
theorem app {as as':List α} {bs bs':List β} (h:F2 R as bs) (h':F2 R as' bs'):F2 R (as ++ as') (bs ++ bs'):=by
 induction h with
 | nil=>exact h'
 | cons h _ ih=>exact .cons h ih
theorem at_ {as:List α} {bs:List β} (h:F2 R as bs): ∀ {i:Nat} {b:β},bs[i]? =some b→ ∃ a,as[i]? =some a∧R a b:=by
 induction h with
 | nil=>intro i b e;simp at e
 | @cons a b as bs hr _ ih =>
  intro i c e
  cases i with
  | zero=>simp at e;subst e;exact ⟨a,rfl,hr⟩
  | succ i=>simp at e;obtain ⟨x,h1,h2⟩:=ih e;exact ⟨x,by simpa using h1,h2⟩
theorem none_ {as:List α} {bs:List β} (h:F2 R as bs) {i:Nat} (e:bs[i]? =none):as[i]? =none:=by
 rw [List.getElem?_eq_none_iff] at *;rw [h.len];exact e
theorem set_ {as:List α} {bs:List β} (h:F2 R as bs) {a:α} {b:β} (hr:R a b): ∀ i,F2 R (as.set i a) (bs.set i b):=by
 induction h with
 | nil=>intro i;exact .nil
 | cons h1 h2 ih =>
  intro i
  cases i with
  | zero=>exact .cons hr h2
  | succ i=>exact .cons h1 (ih i)
theorem drop_ {as:List α} {bs:List β} (h:F2 R as bs): ∀ i,F2 R (as.drop i) (bs.drop i):=by
 induction h with
 | nil=>intro i;simp;exact .nil
 | cons h1 h2 ih =>
  intro i
  cases i with
  | zero=>exact .cons h1 h2
  | succ i=>exact ih i
theorem take_ {as:List α} {bs:List β} (h:F2 R as bs): ∀ i,F2 R (as.take i) (bs.take i):=by
 induction h with
 | nil=>intro i;simp;exact .nil
 | cons h1 h2 ih =>
  intro i
  cases i with
  | zero=>exact .nil
  | succ i=>exact .cons h1 (ih i)
end F2
theorem toNat_inj {c d:Char} (h:c.toNat=d.toNat):c=d:=Char.ext (UInt32.toNat_inj.mp h)
theorem wZ {a b:String} (h:Str.ofString a=Str.ofString b):a=b:=by
 rw [Str.ofString_eq_toList,Str.ofString_eq_toList] at h
 injection h with h
 have h':a.toList.map Char.toNat=b.toList.map Char.toNat:=by simpa using h
 have: ∀ {l m:List Char},l.map Char.toNat=m.map Char.toNat→l=m:=by
  intro l
  induction l with
  | nil=>intro m e;cases m <;> simp_all
  | cons c l ih =>
   intro m e
   cases m with
   | nil=>simp at e
   | cons d m=>simp at e;rw [toNat_inj e.1,ih (by simpa using e.2)]
 have e:=this h'
 exact String.toList_injective e
theorem w0 (a b:String):(Str.ofString a == Str.ofString b)=decide (a=b):=by
 by_cases h:a=b
 ·subst h;simp
 ·have: ¬ Str.ofString a=Str.ofString b:=λ e=>h (wZ e)
  simp [h,this]
abbrev Led:=List (Addr × Obj)
noncomputable def Cl.addr:Cl→Addr
 | .scalar=>59 | .array=>78 | .hash=>97 | .code=>116 | .glob=>135 | .ref=>155 | .heap=>218 | .counter=>331 | .limits=>367
inductive VR (fd:Option Addr) (adr:List Addr):Value→AV→Prop
 | none:VR fd adr .none .none
 | bool (b:Bool):VR fd adr (.bool b) (.bool b)
 | int (i:Int) (t:Tok):VR fd adr (.int i t) (.int i)
 | str (s:String) (t:Tok):VR fd adr (.str (Str.ofString s) t) (.str s)
 | obj {i:Nat} {a:Addr} (h:adr[i]? =some a):VR fd adr (.ref a) (.obj i)
 | dstr {f:Addr} (h:fd=some f):VR fd adr (.ref f) .dstr
theorem VR.mono {fd:Option Addr} {adr more:List Addr} {v:Value} {a:AV} (h:VR fd adr v a):VR fd (adr ++ more) v a:=by
 cases h with
 | obj h=>exact .obj (by rw [List.getElem?_append_left (by rw [List.getElem?_eq_some_iff] at h;exact h.1)];exact h)
 | dstr h=>exact .dstr h
 | _=>constructor
noncomputable def VR.form (fd:Option Addr) (adr:List Addr) (v:Value):AV→Prop
 | .none=> ∃ _:Unit,v= .none
 | .bool b=> ∃ _:Unit,v= .bool b
 | .int i=> ∃ t,v= .int i t
 | .str s=> ∃ t,v= .str (Str.ofString s) t
 | .obj i=> ∃ a,v= .ref a∧adr[i]? =some a
 | .dstr=> ∃ f,v= .ref f∧fd=some f
theorem VR.inv {fd:Option Addr} {adr:List Addr} {v:Value} {a:AV} (h:VR fd adr v a):VR.form fd adr v a:=by
 cases h with
 | none=>exact ⟨(),rfl⟩
 | bool b=>exact ⟨(),rfl⟩
 | int i t=>exact ⟨t,rfl⟩
 | str s t=>exact ⟨t,rfl⟩
 | obj h=>exact ⟨_,rfl,h⟩
 | dstr h=>exact ⟨_,rfl,h⟩
theorem VR.handed {fd:Option Addr} {adr:List Addr} {v:Value} {a:AV} (h:VR fd adr v a):handedIn v=true:=by cases h <;> rfl
theorem VR.pre {fd:Option Addr} {adr adr':List Addr} (p:adr <+: adr') {v:Value} {a:AV} (h:VR fd adr v a):VR fd adr' v a:=by
 obtain ⟨m,rfl⟩:=p;exact h.mono
noncomputable def FE (fd:Option Addr) (adr:List Addr) (e:DictEntry) (p:String × AV):Prop:=(∃ t,e.key= .str (Str.ofString p.1) t)∧VR fd adr e.val p.2
theorem XM {n:Str} {e:DictEntry} {es:List DictEntry} (hq:e.key.isStr n=false) (hr:e.refKey=false):getL n (e :: es)=getL n es:=by
 have h1:(e :: es).find? (λ x=>x.key.isStr n)=es.find? (λ x=>x.key.isStr n):=by simp [hq]
 have h2:(e :: es).any (λ x=>x.refKey)=es.any (λ x=>x.refKey):=by simp [hr]
 unfold getL
 rw [h1,h2]
theorem WW {n:Str} {e:DictEntry} {es:List DictEntry} (hq:e.key.isStr n=true):getL n (e :: es)=some (some e.val):=by
 have h1:(e :: es).find? (λ x=>x.key.isStr n)=some e:=by simp [hq]
 unfold getL
 rw [h1]
theorem uT {fd:Option Addr} {adr:List Addr} {es:List DictEntry} {fs:List (String × AV)} (h:F2 (FE fd adr) es fs) (f:String) :
  (∀ x,get f fs=some x→ ∃ v,getL (Str.ofString f) es=some (some v)∧VR fd adr v x)∧(get f fs=none→getL (Str.ofString f) es=some none):=by
 induction h with
 | nil=>exact ⟨λ x e=>(by cases e),λ _=>rfl⟩
 | @cons e p es fs h1 h2 ih =>
  obtain ⟨⟨t,hk⟩,hv⟩:=h1
  have hq:e.key.isStr (Str.ofString f)=decide (p.1=f):=by rw [hk];show (Str.ofString p.1 == Str.ofString f)=_;exact w0 _ _
  have hr:e.refKey=false:=by unfold DictEntry.refKey;rw [hk]
  rw [xb]
  by_cases hp:p.1=f
  ·rw [WW (by rw [hq];simp [hp])]
   simp only [hp,if_true]
   exact ⟨λ x ex=>⟨e.val,rfl,by cases ex;exact hv⟩,λ ex=>by cases ex⟩
  ·rw [XM (by rw [hq];simp [hp]) hr]
   simp only [hp,if_false]
   exact ih
theorem V5 {fd:Option Addr} {adr:List Addr} {es:List DictEntry} {fs:List (String × AV)} (h:F2 (FE fd adr) es fs) {f:String} {hsh:Int} {t:Tok} {v:Value} {x:AV} (hv:VR fd adr v x) :
  F2 (FE fd adr) (putL (Str.ofString f) hsh (.str (Str.ofString f) t) v es) (put f x fs):=by
 induction h with
 | nil=>exact .cons ⟨⟨t,rfl⟩,hv⟩ .nil
 | @cons e p es fs h1 h2 ih =>
  obtain ⟨⟨t',hk⟩,hv'⟩:=h1
  have hq:e.key.isStr (Str.ofString f)=decide (p.1=f):=by rw [hk];show (Str.ofString p.1 == Str.ofString f)=_;exact w0 _ _
  unfold putL;rw [wu]
  by_cases hp:p.1=f
  ·simp only [hq,hp,decide_true,if_true]
   exact .cons ⟨⟨t',by rw [← hp];exact hk⟩,hv⟩ h2
  ·simp only [hq,hp,decide_false,if_false]
   exact .cons ⟨⟨t',hk⟩,hv'⟩ ih
theorem put_len {κ:Type} [DecidableEq κ] (k:κ) (v:AV): ∀ es:List (κ × AV),(put k v es).length≤es.length+1
 | []=>Nat.succ_pos _
 | e :: r=>by
  rw [wu]
  split
  ·simp
  ·have:=put_len k v r;simp;omega
section
variable {κ:Type} [DecidableEq κ] {κ':Type} [DecidableEq κ'] {g:κ'→κ} {fd:Option Addr} {adr:List Addr}
noncomputable def PR (g:κ'→κ) (fd:Option Addr) (adr:List Addr) (e:κ × Value) (p:κ' × AV):Prop:=e.1=g p.1∧VR fd adr e.2 p.2
theorem v9 (hg: ∀ a b,g a=g b→a=b) {kvs:List (κ × Value)} {es:List (κ' × AV)} (h:F2 (PR g fd adr) kvs es) (k:κ') :
  (∀ x,get k es=some x→ ∃ v,valueAt kvs (g k)=some v∧VR fd adr v x)∧(get k es=none→valueAt kvs (g k)=none):=by
 induction h with
 | nil=>exact ⟨λ x e=>(by cases e),λ _=>rfl⟩
 | @cons e p kvs es h1 h2 ih =>
  obtain ⟨hk,hv⟩:=h1
  rw [xb];unfold valueAt
  by_cases hp:p.1=k
  ·have:e.1=g k:=by rw [hk,hp]
   simp only [hp,if_true]
   refine ⟨λ x ex=>⟨e.2,by simp [List.find?_cons,this],by cases ex;exact hv⟩,λ ex=>by cases ex⟩
  ·have: ¬ e.1=g k:=λ q=>hp (hg _ _ (hk ▸ q))
   simp only [hp,if_false]
   have go:valueAt kvs (g k)=((e :: kvs).find? λ kv=>kv.1=g k).map (·.2):=by unfold valueAt;simp [List.find?_cons,this]
   rw [← go]
   exact ih
set_option tactic.hygienic true in
theorem XN (hg: ∀ a b,g a=g b→a=b) {kvs:List (κ × Value)} {es:List (κ' × AV)} (h:F2 (PR g fd adr) kvs es) (k:κ') {v:Value} {x:AV} (hv:VR fd adr v x) (nd:(kvs.map (·.1)).Nodup) :
  F2 (PR g fd adr) (stored kvs (g k) v) (put k x es):=by
 induction h with
 | nil=>exact .cons ⟨rfl,hv⟩ .nil
 | @cons e p kvs es h1 h2 ih =>
  obtain ⟨hk,hv'⟩:=h1
  simp only [List.map_cons,List.nodup_cons] at nd
  rw [wu]
  by_cases hp:p.1=k
  ·have he:e.1=g k:=by rw [hk,hp]
   simp only [hp,if_true]
   have hno: ∀ q∈kvs,¬ q.1=g k:=λ q hq e'=>nd.1 (by rw [he,← e'];exact List.mem_map_of_mem hq)
   have hmap:kvs.map (λ kv=>if kv.1=g k then (kv.1,v) else kv)=kvs:=by
    conv=>rhs;rw [← List.map_id kvs]
    exact List.map_congr_left λ q hq=>by simp [hno q hq]
   unfold stored
   simp only [List.any_cons,he,decide_true,Bool.true_or,if_true,List.map_cons,hmap]
   exact .cons ⟨rfl,hv⟩ h2
  ·have he: ¬ e.1=g k:=λ q=>hp (hg _ _ (hk ▸ q))
   simp only [hp,if_false]
   have:=ih nd.2
   unfold stored at this ⊢
   simp only [List.any_cons,he,decide_false,Bool.false_or,List.map_cons,if_false]
   split
   ·rename_i q;rw [if_pos q] at this;exact .cons ⟨hk,hv'⟩ this
   ·rename_i q;rw [if_neg q] at this;exact .cons ⟨hk,hv'⟩ this
end
abbrev tupOf (its:Array Value) (n:Nat):Obj:= {cls:= .type "tuple",data:= .seq its n}
set_option genInjectivity false in
set_option genCtorIdx false in
structure Gd where
 prog:Program
 w:World
 K:Frag
 p:Program
 loose:List Str
 mean:ExcName→Option Value
 mg:Str→Option Value
 mb:Str→Option Value
 co:Led→(List Addr→Prop)→Option Addr→Prop
inductive CR (g:Gd) (fd:Option Addr) (adr:List Addr):Led→AO→Prop
 | inst {x dx:Addr} {es:List DictEntry} {n:Nat} {c:Cl} {fs:List (String × AV)}:F2 (FE fd adr) es fs→(∀ p∈fs,p.1∈c.fields)→fs.length≤100 →
   CR g fd adr [(x,instObj c.addr dx),(dx,dictOf es n)] (.inst c fs)
 | list {a:Addr} {vs:List Value} {n:Nat} {xs:List AV}:F2 (VR fd adr) vs xs→xs.length≤big→CR g fd adr [(a,listOf vs.toArray n)] (.list xs)
 | tup {a:Addr} {vs:List Value} {n:Nat} {xs:List AV}:F2 (VR fd adr) vs xs→xs.length≤big→CR g fd adr [(a,tupOf vs.toArray n)] (.tup xs)
 | dI {a:Addr} {o:Obj} {lk:Bool} {kvs:List (Int × Value)} {es:List (Int × AV)}:o.IsDictOf (PySem.intKind g.prog g.w) kvs→F2 (PR (id:Int→Int) fd adr) kvs es→(a == sysModules)=false→es.length≤big →
   CR g fd adr [(a,o)] (.dI lk es)
 | dS {a:Addr} {o:Obj} {lk:Bool} {kvs:List (Str × Value)} {es:List (String × AV)}:o.IsDictOf (PySem.strKind g.prog g.w) kvs→F2 (PR Str.ofString fd adr) kvs es→(a == sysModules)=false→es.length≤big →
   CR g fd adr [(a,o)] (.dS lk es)
noncomputable def hd1:Led→Addr
 | []=>0
 | e :: _=>e.1
theorem FE.pre {fd:Option Addr} {adr adr':List Addr} (p:adr <+: adr') {e:DictEntry} {q:String × AV} (h:FE fd adr e q):FE fd adr' e q:=⟨h.1,h.2.pre p⟩
theorem PR.pre {κ κ':Type} {g:κ'→κ} {fd:Option Addr} {adr adr':List Addr} (p:adr <+: adr') {e:κ × Value} {q:κ' × AV} (h:PR g fd adr e q):PR g fd adr' e q:=⟨h.1,h.2.pre p⟩
theorem CR.pre {g:Gd} {fd:Option Addr} {adr adr':List Addr} (p:adr <+: adr') {c:Led} {o:AO} (h:CR g fd adr c o):CR g fd adr' c o:=by
 cases h with
 | inst h1 h2 h3=>exact .inst (h1.mono λ _ _=>FE.pre p) h2 h3
 | list h1 h2=>exact .list (h1.mono λ _ _=>VR.pre p) h2
 | tup h1 h2=>exact .tup (h1.mono λ _ _=>VR.pre p) h2
 | dI h1 h2 h3 h4=>exact .dI h1 (h2.mono λ _ _=>PR.pre p) h3 h4
 | dS h1 h2 h3 h4=>exact .dS h1 (h2.mono λ _ _=>PR.pre p) h3 h4
set_option genInjectivity false in
set_option genCtorIdx false in
structure Cx where
 A:Around
 env:Env
 fenv:Env
 outer:List Env
 A₀:Around
 base:Heap
 h₀:Heap
 L:Addr
 fd:Option Addr
 s0:Shared
 need:Led
 fact:List Addr→Prop
 lks:List (Nat × Led)
 fz:Bool
 km:Option (Str→Option Value)
abbrev Cx.wl (x:Cx) (k:Nat) (c:Led):Cx:= {x with need:=x.need,lks:=(k,c) :: x.lks}
abbrev Cx.wn (x:Cx) (n:Led):Cx:= {x with need:=n}
set_option genInjectivity false in
set_option genCtorIdx false in
structure Cx.Ok (g:Gd) (d:Nat) (x:Cx):Prop where
 below:Below x.A₀ x.base x.outer x.h₀
 kin:g.K.In x.h₀
 top:Top g.p g.loose g.mean g.mg g.mb x.h₀
 frames:x.A.frames=some (x.fenv :: x.outer)
 hnd:x.A.handled=none
 fL:x.fenv.frame=some x.L
 floc:x.fenv.locals=x.L
 fk:x.fenv.scope.kind= .function
 eg:x.env.globals=mainGlobals
 ek:x.env.scope.kind= .function
 eb:x.env.builtins=builtinsNs
 ef:x.env.frame=some x.L
 nd:(x.env.scope.names.map (·.1)).Nodup
 dep:x.A.depth+d < recursionLimit
 un:x.A.units+16 * d+100 < cLine
 mono: ∀ adr adr',adr <+: adr'→x.fact adr→x.fact adr'
 kn:x.env=x.fenv→x.km=none
 ci: ∀ n n' c,x.env.scope.names.lookup n'=some .cell→x.env.cells.lookup n=some c→x.env.cells.lookup n'=some c→n=n'
 cs: ∀ n,x.env.scope.names.lookup n=some .cell→ ∃ c,x.env.cells.lookup n=some c
 co:g.co x.need x.fact x.fd
 cz:x.fz=false→ ∀ p∈x.need,∀ n c,x.env.scope.names.lookup n=some .cell→x.env.cells.lookup n=some c→p.1≠c
inductive VarV (x:Cx) (m:Str→Option Value) (pl:Led) (n:Str):NameKind→Value→Prop
 | loc {v:Value}:x.env.locals=x.L→m n=some v→VarV x m pl n .local v
 | cloc {v:Value} {o:Obj} {es:Array DictEntry} {ep:Nat}:(x.env.locals,o)∈pl→o.data= .dict es ep→StrKeys es→nsFind es n=some v→VarV x m pl n .local v
 | cell {v:Value} {c:Addr} {o:Obj}:x.env.cells.lookup n=some c→(x.h₀.get? c=some o∨(c,o)∈pl)→o.data= .cell (some v)→VarV x m pl n .cell v
 | free {v:Value} {c:Addr} {o:Obj}:x.env.cells.lookup n=some c→(x.h₀.get? c=some o∨(c,o)∈pl)→o.data= .cell (some v)→VarV x m pl n .free v
noncomputable def Vars (x:Cx) (adr:List Addr) (m:Str→Option Value) (pl:Led) (Γ:Cx0):Prop :=
 ∀ (i:Nat) (av:AV),Γ[i]? =some (some av)→ ∃ n k v,x.env.scope.names[i]? =some (n,k)∧VarV x m pl n k v∧VR x.fd adr v av
structure StE (g:Gd) (x:Cx) (Γ:Cx0) (μ:Mem) (adr:List Addr) (s:Shared) (cs:List Led) (pl:Led) (m:Str→Option Value):Prop where
 F:Fr x.h₀ x.L s.heap m
 N:News x.h₀ x.L s.heap (cs.flatten ++ pl)
 nd:((cs.flatten ++ pl).map (·.1)).Nodup
 ha:cs.map hd1=adr
 C:F2 (CR g x.fd adr) cs μ
 V:Vars x adr m pl Γ
 gens:s.gens=x.s0.gens
 drawn:s.drawn=x.s0.drawn
 os:s.os=x.s0.os
 ex: ∀ p∈x.need,x.h₀.get? p.1=some p.2∨p∈pl
 fa:x.fact adr
 lk: ∀ p∈x.lks,cs[p.1]? =some p.2∧ ∃ o,μ[p.1]? =some o∧o.locked=true
 cl: ∀ n c,x.env.scope.names.lookup n=some .cell→x.env.cells.lookup n=some c→ ∃ o v₀,(c,o)∈pl∧o.data= .cell v₀
 km: ∀ m₀,x.km=some m₀→m=m₀
inductive St (g:Gd) (x:Cx) (Γ:Cx0) (μ:Mem) (adr:List Addr) (s:Shared):Prop
 | mk (cs:List Led) (pl:Led) (m:Str→Option Value) (Z:StE g x Γ μ adr s cs pl m):St g x Γ μ adr s
abbrev nof:Value→Shared→Prop:=λ _ _=>False
inductive Aft (g:Gd) (x:Cx) (Γ':Cx0) {α β:Type} (R:List Addr→α→β→Prop) (b:β) (μ':Mem) (adr:List Addr) (a:α) (s':Shared):Prop
 | mk (adr':List Addr) (p:adr <+: adr') (S:St g x Γ' μ' adr' s') (r:R adr' a b):Aft g x Γ' R b μ' adr a s'
noncomputable def Does (g:Gd) (x:Cx) (Γ':Cx0) {α β:Type} (R:List Addr→α→β→Prop) (t:Sem α) (m:M β) (μ:Mem) (adr:List Addr) (s:Shared):Prop :=
 ∀ b μ',m μ=some (b,μ')→wpAny (model g.prog g.w) x.A t (Aft g x Γ' R b μ' adr) nof s
noncomputable def Sim (g:Gd) (x:Cx) (Γ Γ':Cx0) {α β:Type} (R:List Addr→α→β→Prop) (t:Sem α) (m:M β):Prop :=
 ∀ μ adr s,St g x Γ μ adr s→Does g x Γ' R t m μ adr s
noncomputable def RE (g:Gd) (fr:Bool) (d:Nat) (sc:Scope) (Γ:Cx0) (e:Expr) (m:M AV):Prop :=
 ∀ x:Cx,x.Ok g d→x.env.scope=sc→(fr=true→x.env=x.fenv)→Sim g x Γ Γ (VR x.fd) (eval e x.env) m
noncomputable def RC (g:Gd) (fr:Bool) (d:Nat) (sc:Scope) (Γ:Cx0) (e:Expr) (m:M Bool):Prop :=
 ∀ x:Cx,x.Ok g d→x.env.scope=sc→(fr=true→x.env=x.fenv)→Sim g x Γ Γ (λ _ a b=>a=b) (isTrue e x.env (eval e x.env)) m
section
variable {g:Gd} {x:Cx} {Γ Γ' Γ'':Cx0}
inductive Bds {α β:Type} (m:M α) (f:α→M β) (μ:Mem) (b:β) (μ':Mem):Prop
 | mk (a:α) (μ₁:Mem) (e1:m μ=some (a,μ₁)) (e2:f a μ₁=some (b,μ')):Bds m f μ b μ'
theorem bd_some {α β:Type} {m:M α} {f:α→M β} {μ:Mem} {b:β} {μ':Mem} (h:bd m f μ=some (b,μ')):Bds m f μ b μ':=by
 unfold bd at h
 split at h
 ·exact ⟨_,_,by assumption,h⟩
 ·exact za h
theorem Does.via {α α' β β':Type} {R:List Addr→α→β→Prop} {R':List Addr→α'→β'→Prop} {t:Sem α} {T:Sem α'} {f:α→Sem α'} {m:M β} {k:β→M β'} {μ:Mem} {adr:List Addr} {s:Shared}
  (h:Does g x Γ' R t m μ adr s) (rule: ∀ Q:α'→Shared→Prop,wpAny (model g.prog g.w) x.A t (λ a s₁=>wpAny (model g.prog g.w) x.A (f a) Q nof s₁) nof s→wpAny (model g.prog g.w) x.A T Q nof s)
  (hk: ∀ a b μ adr s,St g x Γ' μ adr s→R adr a b→Does g x Γ'' R' (f a) (k b) μ adr s):Does g x Γ'' R' T (bd m k) μ adr s:=by
 intro b' μ' e
 obtain ⟨b,μ₁,e1,e2⟩:=bd_some e
 refine rule _ (wpAny_mono (h b μ₁ e1) (λ a s₁ z=> ?_) λ _ _ z=>z)
 obtain ⟨adr₁,p1,S1,r⟩:=z
 refine wpAny_mono (hk a b μ₁ adr₁ s₁ S1 r b' μ' e2) (λ a' s' z=> ?_) λ _ _ z=>z
 obtain ⟨adr₂,p2,S2,r2⟩:=z
 exact ⟨adr₂,p1.trans p2,S2,r2⟩
theorem Does.same {α β:Type} {R:List Addr→α→β→Prop} {t T:Sem α} {m:M β} {μ:Mem} {adr:List Addr} {s:Shared}
  (h:Does g x Γ' R t m μ adr s) (rule: ∀ Q:α→Shared→Prop,wpAny (model g.prog g.w) x.A t Q nof s→wpAny (model g.prog g.w) x.A T Q nof s):Does g x Γ' R T m μ adr s :=
 λ b' μ' e=>rule _ (h b' μ' e)
theorem Does.rt {α β:Type} {R:List Addr→α→β→Prop} {t:Sem α} {b:β} {μ:Mem} {adr:List Addr} {s:Shared}
  (h: ∀ Q:α→Shared→Prop,(∀ a tk,R adr a b→Q a {s with toks:=tk})→wpAny (model g.prog g.w) x.A t Q nof s) (S:St g x Γ μ adr s):Does g x Γ R t (rt b) μ adr s:=by
 intro b' μ' e
 obtain ⟨rfl,rfl⟩:=some2 e
 exact h _ λ a tk r=>⟨adr,List.prefix_refl _,let ⟨cs,pl,m,z⟩:=S;⟨cs,pl,m,⟨z.F,z.N,z.nd,z.ha,z.C,z.V,z.gens,z.drawn,z.os,z.ex,z.fa,z.lk,z.cl,z.km⟩⟩,r⟩
theorem Vars.pre {adr adr':List Addr} {m:Str→Option Value} {pl:Led} (h:Vars x adr m pl Γ) (p:adr <+: adr'):Vars x adr' m pl Γ:=λ i av e =>
 let ⟨n,k,v,a,b,c⟩:=h i av e
 ⟨n,k,v,a,b,c.pre p⟩
theorem StE.toks {μ:Mem} {adr:List Addr} {s:Shared} {cs:List Led} {pl:Led} {m:Str→Option Value} {t:Tok} (S:StE g x Γ μ adr s cs pl m):StE g x Γ μ adr {s with toks:=t} cs pl m :=
 ⟨S.F,S.N,S.nd,S.ha,S.C,S.V,S.gens,S.drawn,S.os,S.ex,S.fa,S.lk,S.cl,S.km⟩
theorem St.toks {μ:Mem} {adr:List Addr} {s:Shared} {t:Tok} (S:St g x Γ μ adr s):St g x Γ μ adr {s with toks:=t} :=
 let ⟨cs,pl,m,z⟩:=S;⟨cs,pl,m,z.toks⟩
theorem ym {cs:List Led} {c:Led} {e:Addr × Obj} {i:Nat} (h:cs[i]? =some c) (he:e∈c) {pl:Led}:e∈cs.flatten ++ pl :=
 List.mem_append_left _ (List.mem_flatten.mpr ⟨c,List.mem_of_getElem? h,he⟩)
noncomputable def CR.form (g:Gd) (fd:Option Addr) (adr:List Addr) (ch:Led):AO→Prop
 | .inst c fs=> ∃ x dx es n,ch=[(x,instObj c.addr dx),(dx,dictOf es n)]∧F2 (FE fd adr) es fs∧(∀ p∈fs,p.1∈c.fields)∧fs.length≤100
 | .list xs=> ∃ a vs n,ch=[(a,listOf vs.toArray n)]∧F2 (VR fd adr) vs xs∧xs.length≤big
 | .tup xs=> ∃ a vs n,ch=[(a,tupOf vs.toArray n)]∧F2 (VR fd adr) vs xs∧xs.length≤big
 | .dI _ es=> ∃ a o kvs,ch=[(a,o)]∧o.IsDictOf (PySem.intKind g.prog g.w) kvs∧F2 (PR (id:Int→Int) fd adr) kvs es∧(a == sysModules)=false∧es.length≤big
 | .dS _ es=> ∃ a o kvs,ch=[(a,o)]∧o.IsDictOf (PySem.strKind g.prog g.w) kvs∧F2 (PR Str.ofString fd adr) kvs es∧(a == sysModules)=false∧es.length≤big
theorem CR.inv {g:Gd} {fd:Option Addr} {adr:List Addr} {ch:Led} {o:AO} (h:CR g fd adr ch o):CR.form g fd adr ch o:=by
 cases h with
 | inst h1 h2 h3=>exact ⟨_,_,_,_,rfl,h1,h2,h3⟩
 | list h1 h2=>exact ⟨_,_,_,rfl,h1,h2⟩
 | tup h1 h2=>exact ⟨_,_,_,rfl,h1,h2⟩
 | dI h1 h2 h3 h4=>exact ⟨_,_,_,rfl,h1,h2,h3,h4⟩
 | dS h1 h2 h3 h4=>exact ⟨_,_,_,rfl,h1,h2,h3,h4⟩
theorem StE.chunk {μ:Mem} {adr:List Addr} {s:Shared} {cs:List Led} {pl:Led} {m:Str→Option Value} (S:StE g x Γ μ adr s cs pl m) {i:Nat} {o:AO} (e:μ[i]? =some o) :
  ∃ c,cs[i]? =some c∧CR g x.fd adr c o:=S.C.at_ e
theorem StE.adr_of {μ:Mem} {adr:List Addr} {s:Shared} {cs:List Led} {pl:Led} {m:Str→Option Value} (S:StE g x Γ μ adr s cs pl m) {i:Nat} {c:Led} {a:Addr} (e:cs[i]? =some c) (h:adr[i]? =some a):hd1 c=a:=by
 rw [← S.ha,List.getElem?_map,e] at h;exact Option.some.inj h
section
variable {μ:Mem} {adr:List Addr} {s:Shared} {cs:List Led} {pl:Led} {m:Str→Option Value} {v:Value} {i:Nat}
inductive AtC (g:Gd) (x:Cx) (adr:List Addr) (cs:List Led) (i:Nat) (v:Value) (o:AO):Prop
 | mk (ch:Led) (ev:v= .ref (hd1 ch)) (hc:cs[i]? =some ch) (hr:CR g x.fd adr ch o)
theorem StE.atC (S:StE g x Γ μ adr s cs pl m) (r:VR x.fd adr v (.obj i)) {o:AO} (h:μ[i]? =some o):AtC g x adr cs i v o:=by
 cases r with
 | obj had =>
  obtain ⟨ch,hc,hr⟩:=S.chunk h
  exact ⟨ch,by rw [S.adr_of hc had],hc,hr⟩
inductive AtL (x:Cx) (adr:List Addr) (cs:List Led) (i:Nat) (v:Value) (xs:List AV):Prop
 | mk (ad:Addr) (vs:List Value) (n:Nat) (ev:v= .ref ad) (hc:cs[i]? =some [(ad,listOf vs.toArray n)]) (q1:F2 (VR x.fd adr) vs xs) (q2:xs.length≤big)
theorem StE.atL (S:StE g x Γ μ adr s cs pl m) (r:VR x.fd adr v (.obj i)) {xs:List AV} (h:μ[i]? =some (.list xs)):AtL x adr cs i v xs:=by
 refine hideP λ PZ hZ=> ?_
 obtain ⟨ch,ev,hc,hr⟩:=S.atC r h
 obtain ⟨_,vs,n,rfl,q1,q2⟩:=hr.inv
 refine hZ ?_
 exact ⟨_,_,_,ev,hc,q1,q2⟩
inductive AtT (x:Cx) (adr:List Addr) (cs:List Led) (i:Nat) (v:Value) (xs:List AV):Prop
 | mk (ad:Addr) (vs:List Value) (n:Nat) (ev:v= .ref ad) (hc:cs[i]? =some [(ad,tupOf vs.toArray n)]) (q1:F2 (VR x.fd adr) vs xs) (q2:xs.length≤big)
theorem StE.atT (S:StE g x Γ μ adr s cs pl m) (r:VR x.fd adr v (.obj i)) {xs:List AV} (h:μ[i]? =some (.tup xs)):AtT x adr cs i v xs:=by
 refine hideP λ PZ hZ=> ?_
 obtain ⟨ch,ev,hc,hr⟩:=S.atC r h
 obtain ⟨_,vs,n,rfl,q1,q2⟩:=hr.inv
 refine hZ ?_
 exact ⟨_,_,_,ev,hc,q1,q2⟩
inductive AtO (x:Cx) (adr:List Addr) (cs:List Led) (i:Nat) (v:Value) (c:Cl) (fs:List (String × AV)):Prop
 | mk (ad dx:Addr) (es:List DictEntry) (n:Nat) (ev:v= .ref ad) (hc:cs[i]? =some [(ad,instObj c.addr dx),(dx,dictOf es n)]) (h1:F2 (FE x.fd adr) es fs) (h2: ∀ p∈fs,p.1∈c.fields) (h3:fs.length≤100)
theorem StE.atO (S:StE g x Γ μ adr s cs pl m) (r:VR x.fd adr v (.obj i)) {c:Cl} {fs:List (String × AV)} (h:μ[i]? =some (.inst c fs)):AtO x adr cs i v c fs:=by
 refine hideP λ PZ hZ=> ?_
 obtain ⟨ch,ev,hc,hr⟩:=S.atC r h
 obtain ⟨_,_,_,_,rfl,q1,q2,q3⟩:=hr.inv
 refine hZ ?_
 exact ⟨_,_,_,_,ev,hc,q1,q2,q3⟩
inductive AtD (x:Cx) (adr:List Addr) (cs:List Led) (i:Nat) (v:Value) {κ κ':Type} [DecidableEq κ] (gk:κ'→κ) (knd:KeyKind g.prog g.w κ) (es:List (κ' × AV)):Prop
 | mk (ad:Addr) (o:Obj) (kvs:List (κ × Value)) (ev:v= .ref ad) (hc:cs[i]? =some [(ad,o)]) (q1:o.IsDictOf knd kvs) (q2:F2 (PR gk x.fd adr) kvs es) (q3:(ad == sysModules)=false) (q4:es.length≤big)
theorem StE.atI (S:StE g x Γ μ adr s cs pl m) (r:VR x.fd adr v (.obj i)) {lk:Bool} {es:List (Int × AV)} (h:μ[i]? =some (.dI lk es)):AtD x adr cs i v (id:Int→Int) (PySem.intKind g.prog g.w) es:=by
 refine hideP λ PZ hZ=> ?_
 obtain ⟨ch,ev,hc,hr⟩:=S.atC r h
 obtain ⟨_,_,_,rfl,q1,q2,q3,q4⟩:=hr.inv
 refine hZ ?_
 exact ⟨_,_,_,ev,hc,q1,q2,q3,q4⟩
theorem StE.atS (S:StE g x Γ μ adr s cs pl m) (r:VR x.fd adr v (.obj i)) {lk:Bool} {es:List (String × AV)} (h:μ[i]? =some (.dS lk es)):AtD x adr cs i v Str.ofString (PySem.strKind g.prog g.w) es:=by
 refine hideP λ PZ hZ=> ?_
 obtain ⟨ch,ev,hc,hr⟩:=S.atC r h
 obtain ⟨_,_,_,rfl,q1,q2,q3,q4⟩:=hr.inv
 refine hZ ?_
 exact ⟨_,_,_,ev,hc,q1,q2,q3,q4⟩
end
theorem ua {cs:List Led} {c:Led} {i:Nat} (h:cs[i]? =some c):cs=cs.take i ++ c :: cs.drop (i+1):=by
 have hi:i < cs.length:=(List.getElem?_eq_some_iff.mp h).1
 have hc:cs[i]=c:=(List.getElem?_eq_some_iff.mp h).2
 conv=>lhs;rw [← List.take_append_drop i cs]
 rw [List.drop_eq_getElem_cons hi,hc]
theorem vq {cs:List Led} {c c':Led} {i:Nat} (h:cs[i]? =some c):cs.set i c'=cs.take i ++ c' :: cs.drop (i+1):=by
 have hi:i < cs.length:=(List.getElem?_eq_some_iff.mp h).1
 rw [List.set_eq_take_append_cons_drop,if_pos hi]
theorem j7 {l₁ l₂:Led} {d:Addr} {o o':Obj} (nd:((l₁ ++ (d,o) :: l₂).map (·.1)).Nodup):Upd d o o' (l₁ ++ (d,o) :: l₂) (l₁ ++ (d,o') :: l₂):=by
 induction l₁ with
 | nil =>
  simp only [List.nil_append,List.map_cons,List.nodup_cons] at nd
  exact .head λ p hp q=>nd.1 (q ▸ List.mem_map_of_mem hp)
 | cons p l ih =>
  simp only [List.cons_append,List.map_cons,List.nodup_cons] at nd
  refine .tail (λ q=>nd.1 ?_) (ih nd.2)
  rw [q];simp
theorem ZU {l₁ l₂:Led} {d:Addr} {o:Obj} (nd:((l₁ ++ (d,o) :: l₂).map (·.1)).Nodup):UpdF d o (l₁ ++ (d,o) :: l₂) (λ o'=>l₁ ++ (d,o') :: l₂):=by
 induction l₁ with
 | nil =>
  simp only [List.nil_append,List.map_cons,List.nodup_cons] at nd
  exact .head λ p hp q=>nd.1 (q ▸ List.mem_map_of_mem hp)
 | cons p l ih =>
  simp only [List.cons_append,List.map_cons,List.nodup_cons] at nd
  refine .tail (λ q=>nd.1 ?_) (ih nd.2)
  rw [q];simp
theorem StE.put {μ:Mem} {adr:List Addr} {s s':Shared} {cs:List Led} {pl:Led} {m:Str→Option Value} (S:StE g x Γ μ adr s cs pl m) {i:Nat} {c c':Led} {o':AO}
  (e:cs[i]? =some c) (hu: ∀ o,μ[i]? =some o→o.locked=false) (hk:c'.map (·.1)=c.map (·.1)) (hc:CR g x.fd adr c' o') (F:Fr x.h₀ x.L s'.heap m) (N:News x.h₀ x.L s'.heap ((cs.set i c').flatten ++ pl))
  (h1:s'.gens=s.gens:=by rfl) (h2:s'.drawn=s.drawn:=by rfl) (h3:s'.os=s.os:=by rfl):StE g x Γ (μ.set i o') adr s' (cs.set i c') pl m:=by
 have keys:((cs.set i c').flatten ++ pl).map (·.1)=(cs.flatten ++ pl).map (·.1):=by
  rw [vq e]
  conv=>rhs;rw [ua e]
  simp [hk]
 have hd:hd1 c'=hd1 c:=by
  cases c' <;> cases c <;> simp_all [hd1]
 refine ⟨F,N,by rw [keys];exact S.nd,?_,S.C.set_ hc i,S.V,h1.trans S.gens,h2.trans S.drawn,h3.trans S.os,S.ex,S.fa,λ p hp=> ?_,S.cl,S.km⟩
 rotate_left
 ·obtain ⟨a1,o,a2,a3⟩:=S.lk p hp
  have hne:i≠p.1:=λ q=>by rw [hu o (q ▸ a2)] at a3;cases a3
  exact ⟨by rw [List.getElem?_set_ne hne];exact a1,o,by rw [List.getElem?_set_ne hne];exact a2,a3⟩
 rw [← S.ha,vq e]
 conv=>rhs;rw [ua e]
 simp [hd]
theorem StE.new {μ:Mem} {adr:List Addr} {s s':Shared} {cs:List Led} {pl:Led} {m:Str→Option Value} (S:StE g x Γ μ adr s cs pl m) (ok: ∀ adr',adr <+: adr'→x.fact adr→x.fact adr') {c:Led} {o:AO}
  (hc:CR g x.fd (adr ++ [hd1 c]) c o) (F:Fr x.h₀ x.L s'.heap m) (N:News x.h₀ x.L s'.heap (c ++ (cs.flatten ++ pl))) (nd:(c.map (·.1)).Nodup) (fresh: ∀ p∈c,∀ q∈cs.flatten ++ pl,q.1≠p.1)
  (h1:s'.gens=s.gens:=by rfl) (h2:s'.drawn=s.drawn:=by rfl) (h3:s'.os=s.os:=by rfl) :
  StE g x Γ (μ ++ [o]) (adr ++ [hd1 c]) s' (cs ++ [c]) pl m:=by
 have pre:adr <+: adr ++ [hd1 c]:=⟨_,rfl⟩
 refine ⟨F,?_,?_,by simp [S.ha],(S.C.mono λ _ _=>CR.pre pre).app (.cons hc .nil),S.V.pre pre,h1.trans S.gens,h2.trans S.drawn,h3.trans S.os,S.ex,ok _ pre S.fa,λ p hp=> ?_,S.cl,S.km⟩
 rotate_left 2
 ·obtain ⟨a1,o,a2,a3⟩:=S.lk p hp
  have l1:=(List.getElem?_eq_some_iff.mp a1).1
  have l2:=(List.getElem?_eq_some_iff.mp a2).1
  exact ⟨by rw [List.getElem?_append_left l1];exact a1,o,by rw [List.getElem?_append_left l2];exact a2,a3⟩
 ·intro p hp
  refine N p ?_
  simp only [List.flatten_append,List.flatten_cons,List.flatten_nil,List.append_nil,List.append_assoc,List.mem_append] at hp ⊢
  rcases hp with h | h | h
  ·exact .inr (.inl h)
  ·exact .inl h
  ·exact .inr (.inr h)
 ·have z:((c ++ (cs.flatten ++ pl)).map (·.1)).Nodup:=by
   rw [List.map_append,List.nodup_append]
   refine ⟨nd,S.nd,λ a ha b hb=> ?_⟩
   obtain ⟨p,hp,rfl⟩:=List.mem_map.mp ha
   obtain ⟨q,hq,rfl⟩:=List.mem_map.mp hb
   exact λ e=>fresh p hp q hq e.symm
  have pm:((cs ++ [c]).flatten ++ pl).Perm (c ++ (cs.flatten ++ pl)):=by
   simp only [List.flatten_append,List.flatten_cons,List.flatten_nil,List.append_nil,List.append_assoc]
   exact (List.perm_append_comm_assoc _ _ _)
  exact (pm.map (·.1)).nodup_iff.mpr z
end
structure Facts (g:Gd):Prop where
 com: ∀ n n' f fd,(∀ p∈n,p∈n')→g.co n f fd→g.co n' f fd
 pg: ∀ c:Cl,∀ f∈c.fields,plainGet g.K c.addr (Str.ofString f)=true∧hasDictIn g.K c.addr=true∧ ∃ at_,findIn g.K (.ref c.addr) (Str.ofString f)=some at_∧noGet g.K at_=true
 ps: ∀ c:Cl,∀ f∈c.fields,findIn g.K (.ref c.addr) "__setattr__" =some (some (.builtin "object.__setattr__"))∧plainOver g.K c.addr=true∧takerIn g.K c.addr (Str.ofString f)=some none
 ki: ∀ c e:Cl,kitOne g.K (.ref c.addr) (.ref e.addr)=some (decide (c=e))
 kn: ∀ e:Cl,kitOne g.K (.type "NoneType") (.ref e.addr)=some false
 kj: ∀ e:Cl,kitOne g.K (.type "int") (.ref e.addr)=some false
 tn:kitOne g.K (.type "NoneType") (.type "tuple")=some false
 tj:kitOne g.K (.type "int") (.type "tuple")=some false
 tl:kitOne g.K (.type "list") (.type "tuple")=some false
 tt:kitOne g.K (.type "tuple") (.type "tuple")=some true
 kc: ∀ c:Cl,plainGet g.K c.addr "__class__" =true∧findIn g.K (.ref c.addr) "__class__" =some (some (.builtin "object.__class__"))∧mroIn g.K c.addr (.type "object")=some true
 kd: ∀ c:Cl,hasDictIn g.K c.addr=true
 kg:specialIn g.K (.builtin "object.__class__") "__get__" =some (some (.builtin "getset_descriptor.__get__"))
 kk:takesIn g.K (.builtin "object.__class__")=some true
section
variable {g:Gd} {x:Cx} {d:Nat} {sc:Scope} {fr:Bool} {Γ' Γ:Cx0}
theorem yU {names:List (Str × NameKind)} (nd:(names.map (·.1)).Nodup) {i:Nat} {n:Str} {k:NameKind} (h:names[i]? =some (n,k)):names.lookup n=some k:=by
 induction names generalizing i with
 | nil=>simp at h
 | cons p r ih =>
  obtain ⟨n',k'⟩:=p
  simp only [List.map_cons,List.nodup_cons] at nd
  cases i with
  | zero=>simp at h;obtain ⟨rfl,rfl⟩:=h;simp [List.lookup_cons]
  | succ i =>
   simp at h
   have hm:(n,k)∈r:=List.mem_of_getElem? h
   have hne:(n == n')=false:=beq_eq_false_iff_ne.mpr λ e=>nd.1 (e ▸ List.mem_map_of_mem hm)
   rw [List.lookup_cons,hne]
   exact ih nd.2 h
theorem VarV.load {m:Str→Option Value} {pl:Led} {n:Str} {k:NameKind} {v:Value} {μ:Mem} {adr:List Addr} {s:Shared} {cs:List Led} (hx:x.Ok g d) (h:VarV x m pl n k v) (S:StE g x Γ μ adr s cs pl m)
  (hk:x.env.kindOf n=some k) (hd:(n == ("__debug__" :Str))=false) (hn:(n == ("__classdict__" :Str))=false) {p:Pos} {Q:Value→Shared→Prop} (hq:Q v s) :
  wpAny (model g.prog g.w) x.A (eval (.Name n p) x.env) Q nof s:=by
 refine wpAny_Name ?_ hd
 cases h with
 | loc h1 h2=>exact wpAny_loadName_local hx.ek hk (h1 ▸ S.F.ns) h2 hq
 | @cloc _ o es ep h1 h2 h3 h4=>exact wpAny_loadName_local hx.ek hk (m:=nsFind es) ⟨o,es,ep,(S.N _ (List.mem_append_right _ h1)).1,h2,h3,λ _=>rfl⟩ h4 hq
 | @cell _ c o h1 h2 h3=>exact wpAny_loadName_cell hx.ek hk h1 ⟨o,h2.elim (λ e=>S.F.keep _ _ e) (λ e=>(S.N _ (List.mem_append_right _ e)).1),h3⟩ hq
 | @free _ c o h1 h2 h3=>exact wpAny_loadName_free hx.ek hk h1 ⟨o,h2.elim (λ e=>S.F.keep _ _ e) (λ e=>(S.N _ (List.mem_append_right _ e)).1),h3⟩ hq hn
theorem V6 {i:Nat} {n:Str} {k:NameKind} {av:AV} {p:Pos} (hi:Γ[i]? =some (some av)) (hn:sc.names[i]? =some (n,k)) (hd:(n == ("__debug__" :Str))=false) (hc:(n == ("__classdict__" :Str))=false) :
  RE g fr d sc Γ (.Name n p) (rt av):=by
 intro x hx hsc _ μ adr s S
 refine Does.rt (λ Q hq=> ?_) S
 refine hideP λ PZ hZ=> ?_
 obtain ⟨cs,pl,m,S⟩:=S
 obtain ⟨n',k',v,h1,h2,h3⟩:=S.V i av hi
 rw [hsc,hn] at h1
 obtain ⟨rfl,rfl⟩:=some2 h1
 refine hZ ?_
 exact h2.load hx S (yU hx.nd (hsc ▸ hn)) hd hc (hq v s.toks h3)
theorem V7 {k:Nat} {p:Pos}:RE g fr d sc Γ (.Constant .none k p) (rt .none):=λ x _ _ _ μ adr s S =>
 Does.rt (λ Q hq=>(λ _ _ _=>hq .none s.toks .none:wpAny _ _ (eval (.Constant .none k p) x.env) Q nof s)) S
theorem V8 {b:Bool} {k:Nat} {p:Pos}:RE g fr d sc Γ (.Constant (.bool b) k p) (rt (.bool b)):=λ x _ _ _ μ adr s S =>
 Does.rt (λ Q hq=>(λ _ _ _=>hq (.bool b) s.toks (.bool b):wpAny _ _ (eval (.Constant (.bool b) k p) x.env) Q nof s)) S
theorem g8 {i:Int} {k:Nat} {p:Pos}:RE g fr d sc Γ (.Constant (.int i) k p) (rt (.int i)):=λ x _ _ _ μ adr s S =>
 Does.rt (λ Q hq=>wpAny_Constant_int (hq _ _ (.int _ _))) S
theorem Jd {a:String} {k:Nat} {p:Pos}:RE g fr d sc Γ (.Constant (.str (Str.ofString a)) k p) (rt (.str a)):=λ x _ _ _ μ adr s S =>
 Does.rt (λ Q hq=>(show wpAny _ _ (mkText (Str.ofString a)) Q nof s from wpAny_mkText (hq _ _ (.str _ _)))) S
theorem uU {i:Nat} {μ μ':Mem} {o:AO} (e:rd i μ=some (o,μ')):μ[i]? =some o∧μ=μ':=by
 unfold rd at e
 cases h:μ[i]? with
 | none=>rw [h] at e;exact za e
 | some p=>rw [h] at e;obtain ⟨rfl,rfl⟩:=some2 e;exact ⟨rfl,rfl⟩
theorem xq {α:Type} {o:Option α} {b:α} {μ μ':Mem} (e:opt o μ=some (b,μ')):o=some b∧μ=μ':=by
 cases o with
 | none=>exact za e
 | some a=>cases e;exact ⟨rfl,rfl⟩
theorem xC {i:Nat} {o:AO} {u:Unit} {μ μ':Mem} (e:wr i o μ=some (u,μ')):μ'=μ.set i o:=by cases e;rfl
set_option tactic.hygienic true in
theorem g9 {a:AV} {f:String} {b:AV} {μ μ':Mem} (e:getA a f μ=some (b,μ')): ∃ i c fs,a= .obj i∧μ[i]? =some (.inst c fs)∧get f fs=some b∧μ=μ':=by
 cases a <;> try (first | exact za e | (obtain ⟨rfl,rfl⟩:=some2 e;done))
 rename_i i
 obtain ⟨o,μ₁,e1,e2⟩:=bd_some (show bd (rd i) _ μ=_ from e)
 obtain ⟨h1,rfl⟩:=uU e1
 cases o <;> try (first | exact za e2 | (obtain ⟨rfl,rfl⟩:=some2 e2;done))
 rename_i c fs
 dsimp only at e2
 cases h:get f fs with
 | none=>rw [h] at e2;exact za e2
 | some z=>rw [h] at e2;obtain ⟨rfl,rfl⟩:=some2 e2;exact ⟨i,c,fs,rfl,h1,h,rfl⟩
set_option tactic.hygienic true in
theorem WX {a v:AV} {f:String} {u:Unit} {μ μ':Mem} (e:setA a f v μ=some (u,μ')): ∃ i c fs,a= .obj i∧μ[i]? =some (.inst c fs)∧f∈c.fields∧fs.length < 100∧μ'=μ.set i (.inst c (put f v fs)):=by
 cases a <;> try (first | exact za e | (obtain ⟨rfl,rfl⟩:=some2 e;done))
 rename_i i
 obtain ⟨o,μ₁,e1,e2⟩:=bd_some (show bd (rd i) _ μ=_ from e)
 obtain ⟨h1,rfl⟩:=uU e1
 cases o <;> try (first | exact za e2 | (obtain ⟨rfl,rfl⟩:=some2 e2;done))
 rename_i c fs
 dsimp only at e2
 by_cases h:f∈c.fields∧fs.length < 100
 ·rw [if_pos h] at e2;exact ⟨i,c,fs,rfl,h1,h.1,h.2,xC e2⟩
 ·rw [if_neg h] at e2;exact za e2
theorem qJ {κ:Type} [DecidableEq κ] {f:κ} {b:AV}: ∀ {fs:List (κ × AV)},get f fs=some b→ ∃ p∈fs,p.1=f
 | [],q=>by cases q
 | p :: r,q=>by
  rw [xb] at q
  by_cases hp:p.1=f
  ·exact ⟨p, .head _,hp⟩
  ·rw [if_neg hp] at q
   obtain ⟨q',a,b⟩:=qJ q;exact ⟨q', .tail _ ‹_›,b⟩
theorem uG (hf:Facts g) (hx:x.Ok g d) {v:Value} {a:AV} {f:String} {μ:Mem} {adr:List Addr} {s:Shared} {ex:Bool} (S:St g x Γ μ adr s) (r:VR x.fd adr v a) :
  Does g x Γ (VR x.fd) (getAttr v (Str.ofString f) ex) (getA a f) μ adr s:=by
 intro b μ' e
 refine hideP λ PZ hZ=> ?_
 obtain ⟨i,c,fs,rfl,ho,hget,rfl⟩:=g9 e
 have S':=S
 obtain ⟨cs,pl,m,S⟩:=S
 obtain ⟨ad',dx,es,n,rfl,hc,h1,h2,h3⟩:=S.atO r ho
 have hmem:f∈c.fields:=by obtain ⟨p,hp,e⟩:=qJ hget;exact e ▸ h2 p hp
 obtain ⟨k1,k2,at_,k3,k4⟩:=hf.pg c f hmem
 obtain ⟨v',hv1,hv2⟩:=(uT h1 f).1 b hget
 have I:InstAt s.heap ad' (instObj c.addr dx) c.addr (some (dictOf es n)):=InstAt.of_news S.N (ym hc (.head _)) (ym hc (.tail _ (.head _)))
 refine hZ ?_
 exact get_own S.F hx.kin I k1 k2 k3 k4 hv1 hv2.handed ⟨adr,List.prefix_refl _,S'.toks,hv2⟩
theorem V9 (hf:Facts g) {e:Expr} {m:M AV} {f:String} {p:Pos} (h:RE g fr d sc Γ e m) (hb: ∀ env,attributeBase e (Str.ofString f) env (eval e env)=eval e env) :
  RE g fr d sc Γ (.Attribute e (Str.ofString f) p) (bd m λ a=>getA a f):=by
 intro x hx hsc hfr μ adr s S
 refine Does.via (h x hx hsc hfr μ adr s S) (f:=λ o=>getAttr o (Str.ofString f) true) (λ Q hq=> ?_) λ a b μ adr s S r=>uG hf hx S r
 rw [arm_eval_Attribute,hb]
 exact wpAny_bind (wpAny_mono hq (λ o s₁ h₁=>wpAny_bind (wpAny_standAt (wpAny_bind (wpAny_holding (wpAny_mono h₁ (λ r s₂ h₂=>wpAny_bind (wpAny_letTemporaryGo (wpAny_pure h₂))) λ _ _ z=>z))))) λ _ _ z=>z)
noncomputable def Op2 (g:Gd) (t:Value→Value→Sem Value) (m:AV→AV→M AV):Prop :=
 ∀ (x:Cx) (d:Nat) (Γ:Cx0),x.Ok g d→ ∀ va vb a b μ adr s,St g x Γ μ adr s→VR x.fd adr va a→VR x.fd adr vb b→Does g x Γ (VR x.fd) (t va vb) (m a b) μ adr s
theorem Sim2 {t1 t2:Expr} {m1 m2:M AV} (h1:RE g fr d sc Γ t1 m1) (h2:RE g fr d sc Γ t2 m2) {T:Env→Sem Value} {op:Value→Value→Sem Value} {mop:AV→AV→M AV} (ho:Op2 g op mop)
  (rule: ∀ (env:Env) (A:Around) s (Q:Value→Shared→Prop),wpAny (model g.prog g.w) A (eval t1 env) (λ a s₁=>wpAny (model g.prog g.w) A (eval t2 env) (λ b s₂=>wpAny (model g.prog g.w) A (op a b) Q nof s₂) nof s₁) nof s→wpAny (model g.prog g.w) A (T env) Q nof s) :
  ∀ x:Cx,x.Ok g d→x.env.scope=sc→(fr=true→x.env=x.fenv)→Sim g x Γ Γ (VR x.fd) (T x.env) (bd m1 λ a=>bd m2 λ b=>mop a b):=by
 intro x hx hsc hfr μ adr s S
 intro b' μ' e
 obtain ⟨a,μ₁,e1,e2⟩:=bd_some e
 obtain ⟨b,μ₂,e2,e3⟩:=bd_some e2
 refine rule _ _ _ _ (wpAny_mono (h1 x hx hsc hfr μ adr s S a μ₁ e1) (λ va s₁ z=> ?_) λ _ _ z=>z)
 obtain ⟨adr₁,p1,S1,r1⟩:=z
 refine wpAny_mono (h2 x hx hsc hfr μ₁ adr₁ s₁ S1 b μ₂ e2) (λ vb s₂ z=> ?_) λ _ _ z=>z
 obtain ⟨adr₂,p2,S2,r2⟩:=z
 refine wpAny_mono (ho x d Γ hx va vb a b μ₂ adr₂ s₂ S2 (r1.pre p2) r2 b' μ' e3) (λ v s₃ z=> ?_) λ _ _ z=>z
 obtain ⟨adr₃,p3,S3,r3⟩:=z
 exact ⟨adr₃,(p1.trans p2).trans p3,S3,r3⟩
theorem WY {l r:Expr} {op:Operator} {p:Pos} {m1 m2:M AV} {mop:AV→AV→M AV} (h1:RE g fr d sc Γ l m1) (h2:RE g fr d sc Γ r m2) (ho:Op2 g (binaryOp op) mop) :
  RE g fr d sc Γ (.BinOp l op r p) (bd m1 λ a=>bd m2 λ b=>mop a b):=Sim2 h1 h2 ho λ env A s Q h=>wpAny_BinOp h
theorem Je {l r:Expr} {op:CmpOp} {p:Pos} {m1 m2:M AV} {mop:AV→AV→M AV} (h1:RE g fr d sc Γ l m1) (h2:RE g fr d sc Γ r m2) (ho:Op2 g (compareOp op) mop) (hm:behindInMarks op r=false:=by with_unfolding_all rfl) :
  RE g fr d sc Γ (.Compare l [op] [r] p) (bd m1 λ a=>bd m2 λ b=>mop a b):=Sim2 h1 h2 ho λ env A s Q h=>wpAny_Compare1 h hm
theorem xr {i:Int} {μ:Mem} {adr:List Addr} {s:Shared} {t u:Tok} (S:St g x Γ μ adr s):Aft g x Γ (VR x.fd) (.int i) μ adr (.int i t) {s with toks:=u}:=⟨adr,List.prefix_refl _,S.toks, .int i t⟩
theorem zD {b:Bool} {μ:Mem} {adr:List Addr} {s:Shared} (S:St g x Γ μ adr s):Aft g x Γ (VR x.fd) (.bool b) μ adr (.bool b) s:=⟨adr,List.prefix_refl _,S, .bool b⟩
theorem Jf {a b:AV} {f:Int→Int→M AV} {μ:Mem} {r:AV × Mem} (e:i2 a b f μ=some r): ∃ i j,a= .int i∧b= .int j∧f i j μ=some r:=by
 cases a <;> try (first | exact za e | (obtain ⟨rfl,rfl⟩:=some2 e;done))
 cases b <;> try (first | exact za e | (obtain ⟨rfl,rfl⟩:=some2 e;done))
 exact ⟨_,_,rfl,rfl,e⟩
theorem Op2.ints {t:Value→Value→Sem Value} {f:Int→Int→M AV} (h: ∀ (x:Cx) (Γ:Cx0) (i j:Int) (t1 t2:Tok) (μ:Mem) (adr:List Addr) (s:Shared),St g x Γ μ adr s→Does g x Γ (VR x.fd) (t (.int i t1) (.int j t2)) (f i j) μ adr s):Op2 g t (λ a b=>i2 a b f):=by
 intro x d Γ hx va vb a b μ adr s S r1 r2 c μ' e
 obtain ⟨i,j,rfl,rfl,e⟩:=Jf e
 (obtain ⟨_,rfl⟩:=r1.inv);obtain ⟨_,rfl⟩:=r2.inv
 exact h x Γ i j _ _ μ adr s S c μ' e
theorem Jg:Op2 g (binaryOp .Mod) modM:=Op2.ints λ x Γ i j t1 t2 μ adr s S c μ' e=>by
 split at e <;> cases e
 exact mod_int' (by omega) (xr S)
theorem Jh:Op2 g (binaryOp .FloorDiv) divM:=Op2.ints λ x Γ i j t1 t2 μ adr s S c μ' e=>by
 split at e <;> cases e
 exact floordiv_int (by omega) (xr S) (Or.inl (PyProof.noPylong_small (by omega)))
set_option tactic.hygienic true in
theorem Ji:Op2 g (binaryOp .Pow) powM:=Op2.ints λ x Γ i j t1 t2 μ adr s S c μ' e=>by
 split at e <;> cases e
 rename_i h
 obtain ⟨rfl,rfl⟩:=h
 exact pow_int_small (by decide) (by decide) (by decide) (xr S)
theorem Kl:Op2 g (compareOp .Lt) ltM:=Op2.ints λ x Γ i j t1 t2 μ adr s S c μ' e=>by
 obtain ⟨rfl,rfl⟩:=some2 e
 exact wpAny_lt_int (zD S)
theorem Km:Op2 g (compareOp .Gt) gtM:=Op2.ints λ x Γ i j t1 t2 μ adr s S c μ' e=>by
 obtain ⟨rfl,rfl⟩:=some2 e
 exact SiftDown.gt_int (zD S)
theorem Jj {e:Expr} {m:M AV} {k:Nat} {p q:Pos} (h:RE g fr d sc Γ e m):RE g fr d sc Γ (.Compare e [.Is] [.Constant .none k q] p) (bd m λ a=>isN a):=by
 intro x hx hsc hfr μ adr s S
 refine Does.via (h x hx hsc hfr μ adr s S) (f:=λ a=>compareOp .Is a .none) (λ Q hq=>wpAny_Compare1 (wpAny_mono hq (λ a s₁ h₁=>wpAny_pure h₁) λ _ _ z=>z)) λ a b μ adr s S r=> ?_
 intro c μ' e
 obtain ⟨rfl,rfl⟩:=some2 e
 refine is_none_gen ?_
 have:(a == Value.none)=decide (b=AV.none):=by cases r <;> rfl
 exact this ▸ (zD S)
theorem Ua {e:Expr} {m:M AV} {k:Nat} {p q:Pos} (h:RE g fr d sc Γ e m):RE g fr d sc Γ (.Compare e [.IsNot] [.Constant .none k q] p) (bd m λ a=>isNN a):=by
 intro x hx hsc hfr μ adr s S
 refine Does.via (h x hx hsc hfr μ adr s S) (f:=λ a=>compareOp .IsNot a .none) (λ Q hq=>wpAny_Compare1 (wpAny_mono hq (λ a s₁ h₁=>wpAny_pure h₁) λ _ _ z=>z)) λ a b μ adr s S r=> ?_
 intro c μ' e
 obtain ⟨rfl,rfl⟩:=some2 e
 refine isnot_none_gen ?_
 have:(!(a == Value.none))= !decide (b=AV.none):=by cases r <;> rfl
 exact this ▸ (zD S)
end
section
variable {g:Gd} {x:Cx} {d:Nat} {sc:Scope} {fr:Bool} {Γ' Γ:Cx0}
theorem flat1 {cs:List Led} {i:Nat} {p:Addr × Obj} {pl:Led} (h:cs[i]? =some [p]):cs.flatten ++ pl=(cs.take i).flatten ++ p :: ((cs.drop (i+1)).flatten ++ pl):=by
 conv=>lhs;rw [ua h]
 simp
theorem flat1s {cs:List Led} {i:Nat} {c:Led} {p:Addr × Obj} {pl:Led} (h:cs[i]? =some c):(cs.set i [p]).flatten ++ pl=(cs.take i).flatten ++ p :: ((cs.drop (i+1)).flatten ++ pl):=by
 rw [vq h];simp
theorem flat2 {cs:List Led} {i:Nat} {p q:Addr × Obj} {pl:Led} (h:cs[i]? =some [p,q]):cs.flatten ++ pl=((cs.take i).flatten ++ [p]) ++ q :: ((cs.drop (i+1)).flatten ++ pl):=by
 conv=>lhs;rw [ua h]
 simp
theorem flat2s {cs:List Led} {i:Nat} {c:Led} {p q:Addr × Obj} {pl:Led} (h:cs[i]? =some c):(cs.set i [p,q]).flatten ++ pl=((cs.take i).flatten ++ [p]) ++ q :: ((cs.drop (i+1)).flatten ++ pl):=by
 rw [vq h];simp
theorem ub {l₁ l₂:Led} {d:Addr} {o:Obj} (nd:((l₁ ++ (d,o) :: l₂).map (·.1)).Nodup):(∀ p∈l₁,p.1≠d)∧ ∀ p∈l₂,p.1≠d:=by
 simp only [List.map_append,List.map_cons,List.nodup_append,List.nodup_cons] at nd
 obtain ⟨_,⟨h2,_⟩,h3⟩:=nd
 exact ⟨λ p hp e=>h3 p.1 (List.mem_map_of_mem hp) d (.head _) e,λ p hp e=>h2 (e ▸ List.mem_map_of_mem hp)⟩
theorem mem1 {cs:List Led} {i:Nat} {a:Addr} {o:Obj} {pl:Led} (h:cs[i]? =some [(a,o)]):(a,o)∈cs.flatten ++ pl:=ym h (List.mem_singleton.mpr rfl)
theorem StE.at1 {μ:Mem} {adr:List Addr} {s:Shared} {cs:List Led} {pl:Led} {m:Str→Option Value} (S:StE g x Γ μ adr s cs pl m) {i:Nat} {a:Addr} {o:Obj} (h:cs[i]? =some [(a,o)]):s.heap.get? a=some o:=(S.N _ (mem1 h)).1
theorem kS (hf:Facts g) (hx:x.Ok g d) {v w:Value} {a b:AV} {f:String} {μ:Mem} {adr:List Addr} {s:Shared} (S:St g x Γ μ adr s) (r:VR x.fd adr v a) (r':VR x.fd adr w b) :
  Does g x Γ (λ _ _ _=>True) (setAttr v (Str.ofString f) w) (setA a f b) μ adr s:=by
 intro u μ' e
 refine hideP λ PZ hZ=> ?_
 obtain ⟨i,c,fs,rfl,ho,hmem,hlen,rfl⟩:=WX e
 obtain ⟨cs,pl,m,S⟩:=S
 obtain ⟨ad',dx,es,n,rfl,hc,h1,h2,h3⟩:=S.atO r ho
 obtain ⟨k1,k2,k3⟩:=hf.ps c f hmem
 obtain ⟨_,k4,_⟩:=hf.pg c f hmem
 have hl:(getL (Str.ofString f) es).isSome=true:=by
  cases hg:get f fs with
  | none=>rw [(uT h1 f).2 hg];rfl
  | some b'=>obtain ⟨v',e',_⟩:=(uT h1 f).1 b' hg;rw [e'];rfl
 have I:InstAt s.heap ad' (instObj c.addr dx) c.addr (some (dictOf es n)):=InstAt.of_news S.N (ym hc (.head _)) (ym hc (.tail _ (.head _)))
 have N:=S.N
 have nd:=S.nd
 rw [flat2 hc] at N nd
 have hp:=V5 h1 (f:=f) (hsh:=PyData.keyHash g.w.params (Str.ofString f)) (t:=s.toks+1) r'
 have pl':=put_len f b fs
 refine hZ ?_
 refine set_dict S.F hx.kin N I rfl k1 k2 k3 k4 hl rfl (j7 nd) (by rw [hp.len];lia) λ h' F' N'=> ?_
 refine ⟨adr,List.prefix_refl _,⟨_,pl,m,S.put (c':=[(ad',instObj c.addr dx),(dx,dictOf (putL (Str.ofString f) (PyData.keyHash g.w.params (Str.ofString f)) (.str (Str.ofString f) (s.toks+1)) w es) (putN (Str.ofString f) es n))]) hc (λ o e=>by rw [ho] at e;obtain rfl:=Option.some.inj e;rfl) rfl (.inst hp ?_ (Nat.le_trans ‹_› ‹_›)) F' (by rw [flat2s hc];exact N')⟩,trivial⟩
 intro p hp'
 have: ∀ {fs:List (String × AV)},p∈put f b fs→p.1=f∨ ∃ q∈fs,q.1=p.1:=by
  intro fs
  induction fs with
  | nil=>intro q;rw [Yh] at q;simp at q;left;rw [q]
  | cons q r ih =>
   intro z
   rw [wu] at z
   split at z
   ·rcases List.mem_cons.mp z with rfl | z
    ·left;rfl
    ·right;exact ⟨p, .tail _ ‹_›,rfl⟩
   ·rcases List.mem_cons.mp z with rfl | z
    ·right;exact ⟨p, .head _,rfl⟩
    ·rcases ih z with h | ⟨q',a,b⟩
     ·left;exact h
     ·right;exact ⟨q', .tail _ ‹_›,b⟩
 rcases this hp' with h | ⟨q,a,b⟩
 ·rw [h];exact hmem
 ·rw [← b];exact h2 q a
theorem jt {v:Value} {a:AV} {μ:Mem} {adr:List Addr} {s:Shared} (S:St g x Γ μ adr s) (r:VR x.fd adr v a):Does g x Γ (λ _ a b=>a=b) (truthy v) (tru a) μ adr s:=by
 intro b μ' e
 cases r <;> try (first | exact za e | (obtain ⟨rfl,rfl⟩:=some2 e;done))
 obtain ⟨rfl,rfl⟩:=some2 e
 exact wpAny_truthy_bool ⟨adr,List.prefix_refl _,S,rfl⟩
theorem qK {M:Model} {A:Around} {E:Value→Shared→Prop} {s:Shared} {env:Env} {l r:Expr} {op:CmpOp} {pos:Pos} {whole:Sem Value} {Q:Bool→Shared→Prop}
  (h:wpAny M A (eval (.Compare l [op] [r] pos) env) (λ c s₁=>wpAny M A (truthy c) Q E s₁) E s):wpAny M A (isTrue (.Compare l [op] [r] pos) env whole) Q E s:=λ Γ p hΓ=>by
 have z:=h Γ p hΓ
 rw [isTrue_Compare1]
 rw [eval_Compare1] at z
 simp only [Sem.wp_bind',Sem.wp_holding] at z ⊢
 exact Sem.wp_mono M Γ _ (λ a p₁ s₁ z=>Sem.wp_mono M Γ _ (λ b p₂ s₂ z=>Sem.wp_mono M Γ _ (λ _ p₃ s₃ z=>Sem.wp_mono M Γ _ (λ c p₄ s₄ z=>z Γ p₄ hΓ) (λ _ _ _ z=>z) _ _ z) (λ _ _ _ z=>z) _ _ z) (λ _ _ _ z=>z) _ _ z) (λ _ _ _ z=>z) _ _ z
theorem Jk {l r:Expr} {op:CmpOp} {p:Pos} {m:M AV} (h:RE g fr d sc Γ (.Compare l [op] [r] p) m):RC g fr d sc Γ (.Compare l [op] [r] p) (bd m tru):=λ x hx hsc hfr μ adr s S =>
 Does.via (h x hx hsc hfr μ adr s S) (f:=truthy) (λ Q hq=>qK hq) λ a b μ adr s S r=>jt S r
theorem WZ {e:Expr} {m:M AV} (h:RE g fr d sc Γ e m) (he: ∀ env whole,isTrue e env whole=(do let v ← whole;standAt e.pos;holding [v] (truthy v))):RC g fr d sc Γ e (bd m tru):=λ x hx hsc hfr μ adr s S =>
 Does.via (h x hx hsc hfr μ adr s S) (f:=truthy) (λ Q hq=>isTrue_plain hq (he _ _)) λ a b μ adr s S r=>jt S r
theorem Jl {e:Expr} {p:Pos} {m:M Bool} (h:RC g fr d sc Γ e m):RC g fr d sc Γ (.UnaryOp .Not e p) (notC m):=λ x hx hsc hfr μ adr s S =>
 Does.via (h x hx hsc hfr μ adr s S) (f:=λ c=>(pure (!c):Sem Bool)) (λ Q hq=>by
  show wpAny _ _ (isTrue e x.env (eval e x.env) >>= λ c=>pure (!c)) _ _ _
  exact wpAny_bind hq) λ a b μ adr s S r=>by
  intro c μ' e
  obtain ⟨rfl,rfl⟩:=some2 e
  subst r
  exact wpAny_pure ⟨adr,List.prefix_refl _,S,rfl⟩
theorem Ub {e:Expr} {p:Pos} {m:M Bool} (h:RC g fr d sc Γ e m):RC g fr d sc Γ (.BoolOp .And [e] p) m:=λ x hx hsc hfr μ adr s S =>
 Does.same (h x hx hsc hfr μ adr s S) λ Q hq=>isTrue_and (wpAny_mono hq (λ c s' z=>by
  cases c
  ·exact z
  ·exact isTrue_and_nil z) λ _ _ z=>z)
theorem Jm {e:Expr} {p:Pos} {m:M Bool} (h:RC g fr d sc Γ e m):RC g fr d sc Γ (.BoolOp .Or [e] p) m:=λ x hx hsc hfr μ adr s S =>
 Does.same (h x hx hsc hfr μ adr s S) λ Q hq=>isTrue_or (wpAny_mono hq (λ c s' z=>by
  cases c
  ·exact isTrue_or_nil z
  ·exact z) λ _ _ z=>z)
theorem Jn {e:Expr} {es:List Expr} {p:Pos} {m m':M Bool} (h:RC g fr d sc Γ e m) (h':RC g fr d sc Γ (.BoolOp .And es p) m'):RC g fr d sc Γ (.BoolOp .And (e :: es) p) (andC m m'):=by
 intro x hx hsc hfr μ adr s S b' μ' e
 obtain ⟨b,μ₁,e1,e2⟩:=bd_some e
 refine isTrue_and (wpAny_mono (h x hx hsc hfr μ adr s S b μ₁ e1) (λ c s₁ z=> ?_) λ _ _ z=>z)
 obtain ⟨adr₁,p1,S1,eqq⟩:=z;subst c
 cases b
 ·obtain ⟨rfl,rfl⟩:=some2 e2;exact ⟨adr₁,p1,S1,rfl⟩
 ·refine wpAny_mono (h' x hx hsc hfr μ₁ adr₁ s₁ S1 b' μ' e2) (λ b s₂ z=> ?_) λ _ _ z=>z
  obtain ⟨adr₂,p2,S2,r⟩:=z
  exact ⟨adr₂,p1.trans p2,S2,r⟩
theorem Kn {e:Expr} {es:List Expr} {p:Pos} {m m':M Bool} (h:RC g fr d sc Γ e m) (h':RC g fr d sc Γ (.BoolOp .Or es p) m'):RC g fr d sc Γ (.BoolOp .Or (e :: es) p) (orC m m'):=by
 intro x hx hsc hfr μ adr s S b' μ' e
 obtain ⟨b,μ₁,e1,e2⟩:=bd_some e
 refine isTrue_or (wpAny_mono (h x hx hsc hfr μ adr s S b μ₁ e1) (λ c s₁ z=> ?_) λ _ _ z=>z)
 obtain ⟨adr₁,p1,S1,eqq⟩:=z;subst c
 cases b
 ·refine wpAny_mono (h' x hx hsc hfr μ₁ adr₁ s₁ S1 b' μ' e2) (λ b s₂ z=> ?_) λ _ _ z=>z
  obtain ⟨adr₂,p2,S2,r⟩:=z
  exact ⟨adr₂,p1.trans p2,S2,r⟩
 ·obtain ⟨rfl,rfl⟩:=some2 e2;exact ⟨adr₁,p1,S1,rfl⟩
theorem Jo {c a b:Expr} {p:Pos} {mc:M Bool} {ma mb:M AV} (hc:RC g fr d sc Γ c mc) (ha:RE g fr d sc Γ a ma) (hb:RE g fr d sc Γ b mb):RE g fr d sc Γ (.IfExp c a b p) (iteV mc ma mb):=by
 intro x hx hsc hfr μ adr s S
 refine Does.via (hc x hx hsc hfr μ adr s S) (f:=λ t=>if t then eval a x.env else eval b x.env) (λ Q hq=> ?_) λ t t' μ adr s S r=> ?_
 ·rw [arm_eval_IfExp];exact wpAny_bind hq
 ·subst r
  cases t
  ·exact hb x hx hsc hfr μ adr s S
  ·exact ha x hx hsc hfr μ adr s S
theorem Jp {a b:Expr} {p:Pos} {ma mb:M AV} (ha:RE g fr d sc Γ a ma) (hb:RE g fr d sc Γ b mb):RE g fr d sc Γ (.BoolOp .And [a,b] p) (andV ma mb):=by
 intro x hx hsc hfr μ adr s S
 refine Does.via (ha x hx hsc hfr μ adr s S) (f:=λ v=>do
   standAt p
   let t ← holding [v] (truthy v)
   match BoolOp.And,t with
   | .And,false | .Or,true=>pure v
   | _,_=>boolOp p .And [eval b x.env]) (λ Q hq=> ?_) λ v av μ adr s S r=> ?_
 ·rw [arm_eval_BoolOp]
  exact wpAny_bind hq
 ·intro c μ' e
  obtain ⟨t,μ₁,e1,e2⟩:=bd_some e
  refine wpAny_bind (wpAny_standAt (wpAny_bind (wpAny_holding (wpAny_mono (jt S r t μ₁ e1) (λ t' s₁ z=> ?_) λ _ _ z=>z))))
  obtain ⟨adr₁,p1,S1,eqq⟩:=z;subst t'
  cases t
  ·obtain ⟨rfl,rfl⟩:=some2 e2;exact wpAny_pure ⟨adr₁,p1,S1,r.pre p1⟩
  ·refine wpAny_mono (hb x hx hsc hfr μ₁ adr₁ s₁ S1 c μ' e2) (λ c s₂ z=> ?_) λ _ _ z=>z
   obtain ⟨adr₂,p2,S2,r2⟩:=z
   exact ⟨adr₂,p1.trans p2,S2,r2⟩
structure REs (g:Gd) (fr:Bool) (d:Nat) (sc:Scope) (Γ:Cx0) (es:List Expr) (ms:List (M AV)):Prop where
 star: ∀ env,starEach es env=es.map λ e=>(false,eval e env)
 len:es.length=ms.length
 run: ∀ x:Cx,x.Ok g d→x.env.scope=sc→(fr=true→x.env=x.fenv)→ ∀ pos,Sim g x Γ Γ (λ adr=>F2 (VR x.fd adr)) (spliced (backTo pos (starEach es x.env))) (evs ms)
theorem wo:REs g fr d sc Γ [] []:=⟨λ _=>rfl,rfl,λ x hx hsc hfr pos μ adr s S b μ' e=>by
 obtain ⟨rfl,rfl⟩:=some2 e
 exact wpAny_pure ⟨adr,List.prefix_refl _,S, .nil⟩⟩
theorem yV {e:Expr} {es:List Expr} {m:M AV} {ms:List (M AV)} (h:RE g fr d sc Γ e m) (h':REs g fr d sc Γ es ms) (he: ∀ env,starEach (e :: es) env=(false,eval e env) :: starEach es env) :
  REs g fr d sc Γ (e :: es) (m :: ms):=by
 refine ⟨λ env=>by rw [he,h'.star];rfl,by simp [h'.len],?_⟩
 intro x hx hsc hfr pos μ adr s S b μ' eq
 obtain ⟨a,μ₁,e1,e2⟩:=bd_some (show bd m (λ a=>bd (evs ms) λ as=>rt (a :: as)) μ=_ from eq)
 obtain ⟨as,μ₂,e2,e3⟩:=bd_some e2
 cases e3
 rw [he]
 show wpAny _ _ (eval e x.env >>= λ v=>(pure [v]:Sem (List Value)) >>= λ here=>holding here (spliced (backTo pos (starEach es x.env))) >>= λ r=>pure (here ++ r)) _ _ _
 refine wpAny_bind (wpAny_mono (h x hx hsc hfr μ adr s S a μ₁ e1) (λ v s₁ z=> ?_) λ _ _ z=>z)
 obtain ⟨adr₁,p1,S1,r1⟩:=z
 refine wpAny_bind (wpAny_pure (wpAny_bind (wpAny_holding (wpAny_mono (h'.run x hx hsc hfr pos μ₁ adr₁ s₁ S1 as μ' e2) (λ vs s₂ z=> ?_) λ _ _ z=>z))))
 obtain ⟨adr₂,p2,S2,r2⟩:=z
 exact wpAny_pure ⟨adr₂,p1.trans p2,S2, .cons (r1.pre p2) r2⟩
theorem yz {o:AO} {b:AV} {μ μ':Mem} (e:al o μ=some (b,μ')):b= .obj μ.length∧μ'=μ ++ [o]:=by cases e;exact ⟨rfl,rfl⟩
theorem StE.lt {μ:Mem} {adr:List Addr} {s:Shared} {cs:List Led} {pl:Led} {m:Str→Option Value} (S:StE g x Γ μ adr s cs pl m): ∀ p∈cs.flatten ++ pl,p.1 < s.heap.objs.size:=λ p hp=>Heap.lt_size (S.N p hp).1
theorem StE.ladr {μ:Mem} {adr:List Addr} {s:Shared} {cs:List Led} {pl:Led} {m:Str→Option Value} (S:StE g x Γ μ adr s cs pl m):adr.length=μ.length:=by
 rw [← S.ha,List.length_map,S.C.len]
theorem VR.last {fd:Option Addr} {adr:List Addr} {a:Addr} {n:Nat} (h:adr.length=n):VR fd (adr ++ [a]) (.ref a) (.obj n):= .obj (by rw [← h];simp)
theorem St.new1 (hx:x.Ok g d) {μ:Mem} {adr:List Addr} {s s':Shared} {cs:List Led} {pl:Led} {m:Str→Option Value} (S:StE g x Γ μ adr s cs pl m) {a:Addr} {o:Obj} {ao:AO}
  (hc:CR g x.fd (adr ++ [a]) [(a,o)] ao) (F:Fr x.h₀ x.L s'.heap m) (N:News x.h₀ x.L s'.heap ((a,o) :: (cs.flatten ++ pl))) (hl: ∀ p∈cs.flatten ++ pl,p.1 < a)
  (h1:s'.gens=s.gens:=by rfl) (h2:s'.drawn=s.drawn:=by rfl) (h3:s'.os=s.os:=by rfl) :
  Aft g x Γ (VR x.fd) (.obj μ.length) (μ ++ [ao]) adr (.ref a) s':=by
 have z:=S.new (c:=[(a,o)]) (λ adr' p=>hx.mono _ _ p) hc F N (by simp) (λ p hp q hq=>by
  rw [List.mem_singleton.mp hp];exact Nat.ne_of_lt (hl q hq)) h1 h2 h3
 exact ⟨_,⟨_,rfl⟩,⟨_,_,_,z⟩, .last S.ladr⟩
theorem W3 (hx:x.Ok g d) {vs:List Value} {xs:List AV} {μ:Mem} {adr:List Addr} {s:Shared} (S:St g x Γ μ adr s) (r:F2 (VR x.fd adr) vs xs) (hl:xs.length≤big):Does g x Γ (VR x.fd) (newList vs) (al (.list xs)) μ adr s:=by
 intro b μ' e
 obtain ⟨rfl,rfl⟩:=yz e
 obtain ⟨cs,pl,m,S⟩:=S
 refine newList_K S.F S.N (λ l h' F' N' lt=> ?_) (by rw [r.len,sizeLine_eq];unfold big at hl;lia)
 exact St.new1 hx S (.list (r.mono λ _ _=>VR.pre ⟨_,rfl⟩) hl) F' N' lt
theorem W4 (hx:x.Ok g d) {vs:List Value} {xs:List AV} {μ:Mem} {adr:List Addr} {s:Shared} (S:St g x Γ μ adr s) (r:F2 (VR x.fd adr) vs xs) (hl:xs.length≤big):Does g x Γ (VR x.fd) (newTuple vs) (al (.tup xs)) μ adr s:=by
 intro b μ' e
 obtain ⟨rfl,rfl⟩:=yz e
 obtain ⟨cs,pl,m,S⟩:=S
 refine newTuple_N S.F S.N (λ h' F' N'=> ?_) (by rw [r.len,sizeLine_eq];unfold big at hl;lia)
 exact St.new1 hx S (.tup (r.mono λ _ _=>VR.pre ⟨_,rfl⟩) hl) F' N' S.lt
theorem qL {ms:List (M AV)} {xs:List AV} {μ μ':Mem} (e:evs ms μ=some (xs,μ')):xs.length=ms.length:=by
 induction ms generalizing xs μ μ' with
 | nil=>cases e;rfl
 | cons m ms ih =>
  obtain ⟨a,μ₁,e1,e2⟩:=bd_some (show bd m (λ a=>bd (evs ms) λ as=>rt (a :: as)) μ=_ from e)
  obtain ⟨as,μ₂,e2,e3⟩:=bd_some e2
  cases e3
  simp [ih e2]
theorem Uc {es:List Expr} {ms:List (M AV)} {p:Pos} (h:REs g fr d sc Γ es ms) (hl:ms.length≤100:=by decide):RE g fr d sc Γ (.List es p) (mkL ms):=by
 intro x hx hsc hfr μ adr s S b μ' e
 obtain ⟨xs,μ₁,e1,e2⟩:=bd_some (show bd (evs ms) (λ xs=>al (.list xs)) μ=_ from e)
 rw [arm_eval_List]
 refine wpAny_bind (wpAny_standAt (wpAny_bind (wpAny_mono (h.run x hx hsc hfr p μ adr s S xs μ₁ e1) (λ vs s₁ z=> ?_) λ _ _ z=>z)))
 obtain ⟨adr₁,p1,S1,r1⟩:=z
 refine wpAny_mono (W3 hx S1 r1 (by rw [qL e1];unfold big;lia) b μ' e2) (λ v s₂ z=> ?_) λ _ _ z=>z
 obtain ⟨adr₂,p2,S2,r2⟩:=z
 exact ⟨adr₂,p1.trans p2,S2,r2⟩
theorem ju {es:List Expr} {ms:List (M AV)} {k:Nat} {p:Pos} (h:REs g fr d sc Γ es ms) (hl:ms.length≤100:=by decide):RE g fr d sc Γ (.Tuple es k p) (mkT ms):=by
 intro x hx hsc hfr μ adr s S b μ' e
 obtain ⟨xs,μ₁,e1,e2⟩:=bd_some (show bd (evs ms) (λ xs=>al (.tup xs)) μ=_ from e)
 rw [arm_eval_Tuple]
 refine wpAny_bind (wpAny_standAt (wpAny_bind (wpAny_mono (h.run x hx hsc hfr p μ adr s S xs μ₁ e1) (λ vs s₁ z=> ?_) λ _ _ z=>z)))
 obtain ⟨adr₁,p1,S1,r1⟩:=z
 refine wpAny_mono (W4 hx S1 r1 (by rw [qL e1];unfold big;lia) b μ' e2) (λ v s₂ z=> ?_) λ _ _ z=>z
 obtain ⟨adr₂,p2,S2,r2⟩:=z
 exact ⟨adr₂,p1.trans p2,S2,r2⟩
theorem Ko {p:Pos}:RE g fr d sc Γ (.Dict [] [] p) (al (.dI false [])):=by
 intro x hx hsc hfr μ adr s S b μ' e
 obtain ⟨rfl,rfl⟩:=yz e
 obtain ⟨cs,pl,m,S⟩:=S
 refine newDict_K (prog:=g.prog) (w:=g.w) S.F S.N hx.top.nolimit λ dd h' o F' N' lt lo a1 _ a2 _=> ?_
 exact St.new1 hx S (.dI a2 .nil lo (Nat.zero_le _)) F' N' lt
theorem Kq {p:Pos}:RE g fr d sc Γ (.Dict [] [] p) (al (.dS false [])):=by
 intro x hx hsc hfr μ adr s S b μ' e
 obtain ⟨rfl,rfl⟩:=yz e
 obtain ⟨cs,pl,m,S⟩:=S
 refine newDict_K (prog:=g.prog) (w:=g.w) S.F S.N hx.top.nolimit λ dd h' o F' N' lt lo a1 _ a2 _=> ?_
 exact St.new1 hx S (.dS a1 .nil lo (Nat.zero_le _)) F' N' lt
theorem zG {α:Type} {i:Nat} {F:AO→M α} {μ:Mem} {r:α × Mem} (e:bd (rd i) F μ=some r): ∃ o,μ[i]? =some o∧F o μ=some r:=by
 obtain ⟨o,μ₁,e1,e2⟩:=bd_some (b:=r.1) (μ':=r.2) e
 obtain ⟨h,rfl⟩:=uU e1
 exact ⟨o,h,e2⟩
theorem wd {α:Type} {p:Prop} [Decidable p] {m:M α} {μ:Mem} {r:α × Mem} (e:(if p then m else fl) μ=some r):p∧m μ=some r:=by
 by_cases h:p
 ·rw [if_pos h] at e;exact ⟨h,e⟩
 ·rw [if_neg h] at e;exact za e
inductive GetI (a b c:AV) (μ:Mem):Prop
 | list (i:Nat) (n:Int) (xs:List AV) (ea:a= .obj i) (eb:b= .int n) (h:μ[i]? =some (.list xs)) (hn:0≤n) (hx:xs[n.toNat]? =some c)
 | tup (i:Nat) (n:Int) (xs:List AV) (ea:a= .obj i) (eb:b= .int n) (h:μ[i]? =some (.tup xs)) (hn:0≤n) (hx:xs[n.toNat]? =some c)
 | dI (i:Nat) (n:Int) (lk:Bool) (es:List (Int × AV)) (ea:a= .obj i) (eb:b= .int n) (h:μ[i]? =some (.dI lk es)) (hx:get n es=some c)
 | dS (i:Nat) (n:String) (lk:Bool) (es:List (String × AV)) (ea:a= .obj i) (eb:b= .str n) (h:μ[i]? =some (.dS lk es)) (hx:get n es=some c)
theorem W5 {a b c:AV} {μ μ':Mem} (e:getI a b μ=some (c,μ')):μ=μ'∧GetI a b c μ:=by
 cases a <;> try (first | exact za e | (obtain ⟨rfl,rfl⟩:=some2 e;done))
 cases b <;> try (first | exact za e | (obtain ⟨rfl,rfl⟩:=some2 e;done))
 ·obtain ⟨o,h,e⟩:=zG e
  cases o <;> try (first | exact za e | (obtain ⟨rfl,rfl⟩:=some2 e;done))
  ·obtain ⟨hn,e⟩:=wd e
   obtain ⟨e2,em⟩:=xq e
   exact ⟨em, .list _ _ _ rfl rfl h hn e2⟩
  ·obtain ⟨hn,e⟩:=wd e
   obtain ⟨e2,em⟩:=xq e
   exact ⟨em, .tup _ _ _ rfl rfl h hn e2⟩
  ·obtain ⟨e2,em⟩:=xq e
   exact ⟨em, .dI _ _ _ _ rfl rfl h e2⟩
 ·obtain ⟨o,h,e⟩:=zG e
  cases o <;> try (first | exact za e | (obtain ⟨rfl,rfl⟩:=some2 e;done))
  obtain ⟨e2,em⟩:=xq e
  exact ⟨em, .dS _ _ _ _ rfl rfl h e2⟩
inductive GetK (a b:AV) (r:Option AV) (μ:Mem):Prop
 | dI (i:Nat) (n:Int) (lk:Bool) (es:List (Int × AV)) (ea:a= .obj i) (eb:b= .int n) (h:μ[i]? =some (.dI lk es)) (hx:r=get n es)
 | dS (i:Nat) (n:String) (lk:Bool) (es:List (String × AV)) (ea:a= .obj i) (eb:b= .str n) (h:μ[i]? =some (.dS lk es)) (hx:r=get n es)
theorem W6 {a b:AV} {r:Option AV} {μ μ':Mem} (e:getK a b μ=some (r,μ')):μ=μ'∧GetK a b r μ:=by
 cases a <;> try (first | exact za e | (obtain ⟨rfl,rfl⟩:=some2 e;done))
 cases b <;> try (first | exact za e | (obtain ⟨rfl,rfl⟩:=some2 e;done))
 all_goals
  obtain ⟨o,h,e⟩:=zG e
  cases o <;> try (first | exact za e | (obtain ⟨rfl,rfl⟩:=some2 e;done))
  obtain ⟨rfl,rfl⟩:=some2 e
  first | exact ⟨rfl, .dI _ _ _ _ rfl rfl h rfl⟩ | exact ⟨rfl, .dS _ _ _ _ rfl rfl h rfl⟩
theorem W7 {a b c:AV} {μ μ':Mem} (e:appL a b μ=some (c,μ')): ∃ i xs,a= .obj i∧μ[i]? =some (.list xs)∧xs.length < big∧c= .none∧μ'=μ.set i (.list (xs ++ [b])):=by
 cases a <;> try (first | exact za e | (obtain ⟨rfl,rfl⟩:=some2 e;done))
 obtain ⟨o,h,e⟩:=zG e
 cases o <;> try (first | exact za e | (obtain ⟨rfl,rfl⟩:=some2 e;done))
 obtain ⟨hn,e⟩:=wd e
 obtain ⟨rfl,rfl⟩:=some2 e
 exact ⟨_,_,rfl,h,hn,rfl,rfl⟩
set_option tactic.hygienic true in
theorem W8 {a c:AV} {μ μ':Mem} (e:popL a μ=some (c,μ')): ∃ i xs,a= .obj i∧μ[i]? =some (.list (c :: xs))∧μ'=μ.set i (.list xs):=by
 cases a <;> try (first | exact za e | (obtain ⟨rfl,rfl⟩:=some2 e;done))
 obtain ⟨o,h,e⟩:=zG e
 cases o <;> try (first | exact za e | (obtain ⟨rfl,rfl⟩:=some2 e;done))
 rename_i xs
 cases xs <;> try (first | exact za e | (obtain ⟨rfl,rfl⟩:=some2 e;done))
 obtain ⟨rfl,rfl⟩:=some2 e
 exact ⟨_,_,rfl,h,rfl⟩
theorem setI_dI {i:Nat} {k:Int} {y:AV} {u:Unit} {μ μ₁:Mem} {lk:Bool} {es:List (Int × AV)} (h:μ[i]? =some (.dI lk es)) (e:setI (.obj i) (.int k) y μ=some (u,μ₁)):lk=false∧es.length < big∧μ₁=μ.set i (.dI false (put k y es)):=by
 obtain ⟨o,h2,e⟩:=zG e
 rw [h] at h2;obtain rfl:=Option.some.inj h2
 obtain ⟨hn,e⟩:=wd e
 exact ⟨hn.1,hn.2,xC e⟩
theorem Ud {i:Nat} {k:String} {y:AV} {u:Unit} {μ μ₁:Mem} {lk:Bool} {es:List (String × AV)} (h:μ[i]? =some (.dS lk es)) (e:setI (.obj i) (.str k) y μ=some (u,μ₁)):lk=false∧es.length < big∧μ₁=μ.set i (.dS false (put k y es)):=by
 obtain ⟨o,h2,e⟩:=zG e
 rw [h] at h2;obtain rfl:=Option.some.inj h2
 obtain ⟨hn,e⟩:=wd e
 exact ⟨hn.1,hn.2,xC e⟩
theorem Ue {i:Nat} {k:Int} {u:Unit} {μ μ₁:Mem} {lk:Bool} {es:List (Int × AV)} (h:μ[i]? =some (.dI lk es)) (e:delK (.obj i) (.int k) μ=some (u,μ₁)):lk=false∧μ₁=μ.set i (.dI false (del k es)):=by
 obtain ⟨o,h2,e⟩:=zG e
 rw [h] at h2;obtain rfl:=Option.some.inj h2
 obtain ⟨hn,e⟩:=wd e
 exact ⟨hn,xC e⟩
theorem Uf {i:Nat} {k:String} {u:Unit} {μ μ₁:Mem} {lk:Bool} {es:List (String × AV)} (h:μ[i]? =some (.dS lk es)) (e:delK (.obj i) (.str k) μ=some (u,μ₁)):lk=false∧μ₁=μ.set i (.dS false (del k es)):=by
 obtain ⟨o,h2,e⟩:=zG e
 rw [h] at h2;obtain rfl:=Option.some.inj h2
 obtain ⟨hn,e⟩:=wd e
 exact ⟨hn,xC e⟩
end
section
variable {g:Gd} {x:Cx} {d:Nat} {sc:Scope} {fr:Bool} {Γ' Γ:Cx0}
noncomputable def Got (g:Gd) (x:Cx) (Γ:Cx0) (va vb:Value) (b:AV) (μ:Mem) (adr:List Addr) (s:Shared):Prop :=
 wpAny (model g.prog g.w) x.A (getItem va vb) (Aft g x Γ (VR x.fd) b μ adr) nof s ∧
  ∃ T id,s.TypeIs va T∧typeLookup (.type T) "__getitem__" =pure (some (.builtin id))
theorem W9 (hx:x.Ok g d) {va vb:Value} {a b c:AV} {μ μ':Mem} {adr:List Addr} {s:Shared} (S:St g x Γ μ adr s) (r1:VR x.fd adr va a) (r2:VR x.fd adr vb b) (e:getI a b μ=some (c,μ')) :
  μ=μ'∧Got g x Γ va vb c μ adr s:=by
 obtain ⟨em,h⟩:=W5 e
 refine ⟨em,?_⟩
 obtain ⟨cs,pl,m,Z⟩:=id S
 rcases h with ⟨i,k,xs,rfl,rfl,h,hk,hx⟩ | ⟨i,k,xs,rfl,rfl,h,hk,hx⟩ | ⟨i,k,lk,es,rfl,rfl,h,hx⟩ | ⟨i,k,lk,es,rfl,rfl,h,hx⟩
 ·obtain ⟨ad,vs,n,rfl,hc,q1,q2⟩:=Z.atL r1 h
  obtain ⟨_,rfl⟩:=r2.inv
  obtain ⟨v,hv1,hv2⟩:=q1.at_ hx
  have hl:s.heap.IsList ad vs.toArray:=⟨_,Z.at1 hc,rfl,n,rfl⟩
  have hlt:k.toNat < xs.length:=(List.getElem?_eq_some_iff.mp hx).1
  exact ⟨wpAny_getItem_list hl hk (by unfold big at q2;exact (by omega)) (by simpa using hv1) ⟨adr,List.prefix_refl _,S,hv2⟩,_,_,hl.typeIs,slot_list_getitem.lookup⟩
 ·obtain ⟨ad,vs,n,rfl,hc,q1,q2⟩:=Z.atT r1 h
  obtain ⟨_,rfl⟩:=r2.inv
  obtain ⟨v,hv1,hv2⟩:=q1.at_ hx
  have hl:IsTup s.heap ad vs.toArray:=⟨_,Z.at1 hc,rfl,n,rfl⟩
  have hvl:k.toNat < vs.length:=by rw [q1.len];exact (List.getElem?_eq_some_iff.mp hx).1
  refine ⟨PyProof.Rows.getItem_tuple (j:=k.toNat) hl ((by omega)) (by have:=q1.len;unfold big at q2;exact (by omega)) ?_ (by simpa using hv1) ⟨adr,List.prefix_refl _,S,hv2⟩,"tuple",_,⟨_,Z.at1 hc,rfl⟩,PySem.F.slot_tuple_getitem.lookup⟩
  unfold seqIndex?
  have hvk:k < (vs.length:Int):=(by omega)
  have hnk: ¬ k < 0:=(by omega)
  simp [hnk,hk,hvk]
 ·obtain ⟨ad,o,kvs,rfl,hc,q1,q2,q3,q4⟩:=Z.atI r1 h
  obtain ⟨_,rfl⟩:=r2.inv
  obtain ⟨v,hv1,hv2⟩:=(v9 (g:=(id:Int→Int)) (λ a b h=>h) q2 k).1 c hx
  have hD:=kda_dict Z.N (mem1 hc) q1
  exact ⟨wpAny_getItem_of (intKind_is _ _ _ _) hD.mapOf hv1 ⟨adr,List.prefix_refl _,S.toks,hv2⟩,_,_,hD.typeIs,slot_dict_getitem.lookup⟩
 ·obtain ⟨ad,o,kvs,rfl,hc,q1,q2,q3,q4⟩:=Z.atS r1 h
  obtain ⟨_,rfl⟩:=r2.inv
  obtain ⟨v,hv1,hv2⟩:=(v9 (g:=Str.ofString) (λ a b h=>wZ h) q2 k).1 c hx
  have hD:=kda_dict Z.N (mem1 hc) q1
  exact ⟨wpAny_getItem_of (strKind_is _ _ _ _) hD.mapOf hv1 ⟨adr,List.prefix_refl _,S.toks,hv2⟩,_,_,hD.typeIs,slot_dict_getitem.lookup⟩
theorem Jq {a b:Expr} {ma mb:M AV} {p:Pos} (ha:RE g fr d sc Γ a ma) (hb:RE g fr d sc Γ b mb) (hs: ∀ o i,subscripted b false o i=operate [o,i] (getItem o i)) :
  RE g fr d sc Γ (.Subscript a b p) (bd ma λ o=>bd mb λ i=>getI o i):=by
 refine Sim2 ha hb (op:=λ o i=>subscriptTail a b o i) (mop:=getI) ?_ (T:=λ env=>eval (.Subscript a b p) env) λ env A s Q h=>Subscript_ h
 intro x d Γ hx va vb av bv μ adr s S r1 r2 c μ' e
 obtain ⟨rfl,h,T,id,hT,hl⟩:=W9 hx S r1 r2 e
 exact tail_any hT hl h (hs _ _)
theorem XO (hx:x.Ok g d) {va vb:Value} {a b:AV} {μ:Mem} {adr:List Addr} {s:Shared} (S:St g x Γ μ adr s) (r1:VR x.fd adr va a) (r2:VR x.fd adr vb b) :
  Does g x Γ (VR x.fd) (call (.builtin "list.append") [va,vb]) (appL a b) μ adr s:=by
 intro c μ' e
 refine hideP λ PZ hZ=> ?_
 obtain ⟨i,xs,rfl,h1,hk,rfl,rfl⟩:=W7 e
 obtain ⟨cs,pl,m,S⟩:=S
 obtain ⟨ad,vs,n,rfl,hc,q1,q2⟩:=S.atL r1 h1
 have N:=S.N
 have nd:=S.nd
 rw [flat1 hc] at N nd
 refine hZ ?_
 refine append_K S.F N (j7 nd) (λ h' F' N'=>⟨adr,List.prefix_refl _,⟨_,pl,m,S.put (c':=[(ad,listOf (vs ++ [vb]).toArray (n+1))]) hc (λ o e=>by rw [h1] at e;obtain rfl:=Option.some.inj e;rfl) rfl (.list (q1.app (.cons r2 .nil)) (by simp;exact Nat.lt_of_succ_le ‹_›)) F' ?_⟩, .none⟩) ?_
 ·rw [flat1s hc];rw [List.push_toArray] at N';exact N'
 ·have:=q1.len;simp [sizeLine_eq];unfold big at hk;exact (by omega)
theorem XP (hx:x.Ok g d) {va:Value} {t:Tok} {a:AV} {μ:Mem} {adr:List Addr} {s:Shared} (S:St g x Γ μ adr s) (r1:VR x.fd adr va a) :
  Does g x Γ (VR x.fd) (call (.builtin "list.pop") [va, .int 0 t]) (popL a) μ adr s:=by
 intro c μ' e
 obtain ⟨i,ys,rfl,h1,rfl⟩:=W8 e
 obtain ⟨cs,pl,m,S⟩:=S
 obtain ⟨ad,vs,n,rfl,hc,q1,q2⟩:=S.atL r1 h1
 cases q1 with
 | @cons v _ vs _ r q1 =>
 have N:=S.N
 have nd:=S.nd
 rw [flat1 hc] at N nd
 have hl:=q1.len
 simp only [List.length_cons] at q2
 refine kl_popAt (p:=[]) (q:=vs) (y:=v) (k:=0) S.F N (by decide) ?_ rfl (j7 nd) ?_ (λ h' F' N'=>⟨adr,List.prefix_refl _,⟨_,pl,m,S.put (c':=[(ad,listOf vs.toArray (n+1))]) hc (λ o e=>by rw [h1] at e;obtain rfl:=Option.some.inj e;rfl) rfl (.list q1 (Nat.le_of_lt ‹_›)) F' ?_⟩,r⟩)
 ·unfold seqIndex?
  simp
 ·simp [sizeLine_eq];unfold big at q2;exact (by omega)
 ·rw [flat1s hc];exact N'
theorem YN {κ:Type} [DecidableEq κ] {κ':Type} [DecidableEq κ'] {gg:κ'→κ} (hg: ∀ a b,gg a=gg b→a=b) {fd:Option Addr} {adr:List Addr} {kvs:List (κ × Value)} {es:List (κ' × AV)} (h:F2 (PR gg fd adr) kvs es) (k:κ') (nd:(kvs.map (·.1)).Nodup) :
  F2 (PR gg fd adr) (without kvs (gg k)) (del k es):=by
 induction h with
 | nil=>exact .nil
 | @cons e p kvs es h1 h2 ih =>
  obtain ⟨hk,hv'⟩:=h1
  simp only [List.map_cons,List.nodup_cons] at nd
  rw [gw]
  by_cases hp:p.1=k
  ·have he:e.1=gg k:=by rw [hk,hp]
   simp only [hp,if_true]
   have hno: ∀ q∈kvs,¬ q.1=gg k:=λ q hq e'=>nd.1 (by rw [he,← e'];exact List.mem_map_of_mem hq)
   have:without (e :: kvs) (gg k)=kvs:=by
    unfold without
    rw [List.filter_cons]
    simp only [he]
    rw [if_neg (by simp)]
    exact List.filter_eq_self.mpr λ q hq=>by simp [hno q hq]
   rw [this];exact h2
  ·have he: ¬ e.1=gg k:=λ q=>hp (hg _ _ (hk ▸ q))
   simp only [hp,if_false]
   have:without (e :: kvs) (gg k)=e :: without kvs (gg k):=by
    unfold without
    rw [List.filter_cons]
    rw [if_pos (by simp [he])]
   rw [this]
   exact .cons ⟨hk,hv'⟩ (ih nd.2)
theorem ZV {κ:Type} [DecidableEq κ] (k:κ): ∀ es:List (κ × AV),(del k es).length≤es.length
 | []=>Nat.le_refl _
 | e :: r=>by
  rw [gw]
  split
  ·simp
  ·have:=ZV k r;simp;omega
inductive Put1 (g:Gd) (fd:Option Addr) (adr:List Addr) (ad:Addr) (o':Obj) (i:Nat) (μ μ₁:Mem):Prop
 | mk (ao:AO) (e:μ₁=μ.set i ao) (c:CR g fd adr [(ad,o')] ao) (l: ∀ o,μ[i]? =some o→o.locked=false):Put1 g fd adr ad o' i μ μ₁
noncomputable def PutS (g:Gd) (fd:Option Addr) (adr:List Addr) (ad:Addr) {κ:Type} [DecidableEq κ] (knd:KeyKind g.prog g.w κ) (kvs:List (κ × Value)) (kk:κ) (dv k:AV) (i:Nat) (μ:Mem):Prop :=
 ∀ y v o',VR fd adr v y→o'.IsDictOf knd (stored kvs kk v)→ ∀ u μ₁,setI dv k y μ=some (u,μ₁)→Put1 g fd adr ad o' i μ μ₁
noncomputable def PutD (g:Gd) (fd:Option Addr) (adr:List Addr) (ad:Addr) {κ:Type} [DecidableEq κ] (knd:KeyKind g.prog g.w κ) (kvs:List (κ × Value)) (kk:κ) (dv k:AV) (i:Nat) (μ:Mem):Prop :=
 ∀ o',o'.IsDictOf knd (without kvs kk)→ ∀ u μ₁,delK dv k μ=some (u,μ₁)→Put1 g fd adr ad o' i μ μ₁
noncomputable def GetV (fd:Option Addr) (adr:List Addr) {κ:Type} [DecidableEq κ] (kvs:List (κ × Value)) (kk:κ) (r:Option AV):Prop:= ∀ y,r=some y→ ∃ v,valueAt kvs kk=some v∧VR fd adr v y
inductive DV (g:Gd) (fd:Option Addr) (va vb:Value) (dv k:AV) (μ μ':Mem) (adr:List Addr) (cs:List Led) (r:Option AV):Prop
 | mk (h0:μ'=μ) (i:Nat) (ad:Addr) (o:Obj) (κ:Type) (dec:DecidableEq κ) (knd:KeyKind g.prog g.w κ) (kvs:List (κ × Value)) (kk:κ) (h1:dv= .obj i) (h2:va= .ref ad) (h3:cs[i]? =some [(ad,o)]) (h4:o.IsDictOf knd kvs)
  (h5:(ad == sysModules)=false) (h6:knd.is kk vb=true) (h7:(keyPart vb).isSome=true) (h8:kvs.length≤big) (h9:GetV fd adr kvs kk r) (h10:r=none→valueAt kvs kk=none) (h11:PutS g fd adr ad knd kvs kk dv k i μ) (h12:PutD g fd adr ad knd kvs kk dv k i μ):DV g fd va vb dv k μ μ' adr cs r
theorem kT {κ κ':Type} [dec:DecidableEq κ] [DecidableEq κ'] {gk:κ'→κ} {knd:KeyKind g.prog g.w κ} {D:Bool→List (κ' × AV)→AO} {va vb:Value} {k:AV} {i:Nat} {lk:Bool} {es:List (κ' × AV)} {μ:Mem} {adr:List Addr} {cs:List Led} (kk:κ') (inj: ∀ a b,gk a=gk b→a=b)
  (hCR: ∀ {a o kvs es},o.IsDictOf knd kvs→F2 (PR gk x.fd adr) kvs es→(a == sysModules)=false→es.length≤big→CR g x.fd adr [(a,o)] (D false es))
  (hS: ∀ y u μ₁,setI (.obj i) k y μ=some (u,μ₁)→lk=false∧es.length < big∧μ₁=μ.set i (D false (put kk y es)))
  (hD: ∀ u μ₁,delK (.obj i) k μ=some (u,μ₁)→lk=false∧μ₁=μ.set i (D false (del kk es)))
  (hl: ∀ o,μ[i]? =some o→o.locked=lk) (A:AtD x adr cs i va gk knd es) (hk:knd.is (gk kk) vb=true) (hp:(keyPart vb).isSome=true):DV g x.fd va vb (.obj i) k μ μ adr cs (get kk es):=by
 obtain ⟨ad,o,kvs,rfl,hc,q1,q2,q3,q4⟩:=A
 have hv:=v9 inj q2 kk
 have nd:(kvs.map (·.1)).Nodup:=by obtain ⟨_,_,_,_,_,_,z⟩:=q1;exact z
 refine ⟨rfl,i,ad,o,κ,dec,_,kvs,gk kk,rfl,rfl,hc,q1,q3,hk,hp,by rw [q2.len];exact q4,hv.1,hv.2,λ y v o' hy ho' u μ₁ e=> ?_,λ o' ho' u μ₁ e=> ?_⟩
 ·obtain ⟨h,hb,e⟩:=hS y u μ₁ e
  have hpl:=put_len kk y es
  exact ⟨_,e,hCR ho' (XN inj q2 kk hy nd) q3 (Nat.le_trans ‹_› ‹_›),λ o e=>by rw [hl o e,h]⟩
 ·obtain ⟨h,e⟩:=hD u μ₁ e
  have:=ZV kk es
  exact ⟨_,e,hCR ho' (YN inj q2 kk nd) q3 (Nat.le_trans ‹_› ‹_›),λ o e=>by rw [hl o e,h]⟩
theorem xt {va vb:Value} {dv k:AV} {μ μ':Mem} {adr:List Addr} {s:Shared} {cs:List Led} {pl:Led} {m:Str→Option Value} {r:Option AV} (S:StE g x Γ μ adr s cs pl m) (r1:VR x.fd adr va dv) (r2:VR x.fd adr vb k)
  (e:getK dv k μ=some (r,μ')):DV g x.fd va vb dv k μ μ' adr cs r:=by
 obtain ⟨rfl,⟨i,k,lk,es,rfl,rfl,h,rfl⟩ | ⟨i,k,lk,es,rfl,rfl,h,rfl⟩⟩:=W6 e
 ·obtain ⟨_,rfl⟩:=r2.inv
  exact kT k (λ a b h=>h) .dI (λ _ _ _=>setI_dI h) (λ _ _=>Ue h) (λ o e=>by rw [h] at e;obtain rfl:=Option.some.inj e;rfl) (S.atI r1 h) (intKind_is _ _ _ _) rfl
 ·obtain ⟨_,rfl⟩:=r2.inv
  exact kT k (λ a b h=>wZ h) .dS (λ _ _ _=>Ud h) (λ _ _=>Uf h) (λ o e=>by rw [h] at e;obtain rfl:=Option.some.inj e;rfl) (S.atS r1 h) (strKind_is _ _ _ _) rfl
theorem zV {α:Type} {a b:α} {μ μ':Mem} (e:rt a μ=some (b,μ')):a=b∧μ=μ':=some2 e
theorem vI {α:Type} {a b:α} {μ μ':Mem} (e:rt a μ=some (b,μ')):b=a∧μ'=μ:=by cases e;exact ⟨rfl,rfl⟩
theorem YO (hx:x.Ok g d) {va vb:Value} {a b:AV} {μ:Mem} {adr:List Addr} {s:Shared} (S:St g x Γ μ adr s) (r1:VR x.fd adr va a) (r2:VR x.fd adr vb b) :
  Does g x Γ (VR x.fd) (call (.builtin "dict.get") [va,vb]) (dget1 a b) μ adr s:=by
 intro c μ' e
 obtain ⟨r,μ₁,e1,e2⟩:=bd_some (show bd (getK a b) _ μ=_ from e)
 obtain ⟨rfl,rfl⟩:=vI e2
 obtain ⟨cs,pl,m,S⟩:=S
 obtain ⟨eqq,i,ad,o,κ,_,knd,kvs,kk,rfl,rfl,hc,q1,q3,q5,q6,q7,q8,q9,_,_⟩:=xt S r1 r2 e1;subst μ'
 refine kdg_get1 S.N (mem1 hc) q1 q3 q5 _ rfl ⟨adr,List.prefix_refl _,⟨cs,pl,m,S.toks⟩,?_⟩
 cases r with
 | none=>exact (q9 rfl) ▸ (.none)
 | some y=>obtain ⟨v,h1,h2⟩:=q8 y rfl;exact h1 ▸ (h2)
theorem YP (hx:x.Ok g d) {va vb vc:Value} {a b z:AV} {μ:Mem} {adr:List Addr} {s:Shared} (S:St g x Γ μ adr s) (r1:VR x.fd adr va a) (r2:VR x.fd adr vb b) (r3:VR x.fd adr vc z) :
  Does g x Γ (VR x.fd) (call (.builtin "dict.get") [va,vb,vc]) (dget2 a b z) μ adr s:=by
 intro c μ' e
 obtain ⟨r,μ₁,e1,e2⟩:=bd_some (show bd (getK a b) _ μ=_ from e)
 obtain ⟨rfl,rfl⟩:=vI e2
 obtain ⟨cs,pl,m,S⟩:=S
 obtain ⟨eqq,i,ad,o,κ,_,knd,kvs,kk,rfl,rfl,hc,q1,q3,q5,q6,q7,q8,q9,_,_⟩:=xt S r1 r2 e1;subst μ'
 refine kdg_get2 S.N (mem1 hc) q1 q3 q5 _ rfl ⟨adr,List.prefix_refl _,⟨cs,pl,m,S.toks⟩,?_⟩
 cases r with
 | none=>exact (q9 rfl) ▸ (r3)
 | some y=>obtain ⟨v,h1,h2⟩:=q8 y rfl;exact h1 ▸ (h2)
theorem Jr:Op2 g (compareOp .NotIn) ninK:=by
 intro x d Γ hx va vb a b μ adr s S r1 r2 c μ' e
 obtain ⟨r,μ₁,e1,e2⟩:=bd_some (show bd (getK b a) _ μ=_ from e)
 obtain ⟨rfl,rfl⟩:=vI e2
 obtain ⟨cs,pl,m,S⟩:=S
 obtain ⟨eqq,i,ad,o,κ,_,knd,kvs,kk,rfl,rfl,hc,q1,q3,q5,q6,q7,q8,q9,_,_⟩:=xt S r2 r1 e1;subst μ'
 refine kdg_notin S.N (mem1 hc) q1 q3 q5 r.isSome ?_ ⟨adr,List.prefix_refl _,⟨cs,pl,m,S.toks⟩, .bool _⟩
 cases r with
 | none=>rw [q9 rfl];rfl
 | some y=>obtain ⟨v,h1,h2⟩:=q8 y rfl;rw [h1];rfl
theorem kU {va vb:Value} {more:List Value} {a b y:AV} {μ μ₁:Mem} {adr:List Addr} {s:Shared} {u:Unit} (S:St g x Γ μ adr s) (r1:VR x.fd adr va a) (r2:VR x.fd adr vb b) (hm:more=[]∨ ∃ z,more=[z])
  (hargs: ∀ dd,argsOk "dict.pop" ⟨dd :: vb :: more,[]⟩) (e1:getK a b μ=some (some y,μ)) (e2:delK a b μ=some (u,μ₁)) :
  wpAny (model g.prog g.w) x.A (call (.builtin "dict.pop") (va :: vb :: more)) (Aft g x Γ (VR x.fd) y μ₁ adr) nof s:=by
 refine hideP λ PZ hZ=> ?_
 obtain ⟨cs,pl,m,S⟩:=S
 obtain ⟨_,i,ad,o,κ,_,knd,kvs,kk,rfl,rfl,hc,q1,q3,q5,q6,q7,q8,q9,_,q11⟩:=xt S r1 r2 e1
 obtain ⟨v,h1,h2⟩:=q8 y rfl
 have hD:=kda_dict S.N (mem1 hc) q1
 have N:=S.N
 have nd:=S.nd
 rw [flat1 hc] at N nd
 obtain ⟨n1,n2⟩:=ub nd
 have hmm:=N (ad,o) (List.mem_append_right _ (.head _))
 refine hZ ?_
 refine call_meetsIn PySem.F.slot_dict_pop hD.typeIs PySem.F.entry_dict_pop (hargs _) (meets_dict_pop_there knd ad q5 more hm q6) ⟨kvs,v,hD,(by rw [sizeLine_eq];unfold big at q7;exact (by omega)),h1,λ h' hd' hs=> ?_⟩
 refine hideP λ PZ hZ=> ?_
 obtain ⟨o',ho',hd''⟩:=Heap.dictOf_iff.mp hd'
 obtain ⟨ao,rfl,hcr,hul⟩:=q11 o' hd'' u μ₁ e2
 refine hZ ?_
 refine ⟨adr,List.prefix_refl _,⟨_,pl,m,S.put (c':=[(ad,o')]) hc hul rfl hcr (S.F.change hs hmm.2.1 hmm.2.2) ?_⟩,h2⟩
 rw [flat1s hc]
 exact N.setIn n1 n2 hs ho'
theorem YQ (hx:x.Ok g d) {va vb:Value} {a b:AV} {μ:Mem} {adr:List Addr} {s:Shared} (S:St g x Γ μ adr s) (r1:VR x.fd adr va a) (r2:VR x.fd adr vb b) :
  Does g x Γ (VR x.fd) (call (.builtin "dict.pop") [va,vb]) (dpop1 a b) μ adr s:=by
 intro c μ' e
 refine hideP λ PZ hZ=> ?_
 obtain ⟨r,μ₁,e1,e2⟩:=bd_some (show bd (getK a b) _ μ=_ from e)
 have hμ:μ₁=μ:=by obtain ⟨cs,pl,m,S⟩:=S;exact (xt S r1 r2 e1).1
 subst hμ
 refine hZ ?_
 cases r with
 | none=>exact za e2
 | some y =>
  refine hideP λ PZ hZ=> ?_
  obtain ⟨u,μ₂,e3,e4⟩:=bd_some e2
  obtain ⟨rfl,rfl⟩:=vI e4
  refine hZ ?_
  exact kU S r1 r2 (.inl rfl) (λ dd=>PySem.F.args_dict_pop_2 _ _) e1 e3
theorem YR (hx:x.Ok g d) {va vb vc:Value} {a b z:AV} {μ:Mem} {adr:List Addr} {s:Shared} (S:St g x Γ μ adr s) (r1:VR x.fd adr va a) (r2:VR x.fd adr vb b) (r3:VR x.fd adr vc z) :
  Does g x Γ (VR x.fd) (call (.builtin "dict.pop") [va,vb,vc]) (dpop2 a b z) μ adr s:=by
 intro c μ' e
 refine hideP λ PZ hZ=> ?_
 obtain ⟨r,μ₁,e1,e2⟩:=bd_some (show bd (getK a b) _ μ=_ from e)
 have hμ:μ₁=μ:=by obtain ⟨cs,pl,m,S⟩:=S;exact (xt S r1 r2 e1).1
 subst hμ
 refine hZ ?_
 cases r with
 | none =>
  refine hideP λ PZ hZ=> ?_
  obtain ⟨rfl,rfl⟩:=vI e2
  obtain ⟨cs,pl,m,S⟩:=S
  obtain ⟨_,i,ad,o,κ,_,knd,kvs,kk,rfl,rfl,hc,q1,q3,q5,q6,q7,q8,q9,_,q11⟩:=xt S r1 r2 e1
  have hD:=kda_dict S.N (mem1 hc) q1
  refine hZ ?_
  exact call_meetsIn PySem.F.slot_dict_pop hD.typeIs PySem.F.entry_dict_pop (PySem.F.args_dict_pop_3 _ _ _) (meets_dict_pop_default knd ad q5 q3 q6 vc) ⟨kvs,hD,q9 rfl,⟨adr,List.prefix_refl _,⟨cs,pl,m,S.toks⟩,r3⟩⟩
 | some y =>
  refine hideP λ PZ hZ=> ?_
  obtain ⟨u,μ₂,e3,e4⟩:=bd_some e2
  obtain ⟨rfl,rfl⟩:=vI e4
  refine hZ ?_
  exact kU S r1 r2 (.inr ⟨vc,rfl⟩) (λ dd=>PySem.F.args_dict_pop_3 _ _ _) e1 e3
end
section
variable {g:Gd} {x:Cx} {d:Nat} {sc:Scope} {fr:Bool} {Γ' Γ:Cx0}
theorem qc: ∀ {l:List Value} {k:Nat} {v:Value},k < l.length→ki_setL l k v=some (l.set k v)
 | [],k,v,h=>by simp at h
 | y :: r,0,v,h=>rfl
 | y :: r,k+1,v,h=>by
  unfold ki_setL
  rw [qc (by simpa using h)]
  rfl
set_option tactic.hygienic true in
theorem XQ (hx:x.Ok g d) {va vb vc:Value} {a b c:AV} {μ:Mem} {adr:List Addr} {s:Shared} (S:St g x Γ μ adr s) (r1:VR x.fd adr va a) (r2:VR x.fd adr vb b) (r3:VR x.fd adr vc c) :
  Does g x Γ (λ _ _ _=>True) (setItem va vb vc) (setI a b c) μ adr s:=by
 intro u μ' e
 have dict: ∀ r,getK a b μ=some (r,μ)→wpAny (model g.prog g.w) x.A (setItem va vb vc) (Aft g x Γ (λ _ _ _=>True) () μ' adr) nof s:=by
  intro r e1
  obtain ⟨cs,pl,m,S⟩:=S
  obtain ⟨_,i,ad,o,κ,_,knd,kvs,kk,rfl,rfl,hc,q1,q3,q5,q6,q7,q8,q9,q10,_⟩:=xt S r1 r2 e1
  have N:=S.N
  have nd:=S.nd
  rw [flat1 hc] at N nd
  refine kda_set S.F N (ZU nd) q1 q5 (by rw [sizeLine_eq];unfold big at q7;lia) λ h' o' F' N' hd'=> ?_
  obtain ⟨ao,rfl,hcr,hul⟩:=q10 c vc o' r3 hd' u μ' e
  refine ⟨adr,List.prefix_refl _,⟨_,pl,m,S.put (c':=[(ad,o')]) hc hul rfl hcr F' ?_⟩,trivial⟩
  rw [flat1s hc];exact N'
 cases a <;> try (cases b <;> cases e;done)
 rename_i i
 cases b <;> try (first | exact za e | (obtain ⟨rfl,rfl⟩:=some2 e;done))
 ·rename_i k
  obtain ⟨o,h1,e2⟩:=zG (show bd (rd i) _ μ=_ from e)
  cases o <;> try (first | exact za e2 | (obtain ⟨rfl,rfl⟩:=some2 e2;done))
  ·rename_i xs
   dsimp only at e2
   obtain ⟨hk,e2⟩:=wd e2
   have:=xC e2
   subst this
   obtain ⟨cs,pl,m,S⟩:=S
   obtain ⟨t,rfl⟩:=r2.inv
   obtain ⟨ad',vs,n,rfl,hc,q1,q2⟩:=S.atL r1 h1
   have N:=S.N
   have nd:=S.nd
   rw [flat1 hc] at N nd
   have hl:=q1.len
   refine ki_set (its:=vs.toArray) (q:=vs.set k.toNat vc) S.F N hk.1 (by unfold big at q2;lia) (qc (by simp;lia)) (j7 nd) λ h' F' N'=> ?_
   refine ⟨adr,List.prefix_refl _,⟨_,pl,m,S.put (c':=[(ad',listOf (vs.set k.toNat vc).toArray n)]) hc (λ o e=>by rw [h1] at e;obtain rfl:=Option.some.inj e;rfl) rfl (.list (q1.set_ r3 _) (by simpa using q2)) F' ?_⟩,trivial⟩
   rw [flat1s hc];exact N'
  ·rename_i es
   refine dict (get k es) ?_
   show bd (rd i) _ _=_
   unfold bd rd
   rw [h1]
   rfl
 ·rename_i k
  obtain ⟨o,h1,e2⟩:=zG (show bd (rd i) _ μ=_ from e)
  cases o <;> try (first | exact za e2 | (obtain ⟨rfl,rfl⟩:=some2 e2;done))
  rename_i es
  refine dict (get k es) ?_
  show bd (rd i) _ _=_
  unfold bd rd
  rw [h1]
  rfl
/-! what is compared -/
mutual
noncomputable def D.py:D→PyData
 | .none=> .none
 | .int i=> .int i
 | .str s=> .str (Str.ofString s)
 | .node true ds=> .list (D.pys ds)
 | .node false ds=> .tuple (D.pys ds)
noncomputable def D.pys:List D→List PyData
 | []=>[]
 | d :: ds=>d.py :: D.pys ds
end
theorem Va (s:String):PyData.strOk (Str.ofString s)=true:=by
 unfold PyData.strOk
 rw [Str.ofString_eq_toList]
 simp only [Array.all_eq_true]
 intro i hi
 simp only [List.getElem_toArray,List.getElem_map,decide_eq_true_eq]
 have:=(s.toList[i]'(by simpa using hi)).valid
 have h2:(s.toList[i]'(by simpa using hi)).toNat < 0x110000:=by
  rcases this with h | h
  ·show UInt32.toNat _ < _;lia
  ·show UInt32.toNat _ < _;lia
 exact h2
mutual
theorem ba: ∀ x y:D,PyData.eqv x.py y.py=D.same x y
 | .none,y=>by
  cases y with
  | node l _=>cases l <;> rfl
  | _=>rfl
 | .int i,y=>by
  cases y with
  | node l _=>cases l <;> rfl
  | _=>rfl
 | .str i,y=>by
  cases y with
  | str j=>exact w0 ..
  | node l _=>cases l <;> rfl
  | _=>rfl
 | .node l xs,y=>by
  cases y with
  | node l' ys=>cases l <;> cases l' <;> first | exact rfl | (refine (ZW xs ys).trans ?_;exact (Bool.true_and _).symm)
  | _=>cases l <;> rfl
theorem ZW: ∀ xs ys:List D,PyData.eqvAll (D.pys xs) (D.pys ys)=D.sames xs ys
 | [],[]=>rfl
 | [],_ :: _=>rfl
 | _ :: _,[]=>rfl
 | x :: xs,y :: ys=>by show (PyData.eqv x.py y.py && PyData.eqvAll (D.pys xs) (D.pys ys))=(D.same x y && D.sames xs ys);rw [ba x y,ZW xs ys]
end
noncomputable def Lay (n:Nat) (p:PyData):Prop:=p.canLay0=true∧p.depth≤n
theorem ZX {n:Nat} {ps:List PyData} (h: ∀ p∈ps,Lay n p):PyData.canLayAll0 ps=true∧PyData.depthAll ps≤n:=by
 induction ps with
 | nil=>simp [PyData.canLayAll0,PyData.depthAll]
 | cons p ps ih =>
  have h1:=h p (.head _)
  have h2:=ih λ q hq=>h q (.tail _ ‹_›)
  simp only [PyData.canLayAll0,PyData.depthAll,h1.1,h2.1,Bool.and_self,true_and]
  have:=h1.2;have:=h2.2
  lia
theorem ZY {α β:Type} {f:α→Option β} {xs:List α} {ys:List β} (h:xs.mapM f=some ys):F2 (λ x y=>f x=some y) xs ys:=by
 induction xs generalizing ys with
 | nil=>cases h;exact .nil
 | cons x xs ih =>
  rw [List.mapM_cons] at h
  obtain ⟨y,hx,h⟩:=Option.bind_eq_some_iff.mp h
  obtain ⟨zs,hr,h⟩:=Option.bind_eq_some_iff.mp h
  obtain rfl:=Option.some.inj h
  exact .cons hx (ih hr)
theorem kX {adr:List Addr} {μ:Mem} {h:Heap} {fd:Option Addr} {n:Nat} {vs:List Value} {xs:List AV} {ds:List D} (q:F2 (VR fd adr) vs xs) (r:F2 (λ x y=>readD μ n x=some y) xs ds)
  (ih: ∀ v a d,VR fd adr v a→readD μ n a=some d→ ∃ as,Reads h v d.py as∧Lay n d.py): ∃ as,ReadsAll h vs (D.pys ds) as∧ ∀ p∈D.pys ds,Lay n p:=by
 induction q generalizing ds with
 | nil=>cases r;exact ⟨_, .nil,nofun⟩
 | cons h1 h2 ih2 =>
  cases r with
  | cons r1 r2 =>
   refine hideP λ PZ hZ=> ?_
   obtain ⟨as,a1,a2⟩:=ih _ _ _ h1 r1
   obtain ⟨bs,b1,b2⟩:=ih2 r2
   refine hZ ?_
   exact ⟨_, .cons a1 b1,λ p hp=>(List.mem_cons.mp hp).elim (λ e=>e ▸ a2) (b2 p)⟩
theorem XR {f:Nat→Option D} {v:AV} {d:D} (e:readA f v=some d):(v= .none∧d= .none)∨(∃ i,v= .int i∧d= .int i)∨(∃ s,v= .str s∧d= .str s)∨ ∃ i,v= .obj i∧f i=some d:=by
 cases v with
 | none=>cases e;exact .inl ⟨rfl,rfl⟩
 | int i=>cases e;exact .inr (.inl ⟨i,rfl,rfl⟩)
 | str s=>cases e;exact .inr (.inr (.inl ⟨s,rfl,rfl⟩))
 | obj i=>exact .inr (.inr (.inr ⟨i,rfl,e⟩))
 | bool b=>exact za e
 | dstr=>exact za e
theorem u9 {fd:Option Addr} {adr:List Addr} {h:Heap} {n:Nat} {f:Nat→Option D} (hf: ∀ i ad d,adr[i]? =some ad→f i=some d→ ∃ as,Reads h (.ref ad) d.py as∧Lay n d.py) {v:Value} {a:AV} {d:D} (r:VR fd adr v a) (e:readA f a=some d): ∃ as,Reads h v d.py as∧Lay n d.py:=by
 rcases XR e with ⟨rfl,rfl⟩ | ⟨i,rfl,rfl⟩ | ⟨s,rfl,rfl⟩ | ⟨i,rfl,e⟩ <;> cases r
 ·exact ⟨_, .none,rfl,Nat.zero_le _⟩
 ·exact ⟨_, .int _ _,rfl,Nat.zero_le _⟩
 ·exact ⟨_, .str _ _,by simp [Mine.D.py,PyData.canLay0,Va],by simp [Mine.D.py,PyData.depth]⟩
 ·exact hf _ _ _ ‹_› e
theorem XS {f:AV→Option D} {o:AO} {d:D} (e:readO f o=some d):(∃ xs ds,o= .list xs∧xs.mapM f=some ds∧d= .node true ds)∨ ∃ xs ds,o= .tup xs∧xs.mapM f=some ds∧d= .node false ds:=by
 cases o with
 | list xs=>obtain ⟨ds,e1,e2⟩:=Option.map_eq_some_iff.mp e;exact .inl ⟨xs,ds,rfl,e1,e2.symm⟩
 | tup xs=>obtain ⟨ds,e1,e2⟩:=Option.map_eq_some_iff.mp e;exact .inr ⟨xs,ds,rfl,e1,e2.symm⟩
 | _=>exact za e
set_option tactic.hygienic true in
theorem xa {μ:Mem} {adr:List Addr} {s:Shared} {cs:List Led} {pl:Led} {m:Str→Option Value} (S:StE g x Γ μ adr s cs pl m): ∀ (n:Nat) (v:Value) (a:AV) (D:D),VR x.fd adr v a→readD μ n a=some D→ ∃ as,Reads s.heap v D.py as∧Lay n D.py
 | 0,_,_,_,r,e=>u9 (λ _ _ _ _ e=>by exact za e) r e
 | n+1,_,_,_,r,e=>by
  refine u9 (f:=λ i=>μ[i]?.bind (readO (readD μ n))) (λ i ad d had e=> ?_) r e
  obtain ⟨o,ho,e⟩:=Option.bind_eq_some_iff.mp e
  obtain ⟨ch,hc,hr⟩:=S.chunk ho
  have had':=S.adr_of hc had
  rcases XS e with ⟨xs,ds,rfl,e1,rfl⟩ | ⟨xs,ds,rfl,e1,rfl⟩
  ·cases hr
   rename_i ad' vs k q1 q2
   simp only [hd1] at had';subst had'
   obtain ⟨as,b1,b2⟩:=kX q1 (ZY e1) (xa S n)
   have:=ZX b2
   exact ⟨_,reads_list_at (S.at1 hc) rfl rfl (by simpa using b1),by simp [Mine.D.py,PyData.canLay0,this.1],by simp [Mine.D.py,PyData.depth];lia⟩
  ·cases hr
   rename_i ad' vs k q1 q2
   simp only [hd1] at had';subst had'
   obtain ⟨as,b1,b2⟩:=kX q1 (ZY e1) (xa S n)
   have:=ZX b2
   exact ⟨_,reads_tuple_at (S.at1 hc) rfl rfl (by simpa using b1),by simp [Mine.D.py,PyData.canLay0,this.1],by simp [Mine.D.py,PyData.depth];lia⟩
inductive EqInv (a b c:AV) (μ μ':Mem):Prop
 | b (i j:Bool) (ea:a= .bool i) (eb:b= .bool j) (ec:c= .bool (decide (i=j))) (em:μ'=μ)
 | d (p q:D) (ea:readD μ 3 a=some p) (eb:readD μ 3 b=some q) (ec:c= .bool (D.same p q)) (em:μ'=μ)
theorem Z6 {a b c:AV} {μ μ':Mem} (e:eqM a b μ=some (c,μ')):EqInv a b c μ μ':=by
 have go:eqD a b μ=some (c,μ')→EqInv a b c μ μ':=λ h=>by
  obtain ⟨p,h1,h⟩:=Option.bind_eq_some_iff.mp h
  obtain ⟨q,h2,h⟩:=Option.bind_eq_some_iff.mp h
  obtain ⟨rfl,rfl⟩:=some2 h;exact .d p q h1 h2 rfl rfl
 cases a with
 | bool i=>cases b with
  | bool j=>cases e;exact .b i j rfl rfl rfl rfl
  | _=>exact go e
 | _=>exact go e
theorem vr {n:Nat} (hn:n≤3) {p:PyData} (h:Lay n p):SeqAt.shaped p=true:=by
 unfold SeqAt.shaped
 rw [h.1,Bool.true_and]
 exact decide_eq_true (Nat.le_trans h.2 (Nat.le_trans hn (by decide)))
theorem Kr:Op2 g (compareOp .Eq) eqM:=by
 intro x d Γ hx va vb a b μ adr s S r1 r2 c μ' e
 obtain (⟨i,j,rfl,rfl,rfl,rfl⟩ | ⟨p,q,e1,e2,rfl,rfl⟩):=Z6 e
 ·(obtain ⟨_,rfl⟩:=r1.inv);obtain ⟨_,rfl⟩:=r2.inv
  refine PyProof.Rows.eq_bool ?_
  have:(i == j)=decide (i=j):=by cases i <;> cases j <;> rfl
  rw [this]
  exact zD S
 ·obtain ⟨cs,pl,m,S'⟩:=id S
  refine hideP λ PZ hZ=> ?_
  obtain ⟨as,a1,a2⟩:=xa S' 3 va a p r1 e1
  obtain ⟨bs,b1,b2⟩:=xa S' 3 vb b q r2 e2
  refine hZ ?_
  refine eq_dataH a1 b1 (vr (Nat.le_refl _) a2) (vr (Nat.le_refl _) b2) (by have:=hx.un;lia) ?_
  rw [ba]
  exact zD S
theorem Ks:Op2 g (compareOp .NotEq) neM:=by
 intro x d Γ hx va vb a b μ adr s S r1 r2 c μ' e
 obtain ⟨c',μ₁,e,e'⟩:=bd_some (show bd (eqM a b) neg μ=_ from e)
 obtain (⟨i,j,rfl,rfl,rfl,rfl⟩ | ⟨p,q,e1,e2,rfl,rfl⟩):=Z6 e
 ·obtain ⟨rfl,rfl⟩:=zV e'
  (obtain ⟨_,rfl⟩:=r1.inv);obtain ⟨_,rfl⟩:=r2.inv
  refine PyProof.Rows.ne_bool ?_
  have:(i != j)= !decide (i=j):=by cases i <;> cases j <;> rfl
  rw [this]
  exact zD S
 ·obtain ⟨rfl,rfl⟩:=zV e'
  refine hideP λ PZ hZ=> ?_
  obtain ⟨cs,pl,m,S'⟩:=id S
  obtain ⟨as,a1,a2⟩:=xa S' 3 va a p r1 e1
  obtain ⟨bs,b1,b2⟩:=xa S' 3 vb b q r2 e2
  refine hZ ?_
  refine ne_dataH a1 b1 (vr (Nat.le_refl _) a2) (vr (Nat.le_refl _) b2) (by have:=hx.un;lia) ?_
  rw [ba]
  exact zD S
end
section
variable {g:Gd} {x:Cx} {d:Nat} {sc:Scope} {fr:Bool} {Γ' Γ:Cx0}
set_option tactic.hygienic true in
theorem xV {a:AV} {xs:List AV} {μ μ':Mem} (e:rdL a μ=some (xs,μ')):μ=μ'∧ ∃ i,a= .obj i∧μ[i]? =some (.list xs):=by
 cases a <;> try (first | exact za e | (obtain ⟨rfl,rfl⟩:=some2 e;done))
 rename_i i
 obtain ⟨o,h1,e2⟩:=zG (show bd (rd i) _ μ=_ from e)
 cases o <;> try (first | exact za e2 | (obtain ⟨rfl,rfl⟩:=some2 e2;done))
 obtain ⟨rfl,rfl⟩:=zV e2
 exact ⟨rfl,i,rfl,h1⟩
theorem StE.listAt {μ:Mem} {adr:List Addr} {s:Shared} {cs:List Led} {pl:Led} {m:Str→Option Value} (S:StE g x Γ μ adr s cs pl m) {v:Value} {i:Nat} {xs:List AV} (r:VR x.fd adr v (.obj i)) (h:μ[i]? =some (.list xs)) :
  ∃ (ad:Addr) (vs:List Value) (n:Nat),v= .ref ad∧cs[i]? =some [(ad,W.listOf vs.toArray n)]∧F2 (VR x.fd adr) vs xs∧xs.length≤big∧s.heap.IsList ad vs.toArray:=by
 obtain ⟨ad',vs,n,rfl,hc,q1,q2⟩:=S.atL r h
 exact ⟨_,vs,n,rfl,hc,q1,q2,⟨_,S.at1 hc,rfl,n,rfl⟩⟩
theorem vt (s:String):(Str.ofString s).length=s.length:=by
 rw [Str.ofString_eq_toList]
 show (Array.size _)=_
 exact List.length_map _
theorem qd (s t:String):Str.ofString s ++ Str.ofString t=Str.ofString (s ++ t):=by
 rw [Str.ofString_eq_toList,Str.ofString_eq_toList,Str.ofString_eq_toList]
 show Str.mk (_ ++ _)=_
 simp
set_option tactic.hygienic true in
theorem Js:Op2 g (binaryOp .Add) addM:=by
 intro x d Γ hx va vb a b μ adr s S r1 r2 c μ' e
 cases a <;> try (first | exact za e | (obtain ⟨rfl,rfl⟩:=some2 e;done))
 ·rename_i i
  cases b <;> try (first | exact za e | (obtain ⟨rfl,rfl⟩:=some2 e;done))
  obtain ⟨rfl,rfl⟩:=some2 e
  (obtain ⟨_,rfl⟩:=r1.inv);obtain ⟨_,rfl⟩:=r2.inv
  exact PyProof.Rows.add_int (xr S)
 ·rename_i p
  cases b <;> try (first | exact za e | (obtain ⟨rfl,rfl⟩:=some2 e;done))
  rename_i q
  replace e:(if p.length≤100∧q.length≤100 then rt (AV.str (p ++ q)) else fl) μ=_:=e
  split at e
  ·rename_i hl
   obtain ⟨rfl,rfl⟩:=zV e
   (obtain ⟨_,rfl⟩:=r1.inv);obtain ⟨_,rfl⟩:=r2.inv
   refine SB.add (λ t' k=>⟨adr,List.prefix_refl _,S.toks,?_⟩) (by rw [vt,vt,sizeLine_eq];lia)
   rw [qd]
   exact .str _ _
  ·exact za e
 ·rename_i i
  cases b <;> try (first | exact za e | (obtain ⟨rfl,rfl⟩:=some2 e;done))
  rename_i j
  obtain ⟨xs,μ₁,e1,e2⟩:=bd_some (show bd (rdL (.obj i)) _ μ=_ from e)
  obtain ⟨rfl,i',ei,h1⟩:=xV e1
  cases ei
  obtain ⟨ys,μ₂,e2,e3⟩:=bd_some e2
  obtain ⟨rfl,j',ej,h2⟩:=xV e2
  cases ej
  skip
  split at e3
  ·rename_i hl
   refine hideP λ PZ hZ=> ?_
   obtain ⟨rfl,rfl⟩:=yz e3
   obtain ⟨cs,pl,m,S⟩:=S
   obtain ⟨ad,vs,n,rfl,hc,q1,q2,L1⟩:=S.listAt r1 h1
   obtain ⟨ad',ws,n',rfl,hc',q1',q2',L2⟩:=S.listAt r2 h2
   refine hZ ?_
   refine add_lists S.F S.N L1 L2 (λ h' F' N'=> ?_) (by rw [q1.len,q1'.len,sizeLine_eq];unfold big at hl;lia)
   exact St.new1 hx S (.list (n:=0) ((q1.app q1').mono λ _ _=>VR.pre ⟨_,rfl⟩) (by simpa using hl)) F' N' S.lt
  ·exact za e3
noncomputable def Op1 (g:Gd) (t:Value→Sem Value) (m:AV→M AV):Prop :=
 ∀ (x:Cx) (d:Nat) (Γ:Cx0),x.Ok g d→ ∀ va a μ adr s,St g x Γ μ adr s→VR x.fd adr va a→Does g x Γ (VR x.fd) (t va) (m a) μ adr s
set_option tactic.hygienic true in
theorem wf (hf:Facts g) (c:Cl):Op1 g (λ v=>call (.builtin "isinstance") [v, .ref c.addr]) (isI c):=by
 intro x d Γ hx va a μ adr s S r b μ' e
 have X:g.K.In s.heap:=by obtain ⟨cs,pl,m,S⟩:=S;exact hx.kin.keeps S.F.keep
 cases a <;> try (first | exact za e | (obtain ⟨rfl,rfl⟩:=some2 e;done))
 ·obtain ⟨rfl,rfl⟩:=zV e
  obtain ⟨_,rfl⟩:=r.inv
  exact kia_one kitx_none X trivial (hf.kn c) nofun λ tk=>zD S.toks
 ·obtain ⟨rfl,rfl⟩:=zV e
  obtain ⟨_,rfl⟩:=r.inv
  exact kia_one kitx_int X trivial (hf.kj c) nofun λ tk=>zD S.toks
 ·rename_i i
  obtain ⟨o,h1,e2⟩:=zG (show bd (rd i) _ μ=_ from e)
  cases o <;> try (first | exact za e2 | (obtain ⟨rfl,rfl⟩:=some2 e2;done))
  rename_i dc fs
  obtain ⟨rfl,rfl⟩:=zV e2
  obtain ⟨ad,rfl,had⟩:=r.inv
  obtain ⟨cs,pl,m,S'⟩:=id S
  obtain ⟨ch,hc,hr⟩:=S'.chunk h1
  have had':=S'.adr_of hc had
  cases hr
  rename_i ad' dx es n q1 q2 q3
  simp only [hd1] at had';subst had'
  have I:InstAt s.heap ad' (instObj dc.addr dx) dc.addr (some (dictOf es n)):=InstAt.of_news S'.N (ym hc (.head _)) (ym hc (.tail _ (.head _)))
  obtain ⟨k1,k2,k3⟩:=hf.kc dc
  have k4:hasDictIn g.K dc.addr=true:=by
   have: ∀ c:Cl,hasDictIn g.K c.addr=true:=by
    intro c
    cases c with
    | code=>exact hf.kd _
    | glob=>exact hf.kd _
    | _=>exact hf.kd _
   exact this dc
  exact kia_one (kitx_own k1 k4 k2 hf.kg hf.kk k3) X I (hf.ki dc c) nofun λ tk=>zD S.toks
set_option tactic.hygienic true in
theorem Ju (hf:Facts g):Op1 g (λ v=>call (.builtin "isinstance") [v, .type "tuple"]) isT:=by
 intro x d Γ hx va a μ adr s S r b μ' e
 have X:g.K.In s.heap:=by obtain ⟨cs,pl,m,S⟩:=S;exact hx.kin.keeps S.F.keep
 cases a <;> try (first | exact za e | (obtain ⟨rfl,rfl⟩:=some2 e;done))
 ·obtain ⟨rfl,rfl⟩:=zV e
  obtain ⟨_,rfl⟩:=r.inv
  exact kia_one kitx_none X trivial hf.tn nofun λ tk=>zD S.toks
 ·obtain ⟨rfl,rfl⟩:=zV e
  obtain ⟨_,rfl⟩:=r.inv
  exact kia_one kitx_int X trivial hf.tj nofun λ tk=>zD S.toks
 ·rename_i i
  obtain ⟨o,h1,e2⟩:=zG (show bd (rd i) _ μ=_ from e)
  obtain ⟨cs,pl,m,S'⟩:=id S
  obtain ⟨ch,hc,hr⟩:=S'.chunk h1
  obtain ⟨ad,rfl,had⟩:=r.inv
  have had':=S'.adr_of hc had
  cases o <;> try (first | exact za e2 | (obtain ⟨rfl,rfl⟩:=some2 e2;done))
  ·obtain ⟨rfl,rfl⟩:=zV e2
   cases hr
   rename_i ad' vs n q1 q2
   simp only [hd1] at had';subst had'
   exact kia_one kitx_list X ⟨_,S'.at1 hc,rfl⟩ hf.tl nofun λ tk=>zD S.toks
  ·obtain ⟨rfl,rfl⟩:=zV e2
   cases hr
   rename_i ad' vs n q1 q2
   simp only [hd1] at had';subst had'
   exact kia_one kitx_tuple X ⟨_,S'.at1 hc,rfl⟩ hf.tt nofun λ tk=>zD S.toks
theorem Jv:Op1 g (λ v=>call (.builtin "len") [v]) lenM:=by
 intro x d Γ hx va a μ adr s S r b μ' e
 refine hideP λ PZ hZ=> ?_
 obtain ⟨xs,μ₁,e1,e2⟩:=bd_some (show bd (rdL a) _ μ=_ from e)
 obtain ⟨rfl,i,rfl,h1⟩:=xV e1
 obtain ⟨rfl,rfl⟩:=zV e2
 obtain ⟨cs,pl,m,S'⟩:=id S
 obtain ⟨ad,vs,n,rfl,hc,q1,q2,L1⟩:=S'.listAt r h1
 have hl:=q1.len
 refine hZ ?_
 refine call_len_list L1 (by simp only [List.size_toArray];unfold big at q2;lia) ?_
 simp only [List.size_toArray,hl]
 exact xr S
set_option tactic.hygienic true in
theorem Jw:Op1 g (λ v=>call (.builtin "abs") [v]) absM:=by
 intro x d Γ hx va a μ adr s S r b μ' e
 cases a <;> try (first | exact za e | (obtain ⟨rfl,rfl⟩:=some2 e;done))
 rename_i i
 obtain ⟨rfl,rfl⟩:=zV e
 obtain ⟨_,rfl⟩:=r.inv
 refine call_abs_int λ u tk=> ?_
 have:(if i < 0 then -i else i)=(i.natAbs:Int):=by lia
 rw [this]
 exact xr S
set_option tactic.hygienic true in
theorem Jx:Op1 g (λ v=>call (.type "str") [v]) strM:=by
 intro x d Γ hx va a μ adr s S r b μ' e
 cases a <;> try (first | exact za e | (obtain ⟨rfl,rfl⟩:=some2 e;done))
 rename_i i
 unfold strM at e
 dsimp only at e
 split at e
 ·rename_i hi
  obtain ⟨rfl,rfl⟩:=zV e
  obtain ⟨_,rfl⟩:=r.inv
  refine P.str_of_int ?_ ⟨adr,List.prefix_refl _,S.toks, .str _ _⟩
  have:i.natAbs < 10:=by lia
  exact Nat.lt_of_le_of_lt (Nat.log2_le_self _) (by lia)
 ·exact za e
theorem YS {b:AV} {bs:List AV} {is:List Int} (e:intsOf (b :: bs)=some is): ∃ i js,b= .int i∧intsOf bs=some js∧is=i :: js:=by
 cases b <;> try (exact za e)
 obtain ⟨js,e1,e2⟩:=Option.map_eq_some_iff.mp e
 exact ⟨_,js,rfl,e1,e2.symm⟩
theorem Z7 {fd:Option Addr} {adr:List Addr} {vs:List Value} {xs:List AV} {is:List Int} (h:F2 (VR fd adr) vs xs) (e:intsOf xs=some is):IntsAre vs is:=by
 induction h generalizing is with
 | nil=>cases e;exact .nil
 | cons h r ih =>
  obtain ⟨i,js,rfl,e1,rfl⟩:=YS e
  obtain ⟨t,rfl⟩:=h.inv
  exact .cons i t (ih e1)
theorem Z8 {fd:Option Addr} {adr:List Addr} {vs:List Value} {is:List Int} (h:IntsAre vs is):F2 (VR fd adr) vs (is.map AV.int):=by
 induction h with
 | nil=>exact .nil
 | cons n t r ih=>exact .cons (.int n t) ih
theorem Jy:Op1 g (λ v=>call (.builtin "sum") [v]) sumM:=by
 intro x d Γ hx va a μ adr s S r b μ' e
 refine hideP λ PZ hZ=> ?_
 obtain ⟨xs,μ₁,e1,e2⟩:=bd_some (show bd (rdL a) _ μ=_ from e)
 obtain ⟨rfl,i,rfl,h1⟩:=xV e1
 obtain ⟨is,μ₂,e2,e3⟩:=bd_some e2
 obtain ⟨e4,rfl⟩:=xq e2
 obtain ⟨rfl,rfl⟩:=zV e3
 obtain ⟨cs,pl,m,S⟩:=S
 obtain ⟨ad,vs,n,rfl,hc,q1,q2,L1⟩:=S.listAt r h1
 refine hZ ?_
 refine sumK hx.hnd S.F S.N L1 (Z7 q1 e4) λ h' tk t' F' N'=>⟨adr,List.prefix_refl _,⟨cs,pl,m,F',N',S.nd,S.ha,S.C,S.V,S.gens,S.drawn,S.os,S.ex,S.fa,S.lk,S.cl,S.km⟩, .int _ _⟩
theorem jv (i:Int): ∀ l:List Int,(ins i l).Perm (i :: l)
 | []=> .refl _
 | j :: r=>by
  rw [Yi]
  split
  ·exact .refl _
  ·exact ((jv i r).cons j).trans (.swap i j r)
theorem wM: ∀ l:List Int,(isort l).Perm l
 | []=> .refl _
 | i :: r=>(jv i _).trans ((wM r).cons i)
set_option tactic.hygienic true in
theorem qe (i:Int): ∀ l:List Int,l.Pairwise (· ≤ ·)→(ins i l).Pairwise (· ≤ ·)
 | [],_=>by simp [JU]
 | j :: r,h=>by
  rw [Yi]
  split
  ·rename_i hij
   refine List.pairwise_cons.mpr ⟨λ k hk=> ?_,h⟩
   rcases List.mem_cons.mp hk with rfl | hk
   ·exact hij
   ·exact Int.le_trans hij ((List.pairwise_cons.mp h).1 k hk)
  ·rename_i hij
   refine List.pairwise_cons.mpr ⟨λ k hk=> ?_,qe i r (List.pairwise_cons.mp h).2⟩
   rcases List.mem_cons.mp ((jv i r).mem_iff.mp hk) with rfl | hk
   ·lia
   ·exact (List.pairwise_cons.mp h).1 k hk
theorem uH: ∀ l:List Int,(isort l).Pairwise (· ≤ ·)
 | []=> .nil
 | i :: r=>qe i _ (uH r)
theorem uI {l l':List Int} (p:l'.Perm l) (s:l'.Pairwise (· ≤ ·)):l'=isort l :=
 List.Perm.eq_of_pairwise (le:=(· ≤ ·)) (λ a b _ _ h h'=>Int.le_antisymm h h') s (uH l) (p.trans (wM l).symm)
set_option tactic.hygienic true in
theorem YT:Op1 g (λ v=>call (.builtin "sorted") [v]) vF:=by
 intro x d Γ hx va a μ adr s S r b μ' e
 obtain ⟨xs,μ₁,e1,e2⟩:=bd_some (show bd (rdL a) _ μ=_ from e)
 obtain ⟨rfl,i,rfl,h1⟩:=xV e1
 obtain ⟨is,μ₂,e2,e3⟩:=bd_some e2
 obtain ⟨e4,rfl⟩:=xq e2
 split at e3
 ·rename_i h64
  refine hideP λ PZ hZ=> ?_
  obtain ⟨rfl,rfl⟩:=yz e3
  obtain ⟨cs,pl,m,S⟩:=S
  obtain ⟨ad,vs,n,rfl,hc,q1,q2,L1⟩:=S.listAt r h1
  have hi:=Z7 q1 e4
  refine hZ ?_
  refine sorted_N S.F S.N L1 hi (by rw [hi.length];exact h64) λ h' vs' ns' k F' N' i' p o=> ?_
  have:=uI p o
  subst this
  refine St.new1 hx S (o:=seqObj "list" vs'.toArray k) (.list (n:=k) (Z8 i') ?_) F' N' (λ p hp=>Nat.lt_succ_of_lt (S.lt p hp))
  rw [List.length_map,(wM is).length_eq]
  exact Nat.le_trans (Nat.le_of_lt h64) (by unfold big;exact Nat.le_add_left _ _)
 ·exact za e3
theorem XT {fd:Option Addr} {adr:List Addr} {kvs:List (Int × Value)} {es:List (Int × AV)} (h:F2 (PR (id:Int→Int) fd adr) kvs es):kvs.map (·.1)=es.map (·.1):=by
 induction h with
 | nil=>rfl
 | cons h1 _ ih=>simp [h1.1,ih]
theorem Z9: ∀ {vs:List Value} {ns:List Int},vs.length=ns.length→(∀ (j:Nat) (v:Value),vs[j]? =some v→ ∃ t n,v= .int n t∧ns[j]? =some n)→IntsAre vs ns
 | [],[],_,_=> .nil
 | v :: vs,n :: ns,hl,h=>by
  obtain ⟨t,n',rfl,e⟩:=h 0 v rfl
  simp at e;subst e
  exact .cons n t (Z9 (by simpa using hl) λ j v hv=>by simpa using h (j+1) v (by simpa using hv))
set_option tactic.hygienic true in
theorem YU:Op1 g (λ v=>call (.builtin "sorted") [v]) uL:=by
 intro x d Γ hx va a μ adr s S r b μ' e
 cases a <;> try (first | exact za e | (obtain ⟨rfl,rfl⟩:=some2 e;done))
 rename_i i
 obtain ⟨o,h1,e2⟩:=zG (show bd (rd i) _ μ=_ from e)
 cases o <;> try (first | exact za e2 | (obtain ⟨rfl,rfl⟩:=some2 e2;done))
 rename_i es
 dsimp only at e2
 split at e2
 ·rename_i h64
  obtain ⟨rfl,rfl⟩:=yz e2
  obtain ⟨cs,pl,m,S⟩:=S
  obtain ⟨ad',o,kvs,rfl,hc,q1,q2,q3,q4⟩:=S.atI r h1
  obtain ⟨ep,hD⟩:=(kda_dict S.N (mem1 hc) q1).dictAt
  have hl:=q2.len
  refine kdu_sorted (kdl_dict q3) hx.hnd S.F S.N hD (by rw [sizeLine_eq];lia) λ D h' tk vs F' N' lt hvl hv=> ?_
  have hi:IntsAre vs (kvs.map (·.1)):=by
   refine Z9 (by simp [hvl]) λ j v e=> ?_
   obtain ⟨k,y,a1,a2⟩:=hv j v e
   obtain ⟨t,rfl⟩: ∃ t,v= .int k t:=by
    have a2':Value.isInt k v=true:=a2
    cases v <;> simp [Value.isInt] at a2'
    subst a2'
    exact ⟨_,rfl⟩
   exact ⟨t,k,rfl,by simp [a1]⟩
  refine ksk_lsort (its:=vs.toArray) (news':=λ o=>(D,o) :: (cs.flatten ++ pl)) F' N' (λ o=> .head λ p hp=>Nat.ne_of_lt (lt p hp)) rfl hi (by rw [List.length_map];lia) λ vs' ns' c h'' F'' N'' i' _ p o _=> ?_
  have:=uI p o
  subst this
  rw [XT q2] at i'
  refine St.new1 hx S (o:=W.listOf vs'.toArray c) (.list (n:=c) (Z8 i') ?_) F'' N'' lt
  rw [List.length_map,(wM _).length_eq,List.length_map]
  exact Nat.le_trans (Nat.le_of_lt h64) (by unfold big;exact Nat.le_add_left _ _)
 ·exact za e2
end
section
variable {g:Gd} {x:Cx} {d:Nat} {sc:Scope} {fr:Bool} {Γ' Γ:Cx0}
/-! a slice read -/
theorem qf (hx:x.Ok g d) {value slice:PySem.Expr} {v vl vu:Value} {i:Nat} {xs:List AV} {lo hi:Option Int} {μ:Mem} {adr:List Addr} {s:Shared} (S:St g x Γ μ adr s) (r:VR x.fd adr v (.obj i)) (h:μ[i]? =some (.list xs))
  (pl:IsPart vl lo) (pu:IsPart vu hi) (hs: ∀ o i,subscripted slice false o i=operate [i,o] (getItem o i)) {ys:List AV} (hy: ∀ vs:List Value,F2 (VR x.fd adr) vs xs→F2 (VR x.fd adr) (slicePick vs.toArray lo hi none).toList ys) (hl:ys.length≤big) :
  wpAny (model g.prog g.w) x.A (subscriptTail value slice v (.ref s.heap.objs.size)) (Aft g x Γ (VR x.fd) (.obj μ.length) (μ ++ [.list ys]) adr) nof
   {s with heap:=s.heap.push {cls:= .type "slice",data:= .fields #[vl,vu, .none]}}:=by
 refine hideP λ PZ hZ=> ?_
 obtain ⟨cs,pl',m,S⟩:=S
 obtain ⟨ad,vs,n,rfl,hc,q1,q2,L1⟩:=S.listAt r h
 refine hZ ?_
 refine tail_any (T:="list") (Heap.IsList.typeIs (s:= {s with heap:=s.heap.push {cls:= .type "slice",data:= .fields #[vl,vu, .none]}}) (L1.push _)) list_getitem_lookup
  (wpAny_getItem_list_slice (L1.push _) (Heap.IsSliceOf.new ..) pl pu .none nofun ?_ (by simp only [List.size_toArray];rw [q1.len,sizeLine_eq];unfold big at q2;lia)) (hs _ _)
 have N1:=News.push (S.F.push {cls:= .type "slice",data:= .fields #[vl,vu, .none]}) (S.N.grown λ _ _ e=>Heap.get?_push_of_some _ e) {cls:= .type "list",data:= .seq (slicePick vs.toArray lo hi none)}
 refine St.new1 hx S (o:= {cls:= .type "list",data:= .seq (slicePick vs.toArray lo hi none)}) ?_ ((S.F.push _).push _) N1 (λ p hp=>by rw [Heap.size_push];exact Nat.lt_succ_of_lt (S.lt p hp))
 have e:(slicePick vs.toArray lo hi none)=(slicePick vs.toArray lo hi none).toList.toArray:=rfl
 exact e ▸ (.list (n:=0) ((hy vs q1).mono λ _ _=>VR.pre ⟨_,rfl⟩) hl)
theorem clampN (k:Int) (s:Nat) (h:0≤k):max 0 (min k (s:Int))=((min k.toNat s:Nat):Int):=by
 obtain ⟨n,rfl⟩:=Int.eq_ofNat_of_zero_le h
 rw [Int.toNat_natCast,Int.max_eq_right (Int.le_min.mpr ⟨Int.natCast_nonneg _,Int.natCast_nonneg _⟩)]
 rcases Nat.le_total n s with h | h
 ·rw [Nat.min_eq_left h,Int.min_eq_left (Int.ofNat_le.mpr h)]
 ·rw [Nat.min_eq_right h,Int.min_eq_right (Int.ofNat_le.mpr h)]
theorem XU (vs:List Value) (k:Int) (h:0≤k):(slicePick vs.toArray (some k) none none).toList=vs.drop k.toNat:=by
 have e:sliceBounds (some k) none none vs.toArray.size=(((min k.toNat vs.toArray.size:Nat):Int),((vs.toArray.size:Nat):Int),1):=by
  simp only [sliceBounds,Option.getD_none,show (1:Int) > 0 by decide,if_true,if_neg (Int.not_lt.mpr h)]
  rw [clampN _ _ h]
 rw [kmk_pick_nat _ e]
 show (vs.drop (min k.toNat vs.toArray.size)).take (vs.toArray.size - min k.toNat vs.toArray.size)=_
 rw [List.size_toArray,kmk_drop_min,List.take_of_length_le (by rw [List.length_drop];exact Nat.sub_le_sub_left (Nat.min_le_left _ _) _)]
theorem kY (vs:List Value) (k:Int) (h:0≤k):(slicePick vs.toArray none (some k) none).toList=vs.take k.toNat:=by
 have e:sliceBounds none (some k) none vs.toArray.size=(((0:Nat):Int),((min k.toNat vs.toArray.size:Nat):Int),1):=by
  simp only [sliceBounds,Option.getD_none,show (1:Int) > 0 by decide,if_true,if_neg (Int.not_lt.mpr h)]
  rw [clampN _ _ h];rfl
 rw [kmk_pick_nat _ e]
 show (vs.drop 0).take (min k.toNat vs.toArray.size - 0)=_
 rw [List.drop_zero,Nat.sub_zero,List.size_toArray,kmk_take_min]
set_option tactic.hygienic true in
theorem XV {a b:PySem.Expr} {ma mb:M AV} {p q:Pos} (ha:RE g fr d sc Γ a ma) (hb:RE g fr d sc Γ b mb) :
  RE g fr d sc Γ (.Subscript a (.Slice (some b) none none p) q) (bd ma λ o=>bd mb λ k=>slFrom o k):=by
 intro x hx hsc hfr μ adr s S c μ' e
 obtain ⟨o,μ₁,e1,e2⟩:=bd_some e
 obtain ⟨k,μ₂,e2,e3⟩:=bd_some e2
 refine Subscript_ (wpAny_mono (ha x hx hsc hfr μ adr s S o μ₁ e1) (λ vo s₁ z=> ?_) λ _ _ z=>z)
 obtain ⟨adr₁,p1,S1,r1⟩:=z
 refine wpAny_Slice (wpAny_mono (hb x hx hsc hfr μ₁ adr₁ s₁ S1 k μ₂ e2) (λ vk s₂ z=> ?_) λ _ _ z=>z)
 obtain ⟨adr₂,p2,S2,r2⟩:=z
 refine wpAny_pure (wpAny_pure ?_)
 cases k <;> try (first | exact za e3 | (cases e3;done))
 rename_i k
 replace e3:(if 0≤k then bd (rdL _) (λ xs=>al (.list (xs.drop k.toNat))) else fl) _=_:=e3
 split at e3
 ·rename_i hk
  obtain ⟨xs,μ₃,e4,e5⟩:=bd_some e3
  obtain ⟨rfl,i,rfl,h1⟩:=xV e4
  obtain ⟨rfl,rfl⟩:=yz e5
  obtain ⟨_,rfl⟩:=r2.inv
  have hbig:xs.length≤big:=by obtain ⟨cs,pl,m,S'⟩:=S2;obtain ⟨_,_,_,_,_,_,q2,_⟩:=S'.listAt (r1.pre p2) h1;exact q2
  refine wpAny_mono (qf hx S2 (r1.pre p2) h1 (.int _ _) .none (λ _ _=>rfl) (ys:=xs.drop k.toNat) (λ vs q=>by rw [XU _ _ hk];exact q.drop_ _) (by rw [List.length_drop];lia)) (λ v s₃ z=> ?_) λ _ _ z=>z
  obtain ⟨adr₃,p3,S3,r3⟩:=z
  exact ⟨adr₃,(p1.trans p2).trans p3,S3,r3⟩
 ·exact za e3
set_option tactic.hygienic true in
theorem Ug {a b:PySem.Expr} {ma mb:M AV} {p q:Pos} (ha:RE g fr d sc Γ a ma) (hb:RE g fr d sc Γ b mb) :
  RE g fr d sc Γ (.Subscript a (.Slice none (some b) none p) q) (bd ma λ o=>bd mb λ k=>slTo o k):=by
 intro x hx hsc hfr μ adr s S c μ' e
 obtain ⟨o,μ₁,e1,e2⟩:=bd_some e
 obtain ⟨k,μ₂,e2,e3⟩:=bd_some e2
 refine Subscript_ (wpAny_mono (ha x hx hsc hfr μ adr s S o μ₁ e1) (λ vo s₁ z=> ?_) λ _ _ z=>z)
 obtain ⟨adr₁,p1,S1,r1⟩:=z
 refine wpAny_Slice (wpAny_pure (wpAny_mono (hb x hx hsc hfr μ₁ adr₁ s₁ S1 k μ₂ e2) (λ vk s₂ z=> ?_) λ _ _ z=>z))
 obtain ⟨adr₂,p2,S2,r2⟩:=z
 refine wpAny_pure ?_
 cases k <;> try (first | exact za e3 | (cases e3;done))
 rename_i k
 unfold slTo at e3
 dsimp only at e3
 split at e3
 ·rename_i hk
  obtain ⟨xs,μ₃,e4,e5⟩:=bd_some e3
  obtain ⟨rfl,i,rfl,h1⟩:=xV e4
  obtain ⟨rfl,rfl⟩:=yz e5
  obtain ⟨_,rfl⟩:=r2.inv
  have hbig:xs.length≤big:=by obtain ⟨cs,pl,m,S'⟩:=S2;obtain ⟨_,_,_,_,_,_,q2,_⟩:=S'.listAt (r1.pre p2) h1;exact q2
  refine wpAny_mono (qf hx S2 (r1.pre p2) h1 .none (.int _ _) (λ _ _=>rfl) (ys:=xs.take k.toNat) (λ vs q=>by rw [kY _ _ hk];exact q.take_ _) (by rw [List.length_take];lia)) (λ v s₃ z=> ?_) λ _ _ z=>z
  obtain ⟨adr₃,p3,S3,r3⟩:=z
  exact ⟨adr₃,(p1.trans p2).trans p3,S3,r3⟩
 ·exact za e3
set_option tactic.hygienic true in
theorem Jz {b:PySem.Expr} {mb:M AV} {p q:Pos} {u:Nat} (hb:RE g fr d sc Γ b mb) (hs: ∀ o i,subscripted b false o i=operate [o,i] (getItem o i)) :
  RE g fr d sc Γ (.Subscript (.Constant (.str (Str.ofString "SAH")) u p) b q) (bd mb λ k=>sah k):=by
 intro x hx hsc hfr μ adr s S c μ' e
 obtain ⟨k,μ₁,e1,e2⟩:=bd_some e
 refine Subscript_ (show wpAny _ _ (mkText (Str.ofString "SAH")) _ nof s from wpAny_mkText (wpAny_mono (hb x hx hsc hfr μ adr _ S.toks k μ₁ e1) (λ vk s₁ z=> ?_) λ _ _ z=>z))
 obtain ⟨adr₁,p1,S1,r1⟩:=z
 cases k <;> try (first | exact za e2 | (cases e2;done))
 rename_i k
 obtain ⟨_,rfl⟩:=r1.inv
 have go: ∀ {j:Int} {t:Tok} {y:String} {u:Tok},(decide (j < -(2 ^ 63:Int)) || decide (j ≥ 2 ^ 63))=false→(∃ ch:Nat,(seqIndex? j (Str.ofString "SAH").length).bind ((Str.ofString "SAH").cps[·]?)=some ch∧Str.ofString y=⟨#[ch]⟩) →
   wpAny (model g.prog g.w) x.A (subscriptTail (.Constant (.str (Str.ofString "SAH")) u p) b (.str (Str.ofString "SAH") t) (.int j u)) (Aft g x Γ (VR x.fd) (.str y) μ₁ adr) nof s₁:=by
  rintro j t y u hj ⟨ch,h1,h2⟩
  refine tail_any (T:="str") (typeIs_str _ _ _) PySem.F.slot_str_getitem.lookup (P.getItem_str hj h1 ⟨adr₁,p1,S1.toks,?_⟩) (hs _ _)
  rw [← h2]
  exact .str _ _
 unfold sah at e2
 dsimp only at e2
 split at e2
 ·rename_i h;subst h;obtain ⟨rfl,rfl⟩:=zV e2
  exact go (by decide) ⟨83,by decide +kernel,by decide +kernel⟩
 ·split at e2
  ·rename_i h;subst h;obtain ⟨rfl,rfl⟩:=zV e2
   exact go (by decide) ⟨65,by decide +kernel,by decide +kernel⟩
  ·split at e2
   ·rename_i h;subst h;obtain ⟨rfl,rfl⟩:=zV e2
    exact go (by decide) ⟨72,by decide +kernel,by decide +kernel⟩
   ·exact za e2
end
section
variable {g:Gd} {x:Cx} {d:Nat} {sc:Scope} {fr:Bool} {Γ' Γ:Cx0}
theorem St.kin (hx:x.Ok g d) {μ:Mem} {adr:List Addr} {s:Shared} (S:St g x Γ μ adr s):g.K.In s.heap:=by obtain ⟨cs,pl,m,S⟩:=S;exact hx.kin.keeps S.F.keep
noncomputable def NameIs (g:Gd) (sc:Scope) (n:Str) (fv:Value):Prop :=
 ∀ (x:Cx) (d:Nat),x.Ok g d→x.env.scope=sc→ ∀ Γ μ adr s p (Q:Value→Shared→Prop),St g x Γ μ adr s→Q fv s→wpAny (model g.prog g.w) x.A (eval (.Name n p) x.env) Q nof s
theorem NameIs.glob {n:Str} {fv:Value} (e:nsIn g.K mainGlobals n=some (some fv)) (hk:sc.names.lookup n=some .globalImplicit) (hd:(n == ("__debug__" :Str))=false:=by decide):NameIs g sc n fv:=by
 intro x d hx hsc Γ μ adr s p Q S hq
 obtain ⟨cs,pl,m,S⟩:=S
 exact nameG_K S.F hx.kin (topRead_of hx.top) e hq hx.eg hx.ek (by show x.env.scope.names.lookup n=_;rw [hsc];exact hk) hd
theorem NameIs.built {n:Str} {fv:Value} (e:nsIn g.K mainGlobals n=some none) (hk:sc.names.lookup n=some .globalImplicit) (hv:bootBuiltins n=some fv) (hn:n≠"__name__") (hd:(n == ("__debug__" :Str))=false:=by decide):NameIs g sc n fv:=by
 intro x d hx hsc Γ μ adr s p Q S hq
 obtain ⟨cs,pl,m,S⟩:=S
 have T:=topRead_of hx.top
 exact Name_function_global hx.ek (by show x.env.scope.names.lookup n=_;exact hsc ▸ (hk))
  (loadGlobal_builtin (hx.eg ▸ T.g.keeps S.F.keep) (mg_none_of hx.kin T.g e) (hx.eb ▸ T.b.keeps S.F.keep) ((T.builtins n hn).trans hv) hq) hd
noncomputable def Kp (g:Gd) (fv:Value):Prop:= ∀ h,g.K.In h→ ∃ k,(k=Keeper.frame∨k=Keeper.machine∨k=Keeper.boundFrame)∧Looks (model g.prog g.w) h (keeperOf fv) k
theorem Kp.K {fv:Value} (h:keepIn g.K fv=true):Kp g fv:=λ hp X=>keeps_K h hp X
theorem Kp.builtin {id:String}:Kp g (.builtin id):=λ _ _=>⟨.machine, .inr (.inl rfl),Looks.of_pure rfl⟩
theorem Kp.type {id:String}:Kp g (.type id):=λ _ _=>⟨.machine, .inr (.inl rfl),Looks.of_pure rfl⟩
theorem YV {es:List PySem.Expr} {env:Env} {pos:Pos} (h:starEach es env=es.map λ e=>(false,eval e env)):(backTo pos (starEach es env)).any (·.1)=false:=by
 rw [h]
 unfold backTo
 simp
theorem zU {es:List PySem.Expr} {ms:List (M AV)} {β:Type} {R:List Addr→Value→β→Prop} {fv:Value} {first:List Value} {F:List AV→M β} {pos:Pos} {μ:Mem} {adr:List Addr} {s:Shared} (hx:x.Ok g d) (hsc:x.env.scope=sc) (hfr:fr=true→x.env=x.fenv)
  (hk:Kp g fv) (ha:REs g fr d sc Γ es ms) (S:St g x Γ μ adr s)
  (hc: ∀ vs as μ₁ adr₁ s₁,adr <+: adr₁→St g x Γ μ₁ adr₁ s₁→F2 (VR x.fd adr₁) vs as→Does g x Γ R (call fv (first ++ vs)) (F as) μ₁ adr₁ s₁) :
  Does g x Γ R (callWith pos fv first (backTo pos (starEach es x.env)) (backToKw pos (keywordEach [] x.env))) (bd (evs ms) F) μ adr s:=by
 intro c μ' e
 obtain ⟨as,μ₁,e1,e2⟩:=bd_some e
 show wpAny _ _ (callWith pos fv first (backTo pos (starEach es x.env)) []) _ _ _
 have hp:=YV (pos:=pos) (ha.star x.env)
 have run:=ha.run x hx hsc hfr pos μ adr s S as μ₁ e1
 have cont: ∀ vs s₁,Aft g x Γ (λ adr=>F2 (VR x.fd adr)) as μ₁ adr vs s₁→g.K.In s₁.heap∧wpAny (model g.prog g.w) x.A (call fv (first ++ vs)) (Aft g x Γ R c μ' adr) nof s₁:=by
  rintro vs s₁ ⟨adr₁,p1,S1,r1⟩
  refine ⟨S1.kin hx,wpAny_mono (hc vs as μ₁ adr₁ s₁ p1 S1 r1 c μ' e2) (λ v s₂ z=> ?_) λ _ _ z=>z⟩
  obtain ⟨adr₂,p2,S2,r2⟩:=z
  exact ⟨adr₂,p1.trans p2,S2,r2⟩
 cases es with
 | nil =>
  have hl:=ha.len
  cases ms with
  | nil =>
   obtain ⟨rfl,rfl⟩:=some2 e1
   exact callWith_of rfl hk (evalArgs_nil3 (cont [] s ⟨adr,List.prefix_refl _,S, .nil⟩))
  | cons m ms=>simp at hl
 | cons e₁ es =>
  have he:starEach (e₁ :: es) x.env=(false,eval e₁ x.env) :: (es.map λ e=>(false,eval e x.env)):=ha.star x.env
  refine callWith_of (by simp only [hp,List.any_nil,Bool.or_false]) hk ?_
  rw [he] at run ⊢
  exact evalArgs_plain (wpAny_mono run (λ vs s₁ z=>cont vs s₁ z) λ _ _ z=>z)
end
noncomputable def Sub (Γ' Γ:Cx0):Prop:= ∀ (i:Nat) (av:AV),Γ'[i]? =some (some av)→Γ[i]? =some (some av)
theorem Sub.nil {Γ:Cx0}:Sub [] Γ:=λ i av e=>by simp at e
theorem Sub.refl {Γ:Cx0}:Sub Γ Γ:=λ _ _ e=>e
theorem Sub.same {Γ' Γ:Cx0} {a:Option AV} (h:Sub Γ' Γ):Sub (a :: Γ') (a :: Γ):=λ i av e=>by
 cases i with
 | zero=>simpa using e
 | succ i=>simp at e ⊢;exact h i av e
theorem Sub.drop {Γ' Γ:Cx0} {a:Option AV} (h:Sub Γ' Γ):Sub (none :: Γ') (a :: Γ):=λ i av e=>by
 cases i with
 | zero=>simp at e
 | succ i=>simp at e ⊢;exact h i av e
theorem Sub.trans {Γ Γ' Γ'':Cx0} (h:Sub Γ Γ') (h':Sub Γ' Γ''):Sub Γ Γ'':=λ i av e=>h' i av (h i av e)
section
variable {g:Gd} {x:Cx} {d:Nat} {sc:Scope} {z fr:Bool} {Γc Γ' Γ:Cx0}
theorem StE.sub {μ:Mem} {adr:List Addr} {s:Shared} {cs:List Led} {pl:Led} {m:Str→Option Value} (h:Sub Γ' Γ) (S:StE g x Γ μ adr s cs pl m):StE g x Γ' μ adr s cs pl m :=
 ⟨S.F,S.N,S.nd,S.ha,S.C,λ i av e=>S.V i av (h i av e),S.gens,S.drawn,S.os,S.ex,S.fa,S.lk,S.cl,S.km⟩
theorem St.sub {μ:Mem} {adr:List Addr} {s:Shared} (h:Sub Γ' Γ) (S:St g x Γ μ adr s):St g x Γ' μ adr s:=let ⟨cs,pl,m,z⟩:=S;⟨cs,pl,m,z.sub h⟩
noncomputable def FlowR (g:Gd) (x:Cx) {ρ:Type} (G:ρ→Cx0) (Γc:Cx0) (b:Fl ρ) (μ:Mem) (adr:List Addr) (s:Shared) (fl:Flow):Prop:=match b with
 | .nxt r=>fl= .next∧St g x (G r) μ adr s
 | .cnt=>fl= .cont∧St g x Γc μ adr s
 | .ret v=> ∃ vv,fl= .ret vv∧VR x.fd adr vv v∧St g x [] μ adr s
noncomputable def DoesS (g:Gd) (x:Cx) {ρ:Type} (G:ρ→Cx0) (Γc:Cx0) (t:Sem Flow) (m:M (Fl ρ)) (μ:Mem) (adr:List Addr) (s:Shared):Prop :=
 ∀ b μ',m μ=some (b,μ')→wpAny (model g.prog g.w) x.A t (λ fl s'=> ∃ adr',adr <+: adr'∧FlowR g x G Γc b μ' adr' s' fl) nof s
noncomputable def RS (g:Gd) (z:Bool) (d:Nat) (sc:Scope) (Γ Γc:Cx0) {ρ:Type} (G:ρ→Cx0) (ss:List Stmt) (m:M (Fl ρ)):Prop :=
 ∀ x:Cx,x.Ok g d→x.env.scope=sc→x.env=x.fenv→x.fz=z→ ∀ μ adr s,St g x Γ μ adr s→DoesS g x G Γc (execs ss x.env) m μ adr s
noncomputable def R1 (g:Gd) (z:Bool) (d:Nat) (sc:Scope) (Γ Γc:Cx0) {ρ:Type} (G:ρ→Cx0) (st:Stmt) (m:M (Fl ρ)):Prop :=
 ∀ x:Cx,x.Ok g d→x.env.scope=sc→x.env=x.fenv→x.fz=z→ ∀ μ adr s,St g x Γ μ adr s→DoesS g x G Γc (exec st x.env) m μ adr s
theorem FlowR.pre {ρ:Type} {G:ρ→Cx0} {b:Fl ρ} {μ:Mem} {adr₀ adr:List Addr} {s:Shared} {fl:Flow} (p:adr₀ <+: adr) (h: ∃ adr',adr <+: adr'∧FlowR g x G Γc b μ adr' s fl): ∃ adr',adr₀ <+: adr'∧FlowR g x G Γc b μ adr' s fl :=
 let ⟨adr',q,r⟩:=h;⟨adr',p.trans q,r⟩
theorem xu {α β γ:Type} (m:M α) (f:α→M β) (k:β→M γ):bd (bd m f) k=bd m λ a=>bd (f a) k:=by
 funext μ
 unfold bd
 cases h:m μ with
 | none=>rfl
 | some r=>obtain ⟨a,μ'⟩:=r;rfl
theorem DoesS.cons {ρ β:Type} {G:ρ→Cx0} {Γ':β→Cx0} {st:Stmt} {rest:List Stmt} {m:M β} {k:β→M (Fl ρ)} {μ:Mem} {adr:List Addr} {s:Shared}
  (h: ∀ b μ₁,m μ=some (b,μ₁)→wpAny (model g.prog g.w) x.A (exec st x.env) (λ fl s₁=>fl= .next∧ ∃ adr₁,adr <+: adr₁∧St g x (Γ' b) μ₁ adr₁ s₁) nof s)
  (hk: ∀ b μ₁ adr₁ s₁,St g x (Γ' b) μ₁ adr₁ s₁→DoesS g x G Γc (execs rest x.env) (k b) μ₁ adr₁ s₁):DoesS g x G Γc (execs (st :: rest) x.env) (bd m k) μ adr s:=by
 intro b μ' e
 obtain ⟨a,μ₁,e1,e2⟩:=bd_some e
 refine wpAny_execs_cons (wpAny_mono (h a μ₁ e1) (λ fl s₁ z=> ?_) λ _ _ z=>z)
 obtain ⟨rfl,adr₁,p1,S1⟩:=z
 exact wpAny_mono (hk a μ₁ adr₁ s₁ S1 b μ' e2) (λ fl s₂ z=>FlowR.pre p1 z) λ _ _ z=>z
theorem JA {ρ:Type} {G:ρ→Cx0} {r:ρ} (h:Sub (G r) Γ):RS g z d sc Γ Γc G [] (rt (.nxt r)):=λ x hx _ _ _ μ adr s S b μ' e=>by
 obtain ⟨rfl,rfl⟩:=some2 e
 exact wpAny_execs_nil ⟨adr,List.prefix_refl _,rfl,S.sub h⟩
theorem JB {ρ:Type} {G:ρ→Cx0} {st:Stmt} {m:M (Fl ρ)} (h:R1 g z d sc Γ Γc G st m):RS g z d sc Γ Γc G [st] m:=λ x hx hsc hfr hz μ adr s S b μ' e=>by
 refine wpAny_execs_cons (wpAny_mono (h x hx hsc hfr hz μ adr s S b μ' e) (λ fl s₁ z=> ?_) λ _ _ z=>z)
 cases fl with
 | next=>exact wpAny_execs_nil z
 | _=>exact z
theorem JC {ρ σ:Type} {G':ρ→Cx0} {G:σ→Cx0} {st:Stmt} {rest:List Stmt} {m:M (Fl ρ)} {k:ρ→M (Fl σ)} (h:R1 g z d sc Γ Γc G' st m) (hk: ∀ r,RS g z d sc (G' r) Γc G rest (k r)):RS g z d sc Γ Γc G (st :: rest) (thnG G' m k):=λ x hx hsc hfr hz μ adr s S b μ' e=>by
 obtain ⟨f,μ₁,e1,e2⟩:=bd_some (show bd m _ μ=_ from e)
 refine wpAny_execs_cons (wpAny_mono (h x hx hsc hfr hz μ adr s S f μ₁ e1) (λ fl s₁ z=> ?_) λ _ _ z=>z)
 obtain ⟨adr₁,p1,z⟩:=z
 cases f with
 | nxt r =>
  obtain ⟨rfl,S1⟩:=z
  exact wpAny_mono (hk r x hx hsc hfr hz μ₁ adr₁ s₁ S1 b μ' e2) (λ fl s₂ z=>FlowR.pre p1 z) λ _ _ z=>z
 | cnt =>
  obtain ⟨rfl,S1⟩:=z
  obtain ⟨rfl,rfl⟩:=some2 e2
  exact ⟨adr₁,p1,rfl,S1⟩
 | ret v =>
  obtain ⟨vv,rfl,r,S1⟩:=z
  obtain ⟨rfl,rfl⟩:=some2 e2
  exact ⟨adr₁,p1,vv,rfl,r,S1⟩
theorem Kt {ρ:Type} {G:ρ→Cx0} {test:Expr} {body orelse:List Stmt} {pos:Pos} {mc:M Bool} {m1 m2:M (Fl ρ)} (hc:RC g true d sc Γ test mc) (h1:RS g z d sc Γ Γc G body m1) (h2:RS g z d sc Γ Γc G orelse m2) :
  R1 g z d sc Γ Γc G (.If test body orelse pos) (bd mc λ c=>if c then m1 else m2):=λ x hx hsc hfr hz μ adr s S b μ' e=>by
 obtain ⟨c,μ₁,e1,e2⟩:=bd_some e
 refine wpAny_If (wpAny_mono (hc x hx hsc (λ _=>hfr) μ adr s S c μ₁ e1) (λ c' s₁ z=> ?_) λ _ _ z=>z)
 obtain ⟨adr₁,p1,S1,eqq⟩:=z;subst c'
 cases c
 ·exact wpAny_mono (h2 x hx hsc hfr hz μ₁ adr₁ s₁ S1 b μ' e2) (λ fl s₂ z=>FlowR.pre p1 z) λ _ _ z=>z
 ·exact wpAny_mono (h1 x hx hsc hfr hz μ₁ adr₁ s₁ S1 b μ' e2) (λ fl s₂ z=>FlowR.pre p1 z) λ _ _ z=>z
theorem Ku {ρ:Type} {G:ρ→Cx0} {ss:List Stmt}:RS g z d sc Γ Γc G ss fl:=λ x _ _ _ _ μ adr s _ b μ' e=>by cases e
theorem JD {ρ:Type} {G:ρ→Cx0} {e:Expr} {p:Pos} {rest:List Stmt} {m:M AV} (h:RE g true d sc Γ e m):RS g z d sc Γ Γc G (.Return (some e) p :: rest) (bd m λ r=>rt (.ret r)):=λ x hx hsc hfr hz μ adr s S b μ' e=>by
 obtain ⟨v,μ₁,e1,e2⟩:=bd_some e
 cases e2
 refine wpAny_execs_cons (wpAny_Return_some (wpAny_mono (h x hx hsc (λ _=>hfr) μ adr s S v μ' e1) (λ vv s₁ z=> ?_) λ _ _ z=>z))
 obtain ⟨adr₁,p1,S1,r⟩:=z
 exact ⟨adr₁,p1,vv,rfl,r,S1.sub .nil⟩
theorem Uh {ρ:Type} {G:ρ→Cx0} {p:Pos} {rest:List Stmt}:RS g z d sc Γ Γc G (.Return none p :: rest) (rt (.ret .none)):=λ x hx hsc hfr hz μ adr s S b μ' e=>by
 obtain ⟨rfl,rfl⟩:=some2 e
 exact wpAny_execs_cons (wpAny_Return_none ⟨adr,List.prefix_refl _,_,rfl, .none,S.sub .nil⟩)
theorem Ui {ρ:Type} {G:ρ→Cx0} {p:Pos} {rest:List Stmt} (h:Sub Γc Γ):RS g z d sc Γ Γc G (.Continue p :: rest) (rt .cnt):=λ x hx hsc hfr hz μ adr s S b μ' e=>by
 obtain ⟨rfl,rfl⟩:=some2 e
 exact wpAny_execs_cons (wpAny_Continue ⟨adr,List.prefix_refl _,rfl,S.sub h⟩)
theorem Uj {ρ:Type} {G:ρ→Cx0} {p:Pos} {rest:List Stmt} {m:M (Fl ρ)} (h:RS g z d sc Γ Γc G rest m):RS g z d sc Γ Γc G (.Pass p :: rest) m:=λ x hx hsc hfr hz μ adr s S b μ' e =>
 wpAny_execs_cons (wpAny_Pass (h x hx hsc hfr hz μ adr s S b μ' e))
theorem qM {env:Env} (h:env.scope.kind= .function):interactive env=false:=by
 unfold interactive;rw [h];rfl
theorem Uk {ρ:Type} {G:ρ→Cx0} {e:Expr} {p:Pos} {rest:List Stmt} {m:M AV} {k:M (Fl ρ)} (h:RE g true d sc Γ e m) (hk:RS g z d sc Γ Γc G rest k) (hs: ∀ env,swapsWith e none p.line env=pure false) :
  RS g z d sc Γ Γc G (.Expr e p :: rest) (bd m λ _=>k):=λ x hx hsc hfr hz μ adr s S =>
 DoesS.cons (Γ':=λ _=>Γ) (λ v μ₁ e1=>wpAny_Expr_any (wpAny_mono (h x hx hsc (λ _=>hfr) μ adr s S v μ₁ e1) (λ vv s₁ ⟨adr₁,p1,S1,_⟩=>⟨rfl,adr₁,p1,S1⟩) λ _ _ z=>z) (qM hx.ek) (hs _))
  λ _ μ₁ adr₁ s₁ S1=>hk x hx hsc hfr hz μ₁ adr₁ s₁ S1
theorem Ul (hf:Facts g) {ρ:Type} {G:ρ→Cx0} {e o:Expr} {f:String} {p q:Pos} {rest:List Stmt} {mv mo:M AV} {k:M (Fl ρ)} (hv:RE g true d sc Γ e mv) (ho:RE g true d sc Γ o mo) (hk:RS g z d sc Γ Γc G rest k)
  (hs: ∀ env,swapsWith e (some (.Attribute o (Str.ofString f) q)) p.line env=pure false) :
  RS g z d sc Γ Γc G (.Assign [.Attribute o (Str.ofString f) q] e p :: rest) (bd mv λ v=>bd mo λ o=>bd (setA o f v) λ _=>k):=λ x hx hsc hfr hz μ adr s S=>by
 have eq:(bd mv λ v=>bd mo λ o=>bd (setA o f v) λ _=>k)=bd (bd mv λ v=>bd mo λ o=>setA o f v) λ _=>k:=by simp only [xu]
 rw [eq]
 refine DoesS.cons (Γ':=λ _=>Γ) (λ u μ₃ e=> ?_) λ _ μ₁ adr₁ s₁ S1=>hk x hx hsc hfr hz μ₁ adr₁ s₁ S1
 obtain ⟨v,μ₁,e1,e2⟩:=bd_some e
 obtain ⟨ov,μ₂,e2,e3⟩:=bd_some e2
 refine plainObj_wpAny_Assign_Attribute (wpAny_mono (hv x hx hsc (λ _=>hfr) μ adr s S v μ₁ e1) (λ vv s₁ ⟨adr₁,p1,S1,r1⟩=> ?_) λ _ _ z=>z) (hs _)
 refine wpAny_mono (ho x hx hsc (λ _=>hfr) μ₁ adr₁ s₁ S1 ov μ₂ e2) (λ oo s₂ ⟨adr₂,p2,S2,r2⟩=> ?_) λ _ _ z=>z
 refine wpAny_mono (kS hf hx S2 r2 (r1.pre p2) u μ₃ e3) (λ _ s₃ ⟨adr₃,p3,S3,_⟩=> ?_) λ _ _ z=>z
 exact ⟨rfl,adr₃,(p1.trans p2).trans p3,S3⟩
theorem Um {ρ:Type} {G:ρ→Cx0} {e o i:Expr} {p q:Pos} {rest:List Stmt} {mv mo mi:M AV} {k:M (Fl ρ)} (hv:RE g true d sc Γ e mv) (ho:RE g true d sc Γ o mo) (hi:RE g true d sc Γ i mi) (hk:RS g z d sc Γ Γc G rest k)
  (hs: ∀ env,swapsWith e (some (.Subscript o i q)) p.line env=pure false) :
  RS g z d sc Γ Γc G (.Assign [.Subscript o i q] e p :: rest) (bd mv λ v=>bd mo λ o=>bd mi λ i=>bd (setI o i v) λ _=>k):=λ x hx hsc hfr hz μ adr s S=>by
 have eq:(bd mv λ v=>bd mo λ o=>bd mi λ i=>bd (setI o i v) λ _=>k)=bd (bd mv λ v=>bd mo λ o=>bd mi λ i=>setI o i v) λ _=>k:=by simp only [xu]
 rw [eq]
 refine DoesS.cons (Γ':=λ _=>Γ) (λ u μ₄ e=> ?_) λ _ μ₁ adr₁ s₁ S1=>hk x hx hsc hfr hz μ₁ adr₁ s₁ S1
 refine hideP λ PZ hZ=> ?_
 obtain ⟨v,μ₁,e1,e2⟩:=bd_some e
 obtain ⟨ov,μ₂,e2,e3⟩:=bd_some e2
 obtain ⟨iv,μ₃,e3,e4⟩:=bd_some e3
 refine hZ ?_
 refine wpAny_Assign_Subscript (wpAny_mono (hv x hx hsc (λ _=>hfr) μ adr s S v μ₁ e1) (λ vv s₁ ⟨adr₁,p1,S1,r1⟩=> ?_) λ _ _ z=>z) (hs _)
 refine wpAny_mono (ho x hx hsc (λ _=>hfr) μ₁ adr₁ s₁ S1 ov μ₂ e2) (λ oo s₂ ⟨adr₂,p2,S2,r2⟩=> ?_) λ _ _ z=>z
 refine wpAny_mono (hi x hx hsc (λ _=>hfr) μ₂ adr₂ s₂ S2 iv μ₃ e3) (λ ii s₃ ⟨adr₃,p3,S3,r3⟩=> ?_) λ _ _ z=>z
 refine wpAny_mono (XQ hx S3 (r2.pre p3) r3 ((r1.pre p2).pre p3) u μ₄ e4) (λ _ s₄ ⟨adr₄,p4,S4,_⟩=> ?_) λ _ _ z=>z
 exact ⟨rfl,adr₄,((p1.trans p2).trans p3).trans p4,S4⟩
theorem Un:Op2 g (inplaceOp .Add) iaddM:=Op2.ints λ x Γ i j t1 t2 μ adr s S c μ' e=>by
 obtain ⟨rfl,rfl⟩:=some2 e
 exact AutoIntOps.iadd_0 (xr S)
theorem Uo:Op2 g (inplaceOp .Sub) subM:=Op2.ints λ x Γ i j t1 t2 μ adr s S c μ' e=>by
 obtain ⟨rfl,rfl⟩:=some2 e
 exact AutoIntOps.isub_0 (xr S)
theorem JE (hf:Facts g) {ρ:Type} {G:ρ→Cx0} {o e:Expr} {op:Operator} {f:String} {p q:Pos} {rest:List Stmt} {mo me:M AV} {mop:AV→AV→M AV} {k:M (Fl ρ)} (ho:RE g true d sc Γ o mo) (he:RE g true d sc Γ e me) (hop:Op2 g (inplaceOp op) mop) (hk:RS g z d sc Γ Γc G rest k) :
  RS g z d sc Γ Γc G (.AugAssign (.Attribute o (Str.ofString f) q) op e p :: rest) (bd mo λ o=>bd (getA o f) λ a=>bd me λ b=>bd (mop a b) λ r=>bd (setA o f r) λ _=>k):=λ x hx hsc hfr hz μ adr s S=>by
 have eq:(bd mo λ o=>bd (getA o f) λ a=>bd me λ b=>bd (mop a b) λ r=>bd (setA o f r) λ _=>k)=bd (bd mo λ o=>bd (getA o f) λ a=>bd me λ b=>bd (mop a b) λ r=>setA o f r) λ _=>k:=by simp only [xu]
 rw [eq]
 refine DoesS.cons (Γ':=λ _=>Γ) (λ u μ₅ e=> ?_) λ _ μ₁ adr₁ s₁ S1=>hk x hx hsc hfr hz μ₁ adr₁ s₁ S1
 refine hideP λ PZ hZ=> ?_
 obtain ⟨ov,μ₁,e1,e2⟩:=bd_some e
 obtain ⟨av,μ₂,e2,e3⟩:=bd_some e2
 obtain ⟨bv,μ₃,e3,e4⟩:=bd_some e3
 obtain ⟨rv,μ₄,e4,e5⟩:=bd_some e4
 refine hZ ?_
 refine wpAny_AugAssign_AttributeAny (wpAny_mono (ho x hx hsc (λ _=>hfr) μ adr s S ov μ₁ e1) (λ oo s₁ ⟨adr₁,p1,S1,r1⟩=> ?_) λ _ _ z=>z)
 refine wpAny_mono (uG hf hx S1 r1 av μ₂ e2) (λ aa s₂ ⟨adr₂,p2,S2,r2⟩=> ?_) λ _ _ z=>z
 refine wpAny_mono (he x hx hsc (λ _=>hfr) μ₂ adr₂ s₂ S2 bv μ₃ e3) (λ bb s₃ ⟨adr₃,p3,S3,r3⟩=> ?_) λ _ _ z=>z
 refine wpAny_mono (hop x d Γ hx aa bb av bv μ₃ adr₃ s₃ S3 (r2.pre p3) r3 rv μ₄ e4) (λ rr s₄ ⟨adr₄,p4,S4,r4⟩=> ?_) λ _ _ z=>z
 refine wpAny_mono (kS hf hx S4 (((r1.pre p2).pre p3).pre p4) r4 u μ₅ e5) (λ _ s₅ ⟨adr₅,p5,S5,_⟩=> ?_) λ _ _ z=>z
 exact ⟨rfl,adr₅,(((p1.trans p2).trans p3).trans p4).trans p5,S5⟩
/-! names are stored -/
theorem Vars.set_local {adr:List Addr} {m:Str→Option Value} {pl:Led} (h:Vars x adr m pl Γ) (nd:(x.env.scope.names.map (·.1)).Nodup) (hL:x.env.locals=x.L) {i:Nat} {n:Str} {v:Value} {av:AV} (hn:x.env.scope.names[i]? =some (n, .local)) (r:VR x.fd adr v av) :
  Vars x adr (λ y=>if y=n then some v else m y) pl (Γ.set i (some av)):=by
 intro j bv e
 by_cases hj:i=j
 ·subst hj
  rw [List.getElem?_set_self'] at e
  have hb:bv=av:=by
   cases q:Γ[i]? with
   | none=>rw [q] at e;simp at e
   | some _=>rw [q] at e;simp at e;exact e.symm
  subst hb
  exact ⟨n, .local,v,hn, .loc hL (by simp),r⟩
 ·rw [List.getElem?_set_ne hj] at e
  obtain ⟨n',k,v',a1,a2,a3⟩:=h j bv e
  have hne:n'≠n:=λ q=>hj (by
   have h1:(x.env.scope.names.map (·.1))[i]? =some n:=by rw [List.getElem?_map,hn];rfl
   have h2:(x.env.scope.names.map (·.1))[j]? =some n:=by rw [List.getElem?_map,a1,← q];rfl
   exact (List.getElem?_inj (List.getElem?_eq_some_iff.mp h1).1 nd).mp (h1.trans h2.symm))
  refine ⟨n',k,v',a1,?_,a3⟩
  cases a2 with
  | loc b1 b2=>exact .loc b1 (by simpa [hne] using b2)
  | cloc b1 b2 b3 b4=>exact .cloc b1 b2 b3 b4
  | cell b1 b2 b3=>exact .cell b1 b2 b3
  | free b1 b2 b3=>exact .free b1 b2 b3
theorem ja (hx:x.Ok g d) (hfr:x.env=x.fenv) {i:Nat} {n:Str} {v:Value} {av:AV} {μ:Mem} {adr:List Addr} {s:Shared} (S:St g x Γ μ adr s) (hn:x.env.scope.names[i]? =some (n, .local)) (r:VR x.fd adr v av) :
  wpAny (model g.prog g.w) x.A (storeName x.env n v) (λ _ s'=>St g x (Γ.set i (some av)) μ adr s') nof s:=by
 obtain ⟨cs,pl,m,S⟩:=S
 have hL:x.env.locals=x.L:=by rw [hfr];exact hx.floc
 refine wpAny_storeName_local (m:=m) (yU hx.nd hn) (hL ▸ S.F.ns) (λ h' hn' hs=> ?_) (by rw [hx.ek];rfl)
 rw [hL] at hn' hs
 exact ⟨cs,pl,_,⟨S.F.set hn' hs,S.N.set hs,S.nd,S.ha,S.C,S.V.set_local hx.nd hL hn r,S.gens,S.drawn,S.os,S.ex,S.fa,S.lk,S.cl,λ m₀ h=>by rw [hx.kn hfr] at h;cases h⟩⟩
theorem qN {cs:List Led} {p1 p2:Led} {e:Addr × Obj}:cs.flatten ++ (p1 ++ e :: p2)=(cs.flatten ++ p1) ++ e :: p2:=(List.append_assoc _ _ _).symm
theorem YW (hx:x.Ok g d) (hfr:x.env=x.fenv) (hz:x.fz=false) {i:Nat} {n:Str} {v:Value} {av:AV} {μ:Mem} {adr:List Addr} {s:Shared} (S:St g x Γ μ adr s) (hn:x.env.scope.names[i]? =some (n, .cell)) (r:VR x.fd adr v av) :
  wpAny (model g.prog g.w) x.A (storeName x.env n v) (λ _ s'=>St g x (Γ.set i (some av)) μ adr s') nof s:=by
 refine hideP λ PZ hZ=> ?_
 obtain ⟨cs,pl,m,S⟩:=S
 have hk:=yU hx.nd hn
 obtain ⟨c,hc⟩:=hx.cs n hk
 obtain ⟨o,v₀,hm,hd⟩:=S.cl n c hk hc
 obtain ⟨p1,p2,rfl⟩:=List.append_of_mem hm
 have N:=S.N
 have nd:=S.nd
 rw [qN] at N nd
 obtain ⟨n1,n2⟩:=ub nd
 have hmm:=N (c,o) (List.mem_append_right _ (.head _))
 refine hZ ?_
 refine wpAny_storeName_cell hx.ek hk hc ⟨o,hmm.1,hd⟩ λ h' hv hs=> ?_
 obtain ⟨o',ho',hd'⟩:=hv
 have N':News x.h₀ x.L h' ((cs.flatten ++ p1) ++ (c,o') :: p2):=N.setIn n1 n2 hs ho'
 have key: ∀ q,q∈p1 ++ (c,o) :: p2→q.1≠c→q∈p1 ++ (c,o') :: p2:=λ q hq hne=>by
  rcases List.mem_append.mp hq with h | h
  ·exact List.mem_append_left _ h
  ·rcases List.mem_cons.mp h with h | h
   ·exact absurd (by rw [h]) hne
   ·exact List.mem_append_right _ (.tail _ h)
 have mc:(c,o')∈p1 ++ (c,o') :: p2:=List.mem_append_right _ (.head _)
 have same: ∀ q:Obj,(c,q)∈p1 ++ (c,o) :: p2→q=o:=λ q hq=>by
  have h1:=(S.N (c,q) (List.mem_append_right _ hq)).1
  rw [hmm.1] at h1;exact (Option.some.inj h1).symm
 refine ⟨cs,p1 ++ (c,o') :: p2,m,⟨S.F.change hs hmm.2.1 hmm.2.2,by rw [qN];exact N',?_,S.ha,S.C,?_,S.gens,S.drawn,S.os,?_,S.fa,S.lk,?_,S.km⟩⟩
 ·have:=S.nd;simpa using this
 ·intro j bv e
  by_cases hj:i=j
  ·subst hj
   rw [List.getElem?_set_self'] at e
   have hb:bv=av:=by
    cases q:Γ[i]? with
    | none=>rw [q] at e;simp at e
    | some _=>rw [q] at e;simp at e;exact e.symm
   subst hb
   exact ⟨n, .cell,v,hn, .cell hc (.inr mc) hd',r⟩
  ·rw [List.getElem?_set_ne hj] at e
   obtain ⟨n',k,v',a1,a2,a3⟩:=S.V j bv e
   have hne:n'≠n:=λ q=>hj (by
    have h1:(x.env.scope.names.map (·.1))[i]? =some n:=by rw [List.getElem?_map,hn];rfl
    have h2:(x.env.scope.names.map (·.1))[j]? =some n:=by rw [List.getElem?_map,a1,← q];rfl
    exact (List.getElem?_inj (List.getElem?_eq_some_iff.mp h1).1 hx.nd).mp (h1.trans h2.symm))
   refine ⟨n',k,v',a1,?_,a3⟩
   cases a2 with
   | loc b1 b2=>exact .loc b1 b2
   | @cloc _ o₂ es ep b1 b2 b3 b4 =>
    refine .cloc (key _ b1 λ q=> ?_) b2 b3 b4
    have q':x.env.locals=c:=q
    rw [q'] at b1
    rw [same _ b1,hd] at b2;cases b2
   | @cell _ c₂ o₂ b1 b2 b3 =>
    have hcc:c₂≠c:=λ q=>hne (hx.ci _ _ _ hk b1 (q ▸ hc))
    exact .cell b1 (b2.imp id λ h=>key _ h hcc) b3
   | @free _ c₂ o₂ b1 b2 b3 =>
    have hcc:c₂≠c:=λ q=>hne (hx.ci _ _ _ hk b1 (q ▸ hc))
    exact .free b1 (b2.imp id λ h=>key _ h hcc) b3
 ·intro p hp
  exact (S.ex p hp).imp id λ h=>key _ h (hx.cz hz p hp n c hk hc)
 ·intro n' c' hk' hc'
  by_cases hcc:c'=c
  ·subst hcc;exact ⟨o',some v,mc,hd'⟩
  ·obtain ⟨o₂,v₂,h1,h2⟩:=S.cl n' c' hk' hc'
   exact ⟨o₂,v₂,key _ h1 hcc,h2⟩
noncomputable def Stores (z:Bool) (sc:Scope) (i:Nat) (n:Str):Prop:=sc.names[i]? =some (n, .local)∨(sc.names[i]? =some (n, .cell)∧z=false)
theorem xD (hx:x.Ok g d) (hsc:x.env.scope=sc) (hfr:x.env=x.fenv) (hz:x.fz=z) {i:Nat} {n:Str} (hs:Stores z sc i n) {v:Value} {av:AV} {μ:Mem} {adr:List Addr} {s:Shared} (S:St g x Γ μ adr s) (r:VR x.fd adr v av) :
  wpAny (model g.prog g.w) x.A (storeName x.env n v) (λ _ s'=>St g x (Γ.set i (some av)) μ adr s') nof s:=by
 rcases hs with h | ⟨h,h'⟩
 ·exact ja hx hfr S (hsc ▸ h) r
 ·exact YW hx hfr (hz.trans h') S (hsc ▸ h) r
theorem Up {ρ:Type} {G:ρ→Cx0} {e:Expr} {n:Str} {p q:Pos} {rest:List Stmt} {m:M AV} {k:AV→M (Fl ρ)} {i:Nat} (h:RE g true d sc Γ e m) (hn:Stores z sc i n) (hk: ∀ v,RS g z d sc (Γ.set i (some v)) Γc G rest (k v))
  (hs: ∀ env,swapsWith e (some (.Name n q)) p.line env=pure false):RS g z d sc Γ Γc G (.Assign [.Name n q] e p :: rest) (bd m k):=λ x hx hsc hfr hz μ adr s S =>
 DoesS.cons (Γ':=λ v=>Γ.set i (some v)) (λ v μ₁ e1=>wpAny_Assign_Name (wpAny_mono (h x hx hsc (λ _=>hfr) μ adr s S v μ₁ e1) (λ vv s₁ ⟨adr₁,p1,S1,r1⟩ =>
  wpAny_mono (xD hx hsc hfr hz hn S1 r1) (λ _ s₂ S2=>⟨rfl,adr₁,p1,S2⟩) λ _ _ z=>z) λ _ _ z=>z) (hs _))
  λ v μ₁ adr₁ s₁ S1=>hk v x hx hsc hfr hz μ₁ adr₁ s₁ S1
end
section
variable {g:Gd} {x:Cx} {d:Nat} {sc:Scope} {z fr:Bool} {Γc Γ' Γ:Cx0}
theorem jb {kf:Str→Option NameKind} {n:Str}: ∀ {bs:List (Str × Value)} {m:Str→Option Value},n∉bs.map (·.1)→bindL kf bs m n=m n
 | [],m,_=>rfl
 | (n',v) :: r,m,h=>by
  unfold bindL
  simp only [List.map_cons,List.mem_cons,not_or] at h
  rw [jb h.2]
  split
  ·simp [h.1]
  ·rfl
theorem kZ {kf:Str→Option NameKind} {n:Str} {v:Value}: ∀ {bs:List (Str × Value)} {m:Str→Option Value},(bs.map (·.1)).Nodup→(n,v)∈bs→kf n=some .local→bindL kf bs m n=some v
 | [],_,_,h,_=>by simp at h
 | (n',v') :: r,m,nd,h,hk=>by
  unfold bindL
  simp only [List.map_cons,List.nodup_cons] at nd
  rcases List.mem_cons.mp h with h | h
  ·cases h
   rw [jb nd.1,if_pos hk];simp
  ·exact kZ nd.2 h hk
theorem jc {kf:Str→Option NameKind} {n:Str}: ∀ {bs:List (Str × Value)} {m:Str→Option Value},n∉bs.map (·.1)→bindC kf bs m n=m n
 | [],m,_=>rfl
 | (n',v) :: r,m,h=>by
  unfold bindC
  simp only [List.map_cons,List.mem_cons,not_or] at h
  rw [jc h.2]
  split
  ·rfl
  ·simp [h.1]
theorem k6 {kf:Str→Option NameKind} {n:Str} {v:Value}: ∀ {bs:List (Str × Value)} {m:Str→Option Value},(bs.map (·.1)).Nodup→(n,v)∈bs→ ¬ kf n=some .local→bindC kf bs m n=some v
 | [],_,_,h,_=>by simp at h
 | (n',v') :: r,m,nd,h,hk=>by
  unfold bindC
  simp only [List.map_cons,List.nodup_cons] at nd
  rcases List.mem_cons.mp h with h | h
  ·cases h
   rw [jc nd.1,if_neg hk];simp
  ·exact k6 nd.2 h hk
theorem yH: ∀ (names:List (Str × NameKind)) (n:Nat) (acc:List (Str × Addr)),(acc.map (·.2)).Nodup→(∀ p∈acc,p.2 < n)→((cellsFrom n names acc).map (·.2)).Nodup∧ ∀ p∈cellsFrom n names acc,p∈acc∨n≤p.2
 | [],n,acc,h,h'=>⟨h,λ p hp=> .inl hp⟩
 | (nm,k) :: r,n,acc,h,h'=>by
  unfold cellsFrom
  split
  ·obtain ⟨a,b⟩:=yH r (n+1) ((nm,n) :: acc) (by
    simp only [List.map_cons,List.nodup_cons]
    refine ⟨λ q=> ?_,h⟩
    obtain ⟨p,hp,e⟩:=List.mem_map.mp q
    have:=h' p hp
    rw [e] at this
    exact absurd this (Nat.lt_irrefl _)) (λ p hp=>by
    rcases List.mem_cons.mp hp with rfl | hp
    ·exact Nat.lt_succ_self _
    ·exact Nat.lt_succ_of_lt (h' p hp))
   refine ⟨a,λ p hp=> ?_⟩
   rcases b p hp with q | q
   ·rcases List.mem_cons.mp q with rfl | q
    ·exact .inr (Nat.le_refl _)
    ·exact .inl q
   ·exact .inr (Nat.le_of_succ_le q)
  ·exact yH r n acc h h'
theorem CellsAre.keys {cm:Str→Option Value} {cs:List (Str × Addr)} {cells:List (Addr × Obj)} (h:CellsAre cm cs cells):cells.map (·.1)=cs.map (·.2):=by
 induction h with
 | nil=>rfl
 | cons _ _ ih=>simp [ih]
theorem CellsAre.get {cm:Str→Option Value} {n:Str} {c:Addr} {cs:List (Str × Addr)} {cells:List (Addr × Obj)} (h:CellsAre cm cs cells) (e:cs.lookup n=some c): ∃ o,(c,o)∈cells∧o.data= .cell (cm n):=by
 induction h with
 | nil=>simp at e
 | @cons n' c' o _ _ h r ih =>
  rw [List.lookup_cons] at e
  cases hb:n == n' with
  | true =>
   rw [hb] at e;obtain rfl:=Option.some.inj e
   rw [beq_iff_eq.mp hb]
   exact ⟨o, .head _,h⟩
  | false =>
   rw [hb] at e
   obtain ⟨o',h1,h2⟩:=ih e
   exact ⟨o', .tail _ h1,h2⟩
theorem qg {cs:List (Str × Addr)} (h:(cs.map (·.2)).Nodup): ∀ n n' c,cs.lookup n=some c→cs.lookup n'=some c→n=n':=by
 intro n n' c e e'
 have h1:=mem_of_lookup e
 have h2:=mem_of_lookup e'
 induction cs with
 | nil=>simp at h1
 | cons p r ih =>
  simp only [List.map_cons,List.nodup_cons] at h
  rcases List.mem_cons.mp h1 with q1 | q1
  ·rcases List.mem_cons.mp h2 with q2 | q2
   ·rw [← q1] at q2;exact (Prod.mk.inj q2).1.symm
   ·exact absurd (by rw [← q1];exact List.mem_map_of_mem (f:=(·.2)) q2) h.1
  ·rcases List.mem_cons.mp h2 with q2 | q2
   ·exact absurd (by rw [← q2];exact List.mem_map_of_mem (f:=(·.2)) q1) h.1
   ·refine ih h.2 ?_ ?_ q1 q2
    ·rw [List.lookup_cons] at e
     cases hb:n == p.1 with
     | false=>rw [hb] at e;exact e
     | true=>rw [hb] at e;exact absurd (by rw [Option.some.inj e];exact List.mem_map_of_mem (f:=(·.2)) q1) h.1
    ·rw [List.lookup_cons] at e'
     cases hb:n' == p.1 with
     | false=>rw [hb] at e';exact e'
     | true=>rw [hb] at e';exact absurd (by rw [Option.some.inj e'];exact List.mem_map_of_mem (f:=(·.2)) q1) h.1
theorem k7 {α β:Type}: ∀ {l:List α},l.Nodup→ ∀ l':List β,((l.zip l').map (·.1)).Nodup
 | [],_,_=>by simp
 | a :: l,h,[]=>by simp
 | a :: l,h,b :: l'=>by
  simp only [List.zip_cons_cons,List.map_cons,List.nodup_cons] at h ⊢
  refine ⟨λ q=>h.1 ?_,k7 h.2 l'⟩
  obtain ⟨p,hp,e⟩:=List.mem_map.mp q
  exact e ▸ (List.of_mem_zip hp).1
noncomputable def Fn (g:Gd) (d:Nat) (fv:Value) (F:List AV→M AV):Prop :=
 ∀ (x:Cx) (Γ:Cx0),x.Ok g d→ ∀ μ adr s vs as (R:Result→Shared→Prop),St g x Γ μ adr s→F2 (VR x.fd adr) vs as→ ∀ b μ',F as μ=some (b,μ') →
  (∀ v s',Aft g x Γ (VR x.fd) b μ' adr v s'→R (.ok (.ret v)) s')→codeAny (model g.prog g.w) x.A (.call fv ⟨vs,[]⟩) R s
theorem Fn.does {fv:Value} {F:List AV→M AV} (h:Fn g d fv F) (hx:x.Ok g d) {μ:Mem} {adr:List Addr} {s:Shared} {vs:List Value} {as:List AV} (S:St g x Γ μ adr s) (r:F2 (VR x.fd adr) vs as):Does g x Γ (VR x.fd) (call fv vs) (F as) μ adr s :=
 λ b μ' e=>wpAny_call (h x Γ hx μ adr s vs as _ S r b μ' e λ v s' z=>z)
theorem Cx.Ok.weak {d d':Nat} (h:x.Ok g d) (hd:d'≤d):x.Ok g d' :=
 {h with dep:=by have:=h.dep;lia,un:=by have:=h.un;lia}
theorem Fn.weak {d d':Nat} {fv:Value} {F:List AV→M AV} (h:Fn g d fv F) (hd:d≤d'):Fn g d' fv F:=λ x Γ hx=>h x Γ (hx.weak hd)
abbrev callee (x:Cx) (E:Env) (L:Addr) (gh:Heap) (pl:Led):Cx :=
 {A:=x.A.deeper E,env:=E,fenv:=E,outer:=x.fenv :: x.outer,A₀:=x.A,base:=x.base,h₀:=gh,L:=L,fd:=x.fd,s0:=x.s0,need:=x.need ++ pl,fact:=x.fact,lks:=x.lks,fz:=false,km:=none}
theorem jw {m:M (Fl Unit)} {b:AV} {μ μ':Mem} (e:fin m μ=some (b,μ')):(∃ u,m μ=some (.nxt u,μ')∧b= .none)∨m μ=some (.ret b,μ'):=by
 obtain ⟨f,μ₁,e1,e2⟩:=bd_some (show bd m _ μ=_ from e)
 cases f with
 | nxt u=>cases e2;exact .inl ⟨u,e1,rfl⟩
 | cnt=>exact za e2
 | ret v=>cases e2;exact .inr e1
theorem JF (hf:Facts g) {f:Addr} {oc:Value} {od:Option Addr} {osl:Array (Option Value)} {name qual:Str} {params:Arguments} {body:List Stmt} {scope:Scope} {dV kV doc pm cdv ct:Value} {an:Option Addr}
  (ho:g.K.lookup f=some ⟨oc,od, .func (fnOf name qual params body scope dV kV doc pm an cdv ct),osl⟩) (hcd:codeIn g.K cdv qual=true) (dv:List Value) (dav:List AV) (k:Nat) (mb:List AV→M (Fl Unit)) (hdv: ∀ fd adr,F2 (VR fd adr) dv dav)
  (hbind: ∀ s vs,g.K.In s.heap→vs.length=k→BindsTo s (fnOf name qual params body scope dV kV doc pm an cdv ct) ⟨vs,[]⟩ ((scope.names.map (·.1)).zip (vs ++ dv)))
  (hk:((scope.names.take (k+dv.length)).all λ n=>n.2 == .local || n.2 == .cell)=true) (hkn:k+dv.length≤scope.names.length)
  (hnd:((cellsFrom 0 scope.names []).map (·.1)).Nodup) (nd:(scope.names.map (·.1)).Nodup) (hkd:scope.kind= .function) (hco:scope.isCoroutine=false) (hgen:scope.isGenerator=false)
  (hb: ∀ as:List AV,as.length=k+dv.length→RS g false d scope (as.map some ++ List.replicate (scope.names.length - as.length) none) [] (λ _=>[]) body (mb as)) {F:List AV→M AV} (hF: ∀ as b μ μ',F as μ=some (b,μ')→as.length=k∧fin (mb (as ++ dav)) μ=some (b,μ')) :
  Fn g (d+1) (.ref f) F:=by
 intro x Γ hx μ adr s vs as R S r b μ' e hR
 obtain ⟨hlen,e⟩:=hF as b μ μ' e
 obtain ⟨cs,pl,m,S⟩:=S
 have hvl:vs.length=k:=r.len.trans hlen
 have hdl:dv.length=dav.length:=(hdv none []).len
 have hal:(as ++ dav).length=k+dv.length:=by rw [List.length_append,hlen,hdl]
 have hval:(vs ++ dv).length=k+dv.length:=by rw [List.length_append,hvl]
 have rr:F2 (VR x.fd adr) (vs ++ dv) (as ++ dav):=r.app (hdv _ _)
 have X:g.K.In s.heap:=hx.kin.keeps S.F.keep
 have kinds: ∀ y∈(scope.names.map (·.1)).zip (vs ++ dv),scope.names.lookup y.1=some .local∨scope.names.lookup y.1=some .cell:=by
  intro y hy
  obtain ⟨i,hi⟩:=List.getElem?_of_mem hy
  obtain ⟨h1,h2⟩:=List.getElem?_zip_eq_some.mp hi
  rw [List.getElem?_map,Option.map_eq_some_iff] at h1
  obtain ⟨q,hq,he⟩:=h1
  have hlt:i < k+dv.length:=by rw [← hval];exact (List.getElem?_eq_some_iff.mp h2).1
  have hm:q∈scope.names.take (k+dv.length):=List.mem_of_getElem? (i:=i) (by rw [List.getElem?_take,if_pos hlt];exact hq)
  have:=List.all_eq_true.mp hk q hm
  have hl:=yU nd (k:=q.2) (n:=q.1) (i:=i) hq
  rw [← he]
  rcases Bool.or_eq_true_iff.mp this with q' | q'
  ·left;rw [hl,eq_of_beq q']
  ·right;rw [hl,eq_of_beq q']
 refine code_defC hx.below S.F hx.kin S.N hx.top hx.frames hx.fL hx.fk ho hcd (by have:=hx.dep;lia) (hbind s vs X hvl) ?_ hnd (λ g' L' h₁ tk cells FG F' N' Y B' X' T' l=> ?_) hco hgen hkd
 ·rw [List.all_eq_true]
  intro y hy
  rcases kinds y hy with q | q <;> simp [q]
 obtain ⟨ca1,ca2⟩:=yH scope.names (L'+1) [] (by simp) (by simp)
 have ca2: ∀ p∈cellsFrom (L'+1) scope.names [],L'+1≤p.2:=λ p hp=>(ca2 p hp).elim (λ h=>by simp at h) id
 have cell_lo: ∀ p∈cells,L'+1≤p.1:=λ p hp=>by
  have:p.1∈cells.map (·.1):=List.mem_map_of_mem hp
  rw [CellsAre.keys Y] at this
  obtain ⟨q,hq,e⟩:=List.mem_map.mp this
  exact e ▸ ca2 q hq
 let E:=envOfC qual scope L' f cdv
 have hx':(callee x E L' g' pl).Ok g d:=by
  refine ⟨B',X',T',?_,hx.hnd,rfl,rfl,hkd,rfl,hkd,rfl,rfl,nd,?_,?_,hx.mono,λ _=>rfl,λ n n' c _=>qg ca1 n n' c,?_,hf.com _ _ _ _ (λ p hp=>List.mem_append_left _ hp) hx.co,?_⟩
  ·show (x.A.deeper E).frames=_
   show x.A.frames.map (E :: ·)=_
   rw [hx.frames];rfl
  ·show x.A.depth+1+d < _
   have:=hx.dep;lia
  ·show x.A.units+3+16 * d+100 < _
   have:=hx.un;lia
  ·intro n hn
   exact Option.isSome_iff_exists.mp (cellsFrom_some scope.names (L'+1) [] (.inl hn))
  ·intro _ p hp n c _ hc
   have hc':=ca2 _ (mem_of_lookup hc)
   have hlt:p.1 < L':=by
    rcases List.mem_append.mp hp with h | h
    ·rcases S.ex p h with q | q
     ·exact Nat.lt_of_lt_of_le (Heap.lt_size (FG.keep _ _ q)) F'.above
     ·exact l p (List.mem_append_right _ q)
    ·exact l p (List.mem_append_right _ h)
   have hc'':L'+1≤c:=hc'
   exact λ q=>Nat.lt_irrefl L' (Nat.lt_of_lt_of_le (Nat.lt_of_succ_le hc'') (Nat.le_of_lt (q ▸ hlt:c < L')))
 have S':St g (callee x E L' g' pl) ((as ++ dav).map some ++ List.replicate (scope.names.length - (as ++ dav).length) none) μ adr {s with heap:=h₁,toks:=tk}:=by
  refine ⟨cs,cells ++ pl,_,⟨F',?_,?_,S.ha,S.C,?_,S.gens,S.drawn,S.os,?_,S.fa,S.lk,?_,λ m₀ h=>by cases h⟩⟩
  ·intro p hp
   refine N' p ?_
   simp only [List.mem_append] at hp ⊢
   rcases hp with h | h | h
   ·exact .inr (.inl h)
   ·exact .inl h
   ·exact .inr (.inr h)
  ·have z:((cells ++ (cs.flatten ++ pl)).map (·.1)).Nodup:=by
    rw [List.map_append,List.nodup_append]
    refine ⟨by rw [CellsAre.keys Y];exact ca1,S.nd,λ a ha b hb=> ?_⟩
    obtain ⟨p,hp,rfl⟩:=List.mem_map.mp ha
    obtain ⟨q,hq,rfl⟩:=List.mem_map.mp hb
    have h1:=cell_lo p hp
    have h2:q.1 < L':=l q hq
    exact λ e=>Nat.lt_irrefl L' (Nat.lt_of_lt_of_le (Nat.lt_of_succ_le (e ▸ h1:L'+1≤q.1)) (Nat.le_of_lt h2))
   have pm:(cs.flatten ++ (cells ++ pl)).Perm (cells ++ (cs.flatten ++ pl)):=by
    rw [← List.append_assoc,← List.append_assoc]
    exact List.Perm.append_right _ List.perm_append_comm
   exact (pm.map (·.1)).nodup_iff.mpr z
  ·intro i av ei
   have hlt:i < (as ++ dav).length:=by
    rcases Nat.lt_or_ge i (as ++ dav).length with h | h
    ·exact h
    ·rw [List.getElem?_append_right (by simpa using h),List.getElem?_replicate] at ei
     split at ei <;> simp at ei
   rw [List.getElem?_append_left (by simpa using hlt),List.getElem?_map,Option.map_eq_some_iff] at ei
   obtain ⟨a,ha,hae⟩:=ei
   cases hae
   obtain ⟨v,hv,hvr⟩:=rr.at_ ha
   have hin:i < scope.names.length:=by lia
   obtain ⟨n,kd,hq'⟩: ∃ n kd,scope.names[i]? =some (n,kd):=⟨_,_,List.getElem?_eq_getElem hin⟩
   have hmem:(n,v)∈(scope.names.map (·.1)).zip (vs ++ dv):=List.mem_of_getElem? (i:=i) (List.getElem?_zip_eq_some.mpr ⟨by rw [List.getElem?_map,hq'];rfl,hv⟩)
   have hzn:(((scope.names.map (·.1)).zip (vs ++ dv)).map (·.1)).Nodup:=by
    exact k7 nd _
   have hl:=yU nd hq'
   refine ⟨n,kd,v,hq',?_,hvr⟩
   have hkk:E.kindOf n=scope.names.lookup n:=rfl
   rcases kinds _ hmem with q | q
   ·rw [hl] at q;obtain rfl:=Option.some.inj q
    exact .loc rfl (kZ hzn hmem hl)
   ·rw [hl] at q;obtain rfl:=Option.some.inj q
    obtain ⟨c,hc⟩:=Option.isSome_iff_exists.mp (cellsFrom_some scope.names (L'+1) [] (.inl hl))
    obtain ⟨o,ho1,ho2⟩:=CellsAre.get Y hc
    refine .cell hc (.inr (List.mem_append_left _ ho1)) ?_
    rw [ho2,k6 hzn hmem (by show ¬ scope.names.lookup n=_;rw [hl];simp)]
  ·intro p hp
   rcases List.mem_append.mp hp with h | h
   ·rcases S.ex p h with q | q
    ·exact .inl (FG.keep _ _ q)
    ·exact .inr (List.mem_append_right _ q)
   ·exact .inr (List.mem_append_right _ h)
  ·intro n c hn hc
   obtain ⟨o,ho1,ho2⟩:=CellsAre.get Y hc
   exact ⟨o,_,List.mem_append_left _ ho1,ho2⟩
 have done: ∀ (fl:Flow) s' (v:Value) Γ'',v=(match fl with | .ret v=>v | _=> .none)→(∃ adr',adr <+: adr'∧VR x.fd adr' v b∧St g (callee x E L' g' pl) Γ'' μ' adr' s')→LeaveK x.h₀ x.L m g' R (match fl with | .ret v=>v | _=> .none) s':=by
  rintro fl s' v Γ'' rfl ⟨adr',p,hv,cs',pl',m',Z⟩
  have keep: ∀ q∈pl,q∈pl':=λ q hq=>by
   rcases Z.ex q (List.mem_append_right _ hq) with h | h
   ·have h1:=(N' q (List.mem_append_right _ (List.mem_append_right _ hq))).2.2
    have h':g'.get? q.1=some q.2:=h
    rw [h1] at h';exact za h'
   ·exact h
  refine leaveK_ Z.F Z.N λ F₂ N₂=> ?_
  refine hR _ _ ⟨adr',p,⟨cs',pl',m,⟨F₂,N₂,Z.nd,Z.ha,Z.C,?_,Z.gens,Z.drawn,Z.os,?_,Z.fa,Z.lk,?_,S.km⟩⟩,hv⟩
  ·intro i av ei
   obtain ⟨n,kd,v,a1,a2,a3⟩:=S.V i av ei
   refine ⟨n,kd,v,a1,?_,a3.pre p⟩
   cases a2 with
   | loc b1 b2=>exact .loc b1 b2
   | cloc b1 b2 b3 b4=>exact .cloc (keep _ b1) b2 b3 b4
   | cell b1 b2 b3=>exact .cell b1 (b2.imp id (keep _)) b3
   | free b1 b2 b3=>exact .free b1 (b2.imp id (keep _)) b3
  ·exact λ q hq=>(S.ex q hq).imp id (keep q)
  ·intro n c hn hc
   obtain ⟨o,v₀,h1,h2⟩:=S.cl n c hn hc
   exact ⟨o,v₀,keep _ h1,h2⟩
 rcases jw e with ⟨u,e1,rfl⟩ | e1
 ·refine wpAny_mono (hb _ hal (callee x E L' g' pl) hx' rfl rfl rfl μ adr _ S' _ _ e1) (λ fl s' z=> ?_) λ _ _ z=>z.elim
  obtain ⟨adr',p,rfl,Z⟩:=z
  exact done .next s' .none _ rfl ⟨adr',p, .none,Z⟩
 ·refine wpAny_mono (hb _ hal (callee x E L' g' pl) hx' rfl rfl rfl μ adr _ S' _ _ e1) (λ fl s' z=> ?_) λ _ _ z=>z.elim
  obtain ⟨adr',p,vv,rfl,hv,Z⟩:=z
  exact done (.ret vv) s' vv _ rfl ⟨adr',p,hv,Z⟩
end
section
variable {g:Gd} {x:Cx} {d:Nat} {sc:Scope} {z fr:Bool} {Γc Γ' Γ:Cx0}
theorem Kv {α β:Type} (a:α) (f:α→M β):bd (rt a) f=f a:=rfl
theorem evc {β:Type} (m:M AV) {r:List (M AV)} {F:List AV→M β} {G:AV→M β} (h: ∀ a,bd (evs r) (λ as=>F (a :: as))=G a):bd (evs (m :: r)) F=bd m G:=((xu _ _ _).trans (congrArg (bd m) (funext λ a=>(xu _ _ _).trans (h a))):bd (bd m λ a=>bd (evs r) λ as=>rt (a :: as)) F=_)
theorem evs0 {β:Type} (F:List AV→M β):bd (evs []) F=F []:=rfl
theorem evs1 {β:Type} (m:M AV) (F:List AV→M β):bd (evs [m]) F=bd m λ a=>F [a]:=evc m λ _=>rfl
theorem evs2 {β:Type} (m n:M AV) (F:List AV→M β):bd (evs [m,n]) F=bd m λ a=>bd n λ b=>F [a,b]:=evc m λ _=>evs1 n _
theorem evs3 {β:Type} (m n o:M AV) (F:List AV→M β):bd (evs [m,n,o]) F=bd m λ a=>bd n λ b=>bd o λ c=>F [a,b,c]:=evc m λ _=>evs2 n o _
theorem evs4 {β:Type} (m n o p:M AV) (F:List AV→M β):bd (evs [m,n,o,p]) F=bd m λ a=>bd n λ b=>bd o λ c=>bd p λ e=>F [a,b,c,e]:=evc m λ _=>evs3 n o p _
theorem evs5 {β:Type} (m n o p q:M AV) (F:List AV→M β):bd (evs [m,n,o,p,q]) F=bd m λ a=>bd n λ b=>bd o λ c=>bd p λ e=>bd q λ f=>F [a,b,c,e,f]:=evc m λ _=>evs4 n o p q _
theorem evs6 {β:Type} (m n o p q r:M AV) (F:List AV→M β):bd (evs [m,n,o,p,q,r]) F=bd m λ a=>bd n λ b=>bd o λ c=>bd p λ e=>bd q λ f=>bd r λ h=>F [a,b,c,e,f,h]:=evc m λ _=>evs5 n o p q r _
theorem zt {n:Str} {p pos:Pos} {es:List PySem.Expr} {ms:List (M AV)} {fv:Value} {F:List AV→M AV} {dF:Nat} (hn:NameIs g sc n fv) (hk:Kp g fv) (hF:Fn g dF fv F) (hd:dF≤d) (ha:REs g fr d sc Γ es ms) :
  RE g fr d sc Γ (.Call (.Name n p) es [] pos) (bd (evs ms) F):=by
 intro x hx hsc hfr μ adr s S b μ' e
 refine Call_ (hn x d hx hsc Γ μ adr s p _ S ?_) (by rfl)
 exact zU (first:=[]) hx hsc hfr hk ha S (λ vs as μ₁ adr₁ s₁ _ S₁ r=>(hF.weak hd).does hx S₁ r) b μ' e
theorem uV {n:Str} {p pos:Pos} {e:PySem.Expr} {m:M AV} {fv:Value} {mop:AV→M AV} (hn:NameIs g sc n fv) (hk:Kp g fv) (hF:Op1 g (λ v=>call fv [v]) mop) (ha:RE g fr d sc Γ e m) (he: ∀ env,starEach [e] env=[(false,eval e env)]) :
  RE g fr d sc Γ (.Call (.Name n p) [e] [] pos) (bd m λ a=>mop a):=by
 have ha':REs g fr d sc Γ [e] [m]:=yV ha wo (by intro env;rw [he];rfl)
 have eq:(bd m λ a=>mop a)=bd (evs [m]) (λ as=>match as with | [a]=>mop a | _=>fl):=by rw [evs1]
 rw [eq]
 intro x hx hsc hfr μ adr s S b μ' e
 refine Call_ (hn x d hx hsc Γ μ adr s p _ S ?_) (by rfl)
 refine zU (first:=[]) hx hsc hfr hk ha' S (λ vs as μ₁ adr₁ s₁ _ S₁ r=> ?_) b μ' e
 cases r with
 | nil=>intro b μ' e;exact za e
 | cons r1 r2 =>
  cases r2 with
  | nil=>exact hF x d Γ hx _ _ μ₁ adr₁ s₁ S₁ r1
  | cons _ _=>intro b μ' e;exact za e
theorem yg {n cn:Str} {p pos cp:Pos} {e:PySem.Expr} {m:M AV} {cv:Value} {mop:AV→M AV} (hn:NameIs g sc n (.builtin "isinstance")) (hc:NameIs g sc cn cv) (hF:Op1 g (λ v=>call (.builtin "isinstance") [v,cv]) mop) (ha:RE g fr d sc Γ e m)
  (he: ∀ env,starEach [e, .Name cn cp] env=[(false,eval e env),(false,eval (.Name cn cp) env)]) :
  RE g fr d sc Γ (.Call (.Name n p) [e, .Name cn cp] [] pos) (bd m λ a=>mop a):=by
 intro x hx hsc hfr μ adr s S b μ' eq
 obtain ⟨a,μ₁,e1,e2⟩:=bd_some eq
 refine Call_ (hn x d hx hsc Γ μ adr s p _ S ?_) (by rfl)
 rw [he]
 refine callWith_of rfl Kp.builtin (evalArgs_plain ?_)
 refine spliced_cons (wpAny_mono (ha x hx hsc hfr μ adr s S a μ₁ e1) (λ v s₁ ⟨adr₁,p1,S1,r1⟩=> ?_) λ _ _ z=>z)
 refine spliced_cons (hc x d hx hsc Γ μ₁ adr₁ s₁ cp _ S1 (spliced_nil ?_))
 refine ⟨S1.kin hx,?_⟩
 exact wpAny_mono (hF x d Γ hx v a μ₁ adr₁ s₁ S1 r1 b μ' e2) (λ v s₂ ⟨adr₂,p2,S2,r2⟩=>⟨adr₂,p1.trans p2,S2,r2⟩) λ _ _ z=>z
set_option tactic.hygienic true in
theorem Uq {v:AV} {c:Cl} {u:Unit} {μ μ':Mem} (e:chk v c μ=some (u,μ')):μ=μ'∧ ∃ i fs,v= .obj i∧μ[i]? =some (.inst c fs):=by
 cases v <;> try (first | exact za e | (obtain ⟨rfl,rfl⟩:=some2 e;done))
 rename_i i
 obtain ⟨o,h1,e2⟩:=zG (show bd (rd i) _ μ=_ from e)
 cases o <;> try (first | exact za e2 | (obtain ⟨rfl,rfl⟩:=some2 e2;done))
 rename_i c' fs
 dsimp only at e2
 split at e2
 ·rename_i hc;subst hc;obtain ⟨rfl,rfl⟩:=some2 e2;exact ⟨rfl,i,fs,rfl,h1⟩
 ·exact za e2
theorem bc {κ:Type} [DecidableEq κ] {f:κ}: ∀ {fs:List (κ × AV)},(∀ p∈fs,p.1≠f)→get f fs=none
 | [],_=>rfl
 | p :: r,h=>by
  rw [xb]
  rw [if_neg (h p (.head _))]
  exact bc λ q hq=>h q (.tail _ ‹_›)
structure MethIs (g:Gd) (c:Cl) (name:String) (f:Addr):Prop where
 a1:plainGet g.K c.addr (Str.ofString name)=true
 a2:findIn g.K (.ref c.addr) (Str.ofString name)=some (some (.ref f))
 a3:isFn g.K (.ref f)=true
 a4:name∉c.fields
 a5:Kp g (.ref f)
theorem z0 {name:String} {o:PySem.Expr} {ap pos:Pos} {es:List PySem.Expr} {ms:List (M AV)} {mo:M AV} {c:Cl} {f:Addr} {F:List AV→M AV} {dF:Nat} (hM:MethIs g c name f) (hF:Fn g dF (.ref f) F) (hd:dF≤d) (ho:RE g fr d sc Γ o mo) (ha:REs g fr d sc Γ es ms)
  (he: ∀ env,∃ pl,eval (.Call (.Attribute o (Str.ofString name) ap) es [] pos) env=(do
   let ov ← eval o env
   standAt ap.atName
   let (f,first) ← holding [ov] (getMethod ov (Str.ofString name) pl)
   callWith pos f first (backTo pos (starEach es env)) [])) :
  RE g fr d sc Γ (.Call (.Attribute o (Str.ofString name) ap) es [] pos) (bd mo λ o=>bd (chk o c) λ _=>bd (evs ms) λ as=>F (o :: as)):=by
 intro x hx hsc hfr μ adr s S b μ' e
 refine hideP λ PZ hZ=> ?_
 obtain ⟨ov,μ₁,e1,e2⟩:=bd_some e
 obtain ⟨u,μ₂,e2,e3⟩:=bd_some e2
 obtain ⟨rfl,i,fs,rfl,hi⟩:=Uq e2
 obtain ⟨plc,hpl⟩:=he x.env
 refine hZ ?_
 refine MethodCall_ (pl:=plc) (wpAny_mono (ho x hx hsc hfr μ adr s S _ _ e1) (λ vo s₁ ⟨adr₁,p1,S1,r1⟩=> ?_) λ _ _ z=>z) hpl
 refine hideP λ PZ hZ=> ?_
 have S1':=S1
 obtain ⟨cs,pl,m,Z⟩:=S1'
 obtain ⟨ad',dx,es',n,rfl,hc,h1,h2,h3⟩:=Z.atO r1 hi
 have I:InstAt s₁.heap ad' (instObj c.addr dx) c.addr (some (dictOf es' n)):=InstAt.of_news Z.N (ym hc (.head _)) (ym hc (.tail _ (.head _)))
 have hl:getL (Str.ofString name) es'=some none:=(uT h1 name).2 (bc λ p hp q=>hM.a4 (q ▸ h2 p hp))
 refine hZ ?_
 refine method_inst Z.F hx.kin I hM.a1 hM.a2 hM.a3 hl ?_
 refine wpAny_mono (zU (first:=[.ref ad']) (F:=λ as=>F (.obj i :: as)) hx hsc hfr hM.a5 ha S1 (λ vs as μ₃ adr₃ s₃ p3 S₃ r=> ?_) b μ' e3) (λ v s₂ ⟨adr₂,p2,S2,r2⟩=>⟨adr₂,p1.trans p2,S2,r2⟩) λ _ _ z=>z
 exact (hF.weak hd).does hx S₃ (.cons (VR.pre p3 r1) r)
set_option tactic.hygienic true in
theorem be {v:AV} {u:Unit} {μ μ':Mem} (e:chkL v μ=some (u,μ')):μ=μ'∧ ∃ i xs,v= .obj i∧μ[i]? =some (.list xs):=by
 cases v <;> try (first | exact za e | (obtain ⟨rfl,rfl⟩:=some2 e;done))
 rename_i i
 obtain ⟨o,h1,e2⟩:=zG (show bd (rd i) _ μ=_ from e)
 cases o <;> try (first | exact za e2 | (obtain ⟨rfl,rfl⟩:=some2 e2;done))
 obtain ⟨rfl,rfl⟩:=some2 e2
 exact ⟨rfl,i,_,rfl,h1⟩
set_option tactic.hygienic true in
theorem bf {v:AV} {u:Unit} {μ μ':Mem} (e:chkD v μ=some (u,μ')):μ=μ'∧ ∃ i o,v= .obj i∧μ[i]? =some o∧((∃ l es,o= .dI l es)∨ ∃ l es,o= .dS l es):=by
 cases v <;> try (first | exact za e | (obtain ⟨rfl,rfl⟩:=some2 e;done))
 rename_i i
 obtain ⟨o,h1,e2⟩:=zG (show bd (rd i) _ μ=_ from e)
 cases o <;> try (first | exact za e2 | (obtain ⟨rfl,rfl⟩:=some2 e2;done))
 ·obtain ⟨rfl,rfl⟩:=some2 e2;exact ⟨rfl,i,_,rfl,h1, .inl ⟨_,_,rfl⟩⟩
 ·obtain ⟨rfl,rfl⟩:=some2 e2;exact ⟨rfl,i,_,rfl,h1, .inr ⟨_,_,rfl⟩⟩
theorem jd {i:Nat} {xs:List AV} {v:Value} {μ:Mem} {adr:List Addr} {s:Shared} {name:Str} {id:String} {pl:Sem Bool} {Q:Value × List Value→Shared→Prop} (hx:x.Ok g d) (S:St g x Γ μ adr s) (r:VR x.fd adr v (.obj i)) (h:μ[i]? =some (.list xs))
  (slot:Slot "list" name id) (hty:typeOf (.builtin id)=pure (.type "method_descriptor")) (hq:Q (.builtin id,[v]) s):wpAny (model g.prog g.w) x.A (getMethod v name pl) Q nof s:=by
 refine hideP λ PZ hZ=> ?_
 obtain ⟨cs,pl,m,Z⟩:=S
 obtain ⟨ad,vs,n,rfl,hc,q1,q2,L1⟩:=Z.listAt r h
 refine hZ ?_
 exact listMethod_K Z.N (mem1 hc) slot hty hq
set_option tactic.hygienic true in
theorem je {i:Nat} {o:AO} {v:Value} {μ:Mem} {adr:List Addr} {s:Shared} {name:Str} {id:String} {pl:Sem Bool} {Q:Value × List Value→Shared→Prop} (hx:x.Ok g d) (S:St g x Γ μ adr s) (r:VR x.fd adr v (.obj i)) (h:μ[i]? =some o)
  (hdi:(∃ l es,o= .dI l es)∨ ∃ l es,o= .dS l es) (slot:Slot "dict" name id) (hty:typeOf (.builtin id)=pure (.type "method_descriptor")) (hq:Q (.builtin id,[v]) s):wpAny (model g.prog g.w) x.A (getMethod v name pl) Q nof s:=by
 obtain ⟨cs,pl,m,Z⟩:=S
 obtain ⟨ad,rfl,had⟩:=r.inv
 obtain ⟨ch,hc,hr⟩:=Z.chunk h
 have had':=Z.adr_of hc had
 rcases hdi with ⟨l,es,rfl⟩ | ⟨l,es,rfl⟩
 ·cases hr
  rename_i ad' o kvs q1 q3 q2 q4
  simp only [hd1] at had';replace had':=had'.symm;subst had'
  have hD:=kda_dict Z.N (mem1 hc) q1
  exact getMethod_builtin hD.typeIs PySem.F.plainAttrs_dict slot hty hD.mapOf.noDict hq
 ·cases hr
  rename_i ad' o kvs q1 q3 q2 q4
  simp only [hd1] at had';replace had':=had'.symm;subst had'
  have hD:=kda_dict Z.N (mem1 hc) q1
  exact getMethod_builtin hD.typeIs PySem.F.plainAttrs_dict slot hty hD.mapOf.noDict hq
abbrev zo (o:PySem.Expr) (name:String) (ap pos:Pos) (es:List PySem.Expr):Prop:= ∀ env,∃ pl,eval (.Call (.Attribute o (Str.ofString name) ap) es [] pos) env=(do
   let ov ← eval o env
   standAt ap.atName
   let (f,first) ← holding [ov] (getMethod ov (Str.ofString name) pl)
   callWith pos f first (backTo pos (starEach es env)) [])
theorem XW {o e:PySem.Expr} {ap pos:Pos} {mo m:M AV} (ho:RE g fr d sc Γ o mo) (h1:RE g fr d sc Γ e m) (he:zo o "append" ap pos [e]) (hst: ∀ env,starEach [e] env=[(false,eval e env)]) :
  RE g fr d sc Γ (.Call (.Attribute o (Str.ofString "append") ap) [e] [] pos) (bd mo λ o=>bd (chkL o) λ _=>bd m λ a=>appL o a):=by
 intro x hx hsc hfr μ adr s S b μ' eq
 refine hideP λ PZ hZ=> ?_
 obtain ⟨ov,μ₁,e1,e2⟩:=bd_some eq
 obtain ⟨u,μ₂,e2,e3⟩:=bd_some e2
 obtain ⟨rfl,i,xs,rfl,hi⟩:=be e2
 obtain ⟨plc,hpl⟩:=he x.env
 refine hZ ?_
 refine MethodCall_ (pl:=plc) (wpAny_mono (ho x hx hsc hfr μ adr s S _ _ e1) (λ vo s₁ ⟨adr₁,p1,S1,r1⟩=> ?_) λ _ _ z=>z) hpl
 refine jd hx S1 r1 hi PySem.F.slot_list_append PySem.F.type_list_append ?_
 have e3':bd (evs [m]) (λ as=>match as with | [a]=>appL (.obj i) a | _=>fl) μ₁=some (b,μ'):=by rw [evs1];exact e3
 refine wpAny_mono (zU (first:=[vo]) hx hsc hfr Kp.builtin (yV h1 wo (by intro env;rw [hst];rfl)) S1 (λ vs as μ₃ adr₃ s₃ p3 S₃ r=> ?_) b μ' e3') (λ v s₂ ⟨adr₂,p2,S2,r2⟩=>⟨adr₂,p1.trans p2,S2,r2⟩) λ _ _ z=>z
 cases r with
 | nil=>intro b μ' e;exact za e
 | cons q1 q2 =>
  cases q2 with
  | nil=>exact XO hx S₃ (r1.pre p3) q1
  | cons _ _=>intro b μ' e;exact za e
theorem Ur {o:PySem.Expr} {k:Nat} {ap pos cp:Pos} {mo:M AV} (ho:RE g fr d sc Γ o mo) (he:zo o "pop" ap pos [.Constant (.int 0) k cp]) :
  RE g fr d sc Γ (.Call (.Attribute o (Str.ofString "pop") ap) [.Constant (.int 0) k cp] [] pos) (bd mo λ o=>bd (chkL o) λ _=>popL o):=by
 intro x hx hsc hfr μ adr s S b μ' eq
 refine hideP λ PZ hZ=> ?_
 obtain ⟨ov,μ₁,e1,e2⟩:=bd_some eq
 obtain ⟨u,μ₂,e2,e3⟩:=bd_some e2
 obtain ⟨rfl,i,xs,rfl,hi⟩:=be e2
 obtain ⟨plc,hpl⟩:=he x.env
 refine hZ ?_
 refine MethodCall_ (pl:=plc) (wpAny_mono (ho x hx hsc hfr μ adr s S _ _ e1) (λ vo s₁ ⟨adr₁,p1,S1,r1⟩=> ?_) λ _ _ z=>z) hpl
 refine jd hx S1 r1 hi PySem.F.slot_list_pop PySem.F.type_list_pop ?_
 have h1:RE g fr d sc Γ (.Constant (.int 0) k cp) (rt (.int 0)):=g8
 have e3':bd (evs [rt (.int 0)]) (λ as=>if as=[.int 0] then popL (.obj i) else fl) μ₁=some (b,μ'):=by rw [evs1];exact e3
 refine wpAny_mono (zU (first:=[vo]) hx hsc hfr Kp.builtin (yV h1 wo (by intro env;rfl)) S1 (λ vs as μ₃ adr₃ s₃ p3 S₃ r=> ?_) b μ' e3') (λ v s₂ ⟨adr₂,p2,S2,r2⟩=>⟨adr₂,p1.trans p2,S2,r2⟩) λ _ _ z=>z
 intro b μ' e
 obtain ⟨has,e⟩:=wd e
 subst has
 cases r with
 | cons q1 q2 =>
  cases q2
  cases q1
  exact XP hx S₃ (r1.pre p3) b μ' e
theorem k8 {name id:String} {o e:PySem.Expr} {ap pos:Pos} {mo m:M AV} {mop:AV→AV→M AV} (slot:Slot "dict" (Str.ofString name) id) (hty:typeOf (.builtin id)=pure (.type "method_descriptor"))
  (hF: ∀ (x:Cx) (d:Nat) (Γ:Cx0),x.Ok g d→ ∀ va vb a b μ adr s,St g x Γ μ adr s→VR x.fd adr va a→VR x.fd adr vb b→Does g x Γ (VR x.fd) (call (.builtin id) [va,vb]) (mop a b) μ adr s)
  (ho:RE g fr d sc Γ o mo) (h1:RE g fr d sc Γ e m) (he:zo o name ap pos [e]) (hst: ∀ env,starEach [e] env=[(false,eval e env)]) :
  RE g fr d sc Γ (.Call (.Attribute o (Str.ofString name) ap) [e] [] pos) (bd mo λ o=>bd (chkD o) λ _=>bd m λ a=>mop o a):=by
 intro x hx hsc hfr μ adr s S b μ' eq
 refine hideP λ PZ hZ=> ?_
 obtain ⟨ov,μ₁,e1,e2⟩:=bd_some eq
 obtain ⟨u,μ₂,e2,e3⟩:=bd_some e2
 obtain ⟨rfl,i,oo,rfl,hi,hdi⟩:=bf e2
 obtain ⟨plc,hpl⟩:=he x.env
 refine hZ ?_
 refine MethodCall_ (pl:=plc) (wpAny_mono (ho x hx hsc hfr μ adr s S _ _ e1) (λ vo s₁ ⟨adr₁,p1,S1,r1⟩=> ?_) λ _ _ z=>z) hpl
 refine je hx S1 r1 hi hdi slot hty ?_
 have e3':bd (evs [m]) (λ as=>match as with | [a]=>mop (.obj i) a | _=>fl) μ₁=some (b,μ'):=by rw [evs1];exact e3
 refine wpAny_mono (zU (first:=[vo]) hx hsc hfr Kp.builtin (yV h1 wo (by intro env;rw [hst];rfl)) S1 (λ vs as μ₃ adr₃ s₃ p3 S₃ r=> ?_) b μ' e3') (λ v s₂ ⟨adr₂,p2,S2,r2⟩=>⟨adr₂,p1.trans p2,S2,r2⟩) λ _ _ z=>z
 cases r with
 | nil=>intro b μ' e;exact za e
 | cons q1 q2 =>
  cases q2 with
  | nil=>exact hF x d Γ hx _ _ _ _ _ _ _ S₃ (r1.pre p3) q1
  | cons _ _=>intro b μ' e;exact za e
theorem hE {name id:String} {o e f:PySem.Expr} {ap pos:Pos} {mo m n:M AV} {mop:AV→AV→AV→M AV} (slot:Slot "dict" (Str.ofString name) id) (hty:typeOf (.builtin id)=pure (.type "method_descriptor"))
  (hF: ∀ (x:Cx) (d:Nat) (Γ:Cx0),x.Ok g d→ ∀ va vb vc a b c μ adr s,St g x Γ μ adr s→VR x.fd adr va a→VR x.fd adr vb b→VR x.fd adr vc c→Does g x Γ (VR x.fd) (call (.builtin id) [va,vb,vc]) (mop a b c) μ adr s)
  (ho:RE g fr d sc Γ o mo) (h1:RE g fr d sc Γ e m) (h2:RE g fr d sc Γ f n) (he:zo o name ap pos [e,f]) (hst: ∀ env,starEach [e,f] env=[(false,eval e env),(false,eval f env)]) (hst': ∀ env,starEach [f] env=[(false,eval f env)]) :
  RE g fr d sc Γ (.Call (.Attribute o (Str.ofString name) ap) [e,f] [] pos) (bd mo λ o=>bd (chkD o) λ _=>bd m λ a=>bd n λ b=>mop o a b):=by
 intro x hx hsc hfr μ adr s S b μ' eq
 refine hideP λ PZ hZ=> ?_
 obtain ⟨ov,μ₁,e1,e2⟩:=bd_some eq
 obtain ⟨u,μ₂,e2,e3⟩:=bd_some e2
 obtain ⟨rfl,i,oo,rfl,hi,hdi⟩:=bf e2
 obtain ⟨plc,hpl⟩:=he x.env
 refine hZ ?_
 refine MethodCall_ (pl:=plc) (wpAny_mono (ho x hx hsc hfr μ adr s S _ _ e1) (λ vo s₁ ⟨adr₁,p1,S1,r1⟩=> ?_) λ _ _ z=>z) hpl
 refine je hx S1 r1 hi hdi slot hty ?_
 have e3':bd (evs [m,n]) (λ as=>match as with | [a,b]=>mop (.obj i) a b | _=>fl) μ₁=some (b,μ'):=by rw [evs2];exact e3
 refine wpAny_mono (zU (first:=[vo]) hx hsc hfr Kp.builtin (yV h1 (yV h2 wo (by intro env;rw [hst'];rfl)) (by intro env;rw [hst,hst'])) S1 (λ vs as μ₃ adr₃ s₃ p3 S₃ r=> ?_) b μ' e3') (λ v s₂ ⟨adr₂,p2,S2,r2⟩=>⟨adr₂,p1.trans p2,S2,r2⟩) λ _ _ z=>z
 cases r with
 | nil=>intro b μ' e;exact za e
 | cons q1 q2 =>
  cases q2 with
  | nil=>intro b μ' e;exact za e
  | cons q2 q3 =>
   cases q3 with
   | nil=>exact hF x d Γ hx _ _ _ _ _ _ _ _ _ S₃ (r1.pre p3) q1 q2
   | cons _ _=>intro b μ' e;exact za e
end
section
variable {g:Gd} {x:Cx} {d:Nat} {sc:Scope} {z fr:Bool} {Γc Γ' Γ:Cx0}
theorem VarV.move {x x':Cx} {m:Str→Option Value} {pl:Led} {n:Str} {k:NameKind} {v:Value} (he:x'.env=x.env) (hL:x'.L=x.L) (h0:x'.h₀=x.h₀) (h:VarV x m pl n k v):VarV x' m pl n k v:=by
 cases h with
 | loc b1 b2=>exact .loc (by rw [he,hL];exact b1) b2
 | cloc b1 b2 b3 b4=>exact .cloc (by rw [he];exact b1) b2 b3 b4
 | cell b1 b2 b3=>exact .cell (by rw [he];exact b1) (by rw [h0];exact b2) b3
 | free b1 b2 b3=>exact .free (by rw [he];exact b1) (by rw [h0];exact b2) b3
theorem StE.move {x x':Cx} {μ:Mem} {adr:List Addr} {s:Shared} {cs:List Led} {pl:Led} {m:Str→Option Value} (he:x'.env=x.env) (hL:x'.L=x.L) (h0:x'.h₀=x.h₀) (hfd:x'.fd=x.fd) (hs0:x'.s0=x.s0) (hfa:x'.fact=x.fact) (hkm:x'.km=x.km)
  (S:StE g x Γ μ adr s cs pl m) (hn: ∀ p∈x'.need,x.h₀.get? p.1=some p.2∨p∈pl) (hl: ∀ p∈x'.lks,cs[p.1]? =some p.2∧ ∃ o,μ[p.1]? =some o∧o.locked=true):StE g x' Γ μ adr s cs pl m :=
 ⟨by rw [h0,hL];exact S.F,by rw [h0,hL];exact S.N,S.nd,S.ha,by rw [hfd];exact S.C,λ i av e=>let ⟨n,k,v,a1,a2,a3⟩:=S.V i av e;⟨n,k,v,by rw [he];exact a1,a2.move he hL h0,by rw [hfd];exact a3⟩,
  by rw [hs0];exact S.gens,by rw [hs0];exact S.drawn,by rw [hs0];exact S.os,by rw [h0];exact hn,by rw [hfa];exact S.fa,hl,by rw [he];exact S.cl,by rw [hkm];exact S.km⟩
theorem St.reA {A:Around} {μ:Mem} {adr:List Addr} {s:Shared} (S:St g x Γ μ adr s):St g {x with A:=A} Γ μ adr s:=let ⟨cs,pl,m,Z⟩:=S;⟨cs,pl,m,StE.move (x:=x) (x':= {x with A:=A}) rfl rfl rfl rfl rfl rfl rfl Z Z.ex Z.lk⟩
theorem St.unA {A:Around} {μ:Mem} {adr:List Addr} {s:Shared} (S:St g {x with A:=A} Γ μ adr s):St g x Γ μ adr s:=let ⟨cs,pl,m,Z⟩:=S;⟨cs,pl,m,StE.move (x:= {x with A:=A}) (x':=x) rfl rfl rfl rfl rfl rfl rfl Z Z.ex Z.lk⟩
structure ClsIs (g:Gd) (c:Cl) (fI:Addr):Prop where
 a1:makesIn g.K c.addr=true
 a2:findIn g.K (.ref c.addr) "__init__" =some (some (.ref fI))
 a3:isFn g.K (.ref fI)=true
 a4:Kp g (.ref c.addr)
set_option tactic.hygienic true in
theorem wH {c:Cl} {fI:Addr} {F:List AV→M AV} (hC:ClsIs g c fI) (hF:Fn g d (.ref fI) F):Fn g (d+1) (.ref c.addr) (λ as=>new c λ o=>F (o :: as)):=by
 intro x Γ hx μ adr s vs as R S r b μ' e hR
 refine hideP λ PZ hZ=> ?_
 obtain ⟨o,μ₁,e1,e2⟩:=bd_some (show bd (al (.inst c [])) _ μ=_ from e)
 obtain ⟨rfl,rfl⟩:=yz e1
 obtain ⟨rv,μ₂,e2,e3⟩:=bd_some e2
 refine hZ ?_
 split at e3
 case isFalse=>exact za e3
 rename_i hrv
 subst hrv
 cases e3
 obtain ⟨cs,pl,m,S⟩:=S
 have X:g.K.In s.heap:=hx.kin.keeps S.F.keep
 refine make_K S.F S.N X hC.a1 hC.a2 (beq_iff_eq.mp hC.a3) λ x₀ dx h' F' N' lt lt'=> ?_
 have Z:=S.new (s':= {s with heap:=h'}) (c:=[(x₀,instObj c.addr dx),(dx,emptyDict)]) (o:= .inst c []) (λ adr' p=>hx.mono _ _ p) (.inst (es:=[]) (n:=0) .nil (by simp) (by simp)) F' N'
  (by simp only [List.map_cons,List.map_nil,List.nodup_cons,List.mem_singleton,List.not_mem_nil,not_false_eq_true,List.nodup_nil,and_true];exact Nat.ne_of_gt lt') (λ p hp q hq=>by
   have hlt:=lt q hq
   simp only [List.mem_cons,List.not_mem_nil,or_false] at hp
   rcases hp with rfl | rfl
   ·exact Nat.ne_of_lt (Nat.lt_trans hlt lt')
   ·exact Nat.ne_of_lt hlt)
 have x1:({x with A:=x.A.under (.builtin "type.__call__" ⟨.ref c.addr :: vs,[]⟩)}:Cx).Ok g d:=by
  have hd:(x.A.under (.builtin "type.__call__" ⟨.ref c.addr :: vs,[]⟩)).depth=x.A.depth+1:=rfl
  have hu:(x.A.under (.builtin "type.__call__" ⟨.ref c.addr :: vs,[]⟩)).units=x.A.units+1:=rfl
  have hf:(x.A.under (.builtin "type.__call__" ⟨.ref c.addr :: vs,[]⟩)).frames=x.A.frames:=rfl
  have hh:(x.A.under (.builtin "type.__call__" ⟨.ref c.addr :: vs,[]⟩)).handled=x.A.handled:=rfl
  exact {hx with frames:=hf.trans hx.frames,hnd:=hh.trans hx.hnd,dep:=by (show (x.A.under _).depth+d < _);rw [hd];have:=hx.dep;lia,un:=by (show (x.A.under _).units+16 * d+100 < _);rw [hu];have:=hx.un;lia}
 refine hF _ Γ x1 _ _ _ (.ref x₀ :: vs) (.obj μ.length :: as) _ (St.reA ⟨_,_,_,Z⟩) (.cons (.last S.ladr) (r.mono λ _ _=>VR.pre ⟨_,rfl⟩)) .none μ' e2 λ v s' z=> ?_
 obtain ⟨adr',p,S',rv⟩:=z
 cases rv
 exact ⟨rfl,hR _ _ ⟨adr',List.IsPrefix.trans ⟨_,rfl⟩ p,S'.unA,VR.pre p (.last S.ladr)⟩⟩
theorem Us {n:Str} {name:String} {np ap pos:Pos} {es:List PySem.Expr} {ms:List (M AV)} {C f:Addr} {mc:Value} {F:List AV→M AV} {dF:Nat} (hn:NameIs g sc n (.ref C)) (h1:specialIn g.K (.ref C) "__getattribute__" =some (some (.builtin "type.__getattribute__")))
  (h2:typeIn g.K (.ref C)=some mc) (h3:readsIn g.K C mc=true) (h4:findCls g.K (.ref C) mc (Str.ofString name)=some (.val (.ref f))) (h5:Kp g (.ref f)) (hF:Fn g dF (.ref f) F) (hd:dF≤d) (ha:REs g fr d sc Γ es ms) (he:zo (.Name n np) name ap pos es) :
  RE g fr d sc Γ (.Call (.Attribute (.Name n np) (Str.ofString name) ap) es [] pos) (bd (evs ms) F):=by
 intro x hx hsc hfr μ adr s S b μ' e
 obtain ⟨plc,hpl⟩:=he x.env
 refine MethodCall_ (pl:=plc) (hn x d hx hsc Γ μ adr s np _ S ?_) hpl
 obtain ⟨cs,pl,m,Z⟩:=id S
 refine method_of_cls Z.F hx.kin h1 (cls_val Z.F hx.kin h2 h3 h4 rfl ?_)
 exact zU (first:=[]) hx hsc hfr h5 ha S.toks (λ vs as μ₁ adr₁ s₁ _ S₁ r=>(hF.weak hd).does hx S₁ r) b μ' e
end
section
variable {g:Gd} {x:Cx} {d:Nat} {sc:Scope} {z fr:Bool} {Γc Γ' Γ:Cx0}
theorem wq (hf:Facts g) (hx:x.Ok g d) {nd:Led} {lks:List (Nat × Led)} (h1: ∀ p∈x.need,p∈nd) (h2: ∀ p∈nd,p∈x.need∨ ∀ n c,x.env.scope.names.lookup n=some .cell→x.env.cells.lookup n=some c→p.1≠c):({x with need:=nd,lks:=lks}:Cx).Ok g d :=
 {hx with co:=hf.com _ _ _ _ h1 hx.co,cz:=λ hz p hp n c hn hc=>(h2 p hp).elim (λ h=>hx.cz hz p h n c hn hc) λ h=>h n c hn hc}
theorem StE.priv {μ:Mem} {adr:List Addr} {s:Shared} {cs:List Led} {pl:Led} {m:Str→Option Value} (S:StE g x Γ μ adr s cs pl m) (o:Obj) {lks:List (Nat × Led)} (ho:o.isFreed=false:=by rfl) (hl: ∀ p∈lks,cs[p.1]? =some p.2∧ ∃ o,μ[p.1]? =some o∧o.locked=true) :
  StE g {x with need:=(s.heap.objs.size,o) :: x.need,lks:=lks} Γ μ adr {s with heap:=s.heap.push o} cs ((s.heap.objs.size,o) :: pl) m:=by
 refine ⟨S.F.push o,?_,?_,S.ha,S.C,λ i av e=> ?_,S.gens,S.drawn,S.os,λ p hp=> ?_,S.fa,hl,λ n c hn hc=> ?_,S.km⟩
 ·have N':=News.push S.F S.N o ho
  intro p hp
  refine N' p ?_
  simp only [List.mem_append,List.mem_cons] at hp ⊢
  rcases hp with h | h | h
  ·exact .inr (.inl h)
  ·exact .inl h
  ·exact .inr (.inr h)
 ·have z:(((s.heap.objs.size,o) :: (cs.flatten ++ pl)).map (·.1)).Nodup:=by
   simp only [List.map_cons,List.nodup_cons]
   refine ⟨λ q=> ?_,S.nd⟩
   obtain ⟨p,hp,e⟩:=List.mem_map.mp q
   have:=S.lt p hp
   rw [e] at this
   exact Nat.lt_irrefl _ this
  have pm:(cs.flatten ++ (s.heap.objs.size,o) :: pl).Perm ((s.heap.objs.size,o) :: (cs.flatten ++ pl)):=List.perm_middle
  exact (pm.map (·.1)).nodup_iff.mpr z
 ·obtain ⟨n,k,v,a1,a2,a3⟩:=S.V i av e
  refine ⟨n,k,v,a1,?_,a3⟩
  cases a2 with
  | loc b1 b2=>exact .loc b1 b2
  | cloc b1 b2 b3 b4=>exact .cloc (.tail _ b1) b2 b3 b4
  | cell b1 b2 b3=>exact .cell b1 (b2.imp id λ h=> .tail _ h) b3
  | free b1 b2 b3=>exact .free b1 (b2.imp id λ h=> .tail _ h) b3
 ·rcases List.mem_cons.mp hp with rfl | hp
  ·exact .inr (.head _)
  ·exact (S.ex p hp).imp id λ h=> .tail _ h
 ·obtain ⟨o',v₀,h1,h2⟩:=S.cl n c hn hc
  exact ⟨o',v₀, .tail _ h1,h2⟩
theorem Yb {h h':Heap} {L:Addr} {m:Str→Option Value} (n:h.Ns L m) (e: ∀ o,h.get? L=some o→h'.get? L=some o):h'.Ns L m:=let ⟨o,es,ep,x,r⟩:=n;⟨o,es,ep,e _ x,r⟩
theorem StE.swap {μ:Mem} {adr:List Addr} {s:Shared} {cs:List Led} {p1 p2 r:Led} {m:Str→Option Value} {I:Addr} {oI:Obj} {h':Heap} {tk:Tok} {nd:Led} (S:StE g x Γ μ adr s cs (p1 ++ (I,oI) :: p2) m)
  (hr:r=[]∨ ∃ o',r=[(I,o')]∧h'.get? I=some o') (hs:Heap.ExtBut I s.heap h') (hd: ∀ v,oI.data≠ .cell v) (hl:x.env.locals≠I∨ ∀ (i:Nat) (av:AV),Γ[i]? =some (some av)→ ∀ n:Str,x.env.scope.names[i]? ≠some (n,NameKind.local)) (hn: ∀ p∈nd,p∈r∨(p∈x.need∧p.1≠I)) :
  StE g (x.wn (nd)) Γ μ adr {s with heap:=h',toks:=tk} cs (p1 ++ (r ++ p2)) m:=by
 have N:=S.N
 have nd:=S.nd
 rw [qN] at N nd
 obtain ⟨n1,n2⟩:=ub nd
 have hmm:=N (I,oI) (List.mem_append_right _ (.head _))
 have key: ∀ q,q∈p1 ++ (I,oI) :: p2→q.1≠I→q∈p1 ++ (r ++ p2):=λ q hq hne=>by
  rcases List.mem_append.mp hq with h | h
  ·exact List.mem_append_left _ h
  ·rcases List.mem_cons.mp h with h | h
   ·exact absurd (by rw [h]) hne
   ·exact List.mem_append_right _ (List.mem_append_right _ h)
 have same: ∀ q:Obj,(I,q)∈p1 ++ (I,oI) :: p2→q=oI:=λ q hq=>by
  have h1:=(S.N (I,q) (List.mem_append_right _ hq)).1
  rw [hmm.1] at h1;exact (Option.some.inj h1).symm
 have noc: ∀ c (o:Obj) v,(c,o)∈p1 ++ (I,oI) :: p2→o.data= .cell v→c≠I:=λ c o v hm hdd q=>by
  replace q:=q.symm;subst q;rw [same _ hm] at hdd;exact hd v hdd
 have rI: ∀ q∈r,q.1=I∧h'.get? q.1=some q.2:=λ q hq=>by
  rcases hr with rfl | ⟨o',rfl,ho'⟩
  ·simp at hq
  ·exact (List.mem_singleton.mp hq) ▸ (⟨rfl,ho'⟩)
 refine ⟨⟨Yb S.F.ns λ o e=>hs _ _ (λ q=>hmm.2.1 q.symm) e,λ b o e=>hs b o (λ q=>by rw [q,hmm.2.2] at e;cases e) (S.F.keep b o e),S.F.above⟩,?_,?_,S.ha,S.C,λ i av e=> ?_,S.gens,S.drawn,S.os,λ p hp=> ?_,S.fa,S.lk,λ n c hn hc=> ?_,S.km⟩
 ·intro p hp
  have cases':p∈r∨(p∈cs.flatten ++ p1∨p∈p2):=by
   simp only [List.mem_append] at hp ⊢
   rcases hp with h | h | h | h
   ·exact .inr (.inl (.inl h))
   ·exact .inr (.inl (.inr h))
   ·exact .inl h
   ·exact .inr (.inr h)
  rcases cases' with h | h | h
  ·obtain ⟨e1,e2⟩:=rI p h
   exact ⟨e2,e1 ▸ hmm.2.1,e1 ▸ hmm.2.2⟩
  ·have q:=N p (List.mem_append_left _ h)
   exact ⟨hs _ _ (n1 p h) q.1,q.2⟩
  ·have q:=N p (List.mem_append_right _ (.tail _ h))
   exact ⟨hs _ _ (n2 p h) q.1,q.2⟩
 ·rcases hr with rfl | ⟨o',rfl,_⟩
  ·have:=S.nd
   refine List.Sublist.nodup (List.Sublist.map _ ?_) this
   simp
  ·have:=S.nd;simpa using this
 ·obtain ⟨n,k,v,a1,a2,a3⟩:=S.V i av e
  refine ⟨n,k,v,a1,?_,a3⟩
  cases a2 with
  | loc b1 b2=>exact .loc b1 b2
  | cloc b1 b2 b3 b4=>exact .cloc (key _ b1 (hl.elim id λ h=>absurd a1 (h i av e n))) b2 b3 b4
  | cell b1 b2 b3=>exact .cell b1 (b2.imp id λ h=>key _ h (noc _ _ _ h b3)) b3
  | free b1 b2 b3=>exact .free b1 (b2.imp id λ h=>key _ h (noc _ _ _ h b3)) b3
 ·rcases hn p hp with h | ⟨h,hne⟩
  ·exact .inr (List.mem_append_right _ (List.mem_append_left _ h))
  ·exact (S.ex p h).imp id λ h=>key _ h hne
 ·obtain ⟨o',v₀,h1,h2⟩:=S.cl n c hn hc
  exact ⟨o',v₀,key _ h1 (noc _ _ _ h1 h2),h2⟩
structure Steps (g:Gd) (x:Cx) (adr₀:List Addr) (I:Addr) (items:List AV) (ck:M Unit) (Jt:Nat→Obj→Prop):Prop where
 ckp: ∀ μ u μ',ck μ=some (u,μ')→μ'=μ
 item: ∀ (x':Cx) (_:x'.fd=x.fd) (_:x'.lks=x.lks) Γ j μ adr s cs pl m oI,StE g x' Γ μ adr s cs pl m→adr₀ <+: adr→(I,oI)∈pl→Jt j oI→ck μ=some ((),μ)→ ∀ a,items[j]? =some a→ ∀ Q:Option Value→Shared→Prop,
  (∀ v h' oI' tk,VR x.fd adr v a→Jt (j+1) oI'→h'.get? I=some oI'→Heap.ExtBut I s.heap h'→Q (some v) {s with heap:=h',toks:=tk})→wpAny (model g.prog g.w) x.A (pyNext (.ref I)) Q nof s
 done: ∀ (x':Cx) (_:x'.fd=x.fd) (_:x'.lks=x.lks) Γ j μ adr s cs pl m oI,StE g x' Γ μ adr s cs pl m→adr₀ <+: adr→(I,oI)∈pl→Jt j oI→ck μ=some ((),μ)→items[j]? =none→ ∀ Q:Option Value→Shared→Prop,
  (∀ h' tk,Heap.ExtBut I s.heap h'→Q none {s with heap:=h',toks:=tk})→wpAny (model g.prog g.w) x.A (pyNext (.ref I)) Q nof s
 dat: ∀ j o,Jt j o→ ∀ v,o.data≠ .cell v
 self: ∀ (s:Shared) j oI,s.heap.get? I=some oI→Jt j oI→ ∀ (Q:Value→Shared→Prop) (E:Value→Shared→Prop),Q (.ref I) s→wpAny (model g.prog g.w) x.A (pyIter (.ref I)) Q E s
theorem uW {ck:M Unit} {μ:Mem} {u:Unit} {μ':Mem} (hc: ∀ μ u μ',ck μ=some (u,μ')→μ'=μ) (e:ck μ=some (u,μ')):ck μ=some ((),μ):=by
 have:=hc _ _ _ e;subst this;exact e
theorem zR {α:Type} {M:Model} {A:Around} {t:Sem α} {Q:α→Shared→Prop} {E:Value→Shared→Prop} {s:Shared} (h:wpAny M A t Q nof s):wpAny M A t Q E s:=wpAny_mono h (λ _ _ z=>z) λ _ _ z=>z.elim
noncomputable def LoopR (g:Gd) (x:Cx) {ρ:Type} (G:ρ→Cx0) (b:Fl ρ) (μ':Mem) (adr':List Addr) (s':Shared) (fl:Flow):Prop:=match b with
 | .nxt r=>fl= .next∧St g x (G r) μ' adr' s'
 | .cnt=>False
 | .ret v=> ∃ vv,fl= .ret vv∧VR x.fd adr' vv v∧St g x [] μ' adr' s'
inductive LoopI (g:Gd) (x:Cx) {ρ:Type} (G:ρ→Cx0) (ck:M Unit) (bodyM:ρ→AV→M (Fl ρ)) (I:Addr) (items:List AV) (Jt:Nat→Obj→Prop) (b:Fl ρ) (μ':Mem) (adr₀:List Addr) (k:Nat) (s':Shared):Prop
 | mk (j:Nat) (r:ρ) (μ:Mem) (adr':List Addr) (cs:List Led) (pl:Led) (m:Str→Option Value) (oI:Obj) (hk:k=items.length - j) (pa:adr₀ <+: adr') (S:StE g (x.wn ((I,oI) :: x.need)) (G r) μ adr' s' cs pl m) (hJ:Jt j oI) (e:goG ck bodyM (items.drop j) r μ=some (b,μ')):LoopI g x G ck bodyM I items Jt b μ' adr₀ k s'
theorem uc (hf:Facts g) (hx:x.Ok g d) (hsc:x.env.scope=sc) (hfr:x.env=x.fenv) (hz:x.fz=z) {ρ:Type} {G:ρ→Cx0} {n:Str} {i:Nat} {px:Pos} {body:List Stmt} {bodyM:ρ→AV→M (Fl ρ)} {I:Addr} {items:List AV} {ck:M Unit} {Jt:Nat→Obj→Prop} {b:Fl ρ} {μ':Mem} {adr₀:List Addr} {s₀:Shared} {R:Result→Shared→Prop}
  (hst:Steps g x adr₀ I items ck Jt) (hI0:x.h₀.get? I=none) (hIL:x.L≠I) (hIn: ∀ p∈x.need,p.1≠I) (hIc: ∀ n c,x.env.scope.names.lookup n=some .cell→x.env.cells.lookup n=some c→I≠c) (hn:Stores z sc i n)
  (hb: ∀ r v,RS g z d sc ((G r).set i (some v)) (G r) G body (bodyM r v))
  (hR: ∀ fl s',(∃ adr',adr₀ <+: adr'∧LoopR g x G b μ' adr' s' fl)→R (.ok fl) s')
  {r₀:ρ} {μ₀:Mem} {cs₀:List Led} {pl₀:Led} {m₀:Str→Option Value} {o₀:Obj} (S₀:StE g (x.wn ((I,o₀) :: x.need)) (G r₀) μ₀ adr₀ s₀ cs₀ pl₀ m₀) (hJ:Jt 0 o₀) (e₀:goG ck bodyM items r₀ μ₀=some (b,μ')) :
  codeAny (model g.prog g.w) x.A (.forLoop (.Name n px) (.ref I) body [] x.env) R s₀:=by
 have okx: ∀ o,(x.wn ((I,o) :: x.need)).Ok g d:=λ o=>wq hf hx (λ p hp=> .tail _ hp) λ p hp=>by
  rcases List.mem_cons.mp hp with rfl | hp
  ·exact .inr hIc
  ·exact .inl hp
 have hloc:x.env.locals≠I:=by rw [hfr];exact (show x.fenv.locals=x.L from hx.floc) ▸ hIL
 refine codeAny_forLoop (LoopI g x G ck bodyM I items Jt b μ' adr₀)
  (λ k s' hk=> ?_) (items.length - 0) ⟨0,r₀,μ₀,adr₀,cs₀,pl₀,m₀,o₀,rfl,List.prefix_refl _,S₀,hJ,by simpa using e₀⟩
 obtain ⟨j,r,μ,adr',cs,pl,m,oI,rfl,pa,S,hJ,e⟩:=hk
 have hmem:(I,oI)∈pl:=(S.ex (I,oI) (.head _)).resolve_left λ q=>by rw [show x.h₀.get? I=none from hI0] at q;exact za q
 obtain ⟨p1,p2,rfl⟩:=List.append_of_mem hmem
 cases hit:items[j]? with
 | none =>
  refine hideP λ PZ hZ=> ?_
  have hdr:items.drop j=[]:=List.drop_eq_nil_of_le (List.getElem?_eq_none_iff.mp hit)
  rw [hdr] at e
  obtain ⟨u,μ₁,e1,e2⟩:=bd_some (show bd ck _ μ=_ from e)
  have hck:=uW hst.ckp e1
  have:=hst.ckp _ _ _ e1
  subst this
  obtain ⟨rfl,eqq⟩:=some2 e2;subst μ₁
  refine hZ ?_
  refine zR (hst.done (x.wn ((I,oI) :: x.need)) rfl rfl _ j _ adr' s' cs _ m oI S pa hmem hJ hck hit _ λ h' tk he=> ?_)
  refine zR (wpAny_execs_nil (hR _ _ ⟨adr',pa,rfl,?_⟩))
  exact ⟨cs,_,m,StE.swap (x:=(x.wn ((I,oI) :: x.need))) (nd:=x.need) S (.inl rfl) he (hst.dat _ _ hJ) (.inl hloc) λ p hp=> .inr ⟨.tail _ hp,hIn p hp⟩⟩
 | some a =>
  have hjl:j < items.length:=(List.getElem?_eq_some_iff.mp hit).1
  have hdr:items.drop j=a :: items.drop (j+1):=by
   rw [List.drop_eq_getElem_cons hjl]
   rw [(List.getElem?_eq_some_iff.mp hit).2]
  rw [hdr] at e
  obtain ⟨u,μ₁,e1,e2⟩:=bd_some (show bd ck _ μ=_ from e)
  have hck:=uW hst.ckp e1
  have:=hst.ckp _ _ _ e1
  subst this
  obtain ⟨fl,μ₂,e2,e3⟩:=bd_some e2
  refine zR (hst.item (x.wn ((I,oI) :: x.need)) rfl rfl _ j _ adr' s' cs _ m oI S pa hmem hJ hck a hit _ λ v h' oI' tk hv hJ' hg he=> ?_)
  have S1:=StE.swap (x:=(x.wn ((I,oI) :: x.need))) (r:=[(I,oI')]) (tk:=tk) (nd:=(I,oI') :: x.need) S (.inr ⟨oI',rfl,hg⟩) he (hst.dat _ _ hJ) (.inl hloc) λ p hp=>by
   rcases List.mem_cons.mp hp with rfl | hp
   ·exact .inl (.head _)
   ·exact .inr ⟨.tail _ hp,hIn p hp⟩
  have St1:St g (x.wn ((I,oI') :: x.need)) (G r) μ₁ adr' {s' with heap:=h',toks:=tk}:=⟨_,_,_,S1⟩
  refine zR (wpAny_assign_Name (wpAny_mono (xD (x:=(x.wn ((I,oI') :: x.need))) (okx oI') hsc hfr hz hn St1 hv) (λ _ s₂ S2=> ?_) λ _ _ z=>z))
  refine zR (wpAny_mono (hb r a _ (okx oI') hsc hfr hz μ₁ adr' s₂ S2 fl μ₂ e2) (λ fl' s₃ z=> ?_) λ _ _ z=>z)
  obtain ⟨adr₃,p3,z⟩:=z
  cases fl with
  | nxt r' =>
   obtain ⟨rfl,cs3,pl3,m3,S3⟩:=z
   exact ⟨items.length - (j+1),by omega,j+1,r',μ₂,adr₃,cs3,pl3,m3,oI',rfl,pa.trans p3,S3,hJ',e3⟩
  | cnt =>
   obtain ⟨rfl,cs3,pl3,m3,S3⟩:=z
   exact ⟨items.length - (j+1),by omega,j+1,r,μ₂,adr₃,cs3,pl3,m3,oI',rfl,pa.trans p3,S3,hJ',e3⟩
  | ret vv =>
   obtain ⟨w,rfl,hw,cs3,pl3,m3,S3⟩:=z
   obtain ⟨rfl,eqq⟩:=some2 e3;subst μ₂
   refine hR _ _ ⟨adr₃,pa.trans p3,w,rfl,hw,cs3,pl3,m3,?_⟩
   exact StE.move (x:=(x.wn ((I,oI') :: x.need))) (x':=x) rfl rfl rfl rfl rfl rfl rfl S3 (λ p hp=>S3.ex p (.tail _ hp)) S3.lk
end
section
variable {g:Gd} {x:Cx} {d:Nat} {sc:Scope} {z fr:Bool} {Γc Γ' Γ:Cx0}
set_option tactic.hygienic true in
theorem vJ {i:Nat} {o:AO} {μ μ':Mem} {u:Unit} (e:ckO i o μ=some (u,μ')):μ[i]? =some o∧μ'=μ:=by
 obtain ⟨p,h1,e2⟩:=zG (show bd (rd i) _ μ=_ from e)
 split at e2
 ·rename_i h;subst h;obtain ⟨rfl,rfl⟩:=some2 e2;exact ⟨h1,rfl⟩
 ·exact za e2
noncomputable def ListIt (ad:Addr) (j:Nat) (o:Obj):Prop:=o.cls= .type "list_iterator" ∧o.data= .fields #[.ref ad, .int j 0]
theorem qh {adr₀ adr:List Addr} {i:Nat} {ad:Addr} (p:adr₀ <+: adr) (h:adr₀[i]? =some ad):adr[i]? =some ad:=by
 obtain ⟨m,rfl⟩:=p
 rw [List.getElem?_append_left (List.getElem?_eq_some_iff.mp h).1];exact h
theorem qi (hh:x.A.handled=none) {adr₀:List Addr} {I ad:Addr} {i:Nat} {xs:List AV} (had:adr₀[i]? =some ad):Steps g x adr₀ I xs (ckO i (.list xs)) (ListIt ad) where
 self:=λ s j oI ho hJ Q E hq=>wpAny_pyIter_listiter (l:=ad) (i:=j) ⟨oI,ho,hJ.1,hJ.2⟩ hq
 ckp:=λ μ u μ' e=>(vJ e).2
 dat:=λ j o h v q=>by rw [h.2] at q;cases q
 item:=λ x' hfd hlk' Γ j μ adr s cs pl m oI S pa hm hJ hck a ha Q hQ=>by
  refine hideP λ PZ hZ=> ?_
  obtain ⟨h1,_⟩:=vJ hck
  have r:VR x'.fd adr (.ref ad) (.obj i):= .obj (qh pa had)
  obtain ⟨ad',vs,n,ead,hc,q1,q2,L1⟩:=S.listAt r h1
  refine hZ ?_
  cases ead
  obtain ⟨v,hv,hr⟩:=q1.at_ ha
  have hI:=(S.N _ (List.mem_append_right _ hm)).1
  have hit:s.heap.IsListIter I ad j:=⟨oI,hI,hJ.1,hJ.2⟩
  refine wpAny_pyNext_list_item hit L1 (x:=v) (by simpa using hv) λ h' hit' hs=> ?_
  obtain ⟨o',ho',a1,a2⟩:=hit'
  exact hQ v h' o' s.toks (hfd ▸ hr) ⟨a1,a2⟩ ho' hs.extBut
 done:=λ x' hfd hlk' Γ j μ adr s cs pl m oI S pa hm hJ hck ha Q hQ=>by
  refine hideP λ PZ hZ=> ?_
  obtain ⟨h1,_⟩:=vJ hck
  have r:VR x'.fd adr (.ref ad) (.obj i):= .obj (qh pa had)
  obtain ⟨ad',vs,n,ead,hc,q1,q2,L1⟩:=S.listAt r h1
  refine hZ ?_
  cases ead
  have hI:=(S.N _ (List.mem_append_right _ hm)).1
  have hit:s.heap.IsListIter I ad j:=⟨oI,hI,hJ.1,hJ.2⟩
  exact wpAny_pyNext_list_end hh hit L1 (by simpa using q1.none_ ha) λ h' he=>hQ h' s.toks he
noncomputable def KeyIt (ad:Addr) (n ep:Nat) (j:Nat) (o:Obj):Prop:=o.cls= .type "dict_keyiterator" ∧o.data= .fields #[.ref ad, .int j 0, .int n 0, .int ep 0]
noncomputable def ValIt (ad:Addr) (n ep:Nat) (j:Nat) (o:Obj):Prop:=o.cls= .type "dict_valueiterator" ∧o.data= .fields #[.ref ad, .int j 0, .int n 0, .int ep 0]
theorem uX {x':Cx} (hlk':x'.lks=x.lks) {μ:Mem} {adr:List Addr} {s:Shared} {cs:List Led} {pl:Led} {m:Str→Option Value} {i:Nat} {ad:Addr} {od:Obj} {κ:Type} [DecidableEq κ] {knd:KeyKind g.prog g.w κ} {kvs:List (κ × Value)} {ep:Nat}
  (S:StE g x' Γ μ adr s cs pl m) (hlk:(i,[(ad,od)])∈x.lks) (hd:KdkAt knd od kvs ep):cs[i]? =some [(ad,od)]∧s.heap.DictAt knd ad kvs ep:=by
 obtain ⟨h1,_⟩:=S.lk _ (by rw [hlk'];exact hlk)
 exact ⟨h1,hd.dictAt (S.at1 h1)⟩
theorem ud (hh:x.A.handled=none) {adr₀:List Addr} {I ad:Addr} {od:Obj} {i:Nat} {o:AO} {items:List AV} {κ:Type} [DecidableEq κ] {knd:KeyKind g.prog g.w κ} {kvs:List (κ × Value)} {ep:Nat} (hlk:(i,[(ad,od)])∈x.lks) (hd:KdkAt knd od kvs ep)
  (hl:items.length=kvs.length) (hit: ∀ (j:Nat) (a:AV),items[j]? =some a→ ∃ (k:κ) (y:Value),kvs[j]? =some (k,y)∧ ∀ v adr,knd.is k v=true→VR x.fd adr v a):Steps g x adr₀ I items (ckO i o) (KeyIt ad kvs.length ep) where
 self:=λ s j oI ho hJ Q E hq=>wpAny_pyIter_keyiter (d:=ad) (i:=j) (n:=kvs.length) (ep:=ep) ⟨oI,ho,hJ.1,hJ.2⟩ hq
 ckp:=λ μ u μ' e=>(vJ e).2
 dat:=λ j o h v q=>by rw [h.2] at q;cases q
 item:=λ x' hfd hlk' Γ j μ adr s cs pl m oI S pa hm hJ hck a ha Q hQ=>by
  obtain ⟨h1,h2⟩:=uX hlk' S hlk hd
  obtain ⟨k,y,e1,e2⟩:=hit j a ha
  have hI:=(S.N _ (List.mem_append_right _ hm)).1
  refine wpAny_pyNext_dict_item ⟨oI,hI,hJ.1,hJ.2⟩ h2 e1 λ key h' hk hit' hs=> ?_
  obtain ⟨o',ho',a1,a2⟩:=hit'
  exact hQ key h' o' s.toks (e2 _ _ hk) ⟨a1,a2⟩ ho' hs.extBut
 done:=λ x' hfd hlk' Γ j μ adr s cs pl m oI S pa hm hJ hck ha Q hQ=>by
  obtain ⟨h1,h2⟩:=uX hlk' S hlk hd
  have hI:=(S.N _ (List.mem_append_right _ hm)).1
  have hn:kvs[j]? =none:=by rw [List.getElem?_eq_none_iff] at ha ⊢;rw [← hl];exact ha
  exact wpAny_pyNext_dict_end hh ⟨oI,hI,hJ.1,hJ.2⟩ h2 hn λ h' he=>hQ h' s.toks he
theorem YX (hh:x.A.handled=none) {adr₀:List Addr} {I ad:Addr} {od:Obj} {i:Nat} {o:AO} {items:List AV} {κ:Type} [DecidableEq κ] {knd:KeyKind g.prog g.w κ} {kvs:List (κ × Value)} {ep:Nat} (hlk:(i,[(ad,od)])∈x.lks) (hd:KdkAt knd od kvs ep)
  (hl:items.length=kvs.length) (hit: ∀ (j:Nat) (a:AV),items[j]? =some a→ ∃ (k:κ) (y:Value),kvs[j]? =some (k,y)∧VR x.fd adr₀ y a):Steps g x adr₀ I items (ckO i o) (ValIt ad kvs.length ep) where
 self:=λ s j oI ho hJ Q E hq=>wpAny_pyIter_valiter (d:=ad) (i:=j) (n:=kvs.length) (ep:=ep) ⟨oI,ho,hJ.1,hJ.2⟩ hq
 ckp:=λ μ u μ' e=>(vJ e).2
 dat:=λ j o h v q=>by rw [h.2] at q;cases q
 item:=λ x' hfd hlk' Γ j μ adr s cs pl m oI S pa hm hJ hck a ha Q hQ=>by
  obtain ⟨h1,h2⟩:=uX hlk' S hlk hd
  obtain ⟨k,y,e1,e2⟩:=hit j a ha
  have hI:=(S.N _ (List.mem_append_right _ hm)).1
  refine wpAny_pyNext_values_item ⟨oI,hI,hJ.1,hJ.2⟩ h2 e1 λ h' hit' hs=> ?_
  obtain ⟨o',ho',a1,a2⟩:=hit'
  exact hQ y h' o' s.toks (e2.pre pa) ⟨a1,a2⟩ ho' hs.extBut
 done:=λ x' hfd hlk' Γ j μ adr s cs pl m oI S pa hm hJ hck ha Q hQ=>by
  obtain ⟨h1,h2⟩:=uX hlk' S hlk hd
  have hI:=(S.N _ (List.mem_append_right _ hm)).1
  have hn:kvs[j]? =none:=by rw [List.getElem?_eq_none_iff] at ha ⊢;rw [← hl];exact ha
  exact wpAny_pyNext_values_end hh ⟨oI,hI,hJ.1,hJ.2⟩ h2 hn λ h' he=>hQ h' s.toks he
noncomputable def uY (n:Nat) (j:Nat) (o:Obj):Prop:=o= {cls:= .type "range_iterator",data:= .fields #[rawInt (j:Int),rawInt ((n:Int) - (j:Int)),rawInt 1]}
theorem Za (hh:x.A.handled=none) {adr₀:List Addr} {I:Addr} {n:Nat}:Steps g x adr₀ I ((List.range n).map λ j:Nat=>AV.int (Int.ofNat j)) (rt ()) (uY n) where
 self:=λ s j oI ho hJ Q E hq=>wpAny_pyIter_rangeiter (x:=(j:Int)) (left:=(n:Int) - (j:Int)) (step:=1) (by rw [hJ] at ho;exact ho) hq
 ckp:=λ μ u μ' e=>by cases e;rfl
 dat:=λ j o h v q=>by rw [h] at q;cases q
 item:=λ x' hfd hlk' Γ j μ adr s cs pl m oI S pa hm hJ hck a ha Q hQ=>by
  have hI:=(S.N _ (List.mem_append_right _ hm)).1
  rw [List.getElem?_map,Option.map_eq_some_iff] at ha
  obtain ⟨j',hj',rfl⟩:=ha
  obtain ⟨hlt,hje⟩:=List.getElem?_eq_some_iff.mp hj'
  simp at hlt hje
  subst hje
  have hr:IsRangeIter s.heap I (j:Int) ((n:Int) - (j:Int)) 1:=by rw [hJ] at hI;exact hI
  refine wpAny_pyNext_range_item hr (by lia) λ h' hit' hs=> ?_
  refine hQ _ h' _ _ (.int _ _) (uY.eq_1 n (j+1) _ ▸ rfl) ?_ hs.extBut
  have e1:((j:Int)+1)=(((j+1:Nat)):Int):=rfl
  have e2:((n:Int) - (j:Int) - 1)=((n:Int) - ((j+1:Nat):Int)):=by lia
  rw [e1,e2] at hit'
  exact hit'
 done:=λ x' hfd hlk' Γ j μ adr s cs pl m oI S pa hm hJ hck ha Q hQ=>by
  have hI:=(S.N _ (List.mem_append_right _ hm)).1
  rw [List.getElem?_eq_none_iff] at ha
  simp at ha
  have hr:IsRangeIter s.heap I (j:Int) ((n:Int) - (j:Int)) 1:=by rw [hJ] at hI;exact hI
  exact wpAny_pyNext_range_end hh hr (by lia) λ h' he=>hQ h' s.toks he
/-! the loops -/
set_option tactic.hygienic true in
theorem jf {α:Type} {i:Nat} {o:AO} {m:M α} {a:α} {μ μ':Mem} (e:walked i o m μ=some (a,μ')):o.locked=false∧ ∃ μ₁,m (μ.set i o.lock)=some (a,μ₁)∧μ₁[i]? =some o.lock∧μ'=μ₁.set i o:=by
 unfold walked at e
 split at e
 ·exact za e
 ·rename_i h
  obtain ⟨u,μ₁,e1,e2⟩:=bd_some e
  have:=xC e1
  subst this
  obtain ⟨a',μ₂,f2,f3⟩:=bd_some e2
  obtain ⟨p,μ₃,g3,g4⟩:=bd_some f3
  obtain ⟨h1,rfl⟩:=uU g3
  split at g4
  ·rename_i hp
   subst hp
   obtain ⟨u,μ₄,k4,k5⟩:=bd_some g4
   have:=xC k4
   subst this
   cases k5
   exact ⟨by simpa using h,_,f2,h1,rfl⟩
  ·exact za g4
theorem yh (hx:x.Ok g d) {μ:Mem} {adr:List Addr} {s:Shared} {cs:List Led} {pl:Led} {m:Str→Option Value} (S:StE g x Γ μ adr s cs pl m) {I:Addr} (hI:s.heap.objs.size≤I) :
  x.h₀.get? I=none∧x.L≠I∧(∀ p∈x.need,p.1≠I)∧ ∀ n c,x.env.scope.names.lookup n=some .cell→x.env.cells.lookup n=some c→I≠c:=by
 have lt: ∀ b o,s.heap.get? b=some o→b≠I:=λ b o e q=>Nat.lt_irrefl I (Nat.lt_of_lt_of_le (q ▸ Heap.lt_size e) hI)
 refine ⟨?_,?_,?_,?_⟩
 ·cases q:x.h₀.get? I with
  | none=>rfl
  | some o=>exact absurd rfl (lt _ _ (S.F.keep _ _ q))
 ·obtain ⟨o,es,ep,h,_⟩:=S.F.ns
  exact lt _ _ h
 ·intro p hp
  rcases S.ex p hp with h | h
  ·exact lt _ _ (S.F.keep _ _ h)
  ·exact lt _ _ (S.N p (List.mem_append_right _ h)).1
 ·intro n c hn hc
  obtain ⟨o,v₀,h,_⟩:=S.cl n c hn hc
  exact (lt _ _ (S.N _ (List.mem_append_right _ h)).1).symm
theorem xP {α:Type} {l:List α} {i:Nat} {a:α} (h:l[i]? =some a):l.set i a=l:=by
 obtain ⟨hi,e⟩:=List.getElem?_eq_some_iff.mp h
 subst e
 exact List.set_getElem_self hi
theorem vK {μ:Mem} {adr:List Addr} {s:Shared} {cs:List Led} {pl:Led} {m:Str→Option Value} {k:Nat} {c:Led} {o:AO} (Z:StE g x Γ μ adr s cs pl m) (hc:cs[k]? =some c) (ho:μ[k]? =some o) (hu:o.locked=false) (hl:o.lock.locked=true) (hcr:CR g x.fd adr c o.lock) :
  StE g (x.wl k c) Γ (μ.set k o.lock) adr s cs pl m:=by
 have Z1:=Z.put (s':=s) (c':=c) (o':=o.lock) hc (λ o' e=>by rw [ho] at e;obtain rfl:=Option.some.inj e;exact hu) rfl hcr Z.F (by rw [xP hc];exact Z.N)
 rw [xP hc] at Z1
 refine StE.move (x:=x) rfl rfl rfl rfl rfl rfl rfl Z1 Z1.ex λ p hp=> ?_
 rcases List.mem_cons.mp hp with rfl | hp
 ·exact ⟨hc,_,List.getElem?_set_self (List.getElem?_eq_some_iff.mp ho).1,hl⟩
 ·exact Z1.lk p hp
theorem jx {μ:Mem} {adr:List Addr} {s:Shared} {cs:List Led} {pl:Led} {m:Str→Option Value} {k:Nat} {c:Led} {o:AO} (W:StE g (x.wl k c) Γ μ adr s cs pl m) (h6:μ[k]? =some o.lock)
  (conv:CR g x.fd adr c o.lock→CR g x.fd adr c o) (hk: ∀ p∈x.lks,p.1≠k):StE g x Γ (μ.set k o) adr s cs pl m:=by
 refine hideP λ PZ hZ=> ?_
 obtain ⟨w1,_⟩:=W.lk _ (.head _)
 obtain ⟨ch',hc',hr'⟩:=W.chunk h6
 have e':cs[k]? =some c:=w1
 refine hZ ?_
 rw [e'] at hc';cases hc'
 refine ⟨W.F,W.N,W.nd,W.ha,?_,λ i av e=> ?_,W.gens,W.drawn,W.os,W.ex,W.fa,λ p hp=> ?_,W.cl,W.km⟩
 ·have:=W.C.set_ (b:=o) (a:=c) (conv hr') k
  rw [xP e'] at this;exact this
 ·obtain ⟨n,kk,v,a1,a2,a3⟩:=W.V i av e
  exact ⟨n,kk,v,a1,VarV.move (x:=x.wl k c) (x':=x) rfl rfl rfl a2,a3⟩
 ·obtain ⟨b1,o,b2,b3⟩:=W.lk p (.tail _ hp)
  exact ⟨b1,o,by rw [List.getElem?_set_ne (Ne.symm (hk p hp))];exact b2,b3⟩
theorem bg {μ:Mem} {adr:List Addr} {s:Shared} {cs:List Led} {pl:Led} {m:Str→Option Value} {k:Nat} {o:AO} (Z:StE g x Γ μ adr s cs pl m) (ho:μ[k]? =some o) (hu:o.locked=false): ∀ p∈x.lks,p.1≠k:=by
 intro p hp q
 obtain ⟨_,o',b2,b3⟩:=Z.lk p hp
 rw [q,ho] at b2;cases b2;rw [hu] at b3;cases b3
theorem jg {adr:List Addr} {kvs:List (Int × Value)} {es:List (Int × AV)} (q2:F2 (PR (id:Int→Int) x.fd adr) kvs es): ∀ (j:Nat) (a:AV),(es.map λ e=>AV.int e.1)[j]? =some a→ ∃ (k:Int) (y:Value),kvs[j]? =some (k,y)∧ ∀ v adr,(PySem.intKind g.prog g.w).is k v=true→VR x.fd adr v a:=by
 intro j a ha
 refine hideP λ PZ hZ=> ?_
 rw [List.getElem?_map,Option.map_eq_some_iff] at ha
 obtain ⟨p,hp,rfl⟩:=ha
 obtain ⟨kv,hkv,h1,h2⟩:=q2.at_ hp
 refine hZ ?_
 refine ⟨kv.1,kv.2,hkv,λ v adr hv=> ?_⟩
 have h1:kv.1=p.1:=h1
 rw [h1] at hv
 obtain ⟨t,rfl⟩:=PySem.Value.isInt_shape hv
 exact .int _ _
theorem jh {adr:List Addr} {kvs:List (Str × Value)} {es:List (String × AV)} (q2:F2 (PR Str.ofString x.fd adr) kvs es): ∀ (j:Nat) (a:AV),(es.map λ e=>AV.str e.1)[j]? =some a→ ∃ (k:Str) (y:Value),kvs[j]? =some (k,y)∧ ∀ v adr,(PySem.strKind g.prog g.w).is k v=true→VR x.fd adr v a:=by
 intro j a ha
 refine hideP λ PZ hZ=> ?_
 rw [List.getElem?_map,Option.map_eq_some_iff] at ha
 obtain ⟨p,hp,rfl⟩:=ha
 obtain ⟨kv,hkv,h1,h2⟩:=q2.at_ hp
 refine hZ ?_
 refine ⟨kv.1,kv.2,hkv,λ v adr hv=> ?_⟩
 have h1:kv.1=Str.ofString p.1:=h1
 rw [h1] at hv
 obtain ⟨t,rfl⟩:=PySem.Value.isStrOf_shape hv
 exact .str _ _
theorem hH {κ κ':Type} {f:κ'→κ} {adr:List Addr} {kvs:List (κ × Value)} {es:List (κ' × AV)} (q2:F2 (PR f x.fd adr) kvs es): ∀ (j:Nat) (a:AV),(es.map (·.2))[j]? =some a→ ∃ (k:κ) (y:Value),kvs[j]? =some (k,y)∧VR x.fd adr y a:=by
 intro j a ha
 refine hideP λ PZ hZ=> ?_
 rw [List.getElem?_map,Option.map_eq_some_iff] at ha
 obtain ⟨p,hp,rfl⟩:=ha
 obtain ⟨kv,hkv,h1,h2⟩:=q2.at_ hp
 refine hZ ?_
 exact ⟨kv.1,kv.2,hkv,h2⟩
theorem XX {adr:List Addr} {c:Led} {es:List (Int × AV)} (h:CR g x.fd adr c (.dI true es)):CR g x.fd adr c (.dI false es):=by
 cases h with
 | dI h1 h2 h3 h4=>exact .dI h1 h2 h3 h4
theorem XY {adr:List Addr} {c:Led} {es:List (String × AV)} (h:CR g x.fd adr c (.dS true es)):CR g x.fd adr c (.dS false es):=by
 cases h with
 | dS h1 h2 h3 h4=>exact .dS h1 h2 h3 h4
theorem LoopR.flow {x':Cx} {ρ:Type} {G:ρ→Cx0} {b:Fl ρ} {μ' μ'':Mem} {adr₀ adr₁:List Addr} {s':Shared} {fl:Flow} (p:adr₀ <+: adr₁) (hfd:x'.fd=x.fd) (out: ∀ Γ adr',St g x' Γ μ' adr' s'→St g x Γ μ'' adr' s') (z: ∃ adr',adr₁ <+: adr'∧LoopR g x' G b μ' adr' s' fl) :
  ∃ adr',adr₀ <+: adr'∧FlowR g x G Γc b μ'' adr' s' fl:=by
 obtain ⟨adr',pa,z⟩:=z
 refine ⟨adr',p.trans pa,?_⟩
 cases b with
 | nxt r=>exact ⟨z.1,out _ _ z.2⟩
 | cnt=>exact z.elim
 | ret v =>
  obtain ⟨vv,e,hv,S⟩:=z
  exact ⟨vv,e,hfd ▸ hv,out _ _ S⟩
inductive DO (g:Gd) (x:Cx) (adr:List Addr) (cs:List Led) (k:Nat) (va:Value) (o:AO):Prop
 | mk (ad:Addr) (od:Obj) (κ:Type) (dec:DecidableEq κ) (knd:KeyKind g.prog g.w κ) (kvs:List (κ × Value)) (h0:va= .ref ad) (hc:cs[k]? =some [(ad,od)]) (q1:od.IsDictOf knd kvs) (q3:(ad == sysModules)=false)
  (hl:CR g x.fd adr [(ad,od)] o.lock) (lk:o.lock.locked=true) (conv: ∀ adr,CR g x.fd adr [(ad,od)] o.lock→CR g x.fd adr [(ad,od)] o)
  (hk: ∀ ks,keysOf o=some ks→ks.length=kvs.length∧ ∀ (j:Nat) (a:AV),ks[j]? =some a→ ∃ (k:κ) (y:Value),kvs[j]? =some (k,y)∧ ∀ v adr,knd.is k v=true→VR x.fd adr v a)
  (hv: ∀ vs,valsOf o=some vs→vs.length=kvs.length∧ ∀ (j:Nat) (a:AV),vs[j]? =some a→ ∃ (k:κ) (y:Value),kvs[j]? =some (k,y)∧VR x.fd adr y a):DO g x adr cs k va o
theorem Yc {μ:Mem} {adr:List Addr} {s:Shared} {cs:List Led} {pl:Led} {m:Str→Option Value} {k:Nat} {es:List (Int × AV)} {va:Value} (Z:StE g x Γ μ adr s cs pl m) (ho:μ[k]? =some (.dI false es)) (r1:VR x.fd adr va (.obj k)):DO g x adr cs k va (.dI false es):=by
 obtain ⟨ad',od,kvs,rfl,hc,q1,q2,q3,q4⟩:=Z.atI r1 ho
 exact ⟨_,od,Int,inferInstance,_,kvs,rfl,hc,q1,q3, .dI q1 q2 q3 q4,rfl,λ _=>XX,λ _ e=>by cases e;exact ⟨by simp [q2.len],jg q2⟩,λ _ e=>by cases e;exact ⟨by simp [q2.len],hH q2⟩⟩
theorem Yd {μ:Mem} {adr:List Addr} {s:Shared} {cs:List Led} {pl:Led} {m:Str→Option Value} {k:Nat} {es:List (String × AV)} {va:Value} (Z:StE g x Γ μ adr s cs pl m) (ho:μ[k]? =some (.dS false es)) (r1:VR x.fd adr va (.obj k)):DO g x adr cs k va (.dS false es):=by
 obtain ⟨ad',od,kvs,rfl,hc,q1,q2,q3,q4⟩:=Z.atS r1 ho
 exact ⟨_,od,Str,inferInstance,_,kvs,rfl,hc,q1,q3, .dS q1 q2 q3 q4,rfl,λ _=>XY,λ _ e=>by cases e;exact ⟨by simp [q2.len],jh q2⟩,λ _ e=>by cases e;exact ⟨by simp [q2.len],hH q2⟩⟩
inductive WalkV {α:Type} (f:AO→Option (List AV)) (k:Nat) (n:AO→List AV→M α) (b:α) (μ μ':Mem):Prop
 | mk (o:AO) (items:List AV) (μ₄:Mem) (ho:μ[k]? =some o) (hki:f o=some items) (hul:o.locked=false) (e5:n o items (μ.set k o.lock)=some (b,μ₄)) (h6:μ₄[k]? =some o.lock) (em:μ'=μ₄.set k o):WalkV f k n b μ μ'
theorem bh {α:Type} {f:AO→Option (List AV)} {k:Nat} {n:AO→List AV→M α} {b:α} {μ₁ μ':Mem} (e2:bd (rd k) (λ o=>bd (opt (f o)) λ xs=>walked k o (n o xs)) μ₁=some (b,μ')):WalkV f k n b μ₁ μ':=by
 obtain ⟨o,ho,e3⟩:=zG e2
 obtain ⟨items,μ₃,e3,e4⟩:=bd_some e3
 obtain ⟨hki,rfl⟩:=xq e3
 obtain ⟨hul,μ₄,e5,h6,rfl⟩:=jf e4
 exact ⟨o,items,μ₄,ho,hki,hul,e5,h6,rfl⟩
theorem Ut (hf:Facts g) {ρ:Type} {G:ρ→Cx0} {n:Str} {i:Nat} {px pos:Pos} {iter:PySem.Expr} {body:List Stmt} {src:M AV} {r₀:ρ} {bodyM:ρ→AV→M (Fl ρ)} (hs:RE g true d sc Γ iter src) (hn:Stores z sc i n) (h0:Sub (G r₀) Γ)
  (hb: ∀ r v,RS g z d sc ((G r).set i (some v)) (G r) G body (bodyM r v)) (hfs: ∀ env x,foldedSetIterable iter env x=pure x) :
  R1 g z d sc Γ Γc G (.For (.Name n px) iter body [] pos) (bd src λ a=>forL G a r₀ bodyM):=by
 intro x hx hsc hfr hz μ adr s S b μ' e
 obtain ⟨a,μ₁,e1,e2⟩:=bd_some e
 refine wpAny_For (wpAny_mono (hs x hx hsc (λ _=>hfr) μ adr s S a μ₁ e1) (λ va s₁ ⟨adr₁,p1,S1,r1⟩=> ?_) λ _ _ z=>z) (hfs _)
 obtain ⟨k,rfl⟩: ∃ k,a= .obj k:=by cases a <;> first | exact ⟨_,rfl⟩ | cases e2
 obtain ⟨o,items,μ₄,ho,hki,hul,e5,h6,rfl⟩:=bh (show bd (rd k) (λ o=>bd (opt (keysOf o)) λ xs=>walked k o (goG (ckO k o.lock) bodyM xs r₀)) μ₁=_ from e2)
 obtain ⟨cs,pl,m,Z⟩:=S1.sub h0
 obtain ⟨f1,f2,f3,f4⟩:=yh hx Z (Nat.le_refl _)
 have hkn:=bg Z ho hul
 have dic: ∀ R:Result→Shared→Prop,(∀ fl s',(∃ adr',adr <+: adr'∧FlowR g x G Γc b (μ₄.set k o) adr' s' fl)→R (.ok fl) s')→DO g x adr₁ cs k va o→wpAny (model g.prog g.w) x.A (pyIter va) (λ it s₂=>codeAny (model g.prog g.w) x.A (.forLoop (.Name n px) it body [] x.env) R s₂) nof s₁:=λ R hR D=>by
  obtain ⟨ad,od,κ,dec,knd,kvs,rfl,hc,q1,q3,hl,lk,conv,hk, -⟩:=D
  obtain ⟨ep,hK⟩:=KdkAt.of q1
  refine wpAny_pyIter_dict q3 (hK.dictAt (Z.N _ (mem1 hc)).1) ?_
  have Z2:=vK Z hc ho hul lk hl
  have ZZ:=Z2.priv {cls:= .type "dict_keyiterator",data:= .fields #[.ref ad, .int 0 0, .int kvs.length 0, .int ep 0]} (lks:=(k,[(ad,od)]) :: x.lks) rfl Z2.lk
  have hx2:(x.wl k [(ad,od)]).Ok g d:=wq hf hx (λ p hp=>hp) λ p hp=> .inl hp
  exact uc (x:=x.wl k [(ad,od)]) hf hx2 hsc hfr hz (ud (x:=x.wl k [(ad,od)]) (adr₀:=adr₁) hx.hnd (.head _) hK (hk _ hki).1 (hk _ hki).2) f1 f2 f3 f4 hn hb (λ fl s' z=>hR _ _ (LoopR.flow (x':=x.wl k [(ad,od)]) p1 rfl (λ _ _ ⟨cs',pl',m',W⟩=>⟨cs',pl',m',jx W h6 (conv _) hkn⟩) z)) ZZ ⟨rfl,rfl⟩ e5
 cases o with
 | inst c fs=>exact za hki
 | tup xs=>exact za hki
 | list xs =>
  cases hki
  obtain ⟨ad,vs,nn,rfl,hc,q1,q2,L1⟩:=Z.listAt r1 ho
  have had:adr₁[k]? =some ad:=by cases r1;assumption
  rw [show List.set _ k (AO.list items).lock=_ from xP ho] at e5
  rw [show List.set μ₄ k (AO.list items)=μ₄ from xP h6]
  refine wpAny_pyIter_list L1 ?_
  have ZZ:=Z.priv {cls:= .type "list_iterator",data:= .fields #[.ref ad, .int 0 0]} (lks:=x.lks) rfl Z.lk
  exact uc hf hx hsc hfr hz (qi (adr₀:=adr₁) hx.hnd had) f1 f2 f3 f4 hn hb (λ fl s' z=>LoopR.flow p1 rfl (λ _ _ h=>h) z) ZZ ⟨rfl,rfl⟩ e5
 | dI lk es =>
  cases hki
  cases (show lk=false from hul)
  exact dic _ (λ _ _ h=>h) (Yc Z ho r1)
 | dS lk es =>
  cases hki
  cases (show lk=false from hul)
  exact dic _ (λ _ _ h=>h) (Yd Z ho r1)
end
section
variable {g:Gd} {x:Cx} {d:Nat} {sc:Scope} {z fr:Bool} {Γc Γ' Γ:Cx0}
theorem StE.grow {μ:Mem} {adr:List Addr} {s:Shared} {cs:List Led} {pl:Led} {m:Str→Option Value} {h':Heap} {tk:Tok} (S:StE g x Γ μ adr s cs pl m) (hk: ∀ b o,s.heap.get? b=some o→h'.get? b=some o):StE g x Γ μ adr {s with heap:=h',toks:=tk} cs pl m :=
 ⟨⟨Yb S.F.ns λ o e=>hk _ _ e,λ b o e=>hk _ _ (S.F.keep b o e),S.F.above⟩,λ p hp=>⟨hk _ _ (S.N p hp).1,(S.N p hp).2⟩,S.nd,S.ha,S.C,S.V,S.gens,S.drawn,S.os,S.ex,S.fa,S.lk,S.cl,S.km⟩
theorem Uu (hf:Facts g) {ρ:Type} {G:ρ→Cx0} {n:Str} {i:Nat} {px pos ap cp:Pos} {o:PySem.Expr} {body:List Stmt} {src:M AV} {r₀:ρ} {bodyM:ρ→AV→M (Fl ρ)} (hs:RE g true d sc Γ o src) (hn:Stores z sc i n) (h0:Sub (G r₀) Γ)
  (hb: ∀ r v,RS g z d sc ((G r).set i (some v)) (G r) G body (bodyM r v)) (he:zo o "values" ap cp []) (hfs: ∀ env x,foldedSetIterable (.Call (.Attribute o (Str.ofString "values") ap) [] [] cp) env x=pure x) :
  R1 g z d sc Γ Γc G (.For (.Name n px) (.Call (.Attribute o (Str.ofString "values") ap) [] [] cp) body [] pos) (bd src λ a=>forV G a r₀ bodyM):=by
 intro x hx hsc hfr hz μ adr s S b μ' e
 obtain ⟨a,μ₁,e1,e2⟩:=bd_some e
 obtain ⟨plc,hpl⟩:=he x.env
 refine wpAny_For ?_ (hfs _)
 refine MethodCall_ (pl:=plc) (wpAny_mono (hs x hx hsc (λ _=>hfr) μ adr s S a μ₁ e1) (λ va s₁ ⟨adr₁,p1,S1,r1⟩=> ?_) λ _ _ z=>z) hpl
 obtain ⟨k,rfl⟩: ∃ k,a= .obj k:=by cases a <;> first | exact ⟨_,rfl⟩ | cases e2
 obtain ⟨o,items,μ₄,ho,hki,hul,e5,h6,rfl⟩:=bh (show bd (rd k) (λ o=>bd (opt (valsOf o)) λ xs=>walked k o (goG (ckO k o.lock) bodyM xs r₀)) μ₁=_ from e2)
 obtain ⟨cs,pl,m,Z0⟩:=S1.sub h0
 have hkn:=bg Z0 ho hul
 suffices D:DO g x adr₁ cs k va o by
  obtain ⟨ad',od,κ,dec,knd,kvs,rfl,hc,q1,q3,hl,lk,conv, -,hv⟩:=D
  have hD:=kda_dict Z0.N (mem1 hc) q1
  refine getMethod_builtin hD.typeIs PySem.F.plainAttrs_dict PySem.F.slot_dict_values PySem.F.type_dict_values hD.mapOf.noDict ?_
  refine callWith_of rfl Kp.builtin (evalArgs_nil3 ⟨S1.kin hx,?_⟩)
  refine call_meetsIn PySem.F.slot_dict_values hD.typeIs PySem.F.entry_dict_values (PySem.F.args_dict_values_1 _) (meets_dict_values _ ad' q3) ⟨⟨kvs,hD⟩,?_⟩
  obtain ⟨ep,hK⟩:=KdkAt.of q1
  have Z:=Z0.grow (h':=s₁.heap.push {cls:= .type "dict_values",data:= .fields #[.ref ad']}) (tk:=s₁.toks) λ b o e=>Heap.get?_push_of_some _ e
  refine wpAny_pyIter_values ⟨_,Heap.get?_push_size _ rfl,rfl,rfl⟩ (hK.dictAt (Z.N _ (mem1 hc)).1) ?_
  obtain ⟨f1,f2,f3,f4⟩:=yh hx Z (Nat.le_refl _)
  have ZZ:=(vK Z hc ho hul lk hl).priv {cls:= .type "dict_valueiterator",data:= .fields #[.ref ad', .int 0 0, .int kvs.length 0, .int ep 0]} (lks:=(k,[(ad',od)]) :: x.lks) rfl (vK Z hc ho hul lk hl).lk
  have hx2:(x.wl k [(ad',od)]).Ok g d:=wq hf hx (λ p hp=>hp) λ p hp=> .inl hp
  exact uc (x:=x.wl k [(ad',od)]) hf hx2 hsc hfr hz (YX (x:=x.wl k [(ad',od)]) (adr₀:=adr₁) hx.hnd (.head _) hK (hv _ hki).1 (hv _ hki).2) f1 f2 f3 f4 hn hb (λ fl s' z=>LoopR.flow (x':=x.wl k [(ad',od)]) p1 rfl (λ _ _ ⟨cs',pl',m',W⟩=>⟨cs',pl',m',jx W h6 (conv _) hkn⟩) z) ZZ ⟨rfl,rfl⟩ e5
 cases o with
 | dI lk es=>cases (show lk=false from hul);exact Yc Z0 ho r1
 | dS lk es=>cases (show lk=false from hul);exact Yd Z0 ho r1
 | _=>exact za hki
set_option tactic.hygienic true in
theorem Uv (hf:Facts g) {ρ:Type} {G:ρ→Cx0} {n rn:Str} {i:Nat} {px pos rp cp:Pos} {e:PySem.Expr} {body:List Stmt} {src:M AV} {r₀:ρ} {bodyM:ρ→AV→M (Fl ρ)} (hr:NameIs g sc rn (.type "range")) (hs:RE g true d sc Γ e src) (hn:Stores z sc i n) (h0:Sub (G r₀) Γ)
  (hb: ∀ r v,RS g z d sc ((G r).set i (some v)) (G r) G body (bodyM r v)) (hst: ∀ env,starEach [e] env=[(false,eval e env)]) (hfs: ∀ env x,foldedSetIterable (.Call (.Name rn rp) [e] [] cp) env x=pure x) :
  R1 g z d sc Γ Γc G (.For (.Name n px) (.Call (.Name rn rp) [e] [] cp) body [] pos) (bd src λ a=>forR G a r₀ bodyM):=by
 intro x hx hsc hfr hz μ adr s S b μ' e
 obtain ⟨a,μ₁,e1,e2⟩:=bd_some e
 refine wpAny_For ?_ (hfs _)
 refine Call_ (hr x d hx hsc Γ μ adr s rp _ S ?_) (by rfl)
 rw [hst]
 refine callWith_of rfl Kp.type (evalArgs_plain ?_)
 refine spliced_cons (wpAny_mono (hs x hx hsc (λ _=>hfr) μ adr s S a μ₁ e1) (λ va s₁ ⟨adr₁,p1,S1,r1⟩=>spliced_nil ⟨S1.kin hx,?_⟩) λ _ _ z=>z)
 obtain ⟨k,rfl⟩: ∃ k,a= .int k:=by cases a <;> first | exact ⟨_,rfl⟩ | cases e2
 obtain ⟨t,rfl⟩: ∃ t,va= .int k t:=by cases r1;exact ⟨_,rfl⟩
 unfold forR at e2
 dsimp only at e2
 split at e2
 case isFalse=>exact za e2
 rename_i hk
 obtain ⟨cs,pl,m,Z0⟩:=S1.sub h0
 refine call_range_1 (wpAny_pyIter_range (IsRange.new ..) (small_one (by decide) (by decide) (by lia) (by lia)) ?_)
 have Z:=Z0.grow (h':=s₁.heap.push {cls:= .type "range",data:= .fields #[.int 0 s₁.toks, .int k t, .int 1 (s₁.toks+1)]}) (tk:=s₁.toks+1+1) λ b o e=>Heap.get?_push_of_some _ e
 obtain ⟨f1,f2,f3,f4⟩:=yh hx Z (Nat.le_refl _)
 have hsz:Builtin.Range.rangeSize 0 k 1=(k.toNat:Int):=by rw [rangeSize_one];split <;> lia
 have ZZ:=Z.priv {cls:= .type "range_iterator",data:= .fields #[rawInt 0,rawInt (Builtin.Range.rangeSize 0 k 1),rawInt 1]} (lks:=x.lks) rfl Z.lk
 have hJ:uY k.toNat 0 {cls:= .type "range_iterator",data:= .fields #[rawInt 0,rawInt (Builtin.Range.rangeSize 0 k 1),rawInt 1]}:=by unfold uY;rw [hsz];exact rfl
 refine uc hf hx hsc hfr hz (Za (adr₀:=adr₁) (n:=k.toNat) hx.hnd) f1 f2 f3 f4 hn hb (λ fl s' z=> ?_) ZZ hJ e2
 obtain ⟨adr',pa,z⟩:=z
 refine ⟨adr',p1.trans pa,?_⟩
 cases b with
 | nxt r=>exact z
 | cnt=>exact z.elim
 | ret v=>exact z
theorem Kw {test:PySem.Expr} {body:List Stmt} {mc:M Bool} {mb:M (Fl Unit)} {G:Cx0} (hc:RC g true d sc G test mc) (hb:RS g z d sc G G (λ _=>G) body mb) (hx:x.Ok g d) (hsc:x.env.scope=sc) (hfr:x.env=x.fenv) (hz:x.fz=z) {b:Fl Unit} {μ':Mem} {adr₀:List Addr} {R:Result→Shared→Prop}
  (hR: ∀ fl s',(∃ adr',adr₀ <+: adr'∧LoopR g x (λ _=>G) b μ' adr' s' fl)→R (.ok fl) s') {k₀:Nat} {μ₀:Mem} {s₀:Shared} (S₀:St g x G μ₀ adr₀ s₀) (e₀:whl G k₀ mc mb μ₀=some (b,μ')) :
  codeAny (model g.prog g.w) x.A (.whileLoop test body [] x.env) R s₀:=by
 refine codeAny_whileLoop (λ k s'=> ∃ μ adr',adr₀ <+: adr'∧St g x G μ adr' s'∧whl G k mc mb μ=some (b,μ')) (λ k s' hk=> ?_) k₀ ⟨μ₀,adr₀,List.prefix_refl _,S₀,e₀⟩
 obtain ⟨μ,adr',pa,S,e⟩:=hk
 cases k with
 | zero=>exact za e
 | succ k =>
  obtain ⟨c,μ₁,e1,e2⟩:=bd_some (show bd mc _ μ=_ from e)
  refine zR (wpAny_mono (hc x hx hsc (λ _=>hfr) μ adr' s' S c μ₁ e1) (λ c' s₁ ⟨adr₁,p1,S1,hcc⟩=> ?_) λ _ _ z=>z)
  subst hcc
  cases c' with
  | false =>
   obtain ⟨rfl,eqq⟩:=some2 e2;subst μ₁
   simp only [Bool.false_eq_true,if_false]
   exact zR (wpAny_execs_nil (hR _ _ ⟨adr₁,pa.trans p1,rfl,S1⟩))
  | true =>
   simp only [if_true] at e2 ⊢
   obtain ⟨fl,μ₂,e2,e3⟩:=bd_some e2
   refine zR (wpAny_mono (hb x hx hsc hfr hz μ₁ adr₁ s₁ S1 fl μ₂ e2) (λ fl' s₂ ⟨adr₂,p2,z⟩=> ?_) λ _ _ z=>z)
   cases fl with
   | nxt u =>
    obtain ⟨rfl,S2⟩:=z
    exact ⟨k,Nat.lt_succ_self k,μ₂,adr₂,(pa.trans p1).trans p2,S2,e3⟩
   | cnt =>
    obtain ⟨rfl,S2⟩:=z
    exact ⟨k,Nat.lt_succ_self k,μ₂,adr₂,(pa.trans p1).trans p2,S2,e3⟩
   | ret v =>
    obtain ⟨vv,rfl,hv,S2⟩:=z
    obtain ⟨rfl,eqq⟩:=some2 e3;subst μ₂
    obtain ⟨cs,pl,m,S2⟩:=S2
    exact hR _ _ ⟨adr₂,(pa.trans p1).trans p2,vv,rfl,hv,cs,pl,m,S2⟩
theorem Vb {test:PySem.Expr} {body:List Stmt} {pos:Pos} {mc:M Bool} {mb:M (Fl Unit)} {G:Cx0} {k:Nat} (hc:RC g true d sc G test mc) (hb:RS g z d sc G G (λ _=>G) body mb) (h0:Sub G Γ) :
  R1 g z d sc Γ Γc (λ _:Unit=>G) (.While test body [] pos) (whl G k mc mb):=by
 intro x hx hsc hfr hz μ adr s S b μ' e
 refine wpAny_While (Kw hc hb hx hsc hfr hz (λ fl s' z=> ?_) (S.sub h0) e)
 obtain ⟨adr',pa,z⟩:=z
 refine ⟨adr',pa,?_⟩
 cases b with
 | nxt r=>exact z
 | cnt=>exact z.elim
 | ret v=>exact z
end
section
variable {g:Gd} {x:Cx} {d:Nat} {sc:Scope} {z fr:Bool} {Γc Γ' Γ:Cx0}
noncomputable def relabK (sc:Scope) (p:Str × NameKind):Str × NameKind:=if (p.2 == .free && sc.kind == .function && sc.names.lookup p.1 == some .cell) then (p.1, .cell) else p
noncomputable def relabS (csc sc:Scope):Scope:= {csc with names:=csc.names.map (relabK sc)}
theorem yf {csc:Scope} {env:Env}:relabel csc env=relabS csc env.scope:=by
 unfold relabel relabS
 congr 1
noncomputable def closOf (cells:List (Str × Addr)):List (Str × NameKind)→List (Str × Addr)→List (Str × Addr)
 | [],acc=>acc
 | (n,k) :: r,acc=>if k == .free then closOf cells r ((n,(cells.lookup n).getD 0) :: acc) else closOf cells r acc
theorem ue {cells:List (Str × Addr)} {n:Str} {k:NameKind} {r:List (Str × NameKind)} {acc:List (Str × Addr)}:closOf cells ((n,k) :: r) acc=if k == .free then closOf cells r ((n,(cells.lookup n).getD 0) :: acc) else closOf cells r acc:=rfl
theorem bi {env:Env}: ∀ (names:List (Str × NameKind)) (acc:List (Str × Addr)),(∀ y∈names,y.2= .free→ ∃ c,env.cells.lookup y.1=some c) →
  (forIn names acc λ (x:Str × NameKind) r=>match x with
   | (name,kind)=>if (kind == .free)=true then do
     let c ← cellOf env name
     pure (ForInStep.yield ((name,c) :: r))
    else pure (ForInStep.yield r):Sem (List (Str × Addr)))=pure (closOf env.cells names acc)
 | [],acc,_=>by rw [List.forIn_nil];rfl
 | (n,k) :: r,acc,h=>by
  rw [List.forIn_cons]
  have ih:=λ acc=>bi r acc λ y hy=>h y (.tail _ hy)
  cases hk:k == .free with
  | true =>
   obtain ⟨c,hc⟩:=h (n,k) (.head _) (eq_of_beq hk)
   have hce:cellOf env n=pure c:=by unfold cellOf;rw [hc]
   have e:closOf env.cells ((n,k) :: r) acc=closOf env.cells r ((n,c) :: acc):=by
    rw [ue]
    rw [hk,if_pos rfl,hc];rfl
   rw [e,← ih]
   show ((if (k == .free)=true then do
     let c ← cellOf env n
     pure (ForInStep.yield ((n,c) :: acc))
    else pure (ForInStep.yield acc):Sem _) >>= _)=_
   rw [hk,if_pos rfl,hce]
   rfl
  | false =>
   have e:closOf env.cells ((n,k) :: r) acc=closOf env.cells r acc:=by
    rw [ue]
    rw [hk,if_neg (by simp)]
   rw [e,← ih]
   show ((if (k == .free)=true then do
     let c ← cellOf env n
     pure (ForInStep.yield ((n,c) :: acc))
    else pure (ForInStep.yield acc):Sem _) >>= _)=_
   rw [hk,if_neg (by simp)]
   rfl
theorem gf {csc:Scope} {env:Env} (h: ∀ y∈csc.names,y.2= .free→ ∃ c,env.cells.lookup y.1=some c):closureFor csc env=pure (closOf env.cells csc.names []):=by
 unfold closureFor
 have e:=bi csc.names [] h
 exact congrArg (· >>= pure) e
set_option tactic.hygienic true in
theorem wN {cells:List (Str × Addr)}: ∀ {names:List (Str × NameKind)} {acc:List (Str × Addr)},(∀ y∈names,y.2= .free→ ∃ c,cells.lookup y.1=some c)→(∀ n c,acc.lookup n=some c→cells.lookup n=some c)→ ∀ n c,(closOf cells names acc).lookup n=some c→cells.lookup n=some c
 | [],acc,_,h,n,c,e=>h n c e
 | (n',k) :: r,acc,hn,h,n,c,e=>by
  rw [ue] at e
  split at e
  ·rename_i hk
   refine wN (λ y hy=>hn y (.tail _ hy)) (λ m b hb=> ?_) n c e
   rw [List.lookup_cons] at hb
   split at hb
   ·rename_i hm
    obtain ⟨c',hc'⟩:=hn (n',k) (.head _) (eq_of_beq hk)
    have hc':cells.lookup n'=some c':=hc'
    rw [hc'] at hb
    cases hb
    rw [eq_of_beq hm];exact hc'
   ·exact h m b hb
  ·exact wN (λ y hy=>hn y (.tail _ hy)) h n c e
set_option tactic.hygienic true in
theorem wC {cells:List (Str × Addr)} {n:Str}: ∀ {names:List (Str × NameKind)} {acc:List (Str × Addr)},((n,NameKind.free)∈names∨(acc.lookup n).isSome=true)→((closOf cells names acc).lookup n).isSome=true
 | [],acc,h=>h.elim (λ h=>by simp at h) id
 | (n',k) :: r,acc,h=>by
  rw [ue]
  split
  ·rename_i hk
   refine wC ?_
   rcases h with h | h
   ·rcases List.mem_cons.mp h with h | h
    ·cases h;right;rw [List.lookup_cons,beq_self_eq_true];rfl
    ·exact .inl h
   ·right
    rw [List.lookup_cons]
    split
    ·rfl
    ·exact h
  ·rename_i hk
   refine wC ?_
   rcases h with h | h
   ·rcases List.mem_cons.mp h with h | h
    ·cases h;exact absurd rfl hk
    ·exact .inl h
   ·exact .inr h
structure CScope (sc csc:Scope) (v:Str) (i:Nat):Prop where
 kind:csc.kind= .function
 skind:sc.kind= .function
 nocell: ∀ y∈csc.names,y.2≠ .cell
 free: ∀ y∈csc.names,y.2= .free→sc.names.lookup y.1=some .cell
 nd:(csc.names.map (·.1)).Nodup
 iv:csc.names[i]? =some (v, .local)
noncomputable def Takes (sc csc:Scope) (Γ Γ0:Cx0):Prop:= ∀ (j:Nat) (av:AV),Γ0[j]? =some (some av)→ ∃ (n:Str) (i':Nat),csc.names[j]? =some (n,NameKind.free)∧sc.names[i']? =some (n,NameKind.cell)∧Γ[i']? =some (some av)
theorem ji {csc sc:Scope} {v:Str} {i:Nat} (h:CScope sc csc v i):((relabS csc sc).names.map (·.1))=csc.names.map (·.1):=by
 show (csc.names.map (relabK sc)).map (·.1)=_
 rw [List.map_map]
 refine List.map_congr_left λ p _=> ?_
 show (relabK sc p).1=p.1
 unfold relabK
 split <;> rfl
theorem qj {csc sc:Scope} {v:Str} {i:Nat} (h:CScope sc csc v i) {j:Nat} {n:Str} (e:csc.names[j]? =some (n, .free)):(relabS csc sc).names[j]? =some (n, .cell):=by
 show (csc.names.map (relabK sc))[j]? =_
 rw [List.getElem?_map,e]
 show some (relabK sc (n, .free))=_
 unfold relabK
 have h1:=h.free _ (List.mem_of_getElem? e) rfl
 have h1:sc.names.lookup n=some .cell:=h1
 rw [h.skind,h1]
 rfl
theorem jk {csc sc:Scope} {v:Str} {i:Nat} (h:CScope sc csc v i) {j:Nat} {n:Str} (e:csc.names[j]? =some (n, .local)):(relabS csc sc).names[j]? =some (n, .local):=by
 show (csc.names.map (relabK sc))[j]? =_
 rw [List.getElem?_map,e]
 rfl
set_option tactic.hygienic true in
theorem uf {csc sc:Scope} {v:Str} {i:Nat} (h:CScope sc csc v i) {n:Str} (e:(relabS csc sc).names.lookup n=some .cell):(n,NameKind.free)∈csc.names:=by
 obtain ⟨j,hj⟩:=List.getElem?_of_mem (mem_of_lookup e)
 have hj:(csc.names.map (relabK sc))[j]? =some (n, .cell):=hj
 rw [List.getElem?_map,Option.map_eq_some_iff] at hj
 obtain ⟨p,hp,e'⟩:=hj
 unfold relabK at e'
 split at e'
 ·rename_i hc
  simp only [Bool.and_eq_true] at hc
  have hk:=eq_of_beq hc.1.1
  cases e'
  have:=List.mem_of_getElem? hp
  rw [← hk]
  exact this
 ·subst e'
  exact absurd rfl (h.nocell _ (List.mem_of_getElem? hp))
abbrev cenv (x:Cx) (csc:Scope) (C:Addr):Env:=compEnvC csc (closOf x.env.cells csc.names []) C x.env
abbrev ccx (x:Cx) (csc:Scope) (C:Addr) (nd:Led) (m:Str→Option Value):Cx:= {x with env:=cenv x csc C,need:=nd,fz:=true,km:=some m}
theorem JG (hf:Facts g) (hx:x.Ok g d) {csc:Scope} {v:Str} {i:Nat} (hc:CScope x.env.scope csc v i) {C:Addr} (hCL:C≠x.L) {nd:Led} {m:Str→Option Value} (hn: ∀ p∈x.need,p∈nd):(ccx x csc C nd m).Ok g d:=by
 have fr: ∀ y∈csc.names,y.2= .free→ ∃ c,x.env.cells.lookup y.1=some c:=λ y hy hk=>hx.cs _ (hc.free y hy hk)
 have sub: ∀ n c,(cenv x csc C).cells.lookup n=some c→x.env.cells.lookup n=some c:=λ n c e=>wN fr (by simp) n c e
 refine ⟨hx.below,hx.kin,hx.top,hx.frames,hx.hnd,hx.fL,hx.floc,hx.fk,hx.eg,hc.kind,hx.eb,hx.ef,?_,hx.dep,hx.un,hx.mono,?_,?_,?_,hf.com _ _ _ _ hn hx.co,?_⟩
 ·show ((relabel csc x.env).names.map (·.1)).Nodup
  rw [yf,ji hc];exact hc.nd
 ·intro e
  exact absurd ((congrArg Env.locals e).trans hx.floc) hCL
 ·exact λ n n' c hk e e'=>hx.ci n n' c (by
   have hk:(relabel csc x.env).names.lookup n'=some .cell:=hk
   rw [yf] at hk
   exact hc.free _ (uf hc hk) rfl) (sub _ _ e) (sub _ _ e')
 ·intro n e
  have e:(relabel csc x.env).names.lookup n=some .cell:=e
  rw [yf] at e
  exact Option.isSome_iff_exists.mp (wC (.inl (uf hc e)))
 ·intro h;cases h
theorem StE.cin {μ:Mem} {adr:List Addr} {s:Shared} {cs:List Led} {pl:Led} {m:Str→Option Value} (S:StE g x Γ μ adr s cs pl m) (hx:x.Ok g d) {csc:Scope} {v:Str} {i:Nat} (hc:CScope x.env.scope csc v i) {C:Addr} {nd:Led} {Γ0:Cx0} (hT:Takes x.env.scope csc Γ Γ0) (hn: ∀ p∈nd,x.h₀.get? p.1=some p.2∨p∈pl) :
  StE g (ccx x csc C nd m) Γ0 μ adr s cs pl m:=by
 have fr: ∀ y∈csc.names,y.2= .free→ ∃ c,x.env.cells.lookup y.1=some c:=λ y hy hk=>hx.cs _ (hc.free y hy hk)
 have sub: ∀ n c,(cenv x csc C).cells.lookup n=some c→x.env.cells.lookup n=some c:=λ n c e=>wN fr (by simp) n c e
 refine ⟨S.F,S.N,S.nd,S.ha,S.C,λ j av e=> ?_,S.gens,S.drawn,S.os,hn,S.fa,S.lk,λ n c e1 e2=> ?_,λ m₀ h=>by cases h;rfl⟩
 ·obtain ⟨n,i',h1,h2,h3⟩:=hT j av e
  obtain ⟨n',k,w,a1,a2,a3⟩:=S.V i' av h3
  rw [h2] at a1;cases a1
  refine ⟨n, .cell,w,by show (relabel csc x.env).names[j]? =_;rw [yf];exact qj hc h1,?_,a3⟩
  cases a2 with
  | cell b1 b2 b3 =>
   obtain ⟨c',hc'⟩:=Option.isSome_iff_exists.mp (wC (cells:=x.env.cells) (acc:=[]) (.inl (List.mem_of_getElem? h1)))
   have:=sub _ _ hc'
   rw [b1] at this;obtain rfl:=Option.some.inj this
   exact .cell hc' b2 b3
 ·have e1:(relabel csc x.env).names.lookup n=some .cell:=e1
  rw [yf] at e1
  exact S.cl n c (hc.free _ (uf hc e1) rfl) (sub _ _ e2)
theorem StE.cout {μ μ':Mem} {adr adr':List Addr} {s s':Shared} {cs cs':List Led} {pl pl':Led} {m m':Str→Option Value} {csc:Scope} {C:Addr} {nd nd':Led} {Γ0:Cx0} (S:StE g x Γ μ adr s cs pl m) (W:StE g (ccx x csc C nd m) Γ0 μ' adr' s' cs' pl' m') (pa:adr <+: adr')
  (hpl: ∀ p∈pl,p∈nd) (hn: ∀ p∈nd',p∈x.need∨(p∈nd∧x.h₀.get? p.1=none)):StE g (x.wn (nd')) Γ μ' adr' s' cs' pl' m:=by
 have hm:m'=m:=W.km m rfl
 replace hm:=hm.symm;subst hm
 have keep: ∀ q∈pl,q∈pl':=λ q hq=>by
  rcases W.ex q (hpl q hq) with h | h
  ·have h1:=(S.N q (List.mem_append_right _ hq)).2.2
   have h':x.h₀.get? q.1=some q.2:=h
   rw [h1] at h';exact za h'
  ·exact h
 refine ⟨W.F,W.N,W.nd,W.ha,W.C,λ i av e=> ?_,W.gens,W.drawn,W.os,λ p hp=> ?_,W.fa,W.lk,λ n c e1 e2=> ?_,λ m₀ h=>S.km m₀ h⟩
 ·obtain ⟨n,k,v,a1,a2,a3⟩:=S.V i av e
  refine ⟨n,k,v,a1,?_,a3.pre pa⟩
  cases a2 with
  | loc b1 b2=>exact .loc b1 b2
  | cloc b1 b2 b3 b4=>exact .cloc (keep _ b1) b2 b3 b4
  | cell b1 b2 b3=>exact .cell b1 (b2.imp id (keep _)) b3
  | free b1 b2 b3=>exact .free b1 (b2.imp id (keep _)) b3
 ·rcases hn p hp with h | ⟨h,h'⟩
  ·exact (S.ex p h).imp id (keep p)
  ·exact (W.ex p h).imp (λ q=>by have q:x.h₀.get? p.1=some p.2:=q;rw [h'] at q;cases q) id
 ·obtain ⟨o,v₀,h1,h2⟩:=S.cl n c e1 e2
  exact ⟨o,v₀,keep _ h1,h2⟩
theorem StE.cset {μ:Mem} {adr:List Addr} {s:Shared} {cs:List Led} {pl:Led} {m:Str→Option Value} {csc:Scope} {v:Str} {i:Nat} {C:Addr} {nd:Led} {Γ0:Cx0} {w:Value} {a:AV} {oC:Obj} {es:List DictEntry} {ep:Nat} (W:StE g (ccx x csc C nd m) Γ0 μ adr s cs pl m) (hc:CScope x.env.scope csc v i)
  (hm:(C,oC)∈pl) (hd:oC.data= .dict es.toArray ep) (hk:StrKeys es.toArray) (hv:nsFind es.toArray v=some w) (hr:VR x.fd adr w a) (hi: ∀ av,Γ0[i]? ≠some (some av)):StE g (ccx x csc C nd m) (Γ0.set i (some a)) μ adr s cs pl m :=
 ⟨W.F,W.N,W.nd,W.ha,W.C,λ j bv e=>by
  by_cases hj:i=j
  ·subst hj
   rw [List.getElem?_set_self'] at e
   have hb:bv=a:=by
    cases q:Γ0[i]? with
    | none=>rw [q] at e;simp at e
    | some _=>rw [q] at e;simp at e;exact e.symm
   subst hb
   exact ⟨v, .local,w,by show (relabel csc x.env).names[i]? =_;rw [yf];exact jk hc hc.iv, .cloc hm hd hk hv,hr⟩
  ·rw [List.getElem?_set_ne hj] at e
   exact W.V j bv e,W.gens,W.drawn,W.os,W.ex,W.fa,W.lk,W.cl,W.km⟩
theorem StE.publish {μ:Mem} {adr:List Addr} {s:Shared} {cs:List Led} {p1 p2:Led} {m:Str→Option Value} {D:Addr} {oD:Obj} {o:AO} (S:StE g x Γ μ adr s cs (p1 ++ (D,oD) :: p2) m) (hx:x.Ok g d) (hc:CR g x.fd (adr ++ [D]) [(D,oD)] o) (hd: ∀ v,oD.data≠ .cell v) (hl:x.env.locals≠D) (hn: ∀ p∈x.need,p.1≠D) :
  StE g x Γ (μ ++ [o]) (adr ++ [D]) s (cs ++ [[(D,oD)]]) (p1 ++ p2) m:=by
 have same: ∀ q:Obj,(D,q)∈p1 ++ (D,oD) :: p2→q=oD:=λ q hq=>by
  have h1:=(S.N (D,q) (List.mem_append_right _ hq)).1
  have h2:=(S.N (D,oD) (List.mem_append_right _ (by simp))).1
  have h1:s.heap.get? D=some q:=h1
  rw [h2] at h1;exact (Option.some.inj h1).symm
 have key: ∀ q,q∈p1 ++ (D,oD) :: p2→q.1≠D→q∈p1 ++ p2:=λ q hq hne=>by
  rcases List.mem_append.mp hq with h | h
  ·exact List.mem_append_left _ h
  ·rcases List.mem_cons.mp h with h | h
   ·exact absurd (by rw [h]) hne
   ·exact List.mem_append_right _ h
 have noc: ∀ c (o:Obj) v,(c,o)∈p1 ++ (D,oD) :: p2→o.data= .cell v→c≠D:=λ c o v hm hdd q=>by
  replace q:=q.symm;subst q;rw [same _ hm] at hdd;exact hd v hdd
 have pre:adr <+: adr ++ [D]:=⟨_,rfl⟩
 have pm:((cs ++ [[(D,oD)]]).flatten ++ (p1 ++ p2)).Perm (cs.flatten ++ (p1 ++ (D,oD) :: p2)):=by
  simp only [List.flatten_append,List.flatten_cons,List.flatten_nil,List.append_nil,List.append_assoc]
  exact List.Perm.append_left _ (by simpa using List.perm_middle.symm)
 refine ⟨S.F,λ p hp=>S.N p (pm.mem_iff.mp hp),(pm.map (·.1)).nodup_iff.mpr S.nd,by simp [S.ha,hd1],(S.C.mono λ _ _=>CR.pre pre).app (.cons hc .nil),λ i av e=> ?_,S.gens,S.drawn,S.os,λ p hp=>(S.ex p hp).imp id λ h=>key _ h (hn p hp),hx.mono _ _ pre S.fa,λ p hp=> ?_,λ n c e1 e2=> ?_,S.km⟩
 ·obtain ⟨n,k,v,a1,a2,a3⟩:=S.V i av e
  refine ⟨n,k,v,a1,?_,a3.pre pre⟩
  cases a2 with
  | loc b1 b2=>exact .loc b1 b2
  | cloc b1 b2 b3 b4=>exact .cloc (key _ b1 hl) b2 b3 b4
  | cell b1 b2 b3=>exact .cell b1 (b2.imp id λ h=>key _ h (noc _ _ _ h b3)) b3
  | free b1 b2 b3=>exact .free b1 (b2.imp id λ h=>key _ h (noc _ _ _ h b3)) b3
 ·obtain ⟨a1,o,a2,a3⟩:=S.lk p hp
  have l1:=(List.getElem?_eq_some_iff.mp a1).1
  have l2:=(List.getElem?_eq_some_iff.mp a2).1
  exact ⟨by rw [List.getElem?_append_left l1];exact a1,o,by rw [List.getElem?_append_left l2];exact a2,a3⟩
 ·obtain ⟨o',v₀,h1,h2⟩:=S.cl n c e1 e2
  exact ⟨o',v₀,key _ h1 (noc _ _ _ h1 h2),h2⟩
end
section
variable {g:Gd} {x:Cx} {d:Nat} {sc:Scope} {z fr:Bool} {Γc Γ' Γ:Cx0}
inductive CTests (g:Gd) (d:Nat) (sc':Scope) (Γ0:Cx0) (i:Nat):List PySem.Expr→(AV→M Bool)→Prop
 | nil:CTests g d sc' Γ0 i [] (λ _=>rt true)
 | one {c:PySem.Expr} {t:AV→M Bool}:(∀ w,RC g false d sc' (Γ0.set i (some w)) c (t w))→CTests g d sc' Γ0 i [c] t
theorem CTests.run {csc:Scope} {Γ0:Cx0} {i:Nat} {ifs:List PySem.Expr} {t:AV→M Bool} (h:CTests g d (relabS csc sc) Γ0 i ifs t) {x':Cx} (hx:x'.Ok g d) (hsc:x'.env.scope=relabS csc sc) {w:AV} {μ:Mem} {adr:List Addr} {s:Shared} (S:St g x' (Γ0.set i (some w)) μ adr s) :
  Does g x' (Γ0.set i (some w)) (λ _ a b=>a=b) (forIn ifs true λ c r=>if r=true then do let ok ← isTrue c x'.env (eval c x'.env);pure (ForInStep.yield ok) else pure (ForInStep.yield r)) (t w) μ adr s:=by
 cases h with
 | nil =>
  intro b μ' e
  obtain ⟨rfl,rfl⟩:=some2 e
  exact wpAny_tests_nil ⟨adr,List.prefix_refl _,S,rfl⟩
 | one h =>
  intro b μ' e
  exact wpAny_tests_one (h w x' hx hsc (λ q=>by cases q) μ adr s S b μ' e)
theorem YY {h:Heap} {C:Addr} {oC:Obj} {es:Array DictEntry} {ep:Nat} (hg:h.get? C=some oC) (hd:oC.data= .dict es ep) (hk:StrKeys es):h.Ns C (nsFind es):=⟨oC,es,ep,hg,hd,hk,λ _=>rfl⟩
abbrev c3 (x:Cx) (csc:Scope) (m₀:Str→Option Value) (nb:Led) (C D I:Addr) (oC oD oI:Obj):Cx:=ccx x csc C ((C,oC) :: (D,oD) :: (I,oI) :: nb) m₀
inductive CompI (g:Gd) (x:Cx) (csc:Scope) (Γ0:Cx0) (ck:M Unit) (test:AV→M Bool) (eltM:AV→M AV) (Jt:Nat→Obj→Prop) (items zs:List AV) (C D I:Addr) (nb:Led) (m₀:Str→Option Value) (adr₀:List Addr) (μ':Mem) (k:Nat) (s':Shared):Prop
 | mk (j:Nat) (acc:List AV) (ys:List Value) (μ:Mem) (adr:List Addr) (cs:List Led) (pl:Led) (oI oC:Obj) (es:Array DictEntry) (ep n:Nat) (hk:k=items.length - j) (pa:adr₀ <+: adr) (S:StE g (c3 x csc m₀ nb C D I oC (W.listOf ys.toArray n) oI) Γ0 μ adr s' cs pl m₀) (hJ:Jt j oI) (hys:F2 (VR x.fd adr) ys acc) (hacc:acc.length≤j) (hjl:j≤items.length) (hdC:oC.data= .dict es ep) (hkC:StrKeys es) (e:goC ck test eltM (items.drop j) acc μ=some (zs,μ')):CompI g x csc Γ0 ck test eltM Jt items zs C D I nb m₀ adr₀ μ' k s'
inductive CompF (g:Gd) (x:Cx) (Γ:Cx0) (μ':Mem) (zs:List AV) (adr₀:List Addr) (h0:Nat) (m₀:Str→Option Value) (D C:Addr) (s':Shared):Prop
 | mk (adr':List Addr) (cs':List Led) (p1 p2:Led) (oC:Obj) (es:Array DictEntry) (ep:Nat) (ys:List Value) (n:Nat) (pa:adr₀ <+: adr') (S:StE g (x.wn ((C,oC) :: x.need)) Γ μ' adr' s' cs' (p1 ++ (D,W.listOf ys.toArray n) :: p2) m₀) (q1:F2 (VR x.fd adr') ys zs) (q2:zs.length≤big) (q3:(C,oC)∈p1 ++ (D,W.listOf ys.toArray n) :: p2) (q4:oC.data= .dict es ep) (q5:StrKeys es) (q6:C≠D) (q7:h0≤C) (q8:h0≤D):CompF g x Γ μ' zs adr₀ h0 m₀ D C s'
theorem jy (hf:Facts g) (hx:x.Ok g d) (hsc:x.env.scope=sc) (hfr:x.env=x.fenv) {csc:Scope} {v:Str} {i:Nat} {px pos:Pos} {iter elt:PySem.Expr} {ifs:List PySem.Expr} {test:AV→M Bool} {eltM:AV→M AV} {Γ0:Cx0} (hc:CScope sc csc v i) (hT:Takes sc csc Γ Γ0) (hi: ∀ av,Γ0[i]? ≠some (some av))
  (ht:CTests g d (relabS csc sc) Γ0 i ifs test) (he: ∀ w,RE g false d (relabS csc sc) (Γ0.set i (some w)) elt (eltM w)) {items:List AV} {ck:M Unit} {Jt:Nat→Obj→Prop} {adr₀:List Addr} {s₀:Shared} {μ₀ μ':Mem} {cs₀:List Led} {pl₀:Led} {m₀:Str→Option Value} {oI0:Obj} {zs:List AV}
  (Z:StE g x Γ μ₀ adr₀ s₀ cs₀ pl₀ m₀) (hst:Steps g x adr₀ s₀.heap.objs.size items ck Jt) (hfree:oI0.isFreed=false) (hJ:Jt 0 oI0) (hlen:items.length≤big) (e₀:goC ck test eltM items [] μ₀=some (zs,μ')) {E:Value→Shared→Prop} {RR:Value→Addr→Result→Shared→Prop}
  (hRR: ∀ D C s',CompF g x Γ μ' zs adr₀ s₀.heap.objs.size m₀ D C s'→RR (.ref D) C (.ok .next) s') :
  wpAny (model g.prog g.w) x.A (newList []) (λ acc s₃=>wpAny (model g.prog g.w) x.A (newFunctionEnv csc x.env.globals (closOf x.env.cells csc.names []) [] x.env.qual none .none (some x.env)) (λ cenv s₄ =>
   codeAny (model g.prog g.w) x.A (.compStart (.ListComp elt [⟨.Name v px,iter,ifs,0⟩] csc pos) 0 (.ref s₀.heap.objs.size) acc {cenv with scope:=relabel csc x.env}) (RR acc cenv.locals) s₄) E s₃) E {s₀ with heap:=s₀.heap.push oI0}:=by
 subst hsc
 have hloc:x.env.locals=x.L:=by rw [hfr];exact hx.floc
 have Z1:=Z.priv oI0 (lks:=x.lks) hfree Z.lk
 generalize hI:s₀.heap.objs.size=I at *
 as_aux_lemma =>
 refine wpAny_newObj_type ?_
 have Z2:=Z1.priv {cls:= .type "list",data:= .seq ([]:List Value).toArray} (lks:=x.lks) rfl Z1.lk
 obtain ⟨fI1,fI2,fI3,fI4⟩:=yh hx Z (I:=I) (Nat.le_of_eq hI)
 have hD0:s₀.heap.objs.size≤(s₀.heap.push oI0).objs.size:=by rw [Heap.size_push];exact Nat.le_succ _
 have hDI:(s₀.heap.push oI0).objs.size≠I:=by rw [Heap.size_push,hI];exact Nat.succ_ne_self I
 generalize hD:(s₀.heap.push oI0).objs.size=D at *
 as_aux_lemma =>
 obtain ⟨fD1,fD2,fD3,fD4⟩:=yh hx Z (I:=D) hD0
 refine wpAny_newFunctionEnv hc.nocell (by intro y hy;simp at hy) (λ h₁ hns₁ hsb₁=> ?_) hc.kind
 dsimp only at hns₁ hsb₁ ⊢
 have Z3:=Z2.priv {cls:= .type "dict",data:= .dict #[]} (lks:=x.lks) rfl Z2.lk
 have hC0:s₀.heap.objs.size≤((s₀.heap.push oI0).push {cls:= .type "list",data:= .seq ([]:List Value).toArray}).objs.size:=by rw [Heap.size_push,hD];exact Nat.le_succ_of_le hD0
 have hCD:((s₀.heap.push oI0).push {cls:= .type "list",data:= .seq ([]:List Value).toArray}).objs.size≠D:=by rw [Heap.size_push,hD];exact Nat.succ_ne_self D
 have hCI:((s₀.heap.push oI0).push {cls:= .type "list",data:= .seq ([]:List Value).toArray}).objs.size≠I:=by
  rw [Heap.size_push,Heap.size_push,hI]
  exact λ q=>Nat.lt_irrefl I (Nat.lt_of_lt_of_le (Nat.lt_succ_of_lt (Nat.lt_succ_self I)) (Nat.le_of_eq q))
 generalize hC:((s₀.heap.push oI0).push {cls:= .type "list",data:= .seq ([]:List Value).toArray}).objs.size=C at *
 as_aux_lemma =>
 refine hideP λ PZ hZ=> ?_
 obtain ⟨fC1,fC2,fC3,fC4⟩:=yh hx Z (I:=C) hC0
 obtain ⟨oC,esC,epC,hgC,hdC,hkC, -⟩:=hns₁
 have Z4:=StE.swap (p1:=[]) (r:=[(C,oC)]) (h':=h₁) (tk:=s₀.toks+([]:List (Str × Value)).length) (nd:=(C,oC) :: (D,_) :: (I,oI0) :: x.need) Z3 (.inr ⟨oC,rfl,hgC⟩) hsb₁.extBut (λ v q=>by cases q) (.inl (by rw [show x.env.locals=x.L from hloc];exact fC2)) (λ p hp=>by
  rcases List.mem_cons.mp hp with rfl | hp
  ·exact .inl (.head _)
  ·refine .inr ⟨.tail _ hp,?_⟩
   rcases List.mem_cons.mp hp with rfl | hp
   ·exact hCD.symm
   ·rcases List.mem_cons.mp hp with rfl | hp
    ·exact hCI.symm
    ·exact fC3 p hp)
 have cls:CScope x.env.scope csc v i:=hc
 let nb:Led:=pl₀ ++ x.need
 let oD0:Obj:= {cls:= .type "list",data:= .seq ([]:List Value).toArray}
 have W0:=StE.cin (x:=x) (C:=C) (csc:=csc) (nd:=(C,oC) :: (D,oD0) :: (I,oI0) :: nb) (StE.move (x:=x.wn ((C,oC) :: (D,oD0) :: (I,oI0) :: x.need)) (x':=x) rfl rfl rfl rfl rfl rfl rfl Z4 (λ p hp=>Z4.ex p (.tail _ (.tail _ (.tail _ hp)))) Z4.lk) hx hc hT (λ p hp=>by
  rcases List.mem_cons.mp hp with rfl | hp
  ·exact .inr (.head _)
  ·rcases List.mem_cons.mp hp with rfl | hp
   ·exact .inr (.tail _ (.head _))
   ·rcases List.mem_cons.mp hp with rfl | hp
    ·exact .inr (.tail _ (.tail _ (.head _)))
    ·rcases List.mem_append.mp hp with h | h
     ·exact .inr (by simp [h])
     ·exact (Z.ex p h).imp id λ h=>by simp [h])
 have okc: ∀ oC oD oI,(c3 x csc m₀ nb C D I oC oD oI).Ok g d:=λ oC oD oI=>JG hf hx hc fC2.symm λ p hp=>by simp [nb,hp]
 have eqE:cenv x csc C= {(newEnv csc C x.env.globals (closOf x.env.cells csc.names []) x.env.qual none Value.none (some x.env) 0) with scope:=relabel csc x.env}:=rfl
 have scE:(cenv x csc C).scope=relabS csc x.env.scope:=yf
 have kv:(cenv x csc C).kindOf v=some .local:=by
  show (relabel csc x.env).names.lookup v=_
  exact yf ▸ (yU ((ji hc) ▸ hc.nd) (jk hc hc.iv))
 have nbC: ∀ p∈nb,p.1≠C∧p.1≠D∧p.1≠I:=λ p hp=>by
  rcases List.mem_append.mp hp with h | h
  ·have:=Z.lt p (List.mem_append_right _ h)
   refine ⟨λ q=> ?_,λ q=> ?_,λ q=> ?_⟩
   ·exact Nat.lt_irrefl _ (Nat.lt_of_lt_of_le (q ▸ this) hC0)
   ·exact Nat.lt_irrefl _ (Nat.lt_of_lt_of_le (q ▸ this) hD0)
   ·exact Nat.lt_irrefl _ (Nat.lt_of_lt_of_le (q ▸ this) (Nat.le_of_eq hI))
  ·exact ⟨fC3 p h,fD3 p h,fI3 p h⟩
 have loop:codeAny (model g.prog g.w) x.A (.compLoop (.ListComp elt [⟨.Name v px,iter,ifs,0⟩] csc pos) 0 (.ref I) (.ref D) (cenv x csc C)) (RR (.ref D) C) {s₀ with heap:=h₁,toks:=s₀.toks+([]:List (Str × Value)).length}:=by
  refine codeAny_compLoop_tests (CompI g x csc Γ0 ck test eltM Jt items zs C D I nb m₀ adr₀ μ')
   (λ k s' hk=> ?_) (items.length - 0) ⟨0,[],[],μ₀,adr₀,cs₀,_,oI0,oC,esC,epC,0,rfl,List.prefix_refl _,W0,hJ, .nil,Nat.le_refl _,Nat.zero_le _,hdC,hkC,by simpa using e₀⟩
  obtain ⟨j,acc,ys,μ,adr,cs,pl,oI,oC,es,ep,n,rfl,pa,S,hJ,hys,hacc,hjl,hdC,hkC,e⟩:=hk
  have hmI:(I,oI)∈pl:=(S.ex (I,oI) (.tail _ (.tail _ (.head _)))).resolve_left λ q=>by rw [show x.h₀.get? I=none from fI1] at q;exact za q
  cases hit:items[j]? with
  | none =>
   have hdr:items.drop j=[]:=List.drop_eq_nil_of_le (List.getElem?_eq_none_iff.mp hit)
   rw [hdr] at e
   obtain ⟨u,μ₁,e1,e2⟩:=bd_some (show bd ck _ μ=_ from e)
   have hck:=uW hst.ckp e1
   have:=hst.ckp _ _ _ e1
   subst μ₁
   obtain ⟨eqq,rfl⟩:=some2 e2;subst acc
   refine zR (hst.done (c3 x csc m₀ nb C D I oC (W.listOf ys.toArray n) oI) rfl rfl _ j _ adr s' cs _ _ oI S pa hmI hJ hck hit _ λ h' tk hk=> ?_)
   obtain ⟨q1,q2,rfl⟩:=List.append_of_mem hmI
   have S1:=StE.swap (x:=c3 x csc m₀ nb C D I oC (W.listOf ys.toArray n) oI) (r:=[]) (tk:=tk) (nd:=(C,oC) :: (D,W.listOf ys.toArray n) :: nb) S (.inl rfl) hk (hst.dat _ _ hJ) (.inl hCI) λ p hp=> .inr (by
    rcases List.mem_cons.mp hp with rfl | hp
    ·exact ⟨.head _,hCI⟩
    ·rcases List.mem_cons.mp hp with rfl | hp
     ·exact ⟨.tail _ (.head _),hDI⟩
     ·exact ⟨by simp [hp],(nbC p hp).2.2⟩)
   have W1:=StE.cout (x:=x) (nd':=(C,oC) :: (D,W.listOf ys.toArray n) :: x.need) Z S1 pa (λ p hp=>by simp [nb,hp]) λ p hp=>by
    rcases List.mem_cons.mp hp with rfl | hp
    ·exact .inr ⟨.head _,fC1⟩
    ·rcases List.mem_cons.mp hp with rfl | hp
     ·exact .inr ⟨.tail _ (.head _),fD1⟩
     ·exact .inl hp
   have hmD:(D,W.listOf ys.toArray n)∈q1 ++ ([] ++ q2):=(W1.ex (D,_) (.tail _ (.head _))).resolve_left λ q=>by rw [show x.h₀.get? D=none from fD1] at q;exact za q
   have hmC:(C,oC)∈q1 ++ ([] ++ q2):=(W1.ex (C,oC) (.head _)).resolve_left λ q=>by rw [show x.h₀.get? C=none from fC1] at q;exact za q
   generalize q1 ++ ([] ++ q2)=qq at *
   as_aux_lemma =>
   obtain ⟨p1,p2,rfl⟩:=List.append_of_mem hmD
   have W2:=StE.move (x:=x.wn ((C,oC) :: (D,W.listOf ys.toArray n) :: x.need)) (x':=x.wn ((C,oC) :: x.need)) rfl rfl rfl rfl rfl rfl rfl W1 (λ p hp=>W1.ex p (by
    rcases List.mem_cons.mp hp with rfl | hp
    ·exact .head _
    ·exact .tail _ (.tail _ ‹_›))) W1.lk
   exact hRR _ _ _ ⟨adr,cs,p1,p2,oC,es,ep,ys,n,pa,W2,hys,Nat.le_trans (Nat.le_trans hacc hjl) hlen,hmC,hdC,hkC,hCD,by rw [← hI];exact hC0,by rw [← hI];exact hD0⟩
  | some a =>
   have hjl':j < items.length:=(List.getElem?_eq_some_iff.mp hit).1
   have hdr:items.drop j=a :: items.drop (j+1):=by
    rw [List.drop_eq_getElem_cons hjl']
    rw [(List.getElem?_eq_some_iff.mp hit).2]
   rw [hdr] at e
   obtain ⟨u,μ₁,e1,e2⟩:=bd_some (show bd ck _ μ=_ from e)
   have hck:=uW hst.ckp e1
   have:=hst.ckp _ _ _ e1
   subst μ₁
   obtain ⟨b,μ₂,e2,e3⟩:=bd_some e2
   refine zR (hst.item (c3 x csc m₀ nb C D I oC (W.listOf ys.toArray n) oI) rfl rfl _ j _ adr s' cs _ _ oI S pa hmI hJ hck a hit _ λ w h' oI' tk hw hJ' hg' hk=> ?_)
   obtain ⟨q1,q2,rfl⟩:=List.append_of_mem hmI
   have S1:=StE.swap (x:=c3 x csc m₀ nb C D I oC (W.listOf ys.toArray n) oI) (r:=[(I,oI')]) (tk:=tk) (nd:=(C,oC) :: (D,W.listOf ys.toArray n) :: (I,oI') :: nb) S (.inr ⟨oI',rfl,hg'⟩) hk (hst.dat _ _ hJ) (.inl hCI) λ p hp=>by
    rcases List.mem_cons.mp hp with rfl | hp
    ·exact .inr ⟨.head _,hCI⟩
    ·rcases List.mem_cons.mp hp with rfl | hp
     ·exact .inr ⟨.tail _ (.head _),hDI⟩
     ·rcases List.mem_cons.mp hp with rfl | hp
      ·exact .inl (.head _)
      ·exact .inr ⟨by simp [hp],(nbC p hp).2.2⟩
   have hmC:(C,oC)∈q1 ++ ([(I,oI')] ++ q2):=(S1.ex (C,oC) (.head _)).resolve_left λ q=>by rw [show x.h₀.get? C=none from fC1] at q;exact za q
   generalize q1 ++ ([(I,oI')] ++ q2)=qq at *
   as_aux_lemma =>
   have hgC:=(S1.N _ (List.mem_append_right _ hmC)).1
   refine zR (wpAny_assign_Name (wpAny_storeName_local kv (YY hgC hdC hkC) (λ h₂ hn₂ hs₂=> ?_) (by show (csc.kind == .class || (csc.kind == .module && _))=false;rw [hc.kind];rfl)))
   obtain ⟨oC',es',ep',hgC',hdC',hkC',hfC'⟩:=hn₂
   obtain ⟨p1,p2,rfl⟩:=List.append_of_mem hmC
   have S2:=StE.swap (x:=c3 x csc m₀ nb C D I oC (W.listOf ys.toArray n) oI') (r:=[(C,oC')]) (tk:=tk+1) (nd:=(C,oC') :: (D,W.listOf ys.toArray n) :: (I,oI') :: nb) S1 (.inr ⟨oC',rfl,hgC'⟩) hs₂.extBut (λ v q=>by rw [hdC] at q;cases q) (.inr (λ jj av ej nn en=>by
     obtain ⟨nn',i',h1,h2,h3⟩:=hT jj av ej
     have en:(relabel csc x.env).names[jj]? =some (nn,NameKind.local):=en
     rw [yf,qj hc h1] at en
     cases en)) λ p hp=>by
    rcases List.mem_cons.mp hp with rfl | hp
    ·exact .inl (.head _)
    ·rcases List.mem_cons.mp hp with rfl | hp
     ·exact .inr ⟨.tail _ (.head _),hCD.symm⟩
     ·rcases List.mem_cons.mp hp with rfl | hp
      ·exact .inr ⟨.tail _ (.tail _ (.head _)),hCI.symm⟩
      ·exact .inr ⟨.tail _ ‹_›,(nbC p hp).1⟩
   have hmC':(C,oC')∈p1 ++ ([(C,oC')] ++ p2):=List.mem_append_right _ (.head _)
   generalize p1 ++ ([(C,oC')] ++ p2)=qq2 at *
   as_aux_lemma =>
   have S3:=StE.cset (x:=x) (v:=v) (i:=i) (w:=w) (a:=a) (es:=es'.toList) S2 hc hmC' (by simpa using hdC') (by simpa using hkC') (by have:=hfC' v;simpa using this) hw hi
   have okk:=okc oC' (W.listOf ys.toArray n) oI'
   have St3:St g (c3 x csc m₀ nb C D I oC' (W.listOf ys.toArray n) oI') (Γ0.set i (some a)) _ adr _:=⟨_,_,_,S3⟩
   refine zR (wpAny_mono (ht.run okk scE St3 b μ₂ e2) (λ b' s₃ ⟨adr₃,p3,St4,hbb⟩=> ?_) λ _ _ z=>z)
   subst hbb
   have sub0:Sub Γ0 (Γ0.set i (some a)):=λ jj av ej=>by
    by_cases hji:i=jj
    ·subst hji;exact absurd ej (hi av)
    ·rw [List.getElem?_set_ne hji];exact ej
   cases b' with
   | false =>
    simp only [Bool.false_eq_true,if_false] at e3 ⊢
    obtain ⟨cs4,pl4,m4,Z4⟩:=St4
    have hm4:m4=m₀:=Z4.km _ rfl
    subst m4
    exact ⟨items.length - (j+1),by lia,j+1,acc,ys,μ₂,adr₃,cs4,pl4,oI',oC',es',ep',n,rfl,pa.trans p3,Z4.sub sub0,hJ',hys.mono λ _ _=>VR.pre p3,Nat.le_succ_of_le ‹_›,hjl',hdC',hkC',e3⟩
   | true =>
    simp only [if_true] at e3 ⊢
    obtain ⟨y,μ₃,e3,e4⟩:=bd_some e3
    refine zR (wpAny_mono (he a _ okk scE (λ q=>by cases q) μ₂ adr₃ s₃ St4 y μ₃ e3) (λ vy s₄ ⟨adr₄,p4,St5,hy⟩=> ?_) λ _ _ z=>z)
    obtain ⟨cs5,pl5,m5,Z5⟩:=St5
    have hm5:m5=m₀:=Z5.km _ rfl
    subst m5
    have hmD:(D,W.listOf ys.toArray n)∈pl5:=(Z5.ex (D,_) (.tail _ (.head _))).resolve_left λ q=>by rw [show x.h₀.get? D=none from fD1] at q;exact za q
    have hgD:=(Z5.N _ (List.mem_append_right _ hmD)).1
    have hyl:=hys.len
    refine zR (wpAny_list_append_plain (hsz:=by simp only [List.size_toArray];rw [sizeLine_eq];unfold big at hlen;lia) ⟨n,hgD⟩ λ h₅ hl₅ hs₅=> ?_)
    obtain ⟨n',hgD'⟩:=hl₅
    obtain ⟨r1,r2,rfl⟩:=List.append_of_mem hmD
    have hgD'':h₅.get? D=some (W.listOf (ys ++ [vy]).toArray n'):=by rw [hgD',List.push_toArray]
    have S6:=StE.swap (x:=ccx x csc C ((C,oC') :: (D,W.listOf ys.toArray n) :: (I,oI') :: nb) m₀) (r:=[(D,W.listOf (ys ++ [vy]).toArray n')]) (tk:=s₄.toks) (nd:=(C,oC') :: (D,W.listOf (ys ++ [vy]).toArray n') :: (I,oI') :: nb) Z5 (.inr ⟨_,rfl,hgD''⟩) hs₅.extBut (λ v q=>by cases q) (.inl hCD) λ p hp=>by
     rcases List.mem_cons.mp hp with rfl | hp
     ·exact .inr ⟨.head _,hCD⟩
     ·rcases List.mem_cons.mp hp with rfl | hp
      ·exact .inl (.head _)
      ·rcases List.mem_cons.mp hp with rfl | hp
       ·exact .inr ⟨.tail _ (.tail _ (.head _)),hDI.symm⟩
       ·exact .inr ⟨.tail _ (.tail _ ‹_›),(nbC p hp).2.1⟩
    exact ⟨items.length - (j+1),by lia,j+1,acc ++ [y],ys ++ [vy],μ₃,adr₄,cs5,_,oI',oC',es',ep',n',rfl,(pa.trans p3).trans p4,S6.sub sub0,hJ',(hys.mono λ _ _=>VR.pre (p3.trans p4)).app (.cons hy .nil),by simp;lia,hjl',hdC',hkC',e4⟩
 refine hZ ?_
 exact codeAny_compStart_list loop (hst.self _ 0 oI0 (W0.N (I,oI0) (List.mem_append_right _ (.tail _ (.tail _ (.head _))))).1 hJ _ _ loop)
end
section
variable {g:Gd} {x:Cx} {d:Nat} {sc:Scope} {z fr:Bool} {Γc Γ' Γ:Cx0}
noncomputable def CompEnd (g:Gd) (x:Cx) (Γ:Cx0) (b:AV) (μ':Mem) (adr₁:List Addr) (D C:Addr) (s':Shared):Prop :=
 ∃ adr' cs' pl' oC es ep m,adr₁ <+: adr'∧StE g (x.wn ((C,oC) :: x.need)) Γ μ' adr' s' cs' pl' m∧VR x.fd adr' (.ref D) b∧(C,oC)∈pl'∧oC.data= .dict es ep∧StrKeys es∧x.L≠C∧(∀ p∈x.need,p.1≠C)∧(∀ n c,x.env.scope.names.lookup n=some .cell→x.env.cells.lookup n=some c→C≠c)
theorem CompEnd.drop {b:AV} {μ':Mem} {adr₁:List Addr} {D C:Addr} {s':Shared} (hx:x.Ok g d) (hfr:x.env=x.fenv) (h:CompEnd g x Γ b μ' adr₁ D C s') :
  ∃ m,s'.heap.Ns C m∧ ∀ h',Heap.SameBut C s'.heap h'→ ∃ adr',adr₁ <+: adr'∧St g x Γ μ' adr' {s' with heap:=h'}∧VR x.fd adr' (.ref D) b:=by
 obtain ⟨adr',cs',pl',oC,es,ep,m,pa,S,hv,hm,hd,hk,h1,h2,h3⟩:=h
 refine ⟨_,YY (S.N _ (List.mem_append_right _ hm)).1 hd hk,λ h' hs=>⟨adr',pa,?_,hv⟩⟩
 obtain ⟨p1,p2,rfl⟩:=List.append_of_mem hm
 exact ⟨cs',_,m,StE.swap (x:=(x.wn ((C,oC) :: x.need))) (r:=[]) (tk:=s'.toks) (nd:=x.need) S (.inl rfl) hs.extBut (λ v q=>by rw [hd] at q;cases q) (.inl (by
  show x.env.locals≠C
  rw [hfr,hx.floc];exact h1)) λ p hp=> .inr ⟨.tail _ hp,h2 p hp⟩⟩
inductive CompV (a:AV) (test:AV→M Bool) (eltM:AV→M AV) (b:AV) (μ₁ μ':Mem):Prop
 | mk (k:Nat) (o:AO) (items ys':List AV) (μ₄:Mem) (ea:a= .obj k) (ho:μ₁[k]? =some o) (hki:keysOf o=some items) (hlen:items.length≤big) (hul:o.locked=false) (e5:goC (ckO k o.lock) test eltM items [] (μ₁.set k o.lock)=some (ys',μ₄)) (h6:μ₄[k]? =some o.lock) (eb:b= .obj (μ₄.set k o).length) (em:μ'=μ₄.set k o ++ [.list ys']):CompV a test eltM b μ₁ μ'
set_option tactic.hygienic true in
theorem Vc {Gv:AV→Cx0} {a:AV} {test:AV→M Bool} {eltM:AV→M AV} {b:AV} {μ₁ μ':Mem} (e2:comp Gv a test eltM μ₁=some (b,μ')):CompV a test eltM b μ₁ μ':=by
 obtain ⟨k,rfl⟩: ∃ k,a= .obj k:=by cases a <;> first | exact ⟨_,rfl⟩ | cases e2
 obtain ⟨o,ho,e3⟩:=zG (show bd (rd k) _ μ₁=_ from e2)
 obtain ⟨items,μ₃,e3,e4⟩:=bd_some e3
 obtain ⟨hki,rfl⟩:=xq e3
 split at e4
 case isFalse=>exact za e4
 rename_i hlen
 obtain ⟨ys',μ₅,f4,e6⟩:=bd_some e4
 obtain ⟨rfl,rfl⟩:=yz e6
 obtain ⟨hul,μ₄,e5,h6,rfl⟩:=jf f4
 exact ⟨k,o,items,ys',μ₄,rfl,ho,hki,hlen,hul,e5,h6,rfl,rfl⟩
theorem bj (hf:Facts g) (hx:x.Ok g d) (hsc:x.env.scope=sc) (hfr:x.env=x.fenv) {csc:Scope} {v:Str} {i:Nat} {px pos:Pos} {iter elt:PySem.Expr} {ifs:List PySem.Expr} {test:AV→M Bool} {eltM:AV→M AV} {Γ0:Cx0} (hc:CScope sc csc v i) (hT:Takes sc csc Γ Γ0) (hi: ∀ av,Γ0[i]? ≠some (some av))
  (ht:CTests g d (relabS csc sc) Γ0 i ifs test) (he: ∀ w,RE g false d (relabS csc sc) (Γ0.set i (some w)) elt (eltM w)) {Gv:AV→Cx0} {va:Value} {a b:AV} {adr₁:List Addr} {s₁:Shared} {μ₁ μ':Mem} (S1:St g x Γ μ₁ adr₁ s₁) (r1:VR x.fd adr₁ va a) (e2:comp Gv a test eltM μ₁=some (b,μ'))
  {E:Value→Shared→Prop} {RR:Value→Addr→Result→Shared→Prop} (hRR: ∀ D C s',CompEnd g x Γ b μ' adr₁ D C s'→RR (.ref D) C (.ok .next) s') :
  wpAny (model g.prog g.w) x.A (pyIter va) (λ it s₂=>wpAny (model g.prog g.w) x.A (newList []) (λ acc s₃=>wpAny (model g.prog g.w) x.A (newFunctionEnv csc x.env.globals (closOf x.env.cells csc.names []) [] x.env.qual none .none (some x.env)) (λ cenv s₄ =>
   codeAny (model g.prog g.w) x.A (.compStart (.ListComp elt [⟨.Name v px,iter,ifs,0⟩] csc pos) 0 it acc {cenv with scope:=relabel csc x.env}) (RR acc cenv.locals) s₄) E s₃) E s₂) E s₁:=by
 obtain ⟨k,o,items,ys',μ₄,rfl,ho,hki,hlen,hul,e5,h6,rfl,rfl⟩:=Vc e2
 obtain ⟨cs,pl,m,Z⟩:=S1
 have hkn:=bg Z ho hul
 have fin: ∀ (x1:Cx),x1=x∨(∃ c,x1=(x.wl k c)∧(∀ adr,CR g x.fd adr c o.lock→CR g x.fd adr c o)∧o.lock.locked=true)→(x1=x→o.lock=o)→ ∀ D C s',CompF g x1 Γ μ₄ ys' adr₁ s₁.heap.objs.size m D C s' →
   RR (.ref D) C (.ok .next) s':=by
  rintro x1 hx1 hlo D C s' ⟨adr',cs',p1,p2,oC,es,ep,ys,n,pa,S,q1,q2,q3,q4,q5,q6,q7,q8⟩
  obtain ⟨fC1,fC2,fC3,fC4⟩:=yh hx Z q7
  obtain ⟨fD1,fD2,fD3,fD4⟩:=yh hx Z q8
  have S2:StE g (x.wn ((C,oC) :: x.need)) Γ (μ₄.set k o) adr' s' cs' (p1 ++ (D,W.listOf ys.toArray n) :: p2) m:=by
   rcases hx1 with rfl | ⟨c,rfl,hcv,hll⟩
   ·have:μ₄.set k o=μ₄:=by rw [hlo rfl] at h6;exact xP h6
    rw [this];exact S
   ·exact jx (x:=(x.wn ((C,oC) :: x.need))) S h6 (hcv _) hkn
  have hfd:x1.fd=x.fd:=by rcases hx1 with rfl | ⟨c,rfl,_⟩ <;> rfl
  rw [hfd] at q1
  have okC:((x.wn ((C,oC) :: x.need)):Cx).Ok g d:=wq hf hx (λ p hp=> .tail _ hp) λ p hp=>by
   rcases List.mem_cons.mp hp with rfl | hp
   ·exact .inr fC4
   ·exact .inl hp
  have hlen':ys.length=ys'.length:=q1.len
  have S3:=StE.publish (x:=(x.wn ((C,oC) :: x.need))) S2 okC (CR.list (n:=n) (q1.mono λ _ _=>VR.pre ⟨_,rfl⟩) q2) (λ v q=>by cases q) (by
   show x.env.locals≠D
   rw [hfr,hx.floc];exact fD2) (λ p hp=>by
   rcases List.mem_cons.mp hp with rfl | hp
   ·exact q6
   ·exact fD3 p hp)
  refine hRR D C s' ⟨adr' ++ [D],_,_,oC,es,ep,m,pa.trans ⟨_,rfl⟩,S3,?_,?_,q4,q5,fC2,fC3,fC4⟩
  ·exact .last (by rw [S2.ladr])
  ·rcases List.mem_append.mp q3 with h | h
   ·exact List.mem_append_left _ h
   ·rcases List.mem_cons.mp h with h | h
    ·exact absurd (Prod.mk.inj h).1 q6
    ·exact List.mem_append_right _ h
 cases o with
 | inst c fs=>exact za hki
 | tup xs=>exact za hki
 | list xs =>
  cases hki
  obtain ⟨ad,vs,nn,rfl,hcc,q1,q2,L1⟩:=Z.listAt r1 ho
  have had:adr₁[k]? =some ad:=by cases r1;assumption
  rw [show List.set _ k (AO.list items).lock=_ from xP ho] at e5
  refine wpAny_pyIter_list L1 ?_
  exact jy hf hx hsc hfr hc hT hi ht he Z (qi hx.hnd had) rfl ⟨rfl,rfl⟩ hlen e5 (fin x (.inl rfl) λ _=>rfl)
 | dI lk es =>
  cases hki
  have hul':lk=false:=hul
  subst hul'
  obtain ⟨ad',od,kvs,rfl,hcc,q1,q2,q3,q4⟩:=Z.atI r1 ho
  obtain ⟨ep,hK⟩:=KdkAt.of q1
  refine wpAny_pyIter_dict q3 (hK.dictAt (Z.N _ (mem1 hcc)).1) ?_
  have Z2:=vK Z hcc ho rfl rfl (.dI q1 q2 q3 q4)
  have hx2:((x.wl k [(ad',od)]):Cx).Ok g d:=wq hf hx (λ p hp=>hp) λ p hp=> .inl hp
  exact jy (x:=(x.wl k [(ad',od)])) hf hx2 hsc hfr hc hT hi ht he Z2 (ud (x:=(x.wl k [(ad',od)])) hx.hnd (.head _) hK (by simp [q2.len]) (jg q2)) rfl ⟨rfl,rfl⟩ hlen e5 (fin _ (.inr ⟨_,rfl,λ _=>XX,rfl⟩) λ q=>by
   exfalso
   have:=congrArg Cx.lks q
   have h2:((k,[(ad',od)]) :: x.lks).length=x.lks.length:=congrArg List.length this
   simp at h2)
 | dS lk es =>
  cases hki
  have hul':lk=false:=hul
  subst hul'
  obtain ⟨ad',od,kvs,rfl,hcc,q1,q2,q3,q4⟩:=Z.atS r1 ho
  obtain ⟨ep,hK⟩:=KdkAt.of q1
  refine wpAny_pyIter_dict q3 (hK.dictAt (Z.N _ (mem1 hcc)).1) ?_
  have Z2:=vK Z hcc ho rfl rfl (.dS q1 q2 q3 q4)
  have hx2:((x.wl k [(ad',od)]):Cx).Ok g d:=wq hf hx (λ p hp=>hp) λ p hp=> .inl hp
  exact jy (x:=(x.wl k [(ad',od)])) hf hx2 hsc hfr hc hT hi ht he Z2 (ud (x:=(x.wl k [(ad',od)])) hx.hnd (.head _) hK (by simp [q2.len]) (jh q2)) rfl ⟨rfl,rfl⟩ hlen e5 (fin _ (.inr ⟨_,rfl,λ _=>XY,rfl⟩) λ q=>by
   exfalso
   have:=congrArg Cx.lks q
   have h2:((k,[(ad',od)]) :: x.lks).length=x.lks.length:=congrArg List.length this
   simp at h2)
theorem hO (hx:x.Ok g d) {csc:Scope} {v:Str} {i:Nat} (hc:CScope x.env.scope csc v i):closureFor csc x.env=pure (closOf x.env.cells csc.names []):=gf λ y hy hk=>hx.cs _ (hc.free y hy hk)
theorem qk {csc:Scope} {v:Str} {i:Nat} (hc:CScope sc csc v i): ∀ y∈csc.names,y.2= .local→csc.names.lookup y.1=some .local:=λ y hy hk=>by
 obtain ⟨j,hj⟩:=List.getElem?_of_mem hy
 exact yU hc.nd (by rw [hj,← hk])
theorem Uw (hf:Facts g) {csc:Scope} {v:Str} {i:Nat} {px pos:Pos} {iter elt:PySem.Expr} {ifs:List PySem.Expr} {src:M AV} {test:AV→M Bool} {eltM:AV→M AV} {Gv:AV→Cx0} (Γ0:Cx0) (hs:RE g true d sc Γ iter src) (hc:CScope sc csc v i) (hT:Takes sc csc Γ Γ0) (hi: ∀ av,Γ0[i]? ≠some (some av))
  (ht:CTests g d (relabS csc sc) Γ0 i ifs test) (he: ∀ w,RE g false d (relabS csc sc) (Γ0.set i (some w)) elt (eltM w)) (hfs: ∀ env x,foldedSetIterable iter env x=pure x) :
  RE g true d sc Γ (.ListComp elt [⟨.Name v px,iter,ifs,0⟩] csc pos) (bd src λ a=>comp Gv a test eltM):=by
 intro x hx hsc hfr μ adr s S b μ' e
 obtain ⟨a,μ₁,e1,e2⟩:=bd_some e
 have hc':CScope x.env.scope csc v i:=hsc ▸ hc
 rw [eval_ListComp]
 refine wpAny_comprehension_free (use:=none) rfl (hfs _) (hO hx hc') hc.kind (qk hc') (wpAny_mono (hs x hx hsc hfr μ adr s S a μ₁ e1) (λ va s₁ ⟨adr₁,p1,S1,r1⟩=> ?_) λ _ _ z=>z)
 refine bj (RR:=λ acc C=>compPost (model g.prog g.w) x.A nof none _ acc C) hf hx hsc (hfr rfl) hc hT hi ht he S1 r1 e2 λ D C s' h=> ?_
 obtain ⟨m,h1,h2⟩:=h.drop hx (hfr rfl)
 refine ⟨m,h1,λ h' hs=> ?_⟩
 obtain ⟨adr',pa,S',r'⟩:=h2 h' hs
 exact ⟨adr',p1.trans pa,S',r'⟩
theorem Vd (hf:Facts g) {ρ:Type} {G:ρ→Cx0} {csc:Scope} {v n:Str} {i j:Nat} {px q p pos:Pos} {iter elt:PySem.Expr} {ifs:List PySem.Expr} {src:M AV} {test:AV→M Bool} {eltM:AV→M AV} {Gv:AV→Cx0} {rest:List Stmt} {k:AV→M (Fl ρ)} (Γ0:Cx0) (hs:RE g true d sc Γ iter src) (hc:CScope sc csc v i) (hT:Takes sc csc Γ Γ0) (hi: ∀ av,Γ0[i]? ≠some (some av))
  (ht:CTests g d (relabS csc sc) Γ0 i ifs test) (he: ∀ w,RE g false d (relabS csc sc) (Γ0.set i (some w)) elt (eltM w)) (hn:sc.names[j]? =some (n, .local)) (hk: ∀ w,RS g z d sc (Γ.set j (some w)) Γc G rest (k w))
  (hsw: ∀ env:Env,env.scope=sc→swapsWith (.ListComp elt [⟨.Name v px,iter,ifs,0⟩] csc pos) (some (.Name n q)) p.line env=pure true) (hfs: ∀ env x,foldedSetIterable iter env x=pure x) :
  RS g z d sc Γ Γc G (.Assign [.Name n q] (.ListComp elt [⟨.Name v px,iter,ifs,0⟩] csc pos) p :: rest) (bd (bd src λ a=>comp Gv a test eltM) k):=λ x hx hsc hfr hz μ adr s S=>by
 refine DoesS.cons (Γ':=λ w=>Γ.set j (some w)) (λ b μ' e=> ?_) λ w μ₁ adr₁ s₁ S1=>hk w x hx hsc hfr hz μ₁ adr₁ s₁ S1
 obtain ⟨a,μ₁,e1,e2⟩:=bd_some e
 have hc':CScope x.env.scope csc v i:=hsc ▸ hc
 rw [exec_Assign_Name_used _ _ _ _ (hsw x.env hsc)]
 refine wpAny_bind (wpAny_standAt (wpAny_bind ?_))
 show wpAny _ x.A (do let _ ← comprehension (.ListComp elt [⟨.Name v px,iter,ifs,0⟩] csc pos) csc x.env _ (newList []) false (eval iter x.env) (some (assign (.Name n q) x.env))) _ _ s
 refine wpAny_bind (wpAny_mono (wpAny_comprehension_free (use:=some (assign (.Name n q) x.env)) (Q:=λ _ s'=> ∃ adr₁,adr <+: adr₁∧St g x (Γ.set j (some b)) μ' adr₁ s') rfl (hfs _) (hO hx hc') hc.kind (qk hc') (wpAny_mono (hs x hx hsc (λ _=>hfr) μ adr s S a μ₁ e1) (λ va s₁ ⟨adr₁,p1,S1,r1⟩=> ?_) λ _ _ z=>z)) (λ _ s' hq=>wpAny_pure (wpAny_pure ⟨rfl,hq⟩)) λ _ _ e=>e)
 refine bj (RR:=λ acc C=>compPost (model g.prog g.w) x.A nof (some (assign (.Name n q) x.env)) _ acc C) hf hx hsc hfr hc hT hi ht he S1 r1 e2 λ D C s' h=> ?_
 obtain ⟨adr',cs',pl',oC,es,ep,m,pa,S',hv,hm,hd,hkk,h1,h2,h3⟩:=h
 show wpAny _ x.A (assign (.Name n q) x.env (.ref D)) _ _ _
 have okC:((x.wn ((C,oC) :: x.need)):Cx).Ok g d:=wq hf hx (λ p hp=> .tail _ hp) λ p hp=>by
  rcases List.mem_cons.mp hp with rfl | hp
  ·exact .inr h3
  ·exact .inl hp
 have St':St g ((x.wn ((C,oC) :: x.need)):Cx) Γ μ' adr' s':=⟨_,_,_,S'⟩
 refine wpAny_assign_Name (wpAny_mono (ja (x:=(x.wn ((C,oC) :: x.need))) okC hfr St' (show x.env.scope.names[j]? =some (n, .local) from hsc ▸ hn) hv) (λ _ s₂ ⟨cs2,pl2,m2,S2⟩=> ?_) λ _ _ z=>z)
 have hm2:(C,oC)∈pl2:=(S2.ex (C,oC) (.head _)).resolve_left λ q=>by
  have h4:=(S'.N _ (List.mem_append_right _ hm)).2.2
  have h4:x.h₀.get? C=none:=h4
  rw [show x.h₀.get? C=some oC from q] at h4;exact jJ h4
 refine ⟨_,YY (S2.N _ (List.mem_append_right _ hm2)).1 hd hkk,λ h' hs'=>⟨adr',p1.trans pa,?_⟩⟩
 obtain ⟨q1,q2,rfl⟩:=List.append_of_mem hm2
 exact ⟨cs2,_,m2,StE.swap (x:=(x.wn ((C,oC) :: x.need))) (r:=[]) (tk:=s₂.toks) (nd:=x.need) S2 (.inl rfl) hs'.extBut (λ v q=>by rw [hd] at q;cases q) (.inl (by
  show x.env.locals≠C
  rw [hfr,hx.floc];exact h1)) λ p hp=> .inr ⟨.tail _ hp,h2 p hp⟩⟩
end
section
variable {g:Gd} {x:Cx} {d:Nat} {sc:Scope} {z fr:Bool} {Γc Γ' Γ:Cx0}
theorem Zb (f:Array Value→Array Value) (its:Array Value) (n:Nat): ∃ n',Obj.mapSeq f (W.listOf its n)=W.listOf (f its) n':=⟨_,rfl⟩
theorem YZ (n:Nat):sliceBounds none none none n=(0,(n:Int),1):=by
 exact rfl
theorem ql {M:Model} {A:Around} {E:Value→Shared→Prop} {s:Shared} {v:Addr} {its:Array Value} {Q:Array Value→Shared→Prop} (hv:s.heap.IsList v its) (h:Q its s):wpAny M A (Builtin.List.listItems (.ref v)) Q E s:=by
 obtain ⟨ov,hov,hcv,nv,hdv⟩:=hv
 unfold Builtin.List.listItems
 exact wpAny_bind (wpAny_seqItems hov hdv (wpAny_pure h))
theorem gi {M:Model} {A:Around} {E:Value→Shared→Prop} {s:Shared} {v:Addr} {its:Array Value} {msg:String} {Q:Array Value→Shared→Prop} (hv:s.heap.IsList v its) (h:Q its s):wpAny M A (Builtin.List.listAllItems (.ref v) msg) Q E s:=by
 have hv':=hv
 obtain ⟨ov,hov,hcv,nv,hdv⟩:=hv'
 unfold Builtin.List.listAllItems
 refine wpAny_bind (wpAny_typeOf (T:="list") ⟨ov,hov,hcv⟩ ?_)
 refine wpAny_ite_true rfl ?_
 exact ql hv h
theorem Zc {prog:Program} {w:World} {A:Around} {s:Shared} {l sl v:Addr} {its new:Array Value} {n:Nat} {Q:Unit→Shared→Prop} (ho:s.heap.get? l=some (W.listOf its n)) (hs:s.heap.IsSliceOf sl .none .none .none) (hv:s.heap.IsList v new) (hne:l≠v)
  (h1:its.size≤big) (h2:new.size≤big) (hq: ∀ h' n',Heap.SameBut l s.heap h'→h'.get? l=some (W.listOf new n')→Q () {s with heap:=h'}):wpAny (model prog w) A (setItem (.ref l) (.ref sl) (.ref v)) Q nof s:=by
 refine hideP λ PZ hZ=> ?_
 have hl:s.heap.IsList l its:=⟨_,ho,rfl,n,rfl⟩
 obtain ⟨os,hos,hcs,hds⟩:=id hs
 obtain ⟨ov,hov,hcv,nv,hdv⟩:=id hv
 have hTs:s.TypeIs (.ref sl) "slice" :=⟨os,hos,hcs⟩
 have hsz:(1048576:Nat)+1048576 < sizeLine:=by rw [sizeLine_eq];exact Nat.le_add_left _ _
 refine hZ ?_
 unfold setItem
 try with_reducible refine wpAny_holding ?_
 first | refine wpAny_bind (wpAny_pure ?_) | skip
 refine wpAny_bind (wpAny_sequenceKey hl.typeIs (by decide) ?_)
 refine wpAny_bind (wpAny_callSpecial?_slot (name:=Str.ofString "__setitem__") hl.typeIs slot_list_setitem
  (wpAny_call_entry slot_list_setitem hl.typeIs entry_list_setitem ?_ (args_list_setitem _ _ _)))
 show wpAny _ _ (Builtin.List.listSubscript? (.ref sl) >>= _) _ _ s
 refine wpAny_bind ?_
 unfold Builtin.List.listSubscript?
 refine wpAny_bind (wpAny_specialOf hTs slice_no_index ?_)
 refine wpAny_ite_true rfl ?_
 refine wpAny_pure ?_
 show wpAny _ _ (typeOf (.ref sl) >>= _) _ _ s
 refine wpAny_bind (wpAny_typeOf hTs ?_)
 refine wpAny_ite_false rfl ?_
 rw [listSliceParts_eq]
 refine wpAny_bind (wpAny_bind (wpAny_field hos hds (x:= .none) rfl (wpAny_bind (wpAny_listPart .none ?_))))
 refine wpAny_ite_false rfl ?_
 refine wpAny_bind (wpAny_field hos hds (x:= .none) rfl (wpAny_bind (wpAny_listPart .none ?_)))
 refine wpAny_bind (wpAny_field hos hds (x:= .none) rfl (wpAny_bind (wpAny_listPart .none (wpAny_pure ?_))))
 dsimp only
 have hsame:Builtin.List.listSameRef (.ref l) (.ref v)=false:=by
  show (l == v)=false
  exact beq_eq_false_iff_ne.mpr hne
 rw [hsame];refine wpAny_ite_false rfl ?_
 refine wpAny_bind (gi hv ?_)
 refine wpAny_bind (ql hl ?_)
 refine wpAny_bind (wpAny_of_eq (sliceIndices_raw none none none its.size nofun) ?_)
 rw [YZ]
 dsimp only
 refine wpAny_ite_true rfl ?_
 refine wpAny_bind (wpAny_rule ?_)
 have hlong:Builtin.List.listTooLong (its.size+new.size)=false:=by
  unfold Builtin.List.listTooLong
  unfold big at h1 h2
  simp;lia
 rw [hlong];refine wpAny_ite_false rfl ?_
 refine wpAny_bind (m:=Builtin.List.listUpdate (.ref l) _) ?_
 show wpAny _ _ (updateSeq l _) _ _ s
 have hf: ∀ xs:Array Value,xs.size=its.size→(xs.extract 0 (0:Int).toNat ++ new ++ xs.extract (max (0:Int) (its.size:Int)).toNat xs.size)=new:=by
  intro xs hxs
  have e:(max (0:Int) (its.size:Int)).toNat=xs.size:=by lia
  rw [e]
  apply Array.toList_inj.mp
  simp
 refine wpAny_updateSeq ho rfl ?_ (by rw [sizeLine_eq];unfold big at h1;lia) (by
  rw [hf its rfl];rw [sizeLine_eq];unfold big at h2;lia)
 refine wpAny_bind (wpAny_letGo ?_)
 obtain ⟨n',hn'⟩:=Zb (λ xs=>xs.extract 0 (0:Int).toNat ++ new ++ xs.extract (max (0:Int) (its.size:Int)).toNat xs.size) its n
 rw [hf its rfl] at hn'
 have hg:(s.heap.update l (Obj.mapSeq λ xs=>xs.extract 0 (0:Int).toNat ++ new ++ xs.extract (max (0:Int) (its.size:Int)).toNat xs.size)).get? l=some (W.listOf new n'):=by
  rw [← hn']
  exact Heap.get?_update_self _ ho (by rw [hn'];rfl)
 have fin:=hq _ n' (Heap.SameBut.update ..) hg
 first
  | exact wpAny_bind (wpAny_pure (wpAny_pure ⟨.none,rfl,wpAny_pure fin⟩))
  | exact wpAny_pure ⟨.none,rfl,wpAny_pure fin⟩
set_option tactic.hygienic true in
theorem Y0 {a b:AV} {u:Unit} {μ μ':Mem} (e:setAll a b μ=some (u,μ')): ∃ i j xs ys,a= .obj i∧b= .obj j∧μ[i]? =some (.list xs)∧μ[j]? =some (.list ys)∧μ'=μ.set i (.list ys):=by
 cases a <;> try (first | exact za e | (obtain ⟨rfl,rfl⟩:=some2 e;done))
 rename_i i
 obtain ⟨o,h1,e2⟩:=zG (show bd (rd i) _ μ=_ from e)
 cases o <;> try (first | exact za e2 | (obtain ⟨rfl,rfl⟩:=some2 e2;done))
 rename_i xs
 obtain ⟨ys,μ₂,e3,e4⟩:=bd_some e2
 obtain ⟨rfl,j,rfl,h2⟩:=xV e3
 exact ⟨i,j,xs,ys,rfl,rfl,h1,h2,xC e4⟩
set_option tactic.hygienic true in
theorem Zd (hx:x.Ok g d) {va vb:Value} {a b:AV} {μ:Mem} {adr:List Addr} {s:Shared} {sl:Addr} (S:St g x Γ μ adr s) (r1:VR x.fd adr va a) (r2:VR x.fd adr vb b) (hs:s.heap.IsSliceOf sl .none .none .none) (hij: ∀ i j,a= .obj i→b= .obj j→i≠j) :
  Does g x Γ (λ _ _ _=>True) (setItem va (.ref sl) vb) (setAll a b) μ adr s:=by
 intro u μ' e
 refine hideP λ PZ hZ=> ?_
 obtain ⟨i,j,xs,ys,rfl,rfl,h1,h2,rfl⟩:=Y0 e
 obtain ⟨cs,pl,m,S⟩:=S
 obtain ⟨ad,vs,n,rfl,hc,q1,q2,L1⟩:=S.listAt r1 h1
 obtain ⟨ad',ws,n',rfl,hc',q1',q2',L2⟩:=S.listAt r2 h2
 have N:=S.N
 have nd:=S.nd
 rw [flat1 hc] at N nd
 obtain ⟨n1,n2⟩:=ub nd
 have hmm:=N (ad,W.listOf vs.toArray n) (List.mem_append_right _ (.head _))
 have hne:ad≠ad':=λ q=>by
  subst q
  (cases r1);cases r2
  rename_i k1 k2
  have hnd:adr.Nodup:=by
   rw [← S.ha]
   have:(cs.map hd1).Sublist ((cs.flatten ++ pl).map (·.1)):=by
    rw [List.map_append]
    refine List.Sublist.trans ?_ (List.sublist_append_left _ _)
    have:=S.C
    have nonempty: ∀ c∈cs,c≠[]:=λ c hcm=>by
     obtain ⟨k,hk⟩:=List.getElem?_of_mem hcm
     have hlt:k < μ.length:=by rw [← S.C.len];exact (List.getElem?_eq_some_iff.mp hk).1
     obtain ⟨c',hk',hcr⟩:=S.chunk (List.getElem?_eq_getElem hlt)
     rw [hk] at hk';cases hk'
     generalize μ[k]=oo at hcr
     cases hcr <;> exact nofun
    clear this
    generalize hcs:cs=cc at nonempty
    clear hcs
    induction cc with
    | nil=>simp
    | cons c cc ih =>
     have hc:=nonempty c (.head _)
     cases c with
     | nil=>exact absurd rfl hc
     | cons p r =>
      simp only [List.map_cons,List.flatten_cons,List.cons_append,List.map_append,hd1]
      exact List.Sublist.cons_cons _ (List.Sublist.trans (ih λ c hc=>nonempty c (.tail _ ‹_›)) (List.sublist_append_right _ _))
   exact this.nodup S.nd
  have:=(List.getElem?_inj (List.getElem?_eq_some_iff.mp k1).1 hnd).mp (k1.trans k2.symm)
  exact hij i j rfl rfl this
 refine hZ ?_
 refine Zc hmm.1 hs L2 hne (by simp only [List.size_toArray];rw [q1.len];exact q2) (by simp only [List.size_toArray];rw [q1'.len];exact q2') λ h' n' hsb hg=> ?_
 refine ⟨adr,List.prefix_refl _,⟨_,pl,m,S.put (c':=[(ad,W.listOf ws.toArray n')]) hc (λ o e=>by rw [h1] at e;obtain rfl:=Option.some.inj e;rfl) rfl (.list q1' q2') (S.F.change hsb hmm.2.1 hmm.2.2) ?_⟩,trivial⟩
 rw [flat1s hc]
 exact N.setIn n1 n2 hsb hg
set_option tactic.hygienic true in
theorem XZ {ρ:Type} {G:ρ→Cx0} {e o:PySem.Expr} {p q sp:Pos} {rest:List Stmt} {mv mo:M AV} {k:M (Fl ρ)} (hv:RE g true d sc Γ e mv) (ho:RE g true d sc Γ o mo) (hk:RS g z d sc Γ Γc G rest k)
  (hs: ∀ env,swapsWith e (some (.Subscript o (.Slice none none none sp) q)) p.line env=pure false) :
  RS g z d sc Γ Γc G (.Assign [.Subscript o (.Slice none none none sp) q] e p :: rest) (bd mv λ v=>bd mo λ o=>bd (yZ o v) λ _=>k):=λ x hx hsc hfr hz μ adr s S=>by
 have eq:(bd mv λ v=>bd mo λ o=>bd (yZ o v) λ _=>k)=bd (bd mv λ v=>bd mo λ o=>yZ o v) λ _=>k:=by simp only [xu]
 rw [eq]
 refine DoesS.cons (Γ':=λ _=>Γ) (λ u μ₄ e=> ?_) λ _ μ₁ adr₁ s₁ S1=>hk x hx hsc hfr hz μ₁ adr₁ s₁ S1
 obtain ⟨v,μ₁,e1,e2⟩:=bd_some e
 obtain ⟨ov,μ₂,e2,e3⟩:=bd_some e2
 unfold yZ at e3
 split at e3
 ·exact za e3
 rename_i hne
 refine wpAny_Assign_Subscript (wpAny_mono (hv x hx hsc (λ _=>hfr) μ adr s S v μ₁ e1) (λ vv s₁ ⟨adr₁,p1,S1,r1⟩=> ?_) λ _ _ z=>z) (hs _)
 refine wpAny_mono (ho x hx hsc (λ _=>hfr) μ₁ adr₁ s₁ S1 ov μ₂ e2) (λ oo s₂ ⟨adr₂,p2,S2,r2⟩=> ?_) λ _ _ z=>z
 refine wpAny_Slice (wpAny_pure (wpAny_pure (wpAny_pure ?_)))
 obtain ⟨cs,pl,m,Z⟩:=S2
 have S3:St g x Γ μ₂ adr₂ {s₂ with heap:=s₂.heap.push {cls:= .type "slice",data:= .fields #[.none, .none, .none]}}:=⟨cs,pl,m,Z.grow (tk:=s₂.toks) λ b o e=>Heap.get?_push_of_some _ e⟩
 refine wpAny_mono (Zd hx S3 r2 (r1.pre p2) (Heap.IsSliceOf.new ..) (λ i j h h' q=>hne (by rw [h,h',q])) u μ₄ e3) (λ _ s₄ ⟨adr₄,p4,S4,_⟩=> ?_) λ _ _ z=>z
 exact ⟨rfl,adr₄,(p1.trans p2).trans p4,S4⟩
end
section
variable {g:Gd} {x:Cx} {d:Nat} {sc:Scope} {z fr:Bool} {Γc Γ' Γ:Cx0}
noncomputable def Clo (name qual:Str) (params:Arguments) (body:List Stmt) (scope:Scope) (ns:List Str) (avs:List AV) (n:Led) (fact:List Addr→Prop) (fd:Option Addr):Prop :=
 ∃ f doc pm c' ctv oc vs qt cl,fd=some f∧(f,fnMade name qual params body scope cl doc pm c' ctv)∈n∧(c',oc)∈n∧oc.data= .fields vs∧vs[1]? =some (.str qual qt) ∧
  ∀ (i:Nat) nm av,ns[i]? =some nm→avs[i]? =some av→ ∃ c o v,cl.lookup nm=some c∧(c,o)∈n∧o.data= .cell (some v)∧ ∀ adr,fact adr→VR fd adr v av
theorem Clo.mono {name qual:Str} {params:Arguments} {body:List Stmt} {scope:Scope} {ns:List Str} {avs:List AV}: ∀ n n' f fd,(∀ p∈n,p∈n')→Clo name qual params body scope ns avs n f fd→Clo name qual params body scope ns avs n' f fd:=by
 rintro n n' fa fd h ⟨f,doc,pm,c',ctv,oc,vs,qt,cl,h1,h2,h3,h4,h5,h6⟩
 refine ⟨f,doc,pm,c',ctv,oc,vs,qt,cl,h1,h _ h2,h _ h3,h4,h5,λ i nm av e e'=> ?_⟩
 obtain ⟨c,o,v,a1,a2,a3,a4⟩:=h6 i nm av e e'
 exact ⟨c,o,v,a1,h _ a2,a3,a4⟩
theorem ve {μ:Mem} {adr:List Addr} {s:Shared} {cs:List Led} {pl:Led} {m:Str→Option Value} (S:StE g x Γ μ adr s cs pl m) {p:Addr × Obj} (h:p∈x.need):s.heap.get? p.1=some p.2:=(S.ex p h).elim (λ q=>S.F.keep _ _ q) λ q=>(S.N _ (List.mem_append_right _ q)).1
theorem Ve (hf:Facts g) {name qual pn:Str} {params:Arguments} {body:List Stmt} {scope:Scope} {ns:List Str} {avs:List AV} {rk:List (Str × NameKind)} {mb:AV→M (Fl Unit)} (hco':g.co=Clo name qual params body scope ns avs)
  (hsn:scope.names=(pn, .local) :: (ns.map λ n=>(n, .free)) ++ rk) (hrk: ∀ y∈rk,y.2= .globalImplicit) (hnl:ns.length=avs.length) (nd:(scope.names.map (·.1)).Nodup) (hkd:scope.kind= .function) (hcor:scope.isCoroutine=false) (hgen:scope.isGenerator=false)
  (hbind: ∀ cl doc pm c' ctv v,bindArgs (fnX name qual params body scope cl .none .none doc pm none (.ref c') ctv) ⟨[v],[]⟩=pure [(pn,v)])
  (hb: ∀ a,RS g false d scope (some a :: avs.map some ++ List.replicate rk.length none) [] (λ _=>[]) body (mb a)) (hx:x.Ok g (d+1)) {μ:Mem} {adr:List Addr} {s:Shared} (S:St g x Γ μ adr s) {f w:Value} {a:AV} (hfv:VR x.fd adr f .dstr) (r:VR x.fd adr w a) :
  Does g x Γ (VR x.fd) (call f [w]) (fin (mb a)) μ adr s:=by
 intro b μ' e
 refine hideP λ PZ hZ=> ?_
 obtain ⟨cs,pl,m,S⟩:=S
 have hco:=hx.co
 rw [hco'] at hco
 obtain ⟨fa,doc,pm,c',ctv,oc,vs,qt,cl,hfd,hfn,hcn,hd1,hd2,hcell⟩:=hco
 have hff:f= .ref fa:=by
  cases hfv with
  | dstr h=>rw [hfd] at h;obtain rfl:=Option.some.inj h;rfl
 subst hff
 have X:g.K.In s.heap:=hx.kin.keeps S.F.keep
 refine hZ ?_
 refine wpAny_call (callX_plain (cl:=cl) hx.below S.F S.N hx.top.nolimit hx.frames hx.fL hx.fk (ve S hfn) rfl ⟨c',oc,vs,qt,rfl,ve S hcn,hd1,hd2⟩ (by have:=hx.dep;lia) (binds:=[(pn,w)]) (BindsTo.of_eq (hbind cl doc pm c' ctv w)) ?_ (λ g' L' h₁ FG F' N' B' st lt=> ?_) ?_ hcor hgen hkd)
 ·intro y hy
  rw [List.mem_singleton.mp hy,hsn]
  simp
 rotate_left
 ·intro y hy
  rw [hsn] at hy
  simp only [List.cons_append,List.mem_cons,List.mem_append,List.mem_map] at hy
  rcases hy with rfl | ⟨n,_,rfl⟩ | hy
  ·show NameKind.local≠NameKind.cell;decide
  ·exact nofun
  ·rw [hrk y hy];decide
 let E:=envX qual scope L' fa (.ref c') cl
 have kc: ∀ n:Str,scope.names.lookup n=some .cell→False:=λ n h=>by
  have hm:=mem_of_lookup h
  rw [hsn] at hm
  simp only [List.cons_append,List.mem_cons,List.mem_append,List.mem_map] at hm
  rcases hm with q | ⟨n',_,q⟩ | q
  ·cases q
  ·cases q
  ·have:=hrk _ q;cases this
 have hx':(callee x E L' g' pl).Ok g d:=by
  refine ⟨B',hx.kin.keeps st,hx.top.keeps st,?_,hx.hnd,rfl,rfl,hkd,rfl,hkd,rfl,rfl,nd,?_,?_,hx.mono,λ _=>rfl,λ n n' c h=>(kc _ h).elim,λ n h=>(kc _ h).elim,hf.com _ _ _ _ (λ p hp=>List.mem_append_left _ hp) hx.co,λ _ p _ n c h=>(kc _ h).elim⟩
  ·show x.A.frames.map (E :: ·)=_
   rw [hx.frames];rfl
  ·show x.A.depth+1+d < _
   have:=hx.dep;lia
  ·show x.A.units+3+16 * d+100 < _
   have:=hx.un;lia
 have inNeed: ∀ p∈x.need,g'.get? p.1=some p.2∨p∈pl:=λ p hp=>(S.ex p hp).imp (λ q=>FG.keep _ _ q) id
 have S':St g (callee x E L' g' pl) (some a :: avs.map some ++ List.replicate rk.length none) μ adr {s with heap:=h₁,toks:=s.toks+[(pn,w)].length}:=by
  refine ⟨cs,pl,_,⟨F',N',S.nd,S.ha,S.C,?_,S.gens,S.drawn,S.os,?_,S.fa,S.lk,λ n c h=>(kc _ h).elim,λ m₀ h=>by cases h⟩⟩
  ·intro i av ei
   cases i with
   | zero =>
    simp at ei
    subst ei
    refine ⟨pn, .local,w,by show scope.names[0]? =_;rw [hsn];rfl, .loc rfl (by simp),r⟩
   | succ i =>
    simp only [List.cons_append,List.getElem?_cons_succ] at ei
    have hlt:i < avs.length:=by
     rcases Nat.lt_or_ge i avs.length with h | h
     ·exact h
     ·rw [List.getElem?_append_right (by simpa using h),List.getElem?_replicate] at ei
      split at ei <;> simp at ei
    rw [List.getElem?_append_left (by simpa using hlt),List.getElem?_map,Option.map_eq_some_iff] at ei
    obtain ⟨a',ha',hae⟩:=ei
    cases hae
    have hin:i < ns.length:=by lia
    have hnm:ns[i]? =some ns[i]:=List.getElem?_eq_getElem hin
    obtain ⟨c,o,v,k1,k2,k3,k4⟩:=hcell i ns[i] av hnm ha'
    refine ⟨ns[i], .free,v,?_, .free k1 (inNeed _ k2) k3,k4 adr S.fa⟩
    show scope.names[i+1]? =_
    rw [hsn,List.cons_append,List.getElem?_cons_succ,List.getElem?_append_left (by simpa using hin),List.getElem?_map,hnm]
    rfl
  ·intro p hp
   rcases List.mem_append.mp hp with h | h
   ·exact inNeed p h
   ·exact .inr h
 have done: ∀ (fl:Flow) s' (v:Value) Γ'',v=(match fl with | .ret v=>v | _=> .none)→(∃ adr',adr <+: adr'∧VR x.fd adr' v b∧St g (callee x E L' g' pl) Γ'' μ' adr' s')→LeaveK x.h₀ x.L m g' (λ r s'=>match r with | .ok (.ret v)=>Aft g x Γ (VR x.fd) b μ' adr v s' | .ok _=>False | .error e=>nof e s') (match fl with | .ret v=>v | _=> .none) s':=by
  rintro fl s' v Γ'' rfl ⟨adr',p,hv,cs',pl',m',Z⟩
  have keep: ∀ q∈pl,q∈pl':=λ q hq=>by
   rcases Z.ex q (List.mem_append_right _ hq) with h | h
   ·have h1:=(N' q (List.mem_append_right _ hq)).2.2
    have h':g'.get? q.1=some q.2:=h
    rw [h1] at h';exact za h'
   ·exact h
  refine leaveK_ Z.F Z.N λ F₂ N₂=> ?_
  refine ⟨adr',p,⟨cs',pl',m,⟨F₂,N₂,Z.nd,Z.ha,Z.C,?_,Z.gens,Z.drawn,Z.os,?_,Z.fa,Z.lk,?_,S.km⟩⟩,hv⟩
  ·intro i av ei
   obtain ⟨n,kd,v,a1,a2,a3⟩:=S.V i av ei
   refine ⟨n,kd,v,a1,?_,a3.pre p⟩
   cases a2 with
   | loc b1 b2=>exact .loc b1 b2
   | cloc b1 b2 b3 b4=>exact .cloc (keep _ b1) b2 b3 b4
   | cell b1 b2 b3=>exact .cell b1 (b2.imp id (keep _)) b3
   | free b1 b2 b3=>exact .free b1 (b2.imp id (keep _)) b3
  ·exact λ q hq=>(S.ex q hq).imp id (keep q)
  ·intro n c hn hc
   obtain ⟨o,v₀,h1,h2⟩:=S.cl n c hn hc
   exact ⟨o,v₀,keep _ h1,h2⟩
 rcases jw e with ⟨u,e1,rfl⟩ | e1
 ·refine wpAny_mono (hb a (callee x E L' g' pl) hx' rfl rfl rfl μ adr _ S' _ _ e1) (λ fl s' z=> ?_) λ _ _ z=>z.elim
  obtain ⟨adr',p,rfl,Z⟩:=z
  exact done .next s' .none _ rfl ⟨adr',p, .none,Z⟩
 ·refine wpAny_mono (hb a (callee x E L' g' pl) hx' rfl rfl rfl μ adr _ S' _ _ e1) (λ fl s' z=> ?_) λ _ _ z=>z.elim
  obtain ⟨adr',p,vv,rfl,hv,Z⟩:=z
  exact done (.ret vv) s' vv _ rfl ⟨adr',p,hv,Z⟩
theorem Ze (hf:Facts g) {name qual nm:Str} {params:Arguments} {bd':List Stmt} {scope:Scope} {ns:List Str} {avs:List AV} (hco':g.co=Clo nm qual params bd' scope ns avs) {name:String} {o e:PySem.Expr} {ap pos:Pos} {mo m:M AV} {F:AV→AV→M AV} (hc: ∀ c:Cl,name∈c.fields→findIn g.K (.ref c.addr) (Str.ofString name)=some none)
  (hF: ∀ dd a μ r,F dd a μ=some r→dd= .dstr) (hD: ∀ (x:Cx) (Γ:Cx0),x.Ok g d→ ∀ v w a μ adr s,St g x Γ μ adr s→VR x.fd adr v .dstr→VR x.fd adr w a→Does g x Γ (VR x.fd) (call v [w]) (F .dstr a) μ adr s)
  (ho:RE g fr d sc Γ o mo) (h1:RE g fr d sc Γ e m) (he:zo o name ap pos [e]) (hst: ∀ env,starEach [e] env=[(false,eval e env)]) :
  RE g fr d sc Γ (.Call (.Attribute o (Str.ofString name) ap) [e] [] pos) (bd mo λ o=>bd (getA o name) λ dd=>bd m λ a=>F dd a):=by
 intro x hx hsc hfr μ adr s S b μ' e
 refine hideP λ PZ hZ=> ?_
 obtain ⟨ov,μ₁,e1,e2⟩:=bd_some e
 obtain ⟨dv,μ₂,e2,e3⟩:=bd_some e2
 obtain ⟨av,μ₃,e4,e5⟩:=bd_some e3
 have:=hF dv av μ₃ _ e5
 subst this
 obtain ⟨plc,hpl⟩:=he x.env
 refine hZ ?_
 refine MethodCall_ (pl:=plc) (wpAny_mono (ho x hx hsc hfr μ adr s S _ _ e1) (λ vo s₁ ⟨adr₁,p1,S1,r1⟩=> ?_) λ _ _ z=>z) hpl
 refine hideP λ PZ hZ=> ?_
 obtain ⟨i,c,fs,rfl,hi,hg,hμ⟩:=g9 e2
 subst hμ
 have S1':=S1
 obtain ⟨cs,pl,m',Z⟩:=S1'
 have r1':=r1
 obtain ⟨ad',dx,es',n,rfl,hc',q1,q2,q3⟩:=Z.atO r1 hi
 have hmem:name∈c.fields:=by obtain ⟨p,hp,q⟩:=qJ hg;exact q ▸ q2 p hp
 have I:InstAt s₁.heap ad' (instObj c.addr dx) c.addr (some (dictOf es' n)):=InstAt.of_news Z.N (ym hc' (.head _)) (ym hc' (.tail _ (.head _)))
 obtain ⟨k1,k2,_⟩:=hf.pg c name hmem
 refine hZ ?_
 refine method_usual (hx.kin.keeps Z.F.keep) I (plainGet_of k1).1 (plainGet_of k1).2 (hc c hmem) rfl ?_
 refine wpAny_mono (uG hf hx S1 r1' .dstr _ e2) (λ vd s₂ ⟨adr₂,p2,S2,r2⟩=> ?_) λ _ _ z=>z
 refine hideP λ PZ hZ=> ?_
 have hco:=hx.co
 rw [hco'] at hco
 obtain ⟨fa,doc,pm,c',ctv,oc,vs,qt,cl,hfd,hfn,hcn,hd1,hd2,hcell⟩:=hco
 have hff:vd= .ref fa:=by
  cases r2 with
  | dstr h=>rw [hfd] at h;obtain rfl:=Option.some.inj h;rfl
 subst hff
 refine hZ ?_
 rw [hst]
 refine callWith_of (P:=λ h=>FnAt fa h) rfl keeps_F (evalArgs_plain (spliced_cons (wpAny_mono (h1 x hx hsc hfr _ _ _ S2 _ _ e4) (λ va s₃ ⟨adr₃,p3,S3,r3⟩=>spliced_nil ?_) λ _ _ z=>z)))
 refine ⟨?_,?_⟩
 ·obtain ⟨cs3,pl3,m3,Z3⟩:=S3
  exact ⟨_,_,_,_,ve Z3 hfn⟩
 ·exact wpAny_mono (hD x Γ hx _ va av μ₃ adr₃ s₃ S3 (r2.pre p3) r3 b μ' e5) (λ v s₄ ⟨adr₄,p4,S4,r4⟩=>⟨adr₄,((p1.trans p2).trans p3).trans p4,S4,r4⟩) λ _ _ z=>z
/-! tuples unpacked -/
theorem X0 {μ:Mem} {adr:List Addr} {s:Shared} {v:Value} {i:Nat} {xs:List AV} (S:St g x Γ μ adr s) (r:VR x.fd adr v (.obj i)) (h:μ[i]? =some (.tup xs)): ∃ (ad:Addr) (vs:List Value),v= .ref ad∧IsTup s.heap ad vs.toArray∧F2 (VR x.fd adr) vs xs:=by
 obtain ⟨cs,pl,m,S⟩:=S
 obtain ⟨ad',vs,n,rfl,hc,q1,q2⟩:=S.atT r h
 exact ⟨_,vs,rfl,⟨_,S.at1 hc,rfl,n,rfl⟩,q1⟩
theorem X1 {μ:Mem} {adr:List Addr} {s:Shared} {h':Heap} (S:St g x Γ μ adr s) (he:Heap.ExtBut s.heap.objs.size s.heap h'):St g x Γ μ adr {s with heap:=h'}:=by
 obtain ⟨cs,pl,m,Z⟩:=S
 exact ⟨cs,pl,m,Z.grow (tk:=s.toks) λ b o e=>he b o (Nat.ne_of_lt (Heap.lt_size e)) e⟩
theorem Y1 {prog:Program} {w:World} {A:Around} {E:Value→Shared→Prop} {s:Shared} {t:Addr} {a b:Value} {Q:List Value→Shared→Prop} (hh:A.handled=none) (ht:IsTup s.heap t [a,b].toArray) (hQ: ∀ h',Heap.ExtBut s.heap.objs.size s.heap h'→Q [a,b] {s with heap:=h'}):wpAny (model prog w) A (unpackItems (.ref t) 2 none) Q E s:=by
 generalize hi:[a,b].toArray=items at ht
 have e:items.size=2:=by rw [← hi];rfl
 rw [← e]
 refine unpackItems_tuple hh ht λ h' he=> ?_
 rw [← hi]
 exact hQ h' he
theorem Ux {ρ:Type} {G:ρ→Cx0} {e1 e2:PySem.Expr} {n1 n2:Str} {i1 i2 k1 k2:Nat} {p1 p2 tp vp pos:Pos} {rest:List Stmt} {m1 m2:M AV} {k:AV→AV→M (Fl ρ)} (h1:RE g true d sc Γ e1 m1) (h2:RE g true d sc Γ e2 m2) (hn1:sc.names[i1]? =some (n1, .local)) (hn2:sc.names[i2]? =some (n2, .local))
  (hk: ∀ a b,RS g z d sc ((Γ.set i2 (some b)).set i1 (some a)) Γc G rest (k a b)) (hst: ∀ env,starEach [e1,e2] env=[(false,eval e1 env),(false,eval e2 env)]) (hst': ∀ env,starEach [e2] env=[(false,eval e2 env)])
  (hs: ∀ env,swapsWithSole [.Tuple [.Name n1 p1, .Name n2 p2] k1 tp] (.Tuple [e1,e2] k2 vp) pos.line env=pure false) (hw: ∀ env:Env,env.scope=sc→swappedStores [.Tuple [.Name n1 p1, .Name n2 p2] k1 tp] (.Tuple [e1,e2] k2 vp) env=pure (some [n1,n2])) :
  RS g z d sc Γ Γc G (.Assign [.Tuple [.Name n1 p1, .Name n2 p2] k1 tp] (.Tuple [e1,e2] k2 vp) pos :: rest) (bd m1 λ a=>bd m2 λ b=>bd (al (.tup [a,b])) λ _=>k a b):=λ x hx hsc hfr hz μ adr s S=>by
 have eq:(bd m1 λ a=>bd m2 λ b=>bd (al (.tup [a,b])) λ _=>k a b)=bd (bd m1 λ a=>bd m2 λ b=>bd (al (.tup [a,b])) λ _=>rt (a,b)) λ p=>k p.1 p.2:=by simp only [xu,Kv]
 rw [eq]
 refine DoesS.cons (Γ':=λ p=>(Γ.set i2 (some p.2)).set i1 (some p.1)) (λ p μ₄ e=> ?_) λ p μ₁ adr₁ s₁ S1=>hk p.1 p.2 x hx hsc hfr hz μ₁ adr₁ s₁ S1
 refine hideP λ PZ hZ=> ?_
 obtain ⟨a,μ₁,e1',e2'⟩:=bd_some e
 obtain ⟨b,μ₂,e3,e4⟩:=bd_some e2'
 obtain ⟨t,μ₃,e5,e6⟩:=bd_some e4
 obtain ⟨rfl,rfl⟩:=yz e5
 obtain ⟨rfl,rfl⟩:=some2 e6
 have hT:=ju (p:=vp) (k:=k2) (yV h1 (yV h2 wo (by intro env;rw [hst'];rfl)) (by intro env;rw [hst,hst'])) (show [m1,m2].length≤100 by simp) x hx hsc (λ _=>hfr) μ adr s S (.obj μ₂.length) (μ₂ ++ [.tup [a,b]]) (by
  show bd (evs [m1,m2]) (λ xs=>al (.tup xs)) μ=_
  rw [evs2]
  show bd m1 _ μ=_
  unfold bd
  rw [e1']
  show bd m2 _ μ₁=_
  unfold bd
  rw [e3]
  rfl)
 refine hZ ?_
 refine Assign_Tuple_swapped (wpAny_mono hT (λ v s₁ ⟨adr₁,p1',S1,r1⟩=> ?_) λ _ _ z=>z) (hs _) (hw _ hsc)
 obtain ⟨ad,vs,rfl,hI,q⟩:=X0 (xs:=[a,b]) S1 r1 (by simp)
 cases q with
 | cons qa q =>
 cases q with
 | cons qb q =>
 cases q
 have e2:[n1,n2].length=2:=rfl
 rw [e2]
 refine Y1 hx.hnd hI λ h' he=> ?_
 have S2:=X1 S1 he
 show wpAny _ _ (assignInOrder [bindName x.env n2,bindName x.env n1] [_,_]) _ _ _
 refine assignInOrder_cons (wpAny_bindName (wpAny_mono (xD hx hsc hfr hz (.inl hn2) S2 qb) (λ _ s₂ S3=> ?_) λ _ _ z=>z))
 refine assignInOrder_cons (wpAny_bindName (wpAny_mono (xD hx hsc hfr hz (.inl hn1) S3 qa) (λ _ s₃ S4=> ?_) λ _ _ z=>z))
 exact assignInOrder_nil ⟨rfl,adr₁,p1',S4⟩
noncomputable def sets:Cx0→List Nat→List AV→Cx0
 | Γ,i :: is,a :: as=>sets (Γ.set i (some a)) is as
 | Γ,_,_=>Γ
noncomputable def AllSt (z:Bool) (sc:Scope):List (Str × Pos × Nat)→Prop
 | []=>True
 | l :: r=>Stores z sc l.2.2 l.1∧AllSt z sc r
theorem asgs {x:Cx} (hx:x.Ok g d) (hsc:x.env.scope=sc) (hfr:x.env=x.fenv) (hz:x.fz=z) {μ:Mem} {adr:List Addr} {P:Unit→Shared→Prop}: ∀ {L:List (Str × Pos × Nat)} {vs:List Value} {as:List AV} {Γ:Cx0} {s:Shared},AllSt z sc L→L.length=as.length→St g x Γ μ adr s→F2 (VR x.fd adr) vs as→(∀ s',St g x (sets Γ (L.map (·.2.2)) as) μ adr s'→P () s') →
  wpAny (model g.prog g.w) x.A (assignInOrder (L.map λ l=>assign (.Name l.1 l.2.1) x.env) vs) P nof s:=by
 intro L
 induction L with
 | nil =>
  intro vs as Γ s _ e S q h
  cases as with
  | nil=>exact assignInOrder_nil (h s S)
  | cons=>cases e
 | cons l L ih =>
  intro vs as Γ s hl e S q h
  cases q with
  | nil=>cases e
  | cons q r =>
   rw [List.map_cons]
   refine assignInOrder_cons (wpAny_assign_Name (wpAny_mono (xD hx hsc hfr hz hl.1 S q) (λ _ s' S'=> ?_) λ _ _ z=>z))
   exact ih hl.2 (Nat.succ.inj e) S' r h
noncomputable def g6 (as:List AV):List AV:=[as.getD 0 .none,as.getD 1 .none,as.getD 2 .none,as.getD 3 .none,as.getD 4 .none,as.getD 5 .none]
theorem JH {n m:Nat} {P:Prop} (h:n=m) (hb:Nat.beq n m=false):P:=absurd (h ▸ hb:Nat.beq n n=false) (by simp)
theorem Kx {as:List AV} (h:as.length=6):g6 as=as:=by
 rcases as with _ | ⟨a,_ | ⟨b,_ | ⟨c,_ | ⟨d,_ | ⟨e,_ | ⟨f,_ | ⟨x,r⟩⟩⟩⟩⟩⟩⟩ <;> first | rfl | exact JH h rfl
theorem Uy {ρ:Type} {G:ρ→Cx0} {es:List PySem.Expr} {ms:List (M AV)} {n1 n2 n3 n4 n5 n6:Str} {i1 i2 i3 i4 i5 i6 k1 k2:Nat} {p1 p2 p3 p4 p5 p6 tp vp pos:Pos} {rest:List Stmt} {k:AV→AV→AV→AV→AV→AV→M (Fl ρ)} {m1 m2 m3 m4 m5 m6:M AV} (h:REs g true d sc Γ es [m1,m2,m3,m4,m5,m6])
  (hn1:Stores z sc i1 n1) (hn2:Stores z sc i2 n2) (hn3:Stores z sc i3 n3) (hn4:Stores z sc i4 n4) (hn5:Stores z sc i5 n5) (hn6:Stores z sc i6 n6)
  (hk: ∀ a b c e f h,RS g z d sc ((((((Γ.set i1 (some a)).set i2 (some b)).set i3 (some c)).set i4 (some e)).set i5 (some f)).set i6 (some h)) Γc G rest (k a b c e f h))
  (hs: ∀ env,swapsWithSole [.Tuple [.Name n1 p1, .Name n2 p2, .Name n3 p3, .Name n4 p4, .Name n5 p5, .Name n6 p6] k1 tp] (.Tuple es k2 vp) pos.line env=pure false) (hw: ∀ env:Env,swappedStores [.Tuple [.Name n1 p1, .Name n2 p2, .Name n3 p3, .Name n4 p4, .Name n5 p5, .Name n6 p6] k1 tp] (.Tuple es k2 vp) env=pure none) :
  RS g z d sc Γ Γc G (.Assign [.Tuple [.Name n1 p1, .Name n2 p2, .Name n3 p3, .Name n4 p4, .Name n5 p5, .Name n6 p6] k1 tp] (.Tuple es k2 vp) pos :: rest) (bd m1 λ a=>bd m2 λ b=>bd m3 λ c=>bd m4 λ e=>bd m5 λ f=>bd m6 λ h=>bd (al (.tup [a,b,c,e,f,h])) λ _=>k a b c e f h):=λ x hx hsc hfr hz μ adr s S=>by
 have eq:(bd m1 λ a=>bd m2 λ b=>bd m3 λ c=>bd m4 λ e=>bd m5 λ f=>bd m6 λ h=>bd (al (.tup [a,b,c,e,f,h])) λ _=>k a b c e f h)=bd (bd (evs [m1,m2,m3,m4,m5,m6]) λ as=>bd (al (.tup as)) λ _=>rt as) λ as=>k (as.getD 0 .none) (as.getD 1 .none) (as.getD 2 .none) (as.getD 3 .none) (as.getD 4 .none) (as.getD 5 .none):=by
  rw [xu,evs6];rfl
 rw [eq]
 refine DoesS.cons (Γ':=λ as=>sets Γ [i1,i2,i3,i4,i5,i6] (g6 as)) (λ as μ₄ e=> ?_) λ as μ₁ adr₁ s₁ S1=>hk _ _ _ _ _ _ x hx hsc hfr hz μ₁ adr₁ s₁ S1
 ·obtain ⟨as,μ₁,e1,e⟩:=bd_some e
  obtain ⟨t,μ₂,e2,e⟩:=bd_some e
  obtain ⟨rfl,rfl⟩:=yz e2
  obtain ⟨rfl,rfl⟩:=some2 e
  have hl:=qL e1
  have hT:=ju (p:=vp) (k:=k2) h (show [m1,m2,m3,m4,m5,m6].length≤100 by simp) x hx hsc (λ _=>hfr) μ adr s S (.obj μ₁.length) (μ₁ ++ [.tup as]) (by
   show bd (evs _) (λ xs=>al (.tup xs)) μ=_
   unfold bd
   rw [e1]
   rfl)
  refine Assign_Tuple (wpAny_mono hT (λ v s₁ ⟨adr₁,q1,S1,r1⟩=> ?_) λ _ _ z=>z) (hs _) (hw _)
  obtain ⟨ad,vs,rfl,hI,q⟩:=X0 (xs:=as) S1 r1 (by simp)
  exact assign_Tuple_tuple hx.hnd hI (by rw [List.size_toArray,q.len,hl];rfl) rfl λ h' he=>asgs (L:=[(n1,p1,i1),(n2,p2,i2),(n3,p3,i3),(n4,p4,i4),(n5,p5,i5),(n6,p6,i6)]) hx hsc hfr hz ⟨hn1,hn2,hn3,hn4,hn5,hn6,trivial⟩ hl.symm (X1 S1 he) q λ s' S'=>⟨rfl,adr₁,q1,by rw [Kx hl];exact S'⟩
end
noncomputable def Cls:List Cl:=[.scalar, .array, .hash, .code, .glob, .ref, .heap, .counter, .limits]
theorem memCls (c:Cl):c∈Cls:=by cases c <;> decide
noncomputable def pgB (K:Frag):Bool:=Cls.all λ c=>c.fields.all λ f=>plainGet K c.addr (Str.ofString f) && (hasDictIn K c.addr && (findIn K (.ref c.addr) (Str.ofString f) == some none))
noncomputable def psB (K:Frag):Bool:=Cls.all λ c=>c.fields.all λ f=>(findIn K (.ref c.addr) "__setattr__" == some (some (.builtin "object.__setattr__"))) && (plainOver K c.addr && (takerIn K c.addr (Str.ofString f) == some none))
noncomputable def kiB (K:Frag):Bool:=Cls.all λ c=>Cls.all λ e=>kitOne K (.ref c.addr) (.ref e.addr) == some (decide (c=e))
noncomputable def knB (K:Frag):Bool:=Cls.all λ e=>(kitOne K (.type "NoneType") (.ref e.addr) == some false) && (kitOne K (.type "int") (.ref e.addr) == some false)
noncomputable def kcB (K:Frag):Bool:=Cls.all λ c=>plainGet K c.addr "__class__" && ((findIn K (.ref c.addr) "__class__" == some (some (.builtin "object.__class__"))) && ((mroIn K c.addr (.type "object") == some true) && hasDictIn K c.addr))
theorem Ky (P:Params):pgB (KK P)=true:=by kernel_rfl
theorem Kz (P:Params):psB (KK P)=true:=by kernel_rfl
theorem KA (P:Params):kiB (KK P)=true:=by kernel_rfl
theorem Vt (P:Params):knB (KK P)=true:=by kernel_rfl
theorem Vu (P:Params):kcB (KK P)=true:=by kernel_rfl
theorem jz (g:Gd) (hK:g.K=KK g.w.params) (com: ∀ n n' f fd,(∀ p∈n,p∈n')→g.co n f fd→g.co n' f fd):Facts g where
 com:=com
 pg:=λ c f hf=>by
  have h:=List.all_eq_true.mp (List.all_eq_true.mp (hK ▸ Ky g.w.params:pgB g.K=true) c (memCls c)) f hf
  simp only [Bool.and_eq_true,beq_iff_eq] at h
  exact ⟨h.1,h.2.1,none,h.2.2,rfl⟩
 ps:=λ c f hf=>by
  have h:=List.all_eq_true.mp (List.all_eq_true.mp (hK ▸ Kz g.w.params:psB g.K=true) c (memCls c)) f hf
  simp only [Bool.and_eq_true,beq_iff_eq] at h
  exact ⟨h.1,h.2.1,h.2.2⟩
 ki:=λ c e=>by
  have h:=List.all_eq_true.mp (List.all_eq_true.mp (hK ▸ KA g.w.params:kiB g.K=true) c (memCls c)) e (memCls e)
  exact beq_iff_eq.mp h
 kn:=λ e=>by
  have h:=List.all_eq_true.mp (hK ▸ Vt g.w.params:knB g.K=true) e (memCls e)
  simp only [Bool.and_eq_true,beq_iff_eq] at h
  exact h.1
 kj:=λ e=>by
  have h:=List.all_eq_true.mp (hK ▸ Vt g.w.params:knB g.K=true) e (memCls e)
  simp only [Bool.and_eq_true,beq_iff_eq] at h
  exact h.2
 tn:=by rw [hK];kernel_rfl
 tj:=by rw [hK];kernel_rfl
 tl:=by rw [hK];kernel_rfl
 tt:=by rw [hK];kernel_rfl
 kc:=λ c=>by
  have h:=List.all_eq_true.mp (hK ▸ Vu g.w.params:kcB g.K=true) c (memCls c)
  simp only [Bool.and_eq_true,beq_iff_eq] at h
  exact ⟨h.1,h.2.1,h.2.2.1⟩
 kd:=λ c=>by
  have h:=List.all_eq_true.mp (hK ▸ Vu g.w.params:kcB g.K=true) c (memCls c)
  simp only [Bool.and_eq_true,beq_iff_eq] at h
  exact h.2.2.2
 kg:=by rw [hK];kernel_rfl
 kk:=by rw [hK];kernel_rfl
section
variable {g:Gd} {x:Cx} {d:Nat} {sc:Scope} {z fr:Bool} {Γc Γ' Γ:Cx0}
noncomputable def TakesAt (sc csc:Scope) (Γ:Cx0) (k:Nat) (Γ0:Cx0):Prop:= ∀ (j:Nat) (av:AV),Γ0[j]? =some (some av)→ ∃ (n:Str) (i':Nat),csc.names[k+j]? =some (n,NameKind.free)∧sc.names[i']? =some (n,NameKind.cell)∧Γ[i']? =some (some av)
theorem TakesAt.nil {csc:Scope} {k:Nat}:TakesAt sc csc Γ k []:=λ j av e=>by simp at e
theorem TakesAt.none {csc:Scope} {k:Nat} {r:Cx0} (h:TakesAt sc csc Γ (k+1) r):TakesAt sc csc Γ k (Option.none :: r):=λ j av e=>by
 cases j with
 | zero=>simp at e
 | succ j=>have:=h j av (by simpa using e);rwa [show k+(j+1)=k+1+j by lia]
theorem TakesAt.some {csc:Scope} {k i':Nat} {n:Str} {a:AV} {r:Cx0} (h1:csc.names[k]? =Option.some (n, .free)) (h2:sc.names[i']? =Option.some (n, .cell)) (h3:Γ[i']? =Option.some (Option.some a)) (h:TakesAt sc csc Γ (k+1) r):TakesAt sc csc Γ k (Option.some a :: r):=λ j av e=>by
 cases j with
 | zero=>simp at e;subst e;exact ⟨n,i',h1,h2,h3⟩
 | succ j=>have:=h j av (by simpa using e);rwa [show k+(j+1)=k+1+j by lia]
theorem TakesAt.takes {csc:Scope} {r:Cx0} (h:TakesAt sc csc Γ 2 r):Takes sc csc Γ (Option.none :: Option.none :: r):=λ j av e=>by
 match j with
 | 0=>simp at e
 | 1=>simp at e
 | j+2=>have:=h j av (by simpa using e);rwa [show j+2=2+j by lia]
inductive CT (g:Gd) (d:Nat) (sc':Scope) (Gv:AV→Cx0):List PySem.Expr→(AV→M Bool)→Prop
 | nil:CT g d sc' Gv [] (λ _=>rt true)
 | one {c:PySem.Expr} {t:AV→M Bool}:(∀ w,RC g false d sc' (Gv w) c (t w))→CT g d sc' Gv [c] t
theorem CT.tests {sc':Scope} {Gv:AV→Cx0} {r:Cx0} {ifs:List PySem.Expr} {t:AV→M Bool} (hG: ∀ w,Gv w=Option.none :: Option.some w :: r) (h:CT g d sc' Gv ifs t):CTests g d sc' (Option.none :: Option.none :: r) 1 ifs t:=by
 cases h with
 | nil=>exact .nil
 | one h=>exact .one λ w=>by have:=h w;rw [hG] at this;exact this
theorem Vf (hf:Facts g) {csc:Scope} {v:Str} {px pos:Pos} {iter elt:PySem.Expr} {ifs:List PySem.Expr} {src:M AV} {test:AV→M Bool} {eltM:AV→M AV} {Gv:AV→Cx0} {r:Cx0} {names':List (Str × NameKind)} (hrel:csc.names.map (relabK sc)=names') (hc:CScope sc csc v 1) (hG: ∀ w,Gv w=Option.none :: Option.some w :: r) (hT:TakesAt sc csc Γ 2 r)
  (hs:RE g true d sc Γ iter src) (ht:CT g d {csc with names:=names'} Gv ifs test) (he: ∀ w,RE g false d {csc with names:=names'} (Gv w) elt (eltM w)) (hfs: ∀ env x,foldedSetIterable iter env x=pure x) :
  RE g true d sc Γ (.ListComp elt [⟨.Name v px,iter,ifs,0⟩] csc pos) (bd src λ a=>comp Gv a test eltM):=by
 subst hrel
 exact Uw hf (Option.none :: Option.none :: r) hs hc hT.takes (by intro av e;cases e) (ht.tests hG) (λ w=>by have:=he w;rw [hG] at this;exact this) hfs
theorem X2 (hf:Facts g) {ρ:Type} {G:ρ→Cx0} {csc:Scope} {v n:Str} {j:Nat} {px q p pos:Pos} {iter elt:PySem.Expr} {ifs:List PySem.Expr} {src:M AV} {test:AV→M Bool} {eltM:AV→M AV} {Gv:AV→Cx0} {r:Cx0} {names':List (Str × NameKind)} {rest:List Stmt} {k:AV→M (Fl ρ)} (hrel:csc.names.map (relabK sc)=names') (hc:CScope sc csc v 1) (hG: ∀ w,Gv w=Option.none :: Option.some w :: r) (hT:TakesAt sc csc Γ 2 r)
  (hn:sc.names[j]? =some (n, .local)) (hs:RE g true d sc Γ iter src) (ht:CT g d {csc with names:=names'} Gv ifs test) (he: ∀ w,RE g false d {csc with names:=names'} (Gv w) elt (eltM w)) (hk: ∀ w,RS g z d sc (Γ.set j (some w)) Γc G rest (k w))
  (hsw: ∀ env:Env,env.scope=sc→swapsWith (.ListComp elt [⟨.Name v px,iter,ifs,0⟩] csc pos) (some (.Name n q)) p.line env=pure true) (hfs: ∀ env x,foldedSetIterable iter env x=pure x) :
  RS g z d sc Γ Γc G (.Assign [.Name n q] (.ListComp elt [⟨.Name v px,iter,ifs,0⟩] csc pos) p :: rest) (bd (bd src λ a=>comp Gv a test eltM) k):=by
 subst hrel
 exact Vd hf (Option.none :: Option.none :: r) hs hc hT.takes (by intro av e;cases e) (ht.tests hG) (λ w=>by have:=he w;rw [hG] at this;exact this) hn hk hsw hfs
end
end Mine
end
noncomputable section
open PySem PySem.W PySem.Calls PyProof.Rows
namespace Mine
variable {g:Gd}
theorem NB (hK:g.K=KK g.w.params) {sc:Scope} (n:Str) (fv:Value) (e: ∀ P,nsIn (KK P) mainGlobals n=some none) (hv:bootBuiltins n=some fv) (hn:n≠"__name__") (hd:(n == ("__debug__" :Str))=false) (hk:sc.names.lookup n=some .globalImplicit):NameIs g sc n fv:= .built (by rw [hK];exact e _) hk hv hn hd
theorem zK (hK:g.K=KK g.w.params) {sc:Scope} (hk:sc.names.lookup (Str.ofString "isinstance")=some .globalImplicit):NameIs g sc (Str.ofString "isinstance") (.builtin "isinstance"):=NB hK _ _ (λ P=>by kernel_rfl) (by boot_fast) (by decide) (by decide) hk
theorem Uz (hK:g.K=KK g.w.params) {sc:Scope} (hk:sc.names.lookup (Str.ofString "tuple")=some .globalImplicit):NameIs g sc (Str.ofString "tuple") (.type "tuple"):=NB hK _ _ (λ P=>by kernel_rfl) (by boot_fast) (by decide) (by decide) hk
theorem KB (hK:g.K=KK g.w.params) {sc:Scope} (hk:sc.names.lookup (Str.ofString "len")=some .globalImplicit):NameIs g sc (Str.ofString "len") (.builtin "len"):=NB hK _ _ (λ P=>by kernel_rfl) (by boot_fast) (by decide) (by decide) hk
theorem bk (hK:g.K=KK g.w.params) {sc:Scope} (hk:sc.names.lookup (Str.ofString "sorted")=some .globalImplicit):NameIs g sc (Str.ofString "sorted") (.builtin "sorted"):=NB hK _ _ (λ P=>by kernel_rfl) (by boot_fast) (by decide) (by decide) hk
theorem UA (hK:g.K=KK g.w.params) {sc:Scope} (hk:sc.names.lookup (Str.ofString "range")=some .globalImplicit):NameIs g sc (Str.ofString "range") (.type "range"):=NB hK _ _ (λ P=>by kernel_rfl) (by boot_fast) (by decide) (by decide) hk
theorem KC (hK:g.K=KK g.w.params) {sc:Scope} (hk:sc.names.lookup (Str.ofString "abs")=some .globalImplicit):NameIs g sc (Str.ofString "abs") (.builtin "abs"):=NB hK _ _ (λ P=>by kernel_rfl) (by boot_fast) (by decide) (by decide) hk
theorem KD (hK:g.K=KK g.w.params) {sc:Scope} (hk:sc.names.lookup (Str.ofString "sum")=some .globalImplicit):NameIs g sc (Str.ofString "sum") (.builtin "sum"):=NB hK _ _ (λ P=>by kernel_rfl) (by boot_fast) (by decide) (by decide) hk
theorem KF (hK:g.K=KK g.w.params) {sc:Scope} (hk:sc.names.lookup (Str.ofString "str")=some .globalImplicit):NameIs g sc (Str.ofString "str") (.type "str"):=NB hK _ _ (λ P=>by kernel_rfl) (by boot_fast) (by decide) (by decide) hk
theorem UB (hK:g.K=KK g.w.params) {sc:Scope} (hk:sc.names.lookup (Str.ofString "Thing")=some .globalImplicit):NameIs g sc (Str.ofString "Thing") (.ref 38):= .glob (by rw [hK];kernel_rfl) hk (by decide)
theorem bm (hK:g.K=KK g.w.params) {sc:Scope} (hk:sc.names.lookup (Str.ofString "Scalar")=some .globalImplicit):NameIs g sc (Str.ofString "Scalar") (.ref 59):= .glob (by rw [hK];kernel_rfl) hk (by decide)
theorem Ye (hK:g.K=KK g.w.params) {sc:Scope} (hk:sc.names.lookup (Str.ofString "Array")=some .globalImplicit):NameIs g sc (Str.ofString "Array") (.ref 78):= .glob (by rw [hK];kernel_rfl) hk (by decide)
theorem X3 (hK:g.K=KK g.w.params) {sc:Scope} (hk:sc.names.lookup (Str.ofString "Hash")=some .globalImplicit):NameIs g sc (Str.ofString "Hash") (.ref 97):= .glob (by rw [hK];kernel_rfl) hk (by decide)
theorem JI (hK:g.K=KK g.w.params) {sc:Scope} (hk:sc.names.lookup (Str.ofString "Code")=some .globalImplicit):NameIs g sc (Str.ofString "Code") (.ref 116):= .glob (by rw [hK];kernel_rfl) hk (by decide)
theorem JJ (hK:g.K=KK g.w.params) {sc:Scope} (hk:sc.names.lookup (Str.ofString "Glob")=some .globalImplicit):NameIs g sc (Str.ofString "Glob") (.ref 135):= .glob (by rw [hK];kernel_rfl) hk (by decide)
theorem Y2 (hK:g.K=KK g.w.params) {sc:Scope} (hk:sc.names.lookup (Str.ofString "Ref")=some .globalImplicit):NameIs g sc (Str.ofString "Ref") (.ref 155):= .glob (by rw [hK];kernel_rfl) hk (by decide)
theorem X4 (hK:g.K=KK g.w.params) {sc:Scope} (hk:sc.names.lookup (Str.ofString "Heap")=some .globalImplicit):NameIs g sc (Str.ofString "Heap") (.ref 218):= .glob (by rw [hK];kernel_rfl) hk (by decide)
theorem hU (hK:g.K=KK g.w.params) {sc:Scope} (hk:sc.names.lookup (Str.ofString "Counter")=some .globalImplicit):NameIs g sc (Str.ofString "Counter") (.ref 331):= .glob (by rw [hK];kernel_rfl) hk (by decide)
theorem bn (hK:g.K=KK g.w.params) {sc:Scope} (hk:sc.names.lookup (Str.ofString "Limits")=some .globalImplicit):NameIs g sc (Str.ofString "Limits") (.ref 367):= .glob (by rw [hK];kernel_rfl) hk (by decide)
theorem X5 (hK:g.K=KK g.w.params) {sc:Scope} (hk:sc.names.lookup (Str.ofString "held_by")=some .globalImplicit):NameIs g sc (Str.ofString "held_by") (.ref 227):= .glob (by rw [hK];kernel_rfl) hk (by decide)
theorem Zf (hK:g.K=KK g.w.params) {sc:Scope} (hk:sc.names.lookup (Str.ofString "empty_out")=some .globalImplicit):NameIs g sc (Str.ofString "empty_out") (.ref 234):= .glob (by rw [hK];kernel_rfl) hk (by decide)
theorem Y3 (hK:g.K=KK g.w.params) {sc:Scope} (hk:sc.names.lookup (Str.ofString "in_order")=some .globalImplicit):NameIs g sc (Str.ofString "in_order") (.ref 239):= .glob (by rw [hK];kernel_rfl) hk (by decide)
theorem qm (hK:g.K=KK g.w.params) {sc:Scope} (hk:sc.names.lookup (Str.ofString "weaken_scalar")=some .globalImplicit):NameIs g sc (Str.ofString "weaken_scalar") (.ref 342):= .glob (by rw [hK];kernel_rfl) hk (by decide)
theorem gj (hK:g.K=KK g.w.params) {sc:Scope} (hk:sc.names.lookup (Str.ofString "bless_thing")=some .globalImplicit):NameIs g sc (Str.ofString "bless_thing") (.ref 349):= .glob (by rw [hK];kernel_rfl) hk (by decide)
theorem gm (hK:g.K=KK g.w.params) {sc:Scope} (hk:sc.names.lookup (Str.ofString "_law_degrees")=some .globalImplicit):NameIs g sc (Str.ofString "_law_degrees") (.ref 376):= .glob (by rw [hK];kernel_rfl) hk (by decide)
theorem gq (hK:g.K=KK g.w.params) {sc:Scope} (hk:sc.names.lookup (Str.ofString "_law_settled")=some .globalImplicit):NameIs g sc (Str.ofString "_law_settled") (.ref 381):= .glob (by rw [hK];kernel_rfl) hk (by decide)
theorem Zg (hK:g.K=KK g.w.params) {sc:Scope} (hk:sc.names.lookup (Str.ofString "_law_value")=some .globalImplicit):NameIs g sc (Str.ofString "_law_value") (.ref 388):= .glob (by rw [hK];kernel_rfl) hk (by decide)
theorem Y4 (hK:g.K=KK g.w.params) {sc:Scope} (hk:sc.names.lookup (Str.ofString "_law_same")=some .globalImplicit):NameIs g sc (Str.ofString "_law_same") (.ref 393):= .glob (by rw [hK];kernel_rfl) hk (by decide)
theorem Zh (hK:g.K=KK g.w.params) {sc:Scope} (hk:sc.names.lookup (Str.ofString "_law_place")=some .globalImplicit):NameIs g sc (Str.ofString "_law_place") (.ref 400):= .glob (by rw [hK];kernel_rfl) hk (by decide)
theorem bo (hK:g.K=KK g.w.params) {sc:Scope} (hk:sc.names.lookup (Str.ofString "_law_strong")=some .globalImplicit):NameIs g sc (Str.ofString "_law_strong") (.ref 407):= .glob (by rw [hK];kernel_rfl) hk (by decide)
theorem X6 (hK:g.K=KK g.w.params) {sc:Scope} (hk:sc.names.lookup (Str.ofString "_law_new")=some .globalImplicit):NameIs g sc (Str.ofString "_law_new") (.ref 414):= .glob (by rw [hK];kernel_rfl) hk (by decide)
theorem X7 (hK:g.K=KK g.w.params) {sc:Scope} (hk:sc.names.lookup (Str.ofString "_law_put")=some .globalImplicit):NameIs g sc (Str.ofString "_law_put") (.ref 419):= .glob (by rw [hK];kernel_rfl) hk (by decide)
theorem Zi (hK:g.K=KK g.w.params) {sc:Scope} (hk:sc.names.lookup (Str.ofString "_law_taken")=some .globalImplicit):NameIs g sc (Str.ofString "_law_taken") (.ref 426):= .glob (by rw [hK];kernel_rfl) hk (by decide)
theorem Y5 (hK:g.K=KK g.w.params) {sc:Scope} (hk:sc.names.lookup (Str.ofString "_law_deed")=some .globalImplicit):NameIs g sc (Str.ofString "_law_deed") (.ref 433):= .glob (by rw [hK];kernel_rfl) hk (by decide)
theorem Vg (hf:Facts g) (hK:g.K=KK g.w.params) {fr:Bool} {d:Nat} {sc:Scope} {Γ:Cx0} {e:PySem.Expr} {m:M AV} {p cp pos:Pos} (hk:sc.names.lookup (Str.ofString "isinstance")=some .globalImplicit) (hk2:sc.names.lookup (Str.ofString "Scalar")=some .globalImplicit) (he: ∀ env,starEach [e, .Name (Str.ofString "Scalar") cp] env=[(false,eval e env),(false,eval (.Name (Str.ofString "Scalar") cp) env)]) (h:RE g fr d sc Γ e m):RE g fr d sc Γ (.Call (.Name (Str.ofString "isinstance") p) [e, .Name (Str.ofString "Scalar") cp] [] pos) (bd m λ a=>isI .scalar a):=yg (zK hK hk) (bm hK hk2) (wf hf .scalar) h he
theorem UC (hf:Facts g) (hK:g.K=KK g.w.params) {fr:Bool} {d:Nat} {sc:Scope} {Γ:Cx0} {e:PySem.Expr} {m:M AV} {p cp pos:Pos} (hk:sc.names.lookup (Str.ofString "isinstance")=some .globalImplicit) (hk2:sc.names.lookup (Str.ofString "Array")=some .globalImplicit) (he: ∀ env,starEach [e, .Name (Str.ofString "Array") cp] env=[(false,eval e env),(false,eval (.Name (Str.ofString "Array") cp) env)]) (h:RE g fr d sc Γ e m):RE g fr d sc Γ (.Call (.Name (Str.ofString "isinstance") p) [e, .Name (Str.ofString "Array") cp] [] pos) (bd m λ a=>isI .array a):=yg (zK hK hk) (Ye hK hk2) (wf hf .array) h he
theorem JK (hf:Facts g) (hK:g.K=KK g.w.params) {fr:Bool} {d:Nat} {sc:Scope} {Γ:Cx0} {e:PySem.Expr} {m:M AV} {p cp pos:Pos} (hk:sc.names.lookup (Str.ofString "isinstance")=some .globalImplicit) (hk2:sc.names.lookup (Str.ofString "Hash")=some .globalImplicit) (he: ∀ env,starEach [e, .Name (Str.ofString "Hash") cp] env=[(false,eval e env),(false,eval (.Name (Str.ofString "Hash") cp) env)]) (h:RE g fr d sc Γ e m):RE g fr d sc Γ (.Call (.Name (Str.ofString "isinstance") p) [e, .Name (Str.ofString "Hash") cp] [] pos) (bd m λ a=>isI .hash a):=yg (zK hK hk) (X3 hK hk2) (wf hf .hash) h he
theorem JL (hf:Facts g) (hK:g.K=KK g.w.params) {fr:Bool} {d:Nat} {sc:Scope} {Γ:Cx0} {e:PySem.Expr} {m:M AV} {p cp pos:Pos} (hk:sc.names.lookup (Str.ofString "isinstance")=some .globalImplicit) (hk2:sc.names.lookup (Str.ofString "Code")=some .globalImplicit) (he: ∀ env,starEach [e, .Name (Str.ofString "Code") cp] env=[(false,eval e env),(false,eval (.Name (Str.ofString "Code") cp) env)]) (h:RE g fr d sc Γ e m):RE g fr d sc Γ (.Call (.Name (Str.ofString "isinstance") p) [e, .Name (Str.ofString "Code") cp] [] pos) (bd m λ a=>isI .code a):=yg (zK hK hk) (JI hK hk2) (wf hf .code) h he
theorem JM (hf:Facts g) (hK:g.K=KK g.w.params) {fr:Bool} {d:Nat} {sc:Scope} {Γ:Cx0} {e:PySem.Expr} {m:M AV} {p cp pos:Pos} (hk:sc.names.lookup (Str.ofString "isinstance")=some .globalImplicit) (hk2:sc.names.lookup (Str.ofString "Glob")=some .globalImplicit) (he: ∀ env,starEach [e, .Name (Str.ofString "Glob") cp] env=[(false,eval e env),(false,eval (.Name (Str.ofString "Glob") cp) env)]) (h:RE g fr d sc Γ e m):RE g fr d sc Γ (.Call (.Name (Str.ofString "isinstance") p) [e, .Name (Str.ofString "Glob") cp] [] pos) (bd m λ a=>isI .glob a):=yg (zK hK hk) (JJ hK hk2) (wf hf .glob) h he
theorem KG (hf:Facts g) (hK:g.K=KK g.w.params) {fr:Bool} {d:Nat} {sc:Scope} {Γ:Cx0} {e:PySem.Expr} {m:M AV} {p cp pos:Pos} (hk:sc.names.lookup (Str.ofString "isinstance")=some .globalImplicit) (hk2:sc.names.lookup (Str.ofString "Ref")=some .globalImplicit) (he: ∀ env,starEach [e, .Name (Str.ofString "Ref") cp] env=[(false,eval e env),(false,eval (.Name (Str.ofString "Ref") cp) env)]) (h:RE g fr d sc Γ e m):RE g fr d sc Γ (.Call (.Name (Str.ofString "isinstance") p) [e, .Name (Str.ofString "Ref") cp] [] pos) (bd m λ a=>isI .ref a):=yg (zK hK hk) (Y2 hK hk2) (wf hf .ref) h he
theorem JN (hf:Facts g) (hK:g.K=KK g.w.params) {fr:Bool} {d:Nat} {sc:Scope} {Γ:Cx0} {e:PySem.Expr} {m:M AV} {p cp pos:Pos} (hk:sc.names.lookup (Str.ofString "isinstance")=some .globalImplicit) (hk2:sc.names.lookup (Str.ofString "Heap")=some .globalImplicit) (he: ∀ env,starEach [e, .Name (Str.ofString "Heap") cp] env=[(false,eval e env),(false,eval (.Name (Str.ofString "Heap") cp) env)]) (h:RE g fr d sc Γ e m):RE g fr d sc Γ (.Call (.Name (Str.ofString "isinstance") p) [e, .Name (Str.ofString "Heap") cp] [] pos) (bd m λ a=>isI .heap a):=yg (zK hK hk) (X4 hK hk2) (wf hf .heap) h he
theorem X8 (hf:Facts g) (hK:g.K=KK g.w.params) {fr:Bool} {d:Nat} {sc:Scope} {Γ:Cx0} {e:PySem.Expr} {m:M AV} {p cp pos:Pos} (hk:sc.names.lookup (Str.ofString "isinstance")=some .globalImplicit) (hk2:sc.names.lookup (Str.ofString "Counter")=some .globalImplicit) (he: ∀ env,starEach [e, .Name (Str.ofString "Counter") cp] env=[(false,eval e env),(false,eval (.Name (Str.ofString "Counter") cp) env)]) (h:RE g fr d sc Γ e m):RE g fr d sc Γ (.Call (.Name (Str.ofString "isinstance") p) [e, .Name (Str.ofString "Counter") cp] [] pos) (bd m λ a=>isI .counter a):=yg (zK hK hk) (hU hK hk2) (wf hf .counter) h he
theorem Vh (hf:Facts g) (hK:g.K=KK g.w.params) {fr:Bool} {d:Nat} {sc:Scope} {Γ:Cx0} {e:PySem.Expr} {m:M AV} {p cp pos:Pos} (hk:sc.names.lookup (Str.ofString "isinstance")=some .globalImplicit) (hk2:sc.names.lookup (Str.ofString "Limits")=some .globalImplicit) (he: ∀ env,starEach [e, .Name (Str.ofString "Limits") cp] env=[(false,eval e env),(false,eval (.Name (Str.ofString "Limits") cp) env)]) (h:RE g fr d sc Γ e m):RE g fr d sc Γ (.Call (.Name (Str.ofString "isinstance") p) [e, .Name (Str.ofString "Limits") cp] [] pos) (bd m λ a=>isI .limits a):=yg (zK hK hk) (bn hK hk2) (wf hf .limits) h he
theorem UD (hf:Facts g) (hK:g.K=KK g.w.params) {fr:Bool} {d:Nat} {sc:Scope} {Γ:Cx0} {e:PySem.Expr} {m:M AV} {p cp pos:Pos} (hk:sc.names.lookup (Str.ofString "isinstance")=some .globalImplicit) (hk2:sc.names.lookup (Str.ofString "tuple")=some .globalImplicit) (he: ∀ env,starEach [e, .Name (Str.ofString "tuple") cp] env=[(false,eval e env),(false,eval (.Name (Str.ofString "tuple") cp) env)]) (h:RE g fr d sc Γ e m):RE g fr d sc Γ (.Call (.Name (Str.ofString "isinstance") p) [e, .Name (Str.ofString "tuple") cp] [] pos) (bd m λ a=>isT a):=yg (zK hK hk) (Uz hK hk2) (Ju hf) h he
theorem JO (hK:g.K=KK g.w.params) {fr:Bool} {d:Nat} {sc:Scope} {Γ:Cx0} {e:PySem.Expr} {m:M AV} {p pos:Pos} (hk:sc.names.lookup (Str.ofString "len")=some .globalImplicit) (he: ∀ env,starEach [e] env=[(false,eval e env)]) (h:RE g fr d sc Γ e m):RE g fr d sc Γ (.Call (.Name (Str.ofString "len") p) [e] [] pos) (bd m λ a=>lenM a):=uV (KB hK hk) Kp.builtin Jv h he
theorem JP (hK:g.K=KK g.w.params) {fr:Bool} {d:Nat} {sc:Scope} {Γ:Cx0} {e:PySem.Expr} {m:M AV} {p pos:Pos} (hk:sc.names.lookup (Str.ofString "abs")=some .globalImplicit) (he: ∀ env,starEach [e] env=[(false,eval e env)]) (h:RE g fr d sc Γ e m):RE g fr d sc Γ (.Call (.Name (Str.ofString "abs") p) [e] [] pos) (bd m λ a=>absM a):=uV (KC hK hk) Kp.builtin Jw h he
theorem JQ (hK:g.K=KK g.w.params) {fr:Bool} {d:Nat} {sc:Scope} {Γ:Cx0} {e:PySem.Expr} {m:M AV} {p pos:Pos} (hk:sc.names.lookup (Str.ofString "str")=some .globalImplicit) (he: ∀ env,starEach [e] env=[(false,eval e env)]) (h:RE g fr d sc Γ e m):RE g fr d sc Γ (.Call (.Name (Str.ofString "str") p) [e] [] pos) (bd m λ a=>strM a):=uV (KF hK hk) Kp.type Jx h he
theorem JR (hK:g.K=KK g.w.params) {fr:Bool} {d:Nat} {sc:Scope} {Γ:Cx0} {e:PySem.Expr} {m:M AV} {p pos:Pos} (hk:sc.names.lookup (Str.ofString "sum")=some .globalImplicit) (he: ∀ env,starEach [e] env=[(false,eval e env)]) (h:RE g fr d sc Γ e m):RE g fr d sc Γ (.Call (.Name (Str.ofString "sum") p) [e] [] pos) (bd m λ a=>sumM a):=uV (KD hK hk) Kp.builtin Jy h he
theorem X9 (hK:g.K=KK g.w.params) {fr:Bool} {d:Nat} {sc:Scope} {Γ:Cx0} {e:PySem.Expr} {m:M AV} {p pos:Pos} (hk:sc.names.lookup (Str.ofString "sorted")=some .globalImplicit) (he: ∀ env,starEach [e] env=[(false,eval e env)]) (h:RE g fr d sc Γ e m):RE g fr d sc Γ (.Call (.Name (Str.ofString "sorted") p) [e] [] pos) (bd m λ a=>vF a):=uV (bk hK hk) Kp.builtin YT h he
theorem Wa (hK:g.K=KK g.w.params) {fr:Bool} {d:Nat} {sc:Scope} {Γ:Cx0} {e:PySem.Expr} {m:M AV} {p pos:Pos} (hk:sc.names.lookup (Str.ofString "sorted")=some .globalImplicit) (he: ∀ env,starEach [e] env=[(false,eval e env)]) (h:RE g fr d sc Γ e m):RE g fr d sc Γ (.Call (.Name (Str.ofString "sorted") p) [e] [] pos) (bd m λ a=>uL a):=uV (bk hK hk) Kp.builtin YU h he
theorem UE {fr:Bool} {d:Nat} {sc:Scope} {Γ:Cx0} {o e:PySem.Expr} {ap pos:Pos} {mo m:M AV} (ho:RE g fr d sc Γ o mo) (h1:RE g fr d sc Γ e m) (he:zo o "get" ap pos [e]) (hst: ∀ env,starEach [e] env=[(false,eval e env)]):RE g fr d sc Γ (.Call (.Attribute o (Str.ofString "get") ap) [e] [] pos) (bd mo λ a=>bd (chkD a) λ _=>bd m λ b=>dget1 a b):=k8 (name:="get") (mop:=dget1) PySem.F.slot_dict_get PySem.F.type_dict_get (λ x d Γ hx va vb a b μ adr s S r1 r2=>YO hx S r1 r2) ho h1 he hst
theorem UF {fr:Bool} {d:Nat} {sc:Scope} {Γ:Cx0} {o e:PySem.Expr} {ap pos:Pos} {mo m:M AV} (ho:RE g fr d sc Γ o mo) (h1:RE g fr d sc Γ e m) (he:zo o "pop" ap pos [e]) (hst: ∀ env,starEach [e] env=[(false,eval e env)]):RE g fr d sc Γ (.Call (.Attribute o (Str.ofString "pop") ap) [e] [] pos) (bd mo λ a=>bd (chkD a) λ _=>bd m λ b=>dpop1 a b):=k8 (name:="pop") (mop:=dpop1) PySem.F.slot_dict_pop PySem.F.type_dict_pop (λ x d Γ hx va vb a b μ adr s S r1 r2=>YQ hx S r1 r2) ho h1 he hst
theorem UG {fr:Bool} {d:Nat} {sc:Scope} {Γ:Cx0} {o e f:PySem.Expr} {ap pos:Pos} {mo m n:M AV} (ho:RE g fr d sc Γ o mo) (h1:RE g fr d sc Γ e m) (h2:RE g fr d sc Γ f n) (he:zo o "get" ap pos [e,f]) (hst: ∀ env,starEach [e,f] env=[(false,eval e env),(false,eval f env)]) (hst2: ∀ env,starEach [f] env=[(false,eval f env)]):RE g fr d sc Γ (.Call (.Attribute o (Str.ofString "get") ap) [e,f] [] pos) (bd mo λ a=>bd (chkD a) λ _=>bd m λ b=>bd n λ c=>dget2 a b c):=hE (name:="get") (mop:=dget2) PySem.F.slot_dict_get PySem.F.type_dict_get (λ x d Γ hx va vb vc a b c μ adr s S r1 r2 r3=>YP hx S r1 r2 r3) ho h1 h2 he hst hst2
theorem UH {fr:Bool} {d:Nat} {sc:Scope} {Γ:Cx0} {o e f:PySem.Expr} {ap pos:Pos} {mo m n:M AV} (ho:RE g fr d sc Γ o mo) (h1:RE g fr d sc Γ e m) (h2:RE g fr d sc Γ f n) (he:zo o "pop" ap pos [e,f]) (hst: ∀ env,starEach [e,f] env=[(false,eval e env),(false,eval f env)]) (hst2: ∀ env,starEach [f] env=[(false,eval f env)]):RE g fr d sc Γ (.Call (.Attribute o (Str.ofString "pop") ap) [e,f] [] pos) (bd mo λ a=>bd (chkD a) λ _=>bd m λ b=>bd n λ c=>dpop2 a b c):=hE (name:="pop") (mop:=dpop2) PySem.F.slot_dict_pop PySem.F.type_dict_pop (λ x d Γ hx va vb vc a b c μ adr s S r1 r2 r3=>YR hx S r1 r2 r3) ho h1 h2 he hst hst2
noncomputable def look (n:Str):List (Str × NameKind)→Cx0→Option AV
 | [],_=>none
 | p :: ps,l=>match l with
  | []=>none
  | a :: as=>if p.1 == n then a else look n ps as
noncomputable def lookD (n:Str) (ps:List (Str × NameKind)) (l:Cx0):Option AV:=if (n == ("__debug__" :Str)) || (n == ("__classdict__" :Str)) then none else look n ps l
theorem UI {n:Str} {av:AV} {ps:List (Str × NameKind)} {l:Cx0} (h:look n ps l=some av): ∃ (i:Nat) (k:NameKind),ps[i]? =some (n,k)∧l[i]? =some (some av):=by
 induction ps generalizing l with
 | nil=>exact za h
 | cons p ps ih =>
  rcases l with _ | ⟨a,as⟩
  ·exact za h
  have h:(if p.1 == n then a else look n ps as)=some av:=h
  by_cases q:(p.1 == n)=true
  ·rw [if_pos q] at h
   exact ⟨0,p.2,congrArg (λ z=>some (z,p.2)) (eq_of_beq q),congrArg some h⟩
  ·rw [if_neg q] at h
   obtain ⟨i,k,h1,h2⟩:=ih h
   exact ⟨i+1,k,h1,h2⟩
theorem Vi {fr:Bool} {d:Nat} {sc:Scope} {Γ:Cx0} {n:Str} {av:AV} {p:Pos} (h:lookD n sc.names Γ=some av):RE g fr d sc Γ (.Name n p) (rt av):=by
 unfold lookD at h
 by_cases q:((n == ("__debug__" :Str)) || (n == ("__classdict__" :Str)))=true
 ·rw [if_pos q] at h;exact za h
 ·rw [if_neg q] at h
  obtain ⟨i,k,h1,h2⟩:=UI h
  have q:=Bool.or_eq_false_iff.mp (Bool.eq_false_iff.mpr q)
  exact V6 h2 h1 q.1 q.2
noncomputable def Cur (β:Type):Nat→Type
 | 0=>β
 | n+1=>AV→Cur β n
noncomputable def ap {β:Type}:(n:Nat)→Cur (M β) n→List AV→M β
 | 0,f,l=>match l with
  | []=>f
  | _ :: _=>fl
 | n+1,f,l=>match l with
  | []=>fl
  | a :: r=>ap n (f a) r
noncomputable def AllV {α:Type}:Nat→(List α→Prop)→Prop
 | 0,p=>p []
 | n+1,p=> ∀ a,AllV n λ l=>p (a :: l)
theorem AllV.all {α:Type}: ∀ {n:Nat} {p:List α→Prop},AllV n p→ ∀ l,l.length=n→p l
 | 0,_,h,l,e=>by cases List.length_eq_zero_iff.mp e;exact h
 | n+1,_,h,[],e=>nomatch e
 | n+1,_,h,a :: l,e=>(h a).all l (Nat.succ.inj e)
theorem bp {β:Type} {μ:Mem} {x:β × Mem}: ∀ {n:Nat} {f:Cur (M β) n} {l:List AV},ap n f l μ=some x→l.length=n
 | 0,_,[],_=>rfl
 | 0,_,_ :: _,e=>nomatch e
 | n+1,_,[],e=>nomatch e
 | n+1,f,a :: l,e=>congrArg Nat.succ (bp (n:=n) (f:=f a) e)
theorem AllV.z {α:Type} {p:List α→Prop} (h:p []):AllV 0 p:=h
theorem AllV.i {α:Type} {n:Nat} {p:List α→Prop} (h: ∀ a,AllV n λ l=>p (a :: l)):AllV (n+1) p:=h
inductive FnB (g:Gd) (d:Nat) (f:Addr) (k n:Nat) (dv:List Value) (dav:List AV) (fm:Cur (M AV) k) (fb:Cur (M (Fl Unit)) n):Prop
 | mk {oc:Value} {od:Option Addr} {osl:Array (Option Value)} {name qual:Str} {params:Arguments} {body:List Stmt} {scope:Scope} {dV kV doc pm cdv ct:Value} {an:Option Addr}
  (ho:(KK g.w.params).lookup f=some ⟨oc,od, .func (fnOf name qual params body scope dV kV doc pm an cdv ct),osl⟩) (hcd:codeIn (KK g.w.params) cdv qual=true) (hdv: ∀ fd adr,F2 (VR fd adr) dv dav) (hn:k+dv.length=n)
  (hb1: ∀ s,(KK g.w.params).In s.heap→AllV k λ vs=>BindsTo s (fnOf name qual params body scope dV kV doc pm an cdv ct) ⟨vs,[]⟩ ((scope.names.map (·.1)).zip (vs ++ dv)))
  (h1:((scope.names.take n).all λ n=>n.2 == .local || n.2 == .cell)=true) (h2:n≤scope.names.length)
  (h3:((cellsFrom 0 scope.names []).map (·.1)).Nodup) (h4:(scope.names.map (·.1)).Nodup) (h5:scope.kind= .function) (h6:scope.isCoroutine=false) (h7:scope.isGenerator=false)
  (hF:AllV k λ as=>ap k fm as=fin (ap n fb (as ++ dav)))
  (hb:AllV n λ as=>RS g false d scope (as.map some ++ List.replicate (scope.names.length - n) none) [] (λ _=>[]) body (ap n fb as))
theorem FnB.fn {d k n:Nat} {f:Addr} {dv:List Value} {dav:List AV} {fm:Cur (M AV) k} {fb:Cur (M (Fl Unit)) n} (hf:Facts g) (hK:g.K=KK g.w.params) (h:FnB g d f k n dv dav fm fb):Fn g (d+1) (.ref f) (ap k fm):=by
 obtain ⟨ho,hcd,hdv,hn,hb1,h1,h2,h3,h4,h5,h6,h7,hF,hb⟩:=h
 subst hn
 exact JF hf (hK ▸ ho) (hK ▸ hcd) dv dav k (ap _ fb) hdv (λ s vs X e=>(hb1 s (hK ▸ X)).all vs e) h1 h2 h3 h4 h5 h6 h7 (λ as e=>by rw [e];exact hb.all as e) (λ as b μ μ' e=>⟨bp e,by rw [← hF.all as (bp e)];exact e⟩)
abbrev q0:List (Str × NameKind):=[(Str.ofString ".0", .local),(Str.ofString "one", .local),(Str.ofString "key", .cell),(Str.ofString "scalar", .cell)]
abbrev q1:List (Str × NameKind):=[(Str.ofString ".0", .local),(Str.ofString "number", .local),(Str.ofString "found", .cell)]
abbrev q2:List (Str × NameKind):=[(Str.ofString ".0", .local),(Str.ofString "one", .local),(Str.ofString "scalar", .cell)]
abbrev q3:List (Str × NameKind):=[(Str.ofString ".0", .local),(Str.ofString "one", .local)]
abbrev q4:List (Str × NameKind):=[(Str.ofString ".0", .local),(Str.ofString "number", .local),(Str.ofString "degrees", .cell)]
abbrev q5:List (Str × NameKind):=[(Str.ofString ".0", .local),(Str.ofString "one", .local),(Str.ofString "degrees", .cell)]
abbrev r1:List (Str × NameKind):=[(Str.ofString ".0", .local),(Str.ofString "key", .local),(Str.ofString "thing", .cell)]
abbrev r2:List (Str × NameKind):=[(Str.ofString ".0", .local),(Str.ofString "n", .local),(Str.ofString "abs", .globalImplicit)]
abbrev r3:List (Str × NameKind):=[(Str.ofString ".0", .local),(Str.ofString "number", .local),(Str.ofString "real", .cell)]
abbrev r4:List (Str × NameKind):=[(Str.ofString ".0", .local),(Str.ofString "pair", .local)]
theorem vE {z:Bool} {sc:Scope} {n:Str} (i:Nat) (h:sc.names[i]? =some (n, .local)):Stores z sc i n:=Or.inl h
theorem ug {sc:Scope} {n:Str} (i:Nat) (h:sc.names[i]? =some (n, .cell)):Stores false sc i n:=Or.inr ⟨h,rfl⟩
theorem z8 {sc:Scope} {n:Str} {k:NameKind} (i:Nat) (h:sc.names[i]? =some (n,k)):sc.names[i]? =some (n,k):=h
theorem tk {sc csc:Scope} {Γ:Cx0} {k:Nat} (i':Nat) {n:Str} {a:AV} {r:Cx0} (h1:csc.names[k]? =some (n, .free)) (h2:sc.names[i']? =some (n, .cell)) (h3:Γ[i']? =some (some a)) (h:TakesAt sc csc Γ (k+1) r):TakesAt sc csc Γ k (some a :: r):= .some h1 h2 h3 h
noncomputable def DD (g:Gd) (cv:CV):Prop:= ∃ nm qual params bd' scope ns avs,g.co=Clo nm qual params bd' scope ns avs∧ ∀ (x:Cx) (Γ:Cx0),x.Ok g 5→ ∀ v w a μ adr s,St g x Γ μ adr s→VR x.fd adr v .dstr→VR x.fd adr w a→Does g x Γ (VR x.fd) (call v [w]) (vf cv a) μ adr s
theorem UJ (hf:Facts g) (hK:g.K=KK g.w.params) {cv:CV} (hdd:DD g cv) {fr:Bool} {sc:Scope} {Γ:Cx0} {o e:PySem.Expr} {ap pos:Pos} {mo m:M AV} (ho:RE g fr 5 sc Γ o mo) (h1:RE g fr 5 sc Γ e m) (he:zo o "destroy" ap pos [e]) (hst: ∀ env,starEach [e] env=[(false,eval e env)]):RE g fr 5 sc Γ (.Call (.Attribute o (Str.ofString "destroy") ap) [e] [] pos) (bd mo λ o=>bd (getA o "destroy") λ dd=>bd m λ a=>callD cv dd a):=by
 obtain ⟨nm,qual,params,bd',scope,ns,avs,hco,hD⟩:=hdd
 refine Ze hf hco (name:="destroy") (F:=callD cv) (λ c h=> ?_) (λ dd a μ r e=> ?_) hD ho h1 he hst
 ·cases c <;> first | (exact absurd h (by decide)) | (rw [hK];kernel_rfl)
 ·cases dd <;> first | rfl | cases e
theorem bq (hS:Fn g 1 (.ref 35) (ap 2 ya)) (hK:g.K=KK g.w.params) {fr:Bool} {d:Nat} {sc:Scope} {Γ:Cx0} {es:List PySem.Expr} {m0 m1:M AV} {np ap pos:Pos} (hd:1≤d) (hk:sc.names.lookup (Str.ofString "Thing")=some .globalImplicit) (ha:REs g fr d sc Γ es [m0,m1]) (he:zo (.Name (Str.ofString "Thing") np) "__init__" ap pos es):RE g fr d sc Γ (.Call (.Attribute (.Name (Str.ofString "Thing") np) (Str.ofString "__init__") ap) es [] pos) (bd m0 λ v0=>bd m1 λ v1=>ya v0 v1):=by
 have h:=Us (mc:= .type "type") (UB hK hk) (by rw [hK];kernel_rfl) (by rw [hK];kernel_rfl) (by rw [hK];kernel_rfl) (by rw [hK];kernel_rfl) (.K (by rw [hK];kernel_rfl)) hS hd ha he
 rw [evs2] at h
 exact h
theorem gy (hK:g.K=KK g.w.params):ClsIs g .ref 152:=⟨by rw [hK];kernel_rfl,by rw [hK];kernel_rfl,by rw [hK];kernel_rfl, .K (by rw [hK];kernel_rfl)⟩
theorem Zj (hS:Fn g 1 (.ref 152) (ap 2 (λ v0 v1=>zL v0 v1 (.bool false)))) (hK:g.K=KK g.w.params) {fr:Bool} {d:Nat} {sc:Scope} {Γ:Cx0} {es:List PySem.Expr} {m0:M AV} {p pos:Pos} (hd:2≤d) (hk:sc.names.lookup (Str.ofString "Ref")=some .globalImplicit) (ha:REs g fr d sc Γ es [m0]):RE g fr d sc Γ (.Call (.Name (Str.ofString "Ref") p) es [] pos) (bd m0 λ v1=>new .ref λ v0=>zL v0 v1 (.bool false)):=by
 have h:=zt (p:=p) (pos:=pos) (Y2 hK hk) (gy hK).a4 (wH (gy hK) hS) hd ha
 rw [evs1] at h
 exact h
theorem Zk (hS:Fn g 1 (.ref 152) (ap 3 zL)) (hK:g.K=KK g.w.params) {fr:Bool} {d:Nat} {sc:Scope} {Γ:Cx0} {es:List PySem.Expr} {m0 m1:M AV} {p pos:Pos} (hd:2≤d) (hk:sc.names.lookup (Str.ofString "Ref")=some .globalImplicit) (ha:REs g fr d sc Γ es [m0,m1]):RE g fr d sc Γ (.Call (.Name (Str.ofString "Ref") p) es [] pos) (bd m0 λ v1=>bd m1 λ v2=>new .ref λ v0=>zL v0 v1 v2):=by
 have h:=zt (p:=p) (pos:=pos) (Y2 hK hk) (gy hK).a4 (wH (gy hK) hS) hd ha
 rw [evs2] at h
 exact h
theorem Wb (hK:g.K=KK g.w.params):ClsIs g .heap 173:=⟨by rw [hK];kernel_rfl,by rw [hK];kernel_rfl,by rw [hK];kernel_rfl, .K (by rw [hK];kernel_rfl)⟩
theorem Zl (hS:Fn g 1 (.ref 173) (ap 2 xF)) (hK:g.K=KK g.w.params) {fr:Bool} {d:Nat} {sc:Scope} {Γ:Cx0} {es:List PySem.Expr} {m0:M AV} {p pos:Pos} (hd:2≤d) (hk:sc.names.lookup (Str.ofString "Heap")=some .globalImplicit) (ha:REs g fr d sc Γ es [m0]):RE g fr d sc Γ (.Call (.Name (Str.ofString "Heap") p) es [] pos) (bd m0 λ v1=>new .heap λ v0=>xF v0 v1):=by
 have h:=zt (p:=p) (pos:=pos) (X4 hK hk) (Wb hK).a4 (wH (Wb hK) hS) hd ha
 rw [evs1] at h
 exact h
theorem uJ (hK:g.K=KK g.w.params):MethIs g .heap "next_number" 180:=⟨by rw [hK];kernel_rfl,by rw [hK];kernel_rfl,by rw [hK];kernel_rfl,by decide, .K (by rw [hK];kernel_rfl)⟩
theorem uK (hS:Fn g 1 (.ref 180) (ap 1 zx)) (hK:g.K=KK g.w.params) {fr:Bool} {d:Nat} {sc:Scope} {Γ:Cx0} {es:List PySem.Expr} {mo:M AV} {o:PySem.Expr} {ap pos:Pos} (hd:1≤d) (ho:RE g fr d sc Γ o mo) (ha:REs g fr d sc Γ es []) (he:zo o "next_number" ap pos es):RE g fr d sc Γ (.Call (.Attribute o (Str.ofString "next_number") ap) es [] pos) (bd mo λ v0=>bd (chk v0 .heap) λ _=>zx v0):=by
 have h:=z0 (uJ hK) hS hd ho ha he
 simp only [evs0] at h
 exact h
theorem Wc (hS:Fn g 1 (.ref 227) (ap 1 xQ)) (hK:g.K=KK g.w.params) {fr:Bool} {d:Nat} {sc:Scope} {Γ:Cx0} {es:List PySem.Expr} {m0:M AV} {p pos:Pos} (hd:1≤d) (hk:sc.names.lookup (Str.ofString "held_by")=some .globalImplicit) (ha:REs g fr d sc Γ es [m0]):RE g fr d sc Γ (.Call (.Name (Str.ofString "held_by") p) es [] pos) (bd m0 λ v0=>xQ v0):=by
 have h:=zt (p:=p) (pos:=pos) (X5 hK hk) (.K (by rw [hK];kernel_rfl)) hS hd ha
 rw [evs1] at h
 exact h
theorem Zm (hS:Fn g 1 (.ref 234) (ap 1 y0)) (hK:g.K=KK g.w.params) {fr:Bool} {d:Nat} {sc:Scope} {Γ:Cx0} {es:List PySem.Expr} {m0:M AV} {p pos:Pos} (hd:1≤d) (hk:sc.names.lookup (Str.ofString "empty_out")=some .globalImplicit) (ha:REs g fr d sc Γ es [m0]):RE g fr d sc Γ (.Call (.Name (Str.ofString "empty_out") p) es [] pos) (bd m0 λ v0=>y0 v0):=by
 have h:=zt (p:=p) (pos:=pos) (Zf hK hk) (.K (by rw [hK];kernel_rfl)) hS hd ha
 rw [evs1] at h
 exact h
theorem Y6 (hS:Fn g 1 (.ref 239) (ap 1 xx)) (hK:g.K=KK g.w.params) {fr:Bool} {d:Nat} {sc:Scope} {Γ:Cx0} {es:List PySem.Expr} {m0:M AV} {p pos:Pos} (hd:1≤d) (hk:sc.names.lookup (Str.ofString "in_order")=some .globalImplicit) (ha:REs g fr d sc Γ es [m0]):RE g fr d sc Γ (.Call (.Name (Str.ofString "in_order") p) es [] pos) (bd m0 λ v0=>xx v0):=by
 have h:=zt (p:=p) (pos:=pos) (Y3 hK hk) (.K (by rw [hK];kernel_rfl)) hS hd ha
 rw [evs1] at h
 exact h
theorem hV (hK:g.K=KK g.w.params):ClsIs g .counter 253:=⟨by rw [hK];kernel_rfl,by rw [hK];kernel_rfl,by rw [hK];kernel_rfl, .K (by rw [hK];kernel_rfl)⟩
theorem qO (hS:Fn g 1 (.ref 253) (ap 3 xy)) (hK:g.K=KK g.w.params) {fr:Bool} {d:Nat} {sc:Scope} {Γ:Cx0} {es:List PySem.Expr} {m0 m1:M AV} {p pos:Pos} (hd:2≤d) (hk:sc.names.lookup (Str.ofString "Counter")=some .globalImplicit) (ha:REs g fr d sc Γ es [m0,m1]):RE g fr d sc Γ (.Call (.Name (Str.ofString "Counter") p) es [] pos) (bd m0 λ v1=>bd m1 λ v2=>new .counter λ v0=>xy v0 v1 v2):=by
 have h:=zt (p:=p) (pos:=pos) (hU hK hk) (hV hK).a4 (wH (hV hK) hS) hd ha
 rw [evs2] at h
 exact h
theorem qP (hK:g.K=KK g.w.params):MethIs g .counter "hold" 260:=⟨by rw [hK];kernel_rfl,by rw [hK];kernel_rfl,by rw [hK];kernel_rfl,by decide, .K (by rw [hK];kernel_rfl)⟩
theorem qQ (hS:Fn g 1 (.ref 260) (ap 2 yi)) (hK:g.K=KK g.w.params) {fr:Bool} {d:Nat} {sc:Scope} {Γ:Cx0} {es:List PySem.Expr} {m0:M AV} {mo:M AV} {o:PySem.Expr} {ap pos:Pos} (hd:1≤d) (ho:RE g fr d sc Γ o mo) (ha:REs g fr d sc Γ es [m0]) (he:zo o "hold" ap pos es):RE g fr d sc Γ (.Call (.Attribute o (Str.ofString "hold") ap) es [] pos) (bd mo λ v0=>bd (chk v0 .counter) λ _=>bd m0 λ v1=>yi v0 v1):=by
 have h:=z0 (qP hK) hS hd ho ha he
 simp only [evs1] at h
 exact h
theorem jA (hK:g.K=KK g.w.params):MethIs g .counter "let_go" 267:=⟨by rw [hK];kernel_rfl,by rw [hK];kernel_rfl,by rw [hK];kernel_rfl,by decide, .K (by rw [hK];kernel_rfl)⟩
theorem jB (hS:Fn g 1 (.ref 267) (ap 2 zv)) (hK:g.K=KK g.w.params) {fr:Bool} {d:Nat} {sc:Scope} {Γ:Cx0} {es:List PySem.Expr} {m0:M AV} {mo:M AV} {o:PySem.Expr} {ap pos:Pos} (hd:1≤d) (ho:RE g fr d sc Γ o mo) (ha:REs g fr d sc Γ es [m0]) (he:zo o "let_go" ap pos es):RE g fr d sc Γ (.Call (.Attribute o (Str.ofString "let_go") ap) es [] pos) (bd mo λ v0=>bd (chk v0 .counter) λ _=>bd m0 λ v1=>zv v0 v1):=by
 have h:=z0 (jA hK) hS hd ho ha he
 simp only [evs1] at h
 exact h
theorem qR (hK:g.K=KK g.w.params):MethIs g .counter "note" 274:=⟨by rw [hK];kernel_rfl,by rw [hK];kernel_rfl,by rw [hK];kernel_rfl,by decide, .K (by rw [hK];kernel_rfl)⟩
theorem qS (hS:Fn g 1 (.ref 274) (ap 2 yj)) (hK:g.K=KK g.w.params) {fr:Bool} {d:Nat} {sc:Scope} {Γ:Cx0} {es:List PySem.Expr} {m0:M AV} {mo:M AV} {o:PySem.Expr} {ap pos:Pos} (hd:1≤d) (ho:RE g fr d sc Γ o mo) (ha:REs g fr d sc Γ es [m0]) (he:zo o "note" ap pos es):RE g fr d sc Γ (.Call (.Attribute o (Str.ofString "note") ap) es [] pos) (bd mo λ v0=>bd (chk v0 .counter) λ _=>bd m0 λ v1=>yj v0 v1):=by
 have h:=z0 (qR hK) hS hd ho ha he
 simp only [evs1] at h
 exact h
theorem gr (hS:Fn g 1 (.ref 349) (ap 2 yp)) (hK:g.K=KK g.w.params) {fr:Bool} {d:Nat} {sc:Scope} {Γ:Cx0} {es:List PySem.Expr} {m0 m1:M AV} {p pos:Pos} (hd:1≤d) (hk:sc.names.lookup (Str.ofString "bless_thing")=some .globalImplicit) (ha:REs g fr d sc Γ es [m0,m1]):RE g fr d sc Γ (.Call (.Name (Str.ofString "bless_thing") p) es [] pos) (bd m0 λ v0=>bd m1 λ v1=>yp v0 v1):=by
 have h:=zt (p:=p) (pos:=pos) (gj hK hk) (.K (by rw [hK];kernel_rfl)) hS hd ha
 rw [evs2] at h
 exact h
theorem br (hK:g.K=KK g.w.params):ClsIs g .limits 364:=⟨by rw [hK];kernel_rfl,by rw [hK];kernel_rfl,by rw [hK];kernel_rfl, .K (by rw [hK];kernel_rfl)⟩
theorem qT (hS:Fn g 1 (.ref 364) (ap 1 (λ v0=>yX v0 (.int 64) (.int 50) (.int 1000000) (.int 100000) (.int 10000)))) (hK:g.K=KK g.w.params) {fr:Bool} {d:Nat} {sc:Scope} {Γ:Cx0} {es:List PySem.Expr} {p pos:Pos} (hd:2≤d) (hk:sc.names.lookup (Str.ofString "Limits")=some .globalImplicit) (ha:REs g fr d sc Γ es []):RE g fr d sc Γ (.Call (.Name (Str.ofString "Limits") p) es [] pos) (new .limits λ v0=>yX v0 (.int 64) (.int 50) (.int 1000000) (.int 100000) (.int 10000)):=by
 have h:=zt (p:=p) (pos:=pos) (bn hK hk) (br hK).a4 (wH (br hK) hS) hd ha
 rw [evs0] at h
 exact h
theorem gt (hS:Fn g 1 (.ref 376) (ap 2 zM)) (hK:g.K=KK g.w.params) {fr:Bool} {d:Nat} {sc:Scope} {Γ:Cx0} {es:List PySem.Expr} {m0 m1:M AV} {p pos:Pos} (hd:1≤d) (hk:sc.names.lookup (Str.ofString "_law_degrees")=some .globalImplicit) (ha:REs g fr d sc Γ es [m0,m1]):RE g fr d sc Γ (.Call (.Name (Str.ofString "_law_degrees") p) es [] pos) (bd m0 λ v0=>bd m1 λ v1=>zM v0 v1):=by
 have h:=zt (p:=p) (pos:=pos) (gm hK hk) (.K (by rw [hK];kernel_rfl)) hS hd ha
 rw [evs2] at h
 exact h
theorem Zn (hS:Fn g 1 (.ref 388) (ap 1 y7)) (hK:g.K=KK g.w.params) {fr:Bool} {d:Nat} {sc:Scope} {Γ:Cx0} {es:List PySem.Expr} {m0:M AV} {p pos:Pos} (hd:1≤d) (hk:sc.names.lookup (Str.ofString "_law_value")=some .globalImplicit) (ha:REs g fr d sc Γ es [m0]):RE g fr d sc Γ (.Call (.Name (Str.ofString "_law_value") p) es [] pos) (bd m0 λ v0=>y7 v0):=by
 have h:=zt (p:=p) (pos:=pos) (Zg hK hk) (.K (by rw [hK];kernel_rfl)) hS hd ha
 rw [evs1] at h
 exact h
theorem Zo (hS:Fn g 1 (.ref 400) (ap 3 yA)) (hK:g.K=KK g.w.params) {fr:Bool} {d:Nat} {sc:Scope} {Γ:Cx0} {es:List PySem.Expr} {m0 m1 m2:M AV} {p pos:Pos} (hd:1≤d) (hk:sc.names.lookup (Str.ofString "_law_place")=some .globalImplicit) (ha:REs g fr d sc Γ es [m0,m1,m2]):RE g fr d sc Γ (.Call (.Name (Str.ofString "_law_place") p) es [] pos) (bd m0 λ v0=>bd m1 λ v1=>bd m2 λ v2=>yA v0 v1 v2):=by
 have h:=zt (p:=p) (pos:=pos) (Zh hK hk) (.K (by rw [hK];kernel_rfl)) hS hd ha
 rw [evs3] at h
 exact h
theorem bt (hS:Fn g 1 (.ref 407) (ap 1 yl)) (hK:g.K=KK g.w.params) {fr:Bool} {d:Nat} {sc:Scope} {Γ:Cx0} {es:List PySem.Expr} {m0:M AV} {p pos:Pos} (hd:1≤d) (hk:sc.names.lookup (Str.ofString "_law_strong")=some .globalImplicit) (ha:REs g fr d sc Γ es [m0]):RE g fr d sc Γ (.Call (.Name (Str.ofString "_law_strong") p) es [] pos) (bd m0 λ v0=>yl v0):=by
 have h:=zt (p:=p) (pos:=pos) (bo hK hk) (.K (by rw [hK];kernel_rfl)) hS hd ha
 rw [evs1] at h
 exact h
theorem bu (hK:g.K=KK g.w.params):ClsIs g .scalar 56:=⟨by rw [hK];kernel_rfl,by rw [hK];kernel_rfl,by rw [hK];kernel_rfl, .K (by rw [hK];kernel_rfl)⟩
theorem gu (hS:Fn g 2 (.ref 56) (ap 3 yW)) (hK:g.K=KK g.w.params) {fr:Bool} {d:Nat} {sc:Scope} {Γ:Cx0} {es:List PySem.Expr} {m0 m1:M AV} {p pos:Pos} (hd:3≤d) (hk:sc.names.lookup (Str.ofString "Scalar")=some .globalImplicit) (ha:REs g fr d sc Γ es [m0,m1]):RE g fr d sc Γ (.Call (.Name (Str.ofString "Scalar") p) es [] pos) (bd m0 λ v1=>bd m1 λ v2=>new .scalar λ v0=>yW v0 v1 v2):=by
 have h:=zt (p:=p) (pos:=pos) (bm hK hk) (bu hK).a4 (wH (bu hK) hS) hd ha
 rw [evs2] at h
 exact h
theorem Yg (hK:g.K=KK g.w.params):ClsIs g .array 75:=⟨by rw [hK];kernel_rfl,by rw [hK];kernel_rfl,by rw [hK];kernel_rfl, .K (by rw [hK];kernel_rfl)⟩
theorem bw (hS:Fn g 2 (.ref 75) (ap 2 xh)) (hK:g.K=KK g.w.params) {fr:Bool} {d:Nat} {sc:Scope} {Γ:Cx0} {es:List PySem.Expr} {m0:M AV} {p pos:Pos} (hd:3≤d) (hk:sc.names.lookup (Str.ofString "Array")=some .globalImplicit) (ha:REs g fr d sc Γ es [m0]):RE g fr d sc Γ (.Call (.Name (Str.ofString "Array") p) es [] pos) (bd m0 λ v1=>new .array λ v0=>xh v0 v1):=by
 have h:=zt (p:=p) (pos:=pos) (Ye hK hk) (Yg hK).a4 (wH (Yg hK) hS) hd ha
 rw [evs1] at h
 exact h
theorem Wd (hK:g.K=KK g.w.params):ClsIs g .hash 94:=⟨by rw [hK];kernel_rfl,by rw [hK];kernel_rfl,by rw [hK];kernel_rfl, .K (by rw [hK];kernel_rfl)⟩
theorem Zp (hS:Fn g 2 (.ref 94) (ap 2 xE)) (hK:g.K=KK g.w.params) {fr:Bool} {d:Nat} {sc:Scope} {Γ:Cx0} {es:List PySem.Expr} {m0:M AV} {p pos:Pos} (hd:3≤d) (hk:sc.names.lookup (Str.ofString "Hash")=some .globalImplicit) (ha:REs g fr d sc Γ es [m0]):RE g fr d sc Γ (.Call (.Name (Str.ofString "Hash") p) es [] pos) (bd m0 λ v1=>new .hash λ v0=>xE v0 v1):=by
 have h:=zt (p:=p) (pos:=pos) (X3 hK hk) (Wd hK).a4 (wH (Wd hK) hS) hd ha
 rw [evs1] at h
 exact h
theorem uZ (hK:g.K=KK g.w.params):MethIs g .counter "put_off" 286:=⟨by rw [hK];kernel_rfl,by rw [hK];kernel_rfl,by rw [hK];kernel_rfl,by decide, .K (by rw [hK];kernel_rfl)⟩
theorem u0 (hS:Fn g 2 (.ref 286) (ap 3 zI)) (hK:g.K=KK g.w.params) {fr:Bool} {d:Nat} {sc:Scope} {Γ:Cx0} {es:List PySem.Expr} {m0 m1:M AV} {mo:M AV} {o:PySem.Expr} {ap pos:Pos} (hd:2≤d) (ho:RE g fr d sc Γ o mo) (ha:REs g fr d sc Γ es [m0,m1]) (he:zo o "put_off" ap pos es):RE g fr d sc Γ (.Call (.Attribute o (Str.ofString "put_off") ap) es [] pos) (bd mo λ v0=>bd (chk v0 .counter) λ _=>bd m0 λ v1=>bd m1 λ v2=>zI v0 v1 v2):=by
 have h:=z0 (uZ hK) hS hd ho ha he
 simp only [evs2] at h
 exact h
theorem qU (hK:g.K=KK g.w.params):MethIs g .counter "drop" 307:=⟨by rw [hK];kernel_rfl,by rw [hK];kernel_rfl,by rw [hK];kernel_rfl,by decide, .K (by rw [hK];kernel_rfl)⟩
theorem qV (hS:Fn g 2 (.ref 307) (ap 2 zO)) (hK:g.K=KK g.w.params) {fr:Bool} {d:Nat} {sc:Scope} {Γ:Cx0} {es:List PySem.Expr} {m0:M AV} {mo:M AV} {o:PySem.Expr} {ap pos:Pos} (hd:2≤d) (ho:RE g fr d sc Γ o mo) (ha:REs g fr d sc Γ es [m0]) (he:zo o "drop" ap pos es):RE g fr d sc Γ (.Call (.Attribute o (Str.ofString "drop") ap) es [] pos) (bd mo λ v0=>bd (chk v0 .counter) λ _=>bd m0 λ v1=>zO v0 v1):=by
 have h:=z0 (qU hK) hS hd ho ha he
 simp only [evs1] at h
 exact h
theorem gv (hS:Fn g 2 (.ref 381) (ap 4 yd)) (hK:g.K=KK g.w.params) {fr:Bool} {d:Nat} {sc:Scope} {Γ:Cx0} {es:List PySem.Expr} {m0 m1 m2 m3:M AV} {p pos:Pos} (hd:2≤d) (hk:sc.names.lookup (Str.ofString "_law_settled")=some .globalImplicit) (ha:REs g fr d sc Γ es [m0,m1,m2,m3]):RE g fr d sc Γ (.Call (.Name (Str.ofString "_law_settled") p) es [] pos) (bd m0 λ v0=>bd m1 λ v1=>bd m2 λ v2=>bd m3 λ v3=>yd v0 v1 v2 v3):=by
 have h:=zt (p:=p) (pos:=pos) (gq hK hk) (.K (by rw [hK];kernel_rfl)) hS hd ha
 rw [evs4] at h
 exact h
theorem Y7 (hS:Fn g 2 (.ref 393) (ap 3 yP)) (hK:g.K=KK g.w.params) {fr:Bool} {d:Nat} {sc:Scope} {Γ:Cx0} {es:List PySem.Expr} {m0 m1 m2:M AV} {p pos:Pos} (hd:2≤d) (hk:sc.names.lookup (Str.ofString "_law_same")=some .globalImplicit) (ha:REs g fr d sc Γ es [m0,m1,m2]):RE g fr d sc Γ (.Call (.Name (Str.ofString "_law_same") p) es [] pos) (bd m0 λ v0=>bd m1 λ v1=>bd m2 λ v2=>yP v0 v1 v2):=by
 have h:=zt (p:=p) (pos:=pos) (Y4 hK hk) (.K (by rw [hK];kernel_rfl)) hS hd ha
 rw [evs3] at h
 exact h
theorem qW (hK:g.K=KK g.w.params):MethIs g .counter "take" 281:=⟨by rw [hK];kernel_rfl,by rw [hK];kernel_rfl,by rw [hK];kernel_rfl,by decide, .K (by rw [hK];kernel_rfl)⟩
theorem qX (hS:Fn g 3 (.ref 281) (ap 2 zX)) (hK:g.K=KK g.w.params) {fr:Bool} {d:Nat} {sc:Scope} {Γ:Cx0} {es:List PySem.Expr} {m0:M AV} {mo:M AV} {o:PySem.Expr} {ap pos:Pos} (hd:3≤d) (ho:RE g fr d sc Γ o mo) (ha:REs g fr d sc Γ es [m0]) (he:zo o "take" ap pos es):RE g fr d sc Γ (.Call (.Attribute o (Str.ofString "take") ap) es [] pos) (bd mo λ v0=>bd (chk v0 .counter) λ _=>bd m0 λ v1=>zX v0 v1):=by
 have h:=z0 (qW hK) hS hd ho ha he
 simp only [evs1] at h
 exact h
theorem qn (hS:Fn g 3 (.ref 342) (ap 2 yc)) (hK:g.K=KK g.w.params) {fr:Bool} {d:Nat} {sc:Scope} {Γ:Cx0} {es:List PySem.Expr} {m0 m1:M AV} {p pos:Pos} (hd:3≤d) (hk:sc.names.lookup (Str.ofString "weaken_scalar")=some .globalImplicit) (ha:REs g fr d sc Γ es [m0,m1]):RE g fr d sc Γ (.Call (.Name (Str.ofString "weaken_scalar") p) es [] pos) (bd m0 λ v0=>bd m1 λ v1=>yc v0 v1):=by
 have h:=zt (p:=p) (pos:=pos) (qm hK hk) (.K (by rw [hK];kernel_rfl)) hS hd ha
 rw [evs2] at h
 exact h
theorem qY (hK:g.K=KK g.w.params):MethIs g .counter "free" 328:=⟨by rw [hK];kernel_rfl,by rw [hK];kernel_rfl,by rw [hK];kernel_rfl,by decide, .K (by rw [hK];kernel_rfl)⟩
theorem qZ (hS:Fn g 3 (.ref 328) (ap 2 yk)) (hK:g.K=KK g.w.params) {fr:Bool} {d:Nat} {sc:Scope} {Γ:Cx0} {es:List PySem.Expr} {m0:M AV} {mo:M AV} {o:PySem.Expr} {ap pos:Pos} (hd:3≤d) (ho:RE g fr d sc Γ o mo) (ha:REs g fr d sc Γ es [m0]) (he:zo o "free" ap pos es):RE g fr d sc Γ (.Call (.Attribute o (Str.ofString "free") ap) es [] pos) (bd mo λ v0=>bd (chk v0 .counter) λ _=>bd m0 λ v1=>yk v0 v1):=by
 have h:=z0 (qY hK) hS hd ho ha he
 simp only [evs1] at h
 exact h
theorem Zq (hS:Fn g 3 (.ref 426) (ap 4 y8)) (hK:g.K=KK g.w.params) {fr:Bool} {d:Nat} {sc:Scope} {Γ:Cx0} {es:List PySem.Expr} {m0 m1 m2 m3:M AV} {p pos:Pos} (hd:3≤d) (hk:sc.names.lookup (Str.ofString "_law_taken")=some .globalImplicit) (ha:REs g fr d sc Γ es [m0,m1,m2,m3]):RE g fr d sc Γ (.Call (.Name (Str.ofString "_law_taken") p) es [] pos) (bd m0 λ v0=>bd m1 λ v1=>bd m2 λ v2=>bd m3 λ v3=>y8 v0 v1 v2 v3):=by
 have h:=zt (p:=p) (pos:=pos) (Zi hK hk) (.K (by rw [hK];kernel_rfl)) hS hd ha
 rw [evs4] at h
 exact h
theorem u1 (hK:g.K=KK g.w.params):MethIs g .heap "new_scalar" 187:=⟨by rw [hK];kernel_rfl,by rw [hK];kernel_rfl,by rw [hK];kernel_rfl,by decide, .K (by rw [hK];kernel_rfl)⟩
theorem u2 (hS:Fn g 4 (.ref 187) (ap 2 zH)) (hK:g.K=KK g.w.params) {fr:Bool} {d:Nat} {sc:Scope} {Γ:Cx0} {es:List PySem.Expr} {m0:M AV} {mo:M AV} {o:PySem.Expr} {ap pos:Pos} (hd:4≤d) (ho:RE g fr d sc Γ o mo) (ha:REs g fr d sc Γ es [m0]) (he:zo o "new_scalar" ap pos es):RE g fr d sc Γ (.Call (.Attribute o (Str.ofString "new_scalar") ap) es [] pos) (bd mo λ v0=>bd (chk v0 .heap) λ _=>bd m0 λ v1=>zH v0 v1):=by
 have h:=z0 (u1 hK) hS hd ho ha he
 simp only [evs1] at h
 exact h
theorem jC (hK:g.K=KK g.w.params):MethIs g .heap "new_array" 194:=⟨by rw [hK];kernel_rfl,by rw [hK];kernel_rfl,by rw [hK];kernel_rfl,by decide, .K (by rw [hK];kernel_rfl)⟩
theorem jD (hS:Fn g 4 (.ref 194) (ap 1 zW)) (hK:g.K=KK g.w.params) {fr:Bool} {d:Nat} {sc:Scope} {Γ:Cx0} {es:List PySem.Expr} {mo:M AV} {o:PySem.Expr} {ap pos:Pos} (hd:4≤d) (ho:RE g fr d sc Γ o mo) (ha:REs g fr d sc Γ es []) (he:zo o "new_array" ap pos es):RE g fr d sc Γ (.Call (.Attribute o (Str.ofString "new_array") ap) es [] pos) (bd mo λ v0=>bd (chk v0 .heap) λ _=>zW v0):=by
 have h:=z0 (jC hK) hS hd ho ha he
 simp only [evs0] at h
 exact h
theorem qo (hK:g.K=KK g.w.params):MethIs g .heap "new_hash" 201:=⟨by rw [hK];kernel_rfl,by rw [hK];kernel_rfl,by rw [hK];kernel_rfl,by decide, .K (by rw [hK];kernel_rfl)⟩
theorem qp (hS:Fn g 4 (.ref 201) (ap 1 yb)) (hK:g.K=KK g.w.params) {fr:Bool} {d:Nat} {sc:Scope} {Γ:Cx0} {es:List PySem.Expr} {mo:M AV} {o:PySem.Expr} {ap pos:Pos} (hd:4≤d) (ho:RE g fr d sc Γ o mo) (ha:REs g fr d sc Γ es []) (he:zo o "new_hash" ap pos es):RE g fr d sc Γ (.Call (.Attribute o (Str.ofString "new_hash") ap) es [] pos) (bd mo λ v0=>bd (chk v0 .heap) λ _=>yb v0):=by
 have h:=z0 (qo hK) hS hd ho ha he
 simp only [evs0] at h
 exact h
theorem qr (hK:g.K=KK g.w.params):MethIs g .counter "store" 293:=⟨by rw [hK];kernel_rfl,by rw [hK];kernel_rfl,by rw [hK];kernel_rfl,by decide, .K (by rw [hK];kernel_rfl)⟩
theorem qs (hS:Fn g 4 (.ref 293) (ap 3 zz)) (hK:g.K=KK g.w.params) {fr:Bool} {d:Nat} {sc:Scope} {Γ:Cx0} {es:List PySem.Expr} {m0 m1:M AV} {mo:M AV} {o:PySem.Expr} {ap pos:Pos} (hd:4≤d) (ho:RE g fr d sc Γ o mo) (ha:REs g fr d sc Γ es [m0,m1]) (he:zo o "store" ap pos es):RE g fr d sc Γ (.Call (.Attribute o (Str.ofString "store") ap) es [] pos) (bd mo λ v0=>bd (chk v0 .counter) λ _=>bd m0 λ v1=>bd m1 λ v2=>zz v0 v1 v2):=by
 have h:=z0 (qr hK) hS hd ho ha he
 simp only [evs2] at h
 exact h
theorem qu (hK:g.K=KK g.w.params):MethIs g .counter "fresh" 300:=⟨by rw [hK];kernel_rfl,by rw [hK];kernel_rfl,by rw [hK];kernel_rfl,by decide, .K (by rw [hK];kernel_rfl)⟩
theorem qv (hS:Fn g 5 (.ref 300) (ap 2 zQ)) (hK:g.K=KK g.w.params) {fr:Bool} {d:Nat} {sc:Scope} {Γ:Cx0} {es:List PySem.Expr} {m0:M AV} {mo:M AV} {o:PySem.Expr} {ap pos:Pos} (hd:5≤d) (ho:RE g fr d sc Γ o mo) (ha:REs g fr d sc Γ es [m0]) (he:zo o "fresh" ap pos es):RE g fr d sc Γ (.Call (.Attribute o (Str.ofString "fresh") ap) es [] pos) (bd mo λ v0=>bd (chk v0 .counter) λ _=>bd m0 λ v1=>zQ v0 v1):=by
 have h:=z0 (qu hK) hS hd ho ha he
 simp only [evs1] at h
 exact h
theorem We (hS:Fn g 5 (.ref 414) (ap 6 xR)) (hK:g.K=KK g.w.params) {fr:Bool} {d:Nat} {sc:Scope} {Γ:Cx0} {es:List PySem.Expr} {m0 m1 m2 m3 m4 m5:M AV} {p pos:Pos} (hd:5≤d) (hk:sc.names.lookup (Str.ofString "_law_new")=some .globalImplicit) (ha:REs g fr d sc Γ es [m0,m1,m2,m3,m4,m5]):RE g fr d sc Γ (.Call (.Name (Str.ofString "_law_new") p) es [] pos) (bd m0 λ v0=>bd m1 λ v1=>bd m2 λ v2=>bd m3 λ v3=>bd m4 λ v4=>bd m5 λ v5=>xR v0 v1 v2 v3 v4 v5):=by
 have h:=zt (p:=p) (pos:=pos) (X6 hK hk) (.K (by rw [hK];kernel_rfl)) hS hd ha
 rw [evs6] at h
 exact h
theorem jE (hK:g.K=KK g.w.params):MethIs g .counter "finish" 321:=⟨by rw [hK];kernel_rfl,by rw [hK];kernel_rfl,by rw [hK];kernel_rfl,by decide, .K (by rw [hK];kernel_rfl)⟩
theorem jF {cv:CV} (hS:Fn g 6 (.ref 321) (ap 2 (zY cv))) (hK:g.K=KK g.w.params) {fr:Bool} {d:Nat} {sc:Scope} {Γ:Cx0} {es:List PySem.Expr} {m0:M AV} {mo:M AV} {o:PySem.Expr} {ap pos:Pos} (hd:6≤d) (ho:RE g fr d sc Γ o mo) (ha:REs g fr d sc Γ es [m0]) (he:zo o "finish" ap pos es):RE g fr d sc Γ (.Call (.Attribute o (Str.ofString "finish") ap) es [] pos) (bd mo λ v0=>bd (chk v0 .counter) λ _=>bd m0 λ v1=>zY cv v0 v1):=by
 have h:=z0 (jE hK) hS hd ho ha he
 simp only [evs1] at h
 exact h
theorem Wf (hS:Fn g 6 (.ref 419) (ap 6 xS)) (hK:g.K=KK g.w.params) {fr:Bool} {d:Nat} {sc:Scope} {Γ:Cx0} {es:List PySem.Expr} {m0 m1 m2 m3 m4 m5:M AV} {p pos:Pos} (hd:6≤d) (hk:sc.names.lookup (Str.ofString "_law_put")=some .globalImplicit) (ha:REs g fr d sc Γ es [m0,m1,m2,m3,m4,m5]):RE g fr d sc Γ (.Call (.Name (Str.ofString "_law_put") p) es [] pos) (bd m0 λ v0=>bd m1 λ v1=>bd m2 λ v2=>bd m3 λ v3=>bd m4 λ v4=>bd m5 λ v5=>xS v0 v1 v2 v3 v4 v5):=by
 have h:=zt (p:=p) (pos:=pos) (X7 hK hk) (.K (by rw [hK];kernel_rfl)) hS hd ha
 rw [evs6] at h
 exact h
theorem jG (hK:g.K=KK g.w.params):MethIs g .counter "settle" 314:=⟨by rw [hK];kernel_rfl,by rw [hK];kernel_rfl,by rw [hK];kernel_rfl,by decide, .K (by rw [hK];kernel_rfl)⟩
theorem jH {cv:CV} (hS:Fn g 7 (.ref 314) (ap 2 (zN cv))) (hK:g.K=KK g.w.params) {fr:Bool} {d:Nat} {sc:Scope} {Γ:Cx0} {es:List PySem.Expr} {m0:M AV} {mo:M AV} {o:PySem.Expr} {ap pos:Pos} (hd:7≤d) (ho:RE g fr d sc Γ o mo) (ha:REs g fr d sc Γ es [m0]) (he:zo o "settle" ap pos es):RE g fr d sc Γ (.Call (.Attribute o (Str.ofString "settle") ap) es [] pos) (bd mo λ v0=>bd (chk v0 .counter) λ _=>bd m0 λ v1=>zN cv v0 v1):=by
 have h:=z0 (jG hK) hS hd ho ha he
 simp only [evs1] at h
 exact h
theorem Y8 (hS:Fn g 7 (.ref 433) (ap 5 xA)) (hK:g.K=KK g.w.params) {fr:Bool} {d:Nat} {sc:Scope} {Γ:Cx0} {es:List PySem.Expr} {m0 m1 m2 m3 m4:M AV} {p pos:Pos} (hd:7≤d) (hk:sc.names.lookup (Str.ofString "_law_deed")=some .globalImplicit) (ha:REs g fr d sc Γ es [m0,m1,m2,m3,m4]):RE g fr d sc Γ (.Call (.Name (Str.ofString "_law_deed") p) es [] pos) (bd m0 λ v0=>bd m1 λ v1=>bd m2 λ v2=>bd m3 λ v3=>bd m4 λ v4=>xA v0 v1 v2 v3 v4):=by
 have h:=zt (p:=p) (pos:=pos) (Y5 hK hk) (.K (by rw [hK];kernel_rfl)) hS hd ha
 rw [evs5] at h
 exact h
noncomputable def lawGa:Cx0:=[some .dstr,none,none,none,none,none,none,none,none,none,none,none,none,none,none,none,none,none,none,none,none,none,none]
noncomputable def lawG0 (v:AV):Cx0:=[some v,none,none,none,none,none,none,none,none,none,none,none,none,none,none,none,none,none,none,none,none,none,none]
noncomputable def lawG1 (r:LT):Cx0:=[some r.script,none,some r.heap,some r.log,some r.world,none,none,none,none,none,some r.cv.box,some r.cv.heard,some r.cv.real,some r.cv.rescue,some r.cv.roots,none,none,none,none,none,none,none,none]
noncomputable def lawG2 (r:LT):Cx0:=[some r.script,none,some r.heap,some r.log,some r.world,some .dstr,none,none,none,none,some r.cv.box,some r.cv.heard,some r.cv.real,some r.cv.rescue,some r.cv.roots,none,none,none,none,none,none,none,none]
noncomputable def cvL (cv:CV):List AV:=[cv.box,cv.heard,cv.real,cv.rescue,cv.roots]
noncomputable def SrcOk (g:Gd) (xs:List AV):Prop:=xs.length≤big∧ ∀ need fact fd,g.co need fact fd→ ∃ a o vs n,fd=some a∧(a,o)∈need∧o.cls= .type "list" ∧o.data= .seq (List.toArray vs) n∧ ∀ fd adr,F2 (VR fd adr) vs xs
theorem JS {fr:Bool} {d:Nat} {sc:Scope} {Γ:Cx0} {xs:List AV} {a:PySem.Expr} {k:Nat} {cp p q:Pos} (h:SrcOk g xs) (ha:RE g fr d sc Γ a (rt .dstr)) :
  RE g fr d sc Γ (.Subscript a (.Slice none (some (.Constant (.int 24) k cp)) none p) q) (al (.list (xs.take 24))):=by
 intro x hx hsc hfr μ adr s S c μ' e
 obtain ⟨rfl,rfl⟩:=yz e
 refine Subscript_ (wpAny_mono (ha x hx hsc hfr μ adr s S .dstr μ rfl) (λ vo s₁ z=> ?_) λ _ _ z=>z)
 obtain ⟨adr₁,p1,S1,r1⟩:=z
 refine wpAny_Slice (wpAny_pure (wpAny_mono (g8 (g:=g) (fr:=fr) (d:=d) (sc:=sc) (Γ:=Γ) (i:=24) (k:=k) (p:=cp) x hx hsc hfr μ adr₁ s₁ S1 (.int 24) μ rfl) (λ vk s₂ z=> ?_) λ _ _ z=>z))
 obtain ⟨adr₂,p2,S2,r2⟩:=z
 refine wpAny_pure ?_
 cases r2 with
 | int _ t =>
 cases r1 with
 | @dstr f hfd =>
 obtain ⟨f',o,vs,n,e1,e2,e3,e4,e5⟩:=h.2 _ _ _ hx.co
 have ef:f=f':=by rw [hfd] at e1;exact Option.some.inj e1
 rw [← ef] at e2
 obtain ⟨cs,pl,m,S2⟩:=S2
 have L1:s₂.heap.IsList f vs.toArray:=⟨o,ve S2 e2,e3,n,e4⟩
 have hl:=(e5 none []).len
 refine tail_any (T:="list") (Heap.IsList.typeIs (s:= {s₂ with heap:=s₂.heap.push {cls:= .type "slice",data:= .fields #[.none, .int 24 t, .none]}}) (L1.push _)) list_getitem_lookup
  (wpAny_getItem_list_slice (lo:=none) (hi:=some 24) (L1.push _) (Heap.IsSliceOf.new ..) .none (.int _ _) .none (by simp) ?_ (by simp only [List.size_toArray];rw [hl,sizeLine_eq];have:=h.1;unfold big at this;lia)) rfl
 have N1:=News.push (S2.F.push {cls:= .type "slice",data:= .fields #[.none, .int 24 t, .none]}) (S2.N.grown λ _ _ e=>Heap.get?_push_of_some _ e) {cls:= .type "list",data:= .seq (slicePick vs.toArray none (some 24) none)}
 have hC: ∀ A:Addr,CR g x.fd (adr₂ ++ [A]) [(A, {cls:= .type "list",data:= .seq (slicePick vs.toArray none (some 24) none)})] (.list (xs.take 24)):=λ A=>by
  have e:(slicePick vs.toArray none (some 24) none)=(slicePick vs.toArray none (some 24) none).toList.toArray:=by simp
  rw [e]
  refine .list (n:=0) ?_ (by rw [List.length_take];have:=h.1;lia)
  rw [kY _ _ (by decide)]
  exact (e5 _ _).take_ _
 obtain ⟨adr₃,p3,S3,r3⟩:=St.new1 hx S2 (s':= {s₂ with heap:=(s₂.heap.push {cls:= .type "slice",data:= .fields #[.none, .int 24 t, .none]}).push {cls:= .type "list",data:= .seq (slicePick vs.toArray none (some 24) none)}}) (hC _) ((S2.F.push _).push _) N1 (λ p hp=>by rw [Heap.size_push];exact Nat.lt_succ_of_lt (S2.lt p hp))
 exact ⟨adr₃,(p1.trans p2).trans p3,S3,r3⟩
noncomputable def nsL:List Str:=[Str.ofString "box",Str.ofString "heard",Str.ofString "real",Str.ofString "rescue",Str.ofString "roots"]
structure LawFacts (scope:Scope) (dn:Str) (dparams:Arguments) (dbody:List Stmt) (dscope:Scope):Prop where
 n0:scope.names[0]? =some (Str.ofString "script", .local)
 nd:(scope.names.map (·.1)).Nodup
 kd:scope.kind= .function
 n5:scope.names[5]? =some (dn, .local)
 d0:dparams.defaults=[]
 k0:dparams.kw_defaults=[]
 an: ∀ env,annTrees dparams none env=[]
 dns:dscope.names=(Str.ofString "thing", .local) :: (nsL.map λ n=>(n, .free)) ++ [(Str.ofString "Ref", .globalImplicit)]
 dnd:(dscope.names.map (·.1)).Nodup
 dkd:dscope.kind= .function
 dco:dscope.isCoroutine=false
 dge:dscope.isGenerator=false
 bind: ∀ qual cl doc pm c' ctv v,bindArgs (fnX dn qual dparams dbody dscope cl .none .none doc pm none (.ref c') ctv) ⟨[v],[]⟩=pure [(Str.ofString "thing",v)]
 clo: ∀ L:Addr,∃ clos,(∀ env:Env,env.cells=cellsFrom (L+1) scope.names []→closureFor dscope env=pure clos)∧ ∀ i nm,nsL[i]? =some nm→ ∃ c,scope.names[10+i]? =some (nm, .cell)∧scope.names.lookup nm=some .cell∧clos.lookup nm=some c∧(cellsFrom (L+1) scope.names []).lookup nm=some c
theorem rq {α:Type} (b:α) {a:α} (h:a=b):a=b:=h
theorem cut {A B:Prop} (a:A) (k:A→B):B:=k a
set_option maxHeartbeats 0 in
inductive LawP (P:Params):Prop
 | mk (oc:Value) (od:Option Addr) (osl:Array (Option Value)) (name qual:Str) (params:Arguments) (dV kV doc pm:Value) (an:Option Addr) (cdv ct:Value) (s1 s2 s3 s4:Stmt) (dn:Str) (dparams:Arguments) (dbody:List Stmt) (dscope:Scope) (dpos:Pos) (rest:List Stmt) (scope:Scope)
  (h:(KK P).lookup 438=some ⟨oc,od, .func (fnOf name qual params (s1 :: s2 :: s3 :: s4 :: .FunctionDef dn dparams dbody [] none [] dscope none dn dpos :: rest) scope dV kV doc pm an cdv ct),osl⟩)
  (f:LawFacts scope dn dparams dbody dscope)
  (k: ∀ g:Gd,Facts g→g.K=KK g.w.params→(∀ xs,SrcOk g xs→RS g false 7 scope lawGa [] lawG0 [s1] (ui xs))∧(∀ v,RS g false 7 scope (lawG0 v) [] lawG1 [s2,s3,s4] (uj v))∧(∀ cv a,RS g false 4 dscope (some a :: (cvL cv).map some ++ List.replicate 1 none) [] (λ _=>[]) dbody (ww cv a))∧(∀ r:LT,DD g r.cv→RS g true 7 scope (lawG2 r) [] (λ _=>[]) rest (wP r)))
theorem Wg (P:Params):LawP P:=by
 refine' ⟨_,_,_,_,_,_,_,_,_,_,_,_,_,_,_,_,_,_,_,_,_,_,_,_,?h,?f,?k⟩
 case h=>rfl
 case f =>
  refine ⟨rfl,by decide +kernel,rfl,rfl,rfl,rfl,λ _=>rfl,rfl,by decide +kernel,rfl,rfl,rfl,λ _ _ _ _ _ _ _=>rfl,λ L=>⟨_,λ env h=>by cases env;cases h;rfl,λ i nm e=> ?_⟩⟩
  match i,e with
  | 0,e=>cases e;exact ⟨_,rfl,rfl,rfl,rfl⟩
  | 1,e=>cases e;exact ⟨_,rfl,rfl,rfl,rfl⟩
  | 2,e=>cases e;exact ⟨_,rfl,rfl,rfl,rfl⟩
  | 3,e=>cases e;exact ⟨_,rfl,rfl,rfl,rfl⟩
  | 4,e=>cases e;exact ⟨_,rfl,rfl,rfl,rfl⟩
  | i+5,e=>simp [nsL] at e
 case k =>
  intro g hf hK
  refine hideP λ P hP=> ?_
  refine cut (A:=Fn g 1 (.ref 35) (ap 2 ya)) (FnB.fn (d:=0) (n:=2) (dv:=[]) (dav:=[]) (fb:=xv) hf hK ?_) λ _=> ?_;rotate_left
  refine cut (A:=Fn g 1 (.ref 152) (ap 2 (λ v0 v1=>zL v0 v1 (.bool false)))) (FnB.fn (d:=0) (n:=3) (dv:=[.bool false]) (dav:=[.bool false]) (fb:=yG) hf hK ?_) λ _=> ?_;rotate_left
  refine cut (A:=Fn g 1 (.ref 152) (ap 3 zL)) (FnB.fn (d:=0) (n:=3) (dv:=[]) (dav:=[]) (fb:=yG) hf hK ?_) λ _=> ?_;rotate_left
  refine cut (A:=Fn g 1 (.ref 173) (ap 2 xF)) (FnB.fn (d:=0) (n:=2) (dv:=[]) (dav:=[]) (fb:=wI) hf hK ?_) λ _=> ?_;rotate_left
  refine cut (A:=Fn g 1 (.ref 180) (ap 1 zx)) (FnB.fn (d:=0) (n:=1) (dv:=[]) (dav:=[]) (fb:=ye) hf hK ?_) λ _=> ?_;rotate_left
  refine cut (A:=Fn g 1 (.ref 227) (ap 1 xQ)) (FnB.fn (d:=0) (n:=1) (dv:=[]) (dav:=[]) (fb:=wv) hf hK ?_) λ _=> ?_;rotate_left
  refine cut (A:=Fn g 1 (.ref 234) (ap 1 y0)) (FnB.fn (d:=0) (n:=1) (dv:=[]) (dav:=[]) (fb:=xJ) hf hK ?_) λ _=> ?_;rotate_left
  refine cut (A:=Fn g 1 (.ref 239) (ap 1 xx)) (FnB.fn (d:=0) (n:=1) (dv:=[]) (dav:=[]) (fb:=xW) hf hK ?_) λ _=> ?_;rotate_left
  refine cut (A:=Fn g 1 (.ref 253) (ap 3 xy)) (FnB.fn (d:=0) (n:=3) (dv:=[]) (dav:=[]) (fb:=xN) hf hK ?_) λ _=> ?_;rotate_left
  refine cut (A:=Fn g 1 (.ref 260) (ap 2 yi)) (FnB.fn (d:=0) (n:=2) (dv:=[]) (dav:=[]) (fb:=yK) hf hK ?_) λ _=> ?_;rotate_left
  refine cut (A:=Fn g 1 (.ref 267) (ap 2 zv)) (FnB.fn (d:=0) (n:=2) (dv:=[]) (dav:=[]) (fb:=yt) hf hK ?_) λ _=> ?_;rotate_left
  refine cut (A:=Fn g 1 (.ref 274) (ap 2 yj)) (FnB.fn (d:=0) (n:=2) (dv:=[]) (dav:=[]) (fb:=yL) hf hK ?_) λ _=> ?_;rotate_left
  refine cut (A:=Fn g 1 (.ref 349) (ap 2 yp)) (FnB.fn (d:=0) (n:=2) (dv:=[]) (dav:=[]) (fb:=xd) hf hK ?_) λ _=> ?_;rotate_left
  refine cut (A:=Fn g 1 (.ref 364) (ap 1 (λ v0=>yX v0 (.int 64) (.int 50) (.int 1000000) (.int 100000) (.int 10000)))) (FnB.fn (d:=0) (n:=6) (dv:=[.int 64 657, .int 50 658, .int 1000000 661, .int 100000 664, .int 10000 667]) (dav:=[.int 64, .int 50, .int 1000000, .int 100000, .int 10000]) (fb:=xX) hf hK ?_) λ _=> ?_;rotate_left
  refine cut (A:=Fn g 1 (.ref 376) (ap 2 zM)) (FnB.fn (d:=0) (n:=2) (dv:=[]) (dav:=[]) (fb:=xe) hf hK ?_) λ _=> ?_;rotate_left
  refine cut (A:=Fn g 1 (.ref 388) (ap 1 y7)) (FnB.fn (d:=0) (n:=1) (dv:=[]) (dav:=[]) (fb:=xK) hf hK ?_) λ _=> ?_;rotate_left
  refine cut (A:=Fn g 1 (.ref 400) (ap 3 yA)) (FnB.fn (d:=0) (n:=3) (dv:=[]) (dav:=[]) (fb:=xL) hf hK ?_) λ _=> ?_;rotate_left
  refine cut (A:=Fn g 1 (.ref 407) (ap 1 yl)) (FnB.fn (d:=0) (n:=1) (dv:=[]) (dav:=[]) (fb:=xz) hf hK ?_) λ _=> ?_;rotate_left
  refine cut (A:=Fn g 2 (.ref 56) (ap 3 yW)) (FnB.fn (d:=1) (n:=3) (dv:=[]) (dav:=[]) (fb:=xc) hf hK ?_) λ _=> ?_;rotate_left
  refine cut (A:=Fn g 2 (.ref 75) (ap 2 xh)) (FnB.fn (d:=1) (n:=2) (dv:=[]) (dav:=[]) (fb:=xw) hf hK ?_) λ _=> ?_;rotate_left
  refine cut (A:=Fn g 2 (.ref 94) (ap 2 xE)) (FnB.fn (d:=1) (n:=2) (dv:=[]) (dav:=[]) (fb:=xI) hf hK ?_) λ _=> ?_;rotate_left
  refine cut (A:=Fn g 2 (.ref 286) (ap 3 zI)) (FnB.fn (d:=1) (n:=3) (dv:=[]) (dav:=[]) (fb:=yo) hf hK ?_) λ _=> ?_;rotate_left
  refine cut (A:=Fn g 2 (.ref 307) (ap 2 zO)) (FnB.fn (d:=1) (n:=2) (dv:=[]) (dav:=[]) (fb:=yN) hf hK ?_) λ _=> ?_;rotate_left
  refine cut (A:=Fn g 2 (.ref 381) (ap 4 yd)) (FnB.fn (d:=1) (n:=4) (dv:=[]) (dav:=[]) (fb:=xf) hf hK ?_) λ _=> ?_;rotate_left
  refine cut (A:=Fn g 2 (.ref 393) (ap 3 yP)) (FnB.fn (d:=1) (n:=3) (dv:=[]) (dav:=[]) (fb:=xY) hf hK ?_) λ _=> ?_;rotate_left
  refine cut (A:=Fn g 3 (.ref 281) (ap 2 zX)) (FnB.fn (d:=2) (n:=2) (dv:=[]) (dav:=[]) (fb:=yM) hf hK ?_) λ _=> ?_;rotate_left
  refine cut (A:=Fn g 3 (.ref 342) (ap 2 yc)) (FnB.fn (d:=2) (n:=2) (dv:=[]) (dav:=[]) (fb:=yF) hf hK ?_) λ _=> ?_;rotate_left
  refine cut (A:=Fn g 3 (.ref 328) (ap 2 yk)) (FnB.fn (d:=2) (n:=2) (dv:=[]) (dav:=[]) (fb:=yO) hf hK ?_) λ _=> ?_;rotate_left
  refine cut (A:=Fn g 3 (.ref 426) (ap 4 y8)) (FnB.fn (d:=2) (n:=4) (dv:=[]) (dav:=[]) (fb:=xM) hf hK ?_) λ _=> ?_;rotate_left
  refine cut (A:=Fn g 4 (.ref 187) (ap 2 zH)) (FnB.fn (d:=3) (n:=2) (dv:=[]) (dav:=[]) (fb:=yn) hf hK ?_) λ _=> ?_;rotate_left
  refine cut (A:=Fn g 4 (.ref 194) (ap 1 zW)) (FnB.fn (d:=3) (n:=1) (dv:=[]) (dav:=[]) (fb:=yr) hf hK ?_) λ _=> ?_;rotate_left
  refine cut (A:=Fn g 4 (.ref 201) (ap 1 yb)) (FnB.fn (d:=3) (n:=1) (dv:=[]) (dav:=[]) (fb:=yC) hf hK ?_) λ _=> ?_;rotate_left
  refine cut (A:=Fn g 4 (.ref 293) (ap 3 zz)) (FnB.fn (d:=3) (n:=3) (dv:=[]) (dav:=[]) (fb:=yD) hf hK ?_) λ _=> ?_;rotate_left
  refine cut (A:=Fn g 5 (.ref 300) (ap 2 zQ)) (FnB.fn (d:=4) (n:=2) (dv:=[]) (dav:=[]) (fb:=yE) hf hK ?_) λ _=> ?_;rotate_left
  refine cut (A:=Fn g 5 (.ref 414) (ap 6 xR)) (FnB.fn (d:=4) (n:=6) (dv:=[]) (dav:=[]) (fb:=wx) hf hK ?_) λ _=> ?_;rotate_left
  refine cut (A:=Fn g 6 (.ref 419) (ap 6 xS)) (FnB.fn (d:=5) (n:=6) (dv:=[]) (dav:=[]) (fb:=wy) hf hK ?_) λ _=> ?_;rotate_left
  refine cut (A:=Fn g 7 (.ref 433) (ap 5 xA)) (FnB.fn (d:=6) (n:=5) (dv:=[]) (dav:=[]) (fb:=xZ) hf hK ?_) λ _=> ?_;rotate_left
  refine hP ⟨λ xs hsrc=> ?_,λ v=> ?_,λ cv a=> ?_,λ r hdd=> ?_⟩
  rotate_left 3
  refine cut (A:=Fn g 6 (.ref 321) (ap 2 (zY r.cv))) (FnB.fn (d:=5) (n:=2) (dv:=[]) (dav:=[]) (fb:=(yu r.cv)) hf hK ?_) λ _=> ?_;rotate_left
  refine cut (A:=Fn g 7 (.ref 314) (ap 2 (zN r.cv))) (FnB.fn (d:=6) (n:=2) (dv:=[]) (dav:=[]) (fb:=(yv r.cv)) hf hK ?_) λ _=> ?_;rotate_left
  all_goals try refine FnB.mk rfl (by kernel_rfl) (by intro _ _;repeat constructor) rfl (by intro s X;first | exact λ _=>BindsTo.of_eq rfl | exact λ _ _=>BindsTo.of_eq rfl | exact λ _ _ _=>BindsTo.of_eq rfl | exact λ _ _ _ _=>BindsTo.of_eq rfl | exact λ _ _ _ _ _=>BindsTo.of_eq rfl | exact λ _ _ _ _ _ _=>BindsTo.of_eq rfl | exact λ _ _=>binds_K (T:=145) X rfl (by rfl) (by rfl) rfl rfl | exact λ _ _ _=>binds_K (T:=145) X rfl (by rfl) (by rfl) rfl rfl | exact λ _=>binds_K (T:=357) X rfl (by rfl) (by rfl) rfl rfl) rfl (by decide) (by decide +kernel) (by decide +kernel) rfl rfl rfl (by (repeat intro _);rfl) ?_
  unfold lawG2 wP
  rotate_left
  refine λ v0 v1=>(?_:RS g false 0 _ [some v0,some v1] _ _ _ (xv v0 v1));rotate_left
  refine λ v0 v1 v2=>(?_:RS g false 0 _ [some v0,some v1,some v2] _ _ _ (yG v0 v1 v2));rotate_left
  refine λ v0 v1 v2=>(?_:RS g false 0 _ [some v0,some v1,some v2] _ _ _ (yG v0 v1 v2));rotate_left
  refine λ v0 v1=>(?_:RS g false 0 _ [some v0,some v1] _ _ _ (wI v0 v1));rotate_left
  refine λ v0=>(?_:RS g false 0 _ [some v0] _ _ _ (ye v0));rotate_left
  refine λ v0=>(?_:RS g false 0 _ [some v0,none,none,none,none,none,none] _ _ _ (wv v0));rotate_left
  refine λ v0=>(?_:RS g false 0 _ [some v0,none,none,none,none,none] _ _ _ (xJ v0));rotate_left
  refine λ v0=>(?_:RS g false 0 _ [some v0,none,none,none] _ _ _ (xW v0));rotate_left
  refine λ v0 v1 v2=>(?_:RS g false 0 _ [some v0,some v1,some v2] _ _ _ (xN v0 v1 v2));rotate_left
  refine λ v0 v1=>(?_:RS g false 0 _ [some v0,some v1] _ _ _ (yK v0 v1));rotate_left
  refine λ v0 v1=>(?_:RS g false 0 _ [some v0,some v1] _ _ _ (yt v0 v1));rotate_left
  refine λ v0 v1=>(?_:RS g false 0 _ [some v0,some v1] _ _ _ (yL v0 v1));rotate_left
  refine λ v0 v1=>(?_:RS g false 0 _ [some v0,some v1] _ _ _ (xd v0 v1));rotate_left
  refine λ v0 v1 v2 v3 v4 v5=>(?_:RS g false 0 _ [some v0,some v1,some v2,some v3,some v4,some v5] _ _ _ (xX v0 v1 v2 v3 v4 v5));rotate_left
  refine λ v0 v1=>(?_:RS g false 0 _ [some v0,some v1,none,none,none,none,none,none,none,none] _ _ _ (xe v0 v1));rotate_left
  refine λ v0=>(?_:RS g false 0 _ [some v0,none,none] _ _ _ (xK v0));rotate_left
  refine λ v0 v1 v2=>(?_:RS g false 0 _ [some v0,some v1,some v2,none,none,none,none,none,none,none,none] _ _ _ (xL v0 v1 v2));rotate_left
  refine λ v0=>(?_:RS g false 0 _ [some v0,none,none] _ _ _ (xz v0));rotate_left
  refine λ v0 v1 v2=>(?_:RS g false 1 _ [some v0,some v1,some v2,none] _ _ _ (xc v0 v1 v2));rotate_left
  refine λ v0 v1=>(?_:RS g false 1 _ [some v0,some v1,none] _ _ _ (xw v0 v1));rotate_left
  refine λ v0 v1=>(?_:RS g false 1 _ [some v0,some v1,none] _ _ _ (xI v0 v1));rotate_left
  refine λ v0 v1 v2=>(?_:RS g false 1 _ [some v0,some v1,some v2,none,none] _ _ _ (yo v0 v1 v2));rotate_left
  refine λ v0 v1=>(?_:RS g false 1 _ [some v0,some v1] _ _ _ (yN v0 v1));rotate_left
  refine λ v0 v1 v2 v3=>(?_:RS g false 1 _ [some v0,some v1,some v2,some v3,none,none,none,none,none,none] _ _ _ (xf v0 v1 v2 v3));rotate_left
  refine λ v0 v1 v2=>(?_:RS g false 1 _ [some v0,some v1,some v2,none,none,none,none,none,none,none] _ _ _ (xY v0 v1 v2));rotate_left
  refine λ v0 v1=>(?_:RS g false 2 _ [some v0,some v1,none,none] _ _ _ (yM v0 v1));rotate_left
  refine λ v0 v1=>(?_:RS g false 2 _ [some v0,some v1,none,none,none] _ _ _ (yF v0 v1));rotate_left
  refine λ v0 v1=>(?_:RS g false 2 _ [some v0,some v1,none,none,none,none,none,none,none,none] _ _ _ (yO v0 v1));rotate_left
  refine λ v0 v1 v2 v3=>(?_:RS g false 2 _ [some v0,some v1,some v2,some v3,none,none,none,none,none,none] _ _ _ (xM v0 v1 v2 v3));rotate_left
  refine λ v0 v1=>(?_:RS g false 3 _ [some v0,some v1,none] _ _ _ (yn v0 v1));rotate_left
  refine λ v0=>(?_:RS g false 3 _ [some v0,none] _ _ _ (yr v0));rotate_left
  refine λ v0=>(?_:RS g false 3 _ [some v0,none] _ _ _ (yC v0));rotate_left
  refine λ v0 v1 v2=>(?_:RS g false 3 _ [some v0,some v1,some v2,none] _ _ _ (yD v0 v1 v2));rotate_left
  refine λ v0 v1=>(?_:RS g false 4 _ [some v0,some v1,none] _ _ _ (yE v0 v1));rotate_left
  refine λ v0 v1 v2 v3 v4 v5=>(?_:RS g false 4 _ [some v0,some v1,some v2,some v3,some v4,some v5,none,none,none,none] _ _ _ (wx v0 v1 v2 v3 v4 v5));rotate_left
  refine λ v0 v1 v2 v3 v4 v5=>(?_:RS g false 5 _ [some v0,some v1,some v2,some v3,some v4,some v5,none,none,none,none,none,none,none,none,none,none] _ _ _ (wy v0 v1 v2 v3 v4 v5));rotate_left
  refine λ v0 v1 v2 v3 v4=>(?_:RS g false 6 _ [some v0,some v1,some v2,some v3,some v4,none,none,none,none,none,none,none,none,none,none,none,none,none] _ _ _ (xZ v0 v1 v2 v3 v4));rotate_left
  unfold lawGa lawG0 ui;rotate_left
  unfold lawG0 lawG1 uj;rotate_left
  unfold ww cvL;simp only [List.map_cons,List.map_nil,List.replicate,List.cons_append,List.nil_append];rotate_left
  refine λ v0 v1=>(?_:RS g false 5 _ [some v0,some v1] _ _ _ (yu r.cv v0 v1));rotate_left
  refine λ v0 v1=>(?_:RS g false 6 _ [some v0,some v1,none,none,none,none] _ _ _ (yv r.cv v0 v1));rotate_left
  repeat' (first
   | ((with_reducible show RE _ _ _ _ _ _ _);first
    | (with_reducible first | refine Vi ?_ | refine V9 ‹_› ?_ ?_ | exact V7 | exact V8 | exact g8 | exact Jd | exact Ko | exact Kq)
    | ((with_reducible show RE _ _ _ _ _ (.Call (.Name _ _) _ _ _) _);with_reducible first | refine Vg ‹_› ‹_› ?_ ?_ ?_ ?_ | refine UC ‹_› ‹_› ?_ ?_ ?_ ?_ | refine JK ‹_› ‹_› ?_ ?_ ?_ ?_ | refine JL ‹_› ‹_› ?_ ?_ ?_ ?_ | refine JM ‹_› ‹_› ?_ ?_ ?_ ?_ | refine KG ‹_› ‹_› ?_ ?_ ?_ ?_ | refine JN ‹_› ‹_› ?_ ?_ ?_ ?_ | refine X8 ‹_› ‹_› ?_ ?_ ?_ ?_ | refine Vh ‹_› ‹_› ?_ ?_ ?_ ?_ | refine UD ‹_› ‹_› ?_ ?_ ?_ ?_ | refine JO ‹_› ?_ ?_ ?_ | refine JP ‹_› ?_ ?_ ?_ | refine JQ ‹_› ?_ ?_ ?_ | refine JR ‹_› ?_ ?_ ?_ | refine X9 ‹_› ?_ ?_ ?_ | refine Wa ‹_› ?_ ?_ ?_ | refine Zj ‹_› ‹_› ?_ ?_ ?_ | refine Zk ‹_› ‹_› ?_ ?_ ?_ | refine Zl ‹_› ‹_› ?_ ?_ ?_ | refine Wc ‹_› ‹_› ?_ ?_ ?_ | refine Zm ‹_› ‹_› ?_ ?_ ?_ | refine Y6 ‹_› ‹_› ?_ ?_ ?_ | refine qO ‹_› ‹_› ?_ ?_ ?_ | refine gr ‹_› ‹_› ?_ ?_ ?_ | refine qT ‹_› ‹_› ?_ ?_ ?_ | refine gt ‹_› ‹_› ?_ ?_ ?_ | refine Zn ‹_› ‹_› ?_ ?_ ?_ | refine Zo ‹_› ‹_› ?_ ?_ ?_ | refine bt ‹_› ‹_› ?_ ?_ ?_ | refine gu ‹_› ‹_› ?_ ?_ ?_ | refine bw ‹_› ‹_› ?_ ?_ ?_ | refine Zp ‹_› ‹_› ?_ ?_ ?_ | refine gv ‹_› ‹_› ?_ ?_ ?_ | refine Y7 ‹_› ‹_› ?_ ?_ ?_ | refine qn ‹_› ‹_› ?_ ?_ ?_ | refine Zq ‹_› ‹_› ?_ ?_ ?_ | refine We ‹_› ‹_› ?_ ?_ ?_ | refine Wf ‹_› ‹_› ?_ ?_ ?_ | refine Y8 ‹_› ‹_› ?_ ?_ ?_)
    | ((with_reducible show RE _ _ _ _ _ (.Call _ _ _ _) _);with_reducible first | refine bq ‹_› ‹_› ?_ ?_ ?_ ?_ | refine uK ‹_› ‹_› ?_ ?_ ?_ ?_ | refine qQ ‹_› ‹_› ?_ ?_ ?_ ?_ | refine jB ‹_› ‹_› ?_ ?_ ?_ ?_ | refine qS ‹_› ‹_› ?_ ?_ ?_ ?_ | refine u0 ‹_› ‹_› ?_ ?_ ?_ ?_ | refine qV ‹_› ‹_› ?_ ?_ ?_ ?_ | refine qX ‹_› ‹_› ?_ ?_ ?_ ?_ | refine qZ ‹_› ‹_› ?_ ?_ ?_ ?_ | refine u2 ‹_› ‹_› ?_ ?_ ?_ ?_ | refine jD ‹_› ‹_› ?_ ?_ ?_ ?_ | refine qp ‹_› ‹_› ?_ ?_ ?_ ?_ | refine qs ‹_› ‹_› ?_ ?_ ?_ ?_ | refine qv ‹_› ‹_› ?_ ?_ ?_ ?_ | refine jF ‹_› ‹_› ?_ ?_ ?_ ?_ | refine jH ‹_› ‹_› ?_ ?_ ?_ ?_ | refine UE ?_ ?_ ?_ ?_ | refine UF ?_ ?_ ?_ ?_ | refine XW ?_ ?_ ?_ ?_ | refine Ur ?_ ?_ | refine UG ?_ ?_ ?_ ?_ ?_ ?_ | refine UH ?_ ?_ ?_ ?_ ?_ ?_ | refine UJ ‹_› ‹_› ‹_› ?_ ?_ ?_ ?_)
    | (with_reducible first | refine Je ?_ ?_ ?_ ?_ | refine Jj ?_ | refine Ua ?_ | refine WY ?_ ?_ ?_ | refine XV ?_ ?_ | refine Ug ?_ ?_ | refine Jp ?_ ?_ | refine Jz ?_ ?_ | refine JS ‹_› ?_ | refine Jq ?_ ?_ ?_ | refine Uc ?_ ?_ | refine ju ?_ ?_ | refine Jo ?_ ?_ ?_ | refine' Vf ‹_› (by first | exact rq q0 (by decide +kernel) | exact rq q1 (by decide +kernel) | exact rq q2 (by decide +kernel) | exact rq q3 (by decide +kernel) | exact rq q4 (by decide +kernel) | exact rq q5 (by decide +kernel)) ?_ ?_ ?_ ?_ ?_ ?_ ?_))
   | ((with_reducible show RS _ _ _ _ _ _ _ _ _);first
    | (with_reducible first | refine Ul ‹_› ?_ ?_ ?_ ?_ | refine Uk ?_ ?_ ?_ | refine JA ?_ | refine JC ?_ ?_ | refine JD ?_ | exact Ku | exact Uh | refine Ui ?_ | refine Uj ?_ | refine Um ?_ ?_ ?_ ?_ ?_ | refine JE ‹_› ?_ ?_ ?_ ?_ | refine XZ ?_ ?_ ?_ ?_)
    | (with_reducible refine' X2 ‹_› (by first | exact rq q3 (by decide +kernel) | exact rq r1 (by decide +kernel) | exact rq r2 (by decide +kernel) | exact rq r3 (by decide +kernel) | exact rq r4 (by decide +kernel)) ?_ ?_ ?_ (by first | exact z8 0 (by decide +kernel) | exact z8 1 (by decide +kernel) | exact z8 5 (by decide +kernel) | exact z8 6 (by decide +kernel) | exact z8 7 (by decide +kernel) | exact z8 8 (by decide +kernel) | exact z8 9 (by decide +kernel)) ?_ ?_ ?_ ?_ ?_ ?_)
    | (with_reducible refine' Up ?_ ?_ ?_ ?_)
    | (with_reducible first | refine' Uy (ms:=[]) ?_ ?_ ?_ ?_ ?_ ?_ ?_ ?_ ?_ ?_ | refine' Ux ?_ ?_ (by first | exact z8 0 (by decide +kernel) | exact z8 1 (by decide +kernel) | exact z8 5 (by decide +kernel) | exact z8 6 (by decide +kernel) | exact z8 7 (by decide +kernel) | exact z8 8 (by decide +kernel) | exact z8 9 (by decide +kernel)) (by first | exact z8 0 (by decide +kernel) | exact z8 1 (by decide +kernel) | exact z8 5 (by decide +kernel) | exact z8 6 (by decide +kernel) | exact z8 7 (by decide +kernel) | exact z8 8 (by decide +kernel) | exact z8 9 (by decide +kernel)) ?_ ?_ ?_ ?_ ?_)
    | (with_reducible refine JB ?_))
   | kernel_rfl
   | (with_reducible first | exact wo | refine yV ?_ ?_ ?_ | refine Jk ?_ | refine Jl ?_ | refine Jn ?_ ?_ | refine Kn ?_ ?_ | refine Ub ?_ | refine Jm ?_ | refine WZ ?_ ?_)
   | ((with_reducible show R1 _ _ _ _ _ _ _ _ _);with_reducible first | refine Kt ?_ ?_ ?_ | refine' Uv ‹_› ?_ ?_ ?_ ?_ ?_ ?_ ?_ | refine' Uu ‹_› ?_ ?_ ?_ ?_ ?_ ?_ | refine' Ut ‹_› ?_ ?_ ?_ ?_ ?_ | refine Vb ?_ ?_ ?_)
   | ((with_reducible show Stores _ _ _ _);first | exact vE 1 (by decide +kernel) | exact vE 2 (by decide +kernel) | exact vE 3 (by decide +kernel) | exact vE 4 (by decide +kernel) | exact vE 5 (by decide +kernel) | exact vE 6 (by decide +kernel) | exact vE 7 (by decide +kernel) | exact vE 8 (by decide +kernel) | exact vE 9 (by decide +kernel) | exact vE 11 (by decide +kernel) | exact ug 1 (by decide +kernel) | exact ug 4 (by decide +kernel) | exact ug 5 (by decide +kernel) | exact ug 9 (by decide +kernel) | exact ug 10 (by decide +kernel) | exact ug 11 (by decide +kernel) | exact ug 12 (by decide +kernel) | exact ug 13 (by decide +kernel) | exact ug 14 (by decide +kernel))
   | ((with_reducible show Sub _ _);first | exact Sub.refl | exact Sub.nil | refine Sub.same ?_ | refine Sub.drop ?_)
   | ((with_reducible show Op2 _ _ _);with_reducible first | exact Un | exact Uo | exact Js | exact Jg | exact Jh | exact Ji)
   | (with_reducible first | exact Kl | exact Km | exact Kr | exact Ks | exact Jr | exact TakesAt.nil | exact CT.nil | refine TakesAt.none ?_ | refine CT.one ?_)
   | ((with_reducible show TakesAt _ _ _ _ _);first | refine tk 0 rfl (by decide +kernel) rfl ?_ | refine tk 1 rfl (by decide +kernel) rfl ?_ | refine tk 4 rfl (by decide +kernel) rfl ?_ | refine tk 5 rfl (by decide +kernel) rfl ?_ | refine tk 9 rfl (by decide +kernel) rfl ?_ | refine tk 10 rfl (by decide +kernel) rfl ?_ | refine tk 12 rfl (by decide +kernel) rfl ?_)
   | ((with_reducible show CScope _ _ _ _);exact ⟨rfl,rfl,by decide +kernel,by decide +kernel,by decide +kernel,rfl⟩)
   | (with_reducible refine UA ‹_› ?_)
   | decide
   | exact Nat.le_of_ble_eq_true rfl
   | (intro _;first | with_reducible show RS _ _ _ _ _ _ _ _ _ | with_reducible show RE _ _ _ _ _ _ _ | with_reducible show RC _ _ _ _ _ _ _ | rfl | exact ⟨_,rfl⟩ | (intro _;first | with_reducible show RS _ _ _ _ _ _ _ _ _ | rfl))
   | (intro env h;cases env;cases h;kernel_rfl)
   | (intro _ _ _ _ _ _;with_reducible show RS _ _ _ _ _ _ _ _ _)
   | (with_unfolding_all rfl))
end Mine
end
noncomputable section
open PySem PySem.W PySem.Calls PyProof.Rows
namespace Mine
theorem vz {M:Model} {A:Around} {env:Env} {Q:Flow→Shared→Prop} {E:Value→Shared→Prop} {rest:List Stmt} :
  ∀ (l:List Stmt) (s:Shared),wpAny M A (execs l env) (λ f s'=>match f with | .next=>wpAny M A (execs rest env) Q E s' | f=>Q f s') E s→wpAny M A (execs (l ++ rest) env) Q E s:=by
 intro l
 have key: ∀ (l:List Stmt) (Γ:Ctx) (hΓ:Γ.In A) (s:Shared) p,Sem.wp M Γ (execs l env) (λ f _ s'=>match f with | .next=>wpAny M A (execs rest env) Q E s' | f=>Q f s') (λ e _ s'=>E e s') p s→Sem.wp M Γ (execs (l ++ rest) env) (λ a _ s'=>Q a s') (λ e _ s'=>E e s') p s:=by
  intro l Γ hΓ
  induction l with
  | nil=>intro s p h;exact (show wpAny M A (execs rest env) Q E s from h) Γ p hΓ
  | cons st l ih =>
   intro s p h
   rw [execs_cons,Sem.wp_bind'] at h
   rw [List.cons_append,execs_cons,Sem.wp_bind']
   refine Sem.wp_mono M Γ _ (λ f p' s' h'=> ?_) (λ _ _ _ h'=>h') _ _ h
   cases f with
   | next=>exact ih s' p' h'
   | _=>exact h'
 exact λ s h Γ p hΓ=>key l Γ hΓ s p (h Γ p hΓ)
theorem VR.none_any {fd:Option Addr} {adr:List Addr} {v:Value} {a:AV} (h:VR Option.none adr v a):VR fd adr v a:=by
 cases h with
 | obj h=>exact .obj h
 | dstr h=>exact za h
 | _=>constructor
theorem CR.none_any {g g₁:Gd} (e1:g₁.prog=g.prog) (e2:g₁.w=g.w) {fd:Option Addr} {adr:List Addr} {c:Led} {o:AO} (h:CR g Option.none adr c o):CR g₁ fd adr c o:=by
 cases h with
 | inst h1 h2 h3=>exact .inst (h1.mono λ _ _ h=>⟨h.1,h.2.none_any⟩) h2 h3
 | list h1 h2=>exact .list (h1.mono λ _ _ h=>h.none_any) h2
 | tup h1 h2=>exact .tup (h1.mono λ _ _ h=>h.none_any) h2
 | dI h1 h2 h3 h4=>exact .dI (by rw [e1,e2];exact h1) (h2.mono λ _ _ h=>⟨h.1,h.2.none_any⟩) h3 h4
 | dS h1 h2 h3 h4=>exact .dS (by rw [e1,e2];exact h1) (h2.mono λ _ _ h=>⟨h.1,h.2.none_any⟩) h3 h4
noncomputable def withCo (g:Gd) (co:Led→(List Addr→Prop)→Option Addr→Prop):Gd:= {g with co:=co}
section
variable {g:Gd} {x:Cx} {Γ:Cx0} {d:Nat} {sc:Scope}
noncomputable def Bears (x:Cx) (Γ:Cx0) (clos:List (Str × Addr)) (ns:List Str) (avs:List AV):Prop :=
 ∀ (i:Nat) (nm:Str) (av:AV),ns[i]? =some nm→avs[i]? =some av→ ∃ (j:Nat) (c:Addr),x.env.scope.names[j]? =some (nm,NameKind.cell)∧x.env.scope.names.lookup nm=some NameKind.cell∧Γ[j]? =some (some av)∧clos.lookup nm=some c∧x.env.cells.lookup nm=some c
set_option tactic.hygienic true in
theorem Wh {clos:List (Str × Addr)} {ns:List Str} {avs:List AV} (B:Bears x Γ clos ns avs) {μ:Mem} {adr:List Addr} {s:Shared} {cs:List Led} {pl:Led} {m:Str→Option Value} (S:StE g x Γ μ adr s cs pl m) :
  ∃ es:Led,(∀ p∈es,p∈pl∧ ∃ v,p.2.data= .cell v)∧ ∀ (i:Nat) nm av,ns[i]? =some nm→avs[i]? =some av→ ∃ c o v,clos.lookup nm=some c∧(c,o)∈es∧o.data= .cell (some v)∧VR x.fd adr v av:=by
 refine ⟨pl.filter λ p=>match p.2.data with | .cell _=>true | _=>false,λ p hp=> ?_,λ i nm av e1 e2=> ?_⟩
 ·rw [List.mem_filter] at hp
  refine ⟨hp.1,?_⟩
  have:=hp.2
  revert this
  cases p.2.data with
  | cell v=>exact λ _=>⟨v,rfl⟩
  | _=>exact nofun
 ·obtain ⟨j,c,a1,a1',a2,a3,a4⟩:=B i nm av e1 e2
  obtain ⟨n,k,v,b1,b2,b3⟩:=S.V j av a2
  rw [a1] at b1
  cases b1
  cases b2 with
  | cell c1 c2 c3 =>
   rw [a4] at c1
   cases c1
   refine hideP λ PZ hZ=> ?_
   obtain ⟨o',v₀,d1,d2⟩:=S.cl _ _ a1' a4
   rename_i o
   have hoo:o=o':=by
    have h1:=(S.N _ (List.mem_append_right _ d1)).1
    have h1':s.heap.get? c=some o':=h1
    rcases c2 with q | q
    ·have:=S.F.keep _ _ q
     rw [h1'] at this
     obtain rfl:=Option.some.inj this;rfl
    ·have h2:s.heap.get? c=some o:=(S.N _ (List.mem_append_right _ q)).1
     rw [h1'] at h2
     obtain rfl:=Option.some.inj h2;rfl
   subst hoo
   refine hZ ?_
   refine ⟨c,o,v,a3,List.mem_filter.mpr ⟨d1,?_⟩,c3,b3⟩
   show (match o.data with | .cell _=>true | _=>false)=true
   rw [c3]
theorem Vj {name:Str} {params:Arguments} {body rest:List Stmt} {scope:Scope} {pos:Pos} {ns:List Str} {avs:List AV} {clos:List (Str × Addr)} {cn:Str} {L a c P:Addr} {ccd:Value} {cl:List (Str × Addr)} {i:Nat}
  {Q:Flow→Shared→Prop} {E:Value→Shared→Prop}
  (hx:x.Ok g d) (hfd:x.fd=none) (hfr:x.env=x.fenv) (henv:x.env=envX cn sc L a ccd cl) (hcd:ccd= .ref c) (C:CodeHd x.h₀ c P) (hP:(P,tabObj #[])∈x.need) (hP0:x.h₀.get? P=Option.none)
  (hd0:params.defaults=[]) (hk0:params.kw_defaults=[]) (ha:annTrees params Option.none x.env=[]) (hcl:closureFor scope x.env=pure clos) (B:Bears x Γ clos ns avs) (hn:sc.names[i]? =some (name, .local))
  {μ:Mem} {adr:List Addr} {s:Shared} (S:St g x Γ μ adr s)
  (K: ∀ x₁:Cx,x₁.Ok (withCo g (Clo name (qualnameIn x.env name name) params body scope ns avs)) d→x₁.env=x.env→x₁.fenv=x.fenv→x₁.fz=true→x₁.h₀=x.h₀→x₁.L=x.L→x₁.A=x.A→x₁.s0=x.s0→(∃ ps,(P,tabObj ps)∈x₁.need) →
   ∀ s₁,St (withCo g (Clo name (qualnameIn x.env name name) params body scope ns avs)) x₁ (Γ.set i (some .dstr)) μ adr s₁→wpAny (model g.prog g.w) x.A (execs rest x.env) Q E s₁) :
  wpAny (model g.prog g.w) x.A (execs (.FunctionDef name params body [] none [] scope none name pos :: rest) x.env) Q E s:=by
 obtain ⟨cs,pl,m,S⟩:=S
 refine wpAny_execs_cons (nestDef_K hd0 hk0 ha ?_)
 refine hideP λ PZ hZ=> ?_
 have hPpl:(P,tabObj #[])∈pl:=(S.ex _ hP).resolve_left (by rw [hP0];exact nofun)
 obtain ⟨pa,pb,hpl⟩:=List.append_of_mem hPpl
 have hnd:=S.nd
 have hN:=S.N
 rw [hpl,← List.append_assoc] at hnd hN
 have hL:x.env.frame=some L:=by rw [henv]
 have hL':x.L=L:=by have:=hx.ef;rw [hL] at this;obtain rfl:=Option.some.inj this;rfl
 have cells:=Wh B S
 obtain ⟨es,hes,hbe⟩:=cells
 refine hZ ?_
 rw [henv] at hcl ⊢
 rw [hL'] at hN
 refine nest_K (by rw [← hL'];exact S.F) hN hx.top C hcd (ZU hnd) (by exact True.intro) (by rfl) hcl λ f c' oc vs t ctv doc h' tk F' N' d1 d2 l1 l2=> ?_
 rw [← henv] at hcl d2 N' ⊢
 let need₁:Led:=(f,fnMade name (qualnameIn x.env name name) params body scope clos doc ((g.mg "__name__").getD .none) c' ctv) :: (c',oc) :: (P,tabObj (#[] ++ #[rawInt pos.line,rawInt pos.col, .ref c'])) :: es
 let co₁:=Clo name (qualnameIn x.env name name) params body scope ns avs
 let x₁:Cx:= {x with fd:=some f,need:=need₁,fact:=λ adr'=>adr <+: adr',lks:=[],fz:=true,km:=Option.none}
 have hsub: ∀ p∈es,p∈(cs.flatten ++ pa) ++ (P,tabObj (#[] ++ #[rawInt pos.line,rawInt pos.col, .ref c'])) :: pb:=λ p hp=>by
  obtain ⟨h1,v,h2⟩:=hes p hp
  rw [hpl,List.mem_append,List.mem_cons] at h1
  rcases h1 with h1 | rfl | h1
  ·exact List.mem_append_left _ (List.mem_append_right _ h1)
  ·cases h2
  ·exact List.mem_append_right _ (.tail _ h1)
 have hok:x₁.Ok (withCo g co₁) d:=by
  refine ⟨hx.below,hx.kin,hx.top,hx.frames,hx.hnd,hx.fL,hx.floc,hx.fk,hx.eg,hx.ek,hx.eb,hx.ef,hx.nd,hx.dep,hx.un,λ a b p h=>h.trans p,λ _=>rfl,hx.ci,hx.cs,?_,λ h=>by cases h⟩
  refine ⟨f,doc,_,c',ctv,oc,vs,t,clos,rfl, .head _, .tail _ (.head _),d1,d2,λ i nm av e1 e2=> ?_⟩
  obtain ⟨c₁,o₁,v₁,b1,b2,b3,b4⟩:=hbe i nm av e1 e2
  exact ⟨c₁,o₁,v₁,b1, .tail _ (.tail _ (.tail _ b2)),b3,λ adr' p=>by rw [hfd] at b4;exact (b4.none_any).pre p⟩
 have keysP:((cs.flatten ++ pa) ++ (P,tabObj (#[] ++ #[rawInt pos.line,rawInt pos.col, .ref c'])) :: pb).map (·.1)=((cs.flatten ++ pa) ++ (P,tabObj #[]) :: pb).map (·.1):=by simp
 have S₁:St (withCo g co₁) x₁ Γ μ adr {s with heap:=h',toks:=tk}:=by
  refine ⟨cs,(f,fnMade name (qualnameIn x.env name name) params body scope clos doc ((g.mg "__name__").getD .none) c' ctv) :: (c',oc) :: (pa ++ (P,tabObj (#[] ++ #[rawInt pos.line,rawInt pos.col, .ref c'])) :: pb),m,?_⟩
  refine ⟨by rw [← hL'] at F';exact F',?_,?_,S.ha,?_,?_,S.gens,S.drawn,S.os,?_,List.prefix_refl _,λ p hp=>(by cases hp),?_,λ m₀ h=>by cases h⟩
  ·intro p hp
   rw [show x₁.L=L from hL']
   refine N' p ?_
   simp only [List.mem_append,List.mem_cons] at hp ⊢
   rcases hp with h | h | h | h | h | h
   ·exact .inr (.inr (.inl (.inl h)))
   ·exact .inl h
   ·exact .inr (.inl h)
   ·exact .inr (.inr (.inl (.inr h)))
   ·exact .inr (.inr (.inr (.inl h)))
   ·exact .inr (.inr (.inr (.inr h)))
  ·have h1:((f,fnMade name (qualnameIn x.env name name) params body scope clos doc ((g.mg "__name__").getD .none) c' ctv) :: (c',oc) :: ((cs.flatten ++ pa) ++ (P,tabObj (#[] ++ #[rawInt pos.line,rawInt pos.col, .ref c'])) :: pb)).map (·.1) |>.Nodup:=by
    simp only [List.map_cons,List.nodup_cons,List.mem_cons,not_or]
    have lt: ∀ k∈((cs.flatten ++ pa) ++ (P,tabObj (#[] ++ #[rawInt pos.line,rawInt pos.col, .ref c'])) :: pb).map (·.1),k < c':=λ k hk=>by
     rw [keysP,List.mem_map] at hk
     obtain ⟨q,hq,rfl⟩:=hk
     exact l1 q hq
    refine ⟨⟨Nat.ne_of_gt l2,λ q=>Nat.lt_asymm l2 (lt _ q)⟩,λ q=>Nat.lt_irrefl _ (lt _ q),by rw [keysP];exact hnd⟩
   refine (List.Perm.nodup_iff (List.Perm.map _ ?_)).mp h1
   rw [List.append_assoc]
   refine (List.Perm.trans ?_ List.perm_middle.symm)
   refine List.Perm.cons _ ?_
   exact (List.perm_middle (l₁:=cs.flatten)).symm
  ·have hC:=S.C
   rw [hfd] at hC
   exact hC.mono λ _ _ h=>CR.none_any (g:=g) (g₁:=withCo g co₁) rfl rfl h
  ·intro i av e
   obtain ⟨n,k,v,a1,a2,a3⟩:=S.V i av e
   have mem': ∀ q∈pl,q.1≠P→q∈(f,fnMade name (qualnameIn x.env name name) params body scope clos doc ((g.mg "__name__").getD .none) c' ctv) :: (c',oc) :: (pa ++ (P,tabObj (#[] ++ #[rawInt pos.line,rawInt pos.col, .ref c'])) :: pb):=λ q hq hne=>by
    rw [hpl,List.mem_append,List.mem_cons] at hq
    simp only [List.mem_append,List.mem_cons]
    rcases hq with h | h | h
    ·exact .inr (.inr (.inl h))
    ·rw [h] at hne;exact (hne rfl).elim
    ·exact .inr (.inr (.inr (.inr h)))
   have neP: ∀ (c:Addr) (o:Obj) v,(c,o)∈pl→o.data= .cell v→c≠P:=λ c o v hm hd e=>by
    subst e
    have h1:s.heap.get? c=some o:=(S.N _ (List.mem_append_right _ hm)).1
    have h2:s.heap.get? c=some (tabObj #[]):=(S.N _ (List.mem_append_right _ hPpl)).1
    rw [h1] at h2;obtain rfl:=Option.some.inj h2;cases hd
   refine ⟨n,k,v,a1,?_,by rw [hfd] at a3;exact a3.none_any⟩
   cases a2 with
   | loc b1 b2=>exact .loc b1 b2
   | cloc b1 b2 b3 b4 =>
    refine .cloc (mem' _ b1 ?_) b2 b3 b4
    intro e
    have h1:=(S.N _ (List.mem_append_right _ b1)).1
    have h2:s.heap.get? P=some (tabObj #[]):=(S.N _ (List.mem_append_right _ hPpl)).1
    rw [e,h2] at h1;obtain rfl:=Option.some.inj h1;cases b2
   | cell b1 b2 b3=>exact .cell b1 (b2.imp id λ h=>mem' _ h (neP _ _ _ h b3)) b3
   | free b1 b2 b3=>exact .free b1 (b2.imp id λ h=>mem' _ h (neP _ _ _ h b3)) b3
  ·intro p hp
   right
   simp only [need₁,x₁,List.mem_cons] at hp
   rcases hp with h | h | h | h
   ·exact List.mem_cons.mpr (.inl h)
   ·exact .tail _ (List.mem_cons.mpr (.inl h))
   ·exact .tail _ (.tail _ (List.mem_append_right _ (List.mem_cons.mpr (.inl h))))
   ·obtain ⟨h1,v,h2⟩:=hes p h
    rw [hpl,List.mem_append,List.mem_cons] at h1
    rcases h1 with h1 | rfl | h1
    ·exact .tail _ (.tail _ (List.mem_append_left _ h1))
    ·cases h2
    ·exact .tail _ (.tail _ (List.mem_append_right _ (.tail _ h1)))
  ·intro n c hc1 hc2
   obtain ⟨o,v₀,h1,h2⟩:=S.cl n c hc1 hc2
   refine ⟨o,v₀,?_,h2⟩
   rw [hpl,List.mem_append,List.mem_cons] at h1
   rcases h1 with h1 | h1 | h1
   ·exact .tail _ (.tail _ (List.mem_append_left _ h1))
   ·cases h1;cases h2
   ·exact .tail _ (.tail _ (List.mem_append_right _ (.tail _ h1)))
 have hsc:x₁.env.scope=sc:=by show x.env.scope=sc;rw [henv]
 refine wpAny_mono (xD (g:=withCo g co₁) (x:=x₁) (z:=true) (v:= .ref f) (av:= .dstr) hok hsc hfr rfl (.inl hn) S₁ (.dstr rfl)) (λ _ s₂ S₂=> ?_) λ _ _ z=>z.elim
 exact K x₁ hok rfl rfl rfl rfl rfl rfl rfl ⟨_, .tail _ (.tail _ (.head _))⟩ s₂ S₂
end
noncomputable def gd0 (prog:Program) (w:World) (p:Program) (loose:List Str) (mean:ExcName→Option Value) (mg mb:Str→Option Value) (co:Led→(List Addr→Prop)→Option Addr→Prop):Gd :=
 {prog:=prog,w:=w,K:=KK w.params,p:=p,loose:=loose,mean:=mean,mg:=mg,mb:=mb,co:=co}
noncomputable def lawCx (E:Env) (gh:Heap) (L:Addr) (fd:Option Addr) (s:Shared) (need:Led):Cx :=
 {A:=callerA.deeper E,env:=E,fenv:=E,outer:=[],A₀:=callerA,base:=gh,h₀:=gh,L:=L,fd:=fd,s0:=s,need:=need,fact:=λ _=>True,lks:=[],fz:=false,km:=none}
section
variable {prog:Program} {w:World} {p:Program} {loose:List Str} {mean:ExcName→Option Value} {mg mb:Str→Option Value} {gh:Heap} {L fa:Addr} {qual:Str} {scope:Scope}
theorem bx {co:Led→(List Addr→Prop)→Option Addr→Prop} {fd:Option Addr} {need:Led} {s:Shared} (X:(KK w.params).In gh) (T:Top p loose mean mg mb gh) (B:Below callerA gh [] gh) (nd:(scope.names.map (·.1)).Nodup) (kd:scope.kind= .function)
  (hco:co need (λ _=>True) fd) (hn: ∀ q∈need,q.1 < L) :
  (lawCx (envX qual scope L fa (.ref 437) (cellsFrom (L+1) scope.names [])) gh L fd s need).Ok (gd0 prog w p loose mean mg mb co) 7:=by
 obtain ⟨ca1,ca2⟩:=yH scope.names (L+1) [] (by simp) (by simp)
 refine ⟨B,X,T,rfl,rfl,rfl,rfl,kd,rfl,kd,rfl,rfl,nd,by show callerA.depth+1+7 < _;decide +kernel,by show callerA.units+3+16 * 7+100 < _;decide +kernel,λ _ _ _ _=>trivial,λ _=>rfl,λ n n' c _=>qg ca1 n n' c,λ n hn=> ?_,hco,λ _ q hq n c _ hc e=> ?_⟩
 ·exact Option.isSome_iff_exists.mp (cellsFrom_some scope.names (L+1) [] (.inl hn))
 ·have h1:L+1≤c:=(ca2 _ (mem_of_lookup hc)).elim (λ h=>by simp at h) id
  have h2:=hn q hq
  rw [e] at h2
  exact Nat.lt_irrefl L (Nat.lt_trans (Nat.lt_of_succ_le h1) h2)
theorem JT {vs:List Value} {is:List Int} (h:IntsAre vs is) (fd:Option Addr) (adr:List Addr):F2 (VR fd adr) vs (is.map AV.int):=by
 induction h with
 | nil=>exact .nil
 | cons n t _ ih=>exact .cons (.int n t) ih
noncomputable def jI (μ:Mem):Prop:= ∀ o∈μ,∃ is:List Int,o= .list (is.map AV.int)
theorem F2.of_ints {fd fd':Option Addr} {adr:List Addr} {vs:List Value} {is:List Int} (h:F2 (VR fd adr) vs (is.map AV.int)):F2 (VR fd' adr) vs (is.map AV.int):=by
 induction is generalizing vs with
 | nil=>cases h;exact .nil
 | cons i is ih =>
  cases h with
  | cons h r =>
   obtain ⟨t,rfl⟩:=h.inv
   exact .cons (.int _ _) (ih r)
theorem CR.of_ints {g g':Gd} {fd fd':Option Addr} {adr:List Addr} {cs:List Led} {μ:Mem} (hμ:jI μ) (h:F2 (CR g fd adr) cs μ):F2 (CR g' fd' adr) cs μ:=by
 induction h with
 | nil=>exact .nil
 | cons h1 _ ih =>
  refine .cons ?_ (ih λ o ho=>hμ o (.tail _ ‹_›))
  obtain ⟨is,rfl⟩:=hμ _ (List.mem_cons_self)
  cases h1 with
  | list q1 q2=>exact .list q1.of_ints q2
theorem Vv {a:AV} {n i:Nat} {av:AV} (e:(some a :: List.replicate n none:Cx0)[i]? =some (some av)):i=0∧av=a:=by
 cases i with
 | zero=>cases e;exact ⟨rfl,rfl⟩
 | succ i =>
  rw [List.getElem?_cons_succ,List.getElem?_replicate] at e
  split at e <;> cases e
theorem UK {i:Nat} {av:AV} (e:lawGa[i]? =some (some av)):i=0:=(Vv (n:=22) e).1
theorem UL {v₀:AV} {i:Nat} {av:AV} (e:(lawG0 v₀)[i]? =some (some av)):av=v₀:=(Vv (n:=22) e).2
theorem UM {r:LT} {i:Nat} {av:AV} (e:(cvL r.cv)[i]? =some av):(lawG1 r)[10+i]? =some (some av):=by
 match i,e with
 | 0,e | 1,e | 2,e | 3,e | 4,e=>cases e;rfl
 | i+5,e=>simp [cvL] at e
noncomputable def ka:Prop:= ∀ is:List Int,is.length≤63→ ∃ μ₀ μ₁ μ' v₀ r,ui (is.map AV.int) []=some (.nxt v₀,μ₀)∧jI μ₀∧(∃ i,v₀= .obj i)∧uj v₀ μ₀=some (.nxt r,μ₁)∧fin (wP r) μ₁=some (.bool true,μ')
theorem UN {cm m:Str→Option Value} {cells:Led} {s:Shared} {a:Addr} {vs:List Value} {is:List Int} {oc:Value} {od:Option Addr} {osl:Array (Option Value)} {name qual':Str} {params:Arguments} {body:List Stmt} {dV kV doc pm cdv ct:Value} {an:Option Addr}
  (hlook:(KK w.params).lookup 438=some ⟨oc,od, .func (fnOf name qual' params body scope dV kV doc pm an cdv ct),osl⟩)
  (X:(KK w.params).In gh) (T:Top p loose mean mg mb gh) (B:Below callerA gh [] gh) (F:Fr gh L s.heap m) (hm:m (Str.ofString "script")=some (.ref a)) (N:News gh L s.heap (cells ++ [(435,tabObj #[])])) (CA:CellsAre cm (cellsFrom (L+1) scope.names []) cells)
  (C:CodeHd gh 437 435) (hl:435 < L) (hlst:gh.IsList a vs.toArray) (hvs:IntsAre vs is) (hlen:is.length≤63) (hg:s.gens= #[])
  {μ₀ μ₁ μ':Mem} {v₀:AV} {r:LT} (h0:ui (is.map AV.int) []=some (.nxt v₀,μ₀)) (hint:jI μ₀) (hv₀: ∃ i,v₀= .obj i) (h1:uj v₀ μ₀=some (.nxt r,μ₁)) (h2:fin (wP r) μ₁=some (.bool true,μ')) :
  wpAny (model prog w) (callerA.deeper (envX qual scope L fa (.ref 437) (cellsFrom (L+1) scope.names []))) (execs body (envX qual scope L fa (.ref 437) (cellsFrom (L+1) scope.names [])))
   (λ f s'=>f= .ret (.bool true)∧(∃ m',Fr gh L s'.heap m')∧GrownAt 435 s'.heap∧s'.os=s.os∧s'.gens= #[]) nof s:=by
 obtain ⟨_,_,_,_,_,_,_,_,_,_,_,_,_,s1,s2,s3,s4,dn,dparams,dbody,dscope,dpos,rest,scope',hl',LF,hparts⟩:=Wg w.params
 rw [hlook] at hl'
 have hb:body=s1 :: s2 :: s3 :: s4 :: .FunctionDef dn dparams dbody [] none [] dscope none dn dpos :: rest∧scope=scope':=by
  injection hl' with hl'
  injection hl' with _ _ hl' _
  injection hl' with hl'
  injection hl' with _ _ _ hb hs _ _ _ _ _ _ _ _ _ _
  injection hb with hb
  exact ⟨hb,hs⟩
 clear hl'
 refine hideP λ PZ hZ=> ?_
 obtain ⟨rfl,rfl⟩:=hb
 obtain ⟨o,ho,hcls,n,hdat⟩:=hlst
 have hal:a < L:=Nat.lt_of_lt_of_le (Heap.lt_size ho) F.above
 obtain ⟨ca1,ca2⟩:=yH scope.names (L+1) [] (by simp) (by simp)
 have cell_lo: ∀ p∈cells,L+1≤p.1:=λ p hp=>by
  have:p.1∈cells.map (·.1):=List.mem_map_of_mem hp
  rw [CellsAre.keys CA] at this
  obtain ⟨q,hq,e⟩:=List.mem_map.mp this
  exact e ▸ (ca2 q hq).elim (λ h=>by simp at h) id
 have hP0:gh.get? 435=none:=(N (435,tabObj #[]) (List.mem_append_right _ (.head _))).2.2
 refine hZ ?_
 let co₀:Led→(List Addr→Prop)→Option Addr→Prop:=λ need _ fd=>fd=some a∧(a,o)∈need
 have hf₀:Facts (gd0 prog w p loose mean mg mb co₀):=jz _ rfl λ n n' f fd hs h=>⟨h.1,hs _ h.2⟩
 have hsrc:SrcOk (gd0 prog w p loose mean mg mb co₀) (is.map AV.int):=⟨by rw [List.length_map];unfold big;lia,λ need fact fd h=>⟨a,o,vs,n,h.1,h.2,hcls,hdat,JT hvs⟩⟩
 let E:=envX qual scope L fa (.ref 437) (cellsFrom (L+1) scope.names [])
 have ok₀:(lawCx E gh L (some a) s [(a,o),(435,tabObj #[])]).Ok (gd0 prog w p loose mean mg mb co₀) 7:=bx X T B LF.nd LF.kd ⟨rfl, .head _⟩ (λ q hq=>by
  rcases List.mem_cons.mp hq with rfl | hq
  ·exact hal
  ·rcases List.mem_singleton.mp hq with rfl
   exact hl)
 have hcl: ∀ n c,scope.names.lookup n=some .cell→E.cells.lookup n=some c→ ∃ o v₀,(c,o)∈cells ++ [(435,tabObj #[])]∧o.data= .cell v₀:=λ n c _ hc=>by
  obtain ⟨o,h1,h2⟩:=CellsAre.get CA hc
  exact ⟨o,_,List.mem_append_left _ h1,h2⟩
 have S₀:St (gd0 prog w p loose mean mg mb co₀) (lawCx E gh L (some a) s [(a,o),(435,tabObj #[])]) lawGa [] [] s:=by
  refine ⟨[],cells ++ [(435,tabObj #[])],m,F,(λ q hq=>N q (by simpa using hq)),?_,rfl, .nil,?_,rfl,rfl,rfl,?_,trivial,λ q hq=>(by cases hq),hcl,λ m₀ h=>by cases h⟩
  ·simp only [List.flatten_nil,List.nil_append,List.map_append,List.map_cons,List.map_nil]
   rw [List.nodup_append]
   refine ⟨by rw [CellsAre.keys CA];exact ca1,by simp,λ x hx y hy e=> ?_⟩
   rcases List.mem_singleton.mp hy with rfl
   obtain ⟨q,hq,rfl⟩:=List.mem_map.mp hx
   have:=cell_lo q hq
   rw [e] at this
   exact Nat.lt_irrefl L (Nat.lt_of_succ_le (Nat.le_trans this (Nat.le_of_lt hl)))
  ·intro i av e
   cases UK e
   cases e
   exact ⟨_,_, .ref a,LF.n0, .loc rfl hm, .dstr rfl⟩
  ·intro q hq
   rcases List.mem_cons.mp hq with rfl | hq
   ·exact .inl ho
   ·rcases List.mem_singleton.mp hq with rfl
    exact .inr (List.mem_append_right _ (.head _))
 obtain ⟨p0,_,_,_⟩:=(hparts _ hf₀ rfl)
 refine vz [s1] s ?_
 refine wpAny_mono (p0 _ hsrc _ ok₀ rfl rfl rfl _ _ _ S₀ _ _ h0) (λ fl s₁ z=> ?_) λ _ _ z=>z
 obtain ⟨adr₁,_,rfl,S₁⟩:=z
 dsimp only
 let co₁:Led→(List Addr→Prop)→Option Addr→Prop:=λ _ _ _=>True
 have hf₁:Facts (gd0 prog w p loose mean mg mb co₁):=jz _ rfl λ _ _ _ _ _ _=>trivial
 have ok₁:(lawCx E gh L none s [(435,tabObj #[])]).Ok (gd0 prog w p loose mean mg mb co₁) 7:=bx X T B LF.nd LF.kd trivial (λ q hq=>by
  rcases List.mem_singleton.mp hq with rfl
  exact hl)
 have S₁':St (gd0 prog w p loose mean mg mb co₁) (lawCx E gh L none s [(435,tabObj #[])]) (lawG0 v₀) μ₀ adr₁ s₁:=by
  obtain ⟨cs,pl,m₁,Z⟩:=S₁
  refine ⟨cs,pl,m₁,Z.F,Z.N,Z.nd,Z.ha,CR.of_ints hint Z.C,λ i av e=> ?_,Z.gens,Z.drawn,Z.os,λ q hq=>Z.ex q (List.mem_cons_of_mem _ hq),trivial,λ q hq=>(by cases hq),Z.cl,λ m₀ h=>by cases h⟩
  obtain ⟨n,k,v,a1,a2,a3⟩:=Z.V i av e
  refine ⟨n,k,v,a1,VarV.move (x:=lawCx E gh L (some a) s [(a,o),(435,tabObj #[])]) rfl rfl rfl a2,?_⟩
  have:av=v₀:=UL e
  obtain ⟨j,hj⟩:=hv₀
  rw [this,hj] at a3 ⊢
  cases a3 with
  | obj h=>exact .obj h
 obtain ⟨_,p1,_,_⟩:=(hparts _ hf₁ rfl)
 refine vz [s2,s3,s4] s₁ ?_
 refine wpAny_mono (p1 _ _ ok₁ rfl rfl rfl _ _ _ S₁' _ _ h1) (λ fl s₂ z=> ?_) λ _ _ z=>z
 obtain ⟨adr₂,_,rfl,S₂⟩:=z
 dsimp only
 obtain ⟨clos,hc1,hc2⟩:=LF.clo L
 refine Vj (g:=gd0 prog w p loose mean mg mb co₁) (x:=lawCx E gh L none s [(435,tabObj #[])]) (Γ:=lawG1 r) (sc:=scope) (ns:=nsL) (avs:=cvL r.cv) (clos:=clos) (L:=L) (a:=fa) (c:=437) (P:=435) (cl:=cellsFrom (L+1) scope.names []) (i:=5) ok₁ rfl rfl rfl rfl C (by exact List.mem_singleton.mpr rfl) hP0 LF.d0 LF.k0 (LF.an _) (hc1 _ rfl) ?_ LF.n5 S₂ ?_
 ·intro i nm av e1 e2
  obtain ⟨c,b1,b2,b3,b4⟩:=hc2 i nm e1
  refine ⟨10+i,c,b1,b2,?_,b3,b4⟩
  exact UM e2
 ·intro x₁ hok he hfe hz hh hL hA hs0 hP s₃ S₃
  refine hideP λ PZ hZ=> ?_
  obtain ⟨ps,hps⟩:=hP
  have hf₂:Facts (withCo (gd0 prog w p loose mean mg mb co₁) (Clo dn (qualnameIn E dn dn) dparams dbody dscope nsL (cvL r.cv))):=jz _ rfl λ _ _ _ _ hs h=>Clo.mono _ _ _ _ hs h
  obtain ⟨_,_,p2,p3⟩:=(hparts _ hf₂ rfl)
  have hdd:DD (withCo (gd0 prog w p loose mean mg mb co₁) (Clo dn (qualnameIn E dn dn) dparams dbody dscope nsL (cvL r.cv))) r.cv:=by
   refine ⟨dn,qualnameIn E dn dn,dparams,dbody,dscope,nsL,cvL r.cv,rfl,λ x Γ hx v w a μ adr s S r1 r2=> ?_⟩
   exact Ve hf₂ (pn:=Str.ofString "thing") (rk:=[(Str.ofString "Ref", .globalImplicit)]) rfl LF.dns (λ y hy=>by rcases List.mem_singleton.mp hy with rfl;rfl) rfl LF.dnd LF.dkd LF.dco LF.dge (LF.bind _) (p2 r.cv) hx S r1 r2
  have hb: ∃ b,wP r μ₁=some (.ret b,μ')∧b= .bool true:=by
   rcases jw h2 with ⟨_,_,q⟩ | q
   ·cases q
   ·exact ⟨_,q,rfl⟩
  obtain ⟨b,hb1,rfl⟩:=hb
  refine hZ ?_
  rw [show (lawCx E gh L none s [(435,tabObj #[])]).env=x₁.env from he.symm,show (lawCx E gh L none s [(435,tabObj #[])]).A=x₁.A from hA.symm]
  refine wpAny_mono (p3 r hdd x₁ hok (by rw [he];rfl) (by rw [he,hfe];rfl) hz _ _ _ S₃ _ _ hb1) (λ fl s₄ z=> ?_) λ _ _ z=>z
  obtain ⟨adr₄,_,vv,rfl,hv,cs,pl,m₄,Z⟩:=z
  cases hv
  refine ⟨rfl,⟨m₄,?_⟩,⟨ps,?_⟩,?_,?_⟩
  ·have:=Z.F;rw [hh,hL] at this;exact this
  ·exact ve Z hps
  ·rw [Z.os,hs0];rfl
  ·rw [Z.gens,hs0];exact hg
theorem Y9 (H:ka) {cm m:Str→Option Value} {cells:Led} {s:Shared} {a:Addr} {vs:List Value} {is:List Int} {oc:Value} {od:Option Addr} {osl:Array (Option Value)} {name qual':Str} {params:Arguments} {body:List Stmt} {dV kV doc pm cdv ct:Value} {an:Option Addr}
  (hlook:(KK w.params).lookup 438=some ⟨oc,od, .func (fnOf name qual' params body scope dV kV doc pm an cdv ct),osl⟩)
  (X:(KK w.params).In gh) (T:Top p loose mean mg mb gh) (B:Below callerA gh [] gh) (F:Fr gh L s.heap m) (hm:m (Str.ofString "script")=some (.ref a)) (N:News gh L s.heap (cells ++ [(435,tabObj #[])])) (CA:CellsAre cm (cellsFrom (L+1) scope.names []) cells)
  (C:CodeHd gh 437 435) (hl:435 < L) (hlst:gh.IsList a vs.toArray) (hvs:IntsAre vs is) (hlen:is.length≤63) (hg:s.gens= #[]) :
  wpAny (model prog w) (callerA.deeper (envX qual scope L fa (.ref 437) (cellsFrom (L+1) scope.names []))) (execs body (envX qual scope L fa (.ref 437) (cellsFrom (L+1) scope.names [])))
   (λ f s'=>f= .ret (.bool true)∧(∃ m',Fr gh L s'.heap m')∧GrownAt 435 s'.heap∧s'.os=s.os∧s'.gens= #[]) nof s:=by
 obtain ⟨μ₀,μ₁,μ',v₀,r,h0,h1,h2,h3,h4⟩:=H is hlen
 exact UN hlook X T B F hm N CA C hl hlst hvs hlen hg h0 h1 h2 h3 h4
end
theorem Vk (H:ka):PySem.Challenge.rw_nz0184_01.Holds:=by
 refine holds_law said1 λ said=>holds_open left1 hook.of hook.keeps (λ s e=>xl_of s (Bool.and_eq_true_iff.mp e).1) XL.keeps (by rfl) (by rfl) (by rfl) (λ s e=>recFacts_of (Bool.and_eq_true_iff.mp e).2) (by rfl) said (by decide +kernel) ⟨rfl,rfl,rfl,rfl,rfl,by decide +kernel⟩ ⟨[.list []],by decide +kernel,by decide +kernel⟩ ?_
 delta hook
 k_go0
 rename News _ _ _ _=>N
 rename Fr _ _ _ _=>F
 rename CellsAre _ _ _=>CA
 rename Frag.In _ _=>X
 rename Below _ _ _ _=>B
 rename Top topProg _ _ _ _ _=>T
 rename CodeHd _ _ _=>C
 rename IntsAre _ _=>hI
 rename (ghostOf _ _).IsList _ _=>hl
 rename ¬(_ < (_:Int))=>hc
 rename (435:Nat) < _=>l0
 rename (_:Shared).gens=_=>hg
 refine wpAny_mono (Y9 H (CA:=CA) (hlook:=rfl) X T B F rfl N C l0 hl hI (by lia) hg) (λ f s' z=> ?_) (λ _ _ z=>z.elim)
 obtain ⟨rfl,z⟩:=z
 refine z.1.elim λ m' F'=> ?_
 exact ⟨goodW_bool F' z.2.2.2 (λ _=>rfl) (postW_of rfl (w_eq_bool (w_res rfl) w_lit) rfl) z.2.2.1,z.2.1,trivial⟩
end Mine
end
namespace Mine
open Mine.Pl in
theorem Vl:ka:=λ is hl=>by
 have hlen:(yT is).length≤24:=by simp only [yT,List.length_map,List.length_take];lia
 obtain ⟨f,μ',e,hf⟩:=WV (o0:= .list ((is.take 24).map AV.int)) (q:=v8 (yT is)) hlen
 refine ⟨_,_,μ',_,lt0 (v8 (yT is)),V1 is,?_,⟨1,rfl⟩,V2,?_⟩
 ·intro o ho
  simp only [List.mem_cons,List.not_mem_nil,or_false] at ho
  rcases ho with rfl | rfl
  ·exact ⟨_,rfl⟩
  ·exact ⟨(yT is).map λ n:Nat=>(n:Int),by simp [nums,List.map_map]⟩
 ·unfold fin
  rw [Pl.bd_some e,hf]
  rfl
theorem holds:PySem.Challenge.rw_nz0184_01.Holds:=Vk Vl
end Mine
theorem PySem.Challenge.cw_nz0184_01_holds : PySem.Challenge.rw_nz0184_01.Holds :=
  Mine.holds
