import PyProof.Rows.All
import Wide.All
import OpenK.AllK
import Wide.FinOn
import KE.KNest
import Lean
import PySem.Challenge.RW_nz0184_01
set_option Elab.async false
set_option maxRecDepth 100000
set_option maxHeartbeats 8000000
set_option linter.unusedVariables false
set_option linter.unusedSimpArgs false
namespace Mine
inductive Cl where
 | scalar | array | hash | code | glob | ref | heap | counter | limits
 deriving DecidableEq
def Cl.fields:Cl→List String
 | .scalar=>["number","count","blessed","weak","is_destroyed","is_freed","value","magic"]
 | .array=>["number","count","blessed","weak","is_destroyed","is_freed","items","tied"]
 | .hash=>["number","count","blessed","weak","is_destroyed","is_freed","table","at","tied"]
 | .ref=>["target","is_weak"]
 | .heap=>["limits","last","zero"]
 | .counter=>["heap","destroy","places"]
 | .limits=>["width","depth","steps","text","items"]
 | .code=>[]
 | .glob=>[]
inductive AV where
 | none | bool (b:Bool) | int (i:Int) | str (s:String) | obj (i:Nat) | dstr
 deriving DecidableEq
inductive AO where
 | inst (c:Cl) (fs:List (String × AV))
 | list (xs:List AV)
 | tup (xs:List AV)
 | dI (lk:Bool) (es:List (Int × AV))
 | dS (lk:Bool) (es:List (String × AV))
 deriving DecidableEq
abbrev Mem:=List AO
abbrev M (α:Type):=Mem→Option (α × Mem)
abbrev Cx0:=List (Option AV)
def bd {α β:Type} (m:M α) (f:α→M β):M β:=λ μ=>match m μ with
 | some (a,μ')=>f a μ'
 | none=>none
def rt {α:Type} (a:α):M α:=λ μ=>some (a,μ)
def fl {α:Type}:M α:=λ _=>none
def rd (i:Nat):M AO:=λ μ=>match μ[i]? with
 | some o=>some (o,μ)
 | none=>none
def wr (i:Nat) (o:AO):M Unit:=λ μ=>some ((),μ.set i o)
def al (o:AO):M AV:=λ μ=>some (.obj μ.length,μ ++ [o])
def big:Nat:=1048576
def put {κ:Type} [DecidableEq κ] (k:κ) (v:AV):List (κ × AV)→List (κ × AV)
 | []=>[(k,v)]
 | e :: r=>if e.1=k then (k,v) :: r else e :: put k v r
def get {κ:Type} [DecidableEq κ] (k:κ):List (κ × AV)→Option AV
 | []=>none
 | e :: r=>if e.1=k then some e.2 else get k r
def del {κ:Type} [DecidableEq κ] (k:κ):List (κ × AV)→List (κ × AV)
 | []=>[]
 | e :: r=>if e.1=k then r else e :: del k r
def getA (v:AV) (f:String):M AV:=match v with
 | .obj i=>bd (rd i) λ o=>match o with
  | .inst _ fs=>match get f fs with
   | some x=>rt x
   | none=>fl
  | _=>fl
 | _=>fl
def setA (v:AV) (f:String) (x:AV):M Unit:=match v with
 | .obj i=>bd (rd i) λ o=>match o with
  | .inst c fs=>if f∈c.fields∧fs.length < 100 then wr i (.inst c (put f x fs)) else fl
  | _=>fl
 | _=>fl
def rdL (v:AV):M (List AV):=match v with
 | .obj i=>bd (rd i) λ o=>match o with
  | .list xs=>rt xs
  | _=>fl
 | _=>fl
def appL (v x:AV):M AV:=match v with
 | .obj i=>bd (rd i) λ o=>match o with
  | .list xs=>if xs.length < big then bd (wr i (.list (xs ++ [x]))) λ _=>rt .none else fl
  | _=>fl
 | _=>fl
def popL (v:AV):M AV:=match v with
 | .obj i=>bd (rd i) λ o=>match o with
  | .list (x :: xs)=>bd (wr i (.list xs)) λ _=>rt x
  | _=>fl
 | _=>fl
def opt {α:Type}:Option α→M α
 | some a=>rt a
 | none=>fl
def getI (o k:AV):M AV:=match o,k with
 | .obj i, .int n=>bd (rd i) λ o=>match o with
  | .list xs=>if 0≤n then opt xs[n.toNat]? else fl
  | .tup xs=>if 0≤n then opt xs[n.toNat]? else fl
  | .dI _ es=>opt (get n es)
  | _=>fl
 | .obj i, .str s=>bd (rd i) λ o=>match o with
  | .dS _ es=>opt (get s es)
  | _=>fl
 | _,_=>fl
def setI (o k x:AV):M Unit:=match o,k with
 | .obj i, .int n=>bd (rd i) λ o=>match o with
  | .list xs=>if 0≤n∧n.toNat < xs.length then wr i (.list (xs.set n.toNat x)) else fl
  | .dI lk es=>if lk=false∧es.length < big then wr i (.dI false (put n x es)) else fl
  | _=>fl
 | .obj i, .str s=>bd (rd i) λ o=>match o with
  | .dS lk es=>if lk=false∧es.length < big then wr i (.dS false (put s x es)) else fl
  | _=>fl
 | _,_=>fl
def setAll (o l:AV):M Unit:=match o with
 | .obj i=>bd (rd i) λ o=>match o with
  | .list _=>bd (rdL l) λ xs=>wr i (.list xs)
  | _=>fl
 | _=>fl
def setAllN (o l:AV):M Unit:=if o=l then fl else setAll o l
def slFrom (l k:AV):M AV:=match k with
 | .int n=>if 0≤n then bd (rdL l) λ xs=>al (.list (xs.drop n.toNat)) else fl
 | _=>fl
def slTo (l k:AV):M AV:=match k with
 | .int n=>if 0≤n then bd (rdL l) λ xs=>al (.list (xs.take n.toNat)) else fl
 | _=>fl
def getK (d k:AV):M (Option AV):=match d,k with
 | .obj i, .int n=>bd (rd i) λ o=>match o with
  | .dI _ es=>rt (get n es)
  | _=>fl
 | .obj i, .str s=>bd (rd i) λ o=>match o with
  | .dS _ es=>rt (get s es)
  | _=>fl
 | _,_=>fl
def dget1 (d k:AV):M AV:=bd (getK d k) λ r=>rt (r.getD .none)
def dget2 (d k x:AV):M AV:=bd (getK d k) λ r=>rt (r.getD x)
def delK (d k:AV):M Unit:=match d,k with
 | .obj i, .int n=>bd (rd i) λ o=>match o with
  | .dI lk es=>if lk=false then wr i (.dI false (del n es)) else fl
  | _=>fl
 | .obj i, .str s=>bd (rd i) λ o=>match o with
  | .dS lk es=>if lk=false then wr i (.dS false (del s es)) else fl
  | _=>fl
 | _,_=>fl
def dpop1 (d k:AV):M AV:=bd (getK d k) λ r=>match r with
 | some x=>bd (delK d k) λ _=>rt x
 | none=>fl
def dpop2 (d k y:AV):M AV:=bd (getK d k) λ r=>match r with
 | some x=>bd (delK d k) λ _=>rt x
 | none=>rt y
def inK (k d:AV):M AV:=bd (getK d k) λ r=>rt (.bool r.isSome)
def ninK (k d:AV):M AV:=bd (getK d k) λ r=>rt (.bool (!r.isSome))
def isI (c:Cl) (v:AV):M AV:=match v with
 | .none=>rt (.bool false)
 | .int _=>rt (.bool false)
 | .obj i=>bd (rd i) λ o=>match o with
  | .inst d _=>rt (.bool (decide (d=c)))
  | _=>fl
 | _=>fl
def isT (v:AV):M AV:=match v with
 | .none=>rt (.bool false)
 | .int _=>rt (.bool false)
 | .obj i=>bd (rd i) λ o=>match o with
  | .tup _=>rt (.bool true)
  | .list _=>rt (.bool false)
  | _=>fl
 | _=>fl
def tru (v:AV):M Bool:=match v with
 | .bool b=>rt b
 | _=>fl
inductive D where
 | none | int (i:Int) | str (s:String) | node (l:Bool) (ds:List D)
def readD (μ:Mem):Nat→AV→Option D
 | _, .none=>some .none
 | _, .int i=>some (.int i)
 | _, .str s=>some (.str s)
 | n+1, .obj i=>match μ[i]? with
  | some (.list xs)=>(xs.mapM (readD μ n)).map (.node true)
  | some (.tup xs)=>(xs.mapM (readD μ n)).map (.node false)
  | _=>Option.none
 | _,_=>Option.none
mutual
def D.same:D→D→Bool
 | .none, .none=>true
 | .int i, .int j=>i == j
 | .str s, .str t=>s == t
 | .node a xs, .node b ys=>a == b && D.sames xs ys
 | _,_=>false
def D.sames:List D→List D→Bool
 | [],[]=>true
 | x :: xs,y :: ys=>D.same x y && D.sames xs ys
 | _,_=>false
end
def eqM (a b:AV):M AV:=match a,b with
 | .bool i, .bool j=>rt (.bool (decide (i=j)))
 | _,_=>λ μ=>match readD μ 3 a,readD μ 3 b with
  | some x,some y=>some (.bool (D.same x y),μ)
  | _,_=>none
def neg (v:AV):M AV:=match v with
 | .bool b=>rt (.bool (!b))
 | _=>fl
def neM (a b:AV):M AV:=bd (eqM a b) neg
def isN (v:AV):M AV:=rt (.bool (decide (v= .none)))
def isNN (v:AV):M AV:=rt (.bool (!decide (v= .none)))
def ltM (a b:AV):M AV:=match a,b with
 | .int i, .int j=>rt (.bool (decide (i < j)))
 | _,_=>fl
def gtM (a b:AV):M AV:=match a,b with
 | .int i, .int j=>rt (.bool (decide (j < i)))
 | _,_=>fl
def addM (a b:AV):M AV:=match a,b with
 | .int i, .int j=>rt (.int (i+j))
 | .str s, .str t=>if s.length≤100∧t.length≤100 then rt (.str (s ++ t)) else fl
 | .obj i, .obj j=>bd (rdL (.obj i)) λ xs=>bd (rdL (.obj j)) λ ys=>if xs.length+ys.length≤big then al (.list (xs ++ ys)) else fl
 | _,_=>fl
def iaddM (a b:AV):M AV:=match a,b with
 | .int i, .int j=>rt (.int (i+j))
 | _,_=>fl
def subM (a b:AV):M AV:=match a,b with
 | .int i, .int j=>rt (.int (i - j))
 | _,_=>fl
def modM (a b:AV):M AV:=match a,b with
 | .int i, .int j=>if 0 < j then rt (.int (Int.fmod i j)) else fl
 | _,_=>fl
def divM (a b:AV):M AV:=match a,b with
 | .int i, .int j=>if 0 < j∧j < 1000 then rt (.int (Int.fdiv i j)) else fl
 | _,_=>fl
def powM (a b:AV):M AV:=match a,b with
 | .int i, .int j=>if i=10∧j=9 then rt (.int 1000000000) else fl
 | _,_=>fl
def absM (a:AV):M AV:=match a with
 | .int i=>rt (.int (Int.natAbs i))
 | _=>fl
def strM (a:AV):M AV:=match a with
 | .int i=>if 0≤i∧i < 10 then rt (.str (toString i)) else fl
 | _=>fl
def lenM (a:AV):M AV:=bd (rdL a) λ xs=>rt (.int xs.length)
def intsOf:List AV→Option (List Int)
 | []=>some []
 | .int i :: r=>(intsOf r).map (i :: ·)
 | _=>none
def sumM (a:AV):M AV:=bd (rdL a) λ xs=>bd (opt (intsOf xs)) λ is=>rt (.int is.sum)
def ins (i:Int):List Int→List Int
 | []=>[i]
 | j :: r=>if i≤j then i :: j :: r else j :: ins i r
def isort:List Int→List Int
 | []=>[]
 | i :: r=>ins i (isort r)
def sortedL (a:AV):M AV:=bd (rdL a) λ xs=>bd (opt (intsOf xs)) λ is=>if is.length < 64 then al (.list ((isort is).map AV.int)) else fl
def sortedD (a:AV):M AV:=match a with
 | .obj i=>bd (rd i) λ o=>match o with
  | .dI _ es=>if es.length < 64 then al (.list ((isort (es.map (·.1))).map AV.int)) else fl
  | _=>fl
 | _=>fl
def sah (k:AV):M AV:=match k with
 | .int n=>if n=0 then rt (.str "S") else if n=1 then rt (.str "A") else if n=2 then rt (.str "H") else fl
 | _=>fl
def evs:List (M AV)→M (List AV)
 | []=>rt []
 | m :: r=>bd m λ a=>bd (evs r) λ as=>rt (a :: as)
def mkL (ms:List (M AV)):M AV:=bd (evs ms) λ xs=>al (.list xs)
def mkT (ms:List (M AV)):M AV:=bd (evs ms) λ xs=>al (.tup xs)
def chk (v:AV) (c:Cl):M Unit:=match v with
 | .obj i=>bd (rd i) λ o=>match o with
  | .inst d _=>if d=c then rt () else fl
  | _=>fl
 | _=>fl
def chkL (v:AV):M Unit:=match v with
 | .obj i=>bd (rd i) λ o=>match o with
  | .list _=>rt ()
  | _=>fl
 | _=>fl
def chkD (v:AV):M Unit:=match v with
 | .obj i=>bd (rd i) λ o=>match o with
  | .dI _ _=>rt ()
  | .dS _ _=>rt ()
  | _=>fl
 | _=>fl
def new (c:Cl) (init:AV→M AV):M AV:=bd (al (.inst c [])) λ o=>bd (init o) λ r=>if r= .none then rt o else fl
inductive Fl (ρ:Type) where
 | nxt (r:ρ) | cnt | ret (v:AV)
def thn {ρ σ:Type} (m:M (Fl ρ)) (k:ρ→M (Fl σ)):M (Fl σ):=bd m λ f=>match f with
 | .nxt r=>k r
 | .cnt=>rt .cnt
 | .ret v=>rt (.ret v)
def thnG {ρ σ:Type} (_G:ρ→Cx0) (m:M (Fl ρ)) (k:ρ→M (Fl σ)):M (Fl σ):=thn m k
def fin (m:M (Fl Unit)):M AV:=bd m λ f=>match f with
 | .nxt _=>rt .none
 | .cnt=>fl
 | .ret v=>rt v
def ckO (i:Nat) (o:AO):M Unit:=bd (rd i) λ p=>if p=o then rt () else fl
def goG {ρ:Type} (ck:M Unit) (body:ρ→AV→M (Fl ρ)):List AV→ρ→M (Fl ρ)
 | [],r=>bd ck λ _=>rt (.nxt r)
 | x :: xs,r=>bd ck λ _=>bd (body r x) λ f=>match f with
     | .nxt r'=>goG ck body xs r'
     | .cnt=>goG ck body xs r
     | .ret v=>rt (.ret v)
def keysOf:AO→Option (List AV)
 | .list xs=>some xs
 | .dI _ es=>some (es.map λ e=> .int e.1)
 | .dS _ es=>some (es.map λ e=> .str e.1)
 | _=>none
def valsOf:AO→Option (List AV)
 | .dI _ es=>some (es.map (·.2))
 | .dS _ es=>some (es.map (·.2))
 | _=>none
def AO.locked:AO→Bool
 | .dI lk _=>lk
 | .dS lk _=>lk
 | _=>false
def AO.lock:AO→AO
 | .dI _ es=> .dI true es
 | .dS _ es=> .dS true es
 | o=>o
def walked {α:Type} (i:Nat) (o:AO) (m:M α):M α:=if o.locked then fl else bd (wr i o.lock) λ _=>bd m λ a=>bd (rd i) λ p=>if p=o.lock then bd (wr i o) λ _=>rt a else fl
def forL {ρ:Type} (_G:ρ→Cx0) (l:AV) (r:ρ) (body:ρ→AV→M (Fl ρ)):M (Fl ρ):=match l with
 | .obj i=>bd (rd i) λ o=>bd (opt (keysOf o)) λ xs=>walked i o (goG (ckO i o.lock) body xs r)
 | _=>fl
def forV {ρ:Type} (_G:ρ→Cx0) (l:AV) (r:ρ) (body:ρ→AV→M (Fl ρ)):M (Fl ρ):=match l with
 | .obj i=>bd (rd i) λ o=>bd (opt (valsOf o)) λ xs=>walked i o (goG (ckO i o.lock) body xs r)
 | _=>fl
def forR {ρ:Type} (_G:ρ→Cx0) (n:AV) (r:ρ) (body:ρ→AV→M (Fl ρ)):M (Fl ρ):=match n with
 | .int k=>if 0≤k∧k≤1000 then goG (rt ()) body ((List.range k.toNat).map λ j:Nat=>AV.int (Int.ofNat j)) r else fl
 | _=>fl
def whl (_G:Cx0):Nat→M Bool→M (Fl Unit)→M (Fl Unit)
 | 0,_,_=>fl
 | n+1,c,body=>bd c λ b=>if b then bd body λ f=>match f with
    | .nxt _=>whl _G n c body
    | .cnt=>whl _G n c body
    | .ret v=>rt (.ret v)
  else rt (.nxt ())
def goC (ck:M Unit) (test:AV→M Bool) (elt:AV→M AV):List AV→List AV→M (List AV)
 | [],acc=>bd ck λ _=>rt acc
 | x :: xs,acc=>bd ck λ _=>bd (test x) λ b =>
     if b then bd (elt x) λ y=>goC ck test elt xs (acc ++ [y]) else goC ck test elt xs acc
def comp (_G:AV→Cx0) (src:AV) (test:AV→M Bool) (elt:AV→M AV):M AV:=match src with
 | .obj i=>bd (rd i) λ o=>bd (opt (keysOf o)) λ xs=>if xs.length≤big then bd (walked i o (goC (ckO i o.lock) test elt xs [])) λ ys=>al (.list ys) else fl
 | _=>fl
def andV (a:M AV) (b:M AV):M AV:=bd a λ x=>bd (tru x) λ t=>if t then b else rt x
def andC (a b:M Bool):M Bool:=bd a λ t=>if t then b else rt false
def orC (a b:M Bool):M Bool:=bd a λ t=>if t then rt true else b
def notC (a:M Bool):M Bool:=bd a λ t=>rt (!t)
def iteV (c:M Bool) (a b:M AV):M AV:=bd c λ t=>if t then a else b
structure CV where
 heard:AV
 real:AV
 rescue:AV
 roots:AV
 box:AV
def f_Thing_init_b (v_self v_number:AV):M (Fl Unit) :=
 bd (rt v_number) λ x1=>bd (rt v_self) λ o2=>bd (setA o2 "number" x1) λ _ =>
 bd (rt (.int 0)) λ x3=>bd (rt v_self) λ o4=>bd (setA o4 "count" x3) λ _ =>
 bd (rt .none) λ x5=>bd (rt v_self) λ o6=>bd (setA o6 "blessed" x5) λ _ =>
 bd (mkL []) λ x7=>bd (rt v_self) λ o8=>bd (setA o8 "weak" x7) λ _ =>
 bd (rt (.bool false)) λ x9=>bd (rt v_self) λ o10=>bd (setA o10 "is_destroyed" x9) λ _ =>
 bd (rt (.bool false)) λ x11=>bd (rt v_self) λ o12=>bd (setA o12 "is_freed" x11) λ _ =>
 rt (.nxt ())
def f_Thing_init (v_self v_number:AV):M AV:=fin (f_Thing_init_b v_self v_number)
def f_Scalar_init_b (v_self v_number v_value:AV):M (Fl Unit) :=
 bd (bd (rt v_self) λ a1=>bd (rt v_number) λ a2=>f_Thing_init a1 a2) λ _ =>
 bd (rt v_value) λ x3=>bd (rt v_self) λ o4=>bd (setA o4 "value" x3) λ _ =>
 bd (rt .none) λ x5=>bd (rt v_self) λ o6=>bd (setA o6 "magic" x5) λ _ =>
 rt (.nxt ())
def f_Scalar_init (v_self v_number v_value:AV):M AV:=fin (f_Scalar_init_b v_self v_number v_value)
def f_Array_init_b (v_self v_number:AV):M (Fl Unit) :=
 bd (bd (rt v_self) λ a1=>bd (rt v_number) λ a2=>f_Thing_init a1 a2) λ _ =>
 bd (mkL []) λ x3=>bd (rt v_self) λ o4=>bd (setA o4 "items" x3) λ _ =>
 bd (rt .none) λ x5=>bd (rt v_self) λ o6=>bd (setA o6 "tied" x5) λ _ =>
 rt (.nxt ())
def f_Array_init (v_self v_number:AV):M AV:=fin (f_Array_init_b v_self v_number)
def f_Hash_init_b (v_self v_number:AV):M (Fl Unit) :=
 bd (bd (rt v_self) λ a1=>bd (rt v_number) λ a2=>f_Thing_init a1 a2) λ _ =>
 bd (al (.dS false [])) λ x3=>bd (rt v_self) λ o4=>bd (setA o4 "table" x3) λ _ =>
 bd (rt (.int 0)) λ x5=>bd (rt v_self) λ o6=>bd (setA o6 "at" x5) λ _ =>
 bd (rt .none) λ x7=>bd (rt v_self) λ o8=>bd (setA o8 "tied" x7) λ _ =>
 rt (.nxt ())
def f_Hash_init (v_self v_number:AV):M AV:=fin (f_Hash_init_b v_self v_number)
def f_Ref_init_b (v_self v_target v_is_weak:AV):M (Fl Unit) :=
 bd (rt v_target) λ x1=>bd (rt v_self) λ o2=>bd (setA o2 "target" x1) λ _ =>
 bd (rt v_is_weak) λ x3=>bd (rt v_self) λ o4=>bd (setA o4 "is_weak" x3) λ _ =>
 rt (.nxt ())
def f_Ref_init (v_self v_target v_is_weak:AV):M AV:=fin (f_Ref_init_b v_self v_target v_is_weak)
def f_Heap_init_b (v_self v_limits:AV):M (Fl Unit) :=
 bd (rt v_limits) λ x1=>bd (rt v_self) λ o2=>bd (setA o2 "limits" x1) λ _ =>
 bd (rt (.int 0)) λ x3=>bd (rt v_self) λ o4=>bd (setA o4 "last" x3) λ _ =>
 bd (mkL []) λ x5=>bd (rt v_self) λ o6=>bd (setA o6 "zero" x5) λ _ =>
 rt (.nxt ())
def f_Heap_init (v_self v_limits:AV):M AV:=fin (f_Heap_init_b v_self v_limits)
def f_Heap_next_number_b (v_self:AV):M (Fl Unit) :=
 bd (rt v_self) λ o1=>bd (getA o1 "last") λ a2=>bd (rt (.int 1)) λ a3=>bd (iaddM a2 a3) λ x4=>bd (setA o1 "last" x4) λ _ =>
 bd (bd (rt v_self) λ a6=>getA a6 "last") λ r5=>rt (.ret r5)
def f_Heap_next_number (v_self:AV):M AV:=fin (f_Heap_next_number_b v_self)
def f_Heap_new_scalar_b (v_self v_value:AV):M (Fl Unit) :=
 bd (bd (bd (rt v_self) λ o2=>bd (chk o2 .heap) λ _=>f_Heap_next_number o2 ) λ a3=>bd (rt v_value) λ a4=>new .scalar λ o=>f_Scalar_init o a3 a4) λ r1=>rt (.ret r1)
def f_Heap_new_scalar (v_self v_value:AV):M AV:=fin (f_Heap_new_scalar_b v_self v_value)
def f_Heap_new_array_b (v_self:AV):M (Fl Unit) :=
 bd (bd (bd (rt v_self) λ o2=>bd (chk o2 .heap) λ _=>f_Heap_next_number o2 ) λ a3=>new .array λ o=>f_Array_init o a3) λ r1=>rt (.ret r1)
def f_Heap_new_array (v_self:AV):M AV:=fin (f_Heap_new_array_b v_self)
def f_Heap_new_hash_b (v_self:AV):M (Fl Unit) :=
 bd (bd (bd (rt v_self) λ o2=>bd (chk o2 .heap) λ _=>f_Heap_next_number o2 ) λ a3=>new .hash λ o=>f_Hash_init o a3) λ r1=>rt (.ret r1)
def f_Heap_new_hash (v_self:AV):M AV:=fin (f_Heap_new_hash_b v_self)
def f_held_by_b (v_thing:AV):M (Fl Unit) :=
 thnG (λ v_held=>[some v_thing,some v_held,none,none,none,none,none]) (bd (bd (bd (rt v_thing) λ a22=>isI .array a22) tru) λ c1=>if c1 then
  bd (bd (rt v_thing) λ a2=>getA a2 "items") λ v_held =>
  rt (.nxt v_held)
 else
  bd (bd (bd (rt v_thing) λ a16=>isI .hash a16) tru) λ c3=>if c3 then
   bd (bd (bd (rt v_thing) λ a4=>getA a4 "table") λ a8=>comp (λ v_key=>[none,some v_key,some v_thing]) a8 (λ v_key=>(rt true)) (λ v_key=>(bd (bd (rt v_thing) λ a7=>getA a7 "table") λ a5=>bd (rt v_key) λ a6=>getI a5 a6))) λ v_held =>
   rt (.nxt v_held)
  else
   bd (bd (bd (rt v_thing) λ a14=>isI .code a14) tru) λ c9=>if c9 then
    fl
   else
    bd (bd (bd (rt v_thing) λ a12=>isI .glob a12) tru) λ c10=>if c10 then
     fl
    else
     bd (mkL []) λ v_held =>
     rt (.nxt v_held)) λ v_held =>
 bd (bd (rt v_held) λ a20=>comp (λ v_one=>[none,some v_one]) a20 (λ v_one=>(bd (bd (rt v_one) λ a19=>isNN a19) tru)) (λ v_one=>(rt v_one))) λ r17=>rt (.ret r17)
def f_held_by (v_thing:AV):M AV:=fin (f_held_by_b v_thing)
def f_empty_out_b (v_thing:AV):M (Fl Unit) :=
 bd (bd (bd (rt v_thing) λ a18=>isI .array a18) tru) λ c1=>if c1 then
  bd (mkL []) λ x2=>bd (rt v_thing) λ o3=>bd (setA o3 "items" x2) λ _ =>
  rt (.nxt ())
 else
  bd (bd (bd (rt v_thing) λ a16=>isI .hash a16) tru) λ c4=>if c4 then
   bd (al (.dS false [])) λ x5=>bd (rt v_thing) λ o6=>bd (setA o6 "table" x5) λ _ =>
   bd (rt (.int 0)) λ x7=>bd (rt v_thing) λ o8=>bd (setA o8 "at" x7) λ _ =>
   rt (.nxt ())
  else
   bd (bd (bd (rt v_thing) λ a14=>isI .code a14) tru) λ c9=>if c9 then
    fl
   else
    bd (bd (bd (rt v_thing) λ a12=>isI .glob a12) tru) λ c10=>if c10 then
     fl
    else
     rt (.nxt ())
def f_empty_out (v_thing:AV):M AV:=fin (f_empty_out_b v_thing)
def f_in_order_b (v_things:AV):M (Fl Unit) :=
 bd (al (.dI false [])) λ v_found =>
 thnG (λ _=>[some v_things,some v_found,none,none]) (bd (rt v_things) λ a1=>forL (λ _=>[some v_things,some v_found,none,none]) a1 () λ _ v_thing =>
  bd (andC (bd (bd (bd (rt v_thing) λ a10=>getA a10 "count") λ a8=>bd (rt (.int 0)) λ a9=>eqM a8 a9) tru) (notC (bd (bd (rt v_thing) λ a12=>getA a12 "is_freed") tru))) λ c2=>if c2 then
   bd (rt v_thing) λ x3=>bd (rt v_found) λ o4=>bd (bd (rt v_thing) λ a6=>getA a6 "number") λ k5=>bd (setI o4 k5 x3) λ _ =>
   rt (.nxt ())
  else
   rt (.nxt ())) λ _ =>
 bd (bd (bd (rt v_found) λ a14=>sortedD a14) λ a17=>comp (λ v_number=>[none,some v_number,some v_found]) a17 (λ v_number=>(rt true)) (λ v_number=>(bd (rt v_found) λ a15=>bd (rt v_number) λ a16=>getI a15 a16))) λ r13=>rt (.ret r13)
def f_in_order (v_things:AV):M AV:=fin (f_in_order_b v_things)
def f_Counter_init_b (v_self v_heap v_destroy:AV):M (Fl Unit) :=
 bd (rt v_heap) λ x1=>bd (rt v_self) λ o2=>bd (setA o2 "heap" x1) λ _ =>
 bd (rt v_destroy) λ x3=>bd (rt v_self) λ o4=>bd (setA o4 "destroy" x3) λ _ =>
 bd (al (.dI false [])) λ x5=>bd (rt v_self) λ o6=>bd (setA o6 "places" x5) λ _ =>
 rt (.nxt ())
def f_Counter_init (v_self v_heap v_destroy:AV):M AV:=fin (f_Counter_init_b v_self v_heap v_destroy)
def f_Counter_hold_b (v_self v_thing:AV):M (Fl Unit) :=
 bd (rt v_thing) λ o1=>bd (getA o1 "count") λ a2=>bd (rt (.int 1)) λ a3=>bd (iaddM a2 a3) λ x4=>bd (setA o1 "count" x4) λ _ =>
 rt (.nxt ())
def f_Counter_hold (v_self v_thing:AV):M AV:=fin (f_Counter_hold_b v_self v_thing)
def f_Counter_let_go_b (v_self v_thing:AV):M (Fl Unit) :=
 bd (rt v_thing) λ o1=>bd (getA o1 "count") λ a2=>bd (rt (.int 1)) λ a3=>bd (subM a2 a3) λ x4=>bd (setA o1 "count" x4) λ _ =>
 bd (bd (bd (bd (rt v_thing) λ a13=>getA a13 "count") λ a11=>bd (rt (.int 0)) λ a12=>eqM a11 a12) tru) λ c5=>if c5 then
  bd (bd (bd (bd (rt v_self) λ a8=>getA a8 "heap") λ a7=>getA a7 "zero") λ o6=>bd (chkL o6) λ _=>bd (rt v_thing) λ a9=>appL o6 a9) λ _ =>
  rt (.nxt ())
 else
  rt (.nxt ())
def f_Counter_let_go (v_self v_thing:AV):M AV:=fin (f_Counter_let_go_b v_self v_thing)
def f_Counter_note_b (v_self v_thing:AV):M (Fl Unit) :=
 bd (bd (bd (bd (rt v_thing) λ a9=>getA a9 "count") λ a7=>bd (rt (.int 0)) λ a8=>eqM a7 a8) tru) λ c1=>if c1 then
  bd (bd (bd (bd (rt v_self) λ a4=>getA a4 "heap") λ a3=>getA a3 "zero") λ o2=>bd (chkL o2) λ _=>bd (rt v_thing) λ a5=>appL o2 a5) λ _ =>
  rt (.nxt ())
 else
  rt (.nxt ())
def f_Counter_note (v_self v_thing:AV):M AV:=fin (f_Counter_note_b v_self v_thing)
def f_Counter_take_b (v_self v_value:AV):M (Fl Unit) :=
 thnG (λ _=>[some v_self,some v_value,none,none]) (bd (notC (bd (bd (rt v_value) λ a14=>isI .ref a14) tru)) λ c1=>if c1 then
  bd (rt v_value) λ r2=>rt (.ret r2)
 else
  rt (.nxt ())) λ _ =>
 bd (bd (rt v_self) λ o3=>bd (chk o3 .counter) λ _=>bd (bd (rt v_value) λ a4=>getA a4 "target") λ a5=>f_Counter_hold o3 a5) λ _ =>
 thnG (λ _=>[some v_self,some v_value,none,none]) (bd (bd (bd (rt v_value) λ a12=>getA a12 "is_weak") tru) λ c6=>if c6 then
  bd (bd (bd (rt v_value) λ a8=>getA a8 "target") λ a9=>new .ref λ o=>f_Ref_init o a9 (.bool false)) λ r7=>rt (.ret r7)
 else
  rt (.nxt ())) λ _ =>
 bd (rt v_value) λ r10=>rt (.ret r10)
def f_Counter_take (v_self v_value:AV):M AV:=fin (f_Counter_take_b v_self v_value)
def f_Counter_put_off_b (v_self v_scalar v_value:AV):M (Fl Unit) :=
 thnG (λ _=>[some v_self,some v_scalar,some v_value,none,none]) (bd (notC (bd (bd (rt v_value) λ a20=>isI .ref a20) tru)) λ c1=>if c1 then
  rt (.ret .none)
 else
  rt (.nxt ())) λ _ =>
 bd (bd (bd (rt v_value) λ a18=>getA a18 "is_weak") tru) λ c2=>if c2 then
  bd (bd (bd (bd (rt v_value) λ a6=>getA a6 "target") λ a5=>getA a5 "weak") λ a12=>comp (λ v_one=>[none,some v_one,some v_scalar]) a12 (λ v_one=>(bd (bd (bd (rt v_one) λ a10=>getA a10 "number") λ a8=>bd (bd (rt v_scalar) λ a11=>getA a11 "number") λ a9=>neM a8 a9) tru)) (λ v_one=>(rt v_one))) λ x3=>bd (bd (rt v_value) λ a13=>getA a13 "target") λ o4=>bd (setA o4 "weak" x3) λ _ =>
  rt (.nxt ())
 else
  bd (bd (rt v_self) λ o14=>bd (chk o14 .counter) λ _=>bd (bd (rt v_value) λ a15=>getA a15 "target") λ a16=>f_Counter_let_go o14 a16) λ _ =>
  rt (.nxt ())
def f_Counter_put_off (v_self v_scalar v_value:AV):M AV:=fin (f_Counter_put_off_b v_self v_scalar v_value)
def f_Counter_store_b (v_self v_scalar v_value:AV):M (Fl Unit) :=
 bd (bd (bd (rt v_self) λ a2=>getA a2 "places") λ o1=>bd (chkD o1) λ _=>bd (bd (rt v_scalar) λ a3=>getA a3 "number") λ a4=>bd (rt .none) λ a5=>dpop2 o1 a4 a5) λ _ =>
 thnG (λ _=>[some v_self,some v_scalar,some v_value,none]) (bd (bd (bd (bd (rt v_scalar) λ a17=>getA a17 "magic") λ a16=>isNN a16) tru) λ c6=>if c6 then
  fl
 else
  rt (.nxt ())) λ _ =>
 bd (bd (rt v_scalar) λ a7=>getA a7 "value") λ v_old =>
 bd (bd (rt v_self) λ o10=>bd (chk o10 .counter) λ _=>bd (rt v_value) λ a11=>f_Counter_take o10 a11) λ x8=>bd (rt v_scalar) λ o9=>bd (setA o9 "value" x8) λ _ =>
 bd (bd (rt v_self) λ o12=>bd (chk o12 .counter) λ _=>bd (rt v_scalar) λ a13=>bd (rt v_old) λ a14=>f_Counter_put_off o12 a13 a14) λ _ =>
 rt (.nxt ())
def f_Counter_store (v_self v_scalar v_value:AV):M AV:=fin (f_Counter_store_b v_self v_scalar v_value)
def f_Counter_fresh_b (v_self v_value:AV):M (Fl Unit) :=
 bd (bd (bd (rt v_self) λ a2=>getA a2 "heap") λ o1=>bd (chk o1 .heap) λ _=>bd (bd (rt v_self) λ o3=>bd (chk o3 .counter) λ _=>bd (rt v_value) λ a4=>f_Counter_take o3 a4) λ a5=>f_Heap_new_scalar o1 a5) λ v_scalar =>
 bd (rt (.int 1)) λ x6=>bd (rt v_scalar) λ o7=>bd (setA o7 "count" x6) λ _ =>
 bd (rt v_scalar) λ r8=>rt (.ret r8)
def f_Counter_fresh (v_self v_value:AV):M AV:=fin (f_Counter_fresh_b v_self v_value)
def f_Counter_drop_b (v_self v_scalar:AV):M (Fl Unit) :=
 bd (bd (rt v_self) λ o1=>bd (chk o1 .counter) λ _=>bd (rt v_scalar) λ a2=>f_Counter_let_go o1 a2) λ _ =>
 rt (.nxt ())
def f_Counter_drop (v_self v_scalar:AV):M AV:=fin (f_Counter_drop_b v_self v_scalar)
def f_weaken_scalar_b (v_counter v_scalar:AV):M (Fl Unit) :=
 thnG (λ _=>[some v_counter,some v_scalar,none,none,none]) (bd (orC (notC (bd (bd (bd (rt v_scalar) λ a15=>getA a15 "value") λ a14=>isI .ref a14) tru)) (bd (bd (bd (rt v_scalar) λ a18=>getA a18 "value") λ a17=>getA a17 "is_weak") tru)) λ c1=>if c1 then
  rt (.ret .none)
 else
  rt (.nxt ())) λ _ =>
 bd (bd (bd (rt v_scalar) λ a3=>getA a3 "value") λ a2=>getA a2 "target") λ v_target =>
 bd (bd (rt v_target) λ a6=>bd (rt (.bool true)) λ a7=>new .ref λ o=>f_Ref_init o a6 a7) λ x4=>bd (rt v_scalar) λ o5=>bd (setA o5 "value" x4) λ _ =>
 bd (bd (bd (rt v_target) λ a9=>getA a9 "weak") λ o8=>bd (chkL o8) λ _=>bd (rt v_scalar) λ a10=>appL o8 a10) λ _ =>
 bd (bd (rt v_counter) λ o11=>bd (chk o11 .counter) λ _=>bd (rt v_target) λ a12=>f_Counter_let_go o11 a12) λ _ =>
 rt (.nxt ())
def f_weaken_scalar (v_counter v_scalar:AV):M AV:=fin (f_weaken_scalar_b v_counter v_scalar)
def f_bless_thing_b (v_thing v_package:AV):M (Fl Unit) :=
 bd (rt v_package) λ x1=>bd (rt v_thing) λ o2=>bd (setA o2 "blessed" x1) λ _ =>
 rt (.nxt ())
def f_bless_thing (v_thing v_package:AV):M AV:=fin (f_bless_thing_b v_thing v_package)
def f_Limits_init_b (v_self v_width v_depth v_steps v_text v_items:AV):M (Fl Unit) :=
 bd (rt v_width) λ x1=>bd (rt v_self) λ o2=>bd (setA o2 "width" x1) λ _ =>
 bd (rt v_depth) λ x3=>bd (rt v_self) λ o4=>bd (setA o4 "depth" x3) λ _ =>
 bd (rt v_steps) λ x5=>bd (rt v_self) λ o6=>bd (setA o6 "steps" x5) λ _ =>
 bd (rt v_text) λ x7=>bd (rt v_self) λ o8=>bd (setA o8 "text" x7) λ _ =>
 bd (rt v_items) λ x9=>bd (rt v_self) λ o10=>bd (setA o10 "items" x9) λ _ =>
 rt (.nxt ())
def f_Limits_init (v_self v_width v_depth v_steps v_text v_items:AV):M AV:=fin (f_Limits_init_b v_self v_width v_depth v_steps v_text v_items)
def f_destroy_b (cv:CV) (v_thing:AV):M (Fl Unit) :=
 bd (bd (rt cv.heard) λ o1=>bd (chkL o1) λ _=>bd (bd (rt v_thing) λ a2=>getA a2 "number") λ a3=>appL o1 a3) λ _ =>
 bd (andC (bd (bd (bd (bd (rt v_thing) λ a23=>getA a23 "number") λ a21=>bd (rt (.int 3)) λ a22=>modM a21 a22) λ a19=>bd (rt cv.rescue) λ a20=>eqM a19 a20) tru) (bd (bd (rt cv.roots) λ a25=>bd (mkL []) λ a26=>neM a25 a26) tru)) λ c4=>if c4 then
  bd (bd (bd (rt cv.box) λ a6=>bd (rt (.int 0)) λ a7=>getI a6 a7) λ o5=>bd (chk o5 .counter) λ _=>bd (bd (rt cv.real) λ a8=>bd (bd (rt cv.roots) λ a10=>bd (bd (bd (rt v_thing) λ a14=>getA a14 "number") λ a12=>bd (rt (.int 4)) λ a13=>modM a12 a13) λ a11=>getI a10 a11) λ a9=>getI a8 a9) λ a16=>bd (bd (rt v_thing) λ a15=>new .ref λ o=>f_Ref_init o a15 (.bool false)) λ a17=>f_Counter_store o5 a16 a17) λ _ =>
  rt (.nxt ())
 else
  rt (.nxt ())
def f_destroy (cv:CV) (v_thing:AV):M AV:=fin (f_destroy_b cv v_thing)
def callD (cv:CV) (d a:AV):M AV:=match d with
 | .dstr=>f_destroy cv a
 | _=>fl
def f_Counter_finish_b (cv:CV) (v_self v_thing:AV):M (Fl Unit) :=
 thnG (λ _=>[some v_self,some v_thing]) (bd (orC (bd (bd (bd (rt v_thing) λ a18=>getA a18 "count") λ a16=>bd (rt (.int 0)) λ a17=>neM a16 a17) tru) (orC (bd (bd (bd (rt v_thing) λ a21=>getA a21 "blessed") λ a20=>isN a20) tru) (orC (bd (bd (rt v_thing) λ a23=>getA a23 "is_destroyed") tru) (bd (bd (bd (rt v_self) λ a26=>getA a26 "destroy") λ a25=>isN a25) tru)))) λ c1=>if c1 then
  rt (.ret .none)
 else
  rt (.nxt ())) λ _ =>
 bd (rt (.bool true)) λ x2=>bd (rt v_thing) λ o3=>bd (setA o3 "is_destroyed" x2) λ _ =>
 bd (rt v_thing) λ o4=>bd (getA o4 "count") λ a5=>bd (rt (.int 1)) λ a6=>bd (iaddM a5 a6) λ x7=>bd (setA o4 "count" x7) λ _ =>
 bd (bd (rt v_self) λ o8=>bd (getA o8 "destroy") λ d9=>bd (rt v_thing) λ a10=>callD cv d9 a10) λ _ =>
 bd (rt v_thing) λ o11=>bd (getA o11 "count") λ a12=>bd (rt (.int 1)) λ a13=>bd (subM a12 a13) λ x14=>bd (setA o11 "count" x14) λ _ =>
 rt (.nxt ())
def f_Counter_finish (cv:CV) (v_self v_thing:AV):M AV:=fin (f_Counter_finish_b cv v_self v_thing)
def f_Counter_free_b (v_self v_thing:AV):M (Fl Unit) :=
 bd (rt (.bool true)) λ x1=>bd (rt v_thing) λ o2=>bd (setA o2 "is_freed" x1) λ _ =>
 thnG (λ _=>[some v_self,some v_thing,none,none,none,none,none,none,none,none]) (bd (bd (rt v_thing) λ a4=>getA a4 "weak") λ a3=>forL (λ _=>[some v_self,some v_thing,none,none,none,none,none,none,none,none]) a3 () λ _ v_scalar =>
  bd (rt .none) λ x5=>bd (rt v_scalar) λ o6=>bd (setA o6 "value" x5) λ _ =>
  rt (.nxt ())) λ _ =>
 bd (mkL []) λ x7=>bd (rt v_thing) λ o8=>bd (setA o8 "weak" x7) λ _ =>
 thnG (λ _=>[some v_self,some v_thing,none,none,none,none,none,none,none,none]) (bd (bd (bd (rt v_thing) λ a27=>isI .scalar a27) tru) λ c9=>if c9 then
  bd (bd (bd (rt v_self) λ a11=>getA a11 "places") λ o10=>bd (chkD o10) λ _=>bd (bd (rt v_thing) λ a12=>getA a12 "number") λ a13=>bd (rt .none) λ a14=>dpop2 o10 a13 a14) λ _ =>
  bd (bd (rt v_thing) λ a15=>getA a15 "value") λ v_old =>
  bd (rt .none) λ x16=>bd (rt v_thing) λ o17=>bd (setA o17 "value" x16) λ _ =>
  bd (bd (rt v_self) λ o18=>bd (chk o18 .counter) λ _=>bd (rt v_thing) λ a19=>bd (rt v_old) λ a20=>f_Counter_put_off o18 a19 a20) λ _ =>
  rt (.nxt ())
 else
  rt (.nxt ())) λ _ =>
 bd (bd (rt v_thing) λ a21=>f_held_by a21) λ v_gone =>
 bd (bd (rt v_thing) λ a22=>f_empty_out a22) λ _ =>
 thnG (λ _=>[some v_self,some v_thing,none,none,some v_gone,none,none,none,none,none]) (bd (rt v_gone) λ a23=>forL (λ _=>[some v_self,some v_thing,none,none,some v_gone,none,none,none,none,none]) a23 () λ _ v_one =>
  bd (bd (rt v_self) λ o24=>bd (chk o24 .counter) λ _=>bd (rt v_one) λ a25=>f_Counter_let_go o24 a25) λ _ =>
  rt (.nxt ())) λ _ =>
 rt (.nxt ())
def f_Counter_free (v_self v_thing:AV):M AV:=fin (f_Counter_free_b v_self v_thing)
def f_Counter_settle_b (cv:CV) (v_self v_start:AV):M (Fl Unit) :=
 thnG (λ _=>[some v_self,some v_start,none,none,none,none]) (whl [some v_self,some v_start,none,none,none,none] 1000 (bd (bd (bd (bd (bd (rt v_self) λ a6=>getA a6 "heap") λ a5=>getA a5 "zero") λ a4=>lenM a4) λ a2=>bd (rt v_start) λ a3=>gtM a2 a3) tru) (bd (bd (bd (bd (bd (rt v_self) λ a10=>getA a10 "heap") λ a9=>getA a9 "zero") λ a7=>bd (rt v_start) λ a8=>slFrom a7 a8) λ a11=>f_in_order a11) λ v_dying =>
  bd (bd (bd (bd (rt v_self) λ a17=>getA a17 "heap") λ a16=>getA a16 "zero") λ a14=>bd (rt v_start) λ a15=>slTo a14 a15) λ x12=>bd (bd (rt v_self) λ a18=>getA a18 "heap") λ o13=>bd (setA o13 "zero" x12) λ _ =>
  thnG (λ _=>[some v_self,some v_start,some v_dying,none,none,none]) (bd (rt v_dying) λ a19=>forL (λ _=>[some v_self,some v_start,some v_dying,none,none,none]) a19 () λ _ v_thing =>
   bd (bd (rt v_self) λ o20=>bd (chk o20 .counter) λ _=>bd (rt v_thing) λ a21=>f_Counter_finish cv o20 a21) λ _ =>
   rt (.nxt ())) λ _ =>
  thnG (λ _=>[some v_self,some v_start,some v_dying,none,none,none]) (bd (rt v_dying) λ a22=>forL (λ _=>[some v_self,some v_start,some v_dying,none,none,none]) a22 () λ _ v_thing =>
   bd (andC (bd (bd (bd (rt v_thing) λ a29=>getA a29 "count") λ a27=>bd (rt (.int 0)) λ a28=>eqM a27 a28) tru) (notC (bd (bd (rt v_thing) λ a31=>getA a31 "is_freed") tru))) λ c23=>if c23 then
    bd (bd (rt v_self) λ o24=>bd (chk o24 .counter) λ _=>bd (rt v_thing) λ a25=>f_Counter_free o24 a25) λ _ =>
    rt (.nxt ())
   else
    rt (.nxt ())) λ _ =>
  rt (.nxt ()))) λ _ =>
 rt (.nxt ())
def f_Counter_settle (cv:CV) (v_self v_start:AV):M AV:=fin (f_Counter_settle_b cv v_self v_start)
def f_law_degrees_b (v_world v_roots:AV):M (Fl Unit) :=
 bd (al (.dI false [])) λ v_degrees =>
 thnG (λ _=>[some v_world,some v_roots,some v_degrees,none,none,none,none,none,none,none]) (bd (rt v_roots) λ a1=>forL (λ _=>[some v_world,some v_roots,some v_degrees,none,none,none,none,none,none,none]) a1 () λ _ v_number =>
  bd (bd (bd (rt v_degrees) λ o6=>bd (chkD o6) λ _=>bd (rt v_number) λ a7=>bd (rt (.int 0)) λ a8=>dget2 o6 a7 a8) λ a4=>bd (rt (.int 1)) λ a5=>addM a4 a5) λ x2=>bd (rt v_degrees) λ o3=>bd (rt v_number) λ k9=>bd (setI o3 k9 x2) λ _ =>
  rt (.nxt ())) λ _ =>
 thnG (λ _=>[some v_world,some v_roots,some v_degrees,none,none,none,none,none,none,none]) (bd (rt v_world) λ a10=>forV (λ _=>[some v_world,some v_roots,some v_degrees,none,none,none,none,none,none,none]) a10 () λ _ v_row =>
  bd (bd (rt v_row) λ a11=>bd (rt (.int 3)) λ a12=>getI a11 a12) λ v_inner =>
  bd (mkL []) λ v_goals =>
  thnG (λ v_goals=>[some v_world,some v_roots,some v_degrees,none,some v_row,some v_inner,some v_goals,none,none,none]) (bd (andC (bd (bd (bd (rt v_row) λ a43=>bd (rt (.int 0)) λ a44=>getI a43 a44) λ a41=>bd (rt (.str "S")) λ a42=>eqM a41 a42) tru) (andC (bd (bd (rt v_inner) λ a46=>isT a46) tru) (bd (bd (bd (rt v_inner) λ a50=>bd (rt (.int 0)) λ a51=>getI a50 a51) λ a48=>bd (rt (.str "ref")) λ a49=>eqM a48 a49) tru))) λ c13=>if c13 then
   bd (mkL [(bd (rt v_inner) λ a14=>bd (rt (.int 1)) λ a15=>getI a14 a15)]) λ v_goals =>
   rt (.nxt v_goals)
  else
   rt (.nxt v_goals)) λ v_goals =>
  thnG (λ v_goals=>[some v_world,some v_roots,some v_degrees,none,some v_row,some v_inner,some v_goals,none,none,none]) (bd (bd (bd (bd (rt v_row) λ a38=>bd (rt (.int 0)) λ a39=>getI a38 a39) λ a36=>bd (rt (.str "A")) λ a37=>eqM a36 a37) tru) λ c16=>if c16 then
   bd (rt v_inner) λ v_goals =>
   rt (.nxt v_goals)
  else
   rt (.nxt v_goals)) λ v_goals =>
  thnG (λ v_goals=>[some v_world,some v_roots,some v_degrees,none,some v_row,some v_inner,some v_goals,none,none,none]) (bd (bd (bd (bd (rt v_row) λ a33=>bd (rt (.int 0)) λ a34=>getI a33 a34) λ a31=>bd (rt (.str "H")) λ a32=>eqM a31 a32) tru) λ c17=>if c17 then
   bd (bd (rt v_inner) λ a20=>comp (λ v_pair=>[none,some v_pair]) a20 (λ v_pair=>(rt true)) (λ v_pair=>(bd (rt v_pair) λ a18=>bd (rt (.int 1)) λ a19=>getI a18 a19))) λ v_goals =>
   rt (.nxt v_goals)
  else
   rt (.nxt v_goals)) λ v_goals =>
  thnG (λ _=>[some v_world,some v_roots,some v_degrees,none,some v_row,some v_inner,some v_goals,none,none,none]) (bd (rt v_goals) λ a21=>forL (λ _=>[some v_world,some v_roots,some v_degrees,none,some v_row,some v_inner,some v_goals,none,none,none]) a21 () λ _ v_goal =>
   bd (bd (bd (rt v_degrees) λ o26=>bd (chkD o26) λ _=>bd (rt v_goal) λ a27=>bd (rt (.int 0)) λ a28=>dget2 o26 a27 a28) λ a24=>bd (rt (.int 1)) λ a25=>addM a24 a25) λ x22=>bd (rt v_degrees) λ o23=>bd (rt v_goal) λ k29=>bd (setI o23 k29 x22) λ _ =>
   rt (.nxt ())) λ _ =>
  rt (.nxt ())) λ _ =>
 bd (rt v_degrees) λ r52=>rt (.ret r52)
def f_law_degrees (v_world v_roots:AV):M AV:=fin (f_law_degrees_b v_world v_roots)
def f_law_settled_b (v_world v_roots v_log v_rescue:AV):M (Fl Unit) :=
 thnG (λ _=>[some v_world,some v_roots,some v_log,some v_rescue,none,none,none,none,none,none]) (whl [some v_world,some v_roots,some v_log,some v_rescue,none,none,none,none,none,none] 1000 (bd (rt (.bool true)) tru) (bd (bd (rt v_world) λ a1=>bd (rt v_roots) λ a2=>f_law_degrees a1 a2) λ v_degrees =>
  bd (bd (bd (rt v_world) λ a10=>comp (λ v_number=>[none,some v_number,some v_degrees]) a10 (λ v_number=>(bd (bd (bd (rt v_degrees) λ o7=>bd (chkD o7) λ _=>bd (rt v_number) λ a8=>bd (rt (.int 0)) λ a9=>dget2 o7 a8 a9) λ a5=>bd (rt (.int 0)) λ a6=>eqM a5 a6) tru)) (λ v_number=>(rt v_number))) λ a3=>sortedL a3) λ v_dying =>
  thnG (λ _=>[some v_world,some v_roots,some v_log,some v_rescue,some v_degrees,none,some v_dying,none,none,none]) (bd (bd (bd (rt v_dying) λ a76=>bd (mkL []) λ a77=>eqM a76 a77) tru) λ c11=>if c11 then
   rt (.ret .none)
  else
   rt (.nxt ())) λ _ =>
  thnG (λ _=>[some v_world,some v_roots,some v_log,some v_rescue,some v_degrees,none,some v_dying,none,none,none]) (bd (rt v_dying) λ a12=>forL (λ _=>[some v_world,some v_roots,some v_log,some v_rescue,some v_degrees,none,some v_dying,none,none,none]) a12 () λ _ v_number =>
   bd (bd (rt v_world) λ a13=>bd (rt v_number) λ a14=>getI a13 a14) λ v_row =>
   bd (andC (bd (bd (rt v_row) λ a40=>bd (rt (.int 1)) λ a41=>getI a40 a41) tru) (andC (notC (bd (bd (rt v_row) λ a43=>bd (rt (.int 2)) λ a44=>getI a43 a44) tru)) (bd (bd (bd (bd (rt v_world) λ a49=>bd (rt v_roots) λ a50=>f_law_degrees a49 a50) λ o48=>bd (chkD o48) λ _=>bd (rt v_number) λ a51=>bd (rt (.int 0)) λ a52=>dget2 o48 a51 a52) λ a46=>bd (rt (.int 0)) λ a47=>eqM a46 a47) tru))) λ c15=>if c15 then
    bd (rt (.bool true)) λ x16=>bd (rt v_row) λ o17=>bd (rt (.int 2)) λ k18=>bd (setI o17 k18 x16) λ _ =>
    bd (bd (rt v_log) λ o19=>bd (chkL o19) λ _=>bd (rt v_number) λ a20=>appL o19 a20) λ _ =>
    bd (andC (bd (bd (bd (rt v_number) λ a34=>bd (rt (.int 3)) λ a35=>modM a34 a35) λ a32=>bd (rt v_rescue) λ a33=>eqM a32 a33) tru) (bd (bd (rt v_roots) λ a37=>bd (mkL []) λ a38=>neM a37 a38) tru)) λ c21=>if c21 then
     bd (mkT [(rt (.str "ref")),(rt v_number)]) λ x22=>bd (bd (rt v_world) λ a25=>bd (bd (rt v_roots) λ a27=>bd (bd (rt v_number) λ a29=>bd (rt (.int 4)) λ a30=>modM a29 a30) λ a28=>getI a27 a28) λ a26=>getI a25 a26) λ o23=>bd (rt (.int 3)) λ k24=>bd (setI o23 k24 x22) λ _ =>
     rt (.nxt ())
    else
     rt (.nxt ())
   else
    rt (.nxt ())) λ _ =>
  bd (bd (rt v_world) λ a53=>bd (rt v_roots) λ a54=>f_law_degrees a53 a54) λ v_degrees =>
  thnG (λ _=>[some v_world,some v_roots,some v_log,some v_rescue,some v_degrees,none,some v_dying,none,none,none]) (bd (bd (rt v_dying) λ a62=>comp (λ v_one=>[none,some v_one,some v_degrees]) a62 (λ v_one=>(bd (bd (bd (rt v_degrees) λ o59=>bd (chkD o59) λ _=>bd (rt v_one) λ a60=>bd (rt (.int 0)) λ a61=>dget2 o59 a60 a61) λ a57=>bd (rt (.int 0)) λ a58=>eqM a57 a58) tru)) (λ v_one=>(rt v_one))) λ a55=>forL (λ _=>[some v_world,some v_roots,some v_log,some v_rescue,some v_degrees,none,some v_dying,none,none,none]) a55 () λ _ v_number =>
   bd (bd (rt v_world) λ o63=>bd (chkD o63) λ _=>bd (rt v_number) λ a64=>dpop1 o63 a64) λ _ =>
   thnG (λ _=>[some v_world,some v_roots,some v_log,some v_rescue,some v_degrees,some v_number,some v_dying,none,none,none]) (bd (rt v_world) λ a65=>forV (λ _=>[some v_world,some v_roots,some v_log,some v_rescue,some v_degrees,some v_number,some v_dying,none,none,none]) a65 () λ _ v_row =>
    bd (bd (bd (bd (rt v_row) λ a73=>bd (rt (.int 3)) λ a74=>getI a73 a74) λ a71=>bd (mkT [(rt (.str "weak")),(rt v_number)]) λ a72=>eqM a71 a72) tru) λ c66=>if c66 then
     bd (rt .none) λ x67=>bd (rt v_row) λ o68=>bd (rt (.int 3)) λ k69=>bd (setI o68 k69 x67) λ _ =>
     rt (.nxt ())
    else
     rt (.nxt ())) λ _ =>
   rt (.nxt ())) λ _ =>
  rt (.nxt ()))) λ _ =>
 rt (.nxt ())
def f_law_settled (v_world v_roots v_log v_rescue:AV):M AV:=fin (f_law_settled_b v_world v_roots v_log v_rescue)
def f_law_value_b (v_value:AV):M (Fl Unit) :=
 thnG (λ _=>[some v_value,none,none]) (bd (bd (bd (rt v_value) λ a9=>isI .ref a9) tru) λ c1=>if c1 then
  bd (mkT [(iteV (bd (bd (rt v_value) λ a4=>getA a4 "is_weak") tru) (rt (.str "weak")) (rt (.str "ref"))),(bd (bd (rt v_value) λ a6=>getA a6 "target") λ a5=>getA a5 "number")]) λ r2=>rt (.ret r2)
 else
  rt (.nxt ())) λ _ =>
 bd (rt v_value) λ r7=>rt (.ret r7)
def f_law_value (v_value:AV):M AV:=fin (f_law_value_b v_value)
def f_law_same_b (v_world v_roots v_real:AV):M (Fl Unit) :=
 bd (bd (rt v_world) λ a1=>bd (rt v_roots) λ a2=>f_law_degrees a1 a2) λ v_degrees =>
 thnG (λ _=>[some v_world,some v_roots,some v_real,some v_degrees,none,none,none,none,none,none]) (bd (rt v_real) λ a3=>forL (λ _=>[some v_world,some v_roots,some v_real,some v_degrees,none,none,none,none,none,none]) a3 () λ _ v_number =>
  bd (bd (rt v_real) λ a4=>bd (rt v_number) λ a5=>getI a4 a5) λ v_thing =>
  thnG (λ _=>[some v_world,some v_roots,some v_real,some v_degrees,some v_number,some v_thing,none,none,none,none]) (bd (bd (bd (bd (rt v_thing) λ a60=>getA a60 "is_freed") λ a58=>bd (bd (rt v_number) λ a61=>bd (rt v_world) λ a62=>ninK a61 a62) λ a59=>neM a58 a59) tru) λ c6=>if c6 then
   bd (rt (.bool false)) λ r7=>rt (.ret r7)
  else
   rt (.nxt ())) λ _ =>
  thnG (λ _=>[some v_world,some v_roots,some v_real,some v_degrees,some v_number,some v_thing,none,none,none,none]) (bd (bd (bd (rt v_number) λ a55=>bd (rt v_world) λ a56=>ninK a55 a56) tru) λ c8=>if c8 then
   rt .cnt
  else
   rt (.nxt ())) λ _ =>
  bd (bd (rt v_world) λ a9=>bd (rt v_number) λ a10=>getI a9 a10) λ v_row =>
  thnG (λ v_told=>[some v_world,some v_roots,some v_real,some v_degrees,some v_number,some v_thing,some v_row,some v_told,none,none]) (bd (bd (bd (bd (rt v_row) λ a52=>bd (rt (.int 0)) λ a53=>getI a52 a53) λ a50=>bd (rt (.str "S")) λ a51=>eqM a50 a51) tru) λ c11=>if c11 then
   bd (bd (bd (rt v_thing) λ a12=>getA a12 "value") λ a13=>f_law_value a13) λ v_told =>
   rt (.nxt v_told)
  else
   bd (bd (bd (bd (rt v_row) λ a27=>bd (rt (.int 0)) λ a28=>getI a27 a28) λ a25=>bd (rt (.str "A")) λ a26=>eqM a25 a26) tru) λ c14=>if c14 then
    bd (bd (bd (rt v_thing) λ a15=>getA a15 "items") λ a17=>comp (λ v_one=>[none,some v_one]) a17 (λ v_one=>(rt true)) (λ v_one=>(bd (rt v_one) λ a16=>getA a16 "number"))) λ v_told =>
    rt (.nxt v_told)
   else
    bd (bd (bd (rt v_thing) λ a18=>getA a18 "table") λ a23=>comp (λ v_key=>[none,some v_key,some v_thing]) a23 (λ v_key=>(rt true)) (λ v_key=>(mkL [(rt v_key),(bd (bd (bd (rt v_thing) λ a22=>getA a22 "table") λ a20=>bd (rt v_key) λ a21=>getI a20 a21) λ a19=>getA a19 "number")]))) λ v_told =>
    rt (.nxt v_told)) λ v_told =>
  bd (orC (bd (bd (rt v_told) λ a32=>bd (bd (rt v_row) λ a34=>bd (rt (.int 3)) λ a35=>getI a34 a35) λ a33=>neM a32 a33) tru) (orC (bd (bd (bd (rt v_thing) λ a39=>getA a39 "count") λ a37=>bd (bd (rt v_degrees) λ o40=>bd (chkD o40) λ _=>bd (rt v_number) λ a41=>bd (rt (.int 0)) λ a42=>dget2 o40 a41 a42) λ a38=>neM a37 a38) tru) (bd (bd (bd (rt v_thing) λ a46=>getA a46 "is_destroyed") λ a44=>bd (bd (rt v_row) λ a47=>bd (rt (.int 2)) λ a48=>getI a47 a48) λ a45=>neM a44 a45) tru))) λ c29=>if c29 then
   bd (rt (.bool false)) λ r30=>rt (.ret r30)
  else
   rt (.nxt ())) λ _ =>
 bd (rt (.bool true)) λ r63=>rt (.ret r63)
def f_law_same (v_world v_roots v_real:AV):M AV:=fin (f_law_same_b v_world v_roots v_real)
def f_law_place_b (v_world v_number v_k:AV):M (Fl Unit) :=
 thnG (λ v_number=>[some v_world,some v_number,some v_k,none,none,none,none,none,none,none,none]) (bd (bd (rt v_k) λ a2=>bd (rt (.int 3)) λ a3=>modM a2 a3) λ a1=>forR (λ v_number=>[some v_world,some v_number,some v_k,none,none,none,none,none,none,none,none]) a1 v_number λ v_number v_turn =>
  bd (bd (bd (rt v_world) λ a6=>bd (rt v_number) λ a7=>getI a6 a7) λ a4=>bd (rt (.int 3)) λ a5=>getI a4 a5) λ v_inner =>
  bd (bd (bd (rt v_inner) λ a44=>isT a44) tru) λ c8=>if c8 then
   bd (bd (rt v_world) λ a9=>bd (bd (rt v_inner) λ a11=>bd (rt (.int 1)) λ a12=>getI a11 a12) λ a10=>getI a9 a10) λ v_goal =>
   bd (bd (bd (bd (rt v_goal) λ a41=>bd (rt (.int 0)) λ a42=>getI a41 a42) λ a39=>bd (rt (.str "S")) λ a40=>eqM a39 a40) tru) λ c13=>if c13 then
    bd (bd (rt v_inner) λ a14=>bd (rt (.int 1)) λ a15=>getI a14 a15) λ v_number =>
    rt (.nxt v_number)
   else
    bd (bd (bd (bd (rt v_goal) λ a36=>bd (rt (.int 3)) λ a37=>getI a36 a37) λ a34=>bd (mkL []) λ a35=>neM a34 a35) tru) λ c16=>if c16 then
     bd (bd (bd (rt v_goal) λ a19=>bd (rt (.int 3)) λ a20=>getI a19 a20) λ a17=>bd (bd (rt v_k) λ a21=>bd (bd (bd (rt v_goal) λ a24=>bd (rt (.int 3)) λ a25=>getI a24 a25) λ a23=>lenM a23) λ a22=>modM a21 a22) λ a18=>getI a17 a18) λ v_member =>
     bd (iteV (bd (bd (bd (rt v_goal) λ a29=>bd (rt (.int 0)) λ a30=>getI a29 a30) λ a27=>bd (rt (.str "A")) λ a28=>eqM a27 a28) tru) (rt v_member) (bd (rt v_member) λ a31=>bd (rt (.int 1)) λ a32=>getI a31 a32)) λ v_number =>
     rt (.nxt v_number)
    else
     rt (.nxt v_number)
  else
   rt (.nxt v_number)) λ v_number =>
 bd (rt v_number) λ r45=>rt (.ret r45)
def f_law_place (v_world v_number v_k:AV):M AV:=fin (f_law_place_b v_world v_number v_k)
def f_law_strong_b (v_inner:AV):M (Fl Unit) :=
 bd (iteV (bd (bd (rt v_inner) λ a3=>isT a3) tru) (mkT [(rt (.str "ref")),(bd (rt v_inner) λ a4=>bd (rt (.int 1)) λ a5=>getI a4 a5)]) (rt v_inner)) λ r1=>rt (.ret r1)
def f_law_strong (v_inner:AV):M AV:=fin (f_law_strong_b v_inner)
def f_law_new_b (v_counter v_world v_real v_way v_place v_k:AV):M (Fl Unit) :=
 bd (bd (rt v_counter) λ a1=>getA a1 "heap") λ v_heap =>
 bd (bd (mkL [(bd (rt v_heap) λ o4=>bd (chk o4 .heap) λ _=>bd (rt .none) λ a5=>f_Heap_new_scalar o4 a5),(bd (rt v_heap) λ o6=>bd (chk o6 .heap) λ _=>f_Heap_new_array o6 ),(bd (rt v_heap) λ o7=>bd (chk o7 .heap) λ _=>f_Heap_new_hash o7 )]) λ a2=>bd (rt v_way) λ a3=>getI a2 a3) λ v_thing =>
 bd (bd (rt v_counter) λ o8=>bd (chk o8 .counter) λ _=>bd (rt v_thing) λ a9=>f_Counter_note o8 a9) λ _ =>
 thnG (λ _=>[some v_counter,some v_world,some v_real,some v_way,some v_place,some v_k,some v_heap,some v_thing,none,none]) (bd (bd (bd (bd (rt v_k) λ a43=>bd (rt (.int 2)) λ a44=>modM a43 a44) λ a41=>bd (rt (.int 1)) λ a42=>eqM a41 a42) tru) λ c10=>if c10 then
  bd (bd (rt v_thing) λ a11=>bd (rt (.str "P")) λ a12=>f_bless_thing a11 a12) λ _ =>
  rt (.nxt ())
 else
  rt (.nxt ())) λ _ =>
 bd (rt v_thing) λ x13=>bd (rt v_real) λ o14=>bd (bd (rt v_thing) λ a16=>getA a16 "number") λ k15=>bd (setI o14 k15 x13) λ _ =>
 bd (mkL [(bd (rt v_way) λ a19=>sah a19),(bd (bd (rt v_k) λ a22=>bd (rt (.int 2)) λ a23=>modM a22 a23) λ a20=>bd (rt (.int 1)) λ a21=>eqM a20 a21),(rt (.bool false)),(bd (mkL [(rt .none),(mkL []),(mkL [])]) λ a24=>bd (rt v_way) λ a25=>getI a24 a25)]) λ x17=>bd (rt v_world) λ o18=>bd (bd (rt v_thing) λ a27=>getA a27 "number") λ k26=>bd (setI o18 k26 x17) λ _ =>
 bd (bd (rt v_counter) λ o28=>bd (chk o28 .counter) λ _=>bd (bd (rt v_real) λ a29=>bd (rt v_place) λ a30=>getI a29 a30) λ a32=>bd (bd (rt v_thing) λ a31=>new .ref λ o=>f_Ref_init o a31 (.bool false)) λ a33=>f_Counter_store o28 a32 a33) λ _ =>
 bd (mkT [(rt (.str "ref")),(bd (rt v_thing) λ a36=>getA a36 "number")]) λ x34=>bd (bd (rt v_world) λ a38=>bd (rt v_place) λ a39=>getI a38 a39) λ o35=>bd (rt (.int 3)) λ k37=>bd (setI o35 k37 x34) λ _ =>
 rt (.nxt ())
def f_law_new (v_counter v_world v_real v_way v_place v_k:AV):M AV:=fin (f_law_new_b v_counter v_world v_real v_way v_place v_k)
def f_law_put_b (v_counter v_world v_real v_place v_source v_k:AV):M (Fl Unit) :=
 bd (bd (bd (rt v_world) λ a3=>bd (rt v_place) λ a4=>getI a3 a4) λ a1=>bd (rt (.int 3)) λ a2=>getI a1 a2) λ v_inner =>
 thnG (λ _=>[some v_counter,some v_world,some v_real,some v_place,some v_source,some v_k,some v_inner,none,none,none,none,none,none,none,none,none]) (bd (orC (notC (bd (bd (rt v_inner) λ a86=>isT a86) tru)) (bd (bd (bd (bd (rt v_world) λ a92=>bd (bd (rt v_inner) λ a94=>bd (rt (.int 1)) λ a95=>getI a94 a95) λ a93=>getI a92 a93) λ a90=>bd (rt (.int 0)) λ a91=>getI a90 a91) λ a88=>bd (rt (.str "S")) λ a89=>eqM a88 a89) tru)) λ c5=>if c5 then
  rt (.ret .none)
 else
  rt (.nxt ())) λ _ =>
 bd (bd (rt v_world) λ a6=>bd (bd (rt v_inner) λ a8=>bd (rt (.int 1)) λ a9=>getI a8 a9) λ a7=>getI a6 a7) λ t_row=>bd (bd (rt v_real) λ a10=>bd (bd (rt v_inner) λ a12=>bd (rt (.int 1)) λ a13=>getI a12 a13) λ a11=>getI a10 a11) λ t_thing=>bd (al (.tup [t_row,t_thing])) λ _=> 
 bd (bd (rt v_counter) λ o14=>bd (chk o14 .counter) λ _=>bd (bd (bd (rt v_real) λ a16=>bd (rt v_source) λ a17=>getI a16 a17) λ a15=>getA a15 "value") λ a18=>f_Counter_fresh o14 a18) λ v_scalar =>
 bd (rt v_scalar) λ x19=>bd (rt v_real) λ o20=>bd (bd (rt v_scalar) λ a22=>getA a22 "number") λ k21=>bd (setI o20 k21 x19) λ _ =>
 bd (mkL [(rt (.str "S")),(rt (.bool false)),(rt (.bool false)),(bd (bd (bd (rt v_world) λ a27=>bd (rt v_source) λ a28=>getI a27 a28) λ a25=>bd (rt (.int 3)) λ a26=>getI a25 a26) λ a29=>f_law_strong a29)]) λ x23=>bd (rt v_world) λ o24=>bd (bd (rt v_scalar) λ a31=>getA a31 "number") λ k30=>bd (setI o24 k30 x23) λ _ =>
 thnG (λ _=>[some v_counter,some v_world,some v_real,some v_place,some v_source,some v_k,some v_inner,some t_row,some t_thing,some v_scalar,none,none,none,none,none,none]) (bd (bd (bd (bd (rt t_row) λ a83=>bd (rt (.int 0)) λ a84=>getI a83 a84) λ a81=>bd (rt (.str "A")) λ a82=>eqM a81 a82) tru) λ c32=>if c32 then
  bd (bd (bd (rt t_thing) λ a34=>getA a34 "items") λ o33=>bd (chkL o33) λ _=>bd (rt v_scalar) λ a35=>appL o33 a35) λ _ =>
  bd (bd (bd (rt t_row) λ a37=>bd (rt (.int 3)) λ a38=>getI a37 a38) λ o36=>bd (chkL o36) λ _=>bd (bd (rt v_scalar) λ a39=>getA a39 "number") λ a40=>appL o36 a40) λ _ =>
  rt (.ret .none)
 else
  rt (.nxt ())) λ _ =>
 bd (bd (rt (.str "k")) λ a41=>bd (bd (bd (rt v_k) λ a44=>bd (rt (.int 3)) λ a45=>modM a44 a45) λ a43=>strM a43) λ a42=>addM a41 a42) λ v_key =>
 bd (bd (bd (rt t_thing) λ a47=>getA a47 "table") λ o46=>bd (chkD o46) λ _=>bd (rt v_key) λ a48=>dget1 o46 a48) λ v_old =>
 bd (rt v_scalar) λ x49=>bd (bd (rt t_thing) λ a52=>getA a52 "table") λ o50=>bd (rt v_key) λ k51=>bd (setI o50 k51 x49) λ _ =>
 bd (bd (bd (rt v_old) λ a79=>isN a79) tru) λ c53=>if c53 then
  bd (bd (bd (rt t_row) λ a55=>bd (rt (.int 3)) λ a56=>getI a55 a56) λ o54=>bd (chkL o54) λ _=>bd (mkL [(rt v_key),(bd (rt v_scalar) λ a57=>getA a57 "number")]) λ a58=>appL o54 a58) λ _ =>
  rt (.nxt ())
 else
  bd (bd (rt v_counter) λ o59=>bd (chk o59 .counter) λ _=>bd (rt v_old) λ a60=>f_Counter_drop o59 a60) λ _ =>
  bd (bd (bd (rt t_row) λ a63=>bd (rt (.int 3)) λ a64=>getI a63 a64) λ a75=>comp (λ v_one=>[none,some v_one,some v_key,some v_scalar]) a75 (λ v_one=>(rt true)) (λ v_one=>(mkL [(bd (rt v_one) λ a65=>bd (rt (.int 0)) λ a66=>getI a65 a66),(iteV (bd (bd (bd (rt v_one) λ a70=>bd (rt (.int 0)) λ a71=>getI a70 a71) λ a68=>bd (rt v_key) λ a69=>eqM a68 a69) tru) (bd (rt v_scalar) λ a72=>getA a72 "number") (bd (rt v_one) λ a73=>bd (rt (.int 1)) λ a74=>getI a73 a74))]))) λ x61=>bd (bd (rt t_row) λ a76=>bd (rt (.int 3)) λ a77=>getI a76 a77) λ o62=>bd (setAllN o62 x61) λ _ =>
  rt (.nxt ())
def f_law_put (v_counter v_world v_real v_place v_source v_k:AV):M AV:=fin (f_law_put_b v_counter v_world v_real v_place v_source v_k)
def f_law_taken_b (v_counter v_world v_real v_place:AV):M (Fl Unit) :=
 bd (bd (bd (rt v_world) λ a3=>bd (rt v_place) λ a4=>getI a3 a4) λ a1=>bd (rt (.int 3)) λ a2=>getI a1 a2) λ v_inner =>
 thnG (λ _=>[some v_counter,some v_world,some v_real,some v_place,some v_inner,none,none,none,none,none]) (bd (orC (notC (bd (bd (rt v_inner) λ a35=>isT a35) tru)) (orC (bd (bd (bd (bd (rt v_world) λ a41=>bd (bd (rt v_inner) λ a43=>bd (rt (.int 1)) λ a44=>getI a43 a44) λ a42=>getI a41 a42) λ a39=>bd (rt (.int 0)) λ a40=>getI a39 a40) λ a37=>bd (rt (.str "S")) λ a38=>eqM a37 a38) tru) (bd (bd (bd (bd (rt v_world) λ a50=>bd (bd (rt v_inner) λ a52=>bd (rt (.int 1)) λ a53=>getI a52 a53) λ a51=>getI a50 a51) λ a48=>bd (rt (.int 3)) λ a49=>getI a48 a49) λ a46=>bd (mkL []) λ a47=>eqM a46 a47) tru))) λ c5=>if c5 then
  rt (.ret .none)
 else
  rt (.nxt ())) λ _ =>
 bd (bd (rt v_world) λ a6=>bd (bd (rt v_inner) λ a8=>bd (rt (.int 1)) λ a9=>getI a8 a9) λ a7=>getI a6 a7) λ t_row=>bd (bd (rt v_real) λ a10=>bd (bd (rt v_inner) λ a12=>bd (rt (.int 1)) λ a13=>getI a12 a13) λ a11=>getI a10 a11) λ t_thing=>bd (al (.tup [t_row,t_thing])) λ _=> 
 bd (bd (bd (rt t_row) λ a15=>bd (rt (.int 3)) λ a16=>getI a15 a16) λ o14=>bd (chkL o14) λ _=>popL o14) λ v_gone =>
 bd (bd (bd (bd (rt t_row) λ a32=>bd (rt (.int 0)) λ a33=>getI a32 a33) λ a30=>bd (rt (.str "A")) λ a31=>eqM a30 a31) tru) λ c17=>if c17 then
  bd (bd (rt v_counter) λ o18=>bd (chk o18 .counter) λ _=>bd (bd (bd (rt t_thing) λ a20=>getA a20 "items") λ o19=>bd (chkL o19) λ _=>popL o19) λ a21=>f_Counter_drop o18 a21) λ _ =>
  rt (.nxt ())
 else
  bd (bd (rt v_counter) λ o22=>bd (chk o22 .counter) λ _=>bd (bd (bd (rt t_thing) λ a24=>getA a24 "table") λ o23=>bd (chkD o23) λ _=>bd (bd (rt v_gone) λ a25=>bd (rt (.int 0)) λ a26=>getI a25 a26) λ a27=>dpop1 o23 a27) λ a28=>f_Counter_drop o22 a28) λ _ =>
  rt (.nxt ())
def f_law_taken (v_counter v_world v_real v_place:AV):M AV:=fin (f_law_taken_b v_counter v_world v_real v_place)
def f_law_deed_b (v_counter v_world v_real v_roots v_n:AV):M (Fl Unit) :=
 bd (bd (rt v_n) λ a1=>bd (rt (.int 10)) λ a2=>modM a1 a2) λ t_way=>bd (bd (rt v_n) λ a3=>bd (rt (.int 160)) λ a4=>divM a3 a4) λ t_k=>bd (al (.tup [t_way,t_k])) λ _=> 
 bd (bd (rt v_world) λ a13=>bd (bd (rt v_roots) λ a5=>bd (bd (bd (rt v_n) λ a9=>bd (rt (.int 10)) λ a10=>divM a9 a10) λ a7=>bd (rt (.int 4)) λ a8=>modM a7 a8) λ a6=>getI a5 a6) λ a14=>bd (bd (rt t_k) λ a11=>bd (rt (.int 3)) λ a12=>divM a11 a12) λ a15=>f_law_place a13 a14 a15) λ v_source =>
 bd (bd (rt v_world) λ a22=>bd (bd (rt v_roots) λ a16=>bd (bd (bd (rt v_n) λ a20=>bd (rt (.int 40)) λ a21=>divM a20 a21) λ a18=>bd (rt (.int 4)) λ a19=>modM a18 a19) λ a17=>getI a16 a17) λ a23=>bd (rt t_k) λ a24=>f_law_place a22 a23 a24) λ v_place =>
 bd (bd (bd (rt t_way) λ a121=>bd (rt (.int 3)) λ a122=>ltM a121 a122) tru) λ c25=>if c25 then
  bd (bd (rt v_counter) λ a28=>bd (rt v_world) λ a29=>bd (rt v_real) λ a30=>bd (rt t_way) λ a31=>bd (rt v_place) λ a32=>bd (bd (rt t_k) λ a26=>bd (rt (.int 9)) λ a27=>divM a26 a27) λ a33=>f_law_new a28 a29 a30 a31 a32 a33) λ _ =>
  rt (.nxt ())
 else
  bd (bd (bd (rt t_way) λ a118=>bd (rt (.int 3)) λ a119=>eqM a118 a119) tru) λ c34=>if c34 then
   bd (bd (rt v_counter) λ o35=>bd (chk o35 .counter) λ _=>bd (bd (rt v_real) λ a36=>bd (rt v_place) λ a37=>getI a36 a37) λ a41=>bd (bd (bd (rt v_real) λ a39=>bd (rt v_source) λ a40=>getI a39 a40) λ a38=>getA a38 "value") λ a42=>f_Counter_store o35 a41 a42) λ _ =>
   bd (bd (bd (bd (rt v_world) λ a47=>bd (rt v_source) λ a48=>getI a47 a48) λ a45=>bd (rt (.int 3)) λ a46=>getI a45 a46) λ a49=>f_law_strong a49) λ x43=>bd (bd (rt v_world) λ a51=>bd (rt v_place) λ a52=>getI a51 a52) λ o44=>bd (rt (.int 3)) λ k50=>bd (setI o44 k50 x43) λ _ =>
   rt (.nxt ())
  else
   bd (orC (bd (bd (rt t_way) λ a112=>bd (rt (.int 4)) λ a113=>eqM a112 a113) tru) (bd (bd (rt t_way) λ a115=>bd (rt (.int 8)) λ a116=>eqM a115 a116) tru)) λ c53=>if c53 then
    bd (iteV (bd (bd (rt t_way) λ a55=>bd (rt (.int 4)) λ a56=>eqM a55 a56) tru) (rt t_k) (rt .none)) λ v_value =>
    bd (bd (rt v_counter) λ o57=>bd (chk o57 .counter) λ _=>bd (bd (rt v_real) λ a58=>bd (rt v_place) λ a59=>getI a58 a59) λ a60=>bd (rt v_value) λ a61=>f_Counter_store o57 a60 a61) λ _ =>
    bd (rt v_value) λ x62=>bd (bd (rt v_world) λ a65=>bd (rt v_place) λ a66=>getI a65 a66) λ o63=>bd (rt (.int 3)) λ k64=>bd (setI o63 k64 x62) λ _ =>
    rt (.nxt ())
   else
    bd (bd (bd (rt t_way) λ a109=>bd (rt (.int 5)) λ a110=>eqM a109 a110) tru) λ c67=>if c67 then
     bd (bd (rt v_counter) λ a70=>bd (bd (rt v_real) λ a68=>bd (rt v_place) λ a69=>getI a68 a69) λ a71=>f_weaken_scalar a70 a71) λ _ =>
     bd (bd (bd (bd (bd (rt v_world) λ a88=>bd (rt v_place) λ a89=>getI a88 a89) λ a86=>bd (rt (.int 3)) λ a87=>getI a86 a87) λ a85=>isT a85) tru) λ c72=>if c72 then
      bd (mkT [(rt (.str "weak")),(bd (bd (bd (rt v_world) λ a79=>bd (rt v_place) λ a80=>getI a79 a80) λ a77=>bd (rt (.int 3)) λ a78=>getI a77 a78) λ a75=>bd (rt (.int 1)) λ a76=>getI a75 a76)]) λ x73=>bd (bd (rt v_world) λ a82=>bd (rt v_place) λ a83=>getI a82 a83) λ o74=>bd (rt (.int 3)) λ k81=>bd (setI o74 k81 x73) λ _ =>
      rt (.nxt ())
     else
      rt (.nxt ())
    else
     bd (bd (bd (rt t_way) λ a106=>bd (rt (.int 6)) λ a107=>eqM a106 a107) tru) λ c90=>if c90 then
      bd (bd (rt v_counter) λ a91=>bd (rt v_world) λ a92=>bd (rt v_real) λ a93=>bd (rt v_place) λ a94=>bd (rt v_source) λ a95=>bd (rt t_k) λ a96=>f_law_put a91 a92 a93 a94 a95 a96) λ _ =>
      rt (.nxt ())
     else
      bd (bd (bd (rt t_way) λ a103=>bd (rt (.int 7)) λ a104=>eqM a103 a104) tru) λ c97=>if c97 then
       bd (bd (rt v_counter) λ a98=>bd (rt v_world) λ a99=>bd (rt v_real) λ a100=>bd (rt v_place) λ a101=>f_law_taken a98 a99 a100 a101) λ _ =>
       rt (.nxt ())
      else
       rt (.nxt ())
def f_law_deed (v_counter v_world v_real v_roots v_n:AV):M AV:=fin (f_law_deed_b v_counter v_world v_real v_roots v_n)
structure LT where
 script:AV
 heap:AV
 log:AV
 world:AV
 cv:CV
def f_law0 (xs:List AV):M (Fl AV) :=
 bd (bd (al (.list (xs.take 24))) λ a8=>comp (λ v_n=>[none,some v_n,none]) a8 (λ v_n=>(rt true)) (λ v_n=>(bd (bd (rt v_n) λ a5=>absM a5) λ a3=>bd (bd (rt (.int 10)) λ a6=>bd (rt (.int 9)) λ a7=>powM a6 a7) λ a4=>modM a3 a4))) λ v_script =>
 rt (.nxt v_script)
def f_law1 (v_script:AV):M (Fl LT) :=
 bd (bd (bd (rt v_script) λ a11=>sumM a11) λ a9=>bd (rt (.int 4)) λ a10=>modM a9 a10) λ v_rescue =>
 bd (bd (new .limits λ o=>f_Limits_init o (.int 64) (.int 50) (.int 1000000) (.int 100000) (.int 10000)) λ a12=>new .heap λ o=>f_Heap_init o a12) λ v_heap =>
 bd (mkL []) λ t_log=>bd (mkL []) λ t_heard=>bd (al (.dI false [])) λ t_world=>bd (al (.dI false [])) λ t_real=>bd (mkL []) λ t_roots=>bd (mkL []) λ t_box=>bd (al (.tup [t_log,t_heard,t_world,t_real,t_roots,t_box])) λ _=> 
 rt (.nxt ⟨v_script,v_heap,t_log,t_world,⟨t_heard,t_real,v_rescue,t_roots,t_box⟩⟩)
def f_law2 (r:LT):M (Fl Unit) :=
 bd (bd (rt r.heap) λ a13=>bd (rt .dstr) λ a14=>new .counter λ o=>f_Counter_init o a13 a14) λ v_counter =>
 bd (bd (rt r.cv.box) λ o15=>bd (chkL o15) λ _=>bd (rt v_counter) λ a16=>appL o15 a16) λ _ =>
 thnG (λ _=>[some r.script,none,some r.heap,some r.log,some r.world,some .dstr,some v_counter,none,none,none,some r.cv.box,some r.cv.heard,some r.cv.real,some r.cv.rescue,some r.cv.roots,none,none,none,none,none,none,none,none]) (bd (rt (.int 4)) λ a17=>forR (λ _=>[some r.script,none,some r.heap,some r.log,some r.world,some .dstr,some v_counter,none,none,none,some r.cv.box,some r.cv.heard,some r.cv.real,some r.cv.rescue,some r.cv.roots,none,none,none,none,none,none,none,none]) a17 () λ _ v_turn =>
  bd (bd (rt v_counter) λ o18=>bd (chk o18 .counter) λ _=>bd (rt v_turn) λ a19=>f_Counter_fresh o18 a19) λ v_scalar =>
  bd (rt v_scalar) λ x20=>bd (rt r.cv.real) λ o21=>bd (bd (rt v_scalar) λ a23=>getA a23 "number") λ k22=>bd (setI o21 k22 x20) λ _ =>
  bd (mkL [(rt (.str "S")),(rt (.bool false)),(rt (.bool false)),(rt v_turn)]) λ x24=>bd (rt r.world) λ o25=>bd (bd (rt v_scalar) λ a27=>getA a27 "number") λ k26=>bd (setI o25 k26 x24) λ _ =>
  bd (bd (rt r.cv.roots) λ o28=>bd (chkL o28) λ _=>bd (bd (rt v_scalar) λ a29=>getA a29 "number") λ a30=>appL o28 a30) λ _ =>
  rt (.nxt ())) λ _ =>
 thnG (λ _=>[some r.script,none,some r.heap,some r.log,some r.world,some .dstr,some v_counter,none,none,none,some r.cv.box,some r.cv.heard,some r.cv.real,some r.cv.rescue,some r.cv.roots,none,none,none,none,none,none,none,none]) (bd (bd (rt r.script) λ a32=>bd (mkL [(rt (.int 1441)),(rt (.int 1603)),(rt (.int 8)),(rt (.int 9))]) λ a33=>addM a32 a33) λ a31=>forL (λ _=>[some r.script,none,some r.heap,some r.log,some r.world,some .dstr,some v_counter,none,none,none,some r.cv.box,some r.cv.heard,some r.cv.real,some r.cv.rescue,some r.cv.roots,none,none,none,none,none,none,none,none]) a31 () λ _ v_n =>
  bd (bd (rt v_counter) λ a34=>bd (rt r.world) λ a35=>bd (rt r.cv.real) λ a36=>bd (rt r.cv.roots) λ a37=>bd (rt v_n) λ a38=>f_law_deed a34 a35 a36 a37 a38) λ _ =>
  bd (bd (bd (bd (rt v_n) λ a58=>bd (rt (.int 10)) λ a59=>modM a58 a59) λ a56=>bd (rt (.int 9)) λ a57=>eqM a56 a57) tru) λ c39=>if c39 then
   bd (bd (rt v_counter) λ o40=>bd (chk o40 .counter) λ _=>bd (rt (.int 0)) λ a41=>f_Counter_settle r.cv o40 a41) λ _ =>
   bd (bd (rt r.world) λ a42=>bd (rt r.cv.roots) λ a43=>bd (rt r.log) λ a44=>bd (rt r.cv.rescue) λ a45=>f_law_settled a42 a43 a44 a45) λ _ =>
   bd (orC (bd (bd (rt r.cv.heard) λ a49=>bd (rt r.log) λ a50=>neM a49 a50) tru) (notC (bd (bd (rt r.world) λ a52=>bd (rt r.cv.roots) λ a53=>bd (rt r.cv.real) λ a54=>f_law_same a52 a53 a54) tru))) λ c46=>if c46 then
    bd (rt (.bool false)) λ r47=>rt (.ret r47)
   else
    rt (.nxt ())
  else
   rt (.nxt ())) λ _ =>
 bd (bd (rt r.cv.roots) λ a62=>comp (λ v_number=>[none,some v_number,some r.cv.real]) a62 (λ v_number=>(rt true)) (λ v_number=>(bd (rt r.cv.real) λ a60=>bd (rt v_number) λ a61=>getI a60 a61))) λ v_gone =>
 bd (mkL []) λ x63=>bd (rt r.cv.roots) λ o64=>bd (setAllN o64 x63) λ _ =>
 thnG (λ _=>[some r.script,none,some r.heap,some r.log,some r.world,some .dstr,some v_counter,none,none,some v_gone,some r.cv.box,some r.cv.heard,some r.cv.real,some r.cv.rescue,some r.cv.roots,none,none,none,none,none,none,none,none]) (bd (rt v_gone) λ a65=>forL (λ _=>[some r.script,none,some r.heap,some r.log,some r.world,some .dstr,some v_counter,none,none,some v_gone,some r.cv.box,some r.cv.heard,some r.cv.real,some r.cv.rescue,some r.cv.roots,none,none,none,none,none,none,none,none]) a65 () λ _ v_scalar =>
  bd (bd (rt v_counter) λ o66=>bd (chk o66 .counter) λ _=>bd (rt v_scalar) λ a67=>f_Counter_let_go o66 a67) λ _ =>
  rt (.nxt ())) λ _ =>
 bd (bd (rt v_counter) λ o68=>bd (chk o68 .counter) λ _=>bd (rt (.int 0)) λ a69=>f_Counter_settle r.cv o68 a69) λ _ =>
 bd (bd (rt r.world) λ a70=>bd (rt r.cv.roots) λ a71=>bd (rt r.log) λ a72=>bd (rt r.cv.rescue) λ a73=>f_law_settled a70 a71 a72 a73) λ _ =>
 bd (andV (bd (rt r.cv.heard) λ a75=>bd (rt r.log) λ a76=>eqM a75 a76) (bd (rt r.world) λ a77=>bd (rt r.cv.roots) λ a78=>bd (rt r.cv.real) λ a79=>f_law_same a77 a78 a79)) λ r74=>rt (.ret r74)
end Mine
namespace Mine.Pl
open Mine
def wp {α:Type} (m:M α) (Q:α→Mem→Prop) (μ:Mem):Prop:= ∃ a μ',m μ=some (a,μ')∧Q a μ'
section
variable {α β ρ σ:Type} {μ:Mem}
theorem wp_of {m:M α} {a:α} {μ':Mem} {Q:α→Mem→Prop} (e:m μ=some (a,μ')) (h:Q a μ'):wp m Q μ:=⟨a,μ',e,h⟩
theorem wp_eq {m:M α} {a:α} {μ':Mem} {Q:α→Mem→Prop} (e:m μ=some (a,μ')):wp m Q μ=Q a μ':=propext ⟨λ ⟨_,_,e',h⟩=>by rw [e] at e';cases e';exact h,wp_of e⟩
theorem wp_mono {m:M α} {Q Q':α→Mem→Prop} (h:wp m Q μ) (hq: ∀ a μ',Q a μ'→Q' a μ'):wp m Q' μ:=let ⟨a,μ',e,h⟩:=h;⟨a,μ',e,hq _ _ h⟩
theorem wp_bd {m:M α} {f:α→M β} {Q:β→Mem→Prop}:wp (bd m f) Q μ=wp m (λ a μ'=>wp (f a) Q μ') μ:=by
 apply propext
 constructor
 ·rintro ⟨b,μ',e,h⟩
  unfold bd at e
  split at e
  ·exact ⟨_,_,by assumption,b,μ',e,h⟩
  ·cases e
 ·rintro ⟨a,μ₁,e,b,μ',e',h⟩
  exact ⟨b,μ',by unfold bd;rw [e];exact e',h⟩
theorem wp_rt {a:α} {Q:α→Mem→Prop}:wp (rt a) Q μ=Q a μ:=wp_eq rfl
theorem wp_fl {Q:α→Mem→Prop}:wp (fl:M α) Q μ=False:=propext ⟨λ ⟨_,_,e,_⟩=>(by cases e),False.elim⟩
theorem wp_opt {a:α} {Q:α→Mem→Prop}:wp (opt (some a)) Q μ=Q a μ:=wp_eq rfl
def thnQ (Q:Fl σ→Mem→Prop) (k:ρ→M (Fl σ)):Fl ρ→Mem→Prop:=λ f μ=>match f with
 | .nxt r=>wp (k r) Q μ
 | .cnt=>Q .cnt μ
 | .ret v=>Q (.ret v) μ
theorem wp_thn {m:M (Fl ρ)} {k:ρ→M (Fl σ)} {Q:Fl σ→Mem→Prop}:wp (thn m k) Q μ=wp m (thnQ Q k) μ:=by
 unfold thn
 rw [wp_bd]
 congr 1
 funext f μ'
 cases f <;> simp [thnQ,wp_rt]
theorem wp_thnG {G:ρ→Cx0} {m:M (Fl ρ)} {k:ρ→M (Fl σ)} {Q:Fl σ→Mem→Prop}:wp (thnG G m k) Q μ=wp m (thnQ Q k) μ:=wp_thn
theorem thnQ_nxt {Q:Fl σ→Mem→Prop} {k:ρ→M (Fl σ)} {r:ρ}:thnQ Q k (.nxt r) μ=wp (k r) Q μ:=rfl
theorem thnQ_cnt {Q:Fl σ→Mem→Prop} {k:ρ→M (Fl σ)}:thnQ Q k .cnt μ=Q .cnt μ:=rfl
theorem thnQ_ret {Q:Fl σ→Mem→Prop} {k:ρ→M (Fl σ)} {v:AV}:thnQ Q k (.ret v) μ=Q (.ret v) μ:=rfl
def finQ (Q:AV→Mem→Prop):Fl Unit→Mem→Prop:=λ f μ=>match f with
 | .nxt _=>Q .none μ
 | .cnt=>False
 | .ret v=>Q v μ
theorem wp_fin {m:M (Fl Unit)} {Q:AV→Mem→Prop}:wp (fin m) Q μ=wp m (finQ Q) μ:=by
 unfold fin
 rw [wp_bd]
 congr 1
 funext f μ'
 cases f <;> simp [finQ,wp_rt,wp_fl]
theorem finQ_nxt {Q:AV→Mem→Prop} {u:Unit}:finQ Q (.nxt u) μ=Q .none μ:=rfl
theorem finQ_ret {Q:AV→Mem→Prop} {v:AV}:finQ Q (.ret v) μ=Q v μ:=rfl
theorem wp_tru {b:Bool} {Q:Bool→Mem→Prop}:wp (tru (.bool b)) Q μ=Q b μ:=wp_eq rfl
theorem wp_notC {m:M Bool} {Q:Bool→Mem→Prop}:wp (notC m) Q μ=wp m (λ b μ'=>Q (!b) μ') μ:=by
 unfold notC;simp only [wp_bd,wp_rt]
theorem wp_andC {m n:M Bool} {Q:Bool→Mem→Prop}:wp (andC m n) Q μ=wp m (λ b μ'=>if b then wp n Q μ' else Q false μ') μ:=by
 unfold andC;simp only [wp_bd]
 congr 1;funext b μ';cases b <;> simp [wp_rt]
theorem wp_orC {m n:M Bool} {Q:Bool→Mem→Prop}:wp (orC m n) Q μ=wp m (λ b μ'=>if b then Q true μ' else wp n Q μ') μ:=by
 unfold orC;simp only [wp_bd]
 congr 1;funext b μ';cases b <;> simp [wp_rt]
theorem wp_iteV {c:M Bool} {m n:M AV} {Q:AV→Mem→Prop}:wp (iteV c m n) Q μ=wp c (λ b μ'=>if b then wp m Q μ' else wp n Q μ') μ:=by
 unfold iteV;simp only [wp_bd]
 congr 1;funext b μ';cases b <;> simp
theorem wp_andV {m n:M AV} {Q:AV→Mem→Prop}:wp (andV m n) Q μ=wp m (λ x μ'=>wp (tru x) (λ t μ''=>if t then wp n Q μ'' else Q x μ'') μ') μ:=by
 unfold andV;simp only [wp_bd]
 congr 1;funext b μ'
 congr 1;funext t μ'';cases t <;> simp [wp_rt]
theorem wp_iteT {c:Bool} {m n:M α} {Q:α→Mem→Prop}:wp (if c then m else n) Q μ=if c then wp m Q μ else wp n Q μ:=by cases c <;> rfl
theorem wp_eqI {i j:Int} {Q:AV→Mem→Prop}:wp (eqM (.int i) (.int j)) Q μ=Q (.bool (decide (i=j))) μ:=wp_eq (by
 show some _=_
 simp [eqM,readD,D.same];rfl)
theorem wp_eqS {i j:String} {Q:AV→Mem→Prop}:wp (eqM (.str i) (.str j)) Q μ=Q (.bool (decide (i=j))) μ:=wp_eq (by
 show some _=_
 simp [eqM,readD,D.same];rfl)
theorem wp_eqB {i j:Bool} {Q:AV→Mem→Prop}:wp (eqM (.bool i) (.bool j)) Q μ=Q (.bool (decide (i=j))) μ:=wp_eq rfl
theorem wp_ne {a b:AV} {Q:AV→Mem→Prop}:wp (neM a b) Q μ=wp (eqM a b) (λ v μ'=>wp (neg v) Q μ') μ:=wp_bd
theorem wp_neg {b:Bool} {Q:AV→Mem→Prop}:wp (neg (.bool b)) Q μ=Q (.bool (!b)) μ:=wp_eq rfl
theorem wp_isN {v:AV} {Q:AV→Mem→Prop}:wp (isN v) Q μ=Q (.bool (decide (v= .none))) μ:=wp_eq rfl
theorem wp_isNN {v:AV} {Q:AV→Mem→Prop}:wp (isNN v) Q μ=Q (.bool (!decide (v= .none))) μ:=wp_eq rfl
theorem wp_lt {i j:Int} {Q:AV→Mem→Prop}:wp (ltM (.int i) (.int j)) Q μ=Q (.bool (decide (i < j))) μ:=wp_eq rfl
theorem wp_gt {i j:Int} {Q:AV→Mem→Prop}:wp (gtM (.int i) (.int j)) Q μ=Q (.bool (decide (j < i))) μ:=wp_eq rfl
theorem wp_add {i j:Int} {Q:AV→Mem→Prop}:wp (addM (.int i) (.int j)) Q μ=Q (.int (i+j)) μ:=wp_eq rfl
theorem wp_iadd {i j:Int} {Q:AV→Mem→Prop}:wp (iaddM (.int i) (.int j)) Q μ=Q (.int (i+j)) μ:=wp_eq rfl
theorem wp_sub {i j:Int} {Q:AV→Mem→Prop}:wp (subM (.int i) (.int j)) Q μ=Q (.int (i - j)) μ:=wp_eq rfl
theorem wp_mod {i j:Nat} {Q:AV→Mem→Prop} (h:0 < j):wp (modM (.int i) (.int j)) Q μ=Q (.int ((i % j:Nat):Int)) μ:=by
 unfold modM
 have:(0:Int) < j:=by omega
 simp only [this,if_true,wp_rt]
 rw [Int.fmod_eq_emod_of_nonneg _ (by omega)]
 rfl
theorem wp_div {i j:Nat} {Q:AV→Mem→Prop} (h:0 < j) (h':j < 1000):wp (divM (.int i) (.int j)) Q μ=Q (.int ((i / j:Nat):Int)) μ:=by
 unfold divM
 have:(0:Int) < j∧(j:Int) < 1000:=by omega
 simp only [this,and_self,if_true,wp_rt]
 rw [Int.fdiv_eq_ediv_of_nonneg _ (by omega)]
 rfl
theorem wp_modL {i k:Nat} {Q:AV→Mem→Prop} (h:0 < k):wp (modM (.int i) (.int (OfNat.ofNat k))) Q μ=Q (.int ((i % k:Nat):Int)) μ:=wp_mod h
theorem wp_divL {i k:Nat} {Q:AV→Mem→Prop} (h:0 < k) (h':k < 1000):wp (divM (.int i) (.int (OfNat.ofNat k))) Q μ=Q (.int ((i / k:Nat):Int)) μ:=wp_div h h'
theorem if_ff {p q:Prop}:(if (false=true) then p else q)=q:=rfl
theorem if_tt {p q:Prop}:(if (true=true) then p else q)=p:=rfl
end
inductive L2 {α β:Type} (R:α→β→Prop):List α→List β→Prop
 | nil:L2 R [] []
 | cons {a b as bs}:R a b→L2 R as bs→L2 R (a :: as) (b :: bs)
namespace L2
variable {α β:Type} {R S:α→β→Prop}
theorem len {as:List α} {bs:List β} (h:L2 R as bs):as.length=bs.length:=by
 induction h with
 | nil=>rfl
 | cons _ _ ih=>simp [ih]
theorem mono (hm: ∀ a b,b∈bs→R a b→S a b) {as:List α} (h:L2 R as bs):L2 S as bs:=by
 induction h with
 | nil=>exact .nil
 | cons h _ ih=>exact .cons (hm _ _ (by simp) h) (ih λ a b hb=>hm a b (by simp [hb]))
theorem imp (hm: ∀ a b,R a b→S a b) {as:List α} {bs:List β} (h:L2 R as bs):L2 S as bs:=h.mono λ a b _=>hm a b
theorem app {as as':List α} {bs bs':List β} (h:L2 R as bs) (h':L2 R as' bs'):L2 R (as ++ as') (bs ++ bs'):=by
 induction h with
 | nil=>exact h'
 | cons h _ ih=>exact .cons h ih
theorem snoc {as:List α} {bs:List β} {a:α} {b:β} (h:L2 R as bs) (h':R a b):L2 R (as ++ [a]) (bs ++ [b]):=h.app (.cons h' .nil)
theorem at_ {as:List α} {bs:List β} (h:L2 R as bs): ∀ {i:Nat} {b:β},bs[i]? =some b→ ∃ a,as[i]? =some a∧R a b:=by
 induction h with
 | nil=>intro i b e;simp at e
 | @cons a b as bs hr _ ih =>
  intro i c e
  cases i with
  | zero=>simp at e;subst e;exact ⟨a,by simp,hr⟩
  | succ i=>simp at e;obtain ⟨x,h1,h2⟩:=ih e;exact ⟨x,by simpa using h1,h2⟩
theorem filter {as:List α} {bs:List β} (h:L2 R as bs) {p:α→Bool} {q:β→Bool} (hpq: ∀ a b,R a b→p a=q b):L2 R (as.filter p) (bs.filter q):=by
 induction h with
 | nil=>exact .nil
 | @cons a b as bs h _ ih =>
  simp only [List.filter_cons,hpq _ _ h]
  split
  ·exact .cons h ih
  ·exact ih
end L2
inductive PV where
 | none | int (i:Int) | ref (n:Nat) | weak (n:Nat)
 deriving DecidableEq
inductive Cont where
 | s (v:PV) | a (xs:List Nat) | h (es:List (String × Nat))
 deriving DecidableEq
structure Th where
 c:Cont
 cnt:Int
 bl:Bool
 ds:Bool
 fr:Bool
 weak:List Nat
structure Row where
 c:Cont
 bl:Bool
 ds:Bool
def Cont.cl:Cont→Cl
 | .s _=> .scalar | .a _=> .array | .h _=> .hash
def Cont.kind:Cont→String
 | .s _=>"S" | .a _=>"A" | .h _=>"H"
inductive Role where
 | junk | im (o:AO) | tm (o:AO) | nw (o:AO) | heap | counter | places | world | real | roots | log | heard | box | zero
 | thing (n:Nat) | weak (n:Nat) | cont (n:Nat) | row (n:Nat) | inn (n:Nat)
structure S where
 th:Nat→Th
 zero:List Nat
 heard:List Nat
 last:Nat
 real:List Nat
 roots:List Nat
 wk:List Nat
 row:Nat→Row
 lastRow:Nat
 log:List Nat
 lkW:Bool
 lkR:Bool
 lkT:Nat→Bool
structure Ad where
 heap:Nat
 counter:Nat
 places:Nat
 world:Nat
 real:Nat
 roots:Nat
 log:Nat
 heard:Nat
 box:Nat
abbrev Own:=Nat→Role
def at_ (own:Own) (v:AV) (r:Role):Prop:= ∃ i,v= .obj i∧own i=r
def refO (own:Own) (n:Nat) (w:Bool) (o:AO):Prop:= ∃ v,at_ own v (.thing n)∧o= .inst .ref [("target",v),("is_weak", .bool w)]
def tupO (n:Nat) (w:Bool):AO:= .tup [.str (if w then "weak" else "ref"), .int n]
def VT (own:Own):PV→AV→Prop
 | .none,x=>x= .none
 | .int i,x=>x= .int i
 | .ref n,x=> ∃ i o,x= .obj i∧own i= .im o∧refO own n false o
 | .weak n,x=> ∃ i o,x= .obj i∧own i= .im o∧refO own n true o
def VW (own:Own):PV→AV→Prop
 | .none,x=>x= .none
 | .int i,x=>x= .int i
 | .ref n,x=>at_ own x (.im (tupO n false))
 | .weak n,x=>at_ own x (.im (tupO n true))
def Things (own:Own) (vs:List AV) (ns:List Nat):Prop:=L2 (λ v n=>at_ own v (.thing n)) vs ns
def nums (ns:List Nat):List AV:=ns.map λ n:Nat=>AV.int n
def blv (b:Bool):AV:=if b then .str "P" else .none
def Tail (own:Own) (n:Nat):Cont→List (String × AV)→Prop
 | .s v,l=> ∃ x,VT own v x∧l=[("value",x),("magic", .none)]
 | .a _,l=> ∃ x,at_ own x (.cont n)∧l=[("items",x),("tied", .none)]
 | .h _,l=> ∃ x,at_ own x (.cont n)∧l=[("table",x),("at", .int 0),("tied", .none)]
def RTail (own:Own) (n:Nat):Cont→AV→Prop
 | .s v,x=>VW own v x
 | .a _,x=>at_ own x (.inn n)
 | .h _,x=>at_ own x (.inn n)
def pairO (e:String × Nat):AO:= .list [.str e.1, .int e.2]
def Desc (K:Ad) (own:Own) (σ:S):Role→AO→Prop
 | .junk,_=>True
 | .im o',o=>o=o'
 | .tm o',o=>o=o'
 | .nw o',o=>o=o'
 | .heap,o=> ∃ x z,at_ own z .zero∧o= .inst .heap [("limits",x),("last", .int σ.last),("zero",z)]
 | .counter,o=>o= .inst .counter [("heap", .obj K.heap),("destroy", .dstr),("places", .obj K.places)]
 | .places,o=>o= .dI false []
 | .world,o=> ∃ es,o= .dI σ.lkW es∧L2 (λ e (n:Nat)=>e.1=(n:Int)∧at_ own e.2 (.row n)) es σ.wk
 | .real,o=> ∃ es,o= .dI σ.lkR es∧L2 (λ e (n:Nat)=>e.1=(n:Int)∧at_ own e.2 (.thing n)) es σ.real
 | .roots,o=>o= .list (nums σ.roots)
 | .log,o=>o= .list (nums σ.log)
 | .heard,o=>o= .list (nums σ.heard)
 | .box,o=>o= .list [.obj K.counter]
 | .zero,o=> ∃ vs,o= .list vs∧Things own vs σ.zero
 | .thing n,o=> ∃ w l,at_ own w (.weak n)∧Tail own n (σ.th n).c l∧o= .inst (σ.th n).c.cl (("number", .int n) :: ("count", .int (σ.th n).cnt) :: ("blessed",blv (σ.th n).bl) :: ("weak",w) :: ("is_destroyed", .bool (σ.th n).ds) :: ("is_freed", .bool (σ.th n).fr) :: l)
 | .weak n,o=> ∃ vs,o= .list vs∧Things own vs (σ.th n).weak
 | .cont n,o=>match (σ.th n).c with
  | .s _=>False
  | .a xs=> ∃ vs,o= .list vs∧Things own vs xs
  | .h es=> ∃ ls,o= .dS (σ.lkT n) ls∧L2 (λ l e=>l.1=e.1∧at_ own l.2 (.thing e.2)) ls es
 | .row n,o=> ∃ x,RTail own n (σ.row n).c x∧o= .list [.str (σ.row n).c.kind, .bool (σ.row n).bl, .bool (σ.row n).ds,x]
 | .inn n,o=>match (σ.row n).c with
  | .s _=>False
  | .a xs=>o= .list (nums xs)
  | .h es=> ∃ vs,o= .list vs∧L2 (λ v e=>at_ own v (.im (pairO e))) vs es
def Role.once:Role→Bool
 | .junk=>false | .im _=>false | .tm _=>false | .nw _=>false | _=>true
def Role.num:Role→Nat
 | .thing n=>n | .weak n=>n | .cont n=>n | _=>0
def Role.rnum:Role→Nat
 | .row n=>n | .inn n=>n | _=>0
structure Rep (K:Ad) (own:Own) (σ:S) (μ:Mem):Prop where
 len: ∀ i,μ.length≤i→own i= .junk
 desc: ∀ i o,μ[i]? =some o→Desc K own σ (own i) o
 uniq: ∀ i j,own i=own j→(own i).once=true→i=j
 bnd: ∀ i,(own i).num≤σ.last∧(own i).rnum≤σ.lastRow
 kH:own K.heap= .heap
 kC:own K.counter= .counter
 kP:own K.places= .places
 kW:own K.world= .world
 kR:own K.real= .real
 kO:own K.roots= .roots
 kL:own K.log= .log
 kE:own K.heard= .heard
 kB:own K.box= .box
def Role.keep:Role→Bool
 | .junk=>false | .nw _=>false | .weak _=>false | .cont _=>false | .zero=>false | _=>true
def Ext (own own':Own):Prop:= ∀ i,(own i).keep=true→own' i=own i
theorem Ext.refl {own:Own}:Ext own own:=λ _ _=>rfl
theorem Ext.trans {a b c:Own} (h:Ext a b) (h':Ext b c):Ext a c:=λ i hi=>by
 have:=h i hi
 rw [h' i (by rw [this];exact hi),this]
theorem at_.ext {own own':Own} {v:AV} {r:Role} (e:Ext own own') (hr:r.keep=true) (h:at_ own v r):at_ own' v r:=by
 obtain ⟨i,rfl,h⟩:=h
 exact ⟨i,rfl,by rw [e i (by rw [h];exact hr),h]⟩
theorem at_.th {own own':Own} {v:AV} {n:Nat} (h:at_ own v (.thing n)) (e:Ext own own'):at_ own' v (.thing n):=h.ext e rfl
theorem refO.ext {own own':Own} {n:Nat} {w:Bool} {o:AO} (e:Ext own own') (h:refO own n w o):refO own' n w o:=let ⟨v,a,b⟩:=h;⟨v,a.th e,b⟩
theorem VT.ext {own own':Own} {v:PV} {x:AV} (h:VT own v x) (e:Ext own own'):VT own' v x:=by
 cases v with
 | none=>exact h
 | int i=>exact h
 | ref n=>obtain ⟨i,o,a,b,c⟩:=h;exact ⟨i,o,a,by rw [e i (by rw [b];rfl),b],c.ext e⟩
 | weak n=>obtain ⟨i,o,a,b,c⟩:=h;exact ⟨i,o,a,by rw [e i (by rw [b];rfl),b],c.ext e⟩
theorem VW.ext {own own':Own} {v:PV} {x:AV} (h:VW own v x) (e:Ext own own'):VW own' v x:=by
 cases v with
 | none=>exact h
 | int i=>exact h
 | ref n=>exact at_.ext e rfl h
 | weak n=>exact at_.ext e rfl h
theorem Things.ext {own own':Own} {vs:List AV} {ns:List Nat} (h:Things own vs ns) (e:Ext own own'):Things own' vs ns:=L2.imp (λ _ _ h=>h.th e) h
def Refs:Role→Role→Prop
 | .heap,r=>r= .zero
 | .world,r=> ∃ m,r= .row m
 | .real,r=> ∃ m,r= .thing m
 | .zero,r=> ∃ m,r= .thing m
 | .thing n,r=>r= .weak n∨r= .cont n∨(∃ m,r= .thing m)∨ ∃ o,r= .im o
 | .weak _,r=> ∃ m,r= .thing m
 | .cont _,r=> ∃ m,r= .thing m
 | .row n,r=>r= .inn n∨ ∃ o,r= .im o
 | .inn _,r=> ∃ o,r= .im o
 | _,_=>False
theorem at_.mono {own own':Own} {v:AV} {r:Role} (h:at_ own v r) (e: ∀ j,own j=r→own' j=r):at_ own' v r:=by
 obtain ⟨i,rfl,h⟩:=h;exact ⟨i,rfl,e i h⟩
theorem Tail.mono {own own':Own} {n:Nat} {c:Cont} {l:List (String × AV)} (h:Tail own n c l) (e: ∀ j r,own j=r→Refs (.thing n) r→own' j=r):Tail own' n c l:=by
 have ht: ∀ {m v},at_ own v (.thing m)→at_ own' v (.thing m):=λ h=>h.mono λ j hj=>e j _ hj (.inr (.inr (.inl ⟨_,rfl⟩)))
 cases c with
 | a _=>obtain ⟨x,a,b⟩:=h;exact ⟨x,a.mono λ j hj=>e j _ hj (.inr (.inl rfl)),b⟩
 | h _=>obtain ⟨x,a,b⟩:=h;exact ⟨x,a.mono λ j hj=>e j _ hj (.inr (.inl rfl)),b⟩
 | s v =>
  obtain ⟨x,a,b⟩:=h
  refine ⟨x,?_,b⟩
  cases v with
  | none=>exact a
  | int i=>exact a
  | ref m=>obtain ⟨i,o,a,b,v,c,d⟩:=a;exact ⟨i,o,a,e i _ b (.inr (.inr (.inr ⟨_,rfl⟩))),v,ht c,d⟩
  | weak m=>obtain ⟨i,o,a,b,v,c,d⟩:=a;exact ⟨i,o,a,e i _ b (.inr (.inr (.inr ⟨_,rfl⟩))),v,ht c,d⟩
theorem Desc.own_mono {K:Ad} {own own':Own} {σ:S} {r:Role} {o:AO} (h:Desc K own σ r o) (e: ∀ j r',own j=r'→Refs r r'→own' j=r'):Desc K own' σ r o:=by
 cases r with
 | heap=>obtain ⟨x,z,a,b⟩:=h;exact ⟨x,z,a.mono λ j hj=>e j _ hj rfl,b⟩
 | world=>obtain ⟨es,a,b⟩:=h;exact ⟨es,a,b.imp λ _ _ h=>⟨h.1,h.2.mono λ j hj=>e j _ hj ⟨_,rfl⟩⟩⟩
 | real=>obtain ⟨es,a,b⟩:=h;exact ⟨es,a,b.imp λ _ _ h=>⟨h.1,h.2.mono λ j hj=>e j _ hj ⟨_,rfl⟩⟩⟩
 | zero=>obtain ⟨es,a,b⟩:=h;exact ⟨es,a,L2.imp (λ _ _ h=>h.mono λ j hj=>e j _ hj ⟨_,rfl⟩) b⟩
 | thing n=>obtain ⟨w,l,a,b,c⟩:=h;exact ⟨w,l,a.mono λ j hj=>e j _ hj (.inl rfl),b.mono e,c⟩
 | weak n=>obtain ⟨es,a,b⟩:=h;exact ⟨es,a,L2.imp (λ _ _ h=>h.mono λ j hj=>e j _ hj ⟨_,rfl⟩) b⟩
 | cont n =>
  unfold Desc at h ⊢
  dsimp only at h ⊢
  split
  ·rename_i q;rw [q] at h;exact h
  ·rename_i q;rw [q] at h;obtain ⟨es,a,b⟩:=h;exact ⟨es,a,L2.imp (λ _ _ h=>h.mono λ j hj=>e j _ hj ⟨_,rfl⟩) b⟩
  ·rename_i q;rw [q] at h;obtain ⟨es,a,b⟩:=h;exact ⟨es,a,b.imp λ _ _ h=>⟨h.1,h.2.mono λ j hj=>e j _ hj ⟨_,rfl⟩⟩⟩
 | row n =>
  obtain ⟨x,a,b⟩:=h
  refine ⟨x,?_,b⟩
  have hi: ∀ {o v},at_ own v (.im o)→at_ own' v (.im o):=λ h=>h.mono λ j hj=>e j _ hj (.inr ⟨_,rfl⟩)
  revert a
  cases (σ.row n).c with
  | a _=>exact λ a=>at_.mono a λ j hj=>e j _ hj (.inl rfl)
  | h _=>exact λ a=>at_.mono a λ j hj=>e j _ hj (.inl rfl)
  | s v =>
   intro a
   cases v with
   | none=>exact a
   | int i=>exact a
   | ref m=>exact hi a
   | weak m=>exact hi a
 | inn n =>
  unfold Desc at h ⊢
  dsimp only at h ⊢
  split
  ·rename_i q;rw [q] at h;exact h
  ·rename_i q;rw [q] at h;exact h
  ·rename_i q;rw [q] at h;obtain ⟨es,a,b⟩:=h;exact ⟨es,a,b.imp λ _ _ h=>h.mono λ j hj=>e j _ hj ⟨_,rfl⟩⟩
 | _=>exact h
section
variable {K:Ad} {own own':Own} {σ σ':S} {μ:Mem}
theorem Rep.at' (R:Rep K own σ μ) {i:Nat} {r:Role} (h:own i=r) (hr:r≠ .junk): ∃ o,μ[i]? =some o∧Desc K own σ r o:=by
 have hi:i < μ.length:=by
  rcases Nat.lt_or_ge i μ.length with h' | h'
  ·exact h'
  ·exact absurd (h ▸ R.len i h') hr
 exact ⟨μ[i],List.getElem?_eq_getElem hi,h ▸ R.desc i _ (List.getElem?_eq_getElem hi)⟩
theorem Rep.set (R:Rep K own σ μ) {i:Nat} {r:Role} {o':AO} (hi:own i=r) (hr:r.once=true) (hl:σ.last≤σ'.last∧σ.lastRow≤σ'.lastRow) (hd:Desc K own σ' r o') (hs: ∀ r',r'≠r→ ∀ o,Desc K own σ r' o→Desc K own σ' r' o):Rep K own σ' (μ.set i o') :=
 {R with
  len:=λ j hj=>R.len j (by simpa using hj)
  bnd:=λ j=>⟨Nat.le_trans (R.bnd j).1 hl.1,Nat.le_trans (R.bnd j).2 hl.2⟩
  desc:=λ j o e=>by
   by_cases hj:i=j
   ·subst hj
    have hlt:i < μ.length:=by
     rcases Nat.lt_or_ge i μ.length with h' | h'
     ·exact h'
     ·simp [List.getElem?_eq_none (by simpa using h':(μ.set i o').length≤i)] at e
    rw [List.getElem?_set_self hlt] at e
    cases e
    rw [hi];exact hd
   ·rw [List.getElem?_set_ne hj] at e
    exact hs _ (λ q=>hj (R.uniq i j (by rw [hi,q]) (by rw [hi];exact hr))) _ (R.desc j o e)}
theorem Rep.same (R:Rep K own σ μ) (hl:σ.last≤σ'.last∧σ.lastRow≤σ'.lastRow) (hs: ∀ r' o,Desc K own σ r' o→Desc K own σ' r' o):Rep K own σ' μ :=
 {R with
  bnd:=λ j=>⟨Nat.le_trans (R.bnd j).1 hl.1,Nat.le_trans (R.bnd j).2 hl.2⟩
  desc:=λ j o e=>hs _ _ (R.desc j o e)}
def up (own:Own) (i:Nat) (r:Role):Own:=λ j=>if j=i then r else own j
theorem up_same {i:Nat} {r:Role}:up own i r i=r:=by simp [up]
theorem up_ne {i j:Nat} {r:Role} (h:j≠i):up own i r j=own j:=by simp [up,h]
theorem Rep.al (R:Rep K own σ μ) {o:AO} {r:Role} (hr:r= .im o∨r= .tm o∨r= .nw o):Rep K (up own μ.length r) σ (μ ++ [o])∧Ext own (up own μ.length r)∧up own μ.length r μ.length=r:=by
 have hj:=R.len μ.length (Nat.le_refl _)
 have st: ∀ j r',own j=r'→r'≠ .junk→up own μ.length r j=r':=λ j r' h hn=>by
  by_cases q:j=μ.length
  ·subst q;exact absurd (h ▸ hj) hn
  ·rw [up_ne q];exact h
 have ro:r.once=false∧r.num=0∧r.rnum=0:=by rcases hr with rfl | rfl | rfl <;> exact ⟨rfl,rfl,rfl⟩
 have noJ: ∀ r r',Refs r r'→r'≠ .junk:=λ r r' h q=>by
  subst q
  cases r <;> simp [Refs] at h
 refine ⟨{len:=λ i hi=> ?_,desc:=λ i o' e=> ?_,uniq:=λ i j h ho=> ?_,bnd:=λ i=> ?_,kH:=st _ _ R.kH nofun,kC:=st _ _ R.kC nofun,kP:=st _ _ R.kP nofun,kW:=st _ _ R.kW nofun,kR:=st _ _ R.kR nofun,kO:=st _ _ R.kO nofun,kL:=st _ _ R.kL nofun,kE:=st _ _ R.kE nofun,kB:=st _ _ R.kB nofun},λ i hi=>st i _ rfl (by intro q;rw [q] at hi;cases hi),up_same⟩
 ·simp at hi
  rw [up_ne (by omega)];exact R.len i (by omega)
 ·by_cases q:i=μ.length
  ·subst q
   simp at e
   subst e
   rw [up_same]
   rcases hr with rfl | rfl | rfl <;> rfl
  ·rw [up_ne q]
   have hi:i < μ.length:=by
    have:=(List.getElem?_eq_some_iff.mp e).1
    simp at this;omega
   rw [List.getElem?_append_left hi] at e
   exact (R.desc i o' e).own_mono λ j r' h h'=>st j r' h (noJ _ _ h')
 ·by_cases q:i=μ.length
  ·subst q;rw [up_same,ro.1] at ho;cases ho
  ·by_cases q':j=μ.length
   ·subst q'
    rw [h,up_same,ro.1] at ho;cases ho
   ·rw [up_ne q,up_ne q'] at h
    rw [up_ne q] at ho
    exact R.uniq i j h ho
 ·by_cases q:i=μ.length
  ·subst q;rw [up_same,ro.2.1,ro.2.2];exact ⟨Nat.zero_le _,Nat.zero_le _⟩
  ·rw [up_ne q];exact R.bnd i
end
section
variable {K:Ad} {own own':Own} {σ σ':S} {μ:Mem} {α:Type}
theorem Ext.at (e:Ext own own') {i:Nat} {r:Role} (h:own i=r) (hr:r.keep=true):own' i=r:=by rw [e i (by rw [h];exact hr),h]
theorem Ext.up {i:Nat} {r:Role} (h:(own i).keep=false):Ext own (up own i r):=λ j hj=>by
 by_cases q:j=i
 ·subst q;rw [h] at hj;cases hj
 ·exact up_ne q
theorem Rep.nwSet (R:Rep K own σ μ) {i:Nat} {o o':AO} (hi:own i= .nw o):Rep K (up own i (.nw o')) σ (μ.set i o'):=by
 have st: ∀ j r',own j=r'→(∀ o,r'≠ .nw o)→up own i (.nw o') j=r':=λ j r' h hn=>by
  by_cases q:j=i
  ·subst q;exact absurd (h.symm.trans hi) (hn _)
  ·rw [up_ne q];exact h
 have hlt:i < μ.length:=by
  rcases Nat.lt_or_ge i μ.length with h' | h'
  ·exact h'
  ·have:=R.len i h';rw [hi] at this;cases this
 have noN: ∀ r r',Refs r r'→ ∀ o,r'≠ .nw o:=λ r r' h o q=>by
  subst q
  cases r <;> simp [Refs] at h
 refine {len:=λ j hj=> ?_,desc:=λ j p e=> ?_,uniq:=λ j k h ho=> ?_,bnd:=λ j=> ?_,kH:=st _ _ R.kH nofun,kC:=st _ _ R.kC nofun,kP:=st _ _ R.kP nofun,kW:=st _ _ R.kW nofun,kR:=st _ _ R.kR nofun,kO:=st _ _ R.kO nofun,kL:=st _ _ R.kL nofun,kE:=st _ _ R.kE nofun,kB:=st _ _ R.kB nofun}
 ·simp at hj
  rw [up_ne (by omega)];exact R.len j hj
 ·by_cases q:j=i
  ·subst q
   rw [List.getElem?_set_self hlt] at e
   cases e
   rw [up_same];rfl
  ·rw [List.getElem?_set_ne (λ h=>q h.symm)] at e
   rw [up_ne q]
   exact (R.desc j p e).own_mono λ k r' h h'=>st k r' h (noN _ _ h')
 ·by_cases q:j=i
  ·subst q;rw [up_same] at ho;cases ho
  ·by_cases q':k=i
   ·subst q';rw [h,up_same] at ho;cases ho
   ·rw [up_ne q,up_ne q'] at h
    rw [up_ne q] at ho
    exact R.uniq j k h ho
 ·by_cases q:j=i
  ·subst q;rw [up_same];exact ⟨Nat.zero_le _,Nat.zero_le _⟩
  ·rw [up_ne q];exact R.bnd j
theorem Rep.nwTo (R:Rep K own σ μ) {i:Nat} {o:AO} {r:Role} (hi:own i= .nw o) (hr:r= .im o∨r= .tm o∨r= .junk):Rep K (up own i r) σ μ:=by
 have st: ∀ j r',own j=r'→(∀ o,r'≠ .nw o)→up own i r j=r':=λ j r' h hn=>by
  by_cases q:j=i
  ·subst q;exact absurd (h.symm.trans hi) (hn _)
  ·rw [up_ne q];exact h
 have hlt:i < μ.length:=by
  rcases Nat.lt_or_ge i μ.length with h' | h'
  ·exact h'
  ·have:=R.len i h';rw [hi] at this;cases this
 have ro:r.once=false∧r.num=0∧r.rnum=0:=by rcases hr with rfl | rfl | rfl <;> exact ⟨rfl,rfl,rfl⟩
 have noN: ∀ r r',Refs r r'→ ∀ o,r'≠ .nw o:=λ r r' h o q=>by
  subst q
  cases r <;> simp [Refs] at h
 refine {len:=λ j hj=> ?_,desc:=λ j p e=> ?_,uniq:=λ j k h ho=> ?_,bnd:=λ j=> ?_,kH:=st _ _ R.kH nofun,kC:=st _ _ R.kC nofun,kP:=st _ _ R.kP nofun,kW:=st _ _ R.kW nofun,kR:=st _ _ R.kR nofun,kO:=st _ _ R.kO nofun,kL:=st _ _ R.kL nofun,kE:=st _ _ R.kE nofun,kB:=st _ _ R.kB nofun}
 ·rw [up_ne (by omega)];exact R.len j hj
 ·by_cases q:j=i
  ·subst q
   have:=R.desc j p e
   rw [hi] at this
   rw [up_same]
   rcases hr with rfl | rfl | rfl
   ·exact this
   ·exact this
   ·trivial
  ·rw [up_ne q]
   exact (R.desc j p e).own_mono λ k r' h h'=>st k r' h (noN _ _ h')
 ·by_cases q:j=i
  ·subst q;rw [up_same,ro.1] at ho;cases ho
  ·by_cases q':k=i
   ·subst q';rw [h,up_same,ro.1] at ho;cases ho
   ·rw [up_ne q,up_ne q'] at h
    rw [up_ne q] at ho
    exact R.uniq j k h ho
 ·by_cases q:j=i
  ·subst q;rw [up_same,ro.2.1,ro.2.2];exact ⟨Nat.zero_le _,Nat.zero_le _⟩
  ·rw [up_ne q];exact R.bnd j
theorem Rep.move (R:Rep K own σ μ) {i a:Nat} {h ρ:Role} {o o':AO} (hi:own i=h) (hh:h.once=true) (ha:own a= .nw o) (hρ:ρ.once=true) (hne:ρ≠h) (hkk: ∀ r,ρ≠r∨r≠ .heap∧r≠ .counter∧r≠ .places∧r≠ .world∧r≠ .real∧r≠ .roots∧r≠ .log∧r≠ .heard∧r≠ .box) (hnum:ρ.num≤σ.last∧ρ.rnum≤σ.lastRow) (hl:σ.last=σ'.last∧σ.lastRow=σ'.lastRow)
  (hmine: ∀ r r',r≠h→Refs r r'→r'≠ρ)
  (hd: ∀ own',Ext own own'→own' a=ρ→(∀ j r,own j=r→Refs h r→r≠ρ→own' j=r)→Desc K own' σ' h o'∧Desc K own' σ' ρ o) (hs: ∀ r,r≠h→r≠ρ→ ∀ p,Desc K own σ r p→Desc K own σ' r p) (hkeep:ρ.keep=false) :
  ∃ own',Ext own own'∧own' a=ρ∧Rep K own' σ' (μ.set i o'):=by
 classical
 let own':Own:=λ j=>if j=a then ρ else if own j=ρ then .junk else own j
 have ha':own' a=ρ:=by simp [own']
 have st: ∀ j r,own j=r→r≠ρ→(∀ o,r≠ .nw o)→own' j=r:=λ j r e h1 h2=>by
  by_cases q:j=a
  ·subst q;exact absurd (e.symm.trans ha) (h2 _)
  ·simp only [own',if_neg q,e,if_neg h1]
 have noN: ∀ r r',Refs r r'→ ∀ o,r'≠ .nw o:=λ r r' h o q=>by
  subst q
  cases r <;> simp [Refs] at h
 have ext:Ext own own':=λ j hj=>st j _ rfl (λ q=>by rw [q,hkeep] at hj;cases hj) (λ o q=>by rw [q] at hj;cases hj)
 have hlt:i < μ.length:=by
  rcases Nat.lt_or_ge i μ.length with h' | h'
  ·exact h'
  ·have:=R.len i h';rw [hi] at this;rw [this] at hh;cases hh
 have hia:i≠a:=λ q=>by rw [q,ha] at hi;rw [← hi] at hh;cases hh
 have hlta:a < μ.length:=by
  rcases Nat.lt_or_ge a μ.length with h' | h'
  ·exact h'
  ·have:=R.len a h';rw [ha] at this;cases this
 obtain ⟨hd1,hd2⟩:=hd own' ext ha' λ j r e h1 h2=>st j r e h2 (noN _ _ h1)
 have kk: ∀ {j r},own j=r→(r= .heap∨r= .counter∨r= .places∨r= .world∨r= .real∨r= .roots∨r= .log∨r= .heard∨r= .box)→own' j=r:=λ {j r} e h=>by
  refine st j r e (λ q=> ?_) (λ o q=>by subst q;simp at h)
  rcases hkk r with h1 | h1
  ·exact h1 q.symm
  ·obtain ⟨a1,a2,a3,a4,a5,a6,a7,a8,a9⟩:=h1
   rcases h with h | h | h | h | h | h | h | h | h
   ·exact a1 h
   ·exact a2 h
   ·exact a3 h
   ·exact a4 h
   ·exact a5 h
   ·exact a6 h
   ·exact a7 h
   ·exact a8 h
   ·exact a9 h
 refine ⟨own',ext,ha',?_⟩
 refine {len:=λ j hj=> ?_,desc:=λ j p e=> ?_,uniq:=λ j k hjk ho=> ?_,bnd:=λ j=> ?_,kH:=kk R.kH (by simp),kC:=kk R.kC (by simp),kP:=kk R.kP (by simp),kW:=kk R.kW (by simp),kR:=kk R.kR (by simp),kO:=kk R.kO (by simp),kL:=kk R.kL (by simp),kE:=kk R.kE (by simp),kB:=kk R.kB (by simp)}
 ·simp at hj
  have:j≠a:=by omega
  have hjunk:=R.len j hj
  simp only [own',if_neg this,hjunk]
  split <;> rfl
 ·by_cases q:j=i
  ·subst q
   rw [List.getElem?_set_self hlt] at e
   cases e
   rw [st j h hi hne.symm (λ o q=>by rw [q] at hh;cases hh)]
   exact hd1
  ·rw [List.getElem?_set_ne (λ h=>q h.symm)] at e
   by_cases q':j=a
   ·subst q'
    have:=R.desc j p e
    rw [ha] at this
    rw [ha',show p=o from this]
    exact hd2
   ·by_cases q2:own j=ρ
    ·simp only [own',if_neg q',if_pos q2];trivial
    ·have e2:own' j=own j:=by simp only [own',if_neg q',if_neg q2]
     rw [e2]
     have hjh:own j≠h:=λ z=>q (R.uniq j i (z.trans hi.symm) (by rw [z];exact hh))
     refine (hs _ hjh q2 p (R.desc j p e)).own_mono λ k r' h1 h2=>st k r' h1 (hmine _ _ hjh h2) (noN _ _ h2)
 ·by_cases q1:j=a
  ·by_cases q2:k=a
   ·rw [q1,q2]
   ·exfalso
    subst q1
    rw [ha'] at hjk
    simp only [own',if_neg q2] at hjk
    split at hjk
    ·rw [hjk] at hρ;cases hρ
    ·rename_i z;exact z hjk.symm
  ·by_cases q2:k=a
   ·exfalso
    subst q2
    rw [ha'] at hjk
    simp only [own',if_neg q1] at hjk
    split at hjk
    ·rw [← hjk] at hρ;cases hρ
    ·rename_i z;exact z hjk
   ·simp only [own',if_neg q1,if_neg q2] at hjk ho
    split at ho
    ·cases ho
    ·rename_i z
     rw [if_neg z] at hjk
     split at hjk
     ·rw [hjk] at ho;cases ho
     ·exact R.uniq j k hjk ho
 ·by_cases q1:j=a
  ·subst q1;rw [ha',← hl.1,← hl.2];exact hnum
  ·simp only [own',if_neg q1]
   split
   ·exact ⟨Nat.zero_le _,Nat.zero_le _⟩
   ·rw [← hl.1,← hl.2];exact R.bnd j
theorem getA_eq {i:Nat} {f:String} {c:Cl} {fs:List (String × AV)} {x:AV} (h:μ[i]? =some (.inst c fs)) (hg:get f fs=some x):getA (.obj i) f μ=some (x,μ):=by
 simp [getA,bd,rd,h,hg,rt]
theorem setA_eq {i:Nat} {f:String} {c:Cl} {fs:List (String × AV)} {x:AV} (h:μ[i]? =some (.inst c fs)) (hf:f∈c.fields) (hl:fs.length < 100):setA (.obj i) f x μ=some ((),μ.set i (.inst c (put f x fs))):=by
 simp [setA,bd,rd,h,hf,hl,wr]
theorem isI_eq {i:Nat} {c d:Cl} {fs:List (String × AV)} (h:μ[i]? =some (.inst d fs)):isI c (.obj i) μ=some (.bool (decide (d=c)),μ):=by
 simp [isI,bd,rd,h,rt]
theorem chk_eq {i:Nat} {c:Cl} {fs:List (String × AV)} (h:μ[i]? =some (.inst c fs)):chk (.obj i) c μ=some ((),μ):=by
 simp [chk,bd,rd,h,rt]
theorem chkL_eq {i:Nat} {xs:List AV} (h:μ[i]? =some (.list xs)):chkL (.obj i) μ=some ((),μ):=by
 simp [chkL,bd,rd,h,rt]
theorem rdL_eq {i:Nat} {xs:List AV} (h:μ[i]? =some (.list xs)):rdL (.obj i) μ=some (xs,μ):=by
 simp [rdL,bd,rd,h,rt]
theorem appL_eq {i:Nat} {xs:List AV} {x:AV} (h:μ[i]? =some (.list xs)) (hl:xs.length < big):appL (.obj i) x μ=some (.none,μ.set i (.list (xs ++ [x]))):=by
 simp [appL,bd,rd,h,rt,hl,wr]
theorem popL_eq {i:Nat} {xs:List AV} {x:AV} (h:μ[i]? =some (.list (x :: xs))):popL (.obj i) μ=some (x,μ.set i (.list xs)):=by
 simp [popL,bd,rd,h,rt,wr]
theorem Rep.thing (R:Rep K own σ μ) {v:AV} {n:Nat} (h:at_ own v (.thing n)): ∃ i w l,v= .obj i∧own i= .thing n∧at_ own w (.weak n)∧Tail own n (σ.th n).c l∧μ[i]? =some (.inst (σ.th n).c.cl (("number", .int n) :: ("count", .int (σ.th n).cnt) :: ("blessed",blv (σ.th n).bl) :: ("weak",w) :: ("is_destroyed", .bool (σ.th n).ds) :: ("is_freed", .bool (σ.th n).fr) :: l)):=by
 obtain ⟨i,rfl,h⟩:=h
 obtain ⟨o,e,w,l,a,b,rfl⟩:=R.at' h nofun
 exact ⟨i,w,l,rfl,h,a,b,e⟩
section
variable {Q:AV→Mem→Prop} {v:AV} {n:Nat}
theorem wp_number (R:Rep K own σ μ) (h:at_ own v (.thing n)):wp (getA v "number") Q μ=Q (.int n) μ:=by
 obtain ⟨i,w,l,rfl,_,_,_,e⟩:=R.thing h;exact wp_eq (getA_eq e rfl)
theorem wp_count (R:Rep K own σ μ) (h:at_ own v (.thing n)):wp (getA v "count") Q μ=Q (.int (σ.th n).cnt) μ:=by
 obtain ⟨i,w,l,rfl,_,_,_,e⟩:=R.thing h;exact wp_eq (getA_eq e rfl)
theorem wp_blessed (R:Rep K own σ μ) (h:at_ own v (.thing n)):wp (getA v "blessed") Q μ=Q (blv (σ.th n).bl) μ:=by
 obtain ⟨i,w,l,rfl,_,_,_,e⟩:=R.thing h;exact wp_eq (getA_eq e rfl)
theorem wp_ds (R:Rep K own σ μ) (h:at_ own v (.thing n)):wp (getA v "is_destroyed") Q μ=Q (.bool (σ.th n).ds) μ:=by
 obtain ⟨i,w,l,rfl,_,_,_,e⟩:=R.thing h;exact wp_eq (getA_eq e rfl)
theorem wp_fr (R:Rep K own σ μ) (h:at_ own v (.thing n)):wp (getA v "is_freed") Q μ=Q (.bool (σ.th n).fr) μ:=by
 obtain ⟨i,w,l,rfl,_,_,_,e⟩:=R.thing h;exact wp_eq (getA_eq e rfl)
theorem wp_weak (R:Rep K own σ μ) (h:at_ own v (.thing n)) (hq: ∀ w,at_ own w (.weak n)→Q w μ):wp (getA v "weak") Q μ:=by
 obtain ⟨i,w,l,rfl,_,hw,_,e⟩:=R.thing h;exact wp_of (getA_eq e rfl) (hq w hw)
theorem wp_value (R:Rep K own σ μ) (h:at_ own v (.thing n)) {pv:PV} (hc:(σ.th n).c= .s pv) (hq: ∀ x,VT own pv x→Q x μ):wp (getA v "value") Q μ:=by
 obtain ⟨i,w,l,rfl,_,hw,ht,e⟩:=R.thing h
 rw [hc] at ht
 obtain ⟨x,hx,rfl⟩:=ht
 exact wp_of (getA_eq e rfl) (hq x hx)
theorem wp_magic (R:Rep K own σ μ) (h:at_ own v (.thing n)) {pv:PV} (hc:(σ.th n).c= .s pv):wp (getA v "magic") Q μ=Q .none μ:=by
 obtain ⟨i,w,l,rfl,_,hw,ht,e⟩:=R.thing h
 rw [hc] at ht
 obtain ⟨x,hx,rfl⟩:=ht
 exact wp_eq (getA_eq e rfl)
theorem wp_items (R:Rep K own σ μ) (h:at_ own v (.thing n)) {xs:List Nat} (hc:(σ.th n).c= .a xs) (hq: ∀ x,at_ own x (.cont n)→Q x μ):wp (getA v "items") Q μ:=by
 obtain ⟨i,w,l,rfl,_,hw,ht,e⟩:=R.thing h
 rw [hc] at ht
 obtain ⟨x,hx,rfl⟩:=ht
 exact wp_of (getA_eq e rfl) (hq x hx)
theorem wp_table (R:Rep K own σ μ) (h:at_ own v (.thing n)) {es:List (String × Nat)} (hc:(σ.th n).c= .h es) (hq: ∀ x,at_ own x (.cont n)→Q x μ):wp (getA v "table") Q μ:=by
 obtain ⟨i,w,l,rfl,_,hw,ht,e⟩:=R.thing h
 rw [hc] at ht
 obtain ⟨x,hx,rfl⟩:=ht
 exact wp_of (getA_eq e rfl) (hq x hx)
theorem wp_isT (R:Rep K own σ μ) (h:at_ own v (.thing n)) {c:Cl}:wp (isI c v) Q μ=Q (.bool (decide ((σ.th n).c.cl=c))) μ:=by
 obtain ⟨i,w,l,rfl,_,_,_,e⟩:=R.thing h;exact wp_eq (isI_eq e)
def PV.isRef:PV→Bool
 | .ref _=>true | .weak _=>true | _=>false
def PV.tgt:PV→Option Nat
 | .ref n=>some n | .weak n=>some n | _=>Option.none
def PV.isWeak:PV→Bool
 | .weak _=>true | _=>false
theorem Rep.im (R:Rep K own σ μ) {i:Nat} {o:AO} (h:own i= .im o):μ[i]? =some o:=by
 obtain ⟨o',e,d⟩:=R.at' h nofun
 rw [e,show o'=o from d]
theorem Rep.tm (R:Rep K own σ μ) {i:Nat} {o:AO} (h:own i= .tm o):μ[i]? =some o:=by
 obtain ⟨o',e,d⟩:=R.at' h nofun
 rw [e,show o'=o from d]
theorem Rep.nw (R:Rep K own σ μ) {i:Nat} {o:AO} (h:own i= .nw o):μ[i]? =some o:=by
 obtain ⟨o',e,d⟩:=R.at' h nofun
 rw [e,show o'=o from d]
theorem VT.ref (R:Rep K own σ μ) {pv:PV} {x:AV} (h:VT own pv x) {m:Nat} (ht:pv.tgt=some m): ∃ i t,x= .obj i∧at_ own t (.thing m)∧μ[i]? =some (.inst .ref [("target",t),("is_weak", .bool pv.isWeak)]):=by
 cases pv with
 | none=>cases ht
 | int i=>cases ht
 | ref k=>cases ht;obtain ⟨i,o,rfl,h2,t,h3,rfl⟩:=h;exact ⟨i,t,rfl,h3,R.im h2⟩
 | weak k=>cases ht;obtain ⟨i,o,rfl,h2,t,h3,rfl⟩:=h;exact ⟨i,t,rfl,h3,R.im h2⟩
theorem wp_isRef (R:Rep K own σ μ) {pv:PV} {x:AV} (h:VT own pv x):wp (isI .ref x) Q μ=Q (.bool pv.isRef) μ:=by
 cases pv with
 | none=>cases h;exact wp_eq rfl
 | int i=>cases h;exact wp_eq rfl
 | ref k=>obtain ⟨i,t,rfl,_,e⟩:=VT.ref R h rfl;exact wp_eq (isI_eq e)
 | weak k=>obtain ⟨i,t,rfl,_,e⟩:=VT.ref R h rfl;exact wp_eq (isI_eq e)
theorem wp_target (R:Rep K own σ μ) {pv:PV} {x:AV} (h:VT own pv x) {m:Nat} (ht:pv.tgt=some m) (hq: ∀ t,at_ own t (.thing m)→Q t μ):wp (getA x "target") Q μ:=by
 obtain ⟨i,t,rfl,h3,e⟩:=VT.ref R h ht;exact wp_of (getA_eq e rfl) (hq t h3)
theorem wp_isWeak (R:Rep K own σ μ) {pv:PV} {x:AV} (h:VT own pv x) {m:Nat} (ht:pv.tgt=some m):wp (getA x "is_weak") Q μ=Q (.bool pv.isWeak) μ:=by
 obtain ⟨i,t,rfl,h3,e⟩:=VT.ref R h ht;exact wp_eq (getA_eq e rfl)
end
theorem at_.eq (R:Rep K own σ μ) {v w:AV} {r:Role} (hv:at_ own v r) (hw:at_ own w r) (hr:r.once=true):v=w:=by
 obtain ⟨i,rfl,h⟩:=hv
 obtain ⟨j,rfl,h'⟩:=hw
 rw [R.uniq i j (h.trans h'.symm) (by rw [h];exact hr)]
end
def S.setTh (σ:S) (n:Nat) (t:Th):S:= {σ with th:=λ m=>if m=n then t else σ.th m}
theorem setTh_same {σ:S} {n:Nat} {t:Th}:(σ.setTh n t).th n=t:=by simp [S.setTh]
theorem setTh_ne {σ:S} {n m:Nat} {t:Th} (h:m≠n):(σ.setTh n t).th m=σ.th m:=by simp [S.setTh,h]
def S.setRow (σ:S) (n:Nat) (t:Row):S:= {σ with row:=λ m=>if m=n then t else σ.row m}
theorem setRow_same {σ:S} {n:Nat} {t:Row}:(σ.setRow n t).row n=t:=by simp [S.setRow]
theorem setRow_ne {σ:S} {n m:Nat} {t:Row} (h:m≠n):(σ.setRow n t).row m=σ.row m:=by simp [S.setRow,h]
section
variable {K:Ad} {own own':Own} {σ σ':S} {μ:Mem} {α:Type}
theorem Desc.setTh {n:Nat} {t:Th} {r:Role} {o:AO} (h1:r≠ .thing n) (h2:r= .weak n→t.weak=(σ.th n).weak) (h3:r= .cont n→t.c=(σ.th n).c∨ ∃ v,(σ.th n).c= .s v) (h:Desc K own σ r o):Desc K own (σ.setTh n t) r o:=by
 cases r with
 | thing m =>
  have:m≠n:=λ q=>h1 (by rw [q])
  unfold Desc at h ⊢
  dsimp only at h ⊢
  rw [setTh_ne this];exact h
 | weak m =>
  by_cases q:m=n
  ·subst q
   unfold Desc at h ⊢
   dsimp only at h ⊢
   rw [setTh_same,h2 rfl];exact h
  ·unfold Desc at h ⊢
   dsimp only at h ⊢
   rw [setTh_ne q];exact h
 | cont m =>
  by_cases q:m=n
  ·subst q
   unfold Desc at h ⊢
   dsimp only at h ⊢
   rw [setTh_same]
   rcases h3 rfl with e | ⟨v,e⟩
   ·rw [e];exact h
   ·rw [e] at h;exact h.elim
  ·unfold Desc at h ⊢
   dsimp only at h ⊢
   rw [setTh_ne q];exact h
 | _=>exact h
theorem Desc.setRow {n:Nat} {t:Row} {r:Role} {o:AO} (h1:r≠ .row n) (h3:r= .inn n→t.c=(σ.row n).c∨ ∃ v,(σ.row n).c= .s v) (h:Desc K own σ r o):Desc K own (σ.setRow n t) r o:=by
 cases r with
 | row m =>
  have:m≠n:=λ q=>h1 (by rw [q])
  unfold Desc at h ⊢
  dsimp only at h ⊢
  rw [setRow_ne this];exact h
 | inn m =>
  by_cases q:m=n
  ·subst q
   unfold Desc at h ⊢
   dsimp only at h ⊢
   rw [setRow_same]
   rcases h3 rfl with e | ⟨v,e⟩
   ·rw [e];exact h
   ·rw [e] at h;exact h.elim
  ·unfold Desc at h ⊢
   dsimp only at h ⊢
   rw [setRow_ne q];exact h
 | _=>exact h
theorem fields_thing (c:Cont) (f:String) (h:f∈["number","count","blessed","weak","is_destroyed","is_freed"]):f∈c.cl.fields:=by
 cases c <;> simp [Cont.cl,Cl.fields] at h ⊢ <;> rcases h with rfl | rfl | rfl | rfl | rfl | rfl <;> simp
theorem Tail.len {n:Nat} {c:Cont} {l:List (String × AV)} (h:Tail own n c l):l.length≤3:=by
 cases c <;> obtain ⟨x,_,rfl⟩:=h <;> simp
section
variable {Q:Unit→Mem→Prop} {QV:AV→Mem→Prop} {v:AV} {n:Nat}
theorem wp_setCount (R:Rep K own σ μ) (h:at_ own v (.thing n)) {c:Int} (hq: ∀ μ',Rep K own (σ.setTh n {σ.th n with cnt:=c}) μ'→Q () μ'):wp (setA v "count" (.int c)) Q μ:=by
 obtain ⟨i,w,l,rfl,hi,hw,ht,e⟩:=R.thing h
 refine wp_of (setA_eq e (fields_thing _ _ (by simp)) (by have:=ht.len;simp;omega)) (hq _ ?_)
 refine R.set hi rfl ⟨Nat.le_refl _,Nat.le_refl _⟩ ⟨w,l,hw,by rw [setTh_same];exact ht,by rw [setTh_same];rfl⟩ λ r hr o d=>d.setTh hr (λ _=>rfl) λ _=> .inl rfl
theorem wp_setBless (R:Rep K own σ μ) (h:at_ own v (.thing n)) (hq: ∀ μ',Rep K own (σ.setTh n {σ.th n with bl:=true}) μ'→Q () μ'):wp (setA v "blessed" (.str "P")) Q μ:=by
 obtain ⟨i,w,l,rfl,hi,hw,ht,e⟩:=R.thing h
 refine wp_of (setA_eq e (fields_thing _ _ (by simp)) (by have:=ht.len;simp;omega)) (hq _ ?_)
 refine R.set hi rfl ⟨Nat.le_refl _,Nat.le_refl _⟩ ⟨w,l,hw,by rw [setTh_same];exact ht,by rw [setTh_same];rfl⟩ λ r hr o d=>d.setTh hr (λ _=>rfl) λ _=> .inl rfl
theorem wp_setDs (R:Rep K own σ μ) (h:at_ own v (.thing n)) {b:Bool} (hq: ∀ μ',Rep K own (σ.setTh n {σ.th n with ds:=b}) μ'→Q () μ'):wp (setA v "is_destroyed" (.bool b)) Q μ:=by
 obtain ⟨i,w,l,rfl,hi,hw,ht,e⟩:=R.thing h
 refine wp_of (setA_eq e (fields_thing _ _ (by simp)) (by have:=ht.len;simp;omega)) (hq _ ?_)
 refine R.set hi rfl ⟨Nat.le_refl _,Nat.le_refl _⟩ ⟨w,l,hw,by rw [setTh_same];exact ht,by rw [setTh_same];rfl⟩ λ r hr o d=>d.setTh hr (λ _=>rfl) λ _=> .inl rfl
theorem wp_setFr (R:Rep K own σ μ) (h:at_ own v (.thing n)) {b:Bool} (hq: ∀ μ',Rep K own (σ.setTh n {σ.th n with fr:=b}) μ'→Q () μ'):wp (setA v "is_freed" (.bool b)) Q μ:=by
 obtain ⟨i,w,l,rfl,hi,hw,ht,e⟩:=R.thing h
 refine wp_of (setA_eq e (fields_thing _ _ (by simp)) (by have:=ht.len;simp;omega)) (hq _ ?_)
 refine R.set hi rfl ⟨Nat.le_refl _,Nat.le_refl _⟩ ⟨w,l,hw,by rw [setTh_same];exact ht,by rw [setTh_same];rfl⟩ λ r hr o d=>d.setTh hr (λ _=>rfl) λ _=> .inl rfl
theorem wp_setValue (R:Rep K own σ μ) (h:at_ own v (.thing n)) {pv pv':PV} (hc:(σ.th n).c= .s pv') {x:AV} (hx:VT own pv x) (hq: ∀ μ',Rep K own (σ.setTh n {σ.th n with c:= .s pv}) μ'→Q () μ'):wp (setA v "value" x) Q μ:=by
 obtain ⟨i,w,l,rfl,hi,hw,ht,e⟩:=R.thing h
 rw [hc] at ht e
 obtain ⟨y,hy,rfl⟩:=ht
 refine wp_of (setA_eq e (by simp [Cont.cl,Cl.fields]) (by simp)) (hq _ ?_)
 refine R.set hi rfl ⟨Nat.le_refl _,Nat.le_refl _⟩ ⟨w,[("value",x),("magic", .none)],hw,by rw [setTh_same];exact ⟨x,hx,rfl⟩,by rw [setTh_same];rfl⟩ λ r hr o d=>d.setTh hr (λ _=>rfl) λ _=> .inr ⟨_,hc⟩
theorem Rep.weakL (R:Rep K own σ μ) {w:AV} (h:at_ own w (.weak n)): ∃ i vs,w= .obj i∧own i= .weak n∧Things own vs (σ.th n).weak∧μ[i]? =some (.list vs):=by
 obtain ⟨i,rfl,h⟩:=h
 obtain ⟨o,e,vs,rfl,d⟩:=R.at' h nofun
 exact ⟨i,vs,rfl,h,d,e⟩
theorem wp_chkLweak (R:Rep K own σ μ) {w:AV} (h:at_ own w (.weak n)):wp (chkL w) Q μ=Q () μ:=by
 obtain ⟨i,vs,rfl,_,_,e⟩:=R.weakL h;exact wp_eq (chkL_eq e)
theorem wp_appWeak (R:Rep K own σ μ) {w s:AV} {m:Nat} (h:at_ own w (.weak n)) (hs:at_ own s (.thing m)) (hl:(σ.th n).weak.length < big) (hq: ∀ μ',Rep K own (σ.setTh n {σ.th n with weak:=(σ.th n).weak ++ [m]}) μ'→QV .none μ'):wp (appL w s) QV μ:=by
 obtain ⟨i,vs,rfl,hi,ht,e⟩:=R.weakL h
 refine wp_of (appL_eq e (by rw [ht.len];exact hl)) (hq _ ?_)
 refine R.set hi rfl ⟨Nat.le_refl _,Nat.le_refl _⟩ ⟨_,rfl,by rw [setTh_same];exact ht.snoc hs⟩ λ r hr o d=> ?_
 by_cases q:r= .thing n
 ·subst q
  obtain ⟨w,l,a,b,c⟩:=d
  exact ⟨w,l,a,by rw [setTh_same];exact b,by rw [setTh_same];exact c⟩
 ·exact d.setTh q (λ q=>absurd q hr) λ _=> .inl rfl
theorem wp_setWeak (R:Rep K own σ μ) (h:at_ own v (.thing n)) {a:Nat} {vs:List AV} {ns:List Nat} (ha:own a= .nw (.list vs)) (hv:Things own vs ns) (hn:n≤σ.last) (hq: ∀ own' μ',Ext own own'→Rep K own' (σ.setTh n {σ.th n with weak:=ns}) μ'→Q () μ'):wp (setA v "weak" (.obj a)) Q μ:=by
 obtain ⟨i,w,l,rfl,hi,hw,ht,e⟩:=R.thing h
 refine wp_of (setA_eq e (fields_thing _ _ (by simp)) (by have:=ht.len;simp;omega)) ?_
 refine (R.move (σ':=σ.setTh n {σ.th n with weak:=ns}) hi rfl ha (ρ:= .weak n) rfl nofun (λ r=>by cases r <;> simp) ⟨hn,Nat.zero_le _⟩ ⟨rfl,rfl⟩ (λ r r' hr hr' q=> ?_) (λ own' e1 e2 e3=>⟨⟨.obj a,l,⟨a,rfl,e2⟩,?_,?_⟩,⟨vs,rfl,?_⟩⟩) (λ r hr hr' p d=> ?_) rfl).elim λ own' z=>hq own' _ z.1 z.2.2
 ·subst q
  cases r with
  | thing m =>
   rcases hr' with q | q | q | q
   ·cases q;exact hr rfl
   ·cases q
   ·obtain ⟨_,q⟩:=q;cases q
   ·obtain ⟨_,q⟩:=q;cases q
  | heap=>cases hr'
  | world=>obtain ⟨_,q⟩:=hr';cases q
  | real=>obtain ⟨_,q⟩:=hr';cases q
  | zero=>obtain ⟨_,q⟩:=hr';cases q
  | weak _=>obtain ⟨_,q⟩:=hr';cases q
  | cont _=>obtain ⟨_,q⟩:=hr';cases q
  | row _=>rcases hr' with q | ⟨_,q⟩ <;> cases q
  | inn _=>obtain ⟨_,q⟩:=hr';cases q
  | _=>exact hr'
 ·rw [setTh_same]
  cases hc:(σ.th n).c with
  | s pv=>rw [hc] at ht;obtain ⟨x,hx,rfl⟩:=ht;exact ⟨x,hx.ext e1,rfl⟩
  | a xs=>rw [hc] at ht;obtain ⟨x,hx,rfl⟩:=ht;exact ⟨x,hx.mono λ j hj=>e3 j _ hj (.inr (.inl rfl)) nofun,rfl⟩
  | h xs=>rw [hc] at ht;obtain ⟨x,hx,rfl⟩:=ht;exact ⟨x,hx.mono λ j hj=>e3 j _ hj (.inr (.inl rfl)) nofun,rfl⟩
 ·rw [setTh_same];rfl
 ·rw [setTh_same];exact hv.ext e1
 ·exact d.setTh hr (λ q=>absurd q hr') λ _=> .inl rfl
theorem Rep.contA (R:Rep K own σ μ) {w:AV} {xs:List Nat} (hc:(σ.th n).c= .a xs) (h:at_ own w (.cont n)): ∃ i vs,w= .obj i∧own i= .cont n∧Things own vs xs∧μ[i]? =some (.list vs):=by
 obtain ⟨i,rfl,h⟩:=h
 obtain ⟨o,e,d⟩:=R.at' h nofun
 unfold Desc at d
 dsimp only at d
 rw [hc] at d
 obtain ⟨vs,rfl,d⟩:=d
 exact ⟨i,vs,rfl,h,d,e⟩
theorem Rep.contH (R:Rep K own σ μ) {w:AV} {xs:List (String × Nat)} (hc:(σ.th n).c= .h xs) (h:at_ own w (.cont n)): ∃ i ls,w= .obj i∧own i= .cont n∧L2 (λ l e=>l.1=e.1∧at_ own l.2 (.thing e.2)) ls xs∧μ[i]? =some (.dS (σ.lkT n) ls):=by
 obtain ⟨i,rfl,h⟩:=h
 obtain ⟨o,e,d⟩:=R.at' h nofun
 unfold Desc at d
 dsimp only at d
 rw [hc] at d
 obtain ⟨vs,rfl,d⟩:=d
 exact ⟨i,vs,rfl,h,d,e⟩
theorem Desc.setTh_c {n:Nat} {t:Th} {r:Role} {o:AO} (h1:r≠ .thing n) (h2:t.weak=(σ.th n).weak) (h3:r≠ .cont n) (h:Desc K own σ r o):Desc K own (σ.setTh n t) r o:=h.setTh h1 (λ _=>h2) λ q=>absurd q h3
theorem wp_chkLitems (R:Rep K own σ μ) {w:AV} {xs:List Nat} (hc:(σ.th n).c= .a xs) (h:at_ own w (.cont n)):wp (chkL w) Q μ=Q () μ:=by
 obtain ⟨i,vs,rfl,_,_,e⟩:=R.contA hc h;exact wp_eq (chkL_eq e)
theorem Desc.holder {n:Nat} {c:Cont} {o:AO} (hk:c.cl=(σ.th n).c.cl) (ht: ∀ l,Tail own n (σ.th n).c l→Tail own n c l) (d:Desc K own σ (.thing n) o):Desc K own (σ.setTh n {σ.th n with c:=c}) (.thing n) o:=by
 obtain ⟨w,l,a,b,rfl⟩:=d
 exact ⟨w,l,a,by rw [setTh_same];exact ht l b,by rw [setTh_same,← hk]⟩
theorem wp_appItems (R:Rep K own σ μ) {w s:AV} {m:Nat} {xs:List Nat} (hc:(σ.th n).c= .a xs) (h:at_ own w (.cont n)) (hs:at_ own s (.thing m)) (hl:xs.length < big) (hq: ∀ μ',Rep K own (σ.setTh n {σ.th n with c:= .a (xs ++ [m])}) μ'→QV .none μ'):wp (appL w s) QV μ:=by
 obtain ⟨i,vs,rfl,hi,ht,e⟩:=R.contA hc h
 refine wp_of (appL_eq e (by rw [ht.len];exact hl)) (hq _ ?_)
 refine R.set hi rfl ⟨Nat.le_refl _,Nat.le_refl _⟩ (by unfold Desc;dsimp only;rw [setTh_same];exact ⟨_,rfl,ht.snoc hs⟩) λ r hr o d=> ?_
 by_cases q:r= .thing n
 ·subst q
  exact d.holder (by rw [hc];rfl) (by rw [hc];exact λ l h=>h)
 ·exact d.setTh_c q rfl hr
theorem wp_popItems (R:Rep K own σ μ) {w:AV} {m:Nat} {xs:List Nat} (hc:(σ.th n).c= .a (m :: xs)) (h:at_ own w (.cont n)) (hq: ∀ x μ',at_ own x (.thing m)→Rep K own (σ.setTh n {σ.th n with c:= .a xs}) μ'→QV x μ'):wp (popL w) QV μ:=by
 obtain ⟨i,vs,rfl,hi,ht,e⟩:=R.contA hc h
 cases ht with
 | cons h1 h2 =>
 refine wp_of (popL_eq e) (hq _ _ h1 ?_)
 refine R.set hi rfl ⟨Nat.le_refl _,Nat.le_refl _⟩ (by unfold Desc;dsimp only;rw [setTh_same];exact ⟨_,rfl,h2⟩) λ r hr o d=> ?_
 by_cases q:r= .thing n
 ·subst q
  exact d.holder (by rw [hc];rfl) (by rw [hc];exact λ l h=>h)
 ·exact d.setTh_c q rfl hr
end
end
section
variable {κ β:Type} [DecidableEq κ]
def aget (k:κ):List (κ × β)→Option β
 | []=>none
 | e :: r=>if e.1=k then some e.2 else aget k r
def aput (k:κ) (v:β):List (κ × β)→List (κ × β)
 | []=>[(k,v)]
 | e :: r=>if e.1=k then (k,v) :: r else e :: aput k v r
def adel (k:κ):List (κ × β)→List (κ × β)
 | []=>[]
 | e :: r=>if e.1=k then r else e :: adel k r
theorem aget_L2 {R:AV→β→Prop} {ls:List (κ × AV)} {es:List (κ × β)} (h:L2 (λ l e=>l.1=e.1∧R l.2 e.2) ls es) (k:κ):(∀ m,aget k es=some m→ ∃ x,get k ls=some x∧R x m)∧(aget k es=none→get k ls=none):=by
 induction h with
 | nil=>exact ⟨λ m e=>(by cases e),λ _=>rfl⟩
 | @cons a b as bs h1 h2 ih =>
  unfold aget get
  rw [h1.1]
  split
  ·exact ⟨λ m e=>⟨a.2,rfl,by cases e;exact h1.2⟩,λ e=>by cases e⟩
  ·exact ih
theorem aput_L2 {R:AV→β→Prop} {ls:List (κ × AV)} {es:List (κ × β)} (h:L2 (λ l e=>l.1=e.1∧R l.2 e.2) ls es) {k:κ} {x:AV} {m:β} (hx:R x m):L2 (λ l e=>l.1=e.1∧R l.2 e.2) (put k x ls) (aput k m es):=by
 induction h with
 | nil=>exact .cons ⟨rfl,hx⟩ .nil
 | @cons a b as bs h1 h2 ih =>
  unfold aput put
  rw [h1.1]
  split
  ·exact .cons ⟨rfl,hx⟩ h2
  ·exact .cons h1 ih
theorem adel_L2 {R:AV→β→Prop} {ls:List (κ × AV)} {es:List (κ × β)} (h:L2 (λ l e=>l.1=e.1∧R l.2 e.2) ls es) {k:κ}:L2 (λ l e=>l.1=e.1∧R l.2 e.2) (del k ls) (adel k es):=by
 induction h with
 | nil=>exact .nil
 | @cons a b as bs h1 h2 ih =>
  unfold adel del
  rw [h1.1]
  split
  ·exact h2
  ·exact .cons h1 ih
end
section
variable {K:Ad} {own own':Own} {σ σ':S} {μ:Mem} {α:Type}
theorem noref_cont {n:Nat}: ∀ r r',r≠Role.thing n→Refs r r'→r'≠ .cont n:=λ r r' hr hr' q=>by
 subst q
 cases r with
 | thing m =>
  rcases hr' with q | q | q | q
  ·cases q
  ·cases q;exact hr rfl
  ·obtain ⟨_,q⟩:=q;cases q
  ·obtain ⟨_,q⟩:=q;cases q
 | heap=>cases hr'
 | world=>obtain ⟨_,q⟩:=hr';cases q
 | real=>obtain ⟨_,q⟩:=hr';cases q
 | zero=>obtain ⟨_,q⟩:=hr';cases q
 | weak _=>obtain ⟨_,q⟩:=hr';cases q
 | cont _=>obtain ⟨_,q⟩:=hr';cases q
 | row _=>rcases hr' with q | ⟨_,q⟩ <;> cases q
 | inn _=>obtain ⟨_,q⟩:=hr';cases q
 | _=>exact hr'
theorem noref_zero: ∀ r r',r≠Role.heap→Refs r r'→r'≠ .zero:=λ r r' hr hr' q=>by
 subst q
 cases r with
 | thing m =>
  rcases hr' with q | q | q | q
  ·cases q
  ·cases q
  ·obtain ⟨_,q⟩:=q;cases q
  ·obtain ⟨_,q⟩:=q;cases q
 | heap=>exact hr rfl
 | world=>obtain ⟨_,q⟩:=hr';cases q
 | real=>obtain ⟨_,q⟩:=hr';cases q
 | zero=>obtain ⟨_,q⟩:=hr';cases q
 | weak _=>obtain ⟨_,q⟩:=hr';cases q
 | cont _=>obtain ⟨_,q⟩:=hr';cases q
 | row _=>rcases hr' with q | ⟨_,q⟩ <;> cases q
 | inn _=>obtain ⟨_,q⟩:=hr';cases q
 | _=>exact hr'
section
variable {Q:Unit→Mem→Prop} {QV:AV→Mem→Prop} {v:AV} {n:Nat}
theorem wp_chkDtable (R:Rep K own σ μ) {w:AV} {es:List (String × Nat)} (hc:(σ.th n).c= .h es) (h:at_ own w (.cont n)):wp (chkD w) Q μ=Q () μ:=by
 obtain ⟨i,ls,rfl,_,_,e⟩:=R.contH hc h
 exact wp_eq (by simp [chkD,bd,rd,e,rt])
theorem getK_dS {i:Nat} {lk:Bool} {ls:List (String × AV)} {k:String} (e:μ[i]? =some (.dS lk ls)):getK (.obj i) (.str k) μ=some (get k ls,μ):=by simp [getK,bd,rd,e,rt]
theorem getK_dI {i:Nat} {lk:Bool} {ls:List (Int × AV)} {k:Int} (e:μ[i]? =some (.dI lk ls)):getK (.obj i) (.int k) μ=some (get k ls,μ):=by simp [getK,bd,rd,e,rt]
theorem wp_getTable (R:Rep K own σ μ) {w:AV} {es:List (String × Nat)} {k:String} {m:Nat} (hc:(σ.th n).c= .h es) (h:at_ own w (.cont n)) (hk:aget k es=some m) (hq: ∀ x,at_ own x (.thing m)→QV x μ):wp (getI w (.str k)) QV μ:=by
 obtain ⟨i,ls,rfl,_,hl,e⟩:=R.contH hc h
 obtain ⟨x,e1,e2⟩:=(aget_L2 (R:=λ v m=>at_ own v (.thing m)) hl k).1 m hk
 exact wp_of (a:=x) (by simp [getI,bd,rd,e,opt,e1,rt]) (hq x e2)
theorem wp_dget1Table (R:Rep K own σ μ) {w:AV} {es:List (String × Nat)} {k:String} (hc:(σ.th n).c= .h es) (h:at_ own w (.cont n)) (hq: ∀ x,(match aget k es with | none=>x= .none | some m=>at_ own x (.thing m))→QV x μ):wp (dget1 w (.str k)) QV μ:=by
 obtain ⟨i,ls,rfl,_,hl,e⟩:=R.contH hc h
 obtain ⟨h1,h2⟩:=aget_L2 (R:=λ v m=>at_ own v (.thing m)) hl k
 refine wp_of (a:=(get k ls).getD .none) (by simp [dget1,bd,getK_dS e,rt]) (hq _ ?_)
 split
 ·rename_i q;rw [h2 q];rfl
 ·rename_i m q
  obtain ⟨x,e1,e2⟩:=h1 m q
  rw [e1];exact e2
theorem wp_setTable (R:Rep K own σ μ) {w x:AV} {es:List (String × Nat)} {k:String} {m:Nat} (hc:(σ.th n).c= .h es) (hlk:σ.lkT n=false) (h:at_ own w (.cont n)) (hx:at_ own x (.thing m)) (hl:es.length < big) (hq: ∀ μ',Rep K own (σ.setTh n {σ.th n with c:= .h (aput k m es)}) μ'→Q () μ'):wp (setI w (.str k) x) Q μ:=by
 obtain ⟨i,ls,rfl,hi,ht,e⟩:=R.contH hc h
 rw [hlk] at e
 refine wp_of (μ':=μ.set i (.dS false (put k x ls))) (by simp [setI,bd,rd,e,show ls.length < big by rw [ht.len];exact hl,wr]) (hq _ ?_)
 refine R.set hi rfl ⟨Nat.le_refl _,Nat.le_refl _⟩ (by unfold Desc;dsimp only;rw [setTh_same];exact ⟨_,by rw [show (σ.setTh n {σ.th n with c:= .h (aput k m es)}).lkT n=false from hlk],aput_L2 (R:=λ v m=>at_ own v (.thing m)) ht hx⟩) λ r hr o d=> ?_
 by_cases q:r= .thing n
 ·subst q
  exact d.holder (by rw [hc];rfl) (by rw [hc];exact λ l h=>h)
 ·exact d.setTh_c q rfl hr
theorem wp_popTable (R:Rep K own σ μ) {w:AV} {es:List (String × Nat)} {k:String} {m:Nat} (hc:(σ.th n).c= .h es) (hlk:σ.lkT n=false) (h:at_ own w (.cont n)) (hk:aget k es=some m) (hq: ∀ x μ',at_ own x (.thing m)→Rep K own (σ.setTh n {σ.th n with c:= .h (adel k es)}) μ'→QV x μ'):wp (dpop1 w (.str k)) QV μ:=by
 obtain ⟨i,ls,rfl,hi,ht,e⟩:=R.contH hc h
 rw [hlk] at e
 obtain ⟨x,e1,e2⟩:=(aget_L2 (R:=λ v m=>at_ own v (.thing m)) ht k).1 m hk
 refine wp_of (a:=x) (μ':=μ.set i (.dS false (del k ls))) (by simp [dpop1,delK,bd,getK_dS e,e1,rd,e,rt,wr]) (hq x _ e2 ?_)
 refine R.set hi rfl ⟨Nat.le_refl _,Nat.le_refl _⟩ (by unfold Desc;dsimp only;rw [setTh_same];exact ⟨_,by rw [show (σ.setTh n {σ.th n with c:= .h (adel k es)}).lkT n=false from hlk],adel_L2 (R:=λ v m=>at_ own v (.thing m)) ht⟩) λ r hr o d=> ?_
 by_cases q:r= .thing n
 ·subst q
  exact d.holder (by rw [hc];rfl) (by rw [hc];exact λ l h=>h)
 ·exact d.setTh_c q rfl hr
theorem wp_setAt (R:Rep K own σ μ) (h:at_ own v (.thing n)) {es:List (String × Nat)} (hc:(σ.th n).c= .h es) (hq: ∀ μ',Rep K own σ μ'→Q () μ'):wp (setA v "at" (.int 0)) Q μ:=by
 obtain ⟨i,w,l,rfl,hi,hw,ht,e⟩:=R.thing h
 rw [hc] at ht e
 obtain ⟨y,hy,rfl⟩:=ht
 refine wp_of (setA_eq e (by simp [Cont.cl,Cl.fields]) (by simp)) (hq _ ?_)
 exact R.set hi rfl ⟨Nat.le_refl _,Nat.le_refl _⟩ ⟨w,_,hw,by rw [hc];exact ⟨y,hy,rfl⟩,by rw [hc];rfl⟩ λ r hr o d=>d
theorem wp_setItems (R:Rep K own σ μ) (h:at_ own v (.thing n)) {a:Nat} {xs:List Nat} (hc:(σ.th n).c= .a xs) (ha:own a= .nw (.list [])) (hn:n≤σ.last) (hq: ∀ own' μ',Ext own own'→Rep K own' (σ.setTh n {σ.th n with c:= .a []}) μ'→Q () μ'):wp (setA v "items" (.obj a)) Q μ:=by
 obtain ⟨i,w,l,rfl,hi,hw,ht,e⟩:=R.thing h
 rw [hc] at ht e
 obtain ⟨y,hy,rfl⟩:=ht
 refine wp_of (setA_eq e (by simp [Cont.cl,Cl.fields]) (by simp)) ?_
 refine (R.move (σ':=σ.setTh n {σ.th n with c:= .a []}) hi rfl ha (ρ:= .cont n) rfl nofun (λ r=>by cases r <;> simp) ⟨hn,Nat.zero_le _⟩ ⟨rfl,rfl⟩ noref_cont (λ own' e1 e2 e3=>⟨⟨w,[("items", .obj a),("tied", .none)],hw.mono λ j hj=>e3 j _ hj (.inl rfl) nofun,?_,?_⟩,?_⟩) (λ r hr hr' p d=> ?_) rfl).elim λ own' z=>hq own' _ z.1 z.2.2
 ·rw [setTh_same];exact ⟨.obj a,⟨a,rfl,e2⟩,rfl⟩
 ·rw [setTh_same];rfl
 ·unfold Desc;dsimp only;rw [setTh_same];exact ⟨[],rfl, .nil⟩
 ·exact d.setTh_c hr rfl hr'
theorem wp_setTab (R:Rep K own σ μ) (h:at_ own v (.thing n)) {a:Nat} {es:List (String × Nat)} (hc:(σ.th n).c= .h es) (hlk:σ.lkT n=false) (ha:own a= .nw (.dS false [])) (hn:n≤σ.last) (hq: ∀ own' μ',Ext own own'→Rep K own' (σ.setTh n {σ.th n with c:= .h []}) μ'→Q () μ'):wp (setA v "table" (.obj a)) Q μ:=by
 obtain ⟨i,w,l,rfl,hi,hw,ht,e⟩:=R.thing h
 rw [hc] at ht e
 obtain ⟨y,hy,rfl⟩:=ht
 refine wp_of (setA_eq e (by simp [Cont.cl,Cl.fields]) (by simp)) ?_
 refine (R.move (σ':=σ.setTh n {σ.th n with c:= .h []}) hi rfl ha (ρ:= .cont n) rfl nofun (λ r=>by cases r <;> simp) ⟨hn,Nat.zero_le _⟩ ⟨rfl,rfl⟩ noref_cont (λ own' e1 e2 e3=>⟨⟨w,[("table", .obj a),("at", .int 0),("tied", .none)],hw.mono λ j hj=>e3 j _ hj (.inl rfl) nofun,?_,?_⟩,?_⟩) (λ r hr hr' p d=> ?_) rfl).elim λ own' z=>hq own' _ z.1 z.2.2
 ·rw [setTh_same];exact ⟨.obj a,⟨a,rfl,e2⟩,rfl⟩
 ·rw [setTh_same];rfl
 ·unfold Desc;dsimp only;rw [setTh_same];exact ⟨[],by rw [show (σ.setTh n {σ.th n with c:= .h []}).lkT n=false from hlk], .nil⟩
 ·exact d.setTh_c hr rfl hr'
theorem Rep.heap (R:Rep K own σ μ): ∃ x z,at_ own z .zero∧μ[K.heap]? =some (.inst .heap [("limits",x),("last", .int σ.last),("zero",z)]):=by
 obtain ⟨o,e,x,z,a,rfl⟩:=R.at' R.kH nofun;exact ⟨x,z,a,e⟩
theorem Rep.counter (R:Rep K own σ μ):μ[K.counter]? =some (.inst .counter [("heap", .obj K.heap),("destroy", .dstr),("places", .obj K.places)]):=by
 obtain ⟨o,e,rfl⟩:=R.at' R.kC nofun;exact e
theorem wp_zero (R:Rep K own σ μ) (hq: ∀ z,at_ own z .zero→QV z μ):wp (getA (.obj K.heap) "zero") QV μ:=by
 obtain ⟨x,z,a,e⟩:=R.heap;exact wp_of (getA_eq e rfl) (hq z a)
theorem wp_last (R:Rep K own σ μ):wp (getA (.obj K.heap) "last") QV μ=QV (.int σ.last) μ:=by
 obtain ⟨x,z,a,e⟩:=R.heap;exact wp_eq (getA_eq e rfl)
theorem wp_setLast (R:Rep K own σ μ) {m:Nat} (hm:σ.last≤m) (hq: ∀ μ',Rep K own {σ with last:=m} μ'→Q () μ'):wp (setA (.obj K.heap) "last" (.int m)) Q μ:=by
 obtain ⟨x,z,a,e⟩:=R.heap
 refine wp_of (setA_eq e (by decide) (by simp)) (hq _ ?_)
 exact R.set (σ':= {σ with last:=m}) R.kH rfl ⟨hm,Nat.le_refl _⟩ ⟨x,z,a,rfl⟩ λ r hr o d=>by cases r <;> first | exact d | exact absurd rfl hr
theorem wp_cHeap (R:Rep K own σ μ):wp (getA (.obj K.counter) "heap") QV μ=QV (.obj K.heap) μ:=wp_eq (getA_eq R.counter rfl)
theorem wp_cDestroy (R:Rep K own σ μ):wp (getA (.obj K.counter) "destroy") QV μ=QV .dstr μ:=wp_eq (getA_eq R.counter rfl)
theorem wp_cPlaces (R:Rep K own σ μ):wp (getA (.obj K.counter) "places") QV μ=QV (.obj K.places) μ:=wp_eq (getA_eq R.counter rfl)
theorem wp_chkC (R:Rep K own σ μ):wp (chk (.obj K.counter) .counter) Q μ=Q () μ:=wp_eq (chk_eq R.counter)
theorem wp_chkH (R:Rep K own σ μ):wp (chk (.obj K.heap) .heap) Q μ=Q () μ:=by obtain ⟨x,z,a,e⟩:=R.heap;exact wp_eq (chk_eq e)
theorem Rep.places (R:Rep K own σ μ):μ[K.places]? =some (.dI false []):=by
 obtain ⟨o,e,rfl⟩:=R.at' R.kP nofun;exact e
theorem wp_chkP (R:Rep K own σ μ):wp (chkD (.obj K.places)) Q μ=Q () μ:=wp_eq (by simp [chkD,bd,rd,R.places,rt])
theorem wp_popP (R:Rep K own σ μ) {k:Int} {y:AV}:wp (dpop2 (.obj K.places) (.int k) y) QV μ=QV y μ:=wp_eq (by simp [dpop2,bd,getK_dI R.places,get,rt])
theorem Rep.zeroL (R:Rep K own σ μ) {z:AV} (h:at_ own z .zero): ∃ i vs,z= .obj i∧own i= .zero∧Things own vs σ.zero∧μ[i]? =some (.list vs):=by
 obtain ⟨i,rfl,h⟩:=h
 obtain ⟨o,e,vs,rfl,d⟩:=R.at' h nofun
 exact ⟨i,vs,rfl,h,d,e⟩
theorem wp_chkLzero (R:Rep K own σ μ) {z:AV} (h:at_ own z .zero):wp (chkL z) Q μ=Q () μ:=by
 obtain ⟨i,vs,rfl,_,_,e⟩:=R.zeroL h;exact wp_eq (chkL_eq e)
theorem wp_lenZero (R:Rep K own σ μ) {z:AV} (h:at_ own z .zero):wp (lenM z) QV μ=QV (.int σ.zero.length) μ:=by
 obtain ⟨i,vs,rfl,_,ht,e⟩:=R.zeroL h
 exact wp_eq (by simp [lenM,bd,rdL_eq e,rt,ht.len])
theorem wp_appZero (R:Rep K own σ μ) {z x:AV} {m:Nat} (h:at_ own z .zero) (hx:at_ own x (.thing m)) (hl:σ.zero.length < big) (hq: ∀ μ',Rep K own {σ with zero:=σ.zero ++ [m]} μ'→QV .none μ'):wp (appL z x) QV μ:=by
 obtain ⟨i,vs,rfl,hi,ht,e⟩:=R.zeroL h
 refine wp_of (appL_eq e (by rw [ht.len];exact hl)) (hq _ ?_)
 exact R.set (σ':= {σ with zero:=σ.zero ++ [m]}) hi rfl ⟨Nat.le_refl _,Nat.le_refl _⟩ ⟨_,rfl,ht.snoc hx⟩ λ r hr o d=>by cases r <;> first | exact d | exact absurd rfl hr
theorem wp_setZero (R:Rep K own σ μ) {a:Nat} {vs:List AV} {ns:List Nat} (ha:own a= .nw (.list vs)) (hv:Things own vs ns) (hq: ∀ own' μ',Ext own own'→Rep K own' {σ with zero:=ns} μ'→Q () μ'):wp (setA (.obj K.heap) "zero" (.obj a)) Q μ:=by
 obtain ⟨x,z,hz,e⟩:=R.heap
 refine wp_of (setA_eq e (by decide) (by simp)) ?_
 refine (R.move (σ':= {σ with zero:=ns}) R.kH rfl ha (ρ:= .zero) rfl nofun (λ r=>by cases r <;> simp) ⟨Nat.zero_le _,Nat.zero_le _⟩ ⟨rfl,rfl⟩ noref_zero (λ own' e1 e2 e3=>⟨⟨x, .obj a,⟨a,rfl,e2⟩,rfl⟩,⟨vs,rfl,hv.ext e1⟩⟩) (λ r hr hr' p d=> ?_) rfl).elim λ own' z=>hq own' _ z.1 z.2.2
 cases r <;> first | exact d | exact absurd rfl hr'
end
end
section
variable {K:Ad} {own own':Own} {σ σ':S} {μ:Mem} {α:Type}
def But (i:Nat) (own own':Own):Prop:= ∀ j,j≠i→own' j=own j
theorem noJ: ∀ r r',Refs r r'→r'≠ .junk∧ ∀ o,r'≠ .nw o:=λ r r' h=>by
 cases r with
 | thing m=>rcases h with q | q | ⟨_,q⟩ | ⟨_,q⟩ <;> subst q <;> simp
 | heap=>cases h;simp
 | world=>obtain ⟨_,rfl⟩:=h;simp
 | real=>obtain ⟨_,rfl⟩:=h;simp
 | zero=>obtain ⟨_,rfl⟩:=h;simp
 | weak _=>obtain ⟨_,rfl⟩:=h;simp
 | cont _=>obtain ⟨_,rfl⟩:=h;simp
 | row _=>rcases h with q | ⟨_,q⟩ <;> subst q <;> simp
 | inn _=>obtain ⟨_,rfl⟩:=h;simp
 | _=>exact h.elim
theorem Rep.promote (R:Rep K own σ μ) {i:Nat} {r:Role} {o:AO} (hi:own i= .nw o) (hr:r.once=true) (hfresh: ∀ j,own j≠r) (hnum:r.num≤σ.last∧r.rnum≤σ.lastRow) (hd:Desc K (up own i r) σ r o):Rep K (up own i r) σ μ:=by
 have st: ∀ j r',own j=r'→(∀ o,r'≠ .nw o)→up own i r j=r':=λ j r' h hn=>by
  by_cases q:j=i
  ·subst q;exact absurd (h.symm.trans hi) (hn _)
  ·rw [up_ne q];exact h
 have hlt:i < μ.length:=by
  rcases Nat.lt_or_ge i μ.length with h' | h'
  ·exact h'
  ·have:=R.len i h';rw [hi] at this;cases this
 refine {len:=λ j hj=> ?_,desc:=λ j p e=> ?_,uniq:=λ j k h ho=> ?_,bnd:=λ j=> ?_,kH:=st _ _ R.kH nofun,kC:=st _ _ R.kC nofun,kP:=st _ _ R.kP nofun,kW:=st _ _ R.kW nofun,kR:=st _ _ R.kR nofun,kO:=st _ _ R.kO nofun,kL:=st _ _ R.kL nofun,kE:=st _ _ R.kE nofun,kB:=st _ _ R.kB nofun}
 ·rw [up_ne (by omega)];exact R.len j hj
 ·by_cases q:j=i
  ·subst q
   have:=R.desc j p e
   rw [hi] at this
   rw [up_same,show p=o from this]
   exact hd
  ·rw [up_ne q]
   exact (R.desc j p e).own_mono λ k r' h h'=>st k r' h (noJ _ _ h').2
 ·by_cases q:j=i
  ·by_cases q':k=i
   ·rw [q,q']
   ·subst q;rw [up_same,up_ne q'] at h;exact absurd h.symm (hfresh k)
  ·by_cases q':k=i
   ·subst q';rw [up_same,up_ne q] at h;exact absurd h (hfresh j)
   ·rw [up_ne q,up_ne q'] at h
    rw [up_ne q] at ho
    exact R.uniq j k h ho
 ·by_cases q:j=i
  ·subst q;rw [up_same];exact hnum
  ·rw [up_ne q];exact R.bnd j
theorem Rep.same' (R:Rep K own σ μ) (hl:σ.last≤σ'.last∧σ.lastRow≤σ'.lastRow) (hs: ∀ i o,Desc K own σ (own i) o→Desc K own σ' (own i) o):Rep K own σ' μ :=
 {R with
  bnd:=λ j=>⟨Nat.le_trans (R.bnd j).1 hl.1,Nat.le_trans (R.bnd j).2 hl.2⟩
  desc:=λ j o e=>hs _ _ (R.desc j o e)}
def Fresh (own:Own) (n:Nat):Prop:= ∀ j,(own j).num < n
theorem Fresh.but {i n:Nat} (h:Fresh own (n+1)) (b:But i own own') (hi:(own' i).num=0):Fresh own' (n+1):=λ j=>by
 by_cases q:j=i
 ·rw [q,hi];exact Nat.succ_pos n
 ·rw [b j q];exact h j
section
variable {Q:AV→Mem→Prop} {QU:Unit→Mem→Prop} {QL:List AV→Mem→Prop}
theorem wp_alC (R:Rep K own σ μ) {o:AO} (r:Role) (hr:r= .im o∨r= .tm o∨r= .nw o) (hq: ∀ own' μ' a,Ext own own'→own' a=r→own a= .junk→But a own own'→Rep K own' σ μ'→Q (.obj a) μ'):wp (al o) Q μ:=by
 obtain ⟨h1,h2,h3⟩:=R.al hr
 exact wp_of rfl (hq _ _ _ h2 h3 (R.len _ (Nat.le_refl _)) (λ j hj=>up_ne hj) h1)
theorem wp_evs0:wp (evs []) QL μ=QL [] μ:=wp_rt
theorem wp_evs {m:M AV} {ms:List (M AV)}:wp (evs (m :: ms)) QL μ=wp m (λ a μ'=>wp (evs ms) (λ as μ''=>QL (a :: as) μ'') μ') μ:=by
 simp only [evs,wp_bd,wp_rt]
theorem wp_mkL {ms:List (M AV)}:wp (mkL ms) Q μ=wp (evs ms) (λ xs μ'=>wp (al (.list xs)) Q μ') μ:=wp_bd
theorem wp_mkT {ms:List (M AV)}:wp (mkT ms) Q μ=wp (evs ms) (λ xs μ'=>wp (al (.tup xs)) Q μ') μ:=wp_bd
theorem wp_new {c:Cl} {init:AV→M AV}:wp (new c init) Q μ=wp (al (.inst c [])) (λ o μ'=>wp (init o) (λ r μ''=>wp (if r= .none then rt o else fl) Q μ'') μ') μ:=by
 unfold new;simp only [wp_bd]
theorem wp_nwSetA (R:Rep K own σ μ) {i:Nat} {c:Cl} {fs:List (String × AV)} {f:String} {x:AV} (h:own i= .nw (.inst c fs)) (hf:f∈c.fields) (hl:fs.length < 100) (hq: ∀ own' μ',Ext own own'→own' i= .nw (.inst c (put f x fs))→But i own own'→Rep K own' σ μ'→QU () μ'):wp (setA (.obj i) f x) QU μ :=
 wp_of (setA_eq (R.nw h) hf hl) (hq _ _ (Ext.up (by rw [h];rfl)) up_same (λ j hj=>up_ne hj) (R.nwSet h))
theorem wp_ThingInit (R:Rep K own σ μ) {i:Nat} {c:Cl} {n:Nat} (hc:c= .scalar∨c= .array∨c= .hash) (h:own i= .nw (.inst c []))
  (hq: ∀ own' μ' w,Ext own own'→own' i= .nw (.inst c [("number", .int n),("count", .int 0),("blessed", .none),("weak", .obj w),("is_destroyed", .bool false),("is_freed", .bool false)])→own' w= .nw (.list [])→(∀ n,Fresh own (n+1)→Fresh own' (n+1))→Rep K own' σ μ'→Q .none μ') :
  wp (f_Thing_init (.obj i) (.int n)) Q μ:=by
 have hf: ∀ f∈["number","count","blessed","weak","is_destroyed","is_freed"],f∈c.fields:=λ f hf=>by rcases hc with rfl | rfl | rfl <;> simp [Cl.fields] at hf ⊢ <;> rcases hf with rfl | rfl | rfl | rfl | rfl | rfl <;> simp
 unfold f_Thing_init f_Thing_init_b
 simp only [wp_fin,wp_bd,wp_rt,wp_mkL,wp_evs0,finQ_nxt]
 refine wp_nwSetA R h (hf _ (by simp)) (by simp) λ own1 μ1 e1 h1 b1 R1=> ?_
 refine wp_nwSetA R1 h1 (hf _ (by simp)) (by simp [put]) λ own2 μ2 e2 h2 b2 R2=> ?_
 refine wp_nwSetA R2 h2 (hf _ (by simp)) (by simp [put]) λ own3 μ3 e3 h3 b3 R3=> ?_
 refine wp_alC R3 (.nw (.list [])) (by simp) λ own4 μ4 w e4 hw j4 b4 R4=> ?_
 have hwi:w≠i:=λ q=>by rw [q,h3] at j4;cases j4
 refine wp_nwSetA R4 ((b4 i hwi.symm).trans h3) (hf _ (by simp)) (by simp [put]) λ own5 μ5 e5 h5 b5 R5=> ?_
 refine wp_nwSetA R5 h5 (hf _ (by simp)) (by simp [put]) λ own6 μ6 e6 h6 b6 R6=> ?_
 refine wp_nwSetA R6 h6 (hf _ (by simp)) (by simp [put]) λ own7 μ7 e7 h7 b7 R7=> ?_
 refine hq own7 μ7 w ((((((e1.trans e2).trans e3).trans e4).trans e5).trans e6).trans e7) (by rw [h7];simp [put]) ?_ (λ m hm=> ?_) R7
 ·rw [b7 w hwi,b6 w hwi,b5 w hwi];exact hw
 ·exact (((((((hm.but b1 (by rw [h1];rfl)).but b2 (by rw [h2];rfl)).but b3 (by rw [h3];rfl)).but b4 (by rw [hw];rfl)).but b5 (by rw [h5];rfl)).but b6 (by rw [h6];rfl)).but b7 (by rw [h7];rfl))
theorem Rep.born (R:Rep K own σ μ) {n i w:Nat} {c:Cont} {l:List (String × AV)} (hf:Fresh own n) (hn:n≤σ.last)
  (hi:own i= .nw (.inst c.cl (("number", .int n) :: ("count", .int 0) :: ("blessed", .none) :: ("weak", .obj w) :: ("is_destroyed", .bool false) :: ("is_freed", .bool false) :: l))) (hw:own w= .nw (.list []))
  (hlk:σ.lkT n=false) (ht:(∃ v x,c= .s v∧VT own v x∧l=[("value",x),("magic", .none)])∨(∃ k,c= .a []∧k≠w∧own k= .nw (.list [])∧l=[("items", .obj k),("tied", .none)])∨(∃ k,c= .h []∧own k= .nw (.dS false [])∧l=[("table", .obj k),("at", .int 0),("tied", .none)])) :
  ∃ own',Ext own own'∧own' i= .thing n∧Rep K own' (σ.setTh n ⟨c,0,false,false,false,[]⟩) μ:=by
 have fr: ∀ {r:Role},r.num=n→ ∀ j,own j≠r:=λ hr j q=>by have:=hf j;rw [q,hr] at this;omega
 have hiw:i≠w:=λ q=>by rw [q,hw] at hi;cases hi
 let σ1:=σ.setTh n ⟨c,0,false,false,false,[]⟩
 have R1:Rep K own σ1 μ:=R.same' ⟨Nat.le_refl _,Nat.le_refl _⟩ λ j o d=>d.setTh (λ q=>fr rfl j q) (λ q=>absurd q (fr rfl j)) λ q=>absurd q (fr rfl j)
 have R2:Rep K (up own w (.weak n)) σ1 μ:=R1.promote hw rfl (fr rfl) ⟨hn,Nat.zero_le _⟩ ⟨[],rfl,by rw [show σ1.th n=⟨c,0,false,false,false,[]⟩ from setTh_same];exact .nil⟩
 have E2:Ext own (up own w (.weak n)):=Ext.up (by rw [hw];rfl)
 have hi2:up own w (.weak n) i=own i:=up_ne hiw
 have hw2:up own w (.weak n) w= .weak n:=up_same
 have fin: ∀ own3,Ext own own3→own3 i=own i→own3 w= .weak n→Rep K own3 σ1 μ→(∀ j,own3 j≠ .thing n)→(∀ own4,Ext own3 own4→own4=up own3 i (.thing n)→Tail own4 n c l)→ ∃ own',Ext own own'∧own' i= .thing n∧Rep K own' (σ.setTh n ⟨c,0,false,false,false,[]⟩) μ:=by
  intro own3 e3 i3 w3 R3 f3 t3
  have e4:Ext own3 (up own3 i (.thing n)):=Ext.up (by rw [i3,hi];rfl)
  refine ⟨up own3 i (.thing n),e3.trans e4,up_same,R3.promote (i3.trans hi) rfl f3 ⟨hn,Nat.zero_le _⟩ ⟨.obj w,l,⟨w,rfl,by rw [up_ne hiw.symm];exact w3⟩,?_,?_⟩⟩
  ·rw [show σ1.th n=⟨c,0,false,false,false,[]⟩ from setTh_same];exact t3 _ e4 rfl
  ·rw [show σ1.th n=⟨c,0,false,false,false,[]⟩ from setTh_same];rfl
 have f2: ∀ j,up own w (.weak n) j≠ .thing n:=λ j q=>by
  by_cases z:j=w
  ·rw [z,up_same] at q;cases q
  ·rw [up_ne z] at q;exact fr rfl j q
 have f2c: ∀ j,up own w (.weak n) j≠ .cont n:=λ j q=>by
  by_cases z:j=w
  ·rw [z,up_same] at q;cases q
  ·rw [up_ne z] at q;exact fr rfl j q
 rcases ht with ⟨v,x,rfl,hx,rfl⟩ | ⟨k,rfl,hkw,hk,rfl⟩ | ⟨k,rfl,hk,rfl⟩
 ·exact fin _ E2 hi2 hw2 R2 f2 λ own4 e4 _=>⟨x,(hx.ext E2).ext e4,rfl⟩
 ·have hki:k≠i:=λ q=>by rw [q,hi] at hk;cases hk
  have hk2:up own w (.weak n) k= .nw (.list []):=by rw [up_ne hkw];exact hk
  have R3:=R2.promote (r:= .cont n) hk2 rfl f2c ⟨hn,Nat.zero_le _⟩ (by unfold Desc;dsimp only;rw [show σ1.th n=⟨.a [],0,false,false,false,[]⟩ from setTh_same];exact ⟨[],rfl, .nil⟩)
  refine fin _ (E2.trans (Ext.up (by rw [hk2];rfl))) (by rw [up_ne hki.symm];exact hi2) (by rw [up_ne hkw.symm];exact hw2) R3 (λ j q=> ?_) λ own4 e4 q=>⟨.obj k,⟨k,rfl,by rw [q,up_ne hki,up_same]⟩,rfl⟩
  by_cases z:j=k
  ·rw [z,up_same] at q;cases q
  ·rw [up_ne z] at q;exact f2 j q
 ·have hki:k≠i:=λ q=>by rw [q,hi] at hk;cases hk
  have hkw:k≠w:=λ q=>by rw [q,hw] at hk;cases hk
  have hk2:up own w (.weak n) k= .nw (.dS false []):=by rw [up_ne hkw];exact hk
  have R3:=R2.promote (r:= .cont n) hk2 rfl f2c ⟨hn,Nat.zero_le _⟩ (by unfold Desc;dsimp only;rw [show σ1.th n=⟨.h [],0,false,false,false,[]⟩ from setTh_same];exact ⟨[],by rw [show σ1.lkT n=false from hlk], .nil⟩)
  refine fin _ (E2.trans (Ext.up (by rw [hk2];rfl))) (by rw [up_ne hki.symm];exact hi2) (by rw [up_ne hkw.symm];exact hw2) R3 (λ j q=> ?_) λ own4 e4 q=>⟨.obj k,⟨k,rfl,by rw [q,up_ne hki,up_same]⟩,rfl⟩
  by_cases z:j=k
  ·rw [z,up_same] at q;cases q
  ·rw [up_ne z] at q;exact f2 j q
theorem wp_newRef (R:Rep K own σ μ) {t:AV} {m:Nat} {b:Bool} (ht:at_ own t (.thing m)) (hq: ∀ own' μ' x,Ext own own'→VT own' (if b then .weak m else .ref m) x→Rep K own' σ μ'→Q x μ'):wp (new .ref λ o=>f_Ref_init o t (.bool b)) Q μ:=by
 unfold f_Ref_init f_Ref_init_b
 simp only [wp_new,wp_fin,wp_bd,wp_rt,finQ_nxt,if_true]
 refine wp_alC R (.nw (.inst .ref [])) (by simp) λ own1 μ1 i e1 h1 j1 b1 R1=> ?_
 refine wp_nwSetA R1 h1 (by decide) (by simp) λ own2 μ2 e2 h2 b2 R2=> ?_
 refine wp_nwSetA R2 h2 (by decide) (by simp [put]) λ own3 μ3 e3 h3 b3 R3=> ?_
 have e4:Ext own3 (up own3 i (.im (.inst .ref [("target",t),("is_weak", .bool b)]))):=Ext.up (by rw [h3];rfl)
 have h3':own3 i= .nw (.inst .ref [("target",t),("is_weak", .bool b)]):=h3
 have R4:=R3.nwTo h3' (.inl rfl)
 have ee:=((e1.trans e2).trans e3).trans e4
 refine hq _ _ _ ee ?_ R4
 cases b
 ·exact ⟨i,_,rfl,up_same,t,ht.th ee,rfl⟩
 ·exact ⟨i,_,rfl,up_same,t,ht.th ee,rfl⟩
theorem wp_next (R:Rep K own σ μ) (hq: ∀ μ',Fresh own (σ.last+1)→Rep K own {σ with last:=σ.last+1} μ'→Q (.int ((σ.last+1:Nat):Int)) μ'):wp (f_Heap_next_number (.obj K.heap)) Q μ:=by
 unfold f_Heap_next_number f_Heap_next_number_b
 simp only [wp_fin,wp_bd,wp_rt,wp_last R,wp_iadd,finQ_ret]
 refine wp_setLast (m:=σ.last+1) R (by omega) λ μ' R'=> ?_
 simp only [wp_last R']
 exact hq μ' (λ j=>Nat.lt_succ_of_le (R.bnd j).1) R'
def newTh (c:Cont):Th:=⟨c,0,false,false,false,[]⟩
def S.fresh (σ:S) (c:Cont):S:= {σ with last:=σ.last+1}.setTh (σ.last+1) (newTh c)
theorem wp_newScalar (R:Rep K own σ μ) {x:AV} {pv:PV} (hx:VT own pv x) (hlk: ∀ n,σ.lkT n=false) (hq: ∀ own' μ' v,Ext own own'→at_ own' v (.thing (σ.last+1))→Rep K own' (σ.fresh (.s pv)) μ'→Q v μ'):wp (f_Heap_new_scalar (.obj K.heap) x) Q μ:=by
 unfold f_Heap_new_scalar f_Heap_new_scalar_b f_Scalar_init f_Scalar_init_b
 simp only [wp_fin,wp_bd,wp_rt,finQ_ret,wp_chkH R]
 refine wp_next R λ μ1 hf R1=> ?_
 simp only [wp_new,wp_fin,wp_bd,wp_rt,finQ_nxt,if_true]
 refine wp_alC R1 (.nw (.inst .scalar [])) (by simp) λ own2 μ2 i e2 h2 j2 b2 R2=> ?_
 refine wp_ThingInit R2 (by simp) h2 λ own3 μ3 w e3 h3 hw b3 R3=> ?_
 refine wp_nwSetA R3 h3 (by decide) (by simp) λ own4 μ4 e4 h4 b4 R4=> ?_
 refine wp_nwSetA R4 h4 (by decide) (by simp [put]) λ own5 μ5 e5 h5 b5 R5=> ?_
 have hwi:w≠i:=λ q=>by rw [q,h3] at hw;cases hw
 have ee:=((e2.trans e3).trans e4).trans e5
 have hw5:own5 w= .nw (.list []):=by rw [b5 w hwi,b4 w hwi];exact hw
 have hf5:Fresh own5 (σ.last+1):=((b3 _ (hf.but b2 (by rw [h2];rfl))).but b4 (by rw [h4];rfl)).but b5 (by rw [h5];rfl)
 obtain ⟨own6,e6,h6,R6⟩:=R5.born (c:= .s pv) (n:=σ.last+1) hf5 (Nat.le_refl _) (by rw [h5];simp [put];rfl) hw5 (hlk _) (.inl ⟨pv,x,rfl,hx.ext ee,rfl⟩)
 exact hq own6 _ _ (ee.trans e6) ⟨i,rfl,h6⟩ R6
theorem wp_newArray (R:Rep K own σ μ) (hlk: ∀ n,σ.lkT n=false) (hq: ∀ own' μ' v,Ext own own'→at_ own' v (.thing (σ.last+1))→Rep K own' (σ.fresh (.a [])) μ'→Q v μ'):wp (f_Heap_new_array (.obj K.heap)) Q μ:=by
 unfold f_Heap_new_array f_Heap_new_array_b f_Array_init f_Array_init_b
 simp only [wp_fin,wp_bd,wp_rt,finQ_ret,wp_chkH R]
 refine wp_next R λ μ1 hf R1=> ?_
 simp only [wp_new,wp_fin,wp_bd,wp_rt,finQ_nxt,if_true,wp_mkL,wp_evs0]
 refine wp_alC R1 (.nw (.inst .array [])) (by simp) λ own2 μ2 i e2 h2 j2 b2 R2=> ?_
 refine wp_ThingInit R2 (by simp) h2 λ own3 μ3 w e3 h3 hw b3 R3=> ?_
 refine wp_alC R3 (.nw (.list [])) (by simp) λ own3' μ3' k e3' hk j3 b3' R3'=> ?_
 have hwi:w≠i:=λ q=>by rw [q,h3] at hw;cases hw
 have hki:k≠i:=λ q=>by rw [q,h3] at j3;cases j3
 have hkw:k≠w:=λ q=>by rw [q,hw] at j3;cases j3
 refine wp_nwSetA R3' ((b3' i hki.symm).trans h3) (by decide) (by simp) λ own4 μ4 e4 h4 b4 R4=> ?_
 refine wp_nwSetA R4 h4 (by decide) (by simp [put]) λ own5 μ5 e5 h5 b5 R5=> ?_
 have ee:=(((e2.trans e3).trans e3').trans e4).trans e5
 have hw5:own5 w= .nw (.list []):=by rw [b5 w hwi,b4 w hwi,b3' w hkw.symm];exact hw
 have hk5:own5 k= .nw (.list []):=by rw [b5 k hki,b4 k hki];exact hk
 have hf5:Fresh own5 (σ.last+1):=(((b3 _ (hf.but b2 (by rw [h2];rfl))).but b3' (by rw [hk];rfl)).but b4 (by rw [h4];rfl)).but b5 (by rw [h5];rfl)
 obtain ⟨own6,e6,h6,R6⟩:=R5.born (c:= .a []) (n:=σ.last+1) hf5 (Nat.le_refl _) (by rw [h5];simp [put];rfl) hw5 (hlk _) (.inr (.inl ⟨k,rfl,hkw,hk5,rfl⟩))
 exact hq own6 _ _ (ee.trans e6) ⟨i,rfl,h6⟩ R6
theorem wp_newHash (R:Rep K own σ μ) (hlk: ∀ n,σ.lkT n=false) (hq: ∀ own' μ' v,Ext own own'→at_ own' v (.thing (σ.last+1))→Rep K own' (σ.fresh (.h [])) μ'→Q v μ'):wp (f_Heap_new_hash (.obj K.heap)) Q μ:=by
 unfold f_Heap_new_hash f_Heap_new_hash_b f_Hash_init f_Hash_init_b
 simp only [wp_fin,wp_bd,wp_rt,finQ_ret,wp_chkH R]
 refine wp_next R λ μ1 hf R1=> ?_
 simp only [wp_new,wp_fin,wp_bd,wp_rt,finQ_nxt,if_true]
 refine wp_alC R1 (.nw (.inst .hash [])) (by simp) λ own2 μ2 i e2 h2 j2 b2 R2=> ?_
 refine wp_ThingInit R2 (by simp) h2 λ own3 μ3 w e3 h3 hw b3 R3=> ?_
 refine wp_alC R3 (.nw (.dS false [])) (by simp) λ own3' μ3' k e3' hk j3 b3' R3'=> ?_
 have hwi:w≠i:=λ q=>by rw [q,h3] at hw;cases hw
 have hki:k≠i:=λ q=>by rw [q,h3] at j3;cases j3
 have hkw:k≠w:=λ q=>by rw [q,hw] at j3;cases j3
 refine wp_nwSetA R3' ((b3' i hki.symm).trans h3) (by decide) (by simp) λ own4 μ4 e4 h4 b4 R4=> ?_
 refine wp_nwSetA R4 h4 (by decide) (by simp [put]) λ own5 μ5 e5 h5 b5 R5=> ?_
 refine wp_nwSetA R5 h5 (by decide) (by simp [put]) λ own5' μ5' e5' h5' b5' R5'=> ?_
 have ee:=((((e2.trans e3).trans e3').trans e4).trans e5).trans e5'
 have hw5:own5' w= .nw (.list []):=by rw [b5' w hwi,b5 w hwi,b4 w hwi,b3' w hkw.symm];exact hw
 have hk5:own5' k= .nw (.dS false []):=by rw [b5' k hki,b5 k hki,b4 k hki];exact hk
 have hf5:Fresh own5' (σ.last+1):=((((b3 _ (hf.but b2 (by rw [h2];rfl))).but b3' (by rw [hk];rfl)).but b4 (by rw [h4];rfl)).but b5 (by rw [h5];rfl)).but b5' (by rw [h5'];rfl)
 obtain ⟨own6,e6,h6,R6⟩:=R5'.born (c:= .h []) (n:=σ.last+1) hf5 (Nat.le_refl _) (by rw [h5'];simp [put];rfl) hw5 (hlk _) (.inr (.inr ⟨k,rfl,hk5,rfl⟩))
 exact hq own6 _ _ (ee.trans e6) ⟨i,rfl,h6⟩ R6
end
end
section
variable {ρ:Type} {μ:Mem}
def loopQ (P:List AV→ρ→Mem→Prop) (xs:List AV) (r:ρ):Fl ρ→Mem→Prop:=λ f μ'=>match f with
 | .nxt r'=>P xs r' μ'
 | .cnt=>P xs r μ'
 | .ret _=>False
theorem loopQ_nxt {P:List AV→ρ→Mem→Prop} {xs:List AV} {r r':ρ}:loopQ P xs r (.nxt r') μ=P xs r' μ:=rfl
theorem loopQ_cnt {P:List AV→ρ→Mem→Prop} {xs:List AV} {r:ρ}:loopQ P xs r .cnt μ=P xs r μ:=rfl
theorem wp_goG {ck:M Unit} {body:ρ→AV→M (Fl ρ)} {P:List AV→ρ→Mem→Prop} {Q:Fl ρ→Mem→Prop} (hck: ∀ xs r μ,P xs r μ→ck μ=some ((),μ))
  (hstep: ∀ x xs r μ,P (x :: xs) r μ→wp (body r x) (loopQ P xs r) μ) (hend: ∀ r μ,P [] r μ→Q (.nxt r) μ): ∀ xs r μ,P xs r μ→wp (goG ck body xs r) Q μ:=by
 intro xs
 induction xs with
 | nil =>
  intro r μ h
  unfold goG
  rw [wp_bd,wp_eq (hck _ _ _ h),wp_rt]
  exact hend r μ h
 | cons x xs ih =>
  intro r μ h
  unfold goG
  rw [wp_bd,wp_eq (hck _ _ _ h),wp_bd]
  refine wp_mono (hstep x xs r μ h) λ f μ' h'=> ?_
  cases f with
  | nxt r'=>exact ih r' μ' h'
  | cnt=>exact ih r μ' h'
  | ret v=>exact h'.elim
theorem wp_goC {ck:M Unit} {test:AV→M Bool} {elt:AV→M AV} {P:List AV→List AV→Mem→Prop} {Q:List AV→Mem→Prop} (hck: ∀ xs acc μ,P xs acc μ→ck μ=some ((),μ))
  (hstep: ∀ x xs acc μ,P (x :: xs) acc μ→wp (test x) (λ b μ'=>if b then wp (elt x) (λ y μ''=>P xs (acc ++ [y]) μ'') μ' else P xs acc μ') μ) (hend: ∀ acc μ,P [] acc μ→Q acc μ): ∀ xs acc μ,P xs acc μ→wp (goC ck test elt xs acc) Q μ:=by
 intro xs
 induction xs with
 | nil =>
  intro acc μ h
  unfold goC
  rw [wp_bd,wp_eq (hck _ _ _ h),wp_rt]
  exact hend acc μ h
 | cons x xs ih =>
  intro acc μ h
  unfold goC
  rw [wp_bd,wp_eq (hck _ _ _ h),wp_bd]
  refine wp_mono (hstep x xs acc μ h) λ b μ' h'=> ?_
  cases b with
  | true =>
   simp only [if_true] at h' ⊢
   rw [wp_bd]
   exact wp_mono h' λ y μ'' h''=>ih _ _ h''
  | false=>exact ih _ _ h'
theorem ckO_eq {i:Nat} {o:AO} (h:μ[i]? =some o):ckO i o μ=some ((),μ):=by simp [ckO,bd,rd,h,rt]
theorem wp_walked {α:Type} {i:Nat} {o:AO} {m:M α} {Q:α→Mem→Prop} (hu:o.locked=false) (h:wp m (λ a μ'=>μ'[i]? =some o.lock∧Q a (μ'.set i o)) (μ.set i o.lock)):wp (walked i o m) Q μ:=by
 unfold walked
 simp only [hu,Bool.false_eq_true,if_false]
 simp only [wp_bd]
 refine wp_of rfl (wp_mono h λ a μ' h'=> ?_)
 obtain ⟨h1,h2⟩:=h'
 refine wp_of (show rd i μ'=some (o.lock,μ') by simp [rd,h1]) ?_
 simp only [if_true,wp_bd]
 exact wp_of rfl (wp_rt.mpr h2)
theorem wp_forL {G:ρ→Cx0} {i:Nat} {o:AO} {xs0:List AV} {r:ρ} {body:ρ→AV→M (Fl ρ)} {Q:Fl ρ→Mem→Prop} (P:List AV→ρ→Mem→Prop) (he:μ[i]? =some o) (hk:keysOf o=some xs0) (hu:o.locked=false) (h0:P xs0 r (μ.set i o.lock))
  (hin: ∀ xs r μ,P xs r μ→μ[i]? =some o.lock) (hstep: ∀ x xs r μ,P (x :: xs) r μ→wp (body r x) (loopQ P xs r) μ) (hend: ∀ r μ,P [] r μ→Q (.nxt r) (μ.set i o)):wp (forL G (.obj i) r body) Q μ:=by
 unfold forL
 simp only [wp_bd]
 refine wp_of (show rd i μ=some (o,μ) by simp [rd,he]) ?_
 rw [hk,wp_opt]
 exact wp_walked hu (wp_goG (λ xs r μ h=>ckO_eq (hin xs r μ h)) hstep (λ r μ h=>⟨hin _ _ _ h,hend r μ h⟩) _ _ _ h0)
theorem wp_forV {G:ρ→Cx0} {i:Nat} {o:AO} {xs0:List AV} {r:ρ} {body:ρ→AV→M (Fl ρ)} {Q:Fl ρ→Mem→Prop} (P:List AV→ρ→Mem→Prop) (he:μ[i]? =some o) (hk:valsOf o=some xs0) (hu:o.locked=false) (h0:P xs0 r (μ.set i o.lock))
  (hin: ∀ xs r μ,P xs r μ→μ[i]? =some o.lock) (hstep: ∀ x xs r μ,P (x :: xs) r μ→wp (body r x) (loopQ P xs r) μ) (hend: ∀ r μ,P [] r μ→Q (.nxt r) (μ.set i o)):wp (forV G (.obj i) r body) Q μ:=by
 unfold forV
 simp only [wp_bd]
 refine wp_of (show rd i μ=some (o,μ) by simp [rd,he]) ?_
 rw [hk,wp_opt]
 exact wp_walked hu (wp_goG (λ xs r μ h=>ckO_eq (hin xs r μ h)) hstep (λ r μ h=>⟨hin _ _ _ h,hend r μ h⟩) _ _ _ h0)
theorem wp_comp {G:AV→Cx0} {i:Nat} {o:AO} {xs0:List AV} {test:AV→M Bool} {elt:AV→M AV} {Q:AV→Mem→Prop} (P:List AV→List AV→Mem→Prop) (he:μ[i]? =some o) (hk:keysOf o=some xs0) (hu:o.locked=false) (hl:xs0.length≤big) (h0:P xs0 [] (μ.set i o.lock))
  (hin: ∀ xs acc μ,P xs acc μ→μ[i]? =some o.lock) (hstep: ∀ x xs acc μ,P (x :: xs) acc μ→wp (test x) (λ b μ'=>if b then wp (elt x) (λ y μ''=>P xs (acc ++ [y]) μ'') μ' else P xs acc μ') μ)
  (hend: ∀ acc μ,P [] acc μ→wp (al (.list acc)) Q (μ.set i o)):wp (comp G (.obj i) test elt) Q μ:=by
 unfold comp
 simp only [wp_bd]
 refine wp_of (show rd i μ=some (o,μ) by simp [rd,he]) ?_
 rw [hk,wp_opt]
 simp only [hl,if_true,wp_bd]
 exact wp_walked hu (wp_goC (λ xs r μ h=>ckO_eq (hin xs r μ h)) hstep (λ r μ h=>⟨hin _ _ _ h,hend r μ h⟩) _ _ _ h0)
theorem set_same {i:Nat} {o:AO} (h:μ[i]? =some o):μ.set i o=μ:=by
 apply List.ext_getElem?
 intro j
 by_cases q:i=j
 ·subst q
  rw [List.getElem?_set_self ((List.getElem?_eq_some_iff.mp h).1),h]
 ·rw [List.getElem?_set_ne q]
theorem wp_forLl {G:ρ→Cx0} {i:Nat} {xs0:List AV} {r:ρ} {body:ρ→AV→M (Fl ρ)} {Q:Fl ρ→Mem→Prop} (P:List AV→ρ→Mem→Prop) (he:μ[i]? =some (.list xs0)) (h0:P xs0 r μ)
  (hin: ∀ xs r μ,P xs r μ→μ[i]? =some (.list xs0)) (hstep: ∀ x xs r μ,P (x :: xs) r μ→wp (body r x) (loopQ P xs r) μ) (hend: ∀ r μ,P [] r μ→Q (.nxt r) μ):wp (forL G (.obj i) r body) Q μ :=
 wp_forL P he rfl rfl (by show P xs0 r (μ.set i (.list xs0));rw [set_same he];exact h0) hin hstep λ r μ h=>by rw [set_same (hin _ _ _ h)];exact hend r μ h
theorem wp_compL {G:AV→Cx0} {i:Nat} {xs0:List AV} {test:AV→M Bool} {elt:AV→M AV} {Q:AV→Mem→Prop} (P:List AV→List AV→Mem→Prop) (he:μ[i]? =some (.list xs0)) (hl:xs0.length≤big) (h0:P xs0 [] μ)
  (hin: ∀ xs acc μ,P xs acc μ→μ[i]? =some (.list xs0)) (hstep: ∀ x xs acc μ,P (x :: xs) acc μ→wp (test x) (λ b μ'=>if b then wp (elt x) (λ y μ''=>P xs (acc ++ [y]) μ'') μ' else P xs acc μ') μ)
  (hend: ∀ acc μ,P [] acc μ→wp (al (.list acc)) Q μ):wp (comp G (.obj i) test elt) Q μ :=
 wp_comp P he rfl rfl hl (by show P xs0 [] (μ.set i (.list xs0));rw [set_same he];exact h0) hin hstep λ r μ h=>by rw [set_same (hin _ _ _ h)];exact hend r μ h
theorem wp_compR {G:AV→Cx0} {i:Nat} {xs0:List AV} {test:AV→M Bool} {elt:AV→M AV} {Q:AV→Mem→Prop} (p:AV→Bool) (f:AV→AV) (he:μ[i]? =some (.list xs0)) (hl:xs0.length≤big)
  (hstep: ∀ x∈xs0,test x μ=some (p x,μ)∧(p x=true→elt x μ=some (f x,μ))) (hend:wp (al (.list ((xs0.filter p).map f))) Q μ):wp (comp G (.obj i) test elt) Q μ:=by
 refine wp_compL (λ xs acc μ'=>μ'=μ∧ ∃ ys,xs0=ys ++ xs∧acc=(ys.filter p).map f) he hl ⟨rfl,[],rfl,rfl⟩ (λ xs acc μ' h=>by rw [h.1];exact he) (λ x xs acc μ' h=> ?_) (λ acc μ' h=> ?_)
 ·obtain ⟨rfl,ys,e1,e2⟩:=h
  obtain ⟨h1,h2⟩:=hstep x (by rw [e1];simp)
  refine wp_of h1 ?_
  cases hp:p x with
  | true=>simp only [if_true];exact wp_of (h2 hp) ⟨rfl,ys ++ [x],by rw [e1];simp,by rw [e2];simp [hp]⟩
  | false=>exact ⟨rfl,ys ++ [x],by rw [e1];simp,by rw [e2];simp [hp]⟩
 ·obtain ⟨rfl,ys,e1,e2⟩:=h
  rw [List.append_nil] at e1
  subst e1
  rw [e2];exact hend
theorem wp_forR {G:ρ→Cx0} {n:Nat} {r:ρ} {body:ρ→AV→M (Fl ρ)} {Q:Fl ρ→Mem→Prop} (P:Nat→ρ→Mem→Prop) (hn:n≤1000) (h0:P 0 r μ) (hstep: ∀ j r μ,j < n→P j r μ→wp (body r (.int (Int.ofNat j))) (λ f μ'=>match f with | .nxt r'=>P (j+1) r' μ' | _=>False) μ) (hend: ∀ r μ,P n r μ→Q (.nxt r) μ):wp (forR G (.int n) r body) Q μ:=by
 unfold forR
 have:(0:Int)≤n∧(n:Int)≤1000:=by omega
 simp only [this,and_self,if_true]
 have hgo: ∀ (k j:Nat) (r:ρ) (μ:Mem),k+j=n→P j r μ→wp (goG (rt ()) body ((List.range' j k).map λ j:Nat=>AV.int (Int.ofNat j)) r) Q μ:=by
  intro k
  induction k with
  | zero =>
   intro j r μ e h
   simp only [List.range'_zero,List.map_nil]
   unfold goG
   rw [wp_bd,wp_rt,wp_rt]
   exact hend r μ (by rw [show n=j by omega];exact h)
  | succ k ih =>
   intro j r μ e h
   simp only [List.range'_succ,List.map_cons]
   unfold goG
   rw [wp_bd,wp_rt,wp_bd]
   refine wp_mono (hstep j r μ (by omega) h) λ f μ' h'=> ?_
   cases f with
   | nxt r'=>exact ih (j+1) r' μ' (by omega) h'
   | cnt=>exact h'.elim
   | ret v=>exact h'.elim
 rw [show ((n:Int)).toNat=n from rfl,List.range_eq_range']
 exact hgo n 0 r μ (by omega) h0
end
section
variable {K:Ad} {own own':Own} {σ σ':S} {μ:Mem} {α:Type}
variable {Q:Unit→Mem→Prop} {QV:AV→Mem→Prop} {v:AV} {n:Nat}
theorem Rep.real (R:Rep K own σ μ): ∃ es,μ[K.real]? =some (.dI σ.lkR es)∧L2 (λ e (n:Nat)=>e.1=(n:Int)∧at_ own e.2 (.thing n)) es σ.real:=by
 obtain ⟨o,e,es,rfl,d⟩:=R.at' R.kR nofun;exact ⟨es,e,d⟩
theorem Rep.world (R:Rep K own σ μ): ∃ es,μ[K.world]? =some (.dI σ.lkW es)∧L2 (λ e (n:Nat)=>e.1=(n:Int)∧at_ own e.2 (.row n)) es σ.wk:=by
 obtain ⟨o,e,es,rfl,d⟩:=R.at' R.kW nofun;exact ⟨es,e,d⟩
theorem get_keys {R:AV→Nat→Prop} {es:List (Int × AV)} {ns:List Nat} (h:L2 (λ e (n:Nat)=>e.1=(n:Int)∧R e.2 n) es ns) (n:Nat):(n∈ns→ ∃ x,get (n:Int) es=some x∧R x n)∧(n∉ns→get (n:Int) es=none):=by
 induction h with
 | nil=>exact ⟨λ h=>by simp at h,λ _=>rfl⟩
 | @cons a b as bs h1 h2 ih =>
  unfold get
  rw [h1.1]
  by_cases q:b=n
  ·subst q
   simp only [if_true]
   exact ⟨λ _=>⟨_,rfl,h1.2⟩,λ h=>absurd (List.mem_cons_self) h⟩
  ·have: ¬ (b:Int)=n:=by omega
   simp only [this,if_false]
   refine ⟨λ h=>ih.1 ?_,λ h=>ih.2 ?_⟩
   ·rcases List.mem_cons.mp h with rfl | h
    ·exact absurd rfl q
    ·exact h
   ·exact λ h'=>h (List.mem_cons_of_mem _ h')
theorem put_keys {R:AV→Nat→Prop} {es:List (Int × AV)} {ns:List Nat} (h:L2 (λ e (n:Nat)=>e.1=(n:Int)∧R e.2 n) es ns) {n:Nat} {x:AV} (hn:n∉ns) (hx:R x n):L2 (λ e (n:Nat)=>e.1=(n:Int)∧R e.2 n) (put (n:Int) x es) (ns ++ [n]):=by
 induction h with
 | nil=>exact .cons ⟨rfl,hx⟩ .nil
 | @cons a b as bs h1 h2 ih =>
  unfold put
  rw [h1.1]
  have q: ¬ b=n:=λ q=>hn (by simp [q])
  have: ¬ (b:Int)=n:=by omega
  simp only [this,if_false]
  exact .cons h1 (ih λ h=>hn (List.mem_cons_of_mem _ h))
theorem del_keys {R:AV→Nat→Prop} {es:List (Int × AV)} {ns:List Nat} (h:L2 (λ e (n:Nat)=>e.1=(n:Int)∧R e.2 n) es ns) {n:Nat}:L2 (λ e (n:Nat)=>e.1=(n:Int)∧R e.2 n) (del (n:Int) es) (ns.erase n):=by
 induction h with
 | nil=>exact .nil
 | @cons a b as bs h1 h2 ih =>
  unfold del
  rw [h1.1,List.erase_cons]
  by_cases q:b=n
  ·subst q
   simp only [if_true,beq_self_eq_true]
   exact h2
  ·have: ¬ (b:Int)=n:=by omega
   simp only [this,if_false,beq_eq_false_iff_ne.mpr q,Bool.false_eq_true]
   exact .cons h1 ih
theorem wp_getReal (R:Rep K own σ μ) (hn:n∈σ.real) (hq: ∀ v,at_ own v (.thing n)→QV v μ):wp (getI (.obj K.real) (.int n)) QV μ:=by
 obtain ⟨es,e,h⟩:=R.real
 obtain ⟨x,e1,e2⟩:=(get_keys (R:=λ v n=>at_ own v (.thing n)) h n).1 hn
 exact wp_of (a:=x) (by simp [getI,bd,rd,e,opt,e1,rt]) (hq x e2)
theorem wp_getWorld (R:Rep K own σ μ) (hn:n∈σ.wk) (hq: ∀ v,at_ own v (.row n)→QV v μ):wp (getI (.obj K.world) (.int n)) QV μ:=by
 obtain ⟨es,e,h⟩:=R.world
 obtain ⟨x,e1,e2⟩:=(get_keys (R:=λ v n=>at_ own v (.row n)) h n).1 hn
 exact wp_of (a:=x) (by simp [getI,bd,rd,e,opt,e1,rt]) (hq x e2)
theorem wp_ninWorld (R:Rep K own σ μ):wp (ninK (.int n) (.obj K.world)) QV μ=QV (.bool (decide (n∉σ.wk))) μ:=by
 obtain ⟨es,e,h⟩:=R.world
 obtain ⟨h1,h2⟩:=get_keys (R:=λ v n=>at_ own v (.row n)) h n
 refine wp_eq ?_
 unfold ninK bd
 rw [getK_dI e]
 by_cases q:n∈σ.wk
 ·obtain ⟨x,e1,_⟩:=h1 q
  simp [e1,q,rt]
 ·simp [h2 q,q,rt]
theorem wp_setReal (R:Rep K own σ μ) (hlk:σ.lkR=false) (hl:σ.real.length < big) (hn:n∉σ.real) {x:AV} (hx:at_ own x (.thing n)) (hq: ∀ μ',Rep K own {σ with real:=σ.real ++ [n]} μ'→Q () μ'):wp (setI (.obj K.real) (.int n) x) Q μ:=by
 obtain ⟨es,e,h⟩:=R.real
 rw [hlk] at e
 refine wp_of (μ':=μ.set K.real (.dI false (put (n:Int) x es))) (by simp [setI,bd,rd,e,show es.length < big by rw [h.len];exact hl,wr]) (hq _ ?_)
 exact R.set (σ':= {σ with real:=σ.real ++ [n]}) R.kR rfl ⟨Nat.le_refl _,Nat.le_refl _⟩ ⟨_,by rw [show ({σ with real:=σ.real ++ [n]}:S).lkR=false from hlk],put_keys (R:=λ v n=>at_ own v (.thing n)) h hn hx⟩ λ r hr o d=>by cases r <;> first | exact d | exact absurd rfl hr
theorem wp_popWorld (R:Rep K own σ μ) (hlk:σ.lkW=false) (hn:n∈σ.wk) (hq: ∀ x μ',Rep K own {σ with wk:=σ.wk.erase n} μ'→QV x μ'):wp (dpop1 (.obj K.world) (.int n)) QV μ:=by
 obtain ⟨es,e,h⟩:=R.world
 rw [hlk] at e
 obtain ⟨x,e1,e2⟩:=(get_keys (R:=λ v n=>at_ own v (.row n)) h n).1 hn
 refine wp_of (a:=x) (μ':=μ.set K.world (.dI false (del (n:Int) es))) (by simp [dpop1,delK,bd,getK_dI e,e1,rd,e,rt,wr]) (hq x _ ?_)
 exact R.set (σ':= {σ with wk:=σ.wk.erase n}) R.kW rfl ⟨Nat.le_refl _,Nat.le_refl _⟩ ⟨_,by rw [show ({σ with wk:=σ.wk.erase n}:S).lkW=false from hlk],del_keys (R:=λ v n=>at_ own v (.row n)) h⟩ λ r hr o d=>by cases r <;> first | exact d | exact absurd rfl hr
theorem wp_chkDW (R:Rep K own σ μ):wp (chkD (.obj K.world)) Q μ=Q () μ:=by obtain ⟨es,e,_⟩:=R.world;exact wp_eq (by simp [chkD,bd,rd,e,rt])
theorem Rep.row (R:Rep K own σ μ) {r:AV} (h:at_ own r (.row n)): ∃ i x,r= .obj i∧own i= .row n∧RTail own n (σ.row n).c x∧μ[i]? =some (.list [.str (σ.row n).c.kind, .bool (σ.row n).bl, .bool (σ.row n).ds,x]):=by
 obtain ⟨i,rfl,h⟩:=h
 obtain ⟨o,e,x,a,rfl⟩:=R.at' h nofun
 exact ⟨i,x,rfl,h,a,e⟩
theorem getI_list {i:Nat} {xs:List AV} {k:Nat} {x:AV} (e:μ[i]? =some (.list xs)) (h:xs[k]? =some x):getI (.obj i) (.int (k:Int)) μ=some (x,μ):=by
 have:(0:Int)≤(k:Int):=by omega
 simp only [getI,bd,rd,e,this,if_true]
 rw [show ((k:Int)).toNat=k from rfl,h];rfl
theorem getI_tup {i:Nat} {xs:List AV} {k:Nat} {x:AV} (e:μ[i]? =some (.tup xs)) (h:xs[k]? =some x):getI (.obj i) (.int (k:Int)) μ=some (x,μ):=by
 have:(0:Int)≤(k:Int):=by omega
 simp only [getI,bd,rd,e,this,if_true]
 rw [show ((k:Int)).toNat=k from rfl,h];rfl
theorem setI_list {i:Nat} {xs:List AV} {k:Nat} {x:AV} (e:μ[i]? =some (.list xs)) (h:k < xs.length):setI (.obj i) (.int (k:Int)) x μ=some ((),μ.set i (.list (xs.set k x))):=by
 have:(0:Int)≤(k:Int)∧((k:Int)).toNat < xs.length:=⟨by omega,by simpa using h⟩
 simp only [setI,bd,rd,e,this,and_self,if_true]
 rfl
theorem wp_row0 (R:Rep K own σ μ) {r:AV} (h:at_ own r (.row n)):wp (getI r (.int 0)) QV μ=QV (.str (σ.row n).c.kind) μ:=by
 obtain ⟨i,x,rfl,_,_,e⟩:=R.row h;exact wp_eq (getI_list (k:=0) e rfl)
theorem wp_row1 (R:Rep K own σ μ) {r:AV} (h:at_ own r (.row n)):wp (getI r (.int 1)) QV μ=QV (.bool (σ.row n).bl) μ:=by
 obtain ⟨i,x,rfl,_,_,e⟩:=R.row h;exact wp_eq (getI_list (k:=1) e rfl)
theorem wp_row2 (R:Rep K own σ μ) {r:AV} (h:at_ own r (.row n)):wp (getI r (.int 2)) QV μ=QV (.bool (σ.row n).ds) μ:=by
 obtain ⟨i,x,rfl,_,_,e⟩:=R.row h;exact wp_eq (getI_list (k:=2) e rfl)
theorem wp_row3 (R:Rep K own σ μ) {r:AV} (h:at_ own r (.row n)) (hq: ∀ x,RTail own n (σ.row n).c x→QV x μ):wp (getI r (.int 3)) QV μ:=by
 obtain ⟨i,x,rfl,_,a,e⟩:=R.row h;exact wp_of (getI_list (k:=3) e rfl) (hq x a)
theorem wp_setRow2 (R:Rep K own σ μ) {r:AV} (h:at_ own r (.row n)) {b:Bool} (hq: ∀ μ',Rep K own (σ.setRow n {σ.row n with ds:=b}) μ'→Q () μ'):wp (setI r (.int 2) (.bool b)) Q μ:=by
 obtain ⟨i,x,rfl,hi,a,e⟩:=R.row h
 refine wp_of (setI_list (k:=2) e (by simp)) (hq _ ?_)
 exact R.set hi rfl ⟨Nat.le_refl _,Nat.le_refl _⟩ ⟨x,by rw [setRow_same];exact a,by rw [setRow_same];rfl⟩ λ r hr o d=>d.setRow hr λ _=> .inl rfl
theorem wp_setRow3 (R:Rep K own σ μ) {r:AV} (h:at_ own r (.row n)) {pv pv':PV} (hc:(σ.row n).c= .s pv') {x:AV} (hx:VW own pv x) (hq: ∀ μ',Rep K own (σ.setRow n {σ.row n with c:= .s pv}) μ'→Q () μ'):wp (setI r (.int 3) x) Q μ:=by
 obtain ⟨i,y,rfl,hi,a,e⟩:=R.row h
 refine wp_of (setI_list (k:=3) e (by simp)) (hq _ ?_)
 exact R.set hi rfl ⟨Nat.le_refl _,Nat.le_refl _⟩ ⟨x,by rw [setRow_same];exact hx,by rw [setRow_same,hc];rfl⟩ λ r hr o d=>d.setRow hr λ _=> .inr ⟨_,hc⟩
end
section
variable {K:Ad} {own own':Own} {σ σ':S} {μ:Mem} {α:Type}
variable {Q:Unit→Mem→Prop} {QV:AV→Mem→Prop} {v:AV} {n:Nat}
theorem VW.tup (R:Rep K own σ μ) {pv:PV} {x:AV} (h:VW own pv x) {m:Nat} (ht:pv.tgt=some m): ∃ i,x= .obj i∧μ[i]? =some (.tup [.str (if pv.isWeak then "weak" else "ref"), .int m]):=by
 cases pv with
 | none=>cases ht
 | int i=>cases ht
 | ref k=>cases ht;obtain ⟨i,rfl,h2⟩:=h;exact ⟨i,rfl,R.im h2⟩
 | weak k=>cases ht;obtain ⟨i,rfl,h2⟩:=h;exact ⟨i,rfl,R.im h2⟩
theorem wp_isTup (R:Rep K own σ μ) {pv:PV} {x:AV} (h:VW own pv x):wp (isT x) QV μ=QV (.bool pv.isRef) μ:=by
 cases pv with
 | none=>cases h;exact wp_eq rfl
 | int i=>cases h;exact wp_eq rfl
 | ref k=>obtain ⟨i,rfl,e⟩:=VW.tup R h rfl;exact wp_eq (by simp [isT,bd,rd,e,rt,PV.isRef])
 | weak k=>obtain ⟨i,rfl,e⟩:=VW.tup R h rfl;exact wp_eq (by simp [isT,bd,rd,e,rt,PV.isRef])
theorem wp_tup1 (R:Rep K own σ μ) {pv:PV} {x:AV} (h:VW own pv x) {m:Nat} (ht:pv.tgt=some m):wp (getI x (.int 1)) QV μ=QV (.int m) μ:=by
 obtain ⟨i,rfl,e⟩:=VW.tup R h ht;exact wp_eq (getI_tup (k:=1) e rfl)
theorem wp_tup0 (R:Rep K own σ μ) {pv:PV} {x:AV} (h:VW own pv x) {m:Nat} (ht:pv.tgt=some m):wp (getI x (.int 0)) QV μ=QV (.str (if pv.isWeak then "weak" else "ref")) μ:=by
 obtain ⟨i,rfl,e⟩:=VW.tup R h ht;exact wp_eq (getI_tup (k:=0) e rfl)
theorem wp_newTup (R:Rep K own σ μ) {m:Nat} {b:Bool} (hq: ∀ own' μ' x,Ext own own'→VW own' (if b then .weak m else .ref m) x→Rep K own' σ μ'→QV x μ'):wp (al (.tup [.str (if b then "weak" else "ref"), .int m])) QV μ:=by
 refine wp_alC R (.im (tupO m b)) (by simp [tupO]) λ own1 μ1 i e1 h1 j1 b1 R1=>hq own1 μ1 _ e1 ?_ R1
 cases b
 ·exact ⟨i,rfl,h1⟩
 ·exact ⟨i,rfl,h1⟩
theorem Rep.innA (R:Rep K own σ μ) {x:AV} {xs:List Nat} (hc:(σ.row n).c= .a xs) (h:at_ own x (.inn n)): ∃ i,x= .obj i∧own i= .inn n∧μ[i]? =some (.list (nums xs)):=by
 obtain ⟨i,rfl,h⟩:=h
 obtain ⟨o,e,d⟩:=R.at' h nofun
 unfold Desc at d
 dsimp only at d
 rw [hc] at d
 cases d
 exact ⟨i,rfl,h,e⟩
theorem Rep.innH (R:Rep K own σ μ) {x:AV} {es:List (String × Nat)} (hc:(σ.row n).c= .h es) (h:at_ own x (.inn n)): ∃ i vs,x= .obj i∧own i= .inn n∧L2 (λ v e=>at_ own v (.im (pairO e))) vs es∧μ[i]? =some (.list vs):=by
 obtain ⟨i,rfl,h⟩:=h
 obtain ⟨o,e,d⟩:=R.at' h nofun
 unfold Desc at d
 dsimp only at d
 rw [hc] at d
 obtain ⟨vs,rfl,d⟩:=d
 exact ⟨i,vs,rfl,h,d,e⟩
theorem wp_chkLinn (R:Rep K own σ μ) {x:AV} (hc: ∀ v,(σ.row n).c≠ .s v) (h:at_ own x (.inn n)):wp (chkL x) Q μ=Q () μ:=by
 cases c:(σ.row n).c with
 | s v=>exact absurd c (hc v)
 | a xs=>obtain ⟨i,rfl,_,e⟩:=R.innA c h;exact wp_eq (chkL_eq e)
 | h es=>obtain ⟨i,vs,rfl,_,_,e⟩:=R.innH c h;exact wp_eq (chkL_eq e)
theorem Desc.rholder {n:Nat} {c:Cont} {o:AO} (hk:c.kind=(σ.row n).c.kind) (ht: ∀ l,RTail own n (σ.row n).c l→RTail own n c l) (d:Desc K own σ (.row n) o):Desc K own (σ.setRow n {σ.row n with c:=c}) (.row n) o:=by
 obtain ⟨w,b,rfl⟩:=d
 exact ⟨w,by rw [setRow_same];exact ht w b,by rw [setRow_same,← hk]⟩
theorem Rep.setInn (R:Rep K own σ μ) {i:Nat} {c:Cont} {o:AO} (hi:own i= .inn n) (hk:c.kind=(σ.row n).c.kind) (ht: ∀ l,RTail own n (σ.row n).c l→RTail own n c l) (hd:Desc K own (σ.setRow n {σ.row n with c:=c}) (.inn n) o):Rep K own (σ.setRow n {σ.row n with c:=c}) (μ.set i o):=by
 refine R.set hi rfl ⟨Nat.le_refl _,Nat.le_refl _⟩ hd λ r hr o d=> ?_
 by_cases q:r= .row n
 ·subst q;exact d.rholder hk ht
 ·exact d.setRow q λ q=>absurd q hr
theorem nums_app {xs:List Nat} {m:Nat}:nums xs ++ [.int m]=nums (xs ++ [m]):=by simp [nums]
theorem wp_appInnA (R:Rep K own σ μ) {x:AV} {xs:List Nat} {m:Nat} (hc:(σ.row n).c= .a xs) (h:at_ own x (.inn n)) (hl:xs.length < big) (hq: ∀ μ',Rep K own (σ.setRow n {σ.row n with c:= .a (xs ++ [m])}) μ'→QV .none μ'):wp (appL x (.int m)) QV μ:=by
 obtain ⟨i,rfl,hi,e⟩:=R.innA hc h
 refine wp_of (appL_eq e (by simpa [nums] using hl)) (hq _ ?_)
 refine R.setInn hi (by rw [hc];rfl) (by rw [hc];exact λ l h=>h) ?_
 unfold Desc;dsimp only;rw [setRow_same]
 exact congrArg AO.list nums_app
theorem wp_popInnA (R:Rep K own σ μ) {x:AV} {xs:List Nat} {m:Nat} (hc:(σ.row n).c= .a (m :: xs)) (h:at_ own x (.inn n)) (hq: ∀ μ',Rep K own (σ.setRow n {σ.row n with c:= .a xs}) μ'→QV (.int m) μ'):wp (popL x) QV μ:=by
 obtain ⟨i,rfl,hi,e⟩:=R.innA hc h
 refine wp_of (popL_eq e) (hq _ ?_)
 refine R.setInn hi (by rw [hc];rfl) (by rw [hc];exact λ l h=>h) ?_
 unfold Desc;dsimp only;rw [setRow_same];rfl
theorem wp_appInnH (R:Rep K own σ μ) {x p:AV} {es:List (String × Nat)} {e:String × Nat} (hc:(σ.row n).c= .h es) (h:at_ own x (.inn n)) (hp:at_ own p (.im (pairO e))) (hl:es.length < big) (hq: ∀ μ',Rep K own (σ.setRow n {σ.row n with c:= .h (es ++ [e])}) μ'→QV .none μ'):wp (appL x p) QV μ:=by
 obtain ⟨i,vs,rfl,hi,d,ee⟩:=R.innH hc h
 refine wp_of (appL_eq ee (by rw [d.len];exact hl)) (hq _ ?_)
 refine R.setInn hi (by rw [hc];rfl) (by rw [hc];exact λ l h=>h) ?_
 unfold Desc;dsimp only;rw [setRow_same]
 exact ⟨_,rfl,d.snoc hp⟩
theorem wp_popInnH (R:Rep K own σ μ) {x:AV} {es:List (String × Nat)} {e:String × Nat} (hc:(σ.row n).c= .h (e :: es)) (h:at_ own x (.inn n)) (hq: ∀ p μ',at_ own p (.im (pairO e))→Rep K own (σ.setRow n {σ.row n with c:= .h es}) μ'→QV p μ'):wp (popL x) QV μ:=by
 obtain ⟨i,vs,rfl,hi,d,ee⟩:=R.innH hc h
 cases d with
 | cons d1 d2 =>
 refine wp_of (popL_eq ee) (hq _ _ d1 ?_)
 refine R.setInn hi (by rw [hc];rfl) (by rw [hc];exact λ l h=>h) ?_
 unfold Desc;dsimp only;rw [setRow_same]
 exact ⟨_,rfl,d2⟩
theorem wp_setInnH (R:Rep K own σ μ) {x:AV} {es es':List (String × Nat)} {a:Nat} {vs:List AV} (hc:(σ.row n).c= .h es) (h:at_ own x (.inn n)) (ha:own a= .nw (.list vs)) (hv:L2 (λ v e=>at_ own v (.im (pairO e))) vs es') (hq: ∀ μ',Rep K own (σ.setRow n {σ.row n with c:= .h es'}) μ'→Q () μ'):wp (setAllN x (.obj a)) Q μ:=by
 obtain ⟨i,ws,rfl,hi,d,ee⟩:=R.innH hc h
 have hia:i≠a:=λ q=>by rw [q,ha] at hi;cases hi
 refine wp_of (μ':=μ.set i (.list vs)) ?_ (hq _ ?_)
 ·have: ¬ AV.obj i=AV.obj a:=λ q=>hia (by injection q)
  simp only [setAllN,this,if_false,setAll,bd,rd,ee,rdL_eq (R.nw ha),wr]
 ·refine R.setInn hi (by rw [hc];rfl) (by rw [hc];exact λ l h=>h) ?_
  unfold Desc;dsimp only;rw [setRow_same]
  exact ⟨_,rfl,hv⟩
theorem wp_pair0 (R:Rep K own σ μ) {p:AV} {e:String × Nat} (hp:at_ own p (.im (pairO e))):wp (getI p (.int 0)) QV μ=QV (.str e.1) μ:=by
 obtain ⟨i,rfl,h⟩:=hp;exact wp_eq (getI_list (k:=0) (R.im h) rfl)
theorem wp_pair1 (R:Rep K own σ μ) {p:AV} {e:String × Nat} (hp:at_ own p (.im (pairO e))):wp (getI p (.int 1)) QV μ=QV (.int e.2) μ:=by
 obtain ⟨i,rfl,h⟩:=hp;exact wp_eq (getI_list (k:=1) (R.im h) rfl)
theorem wp_newRow (R:Rep K own σ μ) (hlk:σ.lkW=false) (hl:σ.wk.length < big) {a:Nat} {c:Cont} {bl:Bool} {x:AV} (hn:n∉σ.wk) (hr:σ.lastRow < n) (ha:own a= .nw (.list [.str c.kind, .bool bl, .bool false,x]))
  (hc:(∃ v,c= .s v∧VW own v x)∨((c= .a []∨c= .h [])∧ ∃ k,x= .obj k∧own k= .nw (.list [])))
  (hq: ∀ own' μ',Ext own own'→Rep K own' ({σ with wk:=σ.wk ++ [n],lastRow:=n}.setRow n ⟨c,bl,false⟩) μ'→Q () μ'):wp (setI (.obj K.world) (.int n) (.obj a)) Q μ:=by
 have fr: ∀ {r:Role},r.rnum=n→ ∀ j,own j≠r:=λ hr' j q=>by have:=(R.bnd j).2;rw [q,hr'] at this;omega
 let σ1:S:= {σ with lastRow:=n}.setRow n ⟨c,bl,false⟩
 have R1:Rep K own σ1 μ:=R.same' ⟨Nat.le_refl _,Nat.le_of_lt hr⟩ λ j o d=>by
  have hh: ∀ r,Desc K own σ r o→Desc K own {σ with lastRow:=n} r o:=λ r d=>by cases r <;> exact d
  exact (hh _ d).setRow (fr rfl j) λ q=>absurd q (fr rfl j)
 have fin: ∀ own2,Ext own own2→own2 a=own a→(∀ j,own2 j≠ .row n)→RTail (up own2 a (.row n)) n c x→Rep K own2 σ1 μ→wp (setI (.obj K.world) (.int n) (.obj a)) Q μ:=by
  intro own2 e2 h2 f2 t2 R2
  have R3:=R2.promote (r:= .row n) (h2.trans ha) rfl f2 ⟨Nat.zero_le _,Nat.le_refl _⟩ ⟨x,by rw [show σ1.row n=⟨c,bl,false⟩ from setRow_same];exact t2,by rw [show σ1.row n=⟨c,bl,false⟩ from setRow_same]⟩
  have e3:Ext own2 (up own2 a (.row n)):=Ext.up (by rw [h2,ha];rfl)
  obtain ⟨es,e,h⟩:=R3.world
  rw [show σ1.lkW=false from hlk] at e
  refine wp_of (μ':=μ.set K.world (.dI false (put (n:Int) (.obj a) es))) (by simp [setI,bd,rd,e,show es.length < big by rw [h.len];exact hl,wr]) (hq _ _ (e2.trans e3) ?_)
  have hd:=put_keys (R:=λ v m=>at_ (up own2 a (.row n)) v (.row m)) (ns:=σ.wk) h hn ⟨a,rfl,up_same⟩
  refine R3.set (σ':= {σ with wk:=σ.wk ++ [n],lastRow:=n}.setRow n ⟨c,bl,false⟩) R3.kW rfl ⟨Nat.le_refl _,Nat.le_refl _⟩ ⟨_,?_,hd⟩ λ r hr o d=>by cases r <;> first | exact d | exact absurd rfl hr
  show AO.dI false _=AO.dI σ.lkW _
  rw [hlk]
 rcases hc with ⟨v,rfl,hv⟩ | ⟨hc,k,rfl,hk⟩
 ·exact fin own Ext.refl rfl (fr rfl) (hv.ext (Ext.up (by rw [ha];rfl))) R1
 ·have hka:k≠a:=λ q=>by rw [q,ha] at hk;cases hk
  have e2:Ext own (up own k (.inn n)):=Ext.up (by rw [hk];rfl)
  have R2:=R1.promote (r:= .inn n) hk rfl (fr rfl) ⟨Nat.zero_le _,Nat.le_refl _⟩ (by
   unfold Desc;dsimp only;rw [show σ1.row n=⟨c,bl,false⟩ from setRow_same]
   rcases hc with rfl | rfl
   ·rfl
   ·exact ⟨[],rfl, .nil⟩)
  refine fin _ e2 (up_ne hka.symm) (λ j q=> ?_) ?_ R2
  ·by_cases z:j=k
   ·rw [z,up_same] at q;cases q
   ·rw [up_ne z] at q;exact fr rfl j q
  ·rcases hc with rfl | rfl
   ·exact ⟨k,rfl,by rw [up_ne hka,up_same]⟩
   ·exact ⟨k,rfl,by rw [up_ne hka,up_same]⟩
theorem Rep.roots (R:Rep K own σ μ):μ[K.roots]? =some (.list (nums σ.roots)):=by obtain ⟨o,e,rfl⟩:=R.at' R.kO nofun;exact e
theorem Rep.log (R:Rep K own σ μ):μ[K.log]? =some (.list (nums σ.log)):=by obtain ⟨o,e,rfl⟩:=R.at' R.kL nofun;exact e
theorem Rep.heard (R:Rep K own σ μ):μ[K.heard]? =some (.list (nums σ.heard)):=by obtain ⟨o,e,rfl⟩:=R.at' R.kE nofun;exact e
theorem Rep.box (R:Rep K own σ μ):μ[K.box]? =some (.list [.obj K.counter]):=by obtain ⟨o,e,rfl⟩:=R.at' R.kB nofun;exact e
theorem wp_getRoot (R:Rep K own σ μ) {i m:Nat} (h:σ.roots[i]? =some m):wp (getI (.obj K.roots) (.int i)) QV μ=QV (.int m) μ:=wp_eq (getI_list R.roots (by simp [nums,h]))
theorem wp_getBox (R:Rep K own σ μ):wp (getI (.obj K.box) (.int 0)) QV μ=QV (.obj K.counter) μ:=wp_eq (getI_list (k:=0) R.box rfl)
theorem wp_chkLO (R:Rep K own σ μ):wp (chkL (.obj K.roots)) Q μ=Q () μ:=wp_eq (chkL_eq R.roots)
theorem wp_chkLL (R:Rep K own σ μ):wp (chkL (.obj K.log)) Q μ=Q () μ:=wp_eq (chkL_eq R.log)
theorem wp_chkLE (R:Rep K own σ μ):wp (chkL (.obj K.heard)) Q μ=Q () μ:=wp_eq (chkL_eq R.heard)
theorem wp_appRoots (R:Rep K own σ μ) {m:Nat} (hl:σ.roots.length < big) (hq: ∀ μ',Rep K own {σ with roots:=σ.roots ++ [m]} μ'→QV .none μ'):wp (appL (.obj K.roots) (.int m)) QV μ:=by
 refine wp_of (appL_eq R.roots (by simpa [nums] using hl)) (hq _ ?_)
 exact R.set (σ':= {σ with roots:=σ.roots ++ [m]}) R.kO rfl ⟨Nat.le_refl _,Nat.le_refl _⟩ (congrArg AO.list nums_app) λ r hr o d=>by cases r <;> first | exact d | exact absurd rfl hr
theorem wp_appLog (R:Rep K own σ μ) {m:Nat} (hl:σ.log.length < big) (hq: ∀ μ',Rep K own {σ with log:=σ.log ++ [m]} μ'→QV .none μ'):wp (appL (.obj K.log) (.int m)) QV μ:=by
 refine wp_of (appL_eq R.log (by simpa [nums] using hl)) (hq _ ?_)
 exact R.set (σ':= {σ with log:=σ.log ++ [m]}) R.kL rfl ⟨Nat.le_refl _,Nat.le_refl _⟩ (congrArg AO.list nums_app) λ r hr o d=>by cases r <;> first | exact d | exact absurd rfl hr
theorem wp_appHeard (R:Rep K own σ μ) {m:Nat} (hl:σ.heard.length < big) (hq: ∀ μ',Rep K own {σ with heard:=σ.heard ++ [m]} μ'→QV .none μ'):wp (appL (.obj K.heard) (.int m)) QV μ:=by
 refine wp_of (appL_eq R.heard (by simpa [nums] using hl)) (hq _ ?_)
 exact R.set (σ':= {σ with heard:=σ.heard ++ [m]}) R.kE rfl ⟨Nat.le_refl _,Nat.le_refl _⟩ (congrArg AO.list nums_app) λ r hr o d=>by cases r <;> first | exact d | exact absurd rfl hr
theorem wp_clearRoots (R:Rep K own σ μ) {a:Nat} (ha:own a= .nw (.list [])) (hq: ∀ μ',Rep K own {σ with roots:=[]} μ'→Q () μ'):wp (setAllN (.obj K.roots) (.obj a)) Q μ:=by
 have hia:K.roots≠a:=λ q=>by have:=R.kO;rw [q,ha] at this;cases this
 refine wp_of (μ':=μ.set K.roots (.list [])) ?_ (hq _ ?_)
 ·have: ¬ AV.obj K.roots=AV.obj a:=λ q=>hia (by injection q)
  simp only [setAllN,this,if_false,setAll,bd,rd,R.roots,rdL_eq (R.nw ha),wr]
 ·exact R.set (σ':= {σ with roots:=[]}) R.kO rfl ⟨Nat.le_refl _,Nat.le_refl _⟩ rfl λ r hr o d=>by cases r <;> first | exact d | exact absurd rfl hr
mutual
theorem D.same_refl: ∀ d:D,D.same d d=true
 | .none=>rfl
 | .int i=>by simp [D.same]
 | .str s=>by simp [D.same]
 | .node l ds=>by simp [D.same,D.sames_refl ds]
theorem D.sames_refl: ∀ ds:List D,D.sames ds ds=true
 | []=>rfl
 | d :: ds=>by simp [D.sames,D.same_refl d,D.sames_refl ds]
end
theorem mapM_some {α β:Type} {f:α→Option β} {R:α→β→Prop} (hf: ∀ a b,R a b→f a=some b) {xs:List α} {ys:List β} (h:L2 R xs ys):xs.mapM f=some ys:=by
 induction h with
 | nil=>rfl
 | cons h _ ih=>simp [List.mapM_cons,hf _ _ h,ih]
theorem readD_int {n:Nat} {i:Int}:readD μ n (.int i)=some (.int i):=by cases n <;> rfl
theorem readD_str {n:Nat} {s:String}:readD μ n (.str s)=some (.str s):=by cases n <;> rfl
theorem readD_none {n:Nat}:readD μ n .none=some .none:=by cases n <;> rfl
theorem readD_list {n i:Nat} {xs:List AV} {ds:List D} (h:μ[i]? =some (.list xs)) (hx:L2 (λ x d=>readD μ n x=some d) xs ds):readD μ (n+1) (.obj i)=some (.node true ds):=by
 simp only [readD,h]
 rw [mapM_some (λ a b h=>h) hx];rfl
theorem readD_tup {n i:Nat} {xs:List AV} {ds:List D} (h:μ[i]? =some (.tup xs)) (hx:L2 (λ x d=>readD μ n x=some d) xs ds):readD μ (n+1) (.obj i)=some (.node false ds):=by
 simp only [readD,h]
 rw [mapM_some (λ a b h=>h) hx];rfl
theorem readD_nums {n:Nat} (ns:List Nat):L2 (λ x d=>readD μ n x=some d) (nums ns) (ns.map λ m:Nat=>D.int m):=by
 induction ns with
 | nil=>exact .nil
 | cons m ms ih=>exact .cons readD_int ih
theorem wp_eqD {a b:AV} {x y:D} (ha:readD μ 3 a=some x) (hb:readD μ 3 b=some y) (hn: ∀ i j,a= .bool i→b= .bool j→False):wp (eqM a b) QV μ=QV (.bool (D.same x y)) μ:=by
 refine wp_eq ?_
 have:eqM a b μ=(match readD μ 3 a,readD μ 3 b with | some x,some y=>some (.bool (D.same x y),μ) | _,_=>none):=by
  cases a <;> cases b <;> first | rfl | exact (hn _ _ rfl rfl).elim
 rw [this,ha,hb]
theorem sames_nums: ∀ xs ys:List Nat,D.sames (xs.map λ m:Nat=>D.int m) (ys.map λ m:Nat=>D.int m)=decide (xs=ys)
 | [],[]=>rfl
 | [],y :: ys=>by simp [D.sames]
 | x :: xs,[]=>by simp [D.sames]
 | x :: xs,y :: ys=>by
  simp only [List.map_cons,D.sames,D.same,sames_nums xs ys]
  by_cases q:x=y
  ·subst q;simp
  ·have: ¬ (x:Int)=y:=by omega
   simp [q]
   intro h;exact absurd h this
theorem wp_eqNums {i j:Nat} {xs ys:List Nat} (hi:μ[i]? =some (.list (nums xs))) (hj:μ[j]? =some (.list (nums ys))):wp (eqM (.obj i) (.obj j)) QV μ=QV (.bool (decide (xs=ys))) μ:=by
 rw [wp_eqD (readD_list hi (readD_nums xs)) (readD_list hj (readD_nums ys)) (λ _ _ h=>by cases h)]
 simp only [D.same,sames_nums,beq_self_eq_true,Bool.true_and]
end
local macro_rules | `(tactic| walk_at "w-s")=> `(tactic| try simp only [wp_fin,wp_bd,wp_rt,wp_thnG,thnQ_nxt,thnQ_ret,thnQ_cnt,finQ_nxt,finQ_ret,wp_notC,wp_andC,wp_orC,wp_tru,wp_iteT,wp_iteV,wp_eqI,wp_eqS,wp_eqB,wp_ne,wp_neg,wp_isN,wp_isNN,wp_lt,wp_gt,wp_add,wp_iadd,wp_sub,wp_mkL,wp_mkT,wp_evs0,wp_evs,Bool.not_true,Bool.not_false,if_tt,if_ff,Bool.false_eq_true,if_true,if_false,decide_true,decide_false,Bool.not_eq_true',reduceCtorEq])
def PV.strong:PV→PV
 | .weak m=> .ref m
 | p=>p
def Cont.val:Cont→PV
 | .s v=>v
 | _=> .none
def S.setCnt (σ:S) (n:Nat) (c:Int):S:=σ.setTh n {σ.th n with cnt:=c}
def S.hold (σ:S) (n:Nat):S:=σ.setCnt n ((σ.th n).cnt+1)
def S.note (σ:S) (n:Nat):S:=if (σ.th n).cnt=0 then {σ with zero:=σ.zero ++ [n]} else σ
def S.letGo (σ:S) (n:Nat):S:=(σ.setCnt n ((σ.th n).cnt - 1)).note n
def S.take (σ:S):PV→S
 | .ref m=>σ.hold m
 | .weak m=>σ.hold m
 | _=>σ
def S.setWeak (σ:S) (n:Nat) (ws:List Nat):S:=σ.setTh n {σ.th n with weak:=ws}
def S.setVal (σ:S) (n:Nat) (v:PV):S:=σ.setTh n {σ.th n with c:= .s v}
def S.putOff (σ:S) (s:Nat):PV→S
 | .ref m=>σ.letGo m
 | .weak m=>σ.setWeak m ((σ.th m).weak.filter (· ≠s))
 | _=>σ
def S.store (σ:S) (s:Nat) (v:PV):S:=((σ.take v).setVal s v.strong).putOff s (σ.th s).c.val
def S.weaken (σ:S) (s:Nat):S:=match (σ.th s).c.val with
 | .ref m=>((σ.setVal s (.weak m)).setWeak m (((σ.setVal s (.weak m)).th m).weak ++ [s])).letGo m
 | _=>σ
def S.freshV (σ:S) (v:PV):S:=((σ.take v).fresh (.s v.strong)).setCnt (σ.last+1) 1
section
variable {K:Ad} {own own':Own} {σ σ':S} {μ:Mem} {α:Type}
variable {Q:AV→Mem→Prop} {v c:AV} {n:Nat}
theorem blv_none {b:Bool}:decide (blv b= .none)= !b:=by cases b <;> rfl
theorem wp_hold (R:Rep K own σ μ) (h:at_ own v (.thing n)) (hq: ∀ μ',Rep K own (σ.hold n) μ'→Q .none μ'):wp (f_Counter_hold c v) Q μ:=by
 unfold f_Counter_hold f_Counter_hold_b
 walk_at "w-s"
 rw [wp_count R h]
 walk_at "w-s"
 exact wp_setCount R h λ μ1 R1=>hq μ1 R1
theorem wp_note' (R:Rep K own σ μ) (h:at_ own v (.thing n)) (hl:σ.zero.length < big) (hq: ∀ μ',Rep K own (σ.note n) μ'→Q .none μ'):wp (if decide ((σ.th n).cnt=0)=true then
  bd (bd (bd (bd (rt (.obj K.counter)) λ a8=>getA a8 "heap") λ a7=>getA a7 "zero") λ o6=>bd (chkL o6) λ _=>bd (rt v) λ a9=>appL o6 a9) λ _=>(rt (.nxt ()):M (Fl Unit)) else rt (.nxt ())) (finQ Q) μ:=by
 by_cases q:(σ.th n).cnt=0
 ·rw [show σ.note n= {σ with zero:=σ.zero ++ [n]} from if_pos q] at hq
  simp only [q,decide_true,if_true]
  walk_at "w-s"
  rw [wp_cHeap R]
  refine wp_zero R λ z hz=> ?_
  rw [wp_chkLzero R hz]
  exact wp_appZero R hz h hl λ μ1 R1=>by walk_at "w-s";exact hq μ1 R1
 ·rw [show σ.note n=σ from if_neg q] at hq
  simp only [q,decide_false,Bool.false_eq_true,if_false]
  walk_at "w-s"
  exact hq μ R
theorem wp_note (R:Rep K own σ μ) (h:at_ own v (.thing n)) (hl:σ.zero.length < big) (hq: ∀ μ',Rep K own (σ.note n) μ'→Q .none μ'):wp (f_Counter_note (.obj K.counter) v) Q μ:=by
 unfold f_Counter_note f_Counter_note_b
 rw [wp_fin]
 simp only [wp_bd,wp_rt,wp_tru]
 rw [wp_count R h]
 simp only [wp_eqI,wp_tru]
 exact wp_note' R h hl hq
theorem wp_letGo (R:Rep K own σ μ) (h:at_ own v (.thing n)) (hl:σ.zero.length < big) (hq: ∀ μ',Rep K own (σ.letGo n) μ'→Q .none μ'):wp (f_Counter_let_go (.obj K.counter) v) Q μ:=by
 unfold f_Counter_let_go f_Counter_let_go_b
 rw [wp_fin]
 simp only [wp_bd,wp_rt,wp_tru]
 rw [wp_count R h]
 simp only [wp_sub]
 refine wp_setCount R h λ μ1 R1=> ?_
 rw [wp_count R1 h]
 simp only [wp_eqI,wp_tru]
 exact wp_note' R1 h hl hq
theorem wp_drop (R:Rep K own σ μ) (h:at_ own v (.thing n)) (hl:σ.zero.length < big) (hq: ∀ μ',Rep K own (σ.letGo n) μ'→Q .none μ'):wp (f_Counter_drop (.obj K.counter) v) Q μ:=by
 unfold f_Counter_drop f_Counter_drop_b
 walk_at "w-s"
 rw [wp_chkC R]
 exact wp_letGo R h hl hq
theorem wp_take (R:Rep K own σ μ) {pv:PV} {x:AV} (h:VT own pv x) (hq: ∀ own' μ' y,Ext own own'→VT own' pv.strong y→Rep K own' (σ.take pv) μ'→Q y μ'):wp (f_Counter_take (.obj K.counter) x) Q μ:=by
 unfold f_Counter_take f_Counter_take_b
 walk_at "w-s"
 rw [wp_isRef R h]
 walk_at "w-s"
 cases pv with
 | none=>simp only [PV.isRef];walk_at "w-s";exact hq own μ x Ext.refl h R
 | int i=>simp only [PV.isRef];walk_at "w-s";exact hq own μ x Ext.refl h R
 | ref m =>
  simp only [PV.isRef];walk_at "w-s"
  rw [wp_chkC R]
  refine wp_target R h rfl λ t ht=>wp_hold R ht λ μ1 R1=> ?_
  rw [wp_isWeak R1 h rfl]
  simp only [PV.isWeak];walk_at "w-s"
  exact hq own μ1 x Ext.refl h R1
 | weak m =>
  simp only [PV.isRef];walk_at "w-s"
  rw [wp_chkC R]
  refine wp_target R h rfl λ t ht=>wp_hold R ht λ μ1 R1=> ?_
  rw [wp_isWeak R1 h rfl]
  simp only [PV.isWeak];walk_at "w-s"
  refine wp_target R1 h rfl λ t ht=>wp_newRef R1 ht λ own2 μ2 y e2 hy R2=> ?_
  exact hq own2 μ2 y e2 hy R2
theorem filter_L2 {vs:List AV} {ns:List Nat} (h:Things own vs ns) (p:AV→Bool) (q:Nat→Bool) (hpq: ∀ v n,v∈vs→n∈ns→at_ own v (.thing n)→p v=q n):Things own (vs.filter p) (ns.filter q):=by
 induction h with
 | nil=>exact .nil
 | @cons a b as bs h _ ih =>
  simp only [List.filter_cons,hpq a b (by simp) (by simp) h]
  have:=ih λ v n hv hn=>hpq v n (List.mem_cons_of_mem _ hv) (List.mem_cons_of_mem _ hn)
  split
  ·exact .cons h this
  ·exact this
theorem wp_compT {G:AV→Cx0} {i:Nat} {vs:List AV} {ns:List Nat} {test:AV→M Bool} {elt:AV→M AV} (hi:μ[i]? =some (.list vs)) (hv:Things own vs ns) (hl:ns.length≤big) (q:Nat→Bool) (htest: ∀ v n,n∈ns→at_ own v (.thing n)→test v μ=some (q n,μ)) (helt: ∀ v,elt v μ=some (v,μ))
  (hend: ∀ ws,Things own ws (ns.filter q)→wp (al (.list ws)) Q μ):wp (comp G (.obj i) test elt) Q μ:=by
 have key: ∃ p:AV→Bool,∀ v∈vs,test v μ=some (p v,μ)∧ ∀ n∈ns,at_ own v (.thing n)→p v=q n:=by
  refine ⟨λ v=>match test v μ with | some (b,_)=>b | none=>false,λ v hv'=> ?_⟩
  have: ∃ n∈ns,at_ own v (.thing n):=by
   clear hi hl htest helt hend
   induction hv with
   | nil=>simp at hv'
   | @cons a b as bs h _ ih =>
    rcases List.mem_cons.mp hv' with rfl | hv'
    ·exact ⟨b,by simp,h⟩
    ·obtain ⟨n,h1,h2⟩:=ih hv'
     exact ⟨n,by simp [h1],h2⟩
  obtain ⟨n,hn,ha⟩:=this
  have e0:=htest v n hn ha
  refine ⟨by simp only [e0],λ m hm hb=> ?_⟩
  have h2:=htest v m hm hb
  rw [e0] at h2
  simp only [e0]
  injection h2 with h2
  injection h2
 obtain ⟨p,hp⟩:=key
 refine wp_compR p id hi (by rw [hv.len];exact hl) (λ x hx=>⟨(hp x hx).1,λ _=>helt x⟩) ?_
 rw [List.map_id]
 exact hend _ (filter_L2 hv p q λ v n hv' hn ha=>(hp v hv').2 n hn ha)
theorem wp_get {α:Type} {m:M α} {P:α→Prop} {a:α} (h:wp m (λ b μ'=>b=a∧μ'=μ) μ):m μ=some (a,μ):=by
 obtain ⟨b,μ',e,rfl,rfl⟩:=h;exact e
theorem wp_putOff (R:Rep K own σ μ) {pv:PV} {x s:AV} {k:Nat} (hs:at_ own s (.thing k)) (h:VT own pv x) (hl:σ.zero.length < big) (hw: ∀ m,pv= .weak m→(σ.th m).weak.length≤big∧m≤σ.last) (hq: ∀ own' μ',Ext own own'→Rep K own' (σ.putOff k pv) μ'→Q .none μ'):wp (f_Counter_put_off (.obj K.counter) s x) Q μ:=by
 unfold f_Counter_put_off f_Counter_put_off_b
 walk_at "w-s"
 rw [wp_isRef R h]
 walk_at "w-s"
 cases pv with
 | none=>simp only [PV.isRef];walk_at "w-s";exact hq own μ Ext.refl R
 | int i=>simp only [PV.isRef];walk_at "w-s";exact hq own μ Ext.refl R
 | ref m =>
  simp only [PV.isRef];walk_at "w-s"
  rw [wp_isWeak R h rfl]
  simp only [PV.isWeak];walk_at "w-s"
  rw [wp_chkC R]
  refine wp_target R h rfl λ t ht=>wp_letGo R ht hl λ μ1 R1=> ?_
  exact hq own μ1 Ext.refl R1
 | weak m =>
  simp only [PV.isRef];walk_at "w-s"
  rw [wp_isWeak R h rfl]
  simp only [PV.isWeak];walk_at "w-s"
  refine wp_target R h rfl λ t ht=>wp_weak R ht λ w hw'=> ?_
  obtain ⟨i,vs,rfl,hi,hvs,e⟩:=R.weakL hw'
  refine wp_compT e hvs (hw m rfl).1 (λ j=>decide (j≠k)) (λ v j hj hv=> ?_) (λ v=>rfl) λ ws hws=> ?_
  ·refine wp_get (P:=λ _=>True) ?_
   walk_at "w-s"
   rw [wp_number R hv]
   rw [wp_number R hs]
   walk_at "w-s"
   refine ⟨?_,trivial⟩
   by_cases z:j=k
   ·simp [z]
   ·have: ¬ (j:Int)=k:=by omega
    simp [z,this]
  ·refine wp_alC R (.nw (.list ws)) (by simp) λ own1 μ1 a e1 h1 j1 b1 R1=> ?_
   refine wp_target R1 (h.ext e1) rfl λ t' ht'=>wp_setWeak R1 ht' h1 (hws.ext e1) (hw m rfl).2 λ own2 μ2 e2 R2=> ?_
   exact hq own2 μ2 (e1.trans e2) R2
end
section
variable {σ:S} {n m s:Nat} {v pv:PV}
theorem th_setTh {t:Th}:(σ.setTh n t).th m=if m=n then t else σ.th m:=rfl
theorem take_zero:(σ.take v).zero=σ.zero:=by cases v <;> rfl
theorem take_last:(σ.take v).last=σ.last:=by cases v <;> rfl
theorem take_lkT:(σ.take v).lkT=σ.lkT:=by cases v <;> rfl
theorem hold_c:((σ.hold n).th m).c=(σ.th m).c:=by
 unfold S.hold S.setCnt;rw [th_setTh];split
 ·subst_vars;rfl
 ·rfl
theorem hold_weak:((σ.hold n).th m).weak=(σ.th m).weak:=by
 unfold S.hold S.setCnt;rw [th_setTh];split
 ·subst_vars;rfl
 ·rfl
theorem take_c:((σ.take v).th m).c=(σ.th m).c:=by
 cases v with
 | none=>rfl
 | int i=>rfl
 | ref k=>exact hold_c
 | weak k=>exact hold_c
theorem take_weak:((σ.take v).th m).weak=(σ.th m).weak:=by
 cases v with
 | none=>rfl
 | int i=>rfl
 | ref k=>exact hold_weak
 | weak k=>exact hold_weak
theorem setVal_weak:((σ.setVal n v).th m).weak=(σ.th m).weak:=by
 unfold S.setVal;rw [th_setTh];split
 ·subst_vars;rfl
 ·rfl
end
section
variable {K:Ad} {own own':Own} {σ σ':S} {μ:Mem} {α:Type}
variable {Q:AV→Mem→Prop} {v c s:AV} {n k:Nat}
theorem Things.eq (R:Rep K own σ μ) {vs ws:List AV} {ns:List Nat} (h:Things own vs ns) (h':Things own ws ns):vs=ws:=by
 induction h generalizing ws with
 | nil=>cases h';rfl
 | cons h _ ih =>
  cases h' with
  | cons h1 h2=>rw [at_.eq R h h1 rfl,ih h2]
theorem wp_store (R:Rep K own σ μ) {pv old:PV} {x:AV} (hs:at_ own s (.thing k)) (hc:(σ.th k).c= .s old) (h:VT own pv x) (hl:σ.zero.length < big) (hw: ∀ m,old= .weak m→(σ.th m).weak.length≤big∧m≤σ.last) (hq: ∀ own' μ',Ext own own'→Rep K own' (σ.store k pv) μ'→Q .none μ'):wp (f_Counter_store (.obj K.counter) s x) Q μ:=by
 unfold f_Counter_store f_Counter_store_b
 walk_at "w-s"
 rw [wp_cPlaces R,wp_chkP R,wp_number R hs,wp_popP R,wp_magic R hs hc]
 walk_at "w-s"
 refine wp_value R hs hc λ o ho=> ?_
 rw [wp_chkC R]
 refine wp_take R h λ own1 μ1 y e1 hy R1=> ?_
 refine wp_setValue R1 (hs.th e1) (by rw [take_c];exact hc) hy λ μ2 R2=> ?_
 rw [wp_chkC R2]
 refine wp_putOff R2 (hs.th e1) (ho.ext e1) (by show (σ.take pv).zero.length < big;rw [take_zero];exact hl) (λ m hm=> ?_) λ own3 μ3 e3 R3=> ?_
 ·obtain ⟨a,b⟩:=hw m hm
  exact ⟨by show (((σ.take pv).setVal k pv.strong).th m).weak.length≤big;rw [setVal_weak,take_weak];exact a,by show m≤(σ.take pv).last;rw [take_last];exact b⟩
 ·refine hq own3 μ3 (e1.trans e3) ?_
  unfold S.store
  rw [hc]
  exact R3
theorem wp_fresh (R:Rep K own σ μ) {pv:PV} {x:AV} (h:VT own pv x) (hlk: ∀ n,σ.lkT n=false) (hq: ∀ own' μ' v,Ext own own'→at_ own' v (.thing (σ.last+1))→Rep K own' (σ.freshV pv) μ'→Q v μ'):wp (f_Counter_fresh (.obj K.counter) x) Q μ:=by
 unfold f_Counter_fresh f_Counter_fresh_b
 walk_at "w-s"
 rw [wp_cHeap R,wp_chkH R,wp_chkC R]
 refine wp_take R h λ own1 μ1 y e1 hy R1=> ?_
 refine wp_newScalar R1 hy (by rw [take_lkT];exact hlk) λ own2 μ2 z e2 hz R2=> ?_
 rw [take_last] at hz
 refine wp_setCount R2 hz λ μ3 R3=> ?_
 exact hq own2 μ3 z (e1.trans e2) hz R3
theorem wp_weaken (R:Rep K own σ μ) {pv:PV} (hs:at_ own s (.thing k)) (hc:(σ.th k).c= .s pv) (hl:σ.zero.length < big) (hw: ∀ m,pv= .ref m→(σ.th m).weak.length < big) (hq: ∀ own' μ',Ext own own'→Rep K own' (σ.weaken k) μ'→Q .none μ'):wp (f_weaken_scalar (.obj K.counter) s) Q μ:=by
 unfold f_weaken_scalar f_weaken_scalar_b
 walk_at "w-s"
 refine wp_value R hs hc λ x hx=> ?_
 rw [wp_isRef R hx]
 walk_at "w-s"
 have hv:(σ.th k).c.val=pv:=by rw [hc];rfl
 unfold S.weaken at hq
 rw [hv] at hq
 clear hv
 cases pv with
 | none=>simp only [PV.isRef];walk_at "w-s";exact hq own μ Ext.refl R
 | int i=>simp only [PV.isRef];walk_at "w-s";exact hq own μ Ext.refl R
 | weak m =>
  simp only [PV.isRef];walk_at "w-s"
  refine wp_value R hs hc λ x hx=> ?_
  rw [wp_isWeak R hx rfl]
  simp only [PV.isWeak];walk_at "w-s"
  exact hq own μ Ext.refl R
 | ref m =>
  simp only [PV.isRef];walk_at "w-s"
  refine wp_value R hs hc λ x hx=> ?_
  rw [wp_isWeak R hx rfl]
  simp only [PV.isWeak];walk_at "w-s"
  refine wp_value R hs hc λ x hx=> ?_
  refine wp_target R hx rfl λ t ht=> ?_
  refine wp_newRef R ht λ own1 μ1 y e1 hy R1=> ?_
  have hy:VT own1 (.weak m) y:=hy
  refine wp_setValue R1 (hs.th e1) hc hy λ μ2 R2=> ?_
  refine wp_weak R2 (ht.th e1) λ w hw'=> ?_
  rw [wp_chkLweak R2 hw']
  refine wp_appWeak R2 hw' (hs.th e1) (by rw [show ((σ.setTh k {σ.th k with c:= .s (.weak m)}).th m).weak=(σ.th m).weak from setVal_weak];exact hw m rfl) λ μ3 R3=> ?_
  rw [wp_chkC R3]
  refine wp_letGo R3 (ht.th e1) hl λ μ4 R4=> ?_
  exact hq own1 μ4 e1 R4
theorem wp_bless (R:Rep K own σ μ) (h:at_ own v (.thing n)) (hq: ∀ μ',Rep K own (σ.setTh n {σ.th n with bl:=true}) μ'→Q .none μ'):wp (f_bless_thing v (.str "P")) Q μ:=by
 unfold f_bless_thing f_bless_thing_b
 walk_at "w-s"
 exact wp_setBless R h hq
theorem wp_compRD {G:AV→Cx0} {i:Nat} {o:AO} {xs0:List AV} {test:AV→M Bool} {elt:AV→M AV} (p:AV→Bool) (f:AV→AV) (he:μ[i]? =some o) (hk:keysOf o=some xs0) (hu:o.locked=false) (hl:xs0.length≤big)
  (hstep: ∀ x∈xs0,test x (μ.set i o.lock)=some (p x,μ.set i o.lock)∧(p x=true→elt x (μ.set i o.lock)=some (f x,μ.set i o.lock))) (hend:wp (al (.list ((xs0.filter p).map f))) Q μ):wp (comp G (.obj i) test elt) Q μ:=by
 have hlt:i < μ.length:=(List.getElem?_eq_some_iff.mp he).1
 refine wp_comp (λ xs acc μ'=>μ'=μ.set i o.lock∧ ∃ ys,xs0=ys ++ xs∧acc=(ys.filter p).map f) he hk hu hl ⟨rfl,[],rfl,rfl⟩ (λ xs acc μ' h=>by rw [h.1,List.getElem?_set_self hlt]) (λ x xs acc μ' h=> ?_) (λ acc μ' h=> ?_)
 ·obtain ⟨rfl,ys,e1,e2⟩:=h
  obtain ⟨h1,h2⟩:=hstep x (by rw [e1];simp)
  refine wp_of h1 ?_
  cases hp:p x with
  | true=>simp only [if_true];exact wp_of (h2 hp) ⟨rfl,ys ++ [x],by rw [e1];simp,by rw [e2];simp [hp]⟩
  | false=>exact ⟨rfl,ys ++ [x],by rw [e1];simp,by rw [e2];simp [hp]⟩
 ·obtain ⟨rfl,ys,e1,e2⟩:=h
  rw [List.append_nil] at e1
  subst e1
  rw [e2,List.set_set,set_same he];exact hend
theorem Rep.lockT (R:Rep K own σ μ) {es:List (String × Nat)} {i:Nat} {ls:List (String × AV)} (hc:(σ.th n).c= .h es) (hi:own i= .cont n) (hls:L2 (λ l e=>l.1=e.1∧at_ own l.2 (.thing e.2)) ls es):Rep K own {σ with lkT:=λ m=>if m=n then true else σ.lkT m} (μ.set i (.dS true ls)):=by
 refine R.set (σ':= {σ with lkT:=λ m=>if m=n then true else σ.lkT m}) hi rfl ⟨Nat.le_refl _,Nat.le_refl _⟩ ?_ λ r hr o d=> ?_
 ·unfold Desc;dsimp only;rw [hc];exact ⟨ls,by simp,hls⟩
 ·cases r with
  | cont m =>
   have:m≠n:=λ q=>hr (by rw [q])
   unfold Desc at d ⊢
   dsimp only at d ⊢
   simp only [this,if_false]
   exact d
  | _=>exact d
def members:Cont→List Nat
 | .s _=>[]
 | .a xs=>xs
 | .h es=>es.map (·.2)
def KeysOk (c:Cont):Prop:= ∀ es,c= .h es→(es.map (·.1)).Nodup
theorem aget_mem {β:Type}: ∀ {es:List (String × β)} {e:String × β},(es.map (·.1)).Nodup→e∈es→aget e.1 es=some e.2
 | p :: r,e,nd,h=>by
  unfold aget
  simp only [List.map_cons,List.nodup_cons] at nd
  rcases List.mem_cons.mp h with rfl | h
  ·simp
  ·have: ¬ p.1=e.1:=λ q=>nd.1 (by rw [q];exact List.mem_map_of_mem (f:=(·.1)) h)
   rw [if_neg this];exact aget_mem nd.2 h
theorem L2.left {α β:Type} {R:α→β→Prop} {as:List α} {bs:List β} (h:L2 R as bs): ∀ a∈as,∃ b∈bs,R a b:=by
 induction h with
 | nil=>intro a ha;simp at ha
 | @cons x y xs ys h _ ih =>
  intro a ha
  rcases List.mem_cons.mp ha with rfl | ha
  ·exact ⟨y,by simp,h⟩
  ·obtain ⟨b,h1,h2⟩:=ih a ha
   exact ⟨b,by simp [h1],h2⟩
theorem L2.map {α β γ δ:Type} {R:α→β→Prop} {S:γ→δ→Prop} {f:α→γ} {g:β→δ} (hm: ∀ a b,R a b→S (f a) (g b)) {as:List α} {bs:List β} (h:L2 R as bs):L2 S (as.map f) (bs.map g):=by
 induction h with
 | nil=>exact .nil
 | cons h _ ih=>exact .cons (hm _ _ h) ih
theorem isNN_obj {x:AV} {r:Role} (h:at_ own x r):bd (bd (rt x) λ a=>isNN a) tru μ=some (true,μ):=by
 obtain ⟨i,rfl,_⟩:=h;rfl
theorem wp_heldBy (R:Rep K own σ μ) (h:at_ own v (.thing n)) (hk:KeysOk (σ.th n).c) (hl:(members (σ.th n).c).length≤big) (hlk:σ.lkT n=false) (hq: ∀ own' μ' a vs,Ext own own'→own' a= .tm (.list vs)→Things own' vs (members (σ.th n).c)→Rep K own' σ μ'→Q (.obj a) μ'):wp (f_held_by v) Q μ:=by
 unfold f_held_by f_held_by_b
 walk_at "w-s"
 rw [wp_isT R h]
 have second: ∀ {own1:Own} {μ1:Mem} {i:Nat} {vs:List AV},Ext own own1→Rep K own1 σ μ1→μ1[i]? =some (.list vs)→Things own1 vs (members (σ.th n).c) →
   wp (comp (λ v_one=>[none,some v_one]) (.obj i) (λ v_one=>bd (bd (rt v_one) λ a19=>isNN a19) tru) λ v_one=>rt v_one) (λ a μ'=>Q a μ') μ1:=by
  intro own1 μ1 i vs e1 R1 hi hv
  refine wp_compT (own:=own1) hi hv hl (λ _=>true) (λ v n _ hv=>isNN_obj hv) (λ v=>rfl) λ ws hws=> ?_
  rw [List.filter_eq_self.mpr (λ _ _=>rfl)] at hws
  exact wp_alC R1 (.tm (.list ws)) (by simp) λ own2 μ2 a e2 h2 j2 b2 R2=>hq own2 μ2 a ws (e1.trans e2) h2 (hws.ext e2) R2
 cases hc:(σ.th n).c with
 | a xs =>
  simp only [Cont.cl];walk_at "w-s"
  refine wp_items R h hc λ x hx=> ?_
  obtain ⟨i,vs,rfl,hi,hv,e⟩:=R.contA hc hx
  exact second Ext.refl R e (by rw [hc];exact hv)
 | s pv =>
  simp only [Cont.cl];walk_at "w-s"
  rw [wp_isT R h,hc]
  simp only [Cont.cl];walk_at "w-s"
  rw [wp_isT R h,hc]
  simp only [Cont.cl];walk_at "w-s"
  rw [wp_isT R h,hc]
  simp only [Cont.cl];walk_at "w-s"
  refine wp_alC R (.tm (.list [])) (by simp) λ own1 μ1 i e1 h1 j1 b1 R1=> ?_
  exact second e1 R1 (R1.tm h1) (by rw [hc];exact .nil)
 | h es =>
  simp only [Cont.cl];walk_at "w-s"
  rw [wp_isT R h,hc]
  simp only [Cont.cl];walk_at "w-s"
  refine wp_table R h hc λ x hx=> ?_
  obtain ⟨i,ls,rfl,hi,hv,e⟩:=R.contH hc hx
  rw [hlk] at e
  have R':=R.lockT hc hi hv
  have nd:=hk es hc
  have hself: ∀ l∈ls,∃ e'∈es,l.1=e'.1∧at_ own l.2 (.thing e'.2)∧get l.1 ls=some l.2:=λ l hm=>by
   obtain ⟨e',he',h1,h2⟩:=hv.left l hm
   refine ⟨e',he',h1,h2,?_⟩
   obtain ⟨y,e1,e2⟩:=(aget_L2 (R:=λ v m=>at_ own v (.thing m)) hv l.1).1 e'.2 (by rw [h1];exact aget_mem nd he')
   rw [e1,at_.eq R e2 h2 rfl]
  have hval: ∀ l∈ls,(bd (bd (rt v) λ a7=>getA a7 "table") λ a5=>bd (rt (.str l.1)) λ a6=>getI a5 a6) (μ.set i (.dS true ls))=some (l.2,μ.set i (.dS true ls)):=λ l hm=>by
   obtain ⟨e',he',h1,h2,h3⟩:=hself l hm
   refine wp_get (P:=λ _=>True) ?_
   walk_at "w-s"
   refine wp_table R' h hc λ x' hx'=> ?_
   rw [h1]
   refine wp_getTable R' hc hx' (aget_mem nd he') λ y hy=>⟨at_.eq R' hy h2 rfl,rfl⟩
  have hlen:es.length≤big:=by rw [hc] at hl;simpa [members] using hl
  refine wp_compRD (λ _=>true) (λ k=>match k with | .str t=>(get t ls).getD .none | _=> .none) e rfl rfl (by rw [List.length_map,hv.len];exact hlen) (λ x hx=>⟨rfl,λ _=> ?_⟩) ?_
  ·obtain ⟨l,hm,rfl⟩:=List.mem_map.mp hx
   obtain ⟨e',he',h1,h2,h3⟩:=hself l hm
   refine (hval l hm).trans ?_
   simp only [h3,Option.getD_some]
   rfl
  ·rw [List.filter_eq_self.mpr (λ _ _=>rfl),List.map_map]
   have e2:ls.map ((λ k=>match k with | AV.str t=>(get t ls).getD .none | _=> .none) ∘ λ e=>AV.str e.1)=ls.map (·.2):=List.map_congr_left λ l hm=>by
    obtain ⟨e',he',h1,h2,h3⟩:=hself l hm
    simp [h3]
   rw [e2]
   refine wp_alC R (.tm (.list (ls.map (·.2)))) (by simp) λ own1 μ1 a e1 h1 j1 b1 R1=> ?_
   exact second e1 R1 (R1.tm h1) (by rw [hc];exact L2.map (λ l e hle=>hle.2.th e1) hv)
end
def Cont.emptied:Cont→Cont
 | .s v=> .s v
 | .a _=> .a []
 | .h _=> .h []
def S.clearVals (σ:S) (ds:List Nat):S:= {σ with th:=λ m=>if m∈ds then {σ.th m with c:= .s .none} else σ.th m}
def S.freed (σ:S) (n:Nat):S:=σ.setTh n {σ.th n with fr:=true}
def S.free3 (σ:S) (n:Nat):S:=((σ.freed n).clearVals (σ.th n).weak).setWeak n []
def S.free4 (σ:S) (n:Nat):S:=match ((σ.free3 n).th n).c with
 | .s old=>((σ.free3 n).setVal n .none).putOff n old
 | _=>σ.free3 n
def S.empty (σ:S) (n:Nat):S:=σ.setTh n {σ.th n with c:=(σ.th n).c.emptied}
def S.free (σ:S) (n:Nat):S:=(members ((σ.free4 n).th n).c).foldl S.letGo ((σ.free4 n).empty n)
section
variable {σ:S} {n m s:Nat}
theorem setTh_self:σ.setTh n (σ.th n)=σ:=by
 unfold S.setTh
 have:(λ m=>if m=n then σ.th n else σ.th m)=σ.th:=by
  funext m;split
  ·subst_vars;rfl
  ·rfl
 rw [this]
theorem clearVals_nil:σ.clearVals []=σ:=by unfold S.clearVals;simp
theorem clearVals_snoc {ds:List Nat}:(σ.clearVals ds).setVal s .none=σ.clearVals (ds ++ [s]):=by
 unfold S.clearVals S.setVal S.setTh
 congr 1
 funext m
 dsimp only
 by_cases h1:m=s
 ·subst h1
  simp only [if_true,List.mem_append,List.mem_singleton,or_true]
  split <;> rfl
 ·simp [h1]
theorem clearVals_weak {ds:List Nat}:((σ.clearVals ds).th m).weak=(σ.th m).weak:=by
 unfold S.clearVals;dsimp only;split <;> rfl
theorem freed_weak:((σ.freed n).th m).weak=(σ.th m).weak:=by
 unfold S.freed;rw [th_setTh];split
 ·subst_vars;rfl
 ·rfl
theorem freed_c:((σ.freed n).th m).c=(σ.th m).c:=by
 unfold S.freed;rw [th_setTh];split
 ·subst_vars;rfl
 ·rfl
theorem note_zero:(σ.note n).zero.length≤σ.zero.length+1:=by
 unfold S.note;split
 ·simp
 ·omega
theorem letGo_zero:(σ.letGo n).zero.length≤σ.zero.length+1:=note_zero
theorem foldLet_zero: ∀ (ds:List Nat) (σ:S),(ds.foldl S.letGo σ).zero.length≤σ.zero.length+ds.length
 | [],σ=>by simp
 | d :: ds,σ=>by
  have h1:=foldLet_zero ds (σ.letGo d)
  have h2:=letGo_zero (σ:=σ) (n:=d)
  simp only [List.foldl_cons,List.length_cons]
  omega
theorem putOff_zero {v:PV}:(σ.putOff s v).zero.length≤σ.zero.length+1:=by
 cases v with
 | none=>simp [S.putOff]
 | int i=>simp [S.putOff]
 | ref m=>exact letGo_zero
 | weak m=>simp [S.putOff,S.setWeak,S.setTh]
theorem note_last:(σ.note n).last=σ.last:=by unfold S.note;split <;> rfl
theorem putOff_last {v:PV}:(σ.putOff s v).last=σ.last:=by
 cases v with
 | ref m=>exact note_last
 | _=>rfl
theorem note_lkT:(σ.note n).lkT=σ.lkT:=by unfold S.note;split <;> rfl
theorem putOff_lkT {v:PV}:(σ.putOff s v).lkT=σ.lkT:=by
 cases v with
 | ref m=>exact note_lkT
 | _=>rfl
theorem note_th:(σ.note n).th=σ.th:=by unfold S.note;split <;> rfl
theorem letGo_c:((σ.letGo n).th m).c=(σ.th m).c:=by
 unfold S.letGo;rw [note_th];unfold S.setCnt;rw [th_setTh];split
 ·subst_vars;rfl
 ·rfl
theorem putOff_c {v:PV}:((σ.putOff s v).th m).c=(σ.th m).c:=by
 cases v with
 | none=>rfl
 | int i=>rfl
 | ref k=>exact letGo_c
 | weak k =>
  unfold S.putOff S.setWeak;dsimp only;rw [th_setTh];split
  ·subst_vars;rfl
  ·rfl
theorem free4_zero:(σ.free4 n).zero.length≤σ.zero.length+1:=by
 unfold S.free4;split
 ·exact putOff_zero
 ·exact Nat.le_succ _
theorem free4_last:(σ.free4 n).last=σ.last:=by
 unfold S.free4;split
 ·exact putOff_last
 ·rfl
theorem free4_lkT:(σ.free4 n).lkT=σ.lkT:=by
 unfold S.free4;split
 ·exact putOff_lkT
 ·rfl
end
section
variable {K:Ad} {own own':Own} {σ σ':S} {μ:Mem} {α:Type}
variable {Q:AV→Mem→Prop} {v c s:AV} {n k:Nat}
theorem wp_emptyOut (R:Rep K own σ μ) (h:at_ own v (.thing n)) (hn:n≤σ.last) (hlk:σ.lkT n=false) (hq: ∀ own' μ',Ext own own'→Rep K own' (σ.empty n) μ'→Q .none μ'):wp (f_empty_out v) Q μ:=by
 unfold f_empty_out f_empty_out_b
 walk_at "w-s"
 rw [wp_isT R h]
 unfold S.empty at hq
 cases hc:(σ.th n).c with
 | a xs =>
  rw [hc] at hq
  simp only [Cont.cl];walk_at "w-s"
  refine wp_alC R (.nw (.list [])) (by simp) λ own1 μ1 i e1 h1 j1 b1 R1=> ?_
  refine wp_setItems R1 (h.th e1) hc h1 hn λ own2 μ2 e2 R2=> ?_
  exact hq own2 μ2 (e1.trans e2) R2
 | s pv =>
  simp only [Cont.cl];walk_at "w-s"
  rw [wp_isT R h,hc]
  simp only [Cont.cl];walk_at "w-s"
  rw [wp_isT R h,hc]
  simp only [Cont.cl];walk_at "w-s"
  rw [wp_isT R h,hc]
  simp only [Cont.cl];walk_at "w-s"
  refine hq own μ Ext.refl ?_
  have:({σ.th n with c:=(σ.th n).c.emptied}:Th)=σ.th n:=by rw [hc];show ({σ.th n with c:= .s pv}:Th)=_;rw [← hc]
  rw [this,setTh_self];exact R
 | h es =>
  rw [hc] at hq
  simp only [Cont.cl];walk_at "w-s"
  rw [wp_isT R h,hc]
  simp only [Cont.cl];walk_at "w-s"
  refine wp_alC R (.nw (.dS false [])) (by simp) λ own1 μ1 i e1 h1 j1 b1 R1=> ?_
  refine wp_setTab R1 (h.th e1) hc hlk h1 hn λ own2 μ2 e2 R2=> ?_
  refine wp_setAt R2 ((h.th e1).th e2) (es:=[]) (by rw [setTh_same]) λ μ3 R3=> ?_
  exact hq own2 μ3 (e1.trans e2) R3
structure FreeOk (σ:S) (n:Nat):Prop where
 ws: ∀ s∈(σ.th n).weak,∃ v,(σ.th s).c= .s v
 zb:σ.zero.length+(members (σ.th n).c).length+2≤big
 nl:n≤σ.last
 ko:KeysOk (σ.th n).c
 lk: ∀ m,σ.lkT m=false
 wk: ∀ m,(σ.th n).c= .s (.weak m)→(σ.th m).weak.length≤big∧m≤σ.last
theorem free3_c (ok:FreeOk σ n):((σ.free3 n).th n).c=(σ.th n).c∨((∃ v,(σ.th n).c= .s v)∧((σ.free3 n).th n).c= .s .none):=by
 have e:((σ.free3 n).th n).c=(((σ.freed n).clearVals (σ.th n).weak).th n).c:=by unfold S.free3 S.setWeak;rw [setTh_same]
 rw [e]
 unfold S.clearVals
 dsimp only
 split
 ·rename_i q;exact .inr ⟨ok.ws n q,rfl⟩
 ·left;exact freed_c
theorem wp_free (R:Rep K own σ μ) (h:at_ own v (.thing n)) (ok:FreeOk σ n) (hq: ∀ own' μ',Ext own own'→Rep K own' (σ.free n) μ'→Q .none μ'):wp (f_Counter_free (.obj K.counter) v) Q μ:=by
 unfold f_Counter_free f_Counter_free_b
 walk_at "w-s"
 refine wp_setFr R h λ μ1 R1=> ?_
 have R1:Rep K own (σ.freed n) μ1:=R1
 refine wp_weak R1 h λ w hw=> ?_
 obtain ⟨i,vs,rfl,hi,hvs,e⟩:=R1.weakL hw
 have hvs:Things own vs (σ.th n).weak:=by rw [← freed_weak (σ:=σ) (n:=n) (m:=n)];exact hvs
 refine wp_forLl (λ xs _ μ'=> ∃ ds ns,(σ.th n).weak=ds ++ ns∧Things own xs ns∧Rep K own ((σ.freed n).clearVals ds) μ') e ⟨[],_,rfl,hvs,by rw [clearVals_nil];exact R1⟩ (λ xs _ μ' h'=> ?_) (λ x xs _ μ' h'=> ?_) (λ _ μ' h'=> ?_)
 ·obtain ⟨ds,ns,e1,e2,R2⟩:=h'
  obtain ⟨i',vs',q1,q2,q3,q4⟩:=R2.weakL (w:= .obj i) ⟨i,rfl,hi⟩
  rw [clearVals_weak,freed_weak] at q3
  cases q1
  rw [q4,Things.eq R2 q3 hvs]
 ·obtain ⟨ds,ns,e1,e2,R2⟩:=h'
  cases e2 with
  | @cons _ b _ bs h1 h2 =>
  walk_at "w-s"
  have hsc: ∃ v,(((σ.freed n).clearVals ds).th b).c= .s v:=by
   obtain ⟨v,hv⟩:=ok.ws b (by rw [e1];simp)
   unfold S.clearVals
   dsimp only
   split
   ·exact ⟨_,rfl⟩
   ·exact ⟨v,by rw [freed_c];exact hv⟩
  obtain ⟨v',hv'⟩:=hsc
  refine wp_setValue (pv:= .none) R2 h1 hv' rfl λ μ3 R3=> ?_
  refine ⟨ds ++ [b],bs,by rw [e1];simp,h2,?_⟩
  rw [← clearVals_snoc];exact R3
 ·obtain ⟨ds,ns,e1,e2,R2⟩:=h'
  cases e2
  rw [List.append_nil] at e1
  rw [← e1] at R2
  clear e1
  walk_at "w-s"
  refine wp_alC R2 (.nw (.list [])) (by simp) λ own3 μ3 a e3 h3 j3 b3 R3=> ?_
  refine wp_setWeak R3 (h.th e3) h3 .nil ok.nl λ own4 μ4 e4 R4=> ?_
  have R4:Rep K own4 (σ.free3 n) μ4:=R4
  have h4:at_ own4 v (.thing n):=(h.th e3).th e4
  have e34:=e3.trans e4
  rw [wp_isT R4 h4]
  have rest: ∀ own5 μ5,Ext own own5→Rep K own5 (σ.free4 n) μ5→wp (f_held_by v) (λ v_gone μ=>wp (f_empty_out v) (λ a μ=>wp (forL (λ _=>[some (.obj K.counter),some v,none,none,some v_gone,none,none,none,none,none]) v_gone () λ _ v_one =>
    bd (bd (rt (.obj K.counter)) λ o24=>bd (chk o24 .counter) λ _=>bd (rt v_one) λ a25=>f_Counter_let_go o24 a25) λ _ =>
    rt (.nxt ())) (thnQ (finQ Q) λ _=>rt (.nxt ())) μ) μ) μ5:=by
   intro own5 μ5 e5 R5
   have h5:=h.th e5
   have c4:((σ.free4 n).th n).c=(σ.th n).c∨((∃ v,(σ.th n).c= .s v)∧((σ.free4 n).th n).c= .s .none):=by
    have h3:=free3_c ok
    unfold S.free4
    split
    ·rename_i old ho
     right
     refine ⟨?_,by rw [putOff_c];unfold S.setVal;rw [setTh_same]⟩
     rcases h3 with q | q
     ·exact ⟨old,by rw [← q];exact ho⟩
     ·exact q.1
    ·exact h3
   have hmem:(members ((σ.free4 n).th n).c).length≤(members (σ.th n).c).length:=by
    rcases c4 with q | ⟨_,q⟩
    ·rw [q];exact Nat.le_refl _
    ·rw [q];simp [members]
   have hko:KeysOk ((σ.free4 n).th n).c:=by
    rcases c4 with q | ⟨_,q⟩
    ·rw [q];exact ok.ko
    ·rw [q];intro es h;cases h
   have zb:=ok.zb
   refine wp_heldBy R5 h5 hko (by omega) (by rw [free4_lkT];exact ok.lk n) λ own6 μ6 a vs6 e6 h6 hv6 R6=> ?_
   refine wp_emptyOut R6 (h5.th e6) (by rw [free4_last];exact ok.nl) (by rw [free4_lkT];exact ok.lk n) λ own7 μ7 e7 R7=> ?_
   have h7:own7 a= .tm (.list vs6):=e7.at h6 rfl
   refine wp_forLl (λ xs _ μ'=> ∃ ds ns own',members ((σ.free4 n).th n).c=ds ++ ns∧Ext own7 own'∧Things own' xs ns∧Rep K own' (ds.foldl S.letGo ((σ.free4 n).empty n)) μ') (R7.tm h7) ⟨[],_,own7,rfl,Ext.refl,hv6.ext e7,R7⟩ (λ xs _ μ' h'=> ?_) (λ x xs _ μ' h'=> ?_) (λ _ μ' h'=> ?_)
   ·obtain ⟨ds,ns,own8,q1,q2,q3,R8⟩:=h'
    exact R8.tm (q2.at h7 rfl)
   ·obtain ⟨ds,ns,own8,q1,q2,q3,R8⟩:=h'
    cases q3 with
    | @cons _ b _ bs h1 h2 =>
    walk_at "w-s"
    rw [wp_chkC R8]
    refine wp_letGo R8 h1 ?_ λ μ9 R9=> ?_
    ·have z1:=foldLet_zero ds ((σ.free4 n).empty n)
     have z2:((σ.free4 n).empty n).zero=(σ.free4 n).zero:=rfl
     have z3:=free4_zero (σ:=σ) (n:=n)
     rw [z2] at z1
     have:ds.length < (members ((σ.free4 n).th n).c).length:=by rw [q1];simp
     omega
    ·refine ⟨ds ++ [b],bs,own8,by rw [q1];simp,q2,h2,?_⟩
     rw [List.foldl_append];exact R9
   ·obtain ⟨ds,ns,own8,q1,q2,q3,R8⟩:=h'
    cases q3
    rw [List.append_nil] at q1
    walk_at "w-s"
    refine hq own8 μ' ((e5.trans e6).trans (e7.trans q2)) ?_
    unfold S.free
    rw [q1];exact R8
  have h3c:=free3_c ok
  cases hc:((σ.free3 n).th n).c with
  | s old =>
   have hf4:σ.free4 n=((σ.free3 n).setVal n .none).putOff n old:=by unfold S.free4;rw [hc]
   simp only [Cont.cl];walk_at "w-s"
   rw [wp_cPlaces R4,wp_chkP R4,wp_number R4 h4,wp_popP R4]
   refine wp_value R4 h4 hc λ o ho=> ?_
   refine wp_setValue (pv:= .none) R4 h4 hc rfl λ μ5 R5=> ?_
   rw [wp_chkC R5]
   have zb:=ok.zb
   refine wp_putOff R5 h4 ho (by show σ.zero.length < big;omega) (λ m hm=> ?_) λ own6 μ6 e6 R6=> ?_
   ·subst hm
    have hw':(σ.th n).c= .s (.weak m):=by
     rcases h3c with q | ⟨_,q⟩
     ·rw [← q];exact hc
     ·rw [hc] at q;cases q
    obtain ⟨b1,b2⟩:=ok.wk m hw'
    refine ⟨?_,b2⟩
    have:(((σ.free3 n).setVal n .none).th m).weak.length≤(σ.th m).weak.length:=by
     rw [setVal_weak]
     unfold S.free3 S.setWeak
     rw [th_setTh]
     split
     ·simp
     ·rw [clearVals_weak,freed_weak];exact Nat.le_refl _
    exact Nat.le_trans this b1
   ·exact rest own6 μ6 (e34.trans e6) (by rw [hf4];exact R6)
  | a xs =>
   simp only [Cont.cl];walk_at "w-s"
   exact rest own4 μ4 e34 (by unfold S.free4;rw [hc];exact R4)
  | h es =>
   simp only [Cont.cl];walk_at "w-s"
   exact rest own4 μ4 e34 (by unfold S.free4;rw [hc];exact R4)
end
def nins (i:Nat):List Nat→List Nat
 | []=>[i]
 | j :: r=>if i≤j then i :: j :: r else j :: nins i r
def nsort:List Nat→List Nat
 | []=>[]
 | i :: r=>nins i (nsort r)
theorem ins_nums (i:Nat): ∀ ns:List Nat,ins (i:Int) (ns.map λ n:Nat=>(n:Int))=(nins i ns).map λ n:Nat=>(n:Int)
 | []=>rfl
 | j :: r=>by
  simp only [List.map_cons,ins,nins]
  by_cases q:i≤j
  ·have:(i:Int)≤j:=by omega
   simp [q]
  ·have: ¬ (i:Int)≤j:=by omega
   simp [q,ins_nums i r]
theorem isort_nums: ∀ ns:List Nat,isort (ns.map λ n:Nat=>(n:Int))=(nsort ns).map λ n:Nat=>(n:Int)
 | []=>rfl
 | i :: r=>by simp only [List.map_cons,isort,nsort,isort_nums r,ins_nums]
theorem nins_len (i:Nat): ∀ ns,(nins i ns).length=ns.length+1
 | []=>rfl
 | j :: r=>by unfold nins;split <;> simp [nins_len i r]
theorem nsort_len: ∀ ns,(nsort ns).length=ns.length
 | []=>rfl
 | i :: r=>by unfold nsort;rw [nins_len,nsort_len r];rfl
theorem nins_mem {i k:Nat}: ∀ {ns},k∈nins i ns↔k=i∨k∈ns
 | []=>by simp [nins]
 | j :: r=>by
  unfold nins
  split
  ·simp
  ·simp only [List.mem_cons,nins_mem (ns:=r)]
   constructor
   ·rintro (h | h | h)
    ·exact .inr (.inl h)
    ·exact .inl h
    ·exact .inr (.inr h)
   ·rintro (h | h | h)
    ·exact .inr (.inl h)
    ·exact .inl h
    ·exact .inr (.inr h)
theorem nsort_mem {k:Nat}: ∀ {ns},k∈nsort ns↔k∈ns
 | []=>by simp [nsort]
 | i :: r=>by unfold nsort;rw [nins_mem,nsort_mem (ns:=r),List.mem_cons]
def addK (fs:List Nat) (n:Nat):List Nat:=if n∈fs then fs else fs ++ [n]
def S.isDy (σ:S) (n:Nat):Bool:=decide ((σ.th n).cnt=0) && !(σ.th n).fr
def S.keys (σ:S) (ns:List Nat):List Nat:=ns.foldl (λ fs n=>if σ.isDy n then addK fs n else fs) []
theorem addK_len (fs:List Nat) (n:Nat):(addK fs n).length≤fs.length+1:=by unfold addK;split <;> simp
theorem keys_snoc {σ:S} {ds:List Nat} {n:Nat}:σ.keys (ds ++ [n])=if σ.isDy n then addK (σ.keys ds) n else σ.keys ds:=by
 unfold S.keys;rw [List.foldl_append];rfl
theorem keys_len {σ:S} (ns:List Nat):(σ.keys ns).length≤ns.length:=by
 have: ∀ (ns fs:List Nat),(ns.foldl (λ fs n=>if σ.isDy n then addK fs n else fs) fs).length≤fs.length+ns.length:=by
  intro ns
  induction ns with
  | nil=>intro fs;simp
  | cons n ns ih =>
   intro fs
   simp only [List.foldl_cons,List.length_cons]
   refine Nat.le_trans (ih _) ?_
   split
   ·have:=addK_len fs n;omega
   ·omega
 have h:=this ns []
 simp only [List.length_nil,Nat.zero_add] at h
 exact h
theorem put_addK {R:AV→Nat→Prop} {es:List (Int × AV)} {ns:List Nat} (h:L2 (λ e (n:Nat)=>e.1=(n:Int)∧R e.2 n) es ns) {n:Nat} {x:AV} (hx:R x n):L2 (λ e (n:Nat)=>e.1=(n:Int)∧R e.2 n) (put (n:Int) x es) (addK ns n):=by
 by_cases q:n∈ns
 ·unfold addK
  rw [if_pos q]
  induction h with
  | nil=>simp at q
  | @cons a b as bs h1 h2 ih =>
   unfold put
   rw [h1.1]
   by_cases z:b=n
   ·subst z
    simp only [if_true]
    exact .cons ⟨rfl,hx⟩ h2
   ·have: ¬ (b:Int)=n:=by omega
    simp only [this,if_false]
    refine .cons h1 (ih ?_)
    rcases List.mem_cons.mp q with rfl | q
    ·exact absurd rfl z
    ·exact q
 ·unfold addK
  rw [if_neg q]
  exact put_keys h q hx
section
variable {K:Ad} {own own':Own} {σ σ':S} {μ:Mem} {α:Type}
variable {Q:AV→Mem→Prop} {v c s:AV} {n k:Nat}
theorem getI_dI {i:Nat} {lk:Bool} {es:List (Int × AV)} {k:Int} {y:AV} (e:μ[i]? =some (.dI lk es)) (h:get k es=some y):getI (.obj i) (.int k) μ=some (y,μ):=by
 simp only [getI,bd,rd,e,h,opt,rt]
theorem keysL2 {R:AV→Nat→Prop} {es:List (Int × AV)} {ns:List Nat} (h:L2 (λ e (n:Nat)=>e.1=(n:Int)∧R e.2 n) es ns):es.map (·.1)=ns.map λ n:Nat=>(n:Int):=by
 induction h with
 | nil=>rfl
 | cons h _ ih=>simp [h.1,ih]
theorem wp_slFromZero (R:Rep K own σ μ) {z:AV} (h:at_ own z .zero) (hq: ∀ own' μ' a vs,Ext own own'→own' a= .tm (.list vs)→Things own' vs σ.zero→Rep K own' σ μ'→Q (.obj a) μ'):wp (slFrom z (.int 0)) Q μ:=by
 obtain ⟨i,vs,rfl,hi,hv,e⟩:=R.zeroL h
 unfold slFrom
 simp only [Int.le_refl,if_true,wp_bd]
 refine wp_of (rdL_eq e) ?_
 show wp (al (.list vs)) Q μ
 exact wp_alC R (.tm (.list vs)) (by simp) λ own1 μ1 a e1 h1 j1 b1 R1=>hq own1 μ1 a vs e1 h1 (hv.ext e1) R1
theorem wp_slToZero (R:Rep K own σ μ) {z:AV} (h:at_ own z .zero) (hq: ∀ own' μ' a,Ext own own'→own' a= .nw (.list [])→Rep K own' σ μ'→Q (.obj a) μ'):wp (slTo z (.int 0)) Q μ:=by
 obtain ⟨i,vs,rfl,hi,hv,e⟩:=R.zeroL h
 unfold slTo
 simp only [Int.le_refl,if_true,wp_bd]
 refine wp_of (rdL_eq e) ?_
 show wp (al (.list [])) Q μ
 exact wp_alC R (.nw (.list [])) (by simp) λ own1 μ1 a e1 h1 j1 b1 R1=>hq own1 μ1 a e1 h1 R1
theorem setI_dI {i:Nat} {es:List (Int × AV)} {k:Int} {x:AV} (e:μ[i]? =some (.dI false es)) (hl:es.length < big):setI (.obj i) (.int k) x μ=some ((),μ.set i (.dI false (put k x es))):=by
 simp [setI,bd,rd,e,hl,wr]
theorem wp_inOrder (R:Rep K own σ μ) {i:Nat} {vs:List AV} {ns:List Nat} (hi:own i= .tm (.list vs)) (hv:Things own vs ns) (hl:ns.length≤big) (hk:(σ.keys ns).length < 64)
  (hq: ∀ own' μ' a ws,Ext own own'→own' a= .tm (.list ws)→Things own' ws (nsort (σ.keys ns))→Rep K own' σ μ'→Q (.obj a) μ'):wp (f_in_order (.obj i)) Q μ:=by
 unfold f_in_order f_in_order_b
 walk_at "w-s"
 refine wp_alC R (.nw (.dI false [])) (by simp) λ own1 μ1 f e1 h1 j1 b1 R1=> ?_
 refine wp_forLl (λ xs _ μ'=> ∃ ds ns' own' es,ns=ds ++ ns'∧Ext own1 own'∧own' f= .nw (.dI false es)∧L2 (λ e (n:Nat)=>e.1=(n:Int)∧at_ own' e.2 (.thing n)) es (σ.keys ds)∧Things own' xs ns'∧Rep K own' σ μ')
  (R1.tm (e1.at hi rfl)) ⟨[],ns,own1,[],rfl,Ext.refl,h1, .nil,hv.ext e1,R1⟩ (λ xs _ μ' h=> ?_) (λ x xs _ μ' h=> ?_) (λ _ μ' h=> ?_)
 ·obtain ⟨ds,ns',own2,es,q1,q2,q3,q4,q5,R2⟩:=h
  exact R2.tm (q2.at (e1.at hi rfl) rfl)
 ·obtain ⟨ds,ns',own2,es,q1,q2,q3,q4,q5,R2⟩:=h
  cases q5 with
  | @cons _ b _ bs p1 p2 =>
  walk_at "w-s"
  rw [wp_count R2 p1]
  walk_at "w-s"
  have hdy:σ.isDy b=(decide ((σ.th b).cnt=0) && !(σ.th b).fr):=rfl
  have skip:σ.isDy b=false→ ∃ ds ns' own' es,ns=ds ++ ns'∧Ext own1 own'∧own' f= .nw (.dI false es)∧L2 (λ e (n:Nat)=>e.1=(n:Int)∧at_ own' e.2 (.thing n)) es (σ.keys ds)∧Things own' xs ns'∧Rep K own' σ μ':=λ hd =>
   ⟨ds ++ [b],bs,own2,es,by rw [q1];simp,q2,q3,by rw [keys_snoc,hd];exact q4,p2,R2⟩
  by_cases z:(σ.th b).cnt=0
  ·simp only [z];walk_at "w-s"
   rw [wp_fr R2 p1]
   cases hfr:(σ.th b).fr with
   | true=>walk_at "w-s";rw [loopQ_nxt];exact skip (by rw [hdy,hfr];simp)
   | false =>
    walk_at "w-s"
    rw [wp_number R2 p1]
    have hes:es.length < big:=by
     rw [q4.len]
     have:=keys_len (σ:=σ) ds
     have:ns.length=ds.length+(bs.length+1):=by rw [q1];simp
     omega
    refine wp_of (setI_dI (R2.nw q3) hes) ?_
    rw [loopQ_nxt]
    have ee:Ext own2 (up own2 f (.nw (.dI false (put (b:Int) x es)))):=Ext.up (by rw [q3];rfl)
    refine ⟨ds ++ [b],bs,_,_,by rw [q1];simp,q2.trans ee,up_same,?_,Things.ext p2 ee,R2.nwSet q3⟩
    rw [keys_snoc,show σ.isDy b=true by rw [hdy,hfr,z];rfl,if_pos rfl]
    exact put_addK (R:=λ v n=>at_ (up own2 f (.nw (.dI false (put (b:Int) x es)))) v (.thing n)) (q4.imp λ e n h=>⟨h.1,h.2.th ee⟩) (p1.th ee)
  ·simp only [z];walk_at "w-s";rw [loopQ_nxt];exact skip (by rw [hdy];simp [z])
 ·obtain ⟨ds,ns',own2,es,q1,q2,q3,q4,q5,R2⟩:=h
  cases q5
  rw [List.append_nil] at q1
  subst q1
  walk_at "w-s"
  have hkeys:=keysL2 (R:=λ v n=>at_ own2 v (.thing n)) q4
  unfold sortedD
  simp only [wp_bd]
  refine wp_of (show rd f μ'=some (.dI false es,μ') by simp [rd,R2.nw q3]) ?_
  have hes:es.length < 64:=by rw [q4.len];exact hk
  simp only [hes,if_true]
  rw [hkeys,isort_nums,List.map_map]
  refine wp_alC R2 (.tm (.list (nums (nsort (σ.keys ns))))) (by simp [nums,Function.comp_def]) λ own3 μ3 g e3 h3 j3 b3 R3=> ?_
  have hf3:own3 f= .nw (.dI false es):=by
   rw [b3 f (λ q=>by rw [q,j3] at q3;cases q3)];exact q3
  have hes3:L2 (λ e (n:Nat)=>e.1=(n:Int)∧at_ own3 e.2 (.thing n)) es (σ.keys ns):=q4.imp λ e n h=>⟨h.1,h.2.th e3⟩
  have hget: ∀ n∈nsort (σ.keys ns),∃ y,get (n:Int) es=some y∧at_ own3 y (.thing n):=λ n hn=>(get_keys (R:=λ v n=>at_ own3 v (.thing n)) hes3 n).1 (nsort_mem.mp hn)
  refine wp_compR (λ _=>true) (λ k=>match k with | .int t=>(get t es).getD .none | _=> .none) (R3.tm h3) (by simp [nums,nsort_len];unfold big;omega) (λ x hx=>⟨rfl,λ _=> ?_⟩) ?_
  ·obtain ⟨n,hn,rfl⟩:=List.mem_map.mp hx
   obtain ⟨y,hy,_⟩:=hget n hn
   simp only [hy,Option.getD_some]
   exact getI_dI (R3.nw hf3) hy
  ·rw [List.filter_eq_self.mpr (λ _ _=>rfl)]
   refine wp_alC R3 (.tm (.list _)) (.inr (.inl rfl)) λ own4 μ4 a e4 h4 j4 b4 R4=>hq own4 μ4 a _ (((e1.trans q2).trans e3).trans e4) h4 ?_ R4
   have: ∀ ms:List Nat,(∀ m∈ms,m∈nsort (σ.keys ns))→Things own4 ((nums ms).map λ k=>match k with | .int t=>(get t es).getD .none | _=> .none) ms:=by
    intro ms
    induction ms with
    | nil=>intro _;exact .nil
    | cons m ms ih =>
     intro h
     obtain ⟨y,hy,hat⟩:=hget m (h m (by simp))
     refine .cons ?_ (ih λ k hk=>h k (by simp [hk]))
     simp only [hy,Option.getD_some]
     exact hat.th e4
   exact this _ λ m h=>h
end
local macro_rules | `(tactic| walk_at "w-s")=> `(tactic| try simp only [wp_fin,wp_bd,wp_rt,wp_thnG,thnQ_nxt,thnQ_ret,thnQ_cnt,finQ_nxt,finQ_ret,wp_notC,wp_andC,wp_orC,wp_tru,wp_iteT,wp_iteV,wp_eqI,wp_eqS,wp_eqB,wp_ne,wp_neg,wp_isN,wp_isNN,wp_lt,wp_gt,wp_add,wp_iadd,wp_sub,wp_mkL,wp_mkT,wp_evs0,wp_evs,wp_modL (k:=3) (by decide),wp_modL (k:=4) (by decide),Bool.not_true,Bool.not_false,if_tt,if_ff,Bool.false_eq_true,if_true,if_false,decide_true,decide_false,Bool.not_eq_true',reduceCtorEq])
def Ad.cv (K:Ad) (q:Nat):CV:=⟨.obj K.heard, .obj K.real, .int q, .obj K.roots, .obj K.box⟩
def S.hears (σ:S) (n:Nat):S:= {σ with heard:=σ.heard ++ [n]}
def S.destroy (σ:S) (q n:Nat):S:=if n % 3=q∧σ.roots≠[] then (σ.hears n).store (σ.roots.getD (n % 4) 0) (.ref n) else σ.hears n
def S.marked (σ:S) (n:Nat):S:=σ.setTh n {σ.th n with ds:=true}
def S.finish (σ:S) (q n:Nat):S:=if (σ.th n).cnt=0∧(σ.th n).bl=true∧(σ.th n).ds=false then
    let σ':=((σ.marked n).hold n).destroy q n
    σ'.setCnt n ((σ'.th n).cnt - 1) else σ
structure StoreOk (σ:S) (k:Nat):Prop where
 zb:σ.zero.length < big
 sc: ∃ old,(σ.th k).c= .s old∧ ∀ m,old= .weak m→(σ.th m).weak.length≤big∧m≤σ.last
structure DestroyOk (σ:S) (n:Nat):Prop where
 hb:σ.heard.length < big
 ro:σ.roots≠[]→ ∃ r,σ.roots[n % 4]? =some r∧r∈σ.real∧StoreOk σ r
section
variable {K:Ad} {own own':Own} {σ σ':S} {μ:Mem} {α:Type}
variable {Q:AV→Mem→Prop} {v c s:AV} {n k q:Nat}
theorem wp_destroy (R:Rep K own σ μ) (h:at_ own v (.thing n)) (ok:DestroyOk σ n) (hq: ∀ own' μ',Ext own own'→Rep K own' (σ.destroy q n) μ'→Q .none μ'):wp (f_destroy (K.cv q) v) Q μ:=by
 unfold f_destroy f_destroy_b Ad.cv
 walk_at "w-s"
 rw [wp_chkLE R,wp_number R h]
 refine wp_appHeard R ok.hb λ μ1 R1=> ?_
 rw [wp_number R1 h]
 walk_at "w-s"
 have R1:Rep K own (σ.hears n) μ1:=R1
 unfold S.destroy at hq
 by_cases q3:n % 3=q
 ·have:((n % 3:Nat):Int)=(q:Int):=by omega
  simp only [this];walk_at "w-s"
  refine wp_alC R1 (.tm (.list [])) (by simp) λ own2 μ2 a e2 h2 j2 b2 R2=> ?_
  rw [wp_eqNums R2.roots (ys:=[]) (R2.tm h2)]
  by_cases hr:σ.roots=[]
  ·have:(σ.hears n).roots=[]:=hr
   simp only [this];walk_at "w-s"
   rw [if_neg (λ z=>z.2 hr)] at hq
   exact hq own2 μ2 e2 R2
  ·have: ¬ (σ.hears n).roots=[]:=hr
   simp only [this];walk_at "w-s"
   rw [if_pos ⟨q3,hr⟩] at hq
   obtain ⟨r,hr1,hr2,hr3⟩:=ok.ro hr
   rw [wp_getBox R2,wp_chkC R2,wp_number R2 (h.th e2)]
   walk_at "w-s"
   rw [wp_getRoot R2 (m:=r) hr1]
   refine wp_getReal R2 hr2 λ x hx=> ?_
   refine wp_newRef (b:=false) R2 (h.th e2) λ own3 μ3 y e3 hy R3=> ?_
   obtain ⟨old,ho1,ho2⟩:=hr3.sc
   refine wp_store R3 (pv:= .ref n) (hx.th e3) (old:=old) ho1 hy hr3.zb ho2 λ own4 μ4 e4 R4=> ?_
   refine hq own4 μ4 ((e2.trans e3).trans e4) ?_
   have:σ.roots.getD (n % 4) 0=r:=by rw [List.getD_eq_getElem?_getD,hr1];rfl
   rw [this];exact R4
 ·have: ¬ ((n % 3:Nat):Int)=(q:Int):=by omega
  simp only [this];walk_at "w-s"
  rw [if_neg (λ z=>q3 z.1)] at hq
  exact hq own μ1 Ext.refl R1
theorem marked_c {m:Nat}:((σ.marked n).th m).c=(σ.th m).c:=by
 unfold S.marked;rw [th_setTh];split
 ·subst_vars;rfl
 ·rfl
theorem marked_weak {m:Nat}:((σ.marked n).th m).weak=(σ.th m).weak:=by
 unfold S.marked;rw [th_setTh];split
 ·subst_vars;rfl
 ·rfl
theorem wp_finish (R:Rep K own σ μ) (h:at_ own v (.thing n)) (ok:DestroyOk σ n) (hq: ∀ own' μ',Ext own own'→Rep K own' (σ.finish q n) μ'→Q .none μ'):wp (f_Counter_finish (K.cv q) (.obj K.counter) v) Q μ:=by
 unfold f_Counter_finish f_Counter_finish_b
 walk_at "w-s"
 rw [wp_count R h]
 walk_at "w-s"
 unfold S.finish at hq
 by_cases z:(σ.th n).cnt=0
 ·simp only [z];walk_at "w-s"
  rw [wp_blessed R h]
  walk_at "w-s"
  rw [blv_none]
  cases hb:(σ.th n).bl with
  | false =>
   walk_at "w-s"
   rw [if_neg (λ z=>by rw [hb] at z;cases z.2.1)] at hq
   exact hq own μ Ext.refl R
  | true =>
   walk_at "w-s"
   rw [wp_ds R h]
   cases hd:(σ.th n).ds with
   | true =>
    walk_at "w-s"
    rw [if_neg (λ z=>by rw [hd] at z;cases z.2.2)] at hq
    exact hq own μ Ext.refl R
   | false =>
    walk_at "w-s"
    rw [wp_cDestroy R]
    walk_at "w-s"
    rw [if_pos ⟨z,hb,hd⟩] at hq
    refine wp_setDs R h λ μ1 R1=> ?_
    rw [wp_count R1 h]
    walk_at "w-s"
    refine wp_setCount R1 h λ μ2 R2=> ?_
    have R2:Rep K own ((σ.marked n).hold n) μ2:=R2
    rw [wp_cDestroy R2]
    have ok2:DestroyOk ((σ.marked n).hold n) n:=by
     refine ⟨ok.hb,λ hr=> ?_⟩
     obtain ⟨r,h1,h2,h3⟩:=ok.ro hr
     obtain ⟨old,h4,h5⟩:=h3.sc
     refine ⟨r,h1,h2,h3.zb,old,by rw [hold_c,marked_c];exact h4,λ m hm=> ?_⟩
     rw [hold_weak,marked_weak];exact h5 m hm
    simp only [callD]
    refine wp_destroy R2 h ok2 λ own3 μ3 e3 R3=> ?_
    rw [wp_count R3 (h.th e3)]
    walk_at "w-s"
    refine wp_setCount R3 (h.th e3) λ μ4 R4=> ?_
    exact hq own3 μ4 e3 R4
 ·simp only [z];walk_at "w-s"
  rw [if_neg (λ h=>z h.1)] at hq
  exact hq own μ Ext.refl R
def S.free? (σ:S) (n:Nat):S:=if σ.isDy n then σ.free n else σ
def S.dying (σ:S):List Nat:=nsort (σ.keys σ.zero)
def S.round1 (σ:S) (q:Nat):S:=σ.dying.foldl (λ σ n=>σ.finish q n) {σ with zero:=[]}
def S.round (σ:S) (q:Nat):S:=σ.dying.foldl S.free? (σ.round1 q)
structure RoundOk (σ:S) (q:Nat):Prop where
 zl:σ.zero.length≤big
 kl:(σ.keys σ.zero).length < 64
 f1: ∀ ds n ns,σ.dying=ds ++ n :: ns→DestroyOk (ds.foldl (λ σ n=>σ.finish q n) {σ with zero:=[]}) n
 f2: ∀ ds n ns,σ.dying=ds ++ n :: ns→(ds.foldl S.free? (σ.round1 q)).isDy n=true→FreeOk (ds.foldl S.free? (σ.round1 q)) n
inductive Settles (q:Nat):Nat→S→S→Prop
 | stop {σ:S}:σ.zero=[]→Settles q 0 σ σ
 | step {σ σ':S} {k:Nat}:σ.zero≠[]→RoundOk σ q→Settles q k (σ.round q) σ'→Settles q (k+1) σ σ'
theorem wp_settle {j:Nat} (st:Settles q j σ σ') (hj:j < 1000) (R:Rep K own σ μ) (hq: ∀ own' μ',Ext own own'→Rep K own' σ' μ'→Q .none μ'):wp (f_Counter_settle (K.cv q) (.obj K.counter) (.int 0)) Q μ:=by
 unfold f_Counter_settle f_Counter_settle_b
 walk_at "w-s"
 have key: ∀ {j:Nat} {σ σ':S},Settles q j σ σ'→ ∀ {fuel:Nat},j < fuel→ ∀ {own:Own} {μ:Mem} {P:Fl Unit→Mem→Prop},Rep K own σ μ→(∀ own' μ',Ext own own'→Rep K own' σ' μ'→P (.nxt ()) μ') →
   wp (whl [some (.obj K.counter),some (.int 0),none,none,none,none] fuel (bd (bd (bd (bd (bd (rt (.obj K.counter)) λ a6=>getA a6 "heap") λ a5=>getA a5 "zero") λ a4=>lenM a4) λ a2=>bd (rt (.int 0)) λ a3=>gtM a2 a3) tru) (bd (bd (bd (bd (bd (rt (.obj K.counter)) λ a10=>getA a10 "heap") λ a9=>getA a9 "zero") λ a7=>bd (rt (.int 0)) λ a8=>slFrom a7 a8) λ a11=>f_in_order a11) λ v_dying =>
  bd (bd (bd (bd (rt (.obj K.counter)) λ a17=>getA a17 "heap") λ a16=>getA a16 "zero") λ a14=>bd (rt (.int 0)) λ a15=>slTo a14 a15) λ x12=>bd (bd (rt (.obj K.counter)) λ a18=>getA a18 "heap") λ o13=>bd (setA o13 "zero" x12) λ _ =>
  thnG (λ _=>[some (.obj K.counter),some (.int 0),some v_dying,none,none,none]) (bd (rt v_dying) λ a19=>forL (λ _=>[some (.obj K.counter),some (.int 0),some v_dying,none,none,none]) a19 () λ _ v_thing =>
   bd (bd (rt (.obj K.counter)) λ o20=>bd (chk o20 .counter) λ _=>bd (rt v_thing) λ a21=>f_Counter_finish (K.cv q) o20 a21) λ _ =>
   rt (.nxt ())) λ _ =>
  thnG (λ _=>[some (.obj K.counter),some (.int 0),some v_dying,none,none,none]) (bd (rt v_dying) λ a22=>forL (λ _=>[some (.obj K.counter),some (.int 0),some v_dying,none,none,none]) a22 () λ _ v_thing =>
   bd (andC (bd (bd (bd (rt v_thing) λ a29=>getA a29 "count") λ a27=>bd (rt (.int 0)) λ a28=>eqM a27 a28) tru) (notC (bd (bd (rt v_thing) λ a31=>getA a31 "is_freed") tru))) λ c23=>if c23 then
    bd (bd (rt (.obj K.counter)) λ o24=>bd (chk o24 .counter) λ _=>bd (rt v_thing) λ a25=>f_Counter_free o24 a25) λ _ =>
    rt (.nxt ())
   else
    rt (.nxt ())) λ _ =>
  rt (.nxt ()))) P μ:=by
  intro j σ σ' st
  induction st with
  | @stop σ hz =>
   intro fuel hf own μ P R hP
   obtain ⟨fuel,rfl⟩: ∃ f,fuel=f+1:=⟨fuel - 1,by omega⟩
   unfold whl
   walk_at "w-s"
   rw [wp_cHeap R]
   refine wp_zero R λ z hz'=> ?_
   rw [wp_lenZero R hz',hz]
   walk_at "w-s"
   exact hP own μ Ext.refl R
  | @step σ σ' k hz ok _ ih =>
   intro fuel hf own μ P R hP
   obtain ⟨fuel,rfl⟩: ∃ f,fuel=f+1:=⟨fuel - 1,by omega⟩
   unfold whl
   walk_at "w-s"
   rw [wp_cHeap R]
   refine wp_zero R λ z hz'=> ?_
   rw [wp_lenZero R hz']
   have hpos:(0:Int) < (σ.zero.length:Int):=by
    have:0 < σ.zero.length:=List.length_pos_iff.mpr hz
    omega
   walk_at "w-s"
   simp only [hpos]
   walk_at "w-s"
   rw [wp_cHeap R]
   refine wp_zero R λ z1 hz1=> ?_
   refine wp_slFromZero R hz1 λ own1 μ1 a1 vs1 e1 h1 hv1 R1=> ?_
   refine wp_inOrder R1 h1 hv1 ok.zl ok.kl λ own2 μ2 a2 vs2 e2 h2 hv2 R2=> ?_
   rw [wp_cHeap R2]
   refine wp_zero R2 λ z2 hz2=> ?_
   refine wp_slToZero R2 hz2 λ own3 μ3 a3 e3 h3 R3=> ?_
   rw [wp_cHeap R3]
   refine wp_setZero R3 h3 .nil λ own4 μ4 e4 R4=> ?_
   have hd4:own4 a2= .tm (.list vs2):=(e3.trans e4).at h2 rfl
   have hv4:Things own4 vs2 σ.dying:=hv2.ext (e3.trans e4)
   refine wp_forLl (λ xs _ μ'=> ∃ ds ns own',σ.dying=ds ++ ns∧Ext own4 own'∧Things own' xs ns∧Rep K own' (ds.foldl (λ σ n=>σ.finish q n) {σ with zero:=[]}) μ') (R4.tm hd4) ⟨[],_,own4,rfl,Ext.refl,hv4,R4⟩ (λ xs _ μ' h'=> ?_) (λ x xs _ μ' h'=> ?_) (λ _ μ' h'=> ?_)
   ·obtain ⟨ds,ns,own8,q1,q2,q3,R8⟩:=h'
    exact R8.tm (q2.at hd4 rfl)
   ·obtain ⟨ds,ns,own8,q1,q2,q3,R8⟩:=h'
    cases q3 with
    | @cons _ b _ bs p1 p2 =>
    walk_at "w-s"
    rw [wp_chkC R8]
    refine wp_finish R8 p1 (ok.f1 _ _ _ q1) λ own9 μ9 e9 R9=> ?_
    rw [loopQ_nxt]
    refine ⟨ds ++ [b],bs,own9,by rw [q1];simp,q2.trans e9,Things.ext p2 e9,?_⟩
    rw [List.foldl_append];exact R9
   ·obtain ⟨ds,ns,own8,q1,q2,q3,R8⟩:=h'
    cases q3
    rw [List.append_nil] at q1
    rw [← q1] at R8
    clear q1
    walk_at "w-s"
    have R8:Rep K own8 (σ.round1 q) μ':=R8
    have hd8:=q2.at hd4 rfl
    refine wp_forLl (λ xs _ μ'=> ∃ ds ns own',σ.dying=ds ++ ns∧Ext own8 own'∧Things own' xs ns∧Rep K own' (ds.foldl S.free? (σ.round1 q)) μ') (R8.tm hd8) ⟨[],_,own8,rfl,Ext.refl,hv4.ext q2,R8⟩ (λ xs _ μ' h'=> ?_) (λ x xs _ μ' h'=> ?_) (λ _ μ' h'=> ?_)
    ·obtain ⟨ds,ns,own9,q4,q5,q6,R9⟩:=h'
     exact R9.tm (q5.at hd8 rfl)
    ·obtain ⟨ds,ns,own9,q4,q5,q6,R9⟩:=h'
     cases q6 with
     | @cons _ b _ bs p1 p2 =>
     walk_at "w-s"
     rw [wp_count R9 p1]
     walk_at "w-s"
     have next: ∀ own10 μ10,Ext own9 own10→Rep K own10 (S.free? (ds.foldl S.free? (σ.round1 q)) b) μ10→ ∃ ds ns own',σ.dying=ds ++ ns∧Ext own8 own'∧Things own' xs ns∧Rep K own' (ds.foldl S.free? (σ.round1 q)) μ10:=λ own10 μ10 e10 R10 =>
      ⟨ds ++ [b],bs,own10,by rw [q4];simp,q5.trans e10,Things.ext p2 e10,by rw [List.foldl_append];exact R10⟩
     have hdy:(ds.foldl S.free? (σ.round1 q)).isDy b=(decide (((ds.foldl S.free? (σ.round1 q)).th b).cnt=0) && !((ds.foldl S.free? (σ.round1 q)).th b).fr):=rfl
     by_cases z:((ds.foldl S.free? (σ.round1 q)).th b).cnt=0
     ·simp only [z];walk_at "w-s"
      rw [wp_fr R9 p1]
      cases hfr:((ds.foldl S.free? (σ.round1 q)).th b).fr with
      | true =>
       walk_at "w-s";rw [loopQ_nxt]
       refine next own9 _ Ext.refl ?_
       rw [S.free?,if_neg (by rw [hdy,hfr];simp)];exact R9
      | false =>
       walk_at "w-s"
       have hd:(ds.foldl S.free? (σ.round1 q)).isDy b=true:=by rw [hdy,hfr,z];rfl
       rw [wp_chkC R9]
       refine wp_free R9 p1 (ok.f2 _ _ _ q4 hd) λ own10 μ10 e10 R10=> ?_
       rw [loopQ_nxt]
       refine next own10 _ e10 ?_
       rw [S.free?,if_pos hd];exact R10
     ·simp only [z];walk_at "w-s";rw [loopQ_nxt]
      refine next own9 _ Ext.refl ?_
      rw [S.free?,if_neg (by rw [hdy];simp [z])];exact R9
    ·obtain ⟨ds,ns,own9,q4,q5,q6,R9⟩:=h'
     cases q6
     rw [List.append_nil] at q4
     rw [← q4] at R9
     walk_at "w-s"
     refine ih (by omega) R9 λ own10 μ10 e10 R10=> ?_
     exact hP own10 μ10 (((((e1.trans e2).trans e3).trans e4).trans q2).trans (q5.trans e10)) R10
 refine key st hj R λ own' μ' e R'=> ?_
 walk_at "w-s"
 exact hq own' μ' e R'
end
theorem sSS:decide ("S" ="S")=true:=rfl
theorem sSA:decide ("S" ="A")=false:=rfl
theorem sSH:decide ("S" ="H")=false:=rfl
theorem sAS:decide ("A" ="S")=false:=rfl
theorem sAA:decide ("A" ="A")=true:=rfl
theorem sAH:decide ("A" ="H")=false:=rfl
theorem sHS:decide ("H" ="S")=false:=rfl
theorem sHA:decide ("H" ="A")=false:=rfl
theorem sHH:decide ("H" ="H")=true:=rfl
theorem sWR:decide ("weak" ="ref")=false:=rfl
theorem sRR:decide ("ref" ="ref")=true:=rfl
local macro_rules | `(tactic| walk_at "w-s")=> `(tactic| try simp only [wp_fin,wp_bd,wp_rt,wp_thnG,thnQ_nxt,thnQ_ret,thnQ_cnt,finQ_nxt,finQ_ret,wp_notC,wp_andC,wp_orC,wp_tru,wp_iteT,wp_iteV,wp_eqI,wp_eqS,wp_eqB,wp_ne,wp_neg,wp_isN,wp_isNN,wp_lt,wp_gt,wp_add,wp_iadd,wp_sub,wp_mkL,wp_mkT,wp_evs0,wp_evs,wp_modL (k:=3) (by decide),wp_modL (k:=4) (by decide),Bool.not_true,Bool.not_false,if_tt,if_ff,Bool.false_eq_true,if_true,if_false,decide_true,decide_false,Bool.not_eq_true',reduceCtorEq, ↓reduceIte,sSS,sSA,sSH,sAS,sAA,sAH,sHS,sHA,sHH,sWR,sRR])
def goals:Cont→List Nat
 | .s (.ref n)=>[n]
 | .s _=>[]
 | .a xs=>xs
 | .h es=>es.map (·.2)
def degOver (row:Nat→Row) (ns:List Nat) (n:Nat):Nat:=(ns.map λ m=>(goals (row m).c).count n).sum
def S.deg (σ:S) (n:Nat):Nat:=σ.roots.count n+degOver σ.row σ.wk n
def lenOver (row:Nat→Row) (ns:List Nat):Nat:=(ns.map λ m=>(goals (row m).c).length).sum
def S.degLen (σ:S):Nat:=σ.roots.length+lenOver σ.row σ.wk
def DegD (f:Nat→Nat) (es:List (Int × AV)):Prop:= ∀ n:Nat,(get (n:Int) es).getD (.int 0)= .int (f n)
theorem get_put_same {es:List (Int × AV)} {k:Int} {x:AV}:get k (put k x es)=some x:=by
 induction es with
 | nil=>simp [put,get]
 | cons e es ih =>
  unfold put
  split
  ·unfold get;simp
  ·rename_i h;unfold get;simp [h,ih]
theorem get_put_ne {es:List (Int × AV)} {k j:Int} {x:AV} (h:j≠k):get j (put k x es)=get j es:=by
 induction es with
 | nil=>simp [put,get,h.symm]
 | cons e es ih =>
  unfold put
  split
  ·rename_i q
   unfold get
   simp [h.symm,q]
  ·unfold get;simp [ih]
theorem put_len (k:Int) (x:AV): ∀ es:List (Int × AV),(put k x es).length≤es.length+1
 | []=>by simp [put]
 | e :: r=>by
  unfold put
  split
  ·simp
  ·have:=put_len k x r;simp;omega
theorem DegD.bump {f:Nat→Nat} {es:List (Int × AV)} (h:DegD f es) (n:Nat):DegD (λ m=>f m+if m=n then 1 else 0) (put (n:Int) (.int ((f n:Int)+1)) es):=λ m=>by
 by_cases q:m=n
 ·subst q;rw [get_put_same];simp
 ·rw [get_put_ne (by omega),h m];simp [q]
theorem L2.vals {R:AV→Nat→Prop} {es:List (Int × AV)} {ns:List Nat} (h:L2 (λ e (n:Nat)=>e.1=(n:Int)∧R e.2 n) es ns):L2 R (es.map (·.2)) ns:=by
 induction h with
 | nil=>exact .nil
 | cons h _ ih=>exact .cons h.2 ih
theorem L2.keysEq {R:AV→Nat→Prop} {es es':List (Int × AV)} {ns:List Nat} (hR: ∀ v w n,R v n→R w n→v=w) (h:L2 (λ e (n:Nat)=>e.1=(n:Int)∧R e.2 n) es ns) (h':L2 (λ e (n:Nat)=>e.1=(n:Int)∧R e.2 n) es' ns):es=es':=by
 induction h generalizing es' with
 | nil=>cases h';rfl
 | @cons a b _ _ h _ ih =>
  cases h' with
  | @cons a' _ _ _ h1 h2 =>
   rw [ih h2]
   have:a=a':=Prod.ext (by rw [h.1,h1.1]) (hR _ _ _ h.2 h1.2)
   rw [this]
section
variable {K:Ad} {own own':Own} {σ σ':S} {μ μ':Mem} {α:Type}
variable {Q:AV→Mem→Prop} {v c s:AV} {n k q:Nat}
abbrev S.lockedW (σ:S):S:= {σ with lkW:=true}
theorem Rep.lockW (R:Rep K own σ μ) (h:σ.lkW=false): ∃ es,μ[K.world]? =some (.dI false es)∧L2 (λ e (n:Nat)=>e.1=(n:Int)∧at_ own e.2 (.row n)) es σ.wk∧Rep K own σ.lockedW (μ.set K.world (.dI true es)):=by
 obtain ⟨es,e,d⟩:=R.world
 rw [h] at e
 exact ⟨es,e,d,R.set (σ':=σ.lockedW) R.kW rfl ⟨Nat.le_refl _,Nat.le_refl _⟩ ⟨es,rfl,d⟩ λ r hr o d=>by cases r <;> first | exact d | exact absurd rfl hr⟩
theorem Rep.unlockW {es:List (Int × AV)} (R:Rep K own σ.lockedW μ) (h:σ.lkW=false) (e:μ[K.world]? =some (.dI true es)):Rep K own σ (μ.set K.world (.dI false es)):=by
 obtain ⟨es',e',d⟩:=R.world
 rw [e] at e'
 cases e'
 exact R.set (σ':=σ) R.kW rfl ⟨Nat.le_refl _,Nat.le_refl _⟩ ⟨es,by rw [h],d⟩ λ r hr o d=>by cases r <;> first | exact d | exact absurd rfl hr
theorem Rep.sameW {es:List (Int × AV)} {ns:List Nat} (hes:L2 (λ e (n:Nat)=>e.1=(n:Int)∧at_ own e.2 (.row n)) es ns) (ext:Ext own own') (R:Rep K own' σ' μ) (h1:σ'.lkW=true) (h2:σ'.wk=ns):μ[K.world]? =some (.dI true es):=by
 obtain ⟨es',e',d⟩:=R.world
 rw [h1] at e'
 rw [h2] at d
 rw [e',L2.keysEq (R:=λ v n=>at_ own' v (.row n)) (λ v w n a b=>at_.eq R a b rfl) d (hes.imp λ e n h=>⟨h.1,h.2.ext ext rfl⟩)]
theorem wp_kind (R:Rep K own σ μ) {r:AV} {c:Cont} (h:at_ own r (.row n)) (hc:(σ.row n).c=c):wp (getI r (.int 0)) Q μ=Q (.str c.kind) μ:=by rw [wp_row0 R h,hc]
theorem wp_dget2D {d:Nat} {lk:Bool} {es:List (Int × AV)} {f:Nat→Nat} (e:μ[d]? =some (.dI lk es)) (h:DegD f es):wp (dget2 (.obj d) (.int (n:Int)) (.int 0)) Q μ=Q (.int (f n)) μ:=by
 refine wp_eq ?_
 unfold dget2 bd
 rw [getK_dI e]
 simp only [rt,h n]
theorem wp_chkDd {d:Nat} {lk:Bool} {es:List (Int × AV)} {QU:Unit→Mem→Prop} (e:μ[d]? =some (.dI lk es)):wp (chkD (.obj d)) QU μ=QU () μ:=wp_eq (by simp [chkD,bd,rd,e,rt])
theorem count_snoc {ds:List Nat} {b n:Nat}:(ds ++ [b]).count n=ds.count n+if n=b then 1 else 0:=by
 rw [List.count_append,List.count_singleton]
 by_cases q:n=b
 ·subst q;simp
 ·have: ¬ b=n:=λ h=>q h.symm
  simp [q,this]
theorem wp_bumps {G:Unit→Cx0} (R:Rep K own σ μ) {f g:Nat} {gs:List Nat} {F:Nat→Nat} {es:List (Int × AV)} {QF:Fl Unit→Mem→Prop} (hf:own f= .nw (.dI false es)) (hF:DegD F es) (hg: ∀ own' μ',Ext own own'→Rep K own' σ μ'→μ'[g]? =some (.list (nums gs))) (hl:es.length+gs.length < big)
  (hq: ∀ own' μ' es',Ext own own'→own' f= .nw (.dI false es')→DegD (λ n=>F n+gs.count n) es'→es'.length≤es.length+gs.length→Rep K own' σ μ'→QF (.nxt ()) μ') :
  wp (forL G (.obj g) () λ _ v_goal=>bd (bd (bd (rt (.obj f)) λ o26=>bd (chkD o26) λ _=>bd (rt v_goal) λ a27=>bd (rt (.int 0)) λ a28=>dget2 o26 a27 a28) λ a24=>bd (rt (.int 1)) λ a25=>addM a24 a25) λ x22=>bd (rt (.obj f)) λ o23=>bd (rt v_goal) λ k29=>bd (setI o23 k29 x22) λ _=>rt (.nxt ())) QF μ:=by
 refine wp_forLl (λ xs _ μ'=> ∃ ds ns own' es',gs=ds ++ ns∧xs=nums ns∧Ext own own'∧own' f= .nw (.dI false es')∧DegD (λ n=>F n+ds.count n) es'∧es'.length≤es.length+ds.length∧Rep K own' σ μ')
  (hg own μ Ext.refl R) ⟨[],gs,own,es,rfl,rfl,Ext.refl,hf,by simpa using hF,by simp,R⟩ (λ xs _ μ' h=> ?_) (λ x xs _ μ' h=> ?_) (λ _ μ' h=> ?_)
 ·obtain ⟨ds,ns,own',es',q1,q2,q3,q4,q5,q6,R'⟩:=h
  exact hg own' μ' q3 R'
 ·obtain ⟨ds,ns,own',es',q1,q2,q3,q4,q5,q6,R'⟩:=h
  cases ns with
  | nil=>cases q2
  | cons b bs =>
  simp only [nums,List.map_cons,List.cons.injEq] at q2
  obtain ⟨rfl,rfl⟩:=q2
  walk_at "w-s"
  rw [wp_chkDd (R'.nw q4),wp_dget2D (R'.nw q4) q5]
  walk_at "w-s"
  have hlen:gs.length=ds.length+(bs.length+1):=by rw [q1];simp
  refine wp_of (setI_dI (R'.nw q4) (by omega)) ?_
  rw [loopQ_nxt]
  refine ⟨ds ++ [b],bs,up own' f (.nw (.dI false (put (b:Int) _ es'))),_,by rw [q1];simp,rfl,q3.trans (Ext.up (by rw [q4];rfl)),up_same,?_,?_,R'.nwSet q4⟩
  ·have:=q5.bump b
   intro n
   rw [this n]
   dsimp only
   rw [count_snoc,Nat.add_assoc]
  ·have:=put_len (b:Int) (.int (((F b+ds.count b:Nat):Int)+1)) es'
   simp only [List.length_append,List.length_singleton]
   omega
 ·obtain ⟨ds,ns,own',es',q1,q2,q3,q4,q5,q6,R'⟩:=h
  cases ns with
  | cons b bs=>cases q2
  | nil =>
  rw [List.append_nil] at q1
  subst q1
  exact hq own' μ' es' q3 q4 q5 q6 R'
theorem valsOf_dI {lk:Bool} {es:List (Int × AV)}:valsOf (.dI lk es)=some (es.map (·.2)):=rfl
theorem wp_degrees (R:Rep K own σ μ) (hlk:σ.lkW=false) (hl:σ.degLen < big) (hw:σ.wk.length≤big) (hq: ∀ own' μ' d es,Ext own own'→own' d= .tm (.dI false es)→DegD σ.deg es→Rep K own' σ μ'→Q (.obj d) μ'):wp (f_law_degrees (.obj K.world) (.obj K.roots)) Q μ:=by
 unfold f_law_degrees f_law_degrees_b
 walk_at "w-s"
 refine wp_alC R (.nw (.dI false [])) (by simp) λ own1 μ1 f e1 h1 j1 b1 R1=> ?_
 unfold S.degLen at hl
 refine wp_bumps R1 h1 (F:=λ _=>0) (λ n=>rfl) (λ own' μ' _ R'=>R'.roots) (by simp;omega) λ own2 μ2 es2 e2 h2 d2 l2 R2=> ?_
 walk_at "w-s"
 obtain ⟨ws,hw1,hw2,R3⟩:=R2.lockW hlk
 refine wp_forV (λ xs _ μ'=> ∃ ds ns own' es',σ.wk=ds ++ ns∧L2 (λ v n=>at_ own' v (.row n)) xs ns∧Ext own2 own'∧own' f= .nw (.dI false es')∧DegD (λ n=>σ.roots.count n+degOver σ.row ds n) es'∧es'.length≤σ.roots.length+lenOver σ.row ds∧Rep K own' σ.lockedW μ')
  hw1 valsOf_dI rfl ⟨[],σ.wk,own2,es2,rfl,L2.vals (R:=λ v n=>at_ own2 v (.row n)) hw2,Ext.refl,h2,λ n=>by rw [d2 n];simp [degOver],by simp [lenOver] at l2 ⊢;omega,R3⟩ (λ xs _ μ' h=> ?_) (λ x xs _ μ' h=> ?_) (λ _ μ' h=> ?_)
 ·obtain ⟨ds,ns,own',es',q1,q2,q3,q4,q5,q6,R'⟩:=h
  exact R'.sameW hw2 q3 rfl rfl
 ·obtain ⟨ds,ns,own',es',q1,q2,q3,q4,q5,q6,R'⟩:=h
  cases q2 with
  | @cons _ b _ bs p1 p2 =>
  walk_at "w-s"
  refine wp_row3 R' p1 λ y hy=> ?_
  have hsum:lenOver σ.row σ.wk=lenOver σ.row ds+((goals (σ.row b).c).length+lenOver σ.row bs):=by rw [q1];simp [lenOver]
  have go: ∀ own4 μ4 g,Ext own' own4→own4 f= .nw (.dI false es')→Rep K own4 σ.lockedW μ4→(∀ own5 μ5,Ext own4 own5→Rep K own5 σ.lockedW μ5→μ5[g]? =some (.list (nums (goals (σ.row b).c)))) →
    wp (forL (λ _=>[some (.obj K.world),some (.obj K.roots),some (.obj f),none,some x,some y,some (.obj g),none,none,none]) (.obj g) () λ _ v_goal=>bd (bd (bd (rt (.obj f)) λ o26=>bd (chkD o26) λ _=>bd (rt v_goal) λ a27=>bd (rt (.int 0)) λ a28=>dget2 o26 a27 a28) λ a24=>bd (rt (.int 1)) λ a25=>addM a24 a25) λ x22=>bd (rt (.obj f)) λ o23=>bd (rt v_goal) λ k29=>bd (setI o23 k29 x22) λ _=>rt (.nxt ()))
     (thnQ (loopQ (λ xs _ μ'=> ∃ ds ns own' es',σ.wk=ds ++ ns∧L2 (λ v n=>at_ own' v (.row n)) xs ns∧Ext own2 own'∧own' f= .nw (.dI false es')∧DegD (λ n=>σ.roots.count n+degOver σ.row ds n) es'∧es'.length≤σ.roots.length+lenOver σ.row ds∧Rep K own' σ.lockedW μ') xs ()) λ _=>rt (.nxt ())) μ4:=by
   intro own4 μ4 g e4 h4 R4 hg
   refine wp_bumps R4 h4 q5 hg (by omega) λ own5 μ5 es5 e5 h5 d5 l5 R5=> ?_
   walk_at "w-s"
   rw [loopQ_nxt]
   refine ⟨ds ++ [b],bs,own5,es5,by rw [q1];simp,p2.imp λ v n h=>(h.ext e4 rfl).ext e5 rfl,(q3.trans e4).trans e5,h5,λ n=> ?_,?_,R5⟩
   ·have:σ.roots.count n+degOver σ.row ds n+(goals (σ.row b).c).count n=σ.roots.count n+degOver σ.row (ds ++ [b]) n:=by simp [degOver,Nat.add_assoc]
    rw [d5 n]
    dsimp only
    rw [this]
   ·simp only [lenOver,List.map_append,List.map_cons,List.map_nil,List.sum_append,List.sum_cons,List.sum_nil] at q6 ⊢
    omega
  refine wp_alC R' (.tm (.list [])) (by simp) λ own4 μ4 g e4 h4 j4 b4 R4=> ?_
  have hf4:own4 f= .nw (.dI false es'):=by rw [b4 f (λ z=>by rw [z,j4] at q4;cases q4)];exact q4
  have p4:=p1.ext e4 rfl
  cases hc:(σ.row b).c with
  | s pv =>
   rw [show (σ.lockedW.row b).c= .s pv from hc] at hy
   have hyy:VW own4 pv y:=VW.ext hy e4
   rw [wp_kind R4 p4 hc]
   simp only [show (Cont.s pv).kind="S" from rfl];walk_at "w-s"
   rw [wp_isTup R4 hyy]
   have empty:goals (.s pv)=[]→ ∀ own5 μ5,Ext own4 own5→Rep K own5 σ.lockedW μ5→μ5[g]? =some (.list (nums (goals (σ.row b).c))):=λ hz own5 μ5 e5 R5=>by
    rw [hc,hz];exact R5.tm (e5.at h4 rfl)
   cases pv with
   | none =>
    simp only [PV.isRef];walk_at "w-s";rw [wp_kind R4 p4 hc];simp only [Cont.kind];walk_at "w-s";rw [wp_kind R4 p4 hc];simp only [Cont.kind];walk_at "w-s"
    exact go own4 μ4 g e4 hf4 R4 (empty rfl)
   | int i =>
    simp only [PV.isRef];walk_at "w-s";rw [wp_kind R4 p4 hc];simp only [Cont.kind];walk_at "w-s";rw [wp_kind R4 p4 hc];simp only [Cont.kind];walk_at "w-s"
    exact go own4 μ4 g e4 hf4 R4 (empty rfl)
   | weak m =>
    simp only [PV.isRef];walk_at "w-s"
    rw [wp_tup0 R4 hyy rfl]
    simp only [PV.isWeak];walk_at "w-s";rw [wp_kind R4 p4 hc];simp only [Cont.kind];walk_at "w-s";rw [wp_kind R4 p4 hc];simp only [Cont.kind];walk_at "w-s"
    exact go own4 μ4 g e4 hf4 R4 (empty rfl)
   | ref m =>
    simp only [PV.isRef];walk_at "w-s"
    rw [wp_tup0 R4 hyy rfl]
    simp only [PV.isWeak];walk_at "w-s"
    rw [wp_tup1 R4 hyy rfl]
    refine wp_alC R4 (.tm (.list [.int m])) (by simp) λ own5 μ5 g5 e5 h5 j5 b5 R5=> ?_
    have p5:=p4.ext e5 rfl
    have hf5:own5 f= .nw (.dI false es'):=by rw [b5 f (λ z=>by rw [z,j5] at hf4;cases hf4)];exact hf4
    walk_at "w-s";rw [wp_kind R5 p5 hc];simp only [Cont.kind];walk_at "w-s";rw [wp_kind R5 p5 hc];simp only [Cont.kind];walk_at "w-s"
    exact go own5 μ5 g5 (e4.trans e5) hf5 R5 λ own6 μ6 e6 R6=>by rw [hc];exact R6.tm (e6.at h5 rfl)
  | a xs' =>
   rw [show (σ.lockedW.row b).c= .a xs' from hc] at hy
   rw [wp_kind R4 p4 hc];simp only [Cont.kind];walk_at "w-s";rw [wp_kind R4 p4 hc];simp only [Cont.kind];walk_at "w-s";rw [wp_kind R4 p4 hc];simp only [Cont.kind];walk_at "w-s"
   obtain ⟨i,rfl,hi,_⟩:=R'.innA (x:=y) hc hy
   exact go own4 μ4 i e4 hf4 R4 λ own5 μ5 e5 R5=>by
    obtain ⟨i',q1,_,q2⟩:=R5.innA (x:= .obj i) (n:=b) (xs:=xs') hc ⟨i,rfl,e5.at (e4.at hi rfl) rfl⟩
    cases q1
    rw [q2,hc];rfl
  | h es =>
   rw [show (σ.lockedW.row b).c= .h es from hc] at hy
   rw [wp_kind R4 p4 hc];simp only [Cont.kind];walk_at "w-s";rw [wp_kind R4 p4 hc];simp only [Cont.kind];walk_at "w-s";rw [wp_kind R4 p4 hc];simp only [Cont.kind];walk_at "w-s"
   obtain ⟨i,vs,rfl,hi,hv,e⟩:=R4.innH (x:=y) hc (at_.ext e4 rfl hy)
   have hgl:(goals (σ.row b).c).length < big:=by omega
   rw [hc] at hgl
   simp only [goals,List.length_map] at hgl
   refine wp_compR (λ _=>true) (λ p=>match getI p (.int 1) μ4 with | some (v,_)=>v | none=> .none) e (by rw [hv.len];omega) (λ p hp=>⟨rfl,λ _=> ?_⟩) ?_
   ·obtain ⟨e',_,he'⟩:=hv.left p hp
    obtain ⟨j,rfl,hj⟩:=he'
    have:=getI_list (k:=1) (R4.im hj) rfl
    have this:getI (.obj j) (.int 1) μ4=some (.int e'.2,μ4):=this
    simp only [this]
    exact this
   ·rw [List.filter_eq_self.mpr (λ _ _=>rfl)]
    have hvals:vs.map (λ p=>match getI p (.int 1) μ4 with | some (v,_)=>v | none=> .none)=nums (es.map (·.2)):=by
     clear e hgl hc hy hi
     induction hv with
     | nil=>rfl
     | @cons p e' _ _ h _ ih =>
      obtain ⟨j,rfl,hj⟩:=h
      have:getI (.obj j) (.int 1) μ4=some (.int e'.2,μ4):=getI_list (k:=1) (R4.im hj) rfl
      simp only [List.map_cons,this,ih,nums]
    rw [hvals]
    refine wp_alC R4 (.tm (.list (nums (es.map (·.2))))) (by simp) λ own5 μ5 g5 e5 h5 j5 b5 R5=> ?_
    have hf5:own5 f= .nw (.dI false es'):=by rw [b5 f (λ z=>by rw [z,j5] at hf4;cases hf4)];exact hf4
    walk_at "w-s"
    exact go own5 μ5 g5 (e4.trans e5) hf5 R5 λ own6 μ6 e6 R6=>by rw [hc];exact R6.tm (e6.at h5 rfl)
 ·obtain ⟨ds,ns,own',es',q1,q2,q3,q4,q5,q6,R'⟩:=h
  cases q2
  rw [List.append_nil] at q1
  subst q1
  walk_at "w-s"
  have R4:=R'.unlockW hlk (R'.sameW hw2 q3 rfl rfl)
  have R5:=R4.nwTo q4 (.inr (.inl rfl))
  exact hq _ _ f es' (((e1.trans e2).trans q3).trans (Ext.up (by rw [q4];rfl))) up_same q5 R5
end
def S.wdying (σ:S):List Nat:=nsort (σ.wk.filter λ n=>decide (σ.deg n=0))
def S.setRowV (σ:S) (r:Nat) (v:PV):S:=σ.setRow r {σ.row r with c:= .s v}
def S.wmarked (σ:S) (n:Nat):S:= {σ.setRow n {σ.row n with ds:=true} with log:=σ.log ++ [n]}
def S.wfinish (σ:S) (q n:Nat):S:=if (σ.row n).bl=true∧(σ.row n).ds=false∧σ.deg n=0 then
    if n % 3=q∧σ.roots≠[] then (σ.wmarked n).setRowV (σ.roots.getD (n % 4) 0) (.ref n) else σ.wmarked n
 else σ
def cleanRow (row:Nat→Row) (n:Nat) (ds:List Nat):Nat→Row:=λ m=>if m∈ds∧(row m).c= .s (.weak n) then {row m with c:= .s .none} else row m
def S.clean (σ:S) (n:Nat) (ds:List Nat):S:= {σ with row:=cleanRow σ.row n ds}
theorem cleanRow_nil {row:Nat→Row} {n:Nat}:cleanRow row n []=row:=by funext m;simp [cleanRow]
theorem cleanRow_hit {row:Nat→Row} {n b:Nat} {ds:List Nat} (z:(cleanRow row n ds b).c= .s (.weak n)):cleanRow row n (ds ++ [b])=λ m=>if m=b then {cleanRow row n ds b with c:= .s .none} else cleanRow row n ds m:=by
 have hnd: ¬ (b∈ds∧(row b).c= .s (.weak n)):=λ hh=>by
  unfold cleanRow at z;rw [if_pos hh] at z;cases z
 have hb:cleanRow row n ds b=row b:=by unfold cleanRow;rw [if_neg hnd]
 rw [hb] at z
 funext m
 by_cases hm:m=b
 ·subst hm
  rw [if_pos rfl,hb]
  unfold cleanRow
  rw [if_pos ⟨by simp,z⟩]
 ·rw [if_neg hm]
  unfold cleanRow
  simp [hm]
theorem cleanRow_miss {row:Nat→Row} {n b:Nat} {ds:List Nat} (z: ¬ (cleanRow row n ds b).c= .s (.weak n)):cleanRow row n (ds ++ [b])=cleanRow row n ds:=by
 funext m
 by_cases hm:m=b
 ·subst hm
  unfold cleanRow at z ⊢
  by_cases hd:m∈ds
  ·simp [hd]
  ·rw [if_neg (λ h=>hd h.1)] at z
   rw [if_neg (λ h=>z h.2),if_neg (λ h=>z h.2)]
 ·unfold cleanRow;simp [hm]
def S.wpop (σ:S) (n:Nat):S:=({σ with wk:=σ.wk.erase n}:S).clean n (σ.wk.erase n)
def S.wround1 (σ:S) (q:Nat):S:=σ.wdying.foldl (λ σ n=>σ.wfinish q n) σ
def S.wdead (σ:S) (q:Nat):List Nat:=σ.wdying.filter λ n=>decide ((σ.wround1 q).deg n=0)
def S.wround (σ:S) (q:Nat):S:=(σ.wdead q).foldl S.wpop (σ.wround1 q)
structure WOk (σ:S):Prop where
 lk:σ.lkW=false
 dl:σ.degLen < big
 wl:σ.wk.length < 64
structure WFinOk (σ:S) (n:Nat):Prop where
 ok:WOk σ
 mem:n∈σ.wk
 lb:σ.log.length < big
 ro:σ.roots≠[]→ ∃ r,σ.roots[n % 4]? =some r∧r∈σ.wk∧ ∃ v,(σ.row r).c= .s v
structure WRoundOk (σ:S) (q:Nat):Prop where
 ok:WOk σ
 f1: ∀ ds n ns,σ.wdying=ds ++ n :: ns→WFinOk (ds.foldl (λ σ n=>σ.wfinish q n) σ) n
 f2:WOk (σ.wround1 q)
 f3: ∀ ds n ns,σ.wdead q=ds ++ n :: ns→n∈(ds.foldl S.wpop (σ.wround1 q)).wk∧(ds.foldl S.wpop (σ.wround1 q)).lkW=false
inductive WSettles (q:Nat):Nat→S→S→Prop
 | stop {σ:S}:WOk σ→σ.wdying=[]→WSettles q 0 σ σ
 | step {σ σ':S} {k:Nat}:σ.wdying≠[]→WRoundOk σ q→WSettles q k (σ.wround q) σ'→WSettles q (k+1) σ σ'
section
variable {K:Ad} {own own':Own} {σ σ':S} {μ μ':Mem} {α:Type}
variable {Q:AV→Mem→Prop} {v c s:AV} {n k q:Nat}
theorem intsOf_nums (ns:List Nat):intsOf (nums ns)=some (ns.map λ n:Nat=>(n:Int)):=by
 induction ns with
 | nil=>rfl
 | cons n ns ih=>simp only [nums,List.map_cons] at ih ⊢;simp [intsOf,ih]
theorem wp_sortedNums {i:Nat} {ns:List Nat} (e:μ[i]? =some (.list (nums ns))) (hl:ns.length < 64):wp (sortedL (.obj i)) Q μ=wp (al (.list (nums (nsort ns)))) Q μ:=by
 unfold sortedL
 simp only [wp_bd]
 rw [wp_eq (rdL_eq e),intsOf_nums,wp_opt]
 simp only [List.length_map,hl,if_true,isort_nums,List.map_map]
 rfl
theorem filter_nums (p:AV→Bool) (f:Nat→Bool) (h: ∀ n:Nat,p (.int n)=f n) (ns:List Nat):(nums ns).filter p=nums (ns.filter f):=by
 induction ns with
 | nil=>rfl
 | cons n ns ih =>
  simp only [nums,List.map_cons,List.filter_cons,h] at ih ⊢
  split <;> simp [ih]
theorem map_id_nums (ns:List Nat):(nums ns).map id=nums ns:=List.map_id _
theorem wp_eqWeak (R:Rep K own σ μ) {m n:Nat} {x t:AV} (hx:RTail own m (σ.row m).c x) (ht:at_ own t (.im (tupO n true))):wp (eqM x t) Q μ=Q (.bool (decide ((σ.row m).c= .s (.weak n)))) μ:=by
 obtain ⟨j,rfl,hj⟩:=ht
 have hb:readD μ 3 (.obj j)=some (.node false [.str "weak", .int n]):=readD_tup (n:=2) (R.im hj) (.cons readD_str (.cons readD_int .nil))
 cases hc:(σ.row m).c with
 | s pv =>
  rw [hc] at hx
  cases pv with
  | none =>
   cases hx
   rw [wp_eqD (x:= .none) readD_none hb (λ _ _ h=>by cases h)];simp [D.same]
  | int i =>
   cases hx
   rw [wp_eqD (x:= .int i) readD_int hb (λ _ _ h=>by cases h)];simp [D.same]
  | ref k =>
   obtain ⟨i,rfl,e⟩:=VW.tup R (pv:= .ref k) hx rfl
   rw [wp_eqD (readD_tup (n:=2) (ds:=[.str "ref", .int k]) e (.cons readD_str (.cons readD_int .nil))) hb (λ _ _ h=>by cases h)]
   simp [D.same,D.sames]
  | weak k =>
   obtain ⟨i,rfl,e⟩:=VW.tup R (pv:= .weak k) hx rfl
   rw [wp_eqD (readD_tup (n:=2) (ds:=[.str "weak", .int k]) e (.cons readD_str (.cons readD_int .nil))) hb (λ _ _ h=>by cases h)]
   by_cases z:k=n
   ·subst z;simp [D.same,D.sames]
   ·have:((k:Int) == (n:Int))=false:=beq_eq_false_iff_ne.mpr (by omega)
    simp [D.same,D.sames,z,this]
 | a xs =>
  rw [hc] at hx
  obtain ⟨i,rfl,_,e⟩:=R.innA hc hx
  rw [wp_eqD (readD_list (n:=2) e (readD_nums xs)) hb (λ _ _ h=>by cases h)];simp [D.same]
 | h es =>
  rw [hc] at hx
  obtain ⟨i,vs,rfl,_,hv,e⟩:=R.innH hc hx
  have hl: ∃ ds,L2 (λ x d=>readD μ 2 x=some d) vs ds:=by
   clear hc hx e
   induction hv with
   | nil=>exact ⟨[], .nil⟩
   | @cons p e' _ _ h _ ih =>
    obtain ⟨ds,hds⟩:=ih
    obtain ⟨i',rfl,hi'⟩:=h
    exact ⟨.node true [.str e'.1, .int e'.2] :: ds, .cons (readD_list (n:=1) (R.im hi') (.cons readD_str (.cons readD_int .nil))) hds⟩
  obtain ⟨ds,hds⟩:=hl
  rw [wp_eqD (readD_list (n:=2) e hds) hb (λ _ _ h=>by cases h)];simp [D.same]
theorem clean_nil {n:Nat}:σ.clean n []=σ:=by unfold S.clean;rw [cleanRow_nil]
theorem wp_cleanLoop {G:Unit→Cx0} {QF:Fl Unit→Mem→Prop} (R:Rep K own σ μ) (hlk:σ.lkW=false) (n:Nat) (hq: ∀ own' μ',Ext own own'→Rep K own' (σ.clean n σ.wk) μ'→QF (.nxt ()) μ') :
  wp (forV G (.obj K.world) () λ _ v_row =>
      bd (bd (bd (bd (rt v_row) λ a73=>bd (rt (.int 3)) λ a74=>getI a73 a74) λ a71=>bd (mkT [(rt (.str "weak")),(rt (.int (n:Int)))]) λ a72=>eqM a71 a72) tru) λ c66=>if c66 then
       bd (rt .none) λ x67=>bd (rt v_row) λ o68=>bd (rt (.int 3)) λ k69=>bd (setI o68 k69 x67) λ _ =>
       rt (.nxt ())
      else
       rt (.nxt ())) QF μ:=by
 obtain ⟨ws,hw1,hw2,R3⟩:=R.lockW hlk
 refine wp_forV (λ xs _ μ'=> ∃ ds ns own',σ.wk=ds ++ ns∧L2 (λ v n=>at_ own' v (.row n)) xs ns∧Ext own own'∧Rep K own' (σ.clean n ds).lockedW μ')
  hw1 valsOf_dI rfl ⟨[],σ.wk,own,rfl,L2.vals (R:=λ v n=>at_ own v (.row n)) hw2,Ext.refl,by rw [clean_nil];exact R3⟩ (λ xs _ μ' h=> ?_) (λ x xs _ μ' h=> ?_) (λ _ μ' h=> ?_)
 ·obtain ⟨ds,ns,own',q1,q2,q3,R'⟩:=h
  exact R'.sameW hw2 q3 rfl rfl
 ·obtain ⟨ds,ns,own',q1,q2,q3,R'⟩:=h
  cases q2 with
  | @cons _ b _ bs p1 p2 =>
  walk_at "w-s"
  refine wp_row3 R' p1 λ y hy=> ?_
  refine wp_alC R' (.im (tupO n true)) (by simp [tupO]) λ own4 μ4 t e4 h4 j4 b4 R4=> ?_
  have hy4:RTail own4 b (((σ.clean n ds).lockedW).row b).c y:=by
   revert hy
   cases (((σ.clean n ds).lockedW).row b).c with
   | s pv=>exact λ h=>VW.ext h e4
   | a xs=>exact λ h=>at_.ext e4 rfl h
   | h es=>exact λ h=>at_.ext e4 rfl h
  rw [wp_eqWeak R4 hy4 ⟨t,rfl,h4⟩]
  walk_at "w-s"
  have done: ∀ own5 μ5,Ext own4 own5→Rep K own5 (σ.clean n (ds ++ [b])).lockedW μ5→ ∃ ds ns own',σ.wk=ds ++ ns∧L2 (λ v n=>at_ own' v (.row n)) xs ns∧Ext own own'∧Rep K own' (σ.clean n ds).lockedW μ5:=λ own5 μ5 e5 R5 =>
   ⟨ds ++ [b],bs,own5,by rw [q1];simp,p2.imp λ v n h=>(h.ext e4 rfl).ext e5 rfl,(q3.trans e4).trans e5,R5⟩
  by_cases z:((σ.clean n ds).row b).c= .s (.weak n)
  ·have z':(((σ.clean n ds).lockedW).row b).c= .s (.weak n):=z
   (first | simp only [z'] | simp only [z]);walk_at "w-s"
   refine wp_setRow3 (pv:= .none) R4 (p1.ext e4 rfl) z' rfl λ μ5 R5=> ?_
   rw [loopQ_nxt]
   refine done own4 μ5 Ext.refl ?_
   have:(σ.clean n (ds ++ [b])).lockedW=(σ.clean n ds).lockedW.setRow b {(σ.clean n ds).lockedW.row b with c:= .s .none}:=by
    show ({σ with row:=cleanRow σ.row n (ds ++ [b]),lkW:=true}:S)= {σ with row:=λ m=>if m=b then {cleanRow σ.row n ds b with c:= .s .none} else cleanRow σ.row n ds m,lkW:=true}
    rw [cleanRow_hit z]
   rw [this];exact R5
  ·have z': ¬ (((σ.clean n ds).lockedW).row b).c= .s (.weak n):=z
   (first | simp only [z'] | simp only [z]);walk_at "w-s"
   rw [loopQ_nxt]
   refine done own4 μ4 Ext.refl ?_
   have:σ.clean n (ds ++ [b])=σ.clean n ds:=by
    unfold S.clean
    rw [cleanRow_miss z]
   rw [this];exact R4
 ·obtain ⟨ds,ns,own',q1,q2,q3,R'⟩:=h
  cases q2
  rw [List.append_nil] at q1
  rw [← q1] at R'
  exact hq own' _ q3 (R'.unlockW hlk (R'.sameW hw2 q3 rfl rfl))
end
section
variable {K:Ad} {own own':Own} {σ σ':S} {μ μ':Mem} {α:Type}
variable {Q:AV→Mem→Prop} {v c s:AV} {n k q:Nat}
theorem degTest {d:Nat} {lk:Bool} {es:List (Int × AV)} {f:Nat→Nat} (e:μ[d]? =some (.dI lk es)) (h:DegD f es):(bd (bd (bd (rt (.obj d)) λ o7=>bd (chkD o7) λ _=>bd (rt (.int (n:Int))) λ a8=>bd (rt (.int 0)) λ a9=>dget2 o7 a8 a9) λ a5=>bd (rt (.int 0)) λ a6=>eqM a5 a6) tru) μ=some (decide (f n=0),μ):=by
 refine wp_get (P:=λ _=>True) ?_
 walk_at "w-s"
 rw [wp_chkDd e,wp_dget2D e h]
 walk_at "w-s"
 refine ⟨?_,trivial⟩
 by_cases z:f n=0
 ·simp [z]
 ·have: ¬ (f n:Int)=0:=by omega
  simp [z,this]
def intTest (f:Nat→Nat):AV→Bool:=λ x=>match x with | .int i=>decide (f i.toNat=0) | _=>false
theorem intTest_nums (f:Nat→Nat) (ns:List Nat):(nums ns).filter (intTest f)=nums (ns.filter λ n=>decide (f n=0)):=filter_nums _ _ (λ n=>rfl) ns
theorem keysOf_nums {lk:Bool} {ws:List (Int × AV)} {ns:List Nat} (h:ws.map (·.1)=ns.map λ n:Nat=>(n:Int)):keysOf (.dI lk ws)=some (nums ns):=by
 have:ws.map (λ e=>AV.int e.1)=nums ns:=by
  have:=congrArg (List.map AV.int) h
  simpa [nums,List.map_map,Function.comp_def] using this
 simp [keysOf,this]
theorem wp_settled {j:Nat} (st:WSettles q j σ σ') (hj:j < 1000) (R:Rep K own σ μ) (hq: ∀ own' μ',Ext own own'→Rep K own' σ' μ'→Q .none μ'):wp (f_law_settled (.obj K.world) (.obj K.roots) (.obj K.log) (.int (q:Int))) Q μ:=by
 unfold f_law_settled f_law_settled_b
 rw [wp_fin,wp_thnG]
 refine wp_mono (Q:=λ f μ'=>f= .ret .none∧ ∃ own',Ext own own'∧Rep K own' σ' μ') ?_ λ f μ' h=>by
  obtain ⟨rfl,own',e,R'⟩:=h
  walk_at "w-s"
  exact hq own' μ' e R'
 clear hq
 generalize (1000:Nat)=fuel at hj
 induction st generalizing fuel own μ with
 | @stop σ ok hz =>
  obtain ⟨fuel,rfl⟩: ∃ f,fuel=f+1:=⟨fuel - 1,by omega⟩
  unfold whl
  walk_at "w-s"
  have bl:σ.wk.length≤big:=by have:=ok.wl;unfold big;omega
  refine wp_degrees R ok.lk ok.dl bl λ own1 μ1 d es e1 h1 d1 R1=> ?_
  obtain ⟨ws,hw1,hw2,R3⟩:=R1.lockW ok.lk
  refine wp_compRD (intTest σ.deg) id hw1 (keysOf_nums (keysL2 (R:=λ v n=>at_ own1 v (.row n)) hw2)) rfl (by simpa [nums] using bl) (λ x hx=> ?_) ?_
  ·obtain ⟨n,hn,rfl⟩:=List.mem_map.mp hx
   exact ⟨degTest (R3.tm h1) d1,λ _=>rfl⟩
  rw [intTest_nums,map_id_nums]
  refine wp_alC R1 (.tm (.list (nums (σ.wk.filter λ n=>decide (σ.deg n=0))))) (.inr (.inl rfl)) λ own2 μ2 a2 e2 h2 j2 b2 R2=> ?_
  rw [wp_sortedNums (R2.tm h2) (Nat.lt_of_le_of_lt (List.length_filter_le _ _) ok.wl)]
  refine wp_alC R2 (.tm (.list (nums σ.wdying))) (.inr (.inl rfl)) λ own3 μ3 a3 e3 h3 j3 b3 R4=> ?_
  refine wp_alC R4 (.tm (.list [])) (by simp) λ own4 μ4 a4 e4 h4 j4 b4 R5=> ?_
  rw [wp_eqNums (R5.tm (e4.at h3 rfl)) (ys:=[]) (R5.tm h4),hz]
  walk_at "w-s"
  exact ⟨trivial,own4,((e1.trans e2).trans e3).trans e4,R5⟩
 | @step σ σ' k hz ok _ ih =>
  obtain ⟨fuel,rfl⟩: ∃ f,fuel=f+1:=⟨fuel - 1,by omega⟩
  unfold whl
  walk_at "w-s"
  have bl:σ.wk.length≤big:=by have:=ok.ok.wl;unfold big;omega
  refine wp_degrees R ok.ok.lk ok.ok.dl bl λ own1 μ1 d es e1 h1 d1 R1=> ?_
  obtain ⟨ws,hw1,hw2,R3⟩:=R1.lockW ok.ok.lk
  refine wp_compRD (intTest σ.deg) id hw1 (keysOf_nums (keysL2 (R:=λ v n=>at_ own1 v (.row n)) hw2)) rfl (by simpa [nums] using bl) (λ x hx=> ?_) ?_
  ·obtain ⟨n,hn,rfl⟩:=List.mem_map.mp hx
   exact ⟨degTest (R3.tm h1) d1,λ _=>rfl⟩
  rw [intTest_nums,map_id_nums]
  refine wp_alC R1 (.tm (.list (nums (σ.wk.filter λ n=>decide (σ.deg n=0))))) (.inr (.inl rfl)) λ own2 μ2 a2 e2 h2 j2 b2 R2=> ?_
  rw [wp_sortedNums (R2.tm h2) (Nat.lt_of_le_of_lt (List.length_filter_le _ _) ok.ok.wl)]
  refine wp_alC R2 (.tm (.list (nums σ.wdying))) (.inr (.inl rfl)) λ own3 μ3 a3 e3 h3 j3 b3 R4=> ?_
  refine wp_alC R4 (.tm (.list [])) (by simp) λ own4 μ4 a4 e4 h4 j4 b4 R5=> ?_
  rw [wp_eqNums (R5.tm (e4.at h3 rfl)) (ys:=[]) (R5.tm h4)]
  simp only [hz]
  walk_at "w-s"
  have h34:own4 a3= .tm (.list (nums σ.wdying)):=e4.at h3 rfl
  have e04:=((e1.trans e2).trans e3).trans e4
  refine wp_forLl (λ xs _ μ'=> ∃ ds ns own',σ.wdying=ds ++ ns∧xs=nums ns∧Ext own4 own'∧Rep K own' (ds.foldl (λ σ n=>σ.wfinish q n) σ) μ') (R5.tm h34) ⟨[],_,own4,rfl,rfl,Ext.refl,R5⟩ (λ xs _ μ' h=> ?_) (λ x xs _ μ' h=> ?_) (λ _ μ' h=> ?_)
  ·obtain ⟨ds,ns,own',q1,q2,q3,R'⟩:=h
   exact R'.tm (q3.at h34 rfl)
  ·obtain ⟨ds,ns,own',q1,q2,q3,R'⟩:=h
   cases ns with
   | nil=>cases q2
   | cons b bs =>
   simp only [nums,List.map_cons,List.cons.injEq] at q2
   obtain ⟨rfl,rfl⟩:=q2
   have fo:=ok.f1 _ _ _ q1
   have next: ∀ own5 μ5,Ext own' own5→Rep K own5 ((ds.foldl (λ σ n=>σ.wfinish q n) σ).wfinish q b) μ5→ ∃ ds ns own',σ.wdying=ds ++ ns∧nums bs=nums ns∧Ext own4 own'∧Rep K own' (ds.foldl (λ σ n=>σ.wfinish q n) σ) μ5:=λ own5 μ5 e5 R5 =>
    ⟨ds ++ [b],bs,own5,by rw [q1];simp,rfl,q3.trans e5,by rw [List.foldl_append];exact R5⟩
   revert next fo R'
   generalize ds.foldl (λ σ n=>σ.wfinish q n) σ=τ
   intro R' fo next
   walk_at "w-s"
   refine wp_getWorld R' fo.mem λ r hr=> ?_
   rw [wp_row1 R' hr]
   unfold S.wfinish at next
   cases hbl:(τ.row b).bl with
   | false =>
    walk_at "w-s";rw [loopQ_nxt]
    rw [if_neg (λ z=>by rw [hbl] at z;cases z.1)] at next
    exact next own' _ Ext.refl R'
   | true =>
    walk_at "w-s"
    rw [wp_row2 R' hr]
    cases hds:(τ.row b).ds with
    | true =>
     walk_at "w-s";rw [loopQ_nxt]
     rw [if_neg (λ z=>by rw [hds] at z;cases z.2.1)] at next
     exact next own' _ Ext.refl R'
    | false =>
     walk_at "w-s"
     have bl':τ.wk.length≤big:=by have:=fo.ok.wl;unfold big;omega
     refine wp_degrees R' fo.ok.lk fo.ok.dl bl' λ own5 μ5 d5 es5 e5 h5 dd5 R5=> ?_
     rw [wp_chkDd (R5.tm h5),wp_dget2D (R5.tm h5) dd5]
     walk_at "w-s"
     by_cases hdeg:τ.deg b=0
     ·have hdi:(τ.deg b:Int)=0:=by omega
      simp only [hdi];walk_at "w-s"
      rw [if_pos ⟨hbl,hds,hdeg⟩] at next
      refine wp_setRow2 R5 (hr.ext e5 rfl) λ μ6 R6=> ?_
      rw [wp_chkLL R6]
      refine wp_appLog R6 fo.lb λ μ7 R7=> ?_
      have R7:Rep K own5 (τ.wmarked b) μ7:=R7
      by_cases hq3:b % 3=q
      ·have:((b % 3:Nat):Int)=(q:Int):=by omega
       simp only [this];walk_at "w-s"
       refine wp_alC R7 (.tm (.list [])) (by simp) λ own8 μ8 a8 e8 h8 j8 b8 R8=> ?_
       rw [wp_eqNums R8.roots (ys:=[]) (R8.tm h8)]
       by_cases hro:τ.roots=[]
       ·have:(τ.wmarked b).roots=[]:=hro
        simp only [this];walk_at "w-s";rw [loopQ_nxt]
        rw [if_neg (λ z=>z.2 hro)] at next
        exact next own8 _ (e5.trans e8) R8
       ·have: ¬ (τ.wmarked b).roots=[]:=hro
        simp only [this];walk_at "w-s"
        rw [if_pos ⟨hq3,hro⟩] at next
        obtain ⟨r',hr1,hr2,hr3⟩:=fo.ro hro
        refine wp_newTup (b:=false) R8 λ own9 μ9 y e9 hy R9=> ?_
        rw [wp_getRoot R9 (m:=r') hr1]
        refine wp_getWorld R9 hr2 λ w hw=> ?_
        obtain ⟨v0,hv0⟩:=hr3
        have hsc:((τ.wmarked b).row r').c= .s v0:=by
         show ((τ.setRow b {τ.row b with ds:=true}).row r').c= .s v0
         by_cases z:r'=b
         ·subst z;rw [setRow_same];exact hv0
         ·rw [setRow_ne z];exact hv0
        refine wp_setRow3 (pv:= .ref b) R9 hw hsc hy λ μ10 R10=> ?_
        rw [loopQ_nxt]
        refine next own9 _ ((e5.trans e8).trans e9) ?_
        have:τ.roots.getD (b % 4) 0=r':=by rw [List.getD_eq_getElem?_getD,hr1];rfl
        rw [this];exact R10
      ·have: ¬ ((b % 3:Nat):Int)=(q:Int):=by omega
       simp only [this];walk_at "w-s";rw [loopQ_nxt]
       rw [if_neg (λ z=>hq3 z.1)] at next
       exact next own5 _ e5 R7
     ·have hdi: ¬ (τ.deg b:Int)=0:=by omega
      simp only [hdi];walk_at "w-s";rw [loopQ_nxt]
      rw [if_neg (λ z=>hdeg z.2.2)] at next
      exact next own5 _ e5 R5
  ·obtain ⟨ds,ns,own',q1,q2,q3,R'⟩:=h
   cases ns with
   | cons b bs=>cases q2
   | nil =>
   rw [List.append_nil] at q1
   rw [← q1] at R'
   have R':Rep K own' (σ.wround1 q) μ':=R'
   walk_at "w-s"
   have bl1:(σ.wround1 q).wk.length≤big:=by have:=ok.f2.wl;unfold big;omega
   refine wp_degrees R' ok.f2.lk ok.f2.dl bl1 λ own5 μ5 d5 es5 e5 h5 dd5 R5=> ?_
   have hl5:own5 a3= .tm (.list (nums σ.wdying)):=e5.at (q3.at h34 rfl) rfl
   refine wp_compR (intTest (σ.wround1 q).deg) id (R5.tm hl5) (by simp only [nums,List.length_map,S.wdying,nsort_len];exact Nat.le_trans (List.length_filter_le _ _) bl) (λ x hx=> ?_) ?_
   ·obtain ⟨n,hn,rfl⟩:=List.mem_map.mp hx
    exact ⟨degTest (R5.tm h5) dd5,λ _=>rfl⟩
   rw [intTest_nums,map_id_nums]
   refine wp_alC R5 (.tm (.list (nums (σ.wdead q)))) (.inr (.inl rfl)) λ own6 μ6 a6 e6 h6 j6 b6 R6=> ?_
   refine wp_forLl (λ xs _ μ'=> ∃ ds ns own',σ.wdead q=ds ++ ns∧xs=nums ns∧Ext own6 own'∧Rep K own' (ds.foldl S.wpop (σ.wround1 q)) μ') (R6.tm h6) ⟨[],_,own6,rfl,rfl,Ext.refl,R6⟩ (λ xs _ μ' h=> ?_) (λ x xs _ μ' h=> ?_) (λ _ μ' h=> ?_)
   ·obtain ⟨ds,ns,own7,q4,q5,q6,R7⟩:=h
    exact R7.tm (q6.at h6 rfl)
   ·obtain ⟨ds,ns,own7,q4,q5,q6,R7⟩:=h
    cases ns with
    | nil=>cases q5
    | cons b bs =>
    simp only [nums,List.map_cons,List.cons.injEq] at q5
    obtain ⟨rfl,rfl⟩:=q5
    obtain ⟨hm,hlk⟩:=ok.f3 _ _ _ q4
    simp only [wp_bd,wp_rt,wp_thnG]
    rw [wp_chkDW R7]
    refine wp_popWorld R7 hlk hm λ _ μ8 R8=> ?_
    refine wp_cleanLoop R8 hlk b λ own9 μ9 e9 R9=> ?_
    walk_at "w-s"
    rw [loopQ_nxt]
    exact ⟨ds ++ [b],bs,own9,by rw [q4];simp,rfl,q6.trans e9,by rw [List.foldl_append];exact R9⟩
   ·obtain ⟨ds,ns,own7,q4,q5,q6,R7⟩:=h
    cases ns with
    | cons b bs=>cases q5
    | nil =>
    rw [List.append_nil] at q4
    rw [← q4] at R7
    have R7:Rep K own7 (σ.wround q) _:=R7
    walk_at "w-s"
    refine wp_mono (ih R7 fuel (by omega)) λ f μ' h=> ?_
    obtain ⟨rfl,own8,e8,R8⟩:=h
    exact ⟨rfl,own8,((e04.trans q3).trans (e5.trans e6)).trans (q6.trans e8),R8⟩
end
section
variable {K:Ad} {own own':Own} {σ σ':S} {μ μ':Mem} {α:Type}
variable {Q:AV→Mem→Prop} {v c s x:AV} {n k q:Nat}
theorem wp_strong (R:Rep K own σ μ) {pv:PV} (h:VW own pv x) (hq: ∀ own' μ' y,Ext own own'→VW own' pv.strong y→Rep K own' σ μ'→Q y μ'):wp (f_law_strong x) Q μ:=by
 unfold f_law_strong f_law_strong_b
 walk_at "w-s"
 rw [wp_isTup R h]
 cases pv with
 | none=>simp only [PV.isRef];walk_at "w-s";exact hq own μ x Ext.refl h R
 | int i=>simp only [PV.isRef];walk_at "w-s";exact hq own μ x Ext.refl h R
 | ref m=>simp only [PV.isRef];walk_at "w-s";rw [wp_tup1 R h rfl];exact wp_newTup (b:=false) R λ own' μ' y e hy R'=>hq own' μ' y e hy R'
 | weak m=>simp only [PV.isRef];walk_at "w-s";rw [wp_tup1 R h rfl];exact wp_newTup (b:=false) R λ own' μ' y e hy R'=>hq own' μ' y e hy R'
theorem wp_lawValue (R:Rep K own σ μ) {pv:PV} (h:VT own pv x) (hq: ∀ own' μ' y,Ext own own'→VW own' pv y→Rep K own' σ μ'→Q y μ'):wp (f_law_value x) Q μ:=by
 unfold f_law_value f_law_value_b
 walk_at "w-s"
 rw [wp_isRef R h]
 cases pv with
 | none=>simp only [PV.isRef];walk_at "w-s";exact hq own μ x Ext.refl h R
 | int i=>simp only [PV.isRef];walk_at "w-s";exact hq own μ x Ext.refl h R
 | ref m =>
  simp only [PV.isRef];walk_at "w-s"
  rw [wp_isWeak R h rfl]
  simp only [PV.isWeak];walk_at "w-s"
  refine wp_target R h rfl λ t ht=> ?_
  rw [wp_number R ht]
  exact wp_newTup (b:=false) R λ own' μ' y e hy R'=>hq own' μ' y e hy R'
 | weak m =>
  simp only [PV.isRef];walk_at "w-s"
  rw [wp_isWeak R h rfl]
  simp only [PV.isWeak];walk_at "w-s"
  refine wp_target R h rfl λ t ht=> ?_
  rw [wp_number R ht]
  exact wp_newTup (b:=true) R λ own' μ' y e hy R'=>hq own' μ' y e hy R'
theorem VW.deep (R:Rep K own σ μ) {pv:PV} (h:VW own pv x):(∃ d,readD μ 3 x=some d∧ ∀ y,VW own pv y→readD μ 3 y=some d)∧ ∀ b,x≠ .bool b:=by
 cases pv with
 | none=>cases h;exact ⟨⟨_,readD_none,λ y hy=>by cases hy;exact readD_none⟩,nofun⟩
 | int i=>cases h;exact ⟨⟨_,readD_int,λ y hy=>by cases hy;exact readD_int⟩,nofun⟩
 | ref m =>
  have key: ∀ y,VW own (.ref m) y→readD μ 3 y=some (.node false [.str "ref", .int m]):=λ y hy=>by
   obtain ⟨i,rfl,e⟩:=VW.tup R hy rfl
   exact readD_tup (n:=2) e (.cons readD_str (.cons readD_int .nil))
  exact ⟨⟨_,key x h,key⟩,by obtain ⟨i,rfl,_⟩:=h;nofun⟩
 | weak m =>
  have key: ∀ y,VW own (.weak m) y→readD μ 3 y=some (.node false [.str "weak", .int m]):=λ y hy=>by
   obtain ⟨i,rfl,e⟩:=VW.tup R hy rfl
   exact readD_tup (n:=2) e (.cons readD_str (.cons readD_int .nil))
  exact ⟨⟨_,key x h,key⟩,by obtain ⟨i,rfl,_⟩:=h;nofun⟩
theorem wp_eqVW (R:Rep K own σ μ) {pv:PV} {y:AV} (h:VW own pv x) (h':VW own pv y):wp (eqM x y) Q μ=Q (.bool true) μ:=by
 obtain ⟨⟨d,e1,e2⟩,hn⟩:=VW.deep R h
 rw [wp_eqD e1 (e2 y h') (λ i j h _=>hn i h),D.same_refl]
def LS (σ:S) (n:Nat):Prop:=n∈σ.wk∧ ∃ v,(σ.row n).c= .s v
def Closed (σ:S):Prop:= ∀ n v m,n∈σ.wk→(σ.row n).c= .s v→v.tgt=some m→m∈σ.wk∧ ∀ x∈members (σ.row m).c,LS σ x
theorem wp_lenNums {i:Nat} {ns:List Nat} (e:μ[i]? =some (.list (nums ns))):wp (lenM (.obj i)) Q μ=Q (.int ns.length) μ:=wp_eq (by simp [lenM,bd,rdL_eq e,rt,nums])
theorem wp_lenList {i:Nat} {vs:List AV} (e:μ[i]? =some (.list vs)):wp (lenM (.obj i)) Q μ=Q (.int vs.length) μ:=wp_eq (by simp [lenM,bd,rdL_eq e,rt])
theorem tgt_some {pv:PV} (h:pv.isRef=true): ∃ m,pv.tgt=some m:=by cases pv <;> first | exact ⟨_,rfl⟩ | cases h
theorem wp_place (R:Rep K own σ μ) (hcl:Closed σ) (hn:LS σ n) (hq: ∀ own' μ' m,Ext own own'→LS σ m→Rep K own' σ μ'→Q (.int m) μ'):wp (f_law_place (.obj K.world) (.int (n:Int)) (.int (k:Int))) Q μ:=by
 unfold f_law_place f_law_place_b
 walk_at "w-s"
 refine wp_forR (n:=k % 3) (λ _ r μ'=> ∃ m own',r= .int (m:Nat)∧LS σ m∧Ext own own'∧Rep K own' σ μ') (by omega) ⟨n,own,rfl,hn,Ext.refl,R⟩ (λ j r μ' hj h=> ?_) (λ r μ' h=> ?_)
 ·obtain ⟨m,own',rfl,hm,e',R'⟩:=h
  walk_at "w-s"
  refine wp_getWorld R' hm.1 λ w hw=>wp_row3 R' hw λ y hy=> ?_
  obtain ⟨pv,hpv⟩:=hm.2
  rw [hpv] at hy
  rw [wp_isTup R' (pv:=pv) hy]
  cases hr:pv.isRef with
  | false=>walk_at "w-s";exact ⟨m,own',rfl,hm,e',R'⟩
  | true =>
   obtain ⟨t,ht⟩:=tgt_some hr
   obtain ⟨h1,h2⟩:=hcl m pv t hm.1 hpv ht
   walk_at "w-s"
   rw [wp_tup1 R' (pv:=pv) hy ht]
   refine wp_getWorld R' h1 λ g hg=> ?_
   cases hc:(σ.row t).c with
   | s v =>
    rw [wp_kind R' hg hc];simp only [Cont.kind];walk_at "w-s"
    rw [wp_tup1 R' (pv:=pv) hy ht]
    exact ⟨t,own',rfl,⟨h1,v,hc⟩,e',R'⟩
   | a xs =>
    rw [hc] at h2
    rw [wp_kind R' hg hc];simp only [Cont.kind];walk_at "w-s"
    refine wp_row3 R' hg λ z hz=> ?_
    rw [hc] at hz
    refine wp_alC R' (.tm (.list [])) (by simp) λ own2 μ2 a2 e2 h2' j2 b2 R2=> ?_
    obtain ⟨i,rfl,hi,e⟩:=R2.innA (x:=z) hc (at_.ext e2 rfl hz)
    rw [wp_eqNums e (ys:=[]) (R2.tm h2')]
    by_cases hx:xs=[]
    ·simp only [hx];walk_at "w-s";exact ⟨m,own2,rfl,hm,e'.trans e2,R2⟩
    ·simp only [hx];walk_at "w-s"
     refine wp_row3 R2 (hg.ext e2 rfl) λ z' hz'=> ?_
     rw [hc] at hz'
     obtain rfl:=at_.eq R2 hz' (⟨i,rfl,hi⟩:at_ own2 (.obj i) (.inn t)) rfl
     refine wp_row3 R2 (hg.ext e2 rfl) λ z'' hz''=> ?_
     rw [hc] at hz''
     obtain rfl:=at_.eq R2 hz'' (⟨i,rfl,hi⟩:at_ own2 (.obj i) (.inn t)) rfl
     rw [wp_lenNums e]
     have hpos:0 < xs.length:=List.length_pos_iff.mpr hx
     rw [wp_mod hpos]
     have hlt:=Nat.mod_lt k hpos
     refine wp_of (getI_list (x:= .int (xs[k % xs.length]:Nat)) e (by simp [nums,hlt])) ?_
     rw [wp_kind R2 (hg.ext e2 rfl) hc];simp only [Cont.kind];walk_at "w-s"
     exact ⟨xs[k % xs.length],own2,rfl,h2 _ (List.getElem_mem hlt),e'.trans e2,R2⟩
   | h es =>
    rw [hc] at h2
    rw [wp_kind R' hg hc];simp only [Cont.kind];walk_at "w-s"
    refine wp_row3 R' hg λ z hz=> ?_
    rw [hc] at hz
    refine wp_alC R' (.tm (.list [])) (by simp) λ own2 μ2 a2 e2 h2' j2 b2 R2=> ?_
    obtain ⟨i,vs,rfl,hi,hv,e⟩:=R2.innH (x:=z) hc (at_.ext e2 rfl hz)
    have hds: ∃ ds,L2 (λ x d=>readD μ2 2 x=some d) vs ds:=by
     clear e hi hc h2 hz
     induction hv with
     | nil=>exact ⟨[], .nil⟩
     | @cons p e' _ _ h _ ih =>
      obtain ⟨ds,hds⟩:=ih
      obtain ⟨i',rfl,hi'⟩:=h
      exact ⟨.node true [.str e'.1, .int e'.2] :: ds, .cons (readD_list (n:=1) (R2.im hi') (.cons readD_str (.cons readD_int .nil))) hds⟩
    obtain ⟨ds,hds⟩:=hds
    rw [wp_eqD (readD_list (n:=2) e hds) (readD_list (n:=2) (ds:=[]) (R2.tm h2') .nil) (λ _ _ h=>by cases h)]
    cases hv with
    | nil =>
     cases hds
     simp only [D.same,D.sames];walk_at "w-s"
     simp only [beq_self_eq_true,Bool.and_self];walk_at "w-s"
     exact ⟨m,own2,rfl,hm,e'.trans e2,R2⟩
    | @cons p0 e0 ps es' hp0 hps =>
     cases hds with
     | cons d1 d2 =>
     simp only [D.same,D.sames,Bool.and_false];walk_at "w-s"
     refine wp_row3 R2 (hg.ext e2 rfl) λ z' hz'=> ?_
     rw [hc] at hz'
     obtain rfl:=at_.eq R2 hz' (⟨i,rfl,hi⟩:at_ own2 (.obj i) (.inn t)) rfl
     refine wp_row3 R2 (hg.ext e2 rfl) λ z'' hz''=> ?_
     rw [hc] at hz''
     obtain rfl:=at_.eq R2 hz'' (⟨i,rfl,hi⟩:at_ own2 (.obj i) (.inn t)) rfl
     rw [wp_lenList e]
     have hpos:0 < (p0 :: ps).length:=Nat.succ_pos _
     rw [wp_mod hpos]
     have hlt:=Nat.mod_lt k hpos
     have hall:L2 (λ v e=>at_ own2 v (.im (pairO e))) (p0 :: ps) (e0 :: es'):= .cons hp0 hps
     have hlt':k % (p0 :: ps).length < (e0 :: es').length:=by rw [← hall.len];exact hlt
     obtain ⟨p,hp,hpe⟩:=hall.at_ (List.getElem?_eq_getElem hlt')
     refine wp_of (getI_list (x:=p) e hp) ?_
     rw [wp_kind R2 (hg.ext e2 rfl) hc];simp only [Cont.kind];walk_at "w-s"
     rw [wp_pair1 R2 hpe]
     exact ⟨_,own2,rfl,h2 _ (List.mem_map_of_mem (f:=(·.2)) (List.getElem_mem hlt')),e'.trans e2,R2⟩
 ·obtain ⟨m,own',rfl,hm,e',R'⟩:=h
  walk_at "w-s"
  exact hq own' μ' m e' hm R'
end
section
variable {K:Ad} {own own':Own} {σ σ':S} {μ μ':Mem} {α:Type}
variable {Q:AV→Mem→Prop} {v c s x:AV} {n k q:Nat}
abbrev S.lockedR (σ:S):S:= {σ with lkR:=true}
theorem Rep.lockR (R:Rep K own σ μ) (h:σ.lkR=false): ∃ es,μ[K.real]? =some (.dI false es)∧L2 (λ e (n:Nat)=>e.1=(n:Int)∧at_ own e.2 (.thing n)) es σ.real∧Rep K own σ.lockedR (μ.set K.real (.dI true es)):=by
 obtain ⟨es,e,d⟩:=R.real
 rw [h] at e
 exact ⟨es,e,d,R.set (σ':=σ.lockedR) R.kR rfl ⟨Nat.le_refl _,Nat.le_refl _⟩ ⟨es,rfl,d⟩ λ r hr o d=>by cases r <;> first | exact d | exact absurd rfl hr⟩
theorem Rep.unlockR {es:List (Int × AV)} (R:Rep K own σ.lockedR μ) (h:σ.lkR=false) (e:μ[K.real]? =some (.dI true es)):Rep K own σ (μ.set K.real (.dI false es)):=by
 obtain ⟨es',e',d⟩:=R.real
 rw [e] at e'
 cases e'
 exact R.set (σ':=σ) R.kR rfl ⟨Nat.le_refl _,Nat.le_refl _⟩ ⟨es,by rw [h],d⟩ λ r hr o d=>by cases r <;> first | exact d | exact absurd rfl hr
theorem Rep.sameR {es:List (Int × AV)} {ns:List Nat} (hes:L2 (λ e (n:Nat)=>e.1=(n:Int)∧at_ own e.2 (.thing n)) es ns) (ext:Ext own own') (R:Rep K own' σ' μ) (h1:σ'.lkR=true) (h2:σ'.real=ns):μ[K.real]? =some (.dI true es):=by
 obtain ⟨es',e',d⟩:=R.real
 rw [h1] at e'
 rw [h2] at d
 rw [e',L2.keysEq (R:=λ v n=>at_ own' v (.thing n)) (λ v w n a b=>at_.eq R a b rfl) d (hes.imp λ e n h=>⟨h.1,h.2.th ext⟩)]
structure SameOk (σ:S):Prop where
 lw:σ.lkW=false
 lr:σ.lkR=false
 lt: ∀ n,σ.lkT n=false
 dl:σ.degLen < big
 wl:σ.wk.length≤big
 fr: ∀ n∈σ.real,(σ.th n).fr=decide (n∉σ.wk)
 cc: ∀ n∈σ.wk,(σ.th n).c=(σ.row n).c
 ct: ∀ n∈σ.wk,(σ.th n).cnt=σ.deg n
 ds: ∀ n∈σ.wk,(σ.th n).ds=(σ.row n).ds
 ml: ∀ n∈σ.wk,(members (σ.th n).c).length≤big
 ko: ∀ n∈σ.wk,KeysOk (σ.th n).c
theorem L2.strKeys {R:AV→Nat→Prop} {ls:List (String × AV)} {es:List (String × Nat)} (h:L2 (λ l e=>l.1=e.1∧R l.2 e.2) ls es):ls.map (λ e=>AV.str e.1)=es.map λ e=>AV.str e.1:=by
 induction h with
 | nil=>rfl
 | cons h _ ih=>simp only [List.map_cons,h.1,ih]
theorem L2.tabEq {R:AV→Nat→Prop} (hR: ∀ v w n,R v n→R w n→v=w) {ls ls':List (String × AV)} {es:List (String × Nat)} (h:L2 (λ l e=>l.1=e.1∧R l.2 e.2) ls es) (h':L2 (λ l e=>l.1=e.1∧R l.2 e.2) ls' es):ls=ls':=by
 induction h generalizing ls' with
 | nil=>cases h';rfl
 | @cons a b _ _ h _ ih =>
  cases h' with
  | @cons a' _ _ _ h1 h2 =>
   rw [ih h2]
   have:a=a':=Prod.ext (by rw [h.1,h1.1]) (hR _ _ _ h.2 h1.2)
   rw [this]
theorem Rep.unlockT {es:List (String × Nat)} {i:Nat} {ls:List (String × AV)} (hc:(σ.th n).c= .h es) (hlk:σ.lkT n=false) (R:Rep K own {σ with lkT:=λ m=>if m=n then true else σ.lkT m} μ) (hi:own i= .cont n) (hls:L2 (λ l e=>l.1=e.1∧at_ own l.2 (.thing e.2)) ls es):Rep K own σ (μ.set i (.dS false ls)):=by
 refine R.set (σ':=σ) hi rfl ⟨Nat.le_refl _,Nat.le_refl _⟩ ?_ λ r hr o d=> ?_
 ·unfold Desc;dsimp only;rw [hc];exact ⟨ls,by rw [hlk],hls⟩
 ·cases r with
  | cont m =>
   have:m≠n:=λ q=>hr (by rw [q])
   unfold Desc at d ⊢
   dsimp only at d ⊢
   simp only [this,if_false] at d
   exact d
  | _=>exact d
theorem wp_pairs (R:Rep K own σ μ) {w t:AV} {es:List (String × Nat)} (hv:at_ own w (.thing n)) (hc:(σ.th n).c= .h es) (hlk:σ.lkT n=false) (hk:KeysOk (.h es)) (hl:es.length≤big)
  (ht:at_ own t (.cont n)) (hq: ∀ own' μ' a vs,Ext own own'→L2 (λ v e=>at_ own' v (.im (pairO e))) vs es→own' a= .tm (.list vs)→Rep K own' σ μ'→Q (.obj a) μ') :
  wp (comp (λ v_key=>[none,some v_key,some w]) t (λ v_key=>rt true) λ v_key=>mkL [(rt v_key),(bd (bd (bd (rt w) λ a22=>getA a22 "table") λ a20=>bd (rt v_key) λ a21=>getI a20 a21) λ a19=>getA a19 "number")]) Q μ:=by
 obtain ⟨i,ls,rfl,hi,hls,e⟩:=R.contH hc ht
 rw [hlk] at e
 have R':=R.lockT hc hi hls
 have nd:=hk es rfl
 have hkeys:keysOf (.dS false ls)=some (es.map λ e=>AV.str e.1):=by
  simp only [keysOf,L2.strKeys (R:=λ v m=>at_ own v (.thing m)) hls]
 refine wp_comp (λ xs acc μ'=> ∃ ds ns own',es=ds ++ ns∧xs=ns.map (λ e=>AV.str e.1)∧Ext own own'∧own' i= .cont n∧L2 (λ v e=>at_ own' v (.im (pairO e))) acc ds∧Rep K own' {σ with lkT:=λ m=>if m=n then true else σ.lkT m} μ') e hkeys rfl (by simpa using hl) ⟨[],es,own,rfl,rfl,Ext.refl,hi, .nil,R'⟩ (λ xs acc μ' h=> ?_) (λ x xs acc μ' h=> ?_) (λ acc μ' h=> ?_)
 ·obtain ⟨ds,ns,own',q1,q2,q3,q4,q5,R2⟩:=h
  obtain ⟨i',ls',r1,r2,r3,r4⟩:=R2.contH (n:=n) (xs:=es) hc ⟨i,rfl,q4⟩
  cases r1
  rw [r4]
  have:ls'=ls:=L2.tabEq (R:=λ v m=>at_ own' v (.thing m)) (λ v w n a b=>at_.eq R2 a b rfl) r3 (hls.imp λ l e h=>⟨h.1,h.2.th q3⟩)
  simp [this,AO.lock]
 ·obtain ⟨ds,ns,own',q1,q2,q3,q4,q5,R2⟩:=h
  cases ns with
  | nil=>cases q2
  | cons b bs =>
  simp only [List.map_cons,List.cons.injEq] at q2
  obtain ⟨rfl,rfl⟩:=q2
  walk_at "w-s"
  refine wp_table R2 (hv.th q3) hc λ y hy=> ?_
  refine wp_getTable R2 hc hy (aget_mem nd (by rw [q1];simp)) λ z hz=> ?_
  rw [wp_number R2 hz]
  refine wp_alC R2 (.im (pairO b)) (by simp [pairO]) λ own3 μ3 a e3 h3 j3 b3 R3=> ?_
  have hi3:own3 i= .cont n:=by rw [b3 i (λ z=>by rw [z,j3] at q4;cases q4)];exact q4
  exact ⟨ds ++ [b],bs,own3,by rw [q1];simp,rfl,q3.trans e3,hi3,(q5.imp λ v e h=>h.ext e3 rfl).snoc ⟨a,rfl,h3⟩,R3⟩
 ·obtain ⟨ds,ns,own',q1,q2,q3,q4,q5,R2⟩:=h
  cases ns with
  | cons b bs=>cases q2
  | nil =>
  rw [List.append_nil] at q1
  subst q1
  have R3:=Rep.unlockT hc hlk R2 q4 (hls.imp λ l e h=>⟨h.1,h.2.th q3⟩)
  refine wp_alC R3 (.tm (.list acc)) (.inr (.inl rfl)) λ own4 μ4 a e4 h4 j4 b4 R4=> ?_
  exact hq own4 μ4 a acc (q3.trans e4) (q5.imp λ v e h=>h.ext e4 rfl) h4 R4
theorem pairsDeep {vs:List AV} {es:List (String × Nat)} (R:Rep K own σ μ) (h:L2 (λ v e=>at_ own v (.im (pairO e))) vs es):L2 (λ x d=>readD μ 2 x=some d) vs (es.map λ e=> .node true [.str e.1, .int e.2]):=by
 induction h with
 | nil=>exact .nil
 | @cons p e' _ _ h _ ih =>
  obtain ⟨i',rfl,hi'⟩:=h
  exact .cons (readD_list (n:=1) (R.im hi') (.cons readD_str (.cons readD_int .nil))) ih
theorem wp_same (R:Rep K own σ μ) (ok:SameOk σ) (hq: ∀ own' μ',Ext own own'→Rep K own' σ μ'→Q (.bool true) μ'):wp (f_law_same (.obj K.world) (.obj K.roots) (.obj K.real)) Q μ:=by
 unfold f_law_same f_law_same_b
 walk_at "w-s"
 refine wp_degrees R ok.lw ok.dl ok.wl λ own1 μ1 d es e1 h1 d1 R1=> ?_
 obtain ⟨ws,hw1,hw2,R2⟩:=R1.lockR ok.lr
 refine wp_forL (λ xs _ μ'=> ∃ ds ns own',σ.real=ds ++ ns∧xs=nums ns∧Ext own1 own'∧Rep K own' σ.lockedR μ') hw1 (keysOf_nums (keysL2 (R:=λ v n=>at_ own1 v (.thing n)) hw2)) rfl ⟨[],σ.real,own1,rfl,rfl,Ext.refl,R2⟩ (λ xs _ μ' h=> ?_) (λ x xs _ μ' h=> ?_) (λ _ μ' h=> ?_)
 ·obtain ⟨ds,ns,own',q1,q2,q3,R'⟩:=h
  exact R'.sameR hw2 q3 rfl rfl
 ·obtain ⟨ds,ns,own',q1,q2,q3,R'⟩:=h
  cases ns with
  | nil=>cases q2
  | cons b bs =>
  simp only [nums,List.map_cons,List.cons.injEq] at q2
  obtain ⟨rfl,rfl⟩:=q2
  have hb:b∈σ.real:=by rw [q1];simp
  have next: ∀ own5 μ5,Ext own' own5→Rep K own5 σ.lockedR μ5→ ∃ ds ns own',σ.real=ds ++ ns∧nums bs=nums ns∧Ext own1 own'∧Rep K own' σ.lockedR μ5:=λ own5 μ5 e5 R5 =>
   ⟨ds ++ [b],bs,own5,by rw [q1];simp,rfl,q3.trans e5,R5⟩
  simp only [wp_bd,wp_rt,wp_thnG]
  refine wp_getReal (n:=b) R' hb λ w hw=> ?_
  rw [wp_fr R' hw,wp_ninWorld R']
  simp only [wp_ne,wp_eqB,wp_neg,wp_tru]
  have hfr:((σ.lockedR).th b).fr=decide (b∉(σ.lockedR).wk):=ok.fr b hb
  rw [hfr]
  simp only [decide_true,Bool.not_true,Bool.false_eq_true,if_false,wp_rt]
  rw [thnQ_nxt,wp_thnG]
  simp only [wp_bd,wp_rt]
  rw [wp_ninWorld R',wp_tru]
  by_cases hin:b∈σ.wk
  ·have hin':(decide (b∉(σ.lockedR).wk))=false:=by simp [hin]
   rw [hin']
   simp only [Bool.false_eq_true,if_false,wp_rt]
   rw [thnQ_nxt,wp_bd,wp_bd,wp_rt,wp_bd,wp_rt]
   refine wp_getWorld (n:=b) R' hin λ r hr=> ?_
   rw [wp_thnG]
   have hcc:((σ.lockedR).th b).c=(σ.row b).c:=ok.cc b hin
   refine wp_mono (Q:=λ f μ4=> ∃ own4 told,f= .nxt told∧Ext own' own4∧Rep K own4 σ.lockedR μ4∧ ∀ y (Q':AV→Mem→Prop),RTail own4 b (σ.row b).c y→wp (eqM told y) Q' μ4=Q' (.bool true) μ4) ?_ λ f μ4 hh=> ?_
   ·simp only [wp_bd,wp_rt,wp_tru]
    cases hc:(σ.row b).c with
    | s pv =>
     rw [wp_kind R' hr hc];simp only [Cont.kind];walk_at "w-s"
     refine wp_value R' hw (hcc.trans hc) λ x hx=> ?_
     refine wp_lawValue R' hx λ own4 μ4 y e4 hy R4=> ?_
     exact ⟨own4,y,rfl,e4,R4,λ z Q' hz=>wp_eqVW R4 (pv:=pv) hy hz⟩
    | a xs =>
     rw [wp_kind R' hr hc];simp only [Cont.kind];walk_at "w-s"
     rw [wp_kind R' hr hc];simp only [Cont.kind];walk_at "w-s"
     refine wp_items R' hw (hcc.trans hc) λ x hx=> ?_
     obtain ⟨i,vs,rfl,hi,hv,e⟩:=R'.contA (hcc.trans hc) hx
     have hxl:xs.length≤big:=by have:=ok.ml b hin;rw [ok.cc b hin,hc] at this;exact this
     refine wp_compR (λ _=>true) (λ p=>match getA p "number" μ' with | some (v,_)=>v | none=> .none) e (by rw [hv.len];exact hxl) (λ p hp=>⟨rfl,λ _=> ?_⟩) ?_
     ·obtain ⟨m,_,hm⟩:=hv.left p hp
      have this:getA p "number" μ'=some (.int m,μ'):=wp_get (P:=λ _=>True) (by rw [wp_number R' hm];exact ⟨rfl,rfl⟩)
      simp only [this]
      exact this
     ·rw [List.filter_eq_self.mpr (λ _ _=>rfl)]
      have hvals:vs.map (λ p=>match getA p "number" μ' with | some (v,_)=>v | none=> .none)=nums xs:=by
       clear e hxl hx hc hi
       induction hv with
       | nil=>rfl
       | @cons p m _ _ hm _ ih =>
        have this:getA p "number" μ'=some (.int m,μ'):=wp_get (P:=λ _=>True) (by rw [wp_number R' hm];exact ⟨rfl,rfl⟩)
        simp only [List.map_cons,this,ih,nums]
      rw [hvals]
      refine wp_alC R' (.tm (.list (nums xs))) (by simp) λ own4 μ4 g e4 h4 j4 b4 R4=> ?_
      walk_at "w-s"
      refine ⟨own4, .obj g,rfl,e4,R4,λ z Q' hz=> ?_⟩
      obtain ⟨i',rfl,_,e'⟩:=R4.innA (n:=b) hc hz
      rw [wp_eqNums (R4.tm h4) e'];simp
    | h es =>
     rw [wp_kind R' hr hc];simp only [Cont.kind];walk_at "w-s"
     rw [wp_kind R' hr hc];simp only [Cont.kind];walk_at "w-s"
     refine wp_table R' hw (hcc.trans hc) λ x hx=> ?_
     have hxl:es.length≤big:=by have:=ok.ml b hin;rw [ok.cc b hin,hc] at this;simpa [members] using this
     have hko:KeysOk (.h es):=by have:=ok.ko b hin;rw [ok.cc b hin,hc] at this;exact this
     refine wp_pairs R' hw (hcc.trans hc) (ok.lt b) hko hxl hx λ own4 μ4 g vs e4 hv h4 R4=> ?_
     walk_at "w-s"
     refine ⟨own4, .obj g,rfl,e4,R4,λ z Q' hz=> ?_⟩
     obtain ⟨i',ws',rfl,_,hv',e'⟩:=R4.innH (n:=b) hc hz
     rw [wp_eqD (readD_list (n:=2) (R4.tm h4) (pairsDeep R4 hv)) (readD_list (n:=2) e' (pairsDeep R4 hv')) (λ _ _ h=>by cases h),D.same_refl]
   ·obtain ⟨own4,told,rfl,e4,R4,hEq⟩:=hh
    have hw4:=hw.th e4
    have hr4:=hr.ext e4 rfl
    have hd4:own4 d= .tm (.dI false es):=e4.at (q3.at h1 rfl) rfl
    walk_at "w-s"
    refine wp_row3 R4 hr4 λ y hy=> ?_
    rw [hEq y _ hy]
    walk_at "w-s"
    rw [wp_count R4 hw4,wp_chkDd (R4.tm hd4),wp_dget2D (R4.tm hd4) d1]
    walk_at "w-s"
    have hct:((σ.lockedR).th b).cnt=(σ.deg b:Int):=ok.ct b hin
    (first | simp only [hct,decide_true] | simp only [ok.ct b hin,decide_true]);walk_at "w-s"
    rw [wp_ds R4 hw4,wp_row2 R4 hr4]
    walk_at "w-s"
    have hds:((σ.lockedR).th b).ds=((σ.lockedR).row b).ds:=ok.ds b hin
    (first | rw [hds] | rw [ok.ds b hin]);simp only [decide_true];walk_at "w-s"
    rw [loopQ_nxt]
    exact next own4 μ4 e4 R4
  ·have hin':(decide (b∉(σ.lockedR).wk))=true:=by simp [hin]
   rw [hin']
   simp only [if_true,wp_rt]
   rw [thnQ_cnt,loopQ_cnt]
   exact next own' _ Ext.refl R'
 ·obtain ⟨ds,ns,own',q1,q2,q3,R'⟩:=h
  walk_at "w-s"
  exact hq own' _ (e1.trans q3) (R'.unlockR ok.lr (R'.sameR hw2 q3 rfl rfl))
end
local macro_rules | `(tactic| walk_at "w-s")=> `(tactic| try simp only [wp_fin,wp_bd,wp_rt,wp_thnG,thnQ_nxt,thnQ_ret,thnQ_cnt,finQ_nxt,finQ_ret,wp_notC,wp_andC,wp_orC,wp_tru,wp_iteT,wp_iteV,wp_eqI,wp_eqS,wp_eqB,wp_ne,wp_neg,wp_isN,wp_isNN,wp_lt,wp_gt,wp_add,wp_iadd,wp_sub,wp_mkL,wp_mkT,wp_evs0,wp_evs,wp_modL (k:=2) (by decide),wp_modL (k:=3) (by decide),wp_modL (k:=4) (by decide),Bool.not_true,Bool.not_false,if_tt,if_ff,Bool.false_eq_true,if_true,if_false,decide_true,decide_false,Bool.not_eq_true',reduceCtorEq, ↓reduceIte,sSS,sSA,sSH,sAS,sAA,sAH,sHS,sHA,sHH,sWR,sRR])
local macro_rules | `(tactic| walk_at "w-0")=> `(tactic| simp only [wp_bd,wp_rt,wp_mkL,wp_mkT,wp_evs,wp_evs0])
def kinds (way:Nat):Cont:=if way=0 then .s .none else if way=1 then .a [] else .h []
def S.new3 (σ:S):S:=((σ.fresh (.s .none)).fresh (.a [])).fresh (.h [])
def S.addReal (σ:S) (n:Nat):S:= {σ with real:=σ.real ++ [n]}
def S.addRow (σ:S) (n:Nat) (r:Row):S:= {σ with wk:=σ.wk ++ [n],lastRow:=n}.setRow n r
def S.blessIf (σ:S) (n:Nat) (b:Bool):S:=if b then σ.setTh n {σ.th n with bl:=true} else σ
def S.newT (σ:S) (way:Nat) (b:Bool):S:=(((σ.new3.note (σ.last+1+way)).blessIf (σ.last+1+way) b).addReal (σ.last+1+way)).addRow (σ.last+1+way) ⟨kinds way,b,false⟩
def S.newD (σ:S) (way place:Nat) (b:Bool):S:=((σ.newT way b).store place (.ref (σ.last+1+way))).setRowV place (.ref (σ.last+1+way))
section
variable {K:Ad} {own own':Own} {σ σ':S} {μ μ':Mem} {α:Type}
variable {Q:AV→Mem→Prop} {v c s x:AV} {n k q:Nat}
structure Room (σ:S):Prop where
 lw:σ.lkW=false
 lr:σ.lkR=false
 lt: ∀ n,σ.lkT n=false
 zl:σ.zero.length+10 < big
 rl:σ.real.length+10 < big
 wl:σ.wk.length+10 < big
 rb: ∀ n∈σ.real,n≤σ.last
 wb: ∀ n∈σ.wk,n≤σ.last
 lb:σ.lastRow≤σ.last
theorem wp_lawNew {way place:Nat} (R:Rep K own σ μ) (rm:Room σ) (hw:way < 3) (hp:place∈σ.real) (hpw:place∈σ.wk) (hst:StoreOk (σ.newT way (decide (k % 2=1))) place) (hrs: ∃ v,((σ.newT way (decide (k % 2=1))).row place).c= .s v)
  (hq: ∀ own' μ',Ext own own'→Rep K own' (σ.newD way place (decide (k % 2=1))) μ'→Q .none μ'):wp (f_law_new (.obj K.counter) (.obj K.world) (.obj K.real) (.int (way:Int)) (.int (place:Int)) (.int (k:Int))) Q μ:=by
 unfold f_law_new f_law_new_b
 rw [wp_fin]
 walk_at "w-0"
 rw [wp_cHeap R,wp_chkH R]
 refine wp_newScalar R (pv:= .none) rfl rm.lt λ own1 μ1 v1 e1 h1 R1=> ?_
 rw [wp_chkH R1]
 refine wp_newArray R1 rm.lt λ own2 μ2 v2 e2 h2 R2=> ?_
 rw [wp_chkH R2]
 refine wp_newHash R2 rm.lt λ own3 μ3 v3 e3 h3 R3=> ?_
 have R3:Rep K own3 σ.new3 μ3:=R3
 refine wp_alC R3 (.tm (.list [v1,v2,v3])) (by simp) λ own4 μ4 a e4 h4 j4 b4 R4=> ?_
 have hv: ∃ v,[v1,v2,v3][way]? =some v∧at_ own4 v (.thing (σ.last+1+way)):=by
  match way,hw with
  | 0,_=>exact ⟨v1,rfl,((h1.th e2).th e3).th e4⟩
  | 1,_=>exact ⟨v2,rfl,(h2.th e3).th e4⟩
  | 2,_=>exact ⟨v3,rfl,h3.th e4⟩
 obtain ⟨v,hv1,hv2⟩:=hv
 refine wp_of (getI_list (R4.tm h4) hv1) ?_
 rw [wp_chkC R4]
 refine wp_note R4 hv2 (by have:=rm.zl;show σ.zero.length < big;omega) λ μ5 R5=> ?_
 have e04:=((e1.trans e2).trans e3).trans e4
 generalize hn:σ.last+1+way=n at *
 have hnl:σ.last < n:=by omega
 have hnr:n∉σ.real:=λ h=>by have:=rm.rb n h;omega
 have hnw:n∉σ.wk:=λ h=>by have:=rm.wb n h;omega
 rw [wp_thnG]
 refine wp_mono (Q:=λ f μ6=>f= .nxt ()∧Rep K own4 ((σ.new3.note n).blessIf n (decide (k % 2=1))) μ6) ?_ λ f μ6 hh=> ?_
 ·walk_at "w-s"
  unfold S.blessIf
  by_cases z:k % 2=1
  ·have:((k % 2:Nat):Int)=1:=by omega
   simp only [this,z];walk_at "w-s"
   refine wp_bless R5 hv2 λ μ6 R6=>⟨by first | rfl | trivial,?_⟩
   (try simp only [decide_true,if_true])
   exact R6
  ·have: ¬ ((k % 2:Nat):Int)=1:=by omega
   simp only [this,z];walk_at "w-s"
   refine ⟨by first | rfl | trivial,?_⟩
   (try simp only [decide_false,Bool.false_eq_true,if_false])
   exact R5
 ·obtain ⟨rfl,R6⟩:=hh
  rw [thnQ_nxt]
  walk_at "w-s"
  have hbz: ∀ σ:S,∀ b,(σ.blessIf n b).zero=σ.zero∧(σ.blessIf n b).real=σ.real∧(σ.blessIf n b).wk=σ.wk∧(σ.blessIf n b).lkR=σ.lkR∧(σ.blessIf n b).lkW=σ.lkW∧(σ.blessIf n b).lastRow=σ.lastRow:=λ σ b=>by
   unfold S.blessIf;cases b <;> exact ⟨rfl,rfl,rfl,rfl,rfl,rfl⟩
  have hnz: ∀ σ:S,(σ.note n).real=σ.real∧(σ.note n).wk=σ.wk∧(σ.note n).lkR=σ.lkR∧(σ.note n).lkW=σ.lkW∧(σ.note n).lastRow=σ.lastRow:=λ σ=>by
   unfold S.note;split <;> exact ⟨rfl,rfl,rfl,rfl,rfl⟩
  obtain ⟨z1,z2,z3,z4,z5,z6⟩:=hbz (σ.new3.note n) (decide (k % 2=1))
  obtain ⟨y1,y2,y3,y4,y5⟩:=hnz σ.new3
  rw [wp_number R6 hv2]
  refine wp_setReal R6 (by rw [z4,y3];exact rm.lr) (by rw [z2,y1];have:=rm.rl;show σ.real.length < big;omega) (by rw [z2,y1];exact hnr) hv2 λ μ7 R7=> ?_
  have R7:Rep K own4 (((σ.new3.note n).blessIf n (decide (k % 2=1))).addReal n) μ7:=R7
  have hsah:sah (.int (way:Int)) μ7=some (.str (kinds way).kind,μ7):=by
   match way,hw with
   | 0,_=>rfl
   | 1,_=>rfl
   | 2,_=>rfl
  refine wp_of hsah ?_
  have hbb:decide (((k % 2:Nat):Int)=1)=decide (k % 2=1):=by
   by_cases z:k % 2=1
   ·have:((k % 2:Nat):Int)=1:=by omega
    simp [z]
   ·have: ¬ ((k % 2:Nat):Int)=1:=by omega
    simp only [z,this]
  rw [hbb]
  refine wp_alC R7 (.nw (.list [])) (by simp) λ own8 μ8 p1 e8 h8 j8 b8 R8=> ?_
  refine wp_alC R8 (.nw (.list [])) (by simp) λ own9 μ9 p2 e9 h9 j9 b9 R9=> ?_
  have h8':own9 p1= .nw (.list []):=by rw [b9 p1 (λ z=>by rw [z,j9] at h8;cases h8)];exact h8
  refine wp_alC R9 (.tm (.list [.none, .obj p1, .obj p2])) (by simp) λ own10 μ10 p3 e10 h10 j10 b10 R10=> ?_
  have h8'':own10 p1= .nw (.list []):=by rw [b10 p1 (λ z=>by rw [z,j10] at h8';cases h8')];exact h8'
  have h9'':own10 p2= .nw (.list []):=by rw [b10 p2 (λ z=>by rw [z,j10] at h9;cases h9)];exact h9
  have hin: ∃ y,[AV.none, .obj p1, .obj p2][way]? =some y∧((∃ v,kinds way= .s v∧VW own10 v y)∨((kinds way= .a []∨kinds way= .h [])∧ ∃ k,y= .obj k∧own10 k= .nw (.list []))):=by
   match way,hw with
   | 0,_=>exact ⟨.none,rfl, .inl ⟨.none,rfl,rfl⟩⟩
   | 1,_=>exact ⟨_,rfl, .inr ⟨.inl rfl,p1,rfl,h8''⟩⟩
   | 2,_=>exact ⟨_,rfl, .inr ⟨.inr rfl,p2,rfl,h9''⟩⟩
  obtain ⟨y,hy1,hy2⟩:=hin
  refine wp_of (getI_list (R10.tm h10) hy1) ?_
  refine wp_alC R10 (.nw (.list [.str (kinds way).kind, .bool (decide (k % 2=1)), .bool false,y])) (by simp) λ own11 μ11 p4 e11 h11 j11 b11 R11=> ?_
  have e411:=(((e8.trans e9).trans e10).trans e11)
  rw [wp_number R11 (hv2.th e411)]
  have hy3:(∃ v,kinds way= .s v∧VW own11 v y)∨((kinds way= .a []∨kinds way= .h [])∧ ∃ k,y= .obj k∧own11 k= .nw (.list [])):=by
   rcases hy2 with ⟨v,a1,a2⟩ | ⟨a1,k',a2,a3⟩
   ·exact .inl ⟨v,a1,a2.ext e11⟩
   ·exact .inr ⟨a1,k',a2,by rw [b11 k' (λ z=>by rw [z,j11] at a3;cases a3)];exact a3⟩
  refine wp_newRow (c:=kinds way) (bl:=decide (k % 2=1)) R11 (by show ((σ.new3.note n).blessIf n (decide (k % 2=1))).lkW=false;rw [z5,y4];exact rm.lw) (by show ((σ.new3.note n).blessIf n (decide (k % 2=1))).wk.length < big;rw [z3,y2];have:=rm.wl;show σ.wk.length < big;omega) (by show n∉((σ.new3.note n).blessIf n (decide (k % 2=1))).wk;rw [z3,y2];exact hnw) (by show ((σ.new3.note n).blessIf n (decide (k % 2=1))).lastRow < n;rw [z6,y5];have:=rm.lb;show σ.lastRow < n;omega) h11 hy3 λ own12 μ12 e12 R12=> ?_
  have R12:Rep K own12 (σ.newT way (decide (k % 2=1))) μ12:=by unfold S.newT;rw [hn];exact R12
  have hv12:=(hv2.th e411).th e12
  rw [wp_chkC R12]
  refine wp_getReal R12 (n:=place) ?_ λ pl hpl=> ?_
  ·show place∈((σ.new3.note (σ.last+1+way)).blessIf (σ.last+1+way) (decide (k % 2=1))).real ++ [σ.last+1+way]
   rw [hn,z2,y1];exact List.mem_append_left _ hp
  refine wp_newRef (b:=false) R12 hv12 λ own13 μ13 rf e13 hrf R13=> ?_
  obtain ⟨old,ho1,ho2⟩:=hst.sc
  refine wp_store R13 (pv:= .ref n) (hpl.th e13) ho1 hrf hst.zb ho2 λ own14 μ14 e14 R14=> ?_
  rw [wp_number R14 ((hv12.th e13).th e14)]
  refine wp_newTup (b:=false) R14 λ own15 μ15 tp e15 htp R15=> ?_
  have hfin:((σ.newT way (decide (k % 2=1))).store place (.ref n)).wk=(σ.newT way (decide (k % 2=1))).wk∧((σ.newT way (decide (k % 2=1))).store place (.ref n)).row=(σ.newT way (decide (k % 2=1))).row:=by
   unfold S.store
   generalize ((σ.newT way (decide (k % 2=1))).th place).c.val=old'
   cases old' with
   | ref m=>unfold S.putOff S.letGo S.note;dsimp only;split <;> exact ⟨rfl,rfl⟩
   | _=>exact ⟨rfl,rfl⟩
  refine wp_getWorld R15 (n:=place) ?_ λ rw' hrw=> ?_
  ·rw [hfin.1]
   show place∈((σ.new3.note (σ.last+1+way)).blessIf (σ.last+1+way) (decide (k % 2=1))).wk ++ [σ.last+1+way]
   rw [hn,z3,y2];exact List.mem_append_left _ hpw
  obtain ⟨v0,hv0⟩:=hrs
  refine wp_setRow3 (pv:= .ref n) R15 hrw (by rw [hfin.2];exact hv0) htp λ μ16 R16=> ?_
  refine hq own15 μ16 ((((e04.trans e411).trans e12).trans e13).trans (e14.trans e15)) ?_
  unfold S.newD
  rw [hn];exact R16
end
def keyOf (k:Nat):String:="k" ++ toString (((k % 3:Nat)):Int)
def S.putT (σ:S) (source:Nat):S:=((σ.freshV (σ.th source).c.val).addReal (σ.last+1)).addRow (σ.last+1) ⟨.s (σ.row source).c.val.strong,false,false⟩
def S.setC (σ:S) (t:Nat) (c:Cont):S:=σ.setTh t {σ.th t with c:=c}
def S.setRC (σ:S) (t:Nat) (c:Cont):S:=σ.setRow t {σ.row t with c:=c}
def S.putA (σ:S) (t n:Nat) (xs:List Nat):S:=(σ.setC t (.a (xs ++ [n]))).setRC t (.a (xs ++ [n]))
def S.putH (σ:S) (t n:Nat) (key:String) (es:List (String × Nat)):S:=match aget key es with
 | none=>(σ.setC t (.h (aput key n es))).setRC t (.h (es ++ [(key,n)]))
 | some o=>((σ.setC t (.h (aput key n es))).letGo o).setRC t (.h (es.map λ e=>(e.1,if e.1=key then n else e.2)))
def S.putD (σ:S) (place source k:Nat):S:=match (σ.row place).c.val.tgt with
 | none=>σ
 | some t=>match (σ.row t).c with
  | .s _=>σ
  | .a xs=>(σ.putT source).putA t (σ.last+1) xs
  | .h es=>(σ.putT source).putH t (σ.last+1) (keyOf k) es
def S.takenD (σ:S) (place:Nat):S:=match (σ.row place).c.val.tgt with
 | none=>σ
 | some t=>match (σ.row t).c with
  | .s _=>σ
  | .a []=>σ
  | .a (m :: xs)=>((σ.setRC t (.a xs)).setC t (.a xs)).letGo m
  | .h []=>σ
  | .h (e :: es)=>((σ.setRC t (.h es)).setC t (.h (adel e.1 (e :: es)))).letGo e.2
section
variable {K:Ad} {own own':Own} {σ σ':S} {μ μ':Mem} {α:Type}
variable {Q:AV→Mem→Prop} {v c s x:AV} {n k q:Nat}
theorem wp_key:wp (strM (.int ((k % 3:Nat):Int))) (λ y μ'=>wp (addM (.str "k") y) Q μ') μ=Q (.str (keyOf k)) μ:=by
 have h3:k % 3 < 3:=Nat.mod_lt _ (by decide)
 have hl:(toString (((k % 3:Nat)):Int)).length≤100:=by
  have:k % 3=0∨k % 3=1∨k % 3=2:=by omega
  rcases this with h | h | h <;> rw [h] <;> decide
 rw [wp_eq (m:=strM (.int ((k % 3:Nat):Int))) (a:= .str (toString (((k % 3:Nat)):Int))) (μ':=μ) (by
  have:(0:Int)≤((k % 3:Nat):Int)∧((k % 3:Nat):Int) < 10:=by omega
  simp only [strM,this,and_self,if_true];rfl)]
 exact wp_eq (by
  have:"k".length≤100∧(toString (((k % 3:Nat)):Int)).length≤100:=⟨by decide,hl⟩
  simp only [addM,this,and_self,if_true];rfl)
theorem wp_alP (R:Rep K own σ μ) {o:AO} (r:Role) (hr:r= .im o∨r= .tm o∨r= .nw o) (hq: ∀ own' a,Ext own own'→own' a=r→Rep K own' σ (μ ++ [o])→Q (.obj a) (μ ++ [o])):wp (al o) Q μ:=by
 obtain ⟨h1,h2,h3⟩:=R.al hr
 exact wp_of rfl (hq _ _ h2 h3 h1)
theorem get_app {i:Nat} {o p:AO} (h:μ[i]? =some o):(μ ++ [p])[i]? =some o:=by
 rw [List.getElem?_append_left ((List.getElem?_eq_some_iff.mp h).1)];exact h
theorem kind_notS_a {xs:List Nat}:decide ((Cont.a xs).kind="S")=false:=rfl
theorem kind_notS_h {es:List (String × Nat)}:decide ((Cont.h es).kind="S")=false:=rfl
theorem kind_S {v:PV}:decide ((Cont.s v).kind="S")=true:=rfl
structure PutOk (σ:S) (place source:Nat):Prop where
 rm:Room σ
 pw:place∈σ.wk
 sw:source∈σ.wk
 sr:source∈σ.real
 pc: ∃ v,(σ.row place).c= .s v
 sc: ∃ v,(σ.row source).c= .s v∧(σ.th source).c= .s v
 tg: ∀ t,(σ.row place).c.val.tgt=some t→t∈σ.wk∧t∈σ.real∧(σ.th t).c=(σ.row t).c∧(members (σ.row t).c).length < big∧t≤σ.last
theorem freshV_th {m:Nat} {pv:PV} (h:m≤σ.last):((σ.freshV pv).th m).c=(σ.th m).c:=by
 unfold S.freshV S.setCnt S.fresh
 have h1:m≠σ.last+1:=by omega
 rw [th_setTh,if_neg h1]
 show (((({σ.take pv with last:=_}:S)).setTh _ _).th m).c=_
 rw [th_setTh,if_neg (by rw [take_last];exact h1)]
 exact take_c
theorem freshV_zero {pv:PV}:(σ.freshV pv).zero=σ.zero:=by show (σ.take pv).zero=σ.zero;exact take_zero
theorem wp_lawPut {place source:Nat} (R:Rep K own σ μ) (ok:PutOk σ place source) (hq: ∀ own' μ',Ext own own'→Rep K own' (σ.putD place source k) μ'→Q .none μ'):wp (f_law_put (.obj K.counter) (.obj K.world) (.obj K.real) (.int (place:Int)) (.int (source:Int)) (.int (k:Int))) Q μ:=by
 unfold f_law_put f_law_put_b
 rw [wp_fin]
 simp only [wp_bd,wp_rt]
 refine wp_getWorld R ok.pw λ pr hpr=>wp_row3 R hpr λ y hy=> ?_
 obtain ⟨pv,hpv⟩:=ok.pc
 rw [hpv] at hy
 have htv:(σ.row place).c.val=pv:=by rw [hpv];rfl
 have htg:=ok.tg
 rw [htv] at htg
 unfold S.putD at hq
 rw [htv] at hq
 clear htv
 rw [wp_thnG]
 simp only [wp_bd,wp_rt,wp_orC,wp_notC]
 rw [wp_isTup R (pv:=pv) hy,wp_tru]
 cases hr:pv.isRef with
 | false =>
  have:pv.tgt=none:=by cases pv <;> first | rfl | cases hr
  rw [this] at hq
  simp only [Bool.not_false,if_true,wp_rt]
  rw [thnQ_ret,finQ_ret]
  exact hq own μ Ext.refl R
 | true =>
  obtain ⟨t,ht⟩:=tgt_some hr
  rw [ht] at hq
  obtain ⟨t1,t2,t3,t4,t5⟩:=htg t ht
  simp only [Bool.not_true,Bool.false_eq_true,if_false]
  rw [wp_tup1 R (pv:=pv) hy ht]
  refine wp_getWorld R t1 λ g hg=> ?_
  dsimp only at hq
  by_cases hS: ∃ v,(σ.row t).c= .s v
  ·obtain ⟨v,hc⟩:=hS
   simp only [hc] at hq
   rw [wp_kind R hg hc,wp_eqS,wp_tru,kind_S]
   simp only [if_true,wp_rt]
   rw [thnQ_ret,finQ_ret]
   exact hq own μ Ext.refl R
  ·have notS:decide ((σ.row t).c.kind="S")=false:=by
    cases hc:(σ.row t).c with
    | s v=>exact absurd ⟨v,hc⟩ hS
    | a xs=>rfl
    | h es=>rfl
   rw [wp_row0 R hg,wp_eqS,wp_tru,notS]
   simp only [Bool.false_eq_true,if_false,wp_rt]
   rw [thnQ_nxt]
   simp only [wp_bd,wp_rt,wp_mkL,wp_evs,wp_evs0]
   rw [wp_tup1 R (pv:=pv) hy ht]
   refine wp_getWorld R t1 λ g' hg'=> ?_
   rw [wp_tup1 R (pv:=pv) hy ht]
   refine wp_getReal R t2 λ w hw=> ?_
   refine wp_alC R (.tm (.tup [g',w])) (by simp) λ own1 μ1 a1 e1 h1 j1 b1 R1=> ?_
   rw [wp_chkC R1]
   refine wp_getReal R1 ok.sr λ sv hsv=> ?_
   obtain ⟨ps,hps1,hps2⟩:=ok.sc
   refine wp_value R1 hsv hps2 λ vx hvx=> ?_
   refine wp_fresh R1 hvx ok.rm.lt λ own2 μ2 sc e2 hsc R2=> ?_
   have hval:(σ.th source).c.val=ps:=by rw [hps2];rfl
   have hvalr:(σ.row source).c.val=ps:=by rw [hps1];rfl
   have hsame: ∀ pv:PV,(σ.freshV pv).real=σ.real∧(σ.freshV pv).wk=σ.wk∧(σ.freshV pv).lkR=σ.lkR∧(σ.freshV pv).lkW=σ.lkW∧(σ.freshV pv).lastRow=σ.lastRow∧(σ.freshV pv).row=σ.row∧(σ.freshV pv).lkT=σ.lkT:=λ pv=>by
    cases pv <;> exact ⟨rfl,rfl,rfl,rfl,rfl,rfl,rfl⟩
   obtain ⟨s1,s2,s3,s4,s5,s6,s7⟩:=hsame ps
   rw [wp_number R2 hsc]
   have hnr:σ.last+1∉σ.real:=λ h=>by have:=ok.rm.rb _ h;omega
   have hnw:σ.last+1∉σ.wk:=λ h=>by have:=ok.rm.wb _ h;omega
   refine wp_setReal R2 (by rw [s3];exact ok.rm.lr) (by rw [s1];have:=ok.rm.rl;omega) (by rw [s1];exact hnr) hsc λ μ3 R3=> ?_
   have R3:Rep K own2 ((σ.freshV ps).addReal (σ.last+1)) μ3:=R3
   refine wp_getWorld (n:=source) R3 (by show source∈(σ.freshV ps).wk;rw [s2];exact ok.sw) λ sr hsr=> ?_
   refine wp_row3 R3 hsr λ sy hsy=> ?_
   rw [show (((σ.freshV ps).addReal (σ.last+1)).row source).c= .s ps by show ((σ.freshV ps).row source).c=_;rw [s6];exact hps1] at hsy
   refine wp_strong R3 (pv:=ps) hsy λ own4 μ4 ty e4 hty R4=> ?_
   refine wp_alC R4 (.nw (.list [.str (Cont.s ps.strong).kind, .bool false, .bool false,ty])) (by simp [Cont.kind]) λ own5 μ5 a5 e5 h5 j5 b5 R5=> ?_
   rw [wp_number R5 ((hsc.th e4).th e5)]
   refine wp_newRow (c:= .s ps.strong) (bl:=false) R5 (by show (σ.freshV ps).lkW=false;rw [s4];exact ok.rm.lw) (by show (σ.freshV ps).wk.length < big;rw [s2];have:=ok.rm.wl;omega) (by show σ.last+1∉(σ.freshV ps).wk;rw [s2];exact hnw) (by show (σ.freshV ps).lastRow < σ.last+1;rw [s5];have:=ok.rm.lb;omega) h5 (.inl ⟨_,rfl,hty.ext e5⟩) λ own6 μ6 e6 R6=> ?_
   have R6:Rep K own6 (σ.putT source) μ6:=by unfold S.putT;rw [hval,hvalr];exact R6
   have e16:Ext own own6:=(((e1.trans e2).trans e4).trans e5).trans e6
   have hsc6:at_ own6 sc (.thing (σ.last+1)):=((hsc.th e4).th e5).th e6
   have hw6:=hw.th e16
   have hg6:=hg'.ext e16 rfl
   have hne:t≠σ.last+1:=by omega
   have hrow6:(σ.putT source).row t=σ.row t:=by
    unfold S.putT S.addRow
    rw [setRow_ne hne,hval]
    show (σ.freshV ps).row t=_
    rw [s6]
   have hth6:((σ.putT source).th t).c=(σ.th t).c:=by
    unfold S.putT
    rw [hval]
    exact freshV_th t5
   have hz6:(σ.putT source).zero=σ.zero:=by unfold S.putT;exact freshV_zero
   have hlk6: ∀ m,(σ.putT source).lkT m=false:=λ m=>by unfold S.putT;rw [hval];show (σ.freshV ps).lkT m=false;rw [s7];exact ok.rm.lt m
   rw [wp_thnG]
   simp only [wp_bd,wp_rt]
   cases hc:(σ.row t).c with
   | s v=>exact absurd ⟨v,hc⟩ hS
   | a xs =>
    simp only [hc] at hq
    rw [hc] at t3 t4
    have hrc:((σ.putT source).row t).c= .a xs:=by rw [hrow6];exact hc
    have htc:((σ.putT source).th t).c= .a xs:=by rw [hth6];exact t3
    rw [wp_kind R6 hg6 hrc]
    simp only [Cont.kind,wp_eqS,sAA,decide_true,wp_tru,if_true,wp_bd,wp_rt]
    refine wp_items R6 hw6 htc λ it hit=> ?_
    rw [wp_chkLitems R6 htc hit]
    refine wp_appItems R6 htc hit hsc6 t4 λ μ7 R7=> ?_
    refine wp_row3 R7 hg6 λ ry hry=> ?_
    have hrc7:(((σ.putT source).setTh t {(σ.putT source).th t with c:= .a (xs ++ [σ.last+1])}).row t).c= .a xs:=hrc
    rw [hrc7] at hry
    rw [wp_chkLinn (n:=t) R7 (by rw [hrc7];nofun) hry,wp_number R7 hsc6]
    refine wp_appInnA (n:=t) R7 hrc7 hry t4 λ μ8 R8=> ?_
    rw [thnQ_ret,finQ_ret]
    exact hq own6 μ8 e16 R8
   | h es =>
    simp only [hc] at hq
    rw [hc] at t3 t4
    have hrc:((σ.putT source).row t).c= .h es:=by rw [hrow6];exact hc
    have htc:((σ.putT source).th t).c= .h es:=by rw [hth6];exact t3
    have hel:es.length < big:=by simpa [members] using t4
    rw [wp_kind R6 hg6 hrc]
    simp only [Cont.kind,wp_eqS,sHA,wp_tru,Bool.false_eq_true,if_false,wp_rt]
    rw [thnQ_nxt]
    simp only [wp_bd,wp_rt]
    rw [wp_modL (k:=3) (by decide),wp_key]
    refine wp_table R6 hw6 htc λ tb htb=> ?_
    rw [wp_chkDtable R6 htc htb]
    refine wp_dget1Table R6 htc htb λ ov hov=> ?_
    refine wp_table R6 hw6 htc λ tb2 htb2=> ?_
    refine wp_setTable R6 htc (hlk6 t) htb2 hsc6 hel λ μ7 R7=> ?_
    have R7:Rep K own6 ((σ.putT source).setC t (.h (aput (keyOf k) (σ.last+1) es))) μ7:=R7
    rw [wp_isN,wp_tru]
    unfold S.putH at hq
    cases hk:aget (keyOf k) es with
    | none =>
     rw [hk] at hov
     simp only [hk] at hq
     subst hov
     simp only [decide_true,if_true,wp_bd,wp_rt,wp_mkL,wp_evs,wp_evs0]
     refine wp_row3 R7 hg6 λ ry hry=> ?_
     have hrc7:(((σ.putT source).setC t (.h (aput (keyOf k) (σ.last+1) es))).row t).c= .h es:=hrc
     rw [hrc7] at hry
     rw [wp_chkLinn (n:=t) R7 (by rw [hrc7];nofun) hry,wp_number R7 hsc6]
     refine wp_alC R7 (.im (pairO (keyOf k,σ.last+1))) (by simp [pairO]) λ own8 μ8 a8 e8 h8 j8 b8 R8=> ?_
     refine wp_appInnH (n:=t) (e:=(keyOf k,σ.last+1)) R8 hrc7 (at_.ext e8 rfl hry) ⟨a8,rfl,h8⟩ hel λ μ9 R9=> ?_
     rw [finQ_nxt]
     exact hq own8 μ9 (e16.trans e8) R9
    | some o =>
     rw [hk] at hov
     simp only [hk] at hq
     have hnn:decide (ov= .none)=false:=by obtain ⟨i,rfl,_⟩:=hov;rfl
     rw [hnn]
     simp only [Bool.false_eq_true,if_false,wp_bd,wp_rt]
     rw [wp_chkC R7]
     refine wp_drop R7 hov (by show (σ.putT source).zero.length < big;rw [hz6];have:=ok.rm.zl;omega) λ μ8 R8=> ?_
     refine wp_row3 R8 hg6 λ ry hry=> ?_
     have hrc8:((((σ.putT source).setC t (.h (aput (keyOf k) (σ.last+1) es))).letGo o).row t).c= .h es:=by
      unfold S.letGo S.note;split <;> exact hrc
     rw [hrc8] at hry
     obtain ⟨i,vs,rfl,hi,hv,e⟩:=R8.innH (n:=t) hrc8 hry
     refine wp_compL (λ xs acc μ'=> ∃ ds ns own',es=ds ++ ns∧L2 (λ v e=>at_ own' v (.im (pairO e))) xs ns∧Ext own6 own'∧L2 (λ v e=>at_ own' v (.im (pairO e))) acc (ds.map λ e=>(e.1,if e.1=keyOf k then σ.last+1 else e.2))∧μ'[i]? =some (.list vs)∧Rep K own' (((σ.putT source).setC t (.h (aput (keyOf k) (σ.last+1) es))).letGo o) μ') e (by rw [hv.len];omega) ⟨[],es,own6,rfl,hv,Ext.refl, .nil,e,R8⟩ (λ xs acc μ' h=> ?_) (λ x xs acc μ' h=> ?_) (λ acc μ' h=> ?_)
     ·obtain ⟨ds,ns,own',q1,q2,q3,q4,q5,R9⟩:=h
      exact q5
     ·obtain ⟨ds,ns,own',q1,q2,q3,q4,q5,R9⟩:=h
      cases q2 with
      | @cons _ b _ bs p1 p2 =>
      walk_at "w-s"
      rw [wp_pair0 R9 p1,wp_pair0 R9 p1]
      walk_at "w-s"
      have fin: ∀ own10 μ10 y,Ext own' own10→at_ own10 y (.im (pairO (b.1,if b.1=keyOf k then σ.last+1 else b.2)))→μ10[i]? =some (.list vs)→Rep K own10 (((σ.putT source).setC t (.h (aput (keyOf k) (σ.last+1) es))).letGo o) μ10→ ∃ ds ns own',es=ds ++ ns∧L2 (λ v e=>at_ own' v (.im (pairO e))) xs ns∧Ext own6 own'∧L2 (λ v e=>at_ own' v (.im (pairO e))) (acc ++ [y]) (ds.map λ e=>(e.1,if e.1=keyOf k then σ.last+1 else e.2))∧μ10[i]? =some (.list vs)∧Rep K own' (((σ.putT source).setC t (.h (aput (keyOf k) (σ.last+1) es))).letGo o) μ10:=λ own10 μ10 y e10 hy hi10 R10 =>
       ⟨ds ++ [b],bs,own10,by rw [q1];simp,p2.imp λ v e h=>h.ext e10 rfl,q3.trans e10,by rw [List.map_append];exact (q4.imp λ v e h=>h.ext e10 rfl).snoc hy,hi10,R10⟩
      by_cases z:b.1=keyOf k
      ·simp only [z];walk_at "w-s"
       rw [wp_number R9 (hsc6.th q3)]
       refine wp_alP R9 (.im (pairO (keyOf k,σ.last+1))) (by simp [pairO]) λ own10 a10 e10 h10 R10=> ?_
       exact fin own10 _ _ e10 ⟨a10,rfl,by rw [h10,z];simp⟩ (get_app q5) R10
      ·simp only [z];walk_at "w-s"
       rw [wp_pair1 R9 p1]
       refine wp_alP R9 (.im (pairO (b.1,b.2))) (by simp [pairO]) λ own10 a10 e10 h10 R10=> ?_
       exact fin own10 _ _ e10 ⟨a10,rfl,by rw [h10];simp [z]⟩ (get_app q5) R10
     ·obtain ⟨ds,ns,own',q1,q2,q3,q4,q5,R9⟩:=h
      cases q2
      rw [List.append_nil] at q1
      subst q1
      refine wp_alC R9 (.nw (.list acc)) (by simp) λ own10 μ10 a10 e10 h10 j10 b10 R10=> ?_
      refine wp_row3 R10 ((hg6.ext q3 rfl).ext e10 rfl) λ ry' hry'=> ?_
      rw [hrc8] at hry'
      refine wp_setInnH (n:=t) R10 hrc8 hry' h10 (q4.imp λ v e h=>h.ext e10 rfl) λ μ11 R11=> ?_
      rw [finQ_nxt]
      exact hq own10 μ11 ((e16.trans q3).trans e10) R11
end
local macro_rules | `(tactic| walk_at "w-s")=> `(tactic| try simp only [wp_fin,wp_bd,wp_rt,wp_thnG,thnQ_nxt,thnQ_ret,thnQ_cnt,finQ_nxt,finQ_ret,wp_notC,wp_andC,wp_orC,wp_tru,wp_iteT,wp_iteV,wp_eqI,wp_eqS,wp_eqB,wp_ne,wp_neg,wp_isN,wp_isNN,wp_lt,wp_gt,wp_add,wp_iadd,wp_sub,wp_mkL,wp_mkT,wp_evs0,wp_evs,wp_modL (k:=2) (by decide),wp_modL (k:=3) (by decide),wp_modL (k:=4) (by decide),wp_modL (k:=10) (by decide),wp_divL (k:=160) (by decide) (by decide),wp_divL (k:=10) (by decide) (by decide),wp_divL (k:=40) (by decide) (by decide),wp_divL (k:=3) (by decide) (by decide),wp_divL (k:=9) (by decide) (by decide),Bool.not_true,Bool.not_false,if_tt,if_ff,Bool.false_eq_true,if_true,if_false,decide_true,decide_false,Bool.not_eq_true',reduceCtorEq, ↓reduceIte,sSS,sSA,sSH,sAS,sAA,sAH,sHS,sHA,sHH,sWR,sRR])
def S.copyD (σ:S) (place source:Nat):S:=(σ.store place (σ.th source).c.val).setRowV place (σ.row source).c.val.strong
def S.setD (σ:S) (place:Nat) (v:PV):S:=(σ.store place v).setRowV place v
def S.weakD (σ:S) (place:Nat):S:=match (σ.row place).c.val.tgt with
 | none=>σ.weaken place
 | some m=>(σ.weaken place).setRowV place (.weak m)
structure Ready (σ:S):Prop where
 rm:Room σ
 cl:Closed σ
 ro: ∀ i,i < 4→ ∃ r,σ.roots[i]? =some r∧LS σ r
 al: ∀ t∈σ.wk,t∈σ.real∧(σ.th t).c=(σ.row t).c∧(members (σ.row t).c).length < big∧KeysOk (σ.row t).c∧t≤σ.last∧(σ.th t).weak.length < big
 wt: ∀ p m,p∈σ.wk→(σ.row p).c.val.tgt=some m→m∈σ.wk
inductive DeedOf (σ:S):S→Prop
 | new {place way:Nat} {b:Bool}:LS σ place→way < 3→DeedOf σ (σ.newD way place b)
 | copy {place source:Nat}:LS σ place→LS σ source→DeedOf σ (σ.copyD place source)
 | set {place:Nat} {v:PV}:LS σ place→v.tgt=none→DeedOf σ (σ.setD place v)
 | weak {place:Nat}:LS σ place→DeedOf σ (σ.weakD place)
 | put {place source k:Nat}:LS σ place→LS σ source→DeedOf σ (σ.putD place source k)
 | taken {place:Nat}:LS σ place→DeedOf σ (σ.takenD place)
 | nop:DeedOf σ σ
section
variable {K:Ad} {own own':Own} {σ σ':S} {μ μ':Mem} {α:Type}
variable {Q:AV→Mem→Prop} {v c s x:AV} {n k q:Nat}
theorem letGo_row:(σ.letGo n).row=σ.row:=by unfold S.letGo S.note;split <;> rfl
theorem letGo_wk:(σ.letGo n).wk=σ.wk:=by unfold S.letGo S.note;split <;> rfl
theorem store_row {pv:PV}:(σ.store n pv).row=σ.row:=by
 unfold S.store
 generalize (σ.th n).c.val=old
 have:((σ.take pv).setVal n pv.strong).row=σ.row:=by cases pv <;> rfl
 cases old with
 | ref m=>exact letGo_row.trans this
 | _=>exact this
theorem store_wk {pv:PV}:(σ.store n pv).wk=σ.wk:=by
 unfold S.store
 generalize (σ.th n).c.val=old
 have:((σ.take pv).setVal n pv.strong).wk=σ.wk:=by cases pv <;> rfl
 cases old with
 | ref m=>exact letGo_wk.trans this
 | _=>exact this
theorem Ready.store (rd:Ready σ) {p:Nat} (h:LS σ p):p∈σ.real∧StoreOk σ p:=by
 obtain ⟨h1,v,h2⟩:=h
 obtain ⟨a1,a2,a3,a4,a5,a6⟩:=rd.al p h1
 refine ⟨a1,by have:=rd.rm.zl;omega,v,a2.trans h2,λ m hm=> ?_⟩
 have hm':m∈σ.wk:=rd.wt p m h1 (by rw [h2];show v.tgt=some m;rw [hm];rfl)
 obtain ⟨b1,b2,b3,b4,b5,b6⟩:=rd.al m hm'
 exact ⟨Nat.le_of_lt b6,b5⟩
theorem wp_lawTaken {place:Nat} (R:Rep K own σ μ) (rd:Ready σ) (hp:LS σ place) (hq: ∀ own' μ',Ext own own'→Rep K own' (σ.takenD place) μ'→Q .none μ'):wp (f_law_taken (.obj K.counter) (.obj K.world) (.obj K.real) (.int (place:Int))) Q μ:=by
 unfold f_law_taken f_law_taken_b
 rw [wp_fin]
 simp only [wp_bd,wp_rt]
 refine wp_getWorld R hp.1 λ pr hpr=>wp_row3 R hpr λ y hy=> ?_
 obtain ⟨pv,hpv⟩:=hp.2
 rw [hpv] at hy
 unfold S.takenD at hq
 have htv:(σ.row place).c.val=pv:=by rw [hpv];rfl
 rw [htv] at hq
 rw [wp_thnG]
 simp only [wp_bd,wp_rt,wp_orC,wp_notC,wp_mkL,wp_evs0]
 rw [wp_isTup R (pv:=pv) hy,wp_tru]
 cases hr:pv.isRef with
 | false =>
  have:pv.tgt=none:=by cases pv <;> first | rfl | cases hr
  rw [this] at hq
  simp only [Bool.not_false,if_true,wp_rt]
  rw [thnQ_ret,finQ_ret]
  exact hq own μ Ext.refl R
 | true =>
  obtain ⟨t,ht⟩:=tgt_some hr
  rw [ht] at hq
  dsimp only at hq
  have t1:t∈σ.wk:=rd.wt place t hp.1 (by rw [htv];exact ht)
  obtain ⟨t2,t3,t4,t4',t5,t6⟩:=rd.al t t1
  simp only [Bool.not_true,Bool.false_eq_true,if_false]
  rw [wp_tup1 R (pv:=pv) hy ht]
  refine wp_getWorld R t1 λ g hg=> ?_
  cases hc:(σ.row t).c with
  | s v =>
   simp only [hc] at hq
   rw [wp_kind R hg hc,wp_eqS,wp_tru,kind_S]
   simp only [if_true,wp_rt]
   rw [thnQ_ret,finQ_ret]
   exact hq own μ Ext.refl R
  | a xs =>
   simp only [hc] at hq
   rw [hc] at t3
   rw [wp_kind R hg hc,wp_eqS,wp_tru,kind_notS_a]
   simp only [Bool.false_eq_true,if_false,wp_rt]
   rw [wp_tup1 R (pv:=pv) hy ht]
   refine wp_getWorld R t1 λ g' hg'=>wp_row3 R hg' λ z hz=> ?_
   rw [hc] at hz
   refine wp_alC R (.tm (.list [])) (by simp) λ own1 μ1 a1 e1 h1 j1 b1 R1=> ?_
   obtain ⟨i,rfl,hi,e⟩:=R1.innA (n:=t) hc (at_.ext e1 rfl hz)
   rw [wp_eqNums e (ys:=[]) (R1.tm h1),wp_tru]
   cases xs with
   | nil =>
    simp only [decide_true,if_true,wp_rt]
    rw [thnQ_ret,finQ_ret]
    exact hq own1 μ1 e1 R1
   | cons m xs =>
    simp only [reduceCtorEq,decide_false,Bool.false_eq_true,if_false,wp_rt]
    rw [thnQ_nxt]
    simp only [wp_bd,wp_rt]
    rw [wp_tup1 R1 (pv:=pv) (VW.ext hy e1) ht]
    refine wp_getWorld R1 t1 λ g2 hg2=> ?_
    rw [wp_tup1 R1 (pv:=pv) (VW.ext hy e1) ht]
    refine wp_getReal R1 t2 λ w hw=> ?_
    refine wp_alC R1 (.tm (.tup [g2,w])) (by simp) λ own2 μ2 a2 e2 h2 j2 b2 R2=> ?_
    refine wp_row3 R2 (hg2.ext e2 rfl) λ z2 hz2=> ?_
    rw [hc] at hz2
    rw [wp_chkLinn (n:=t) R2 (by rw [hc];nofun) hz2]
    refine wp_popInnA (n:=t) R2 hc hz2 λ μ3 R3=> ?_
    have R3:Rep K own2 (σ.setRC t (.a xs)) μ3:=R3
    rw [wp_kind R3 (hg2.ext e2 rfl) (c:= .a xs) (by unfold S.setRC;rw [setRow_same])]
    simp only [Cont.kind,wp_eqS,sAA,decide_true,wp_tru,if_true,wp_bd,wp_rt]
    rw [wp_chkC R3]
    refine wp_items R3 (hw.th e2) t3 λ it hit=> ?_
    rw [wp_chkLitems R3 t3 hit]
    refine wp_popItems R3 t3 hit λ mv μ4 hmv R4=> ?_
    refine wp_drop R4 hmv (by show σ.zero.length < big;have:=rd.rm.zl;omega) λ μ5 R5=> ?_
    rw [finQ_nxt]
    exact hq own2 μ5 (e1.trans e2) R5
  | h es =>
   simp only [hc] at hq
   rw [hc] at t3 t4'
   rw [wp_kind R hg hc,wp_eqS,wp_tru,kind_notS_h]
   simp only [Bool.false_eq_true,if_false,wp_rt]
   rw [wp_tup1 R (pv:=pv) hy ht]
   refine wp_getWorld R t1 λ g' hg'=>wp_row3 R hg' λ z hz=> ?_
   rw [hc] at hz
   refine wp_alC R (.tm (.list [])) (by simp) λ own1 μ1 a1 e1 h1 j1 b1 R1=> ?_
   obtain ⟨i,vs,rfl,hi,hv,e⟩:=R1.innH (n:=t) hc (at_.ext e1 rfl hz)
   rw [wp_eqD (readD_list (n:=2) e (pairsDeep R1 hv)) (readD_list (n:=2) (ds:=[]) (R1.tm h1) .nil) (λ _ _ h=>by cases h),wp_tru]
   cases es with
   | nil =>
    simp only [List.map_nil,D.same,D.sames,beq_self_eq_true,Bool.and_self,if_true,wp_rt]
    rw [thnQ_ret,finQ_ret]
    exact hq own1 μ1 e1 R1
   | cons e0 es =>
    simp only [List.map_cons,D.same,D.sames,Bool.and_false,Bool.false_eq_true,if_false,wp_rt]
    rw [thnQ_nxt]
    simp only [wp_bd,wp_rt]
    rw [wp_tup1 R1 (pv:=pv) (VW.ext hy e1) ht]
    refine wp_getWorld R1 t1 λ g2 hg2=> ?_
    rw [wp_tup1 R1 (pv:=pv) (VW.ext hy e1) ht]
    refine wp_getReal R1 t2 λ w hw=> ?_
    refine wp_alC R1 (.tm (.tup [g2,w])) (by simp) λ own2 μ2 a2 e2 h2 j2 b2 R2=> ?_
    refine wp_row3 R2 (hg2.ext e2 rfl) λ z2 hz2=> ?_
    rw [hc] at hz2
    rw [wp_chkLinn (n:=t) R2 (by rw [hc];nofun) hz2]
    refine wp_popInnH (n:=t) R2 hc hz2 λ gp μ3 hgp R3=> ?_
    have R3:Rep K own2 (σ.setRC t (.h es)) μ3:=R3
    rw [wp_kind R3 (hg2.ext e2 rfl) (c:= .h es) (by unfold S.setRC;rw [setRow_same])]
    simp only [Cont.kind,wp_eqS,sHA,wp_tru,Bool.false_eq_true,if_false,wp_bd,wp_rt]
    rw [wp_chkC R3]
    refine wp_table R3 (hw.th e2) t3 λ it hit=> ?_
    rw [wp_chkDtable R3 t3 hit,wp_pair0 R3 hgp]
    refine wp_popTable R3 t3 (rd.rm.lt t) hit (m:=e0.2) (by unfold aget;simp) λ mv μ4 hmv R4=> ?_
    refine wp_drop R4 hmv (by show σ.zero.length < big;have:=rd.rm.zl;omega) λ μ5 R5=> ?_
    rw [finQ_nxt]
    exact hq own2 μ5 (e1.trans e2) R5
theorem Ready.putOk (rd:Ready σ) {p s:Nat} (hp:LS σ p) (hs:LS σ s):PutOk σ p s:=by
 obtain ⟨v,hv⟩:=hs.2
 obtain ⟨a1,a2,a3,a4,a5,a6⟩:=rd.al s hs.1
 refine ⟨rd.rm,hp.1,hs.1,a1,hp.2,⟨v,hv,a2.trans hv⟩,λ t ht=> ?_⟩
 have t1:=rd.wt p t hp.1 ht
 obtain ⟨t2,t3,t4,t4',t5,t6⟩:=rd.al t t1
 exact ⟨t1,t2,t3,t4,t5⟩
theorem wp_deed {n:Nat} (R:Rep K own σ μ) (rd:Ready σ) (hnew: ∀ way place b,LS σ place→way < 3→StoreOk (σ.newT way b) place∧ ∃ v,((σ.newT way b).row place).c= .s v) (hq: ∀ own' μ' σ',Ext own own'→DeedOf σ σ'→Rep K own' σ' μ'→Q .none μ'):wp (f_law_deed (.obj K.counter) (.obj K.world) (.obj K.real) (.obj K.roots) (.int (n:Int))) Q μ:=by
 unfold f_law_deed f_law_deed_b
 walk_at "w-s"
 refine wp_alC R (.tm (.tup [.int ((n % 10:Nat):Int), .int ((n / 160:Nat):Int)])) (by simp) λ own1 μ1 a1 e1 h1 j1 b1 R1=> ?_
 obtain ⟨r1,hr1,hl1⟩:=rd.ro (n / 10 % 4) (Nat.mod_lt _ (by decide))
 rw [wp_getRoot R1 (m:=r1) hr1]
 refine wp_place R1 rd.cl hl1 λ own2 μ2 source e2 hsrc R2=> ?_
 obtain ⟨r2,hr2,hl2⟩:=rd.ro (n / 40 % 4) (Nat.mod_lt _ (by decide))
 rw [wp_getRoot R2 (m:=r2) hr2]
 refine wp_place R2 rd.cl hl2 λ own3 μ3 place e3 hpl R3=> ?_
 have e03:=(e1.trans e2).trans e3
 generalize hk:n / 160=k
 have hway:n % 10 < 10:=Nat.mod_lt _ (by decide)
 generalize n % 10=way at *
 obtain ⟨hp1,hp2⟩:=rd.store hpl
 obtain ⟨hs1,hs2⟩:=rd.store hsrc
 have hsrcC: ∃ v,(σ.row source).c= .s v∧(σ.th source).c= .s v:=by
  obtain ⟨v,hv⟩:=hsrc.2
  exact ⟨v,hv,(rd.al source hsrc.1).2.1.trans hv⟩
 obtain ⟨vp,hvp⟩:=hpl.2
 have hthp:=(rd.al place hpl.1).2.1.trans hvp
 by_cases w3:way < 3
 ·have:(way:Int) < 3:=by omega
  simp only [this];walk_at "w-s"
  obtain ⟨q1,q2⟩:=hnew way place (decide (k / 9 % 2=1)) hpl w3
  exact wp_lawNew R3 rd.rm w3 hp1 hpl.1 q1 q2 λ own4 μ4 e4 R4=>hq own4 μ4 _ (e03.trans e4) (.new hpl w3) R4
 ·have: ¬ (way:Int) < 3:=by omega
  simp only [this];walk_at "w-s"
  by_cases w:way=3
  ·have:(way:Int)=3:=by omega
   simp only [this];walk_at "w-s"
   rw [wp_chkC R3]
   refine wp_getReal R3 hp1 λ pt hpt=>wp_getReal R3 hs1 λ st hst=> ?_
   obtain ⟨sv,hsv1,hsv2⟩:=hsrcC
   refine wp_value R3 hst hsv2 λ vx hvx=> ?_
   obtain ⟨old,ho1,ho2⟩:=hp2.sc
   refine wp_store R3 hpt ho1 hvx hp2.zb ho2 λ own4 μ4 e4 R4=> ?_
   refine wp_getWorld R4 (n:=source) (by rw [store_wk];exact hsrc.1) λ sr hsr=>wp_row3 R4 hsr λ sy hsy=> ?_
   rw [store_row,hsv1] at hsy
   refine wp_strong R4 (pv:=sv) hsy λ own5 μ5 ty e5 hty R5=> ?_
   refine wp_getWorld R5 (n:=place) (by rw [store_wk];exact hpl.1) λ pr hpr=> ?_
   refine wp_setRow3 (pv:=sv.strong) R5 hpr (by rw [store_row];exact hvp) hty λ μ6 R6=> ?_
   refine hq own5 μ6 (σ.copyD place source) (e03.trans (e4.trans e5)) (.copy hpl hsrc) ?_
   unfold S.copyD
   rw [hsv1,hsv2];exact R6
  ·have: ¬ (way:Int)=3:=by omega
   simp only [this];walk_at "w-s"
   have setCase: ∀ (pv:PV) (x:AV),VT own3 pv x→VW own3 pv x→pv.tgt=none→pv.strong=pv →
     wp (getI (.obj K.real) (.int (place:Int))) (λ a μ'=>wp (f_Counter_store (.obj K.counter) a x) (λ _ μ'=>wp (getI (.obj K.world) (.int (place:Int))) (λ a μ'=>wp (setI a (.int 3) x) (λ _ μ'=>Q .none μ') μ') μ') μ') μ3:=by
    intro pv x hx hxw htn hstr
    refine wp_getReal R3 hp1 λ pt hpt=> ?_
    obtain ⟨old,ho1,ho2⟩:=hp2.sc
    refine wp_store R3 hpt ho1 hx hp2.zb ho2 λ own4 μ4 e4 R4=> ?_
    refine wp_getWorld R4 (n:=place) (by rw [store_wk];exact hpl.1) λ pr hpr=> ?_
    refine wp_setRow3 (pv:=pv) R4 hpr (by rw [store_row];exact hvp) (hxw.ext e4) λ μ6 R6=> ?_
    exact hq own4 μ6 (σ.setD place pv) (e03.trans e4) (.set hpl htn) R6
   by_cases w4:way=4
   ·have t4:(way:Int)=4:=by omega
    simp only [t4];walk_at "w-s"
    rw [wp_chkC R3]
    exact setCase (.int k) (.int k) rfl rfl rfl rfl
   ·have t4: ¬ (way:Int)=4:=by omega
    simp only [t4];walk_at "w-s"
    by_cases w8:way=8
    ·have:(way:Int)=8:=by omega
     simp only [this];walk_at "w-s"
     (try simp only [show ¬ ((8:Int)=4) by decide]);walk_at "w-s"
     rw [wp_chkC R3]
     exact setCase .none .none rfl rfl rfl rfl
    ·have: ¬ (way:Int)=8:=by omega
     simp only [this];walk_at "w-s"
     by_cases w5:way=5
     ·have:(way:Int)=5:=by omega
      simp only [this];walk_at "w-s"
      refine wp_getReal R3 hp1 λ pt hpt=> ?_
      refine wp_weaken R3 hpt hthp hp2.zb (λ m hm=> ?_) λ own4 μ4 e4 R4=> ?_
      ·have hm':m∈σ.wk:=rd.wt place m hpl.1 (by rw [hvp];show vp.tgt=some m;rw [hm];rfl)
       exact (rd.al m hm').2.2.2.2.2
      ·have hwr:(σ.weaken place).row=σ.row∧(σ.weaken place).wk=σ.wk:=by
        unfold S.weaken
        split
        ·exact ⟨letGo_row,letGo_wk⟩
        ·exact ⟨rfl,rfl⟩
       refine wp_getWorld R4 (n:=place) (by rw [hwr.2];exact hpl.1) λ pr hpr=>wp_row3 R4 hpr λ sy hsy=> ?_
       rw [hwr.1,hvp] at hsy
       rw [wp_isTup R4 (pv:=vp) hsy]
       have hval:(σ.row place).c.val=vp:=by rw [hvp];rfl
       cases hr:vp.isRef with
       | false =>
        have hn:vp.tgt=none:=by cases vp <;> first | rfl | cases hr
        walk_at "w-s"
        refine hq own4 μ4 (σ.weakD place) (e03.trans e4) (.weak hpl) ?_
        unfold S.weakD
        rw [hval,hn];exact R4
       | true =>
        obtain ⟨t,ht⟩:=tgt_some hr
        walk_at "w-s"
        refine wp_getWorld R4 (n:=place) (by rw [hwr.2];exact hpl.1) λ pr2 hpr2=>wp_row3 R4 hpr2 λ sy2 hsy2=> ?_
        rw [hwr.1,hvp] at hsy2
        rw [wp_tup1 R4 (pv:=vp) hsy2 ht]
        refine wp_newTup (b:=true) R4 λ own5 μ5 ty e5 hty R5=> ?_
        refine wp_getWorld R5 (n:=place) (by rw [hwr.2];exact hpl.1) λ pr3 hpr3=> ?_
        refine wp_setRow3 (pv:= .weak t) R5 hpr3 (by rw [hwr.1];exact hvp) hty λ μ6 R6=> ?_
        refine hq own5 μ6 (σ.weakD place) (e03.trans (e4.trans e5)) (.weak hpl) ?_
        unfold S.weakD
        rw [hval,ht];exact R6
     ·have: ¬ (way:Int)=5:=by omega
      simp only [this];walk_at "w-s"
      by_cases w6:way=6
      ·have:(way:Int)=6:=by omega
       simp only [this];walk_at "w-s"
       exact wp_lawPut R3 (rd.putOk hpl hsrc) λ own4 μ4 e4 R4=>hq own4 μ4 _ (e03.trans e4) (.put hpl hsrc) R4
      ·have: ¬ (way:Int)=6:=by omega
       simp only [this];walk_at "w-s"
       by_cases w7:way=7
       ·have:(way:Int)=7:=by omega
        simp only [this];walk_at "w-s"
        exact wp_lawTaken R3 rd hpl λ own4 μ4 e4 R4=>hq own4 μ4 _ (e03.trans e4) (.taken hpl) R4
       ·have: ¬ (way:Int)=7:=by omega
        simp only [this];walk_at "w-s"
        exact hq own3 μ3 σ e03 .nop R3
end
structure InvD (D:List Nat) (B:Nat) (σ:S):Prop where
 lw:σ.lkW=false
 lr:σ.lkR=false
 lt: ∀ n,σ.lkT n=false
 nd:σ.wk.Nodup
 sub: ∀ n∈σ.wk,n∈σ.real
 rb: ∀ n∈σ.real,n≤σ.last
 lb:σ.lastRow≤σ.last
 fr: ∀ n∈σ.real,(σ.th n).fr=decide (n∉σ.wk)
 cc: ∀ n∈σ.wk,(σ.th n).c=(σ.row n).c
 bl: ∀ n∈σ.wk,(σ.th n).bl=(σ.row n).bl
 ds: ∀ n∈σ.wk,(σ.th n).ds=(σ.row n).ds
 ct: ∀ n∈σ.wk,(σ.th n).cnt=σ.deg n
 tg: ∀ n∈σ.wk,∀ m,m∈goals (σ.row n).c∨(σ.row n).c= .s (.weak m)→m∈σ.wk
 ms: ∀ n∈σ.wk,∀ m∈members (σ.row n).c,∃ v,(σ.row m).c= .s v
 gn: ∀ n∈σ.wk,(goals (σ.row n).c).Nodup
 ko: ∀ n∈σ.wk,KeysOk (σ.row n).c
 we: ∀ t∈σ.wk,∀ s,s∈(σ.th t).weak↔(s∈σ.wk∧(σ.row s).c= .s (.weak t))
 wn: ∀ t∈σ.wk,(σ.th t).weak.Nodup
 ro: ∀ r∈σ.roots,LS σ r
 zm: ∀ n∈σ.wk,σ.deg n=0→n∈σ.zero∨n∈D
 zs: ∀ n∈σ.zero,n∈σ.real
 hl:σ.heard=σ.log
 ll:σ.log.length≤(σ.real.filter λ n=>(σ.th n).ds).length
 rl:σ.real.length≤B
 r4:σ.roots.length≤4
abbrev Inv:=InvD []
theorem degOver_congr {row row':Nat→Row} {ns:List Nat} {n:Nat} (h: ∀ m∈ns,(goals (row' m).c).count n=(goals (row m).c).count n):degOver row' ns n=degOver row ns n:=by
 unfold degOver
 congr 1
 exact List.map_congr_left λ m hm=>h m hm
theorem degOver_upd {row:Nat→Row} {ns:List Nat} {n s:Nat} {r:Row} (nd:ns.Nodup) (hs:s∈ns):degOver (λ m=>if m=s then r else row m) ns n+(goals (row s).c).count n=degOver row ns n+(goals r.c).count n:=by
 induction ns with
 | nil=>simp at hs
 | cons a ns ih =>
  simp only [List.nodup_cons] at nd
  unfold degOver
  simp only [List.map_cons,List.sum_cons]
  by_cases q:a=s
  ·subst q
   have:degOver (λ m=>if m=a then r else row m) ns n=degOver row ns n:=degOver_congr λ m hm=>by
    have:m≠a:=λ z=>nd.1 (z ▸ hm)
    simp [this]
   unfold degOver at this
   rw [this]
   simp only [if_true]
   omega
  ·have h:=ih nd.2 (by rcases List.mem_cons.mp hs with h | h
                       ·exact absurd h.symm q
                       ·exact h)
   unfold degOver at h
   dsimp only at h
   simp only [q,if_false]
   omega
theorem degOver_erase {row:Nat→Row} {ns:List Nat} {n a:Nat} (ha:a∈ns):degOver row (ns.erase a) n+(goals (row a).c).count n=degOver row ns n:=by
 induction ns with
 | nil=>simp at ha
 | cons b ns ih =>
  rw [List.erase_cons]
  by_cases q:b=a
  ·subst q
   simp only [beq_self_eq_true,if_true]
   unfold degOver
   simp only [List.map_cons,List.sum_cons]
   omega
  ·simp only [beq_eq_false_iff_ne.mpr q,Bool.false_eq_true,if_false]
   have h:=ih (by rcases List.mem_cons.mp ha with h | h
                  ·exact absurd h.symm q
                  ·exact h)
   unfold degOver at h ⊢
   simp only [List.map_cons,List.sum_cons]
   omega
theorem degOver_app {row:Nat→Row} {ns:List Nat} {n a:Nat}:degOver row (ns ++ [a]) n=degOver row ns n+(goals (row a).c).count n:=by
 unfold degOver;simp
theorem degOver_zero {row:Nat→Row} {ns:List Nat} {n:Nat} (h:degOver row ns n=0): ∀ m∈ns,n∉goals (row m).c:=by
 induction ns with
 | nil=>intro m hm;simp at hm
 | cons b ns ih =>
  unfold degOver at h
  simp only [List.map_cons,List.sum_cons] at h
  intro m hm
  rcases List.mem_cons.mp hm with rfl | hm
  ·exact List.count_eq_zero.mp (by omega)
  ·exact ih (by unfold degOver;omega) m hm
theorem degOver_pos {row:Nat→Row} {ns:List Nat} {n m:Nat} (hm:m∈ns) (h:n∈goals (row m).c):0 < degOver row ns n:=by
 rcases Nat.eq_zero_or_pos (degOver row ns n) with q | q
 ·exact absurd h (degOver_zero q m hm)
 ·exact q
section
variable {D:List Nat} {B:Nat} {σ:S} {n m s:Nat} {pv:PV}
theorem InvD.deg_zero (I:InvD D B σ) (h:σ.deg n=0):n∉σ.roots∧ ∀ m∈σ.wk,n∉goals (σ.row m).c:=by
 unfold S.deg at h
 exact ⟨List.count_eq_zero.mp (by omega),degOver_zero (by omega)⟩
theorem subset_len {l l':List Nat} (nd:l.Nodup) (h: ∀ x∈l,x∈l'):l.length≤l'.length:=by
 induction l generalizing l' with
 | nil=>simp
 | cons a l ih =>
  simp only [List.nodup_cons] at nd
  have ha:=h a (by simp)
  have h1:=ih nd.2 (l':=l'.erase a) λ x hx=>(List.mem_erase_of_ne (show x≠a from λ q=>nd.1 (by rw [← q];exact hx))).mpr (h x (List.mem_cons_of_mem _ hx))
  have h2:=List.length_erase_of_mem ha
  have h3:=List.length_pos_of_mem ha
  simp only [List.length_cons]
  omega
theorem InvD.wl (I:InvD D B σ):σ.wk.length≤B:=Nat.le_trans (subset_len I.nd I.sub) I.rl
theorem InvD.gl (I:InvD D B σ) (h:n∈σ.wk):(goals (σ.row n).c).length≤B:=Nat.le_trans (subset_len (I.gn n h) λ m hm=>I.tg n h m (.inl hm)) I.wl
theorem members_goals {c:Cont}:(members c).length≤(goals c).length:=by
 cases c with
 | s v=>simp [members]
 | a xs=>exact Nat.le_refl _
 | h es=>exact Nat.le_refl _
theorem members_sub {c:Cont}: ∀ x∈members c,x∈goals c:=by
 cases c with
 | s v=>intro x hx;simp [members] at hx
 | a xs=>exact λ x h=>h
 | h es=>exact λ x h=>h
theorem InvD.ml (I:InvD D B σ) (h:n∈σ.wk):(members (σ.row n).c).length≤B:=Nat.le_trans members_goals (I.gl h)
theorem lenOver_le {row:Nat→Row} {ns:List Nat} {b:Nat} (h: ∀ m∈ns,(goals (row m).c).length≤b):lenOver row ns≤ns.length * b:=by
 induction ns with
 | nil=>simp [lenOver]
 | cons a ns ih =>
  have h1:=ih λ m hm=>h m (List.mem_cons_of_mem _ hm)
  have h2:=h a (by simp)
  unfold lenOver at h1 ⊢
  simp only [List.map_cons,List.sum_cons,List.length_cons]
  rw [Nat.add_mul]
  omega
theorem InvD.degLen (I:InvD D B σ):σ.degLen≤4+B * B:=by
 unfold S.degLen
 have h1:=lenOver_le (row:=σ.row) (ns:=σ.wk) λ m hm=>I.gl hm
 have h2:=I.r4
 have h3:=Nat.mul_le_mul_right B I.wl
 omega
theorem InvD.wkl (I:InvD D B σ) (h:n∈σ.wk):(σ.th n).weak.length≤B:=Nat.le_trans (subset_len (I.wn n h) λ s hs=>((I.we n h s).mp hs).1) I.wl
end
def hit (p:Prop) [Decidable p]:Int:=if p then 1 else 0
theorem hit_t {p:Prop} [Decidable p] (h:p):hit p=1:=if_pos h
theorem hit_f {p:Prop} [Decidable p] (h: ¬ p):hit p=0:=if_neg h
section
variable {D:List Nat} {B:Nat} {σ:S} {n m s:Nat} {pv old:PV}
theorem setCnt_eq {c:Int}:σ.setCnt m c= {σ with th:=λ n=> {σ.th n with cnt:=if n=m then c else (σ.th n).cnt}}:=by
 unfold S.setCnt S.setTh
 congr 1
 funext n
 by_cases q:n=m
 ·subst q;simp
 ·simp [q]
theorem take_eq:σ.take pv= {σ with th:=λ n=> {σ.th n with cnt:=(σ.th n).cnt+hit (pv.tgt=some n)}}:=by
 have idle: ∀ σ:S,σ= {σ with th:=λ n=> {σ.th n with cnt:=(σ.th n).cnt+0}}:=λ σ=>by simp
 have held: ∀ m,σ.hold m= {σ with th:=λ n=> {σ.th n with cnt:=(σ.th n).cnt+hit (some m=some n)}}:=λ m=>by
  unfold S.hold
  rw [setCnt_eq]
  congr 1
  funext n
  by_cases q:n=m
  ·subst q;simp [hit]
  ·have: ¬ m=n:=λ z=>q z.symm
   simp [q,hit,this]
 cases pv with
 | none=>simp [hit,PV.tgt,S.take]
 | int i=>simp [hit,PV.tgt,S.take]
 | ref m=>exact held m
 | weak m=>exact held m
def zlist (f:Nat→Int):PV→List Nat
 | .ref m=>if f m - 1=0 then [m] else []
 | _=>[]
theorem letGo_eq:σ.letGo m= {σ with th:=λ n=> {σ.th n with cnt:=(σ.th n).cnt - hit (n=m)},zero:=σ.zero ++ if (σ.th m).cnt - 1=0 then [m] else []}:=by
 have e:σ.setCnt m ((σ.th m).cnt - 1)= {σ with th:=λ n=> {σ.th n with cnt:=(σ.th n).cnt - hit (n=m)}}:=by
  rw [setCnt_eq]
  congr 1
  funext n
  by_cases q:n=m
  ·subst q;simp [hit]
  ·simp [q,hit]
 unfold S.letGo
 rw [e]
 unfold S.note
 have h1:(σ.th m).cnt - hit (m=m)=(σ.th m).cnt - 1:=by rw [hit_t rfl]
 by_cases z:(σ.th m).cnt - 1=0
 ·rw [if_pos (show (σ.th m).cnt - hit (m=m)=0 by rw [h1];exact z),if_pos z]
 ·rw [if_neg (show ¬ (σ.th m).cnt - hit (m=m)=0 by rw [h1];exact z),if_neg z]
  simp
theorem putOff_eq:σ.putOff s old= {σ with th:=λ n=> {σ.th n with cnt:=(σ.th n).cnt - hit (old= .ref n),weak:=if old= .weak n then (σ.th n).weak.filter (· ≠s) else (σ.th n).weak},zero:=σ.zero ++ zlist (λ m=>(σ.th m).cnt) old}:=by
 cases old with
 | none=>simp [S.putOff,hit,zlist]
 | int i=>simp [S.putOff,hit,zlist]
 | ref m =>
  show σ.letGo m=_
  rw [letGo_eq]
  congr 1
  funext n
  by_cases q:n=m
  ·subst q;simp [hit]
  ·have: ¬ m=n:=λ z=>q z.symm
   simp [q,hit,this]
 | weak m =>
  show σ.setWeak m _=_
  unfold S.setWeak S.setTh
  simp only [List.append_nil,zlist]
  congr 1
  funext n
  by_cases q:n=m
  ·subst q;simp [hit]
  ·have: ¬ m=n:=λ z=>q z.symm
   simp [q,hit,this]
theorem store_eq (hc:(σ.th s).c= .s old):σ.store s pv= {σ with
  th:=λ n=> {σ.th n with c:=if n=s then .s pv.strong else (σ.th n).c,cnt:=(σ.th n).cnt+hit (pv.tgt=some n) - hit (old= .ref n),weak:=if old= .weak n then (σ.th n).weak.filter (· ≠s) else (σ.th n).weak},
  zero:=σ.zero ++ zlist (λ m=>(σ.th m).cnt+hit (pv.tgt=some m)) old}:=by
 have e:(σ.take pv).setVal s pv.strong= {σ with th:=λ n=> {σ.th n with c:=if n=s then .s pv.strong else (σ.th n).c,cnt:=(σ.th n).cnt+hit (pv.tgt=some n)}}:=by
  rw [take_eq]
  unfold S.setVal S.setTh
  congr 1
  funext n
  by_cases q:n=s
  ·subst q;simp
  ·simp [q]
 unfold S.store
 rw [hc,e]
 show S.putOff _ s old=_
 rw [putOff_eq]
def S.jstore (σ:S) (s:Nat) (pv:PV):S:=(σ.store s pv).setRowV s pv.strong
theorem goals_strong:(goals (.s pv.strong)).count n=if pv.tgt=some n then 1 else 0:=by
 cases pv with
 | none=>rfl
 | int i=>rfl
 | ref m=>show [m].count n=_;rw [List.count_singleton];simp [PV.tgt]
 | weak m=>show [m].count n=_;rw [List.count_singleton];simp [PV.tgt]
theorem goals_s:(goals (.s old)).count n=if old= .ref n then 1 else 0:=by
 cases old with
 | none=>rfl
 | int i=>rfl
 | ref m=>show [m].count n=_;rw [List.count_singleton];simp
 | weak m=>rfl
theorem InvD.jstore (I:InvD D B σ) (hsw:s∈σ.wk) (hrow:(σ.row s).c= .s old) (hp: ∀ m,pv.tgt=some m→m∈σ.wk):InvD D B (σ.jstore s pv)∧(∀ n,(σ.jstore s pv).deg n+(if old= .ref n then 1 else 0)=σ.deg n+if pv.tgt=some n then 1 else 0):=by
 have hth:(σ.th s).c= .s old:=(I.cc s hsw).trans hrow
 have hstr: ∀ m,pv.strong≠ .weak m:=λ m=>by cases pv <;> nofun
 have hdeg: ∀ n,(σ.jstore s pv).deg n+(if old= .ref n then 1 else 0)=σ.deg n+if pv.tgt=some n then 1 else 0:=λ n=>by
  have h:degOver (λ m=>if m=s then {σ.row s with c:= .s pv.strong} else σ.row m) σ.wk n+(if old= .ref n then 1 else 0)=degOver σ.row σ.wk n+(if pv.tgt=some n then 1 else 0):=by
   have h:=degOver_upd (row:=σ.row) (ns:=σ.wk) (n:=n) (s:=s) (r:= {σ.row s with c:= .s pv.strong}) I.nd hsw
   rw [hrow,goals_s,show (goals ({σ.row s with c:=Cont.s pv.strong}:Row).c).count n=_ from goals_strong] at h
   exact h
  have e1:(σ.jstore s pv).deg n=σ.roots.count n+degOver (λ m=>if m=s then {σ.row s with c:= .s pv.strong} else σ.row m) σ.wk n:=by
   unfold S.jstore;rw [store_eq hth];rfl
  rw [e1]
  unfold S.deg
  omega
 have hrow': ∀ n,((σ.jstore s pv).row n)=if n=s then {σ.row s with c:= .s pv.strong} else σ.row n:=λ n=>by unfold S.jstore;rw [store_eq hth];rfl
 have hth': ∀ n,((σ.jstore s pv).th n)= {σ.th n with c:=if n=s then .s pv.strong else (σ.th n).c,cnt:=(σ.th n).cnt+hit (pv.tgt=some n) - hit (old= .ref n),weak:=if old= .weak n then (σ.th n).weak.filter (· ≠s) else (σ.th n).weak}:=λ n=>by unfold S.jstore;rw [store_eq hth];rfl
 have hz:(σ.jstore s pv).zero=σ.zero ++ zlist (λ m=>(σ.th m).cnt+hit (pv.tgt=some m)) old:=by unfold S.jstore;rw [store_eq hth];rfl
 have hsame:(σ.jstore s pv).wk=σ.wk∧(σ.jstore s pv).real=σ.real∧(σ.jstore s pv).roots=σ.roots∧(σ.jstore s pv).last=σ.last∧(σ.jstore s pv).lastRow=σ.lastRow∧(σ.jstore s pv).heard=σ.heard∧(σ.jstore s pv).log=σ.log∧(σ.jstore s pv).lkW=σ.lkW∧(σ.jstore s pv).lkR=σ.lkR∧(σ.jstore s pv).lkT=σ.lkT:=by
  unfold S.jstore;rw [store_eq hth];exact ⟨rfl,rfl,rfl,rfl,rfl,rfl,rfl,rfl,rfl,rfl⟩
 generalize σ.jstore s pv=τ at *
 obtain ⟨w1,w2,w3,w4,w5,w6,w7,w8,w9,w10⟩:=hsame
 refine ⟨?_,hdeg⟩
 refine ⟨w8 ▸ I.lw,w9 ▸ I.lr,λ n=>by rw [w10];exact I.lt n,w1 ▸ I.nd,by rw [w1,w2];exact I.sub,by rw [w2,w4];exact I.rb,by rw [w4,w5];exact I.lb,?_,?_,?_,?_,?_,?_,?_,?_,?_,?_,?_,?_,?_,?_,by rw [w6,w7];exact I.hl,?_,by rw [w2];exact I.rl,by rw [w3];exact I.r4⟩
 ·intro n hn
  rw [w2] at hn
  rw [hth',w1];exact I.fr n hn
 ·intro n hn
  rw [w1] at hn
  rw [hth',hrow']
  dsimp only
  split
  ·rfl
  ·exact I.cc n hn
 ·intro n hn
  rw [w1] at hn
  rw [hth',hrow']
  dsimp only
  rw [I.bl n hn]
  split
  ·subst_vars;rfl
  ·rfl
 ·intro n hn
  rw [w1] at hn
  rw [hth',hrow']
  dsimp only
  rw [I.ds n hn]
  split
  ·subst_vars;rfl
  ·rfl
 ·intro n hn
  rw [w1] at hn
  rw [hth']
  dsimp only
  rw [I.ct n hn]
  have:=hdeg n
  unfold hit
  split <;> split <;> simp_all <;> omega
 ·intro n hn m hm
  rw [w1] at hn ⊢
  rw [hrow'] at hm
  split at hm
  ·rcases hm with h | h
   ·have:(goals (.s pv.strong)).count m≠0:=λ z=>(List.count_eq_zero.mp z) h
    rw [goals_strong] at this
    exact hp m (by
     by_cases q:pv.tgt=some m
     ·exact q
     ·simp [q] at this)
   ·exact absurd (by injection h) (hstr m)
  ·exact I.tg n hn m hm
 ·intro n hn m hm
  rw [w1] at hn
  rw [hrow'] at hm
  rw [hrow']
  split
  ·exact ⟨_,rfl⟩
  ·split at hm
   ·simp [members] at hm
   ·exact I.ms n hn m hm
 ·intro n hn
  rw [w1] at hn
  rw [hrow']
  split
  ·cases pv <;> simp [goals,PV.strong]
  ·exact I.gn n hn
 ·intro n hn
  rw [w1] at hn
  rw [hrow']
  split
  ·intro es h;cases h
  ·exact I.ko n hn
 ·intro t ht x
  rw [w1] at ht ⊢
  rw [hth',hrow']
  dsimp only
  have h0:=I.we t ht x
  by_cases q:x=s
  ·subst q
   simp only [if_true]
   have: ¬ (Cont.s pv.strong= .s (.weak t)):=λ z=>hstr t (by injection z)
   simp only [this,and_false,iff_false]
   rw [hrow] at h0
   by_cases z:old= .weak t
   ·simp [z]
   ·simp only [z,if_false]
    rw [h0]
    rintro ⟨_,h⟩
    exact z (by injection h)
  ·simp only [q,if_false]
   rw [← h0]
   by_cases z:old= .weak t
   ·simp [z,q]
   ·simp [z]
 ·intro t ht
  rw [w1] at ht
  rw [hth']
  dsimp only
  split
  ·exact (I.wn t ht).filter _
  ·exact I.wn t ht
 ·intro r hr
  rw [w3] at hr
  obtain ⟨h1,v,h2⟩:=I.ro r hr
  refine ⟨by rw [w1];exact h1,?_⟩
  rw [hrow']
  split
  ·exact ⟨_,rfl⟩
  ·exact ⟨v,h2⟩
 ·intro n hn h0
  rw [w1] at hn
  have hd:=hdeg n
  rw [h0] at hd
  rw [hz]
  by_cases q:old= .ref n
  ·subst q
   have hd1:σ.deg n+(if pv.tgt=some n then 1 else 0)=1:=by simpa using hd.symm
   have hc:=I.ct n hn
   have:(σ.th n).cnt+hit (pv.tgt=some n) - 1=0:=by
    rw [hc];unfold hit
    split <;> simp_all <;> omega
   left
   refine List.mem_append_right _ ?_
   show n∈(if (σ.th n).cnt+hit (pv.tgt=some n) - 1=0 then [n] else [])
   rw [if_pos this];simp
  ·simp only [q,if_false,Nat.zero_add] at hd
   have:σ.deg n=0:=by omega
   rcases I.zm n hn this with h | h
   ·exact .inl (List.mem_append_left _ h)
   ·exact .inr h
 ·intro n hn
  rw [hz] at hn
  rw [w2]
  rcases List.mem_append.mp hn with h | h
  ·exact I.zs n h
  ·cases old with
   | ref m =>
    simp only [zlist] at h
    split at h
    ·rcases List.mem_singleton.mp h with rfl
     exact I.sub _ (I.tg s hsw n (.inl (by rw [hrow];simp [goals])))
    ·simp at h
   | _=>simp [zlist] at h
 ·rw [w7,w2]
  have:(σ.real.filter λ n=>(τ.th n).ds)=σ.real.filter λ n=>(σ.th n).ds:=by
   congr 1;funext n;rw [hth']
  rw [this];exact I.ll
end
structure Same (σ τ:S):Prop where
 roots:τ.roots=σ.roots
 last:σ.last≤τ.last
 heard:τ.heard=σ.heard
 log:τ.log=σ.log
 lkW:τ.lkW=σ.lkW
 lkR:τ.lkR=σ.lkR
 lkT:τ.lkT=σ.lkT
section
variable {D D':List Nat} {B:Nat} {σ τ:S} {n m s t:Nat} {pv old:PV}
theorem InvD.setC (I:InvD D B σ) (ht:t∈σ.wk) {c':Cont} (e:Same σ τ) (ew:τ.wk=σ.wk) (er:τ.real=σ.real) (el:τ.lastRow=σ.lastRow)
  (hrow: ∀ n,τ.row n=if n=t then {σ.row t with c:=c'} else σ.row n)
  (hc: ∀ n∈σ.wk,(τ.th n).c=if n=t then c' else (σ.th n).c)
  (hb: ∀ n∈σ.real,(τ.th n).bl=(σ.th n).bl∧(τ.th n).ds=(σ.th n).ds∧(τ.th n).fr=(σ.th n).fr)
  (hcnt: ∀ n∈σ.wk,(τ.th n).cnt+(goals (σ.row t).c).count n=(σ.th n).cnt+(goals c').count n)
  (hweak: ∀ u∈σ.wk,∀ x,x∈(τ.th u).weak↔x∈σ.wk∧(τ.row x).c= .s (.weak u)) (hwn: ∀ u∈σ.wk,(τ.th u).weak.Nodup)
  (hsc:(∃ v,(σ.row t).c= .s v)→ ∃ v,c'= .s v) (htg: ∀ m,m∈goals c'∨c'= .s (.weak m)→m∈σ.wk) (hms: ∀ m∈members c',∃ v,(τ.row m).c= .s v)
  (hgn:(goals c').Nodup) (hko:KeysOk c') (hz1: ∀ n∈σ.zero,n∈τ.zero) (hz2: ∀ n∈τ.zero,n∈σ.real) (hz3: ∀ n∈σ.wk,n∈goals (σ.row t).c→(τ.th n).cnt=0→n∈τ.zero) :
  InvD D B τ∧ ∀ n,τ.deg n+(goals (σ.row t).c).count n=σ.deg n+(goals c').count n:=by
 have hdeg: ∀ n,τ.deg n+(goals (σ.row t).c).count n=σ.deg n+(goals c').count n:=λ n=>by
  have h:degOver (λ m=>if m=t then {σ.row t with c:=c'} else σ.row m) σ.wk n+(goals (σ.row t).c).count n=degOver σ.row σ.wk n+(goals c').count n:=degOver_upd I.nd ht
  have e1:τ.row=λ m=>if m=t then {σ.row t with c:=c'} else σ.row m:=funext hrow
  unfold S.deg
  rw [e1,e.roots,ew]
  omega
 have hscal: ∀ m,(∃ v,(σ.row m).c= .s v)→ ∃ v,(τ.row m).c= .s v:=λ m h=>by
  rw [hrow]
  split
  ·subst_vars;exact hsc h
  ·exact h
 refine ⟨⟨e.lkW ▸ I.lw,e.lkR ▸ I.lr,λ n=>by rw [e.lkT];exact I.lt n,ew ▸ I.nd,by rw [ew,er];exact I.sub,λ n h=>by rw [er] at h;exact Nat.le_trans (I.rb n h) e.last,by rw [el];exact Nat.le_trans I.lb e.last,λ n h=>by rw [er] at h;rw [(hb n h).2.2,ew];exact I.fr n h,?_,?_,?_,?_,?_,?_,?_,?_,by rw [ew];exact hweak,by rw [ew];exact hwn,?_,?_,by rw [er];exact hz2,by rw [e.heard,e.log];exact I.hl,?_,by rw [er];exact I.rl,by rw [e.roots];exact I.r4⟩,hdeg⟩
 ·intro n hn
  rw [ew] at hn
  rw [hc n hn,hrow]
  split
  ·rfl
  ·exact I.cc n hn
 ·intro n hn
  rw [ew] at hn
  rw [(hb n (I.sub n hn)).1,I.bl n hn,hrow]
  split
  ·subst_vars;rfl
  ·rfl
 ·intro n hn
  rw [ew] at hn
  rw [(hb n (I.sub n hn)).2.1,I.ds n hn,hrow]
  split
  ·subst_vars;rfl
  ·rfl
 ·intro n hn
  rw [ew] at hn
  have h1:=hcnt n hn
  have h2:=hdeg n
  have h3:=I.ct n hn
  omega
 ·intro n hn m hm
  rw [ew] at hn ⊢
  rw [hrow] at hm
  split at hm
  ·exact htg m hm
  ·exact I.tg n hn m hm
 ·intro n hn m hm
  rw [ew] at hn
  rw [hrow] at hm
  split at hm
  ·exact hms m hm
  ·exact hscal m (I.ms n hn m hm)
 ·intro n hn
  rw [ew] at hn
  rw [hrow]
  split
  ·exact hgn
  ·exact I.gn n hn
 ·intro n hn
  rw [ew] at hn
  rw [hrow]
  split
  ·exact hko
  ·exact I.ko n hn
 ·intro r hr
  rw [e.roots] at hr
  obtain ⟨h1,h2⟩:=I.ro r hr
  exact ⟨by rw [ew];exact h1,hscal r h2⟩
 ·intro n hn h0
  rw [ew] at hn
  have h2:=hdeg n
  by_cases q:n∈goals (σ.row t).c
  ·left
   refine hz3 n hn q ?_
   have h1:=hcnt n hn
   have h3:=I.ct n hn
   omega
  ·rw [List.count_eq_zero.mpr q] at h2
   rcases I.zm n hn (by omega) with h | h
   ·exact .inl (hz1 n h)
   ·exact .inr h
 ·rw [e.log,er]
  have:(σ.real.filter λ n=>(τ.th n).ds)=σ.real.filter λ n=>(σ.th n).ds:=List.filter_congr λ n hn=>(hb n hn).2.1
  rw [this];exact I.ll
theorem InvD.add (I:InvD D B σ) (hn:σ.last < n) {c:Cont} {b:Bool} (e:Same σ τ) (ew:τ.wk=σ.wk ++ [n]) (er:τ.real=σ.real ++ [n]) (el:τ.lastRow=n) (hl:n≤τ.last)
  (hrow: ∀ m,τ.row m=if m=n then ⟨c,b,false⟩ else σ.row m)
  (hc: ∀ m∈σ.wk,(τ.th m).c=(σ.th m).c) (hcn:(τ.th n).c=c∧(τ.th n).bl=b∧(τ.th n).ds=false∧(τ.th n).fr=false∧(τ.th n).cnt=0∧(τ.th n).weak=[])
  (hb: ∀ m∈σ.real,(τ.th m).bl=(σ.th m).bl∧(τ.th m).ds=(σ.th m).ds∧(τ.th m).fr=(σ.th m).fr)
  (hcnt: ∀ m∈σ.wk,(τ.th m).cnt=(σ.th m).cnt+(goals c).count m) (hweak: ∀ u∈σ.wk,(τ.th u).weak=(σ.th u).weak)
  (htg: ∀ m∈goals c,m∈σ.wk) (hnw: ∀ m,c≠ .s (.weak m)) (hms: ∀ m∈members c,∃ v,(σ.row m).c= .s v) (hgn:(goals c).Nodup) (hko:KeysOk c)
  (hz1: ∀ m∈σ.zero,m∈τ.zero) (hz2: ∀ m∈τ.zero,m∈σ.real∨m=n) (hz3:n∈τ.zero∨n∈D') (hD: ∀ d∈D,d∈D') :
  InvD D' (B+1) τ∧(∀ m,τ.deg m=σ.deg m+(goals c).count m)∧n∉σ.wk:=by
 have hnr:n∉σ.real:=λ h=>by have:=I.rb n h;omega
 have hnw':n∉σ.wk:=λ h=>hnr (I.sub n h)
 have hne: ∀ m∈σ.wk,m≠n:=λ m hm q=>hnw' (q ▸ hm)
 have hrow': ∀ m∈σ.wk,τ.row m=σ.row m:=λ m hm=>by rw [hrow,if_neg (hne m hm)]
 have hdeg: ∀ m,τ.deg m=σ.deg m+(goals c).count m:=λ m=>by
  unfold S.deg
  rw [ew,degOver_app,e.roots,hrow n,if_pos rfl]
  have:degOver τ.row σ.wk m=degOver σ.row σ.wk m:=degOver_congr λ x hx=>by rw [hrow' x hx]
  dsimp only
  omega
 have hd0:σ.deg n=0:=by
  have h1:n∉σ.roots:=λ h=>hnw' (I.ro n h).1
  have h2:degOver σ.row σ.wk n=0:=by
   rcases Nat.eq_zero_or_pos (degOver σ.row σ.wk n) with q | q
   ·exact q
   ·exfalso
    have: ∀ ns,(∀ x∈ns,x∈σ.wk)→degOver σ.row ns n=0:=by
     intro ns
     induction ns with
     | nil=>intro _;rfl
     | cons a ns ih =>
      intro h
      have h1:=ih λ x hx=>h x (List.mem_cons_of_mem _ hx)
      have h2:(goals (σ.row a).c).count n=0:=List.count_eq_zero.mpr λ hh=>hnw' (I.tg a (h a (by simp)) n (.inl hh))
      unfold degOver at h1 ⊢
      simp only [List.map_cons,List.sum_cons]
      omega
    have:=this σ.wk λ _ h=>h
    omega
  unfold S.deg
  rw [List.count_eq_zero.mpr h1,h2]
 have hdn:τ.deg n=0:=by
  rw [hdeg,hd0,List.count_eq_zero.mpr λ h=>hnw' (htg n h)]
 have hscal: ∀ m∈σ.wk,(∃ v,(σ.row m).c= .s v)→ ∃ v,(τ.row m).c= .s v:=λ m hm h=>by rw [hrow' m hm];exact h
 have hcase: ∀ {p:Nat→Prop},(∀ m∈σ.wk,p m)→p n→ ∀ m∈τ.wk,p m:=λ h1 h2 m hm=>by
  rw [ew] at hm
  rcases List.mem_append.mp hm with h | h
  ·exact h1 m h
  ·rcases List.mem_singleton.mp h with rfl;exact h2
 refine ⟨⟨e.lkW ▸ I.lw,e.lkR ▸ I.lr,λ n=>by rw [e.lkT];exact I.lt n,?_,?_,?_,by rw [el];exact hl,?_,?_,?_,?_,?_,?_,?_,?_,?_,?_,?_,?_,?_,?_,by rw [e.heard,e.log];exact I.hl,?_,?_,by rw [e.roots];exact I.r4⟩,hdeg,hnw'⟩
 ·rw [ew,List.nodup_append]
  exact ⟨I.nd,by simp,λ a ha b hb q=>hne a ha (q.trans (List.mem_singleton.mp hb))⟩
 ·refine hcase (λ m hm=> ?_) ?_
  ·rw [er];exact List.mem_append_left _ (I.sub m hm)
  ·rw [er];simp
 ·intro m hm
  rw [er] at hm
  rcases List.mem_append.mp hm with h | h
  ·exact Nat.le_trans (I.rb m h) e.last
  ·rcases List.mem_singleton.mp h with rfl;exact hl
 ·intro m hm
  rw [er] at hm
  rw [ew]
  rcases List.mem_append.mp hm with h | h
  ·have:m≠n:=λ q=>hnr (q ▸ h)
   rw [(hb m h).2.2,I.fr m h]
   simp [this]
  ·rcases List.mem_singleton.mp h with rfl
   rw [hcn.2.2.2.1];simp
 ·refine hcase (λ m hm=> ?_) ?_
  ·rw [hc m hm,hrow' m hm];exact I.cc m hm
  ·rw [hcn.1,hrow,if_pos rfl]
 ·refine hcase (λ m hm=> ?_) ?_
  ·rw [(hb m (I.sub m hm)).1,hrow' m hm];exact I.bl m hm
  ·rw [hcn.2.1,hrow,if_pos rfl]
 ·refine hcase (λ m hm=> ?_) ?_
  ·rw [(hb m (I.sub m hm)).2.1,hrow' m hm];exact I.ds m hm
  ·rw [hcn.2.2.1,hrow,if_pos rfl]
 ·refine hcase (λ m hm=> ?_) ?_
  ·rw [hcnt m hm,I.ct m hm,hdeg];omega
  ·rw [hcn.2.2.2.2.1,hdn];rfl
 ·refine hcase (λ m hm x hx=> ?_) (λ x hx=> ?_)
  ·rw [hrow' m hm] at hx
   rw [ew];exact List.mem_append_left _ (I.tg m hm x hx)
  ·rw [hrow,if_pos rfl] at hx
   rw [ew]
   rcases hx with h | h
   ·exact List.mem_append_left _ (htg x h)
   ·exact absurd h (hnw x)
 ·refine hcase (λ m hm x hx=> ?_) (λ x hx=> ?_)
  ·rw [hrow' m hm] at hx
   exact hscal x (I.tg m hm x (.inl (members_sub x hx))) (I.ms m hm x hx)
  ·rw [hrow,if_pos rfl] at hx
   exact hscal x (htg x (members_sub x hx)) (hms x hx)
 ·refine hcase (λ m hm=> ?_) ?_
  ·rw [hrow' m hm];exact I.gn m hm
  ·rw [hrow,if_pos rfl];exact hgn
 ·refine hcase (λ m hm=> ?_) ?_
  ·rw [hrow' m hm];exact I.ko m hm
  ·rw [hrow,if_pos rfl];exact hko
 ·refine hcase (λ u hu x=> ?_) (λ x=> ?_)
  ·rw [hweak u hu,I.we u hu,ew]
   constructor
   ·rintro ⟨h1,h2⟩
    exact ⟨List.mem_append_left _ h1,by rw [hrow' x h1];exact h2⟩
   ·rintro ⟨h1,h2⟩
    rcases List.mem_append.mp h1 with h | h
    ·exact ⟨h,by rw [hrow' x h] at h2;exact h2⟩
    ·rcases List.mem_singleton.mp h with rfl
     rw [hrow,if_pos rfl] at h2
     exact absurd h2 (hnw u)
  ·rw [hcn.2.2.2.2.2,ew]
   constructor
   ·intro h;simp at h
   ·rintro ⟨h1,h2⟩
    exfalso
    rcases List.mem_append.mp h1 with h | h
    ·rw [hrow' x h] at h2
     exact hnw' (I.tg x h n (.inr h2))
    ·rcases List.mem_singleton.mp h with rfl
     rw [hrow,if_pos rfl] at h2
     exact hnw _ h2
 ·refine hcase (λ u hu=> ?_) ?_
  ·rw [hweak u hu];exact I.wn u hu
  ·rw [hcn.2.2.2.2.2];simp
 ·intro r hr
  rw [e.roots] at hr
  obtain ⟨h1,h2⟩:=I.ro r hr
  exact ⟨by rw [ew];exact List.mem_append_left _ h1,hscal r h1 h2⟩
 ·refine hcase (λ m hm h0=> ?_) (λ _=>hz3)
  rw [hdeg] at h0
  rcases I.zm m hm (by omega) with h | h
  ·exact .inl (hz1 m h)
  ·exact .inr (hD m h)
 ·intro m hm
  rw [er]
  rcases hz2 m hm with h | h
  ·exact List.mem_append_left _ h
  ·rw [h];simp
 ·rw [e.log,er,List.filter_append]
  have:(σ.real.filter λ n=>(τ.th n).ds)=σ.real.filter λ n=>(σ.th n).ds:=List.filter_congr λ n hn=>(hb n hn).2.1
  rw [this,List.length_append]
  exact Nat.le_trans I.ll (Nat.le_add_right _ _)
 ·rw [er,List.length_append,List.length_singleton]
  exact Nat.succ_le_succ I.rl
end
section
variable {D D':List Nat} {B B':Nat} {σ τ:S} {n m s t:Nat} {pv old:PV}
theorem InvD.mono (I:InvD D B σ) (h:B≤B'):InvD D B' σ:= {I with rl:=Nat.le_trans I.rl h}
theorem InvD.drop (I:InvD D B σ) (h: ∀ d∈D,d∈σ.wk→σ.deg d=0→d∈σ.zero∨d∈D'):InvD D' B σ:= {I with zm:=λ n hn h0=>(I.zm n hn h0).elim .inl λ q=>h n q hn h0}
theorem zlist_len {f:Nat→Int}:(zlist f old).length≤1:=by
 cases old with
 | ref m =>
  show (if f m - 1=0 then [m] else []).length≤1
  split <;> simp
 | _=>exact Nat.zero_le _
theorem store_zlen (hc:(σ.th s).c= .s old):(σ.store s pv).zero.length≤σ.zero.length+1:=by
 rw [store_eq hc]
 simp only [List.length_append]
 have:=zlist_len (f:=λ m=>(σ.th m).cnt+hit (pv.tgt=some m)) (old:=old)
 omega
theorem jstore_zlen (hc:(σ.th s).c= .s old):(σ.jstore s pv).zero.length≤σ.zero.length+1:=store_zlen hc
theorem newT_old {way:Nat} {b:Bool} (hm:m≤σ.last):(σ.newT way b).th m=σ.th m:=by
 have h1: ∀ τ:S,∀ k,(τ.note k).th m=τ.th m:=λ τ k=>by rw [note_th]
 have h2: ∀ τ:S,∀ k,σ.last < k→(τ.blessIf k b).th m=τ.th m:=λ τ k hk=>by
  unfold S.blessIf;split
  ·rw [th_setTh,if_neg (by omega)]
  ·rfl
 have h3:σ.new3.th m=σ.th m:=by
  unfold S.new3 S.fresh
  rw [th_setTh,if_neg (by show m≠σ.last+1+1+1;omega)]
  show (({σ with last:=_}:S).setTh _ _ |>.setTh _ _).th m=_
  rw [th_setTh,if_neg (by show m≠σ.last+1+1;omega)]
  show (({σ with last:=_}:S).setTh _ _).th m=_
  rw [th_setTh,if_neg (by omega)]
 show (((σ.new3.note (σ.last+1+way)).blessIf (σ.last+1+way) b)).th m=_
 rw [h2 _ _ (by omega),h1,h3]
theorem new3_at {way:Nat} (hw:way < 3):σ.new3.th (σ.last+1+way)=⟨kinds way,0,false,false,false,[]⟩:=by
 unfold S.new3 S.fresh
 match way,hw with
 | 0,_ =>
  rw [th_setTh,if_neg (by show σ.last+1+0≠σ.last+1+1+1;omega)]
  show (({σ with last:=_}:S).setTh _ _ |>.setTh _ _).th _=_
  rw [th_setTh,if_neg (by show σ.last+1+0≠σ.last+1+1;omega)]
  show (({σ with last:=_}:S).setTh _ _).th _=_
  rw [th_setTh];exact if_pos rfl
 | 1,_ =>
  rw [th_setTh,if_neg (by show σ.last+1+1≠σ.last+1+1+1;omega)]
  show (({σ with last:=_}:S).setTh _ _ |>.setTh _ _).th _=_
  rw [th_setTh];exact if_pos rfl
 | 2,_ =>
  rw [th_setTh];exact if_pos rfl
theorem newT_new {way:Nat} {b:Bool} (hw:way < 3):(σ.newT way b).th (σ.last+1+way)=⟨kinds way,0,b,false,false,[]⟩:=by
 show (((σ.new3.note (σ.last+1+way)).blessIf (σ.last+1+way) b)).th (σ.last+1+way)=_
 unfold S.blessIf
 cases b with
 | true=>rw [if_pos rfl,th_setTh,if_pos rfl,note_th,new3_at hw]
 | false=>rw [if_neg (by simp),note_th,new3_at hw]
theorem newT_zero {way:Nat} {b:Bool} (hw:way < 3):(σ.newT way b).zero=σ.zero ++ [σ.last+1+way]:=by
 show (((σ.new3.note (σ.last+1+way)).blessIf (σ.last+1+way) b)).zero=_
 have h1: ∀ τ:S,∀ k,(τ.blessIf k b).zero=τ.zero:=λ τ k=>by unfold S.blessIf;split <;> rfl
 rw [h1]
 unfold S.note
 rw [if_pos (by rw [new3_at hw])]
 rfl
theorem newT_rest {way:Nat} {b:Bool}:Same σ (σ.newT way b)∧(σ.newT way b).wk=σ.wk ++ [σ.last+1+way]∧(σ.newT way b).real=σ.real ++ [σ.last+1+way]∧(σ.newT way b).lastRow=σ.last+1+way∧(σ.newT way b).last=σ.last+3∧ ∀ m,(σ.newT way b).row m=if m=σ.last+1+way then ⟨kinds way,b,false⟩ else σ.row m:=by
 unfold S.newT S.blessIf S.note
 split <;> split <;> exact ⟨⟨rfl,by show σ.last≤σ.last+1+1+1;omega,rfl,rfl,rfl,rfl,rfl⟩,rfl,rfl,rfl,rfl,λ m=>rfl⟩
theorem InvD.newT (I:Inv B σ) {way:Nat} {b:Bool} (hw:way < 3):Inv (B+1) (σ.newT way b)∧σ.last+1+way∉σ.wk:=by
 obtain ⟨h1,h2,h3,h4,h5,h6⟩:=newT_rest (σ:=σ) (way:=way) (b:=b)
 have hold: ∀ m∈σ.real,(σ.newT way b).th m=σ.th m:=λ m hm=>newT_old (I.rb m hm)
 have hold': ∀ m∈σ.wk,(σ.newT way b).th m=σ.th m:=λ m hm=>hold m (I.sub m hm)
 have hnew:=newT_new (σ:=σ) (b:=b) hw
 have hz:=newT_zero (σ:=σ) (b:=b) hw
 have hg:goals (kinds way)=[]:=by match way,hw with | 0,_=>rfl | 1,_=>rfl | 2,_=>rfl
 have hm:members (kinds way)=[]:=by match way,hw with | 0,_=>rfl | 1,_=>rfl | 2,_=>rfl
 have:=I.add (D':=[]) (τ:=σ.newT way b) (n:=σ.last+1+way) (c:=kinds way) (b:=b) (by omega) h1 h2 h3 h4 (by rw [h5];omega) h6 (λ m hm=>by rw [hold' m hm]) (by rw [hnew];exact ⟨rfl,rfl,rfl,rfl,rfl,rfl⟩) (λ m hm=>by rw [hold m hm];exact ⟨rfl,rfl,rfl⟩) (λ m hm=>by rw [hold' m hm,hg];simp) (λ u hu=>by rw [hold' u hu]) (by rw [hg];intro m hm;simp at hm) (λ m=>by match way,hw with | 0,_=>exact nofun | 1,_=>exact nofun | 2,_=>exact nofun) (by rw [hm];intro m hm;simp at hm) (by rw [hg];simp) (by match way,hw with | 0,_=>exact nofun | 1,_=>exact nofun | 2,_=>(intro es h;cases h;simp)) (λ m hm=>by rw [hz];exact List.mem_append_left _ hm) (λ m hm=>by
   rw [hz] at hm
   rcases List.mem_append.mp hm with h | h
   ·exact .inl (I.zs m h)
   ·exact .inr (List.mem_singleton.mp h)) (.inl (by rw [hz];simp)) (λ d hd=>hd)
 exact ⟨this.1,this.2.2⟩
theorem InvD.store_ok (I:InvD D B σ) (hp:LS σ s) (hb:B≤1000) (hz:σ.zero.length < big):StoreOk σ s:=by
 obtain ⟨h1,v,h2⟩:=hp
 refine ⟨hz,v,(I.cc s h1).trans h2,λ m hm=> ?_⟩
 have hm':m∈σ.wk:=I.tg s h1 m (.inr (by rw [h2,hm]))
 have:=I.wkl hm'
 exact ⟨by unfold big;omega,I.rb m (I.sub m hm')⟩
theorem InvD.closed (I:InvD D B σ):Closed σ:=λ n v m hn hv hm=>by
 have hm':m∈σ.wk:=I.tg n hn m (by
  rw [hv]
  cases v with
  | none=>cases hm
  | int i=>cases hm
  | ref k=>cases hm;exact .inl (by simp [goals])
  | weak k=>cases hm;exact .inr rfl)
 exact ⟨hm',λ x hx=>⟨I.tg m hm' x (.inl (members_sub x hx)),I.ms m hm' x hx⟩⟩
theorem InvD.target (I:InvD D B σ) (hn:n∈σ.wk) (h:(σ.row n).c.val.tgt=some m):m∈σ.wk:=by
 cases hc:(σ.row n).c with
 | s v=>rw [hc] at h;exact (I.closed n v m hn hc h).1
 | a xs=>rw [hc] at h;cases h
 | h es=>rw [hc] at h;cases h
theorem newLS {way:Nat} {b:Bool} (I:Inv B σ) (hw:way < 3) (hp:LS σ s):LS (σ.newT way b) s:=by
 obtain ⟨h1,h2,h3,h4,h5,h6⟩:=newT_rest (σ:=σ) (way:=way) (b:=b)
 obtain ⟨a1,v,a2⟩:=hp
 refine ⟨by rw [h2];exact List.mem_append_left _ a1,v,?_⟩
 rw [h6,if_neg (λ q=>(I.newT (b:=b) hw).2 (by rw [← q];exact a1))];exact a2
theorem Inv.deedNew (I:Inv B σ) {way place:Nat} {b:Bool} (hw:way < 3) (hp:LS σ place):Inv (B+1) (σ.newD way place b)∧(σ.newD way place b).zero.length≤σ.zero.length+3∧(σ.newD way place b).roots=σ.roots:=by
 have hn:=(I.newT (b:=b) hw).1
 obtain ⟨b1,v,b2⟩:=newLS (b:=b) I hw hp
 have hj:=(hn.jstore (pv:= .ref (σ.last+1+way)) b1 b2 (λ m hm=>by cases hm;rw [newT_rest.2.1];simp)).1
 have hth:=(hn.cc place b1).trans b2
 refine ⟨hj,?_,?_⟩
 ·have h1:=jstore_zlen (pv:= .ref (σ.last+1+way)) hth
  rw [newT_zero hw] at h1
  simp only [List.length_append,List.length_singleton] at h1
  show ((σ.newT way b).jstore place (.ref (σ.last+1+way))).zero.length≤_
  omega
 ·show ((σ.newT way b).jstore place (.ref (σ.last+1+way))).roots=_
  unfold S.jstore
  rw [store_eq hth]
  exact newT_rest.1.roots
theorem jstore_roots (hc:(σ.th s).c= .s old):(σ.jstore s pv).roots=σ.roots:=by unfold S.jstore;rw [store_eq hc];rfl
theorem Inv.deedJ (I:Inv B σ) (hp:LS σ s) (h: ∀ m,pv.tgt=some m→m∈σ.wk):Inv (B+1) (σ.jstore s pv)∧(σ.jstore s pv).zero.length≤σ.zero.length+3∧(σ.jstore s pv).roots=σ.roots:=by
 obtain ⟨b1,v,b2⟩:=hp
 have hth:=(I.cc s b1).trans b2
 refine ⟨(I.jstore b1 b2 h).1.mono (by omega),?_,jstore_roots hth⟩
 have:=jstore_zlen (pv:=pv) hth
 omega
theorem Inv.deedWeak (I:Inv B σ) (hp:LS σ s):Inv (B+1) (σ.weakD s)∧(σ.weakD s).zero.length≤σ.zero.length+3∧(σ.weakD s).roots=σ.roots:=by
 obtain ⟨b1,v,b2⟩:=hp
 have hth:=(I.cc s b1).trans b2
 have hv:(σ.row s).c.val=v:=by rw [b2];rfl
 have hv':(σ.th s).c.val=v:=by rw [hth];rfl
 unfold S.weakD S.weaken
 rw [hv,hv']
 have same:σ.setRowV s v=σ:=by
  unfold S.setRowV S.setRow
  have:(λ m=>if m=s then {σ.row s with c:=Cont.s v} else σ.row m)=σ.row:=by
   funext m;split
   ·subst_vars;rw [← b2]
   ·rfl
  rw [this]
 cases v with
 | none=>exact ⟨I.mono (by omega),by show σ.zero.length≤_;omega,rfl⟩
 | int i=>exact ⟨I.mono (by omega),by show σ.zero.length≤_;omega,rfl⟩
 | weak m=>dsimp only [PV.tgt];rw [same];exact ⟨I.mono (by omega),by omega,rfl⟩
 | ref m =>
  dsimp only [PV.tgt]
  have hm:m∈σ.wk:=I.target b1 (by rw [hv];rfl)
  have hw1:((σ.setVal s (.weak m)).th m).weak=(σ.th m).weak:=setVal_weak
  rw [hw1]
  have hρ: ∀ n,((σ.setVal s (.weak m)).setWeak m ((σ.th m).weak ++ [s])).th n= {σ.th n with c:=if n=s then .s (.weak m) else (σ.th n).c,weak:=if n=m then (σ.th m).weak ++ [s] else (σ.th n).weak}:=λ n=>by
   unfold S.setWeak S.setVal
   rw [th_setTh,th_setTh]
   by_cases q1:n=m
   ·subst q1
    by_cases q2:n=s
    ·subst q2;simp [th_setTh]
    ·simp [q2,th_setTh]
   ·by_cases q2:n=s
    ·subst q2;simp [q1,th_setTh]
    ·simp [q1,q2,th_setTh]
  have hz:(((σ.setVal s (.weak m)).setWeak m ((σ.th m).weak ++ [s])).letGo m).zero=σ.zero ++ if (σ.th m).cnt - 1=0 then [m] else []:=by
   rw [letGo_eq,hρ];rfl
  have hT: ∀ n,((((σ.setVal s (.weak m)).setWeak m ((σ.th m).weak ++ [s])).letGo m).setRowV s (.weak m)).th n= {σ.th n with c:=if n=s then .s (.weak m) else (σ.th n).c,cnt:=(σ.th n).cnt - hit (n=m),weak:=if n=m then (σ.th m).weak ++ [s] else (σ.th n).weak}:=λ n=>by
   show (((σ.setVal s (.weak m)).setWeak m ((σ.th m).weak ++ [s])).letGo m).th n=_
   rw [letGo_eq]
   dsimp only
   rw [hρ]
  have hR: ∀ n,((((σ.setVal s (.weak m)).setWeak m ((σ.th m).weak ++ [s])).letGo m).setRowV s (.weak m)).row n=if n=s then {σ.row s with c:= .s (.weak m)} else σ.row n:=λ n=>by
   unfold S.setRowV S.setRow
   rw [letGo_row];rfl
  have hO:Same σ ((((σ.setVal s (.weak m)).setWeak m ((σ.th m).weak ++ [s])).letGo m).setRowV s (.weak m))∧((((σ.setVal s (.weak m)).setWeak m ((σ.th m).weak ++ [s])).letGo m).setRowV s (.weak m)).wk=σ.wk∧((((σ.setVal s (.weak m)).setWeak m ((σ.th m).weak ++ [s])).letGo m).setRowV s (.weak m)).real=σ.real∧((((σ.setVal s (.weak m)).setWeak m ((σ.th m).weak ++ [s])).letGo m).setRowV s (.weak m)).lastRow=σ.lastRow:=by
   rw [letGo_eq];exact ⟨⟨rfl,Nat.le_refl _,rfl,rfl,rfl,rfl,rfl⟩,rfl,rfl,rfl⟩
  have hZ:((((σ.setVal s (.weak m)).setWeak m ((σ.th m).weak ++ [s])).letGo m).setRowV s (.weak m)).zero=σ.zero ++ if (σ.th m).cnt - 1=0 then [m] else []:=hz
  generalize ((((σ.setVal s (.weak m)).setWeak m ((σ.th m).weak ++ [s])).letGo m).setRowV s (.weak m))=τ at *
  obtain ⟨o1,o2,o3,o4⟩:=hO
  have hsn:s∉(σ.th m).weak:=λ h=>by have:=((I.we m hm s).mp h).2;rw [b2] at this;cases this
  refine ⟨(I.setC (τ:=τ) (c':= .s (.weak m)) b1 o1 o2 o3 o4 hR (λ n hn=>by rw [hT]) (λ n hn=>by rw [hT];exact ⟨rfl,rfl,rfl⟩) (λ n hn=> ?_) (λ u hu x=> ?_) (λ u hu=> ?_) (λ _=>⟨_,rfl⟩) (λ k hk=> ?_) (λ k hk=>by simp [members] at hk) (by simp [goals]) nofun (λ n hn=>by rw [hZ];exact List.mem_append_left _ hn) (λ n hn=> ?_) (λ n hn hg h0=> ?_)).1.mono (by omega),?_,o1.roots⟩
  ·rw [hT,b2]
   show (σ.th n).cnt - hit (n=m)+(([m].count n:Nat):Int)=(σ.th n).cnt+(([].count n:Nat):Int)
   rw [List.count_singleton]
   by_cases q:n=m
   ·subst q;simp [hit]
   ·have: ¬ m=n:=λ z=>q z.symm
    simp [hit,q,this]
  ·rw [hT,hR]
   dsimp only
   have h0:=I.we u hu x
   by_cases q:x=s
   ·subst q
    simp only [if_true]
    by_cases z:u=m
    ·subst z;simp [b1]
    ·have: ¬ (Cont.s (PV.weak m)= .s (.weak u)):=λ h=>z (by cases h;rfl)
     simp only [z,if_false,this,and_false,iff_false]
     rw [h0,b2]
     rintro ⟨_,h⟩
     cases h
   ·simp only [q,if_false]
    rw [← h0]
    by_cases z:u=m
    ·subst z;simp [q]
    ·simp [z]
  ·rw [hT]
   dsimp only
   split
   ·subst_vars
    rw [List.nodup_append]
    exact ⟨I.wn _ hm,by simp,λ a ha b hb q=>hsn (by rw [List.mem_singleton.mp hb] at q;rw [← q];exact ha)⟩
   ·exact I.wn u hu
  ·rcases hk with h | h
   ·simp [goals] at h
   ·cases h;exact hm
  ·rw [hZ] at hn
   rcases List.mem_append.mp hn with h | h
   ·exact I.zs n h
   ·split at h
    ·rcases List.mem_singleton.mp h with rfl;exact I.sub _ hm
    ·simp at h
  ·rw [b2] at hg
   have:n=m:=by simpa [goals] using hg
   subst this
   rw [hT] at h0
   have h1:(σ.th n).cnt - 1=0:=by simpa [hit] using h0
   rw [hZ,if_pos h1];simp
  ·rw [hZ]
   split <;> simp
end
section
variable {D D':List Nat} {B B':Nat} {σ τ:S} {n m s t:Nat} {pv old:PV}
theorem aput_none {key:String} {v:Nat}: ∀ {es:List (String × Nat)},aget key es=none→aput key v es=es ++ [(key,v)]
 | [],_=>rfl
 | e :: r,h=>by
  unfold aget at h
  split at h
  ·cases h
  ·rename_i q
   unfold aput
   rw [if_neg q,aput_none h];rfl
theorem aget_none {key:String}: ∀ {es:List (String × Nat)},aget key es=none→key∉es.map (·.1)
 | [],_=>by simp
 | e :: r,h=>by
  unfold aget at h
  split at h
  ·cases h
  ·rename_i q
   simp only [List.map_cons,List.mem_cons,not_or]
   exact ⟨λ z=>q z.symm,aget_none h⟩
theorem aput_some {key:String} {v o:Nat}: ∀ {es:List (String × Nat)},(es.map (·.1)).Nodup→aget key es=some o→aput key v es=es.map λ e=>(e.1,if e.1=key then v else e.2)
 | [],_,h=>by cases h
 | e :: r,nd,h=>by
  simp only [List.map_cons,List.nodup_cons] at nd
  unfold aget at h
  unfold aput
  by_cases q:e.1=key
  ·rw [if_pos q]
   simp only [List.map_cons,q,if_true,List.cons.injEq,true_and]
   refine (List.map_id _).symm.trans (List.map_congr_left λ x hx=> ?_)
   have: ¬ x.1=key:=λ z=>nd.1 (by rw [q,← z];exact List.mem_map_of_mem (f:=(·.1)) hx)
   simp [this]
  ·rw [if_neg q]
   rw [if_neg q] at h
   rw [aput_some nd.2 h]
   simp [q]
theorem aput_count {key:String} {v o x:Nat}: ∀ {es:List (String × Nat)},aget key es=some o→((aput key v es).map (·.2)).count x+(if o=x then 1 else 0)=(es.map (·.2)).count x+(if v=x then 1 else 0)
 | [],h=>by cases h
 | e :: r,h=>by
  unfold aget at h
  unfold aput
  by_cases q:e.1=key
  ·rw [if_pos q] at h ⊢
   cases h
   simp only [List.map_cons,List.count_cons,beq_iff_eq]
   omega
  ·rw [if_neg q] at h ⊢
   have:=aput_count (v:=v) (x:=x) h
   simp only [List.map_cons,List.count_cons,beq_iff_eq]
   omega
theorem aget_snd {key:String} {o:Nat}: ∀ {es:List (String × Nat)},aget key es=some o→o∈es.map (·.2)
 | [],h=>by cases h
 | e :: r,h=>by
  unfold aget at h
  split at h
  ·cases h;simp
  ·simp only [List.map_cons,List.mem_cons];exact .inr (aget_snd h)
theorem setC_th {c:Cont}:(σ.setC t c).th n= {σ.th n with c:=if n=t then c else (σ.th n).c}:=by
 unfold S.setC;rw [th_setTh]
 by_cases q:n=t
 ·subst q;simp
 ·simp [q]
theorem Inv.deedTaken (I:Inv B σ) (hp:LS σ s):Inv (B+1) (σ.takenD s)∧(σ.takenD s).zero.length≤σ.zero.length+3∧(σ.takenD s).roots=σ.roots:=by
 have idle:Inv (B+1) σ∧σ.zero.length≤σ.zero.length+3∧σ.roots=σ.roots:=⟨I.mono (by omega),by omega,rfl⟩
 have go: ∀ t mm c',t∈σ.wk→(∀ v,(σ.row t).c≠ .s v)→(∀ v,c'≠ .s v)→(∀ x,(goals (σ.row t).c).count x=(goals c').count x+if mm=x then 1 else 0)→KeysOk c'→Inv (B+1) (((σ.setRC t c').setC t c').letGo mm)∧(((σ.setRC t c').setC t c').letGo mm).zero.length≤σ.zero.length+3∧(((σ.setRC t c').setC t c').letGo mm).roots=σ.roots:=by
  intro t mm c' ht hns hns' hcount hko
  have hmem:mm∈goals (σ.row t).c:=by
   have:=hcount mm
   simp only [if_true] at this
   exact List.count_pos_iff.mp (by omega)
  have hmw:mm∈σ.wk:=I.tg t ht mm (.inl hmem)
  have hsubg: ∀ x∈goals c',x∈goals (σ.row t).c:=λ x hx=>by
   have h1:=hcount x
   have h2:=List.count_pos_iff.mpr hx
   exact List.count_pos_iff.mp (by omega)
  have hT: ∀ n,(((σ.setRC t c').setC t c').letGo mm).th n= {σ.th n with c:=if n=t then c' else (σ.th n).c,cnt:=(σ.th n).cnt - hit (n=mm)}:=λ n=>by
   rw [letGo_eq]
   dsimp only
   rw [setC_th];rfl
  have hZ:(((σ.setRC t c').setC t c').letGo mm).zero=σ.zero ++ if (σ.th mm).cnt - 1=0 then [mm] else []:=by
   rw [letGo_eq]
   dsimp only
   rw [setC_th];rfl
  have hR: ∀ n,(((σ.setRC t c').setC t c').letGo mm).row n=if n=t then {σ.row t with c:=c'} else σ.row n:=λ n=>by
   rw [letGo_row];rfl
  have hO:Same σ (((σ.setRC t c').setC t c').letGo mm)∧(((σ.setRC t c').setC t c').letGo mm).wk=σ.wk∧(((σ.setRC t c').setC t c').letGo mm).real=σ.real∧(((σ.setRC t c').setC t c').letGo mm).lastRow=σ.lastRow:=by
   rw [letGo_eq];exact ⟨⟨rfl,Nat.le_refl _,rfl,rfl,rfl,rfl,rfl⟩,rfl,rfl,rfl⟩
  generalize (((σ.setRC t c').setC t c').letGo mm)=τ at *
  obtain ⟨o1,o2,o3,o4⟩:=hO
  refine ⟨(I.setC (τ:=τ) ht o1 o2 o3 o4 hR (λ n hn=>by rw [hT]) (λ n hn=>by rw [hT];exact ⟨rfl,rfl,rfl⟩) (λ n hn=> ?_) (λ u hu x=> ?_) (λ u hu=>by rw [hT];exact I.wn u hu) (λ ⟨v,h⟩=>absurd h (hns v)) (λ k hk=> ?_) (λ k hk=> ?_) ?_ hko (λ n hn=>by rw [hZ];exact List.mem_append_left _ hn) (λ n hn=> ?_) (λ n hn hg h0=> ?_)).1.mono (by omega),?_,o1.roots⟩
  ·rw [hT]
   have:=hcount n
   dsimp only
   by_cases q:n=mm
   ·subst q;rw [hit_t rfl];simp at this;omega
   ·have q': ¬ mm=n:=λ z=>q z.symm
    rw [hit_f q];simp [q'] at this;omega
  ·rw [hT,hR]
   dsimp only
   rw [I.we u hu]
   by_cases q:x=t
   ·subst q
    simp only [if_true]
    exact ⟨λ h=>absurd h.2 (hns _),λ h=>absurd h.2 (hns' _)⟩
   ·simp [q]
  ·rcases hk with h | h
   ·exact I.tg t ht k (.inl (hsubg k h))
   ·exact absurd h (hns' _)
  ·have hk':k∈goals (σ.row t).c:=hsubg k (members_sub k hk)
   have:k∈members (σ.row t).c:=by
    cases hc:(σ.row t).c with
    | s v=>exact absurd hc (hns v)
    | a xs=>rw [hc] at hk';exact hk'
    | h es=>rw [hc] at hk';exact hk'
   obtain ⟨v,hv⟩:=I.ms t ht k this
   rw [hR]
   split
   ·subst_vars;exact absurd hv (hns v)
   ·exact ⟨v,hv⟩
  ·rw [List.nodup_iff_count]
   intro x
   have h1:=hcount x
   have h2:=List.nodup_iff_count.mp (I.gn t ht) x
   omega
  ·rw [hZ] at hn
   rcases List.mem_append.mp hn with h | h
   ·exact I.zs n h
   ·split at h
    ·rcases List.mem_singleton.mp h with rfl;exact I.sub _ hmw
    ·simp at h
  ·rw [hT] at h0
   dsimp only at h0
   have h1:=I.ct n hn
   have h2:0 < σ.deg n:=by
    unfold S.deg
    have:=degOver_pos ht hg
    omega
   by_cases q:n=mm
   ·subst q
    rw [hit_t rfl] at h0
    rw [hZ,if_pos h0];simp
   ·rw [hit_f q] at h0
    omega
  ·rw [hZ];split <;> simp
 unfold S.takenD
 cases htg:(σ.row s).c.val.tgt with
 | none=>exact idle
 | some t =>
  have ht:t∈σ.wk:=I.target hp.1 htg
  dsimp only
  cases hc:(σ.row t).c with
  | s v=>exact idle
  | a xs =>
   cases xs with
   | nil=>exact idle
   | cons mm xs =>
    exact go t mm (.a xs) ht (by rw [hc];nofun) nofun (λ x=>by rw [hc];show (mm :: xs).count x=xs.count x+_;rw [List.count_cons];simp) nofun
  | h es =>
   cases es with
   | nil=>exact idle
   | cons e es =>
    have hko:=I.ko t ht _ hc
    simp only [List.map_cons,List.nodup_cons] at hko
    dsimp only
    have:adel e.1 (e :: es)=es:=by unfold adel;simp
    rw [this]
    exact go t e.2 (.h es) ht (by rw [hc];nofun) nofun (λ x=>by rw [hc];show (e.2 :: es.map (·.2)).count x=(es.map (·.2)).count x+_;rw [List.count_cons];simp) (λ es' h=>by cases h;exact hko.2)
theorem putT_th (hm:m≤σ.last):(σ.putT s).th m= {σ.th m with cnt:=(σ.th m).cnt+hit ((σ.th s).c.val.tgt=some m)}:=by
 show (σ.freshV (σ.th s).c.val).th m=_
 unfold S.freshV S.setCnt S.fresh
 rw [th_setTh,if_neg (by omega)]
 rw [take_eq]
 rw [th_setTh,if_neg (by show m≠σ.last+1;omega)]
theorem putT_new:(σ.putT s).th (σ.last+1)=⟨.s (σ.th s).c.val.strong,1,false,false,false,[]⟩:=by
 show (σ.freshV (σ.th s).c.val).th (σ.last+1)=_
 unfold S.freshV S.setCnt S.fresh
 rw [th_setTh,if_pos rfl,take_eq]
 have: ∀ τ:S,∀ t,(τ.setTh (σ.last+1) t).th (σ.last+1)=t:=λ τ t=>by rw [th_setTh,if_pos rfl]
 rw [this];rfl
theorem putT_rest:Same σ (σ.putT s)∧(σ.putT s).wk=σ.wk ++ [σ.last+1]∧(σ.putT s).real=σ.real ++ [σ.last+1]∧(σ.putT s).lastRow=σ.last+1∧(σ.putT s).last=σ.last+1∧(σ.putT s).zero=σ.zero∧ ∀ m,(σ.putT s).row m=if m=σ.last+1 then ⟨.s (σ.row s).c.val.strong,false,false⟩ else σ.row m:=by
 unfold S.putT S.freshV
 rw [take_eq]
 exact ⟨⟨rfl,Nat.le_succ _,rfl,rfl,rfl,rfl,rfl⟩,rfl,rfl,rfl,rfl,rfl,λ m=>rfl⟩
theorem goals_str:goals (.s pv.strong)=match pv.tgt with | some m=>[m] | none=>[]:=by cases pv <;> rfl
theorem Inv.putT (I:Inv B σ) (hs:LS σ s):InvD [σ.last+1] (B+1) ((σ.putT s).setCnt (σ.last+1) 0)∧σ.last+1∉σ.wk:=by
 obtain ⟨b1,v,b2⟩:=hs
 have hth:=(I.cc s b1).trans b2
 have hv:(σ.row s).c.val=v:=by rw [b2];rfl
 have hv':(σ.th s).c.val=v:=by rw [hth];rfl
 obtain ⟨h1,h2,h3,h4,h5,h6,h7⟩:=putT_rest (σ:=σ) (s:=s)
 have hold: ∀ m∈σ.real,((σ.putT s).setCnt (σ.last+1) 0).th m= {σ.th m with cnt:=(σ.th m).cnt+hit (v.tgt=some m)}:=λ m hm=>by
  have hm':=I.rb m hm
  unfold S.setCnt
  rw [th_setTh,if_neg (by omega),putT_th hm',hv']
 have hold': ∀ m∈σ.wk,((σ.putT s).setCnt (σ.last+1) 0).th m= {σ.th m with cnt:=(σ.th m).cnt+hit (v.tgt=some m)}:=λ m hm=>hold m (I.sub m hm)
 have hnew:((σ.putT s).setCnt (σ.last+1) 0).th (σ.last+1)=⟨.s v.strong,0,false,false,false,[]⟩:=by
  unfold S.setCnt
  rw [th_setTh,if_pos rfl,putT_new,hv']
 have hr:Same σ ((σ.putT s).setCnt (σ.last+1) 0):=⟨h1.roots,h1.last,h1.heard,h1.log,h1.lkW,h1.lkR,h1.lkT⟩
 have htw: ∀ m,v.tgt=some m→m∈σ.wk:=λ m hm=>I.target b1 (by rw [hv];exact hm)
 have hz:((σ.putT s).setCnt (σ.last+1) 0).zero=σ.zero:=h6
 have:=I.add (D':=[σ.last+1]) (τ:=(σ.putT s).setCnt (σ.last+1) 0) (n:=σ.last+1) (c:= .s v.strong) (b:=false) (by omega) hr h2 h3 h4 (by show σ.last+1≤(σ.putT s).last;omega) (λ m=>by show (σ.putT s).row m=_;rw [h7,hv]) (λ m hm=>by rw [hold' m hm]) (by rw [hnew];exact ⟨rfl,rfl,rfl,rfl,rfl,rfl⟩) (λ m hm=>by rw [hold m hm];exact ⟨rfl,rfl,rfl⟩) (λ m hm=>by
   rw [hold' m hm,goals_strong]
   dsimp only
   unfold hit
   split <;> simp) (λ u hu=>by rw [hold' u hu]) (λ m hm=>by
   rw [goals_str] at hm
   cases ht:v.tgt with
   | none=>rw [ht] at hm;simp at hm
   | some k=>rw [ht] at hm;simp at hm;subst hm;exact htw _ ht) (λ m=>by cases v <;> nofun) (by intro m hm;simp [members] at hm) (by rw [goals_str];cases v.tgt <;> simp) nofun (λ m hm=>by rw [hz];exact hm) (λ m hm=>by rw [hz] at hm;exact .inl (I.zs m hm)) (.inr (by simp)) (λ d hd=>by simp at hd)
 exact ⟨this.1,this.2.2⟩
end
def olist (f:Nat→Int):Option Nat→List Nat
 | some o=>if f o - 1=0 then [o] else []
 | none=>[]
section
variable {D D':List Nat} {B B':Nat} {σ τ:S} {n m s t:Nat} {pv old:PV}
theorem Inv.putGo (I:Inv B σ) (hs:LS σ s) (ht:t∈σ.wk) (hns: ∀ v,(σ.row t).c≠ .s v) {c':Cont} (hns': ∀ v,c'≠ .s v) (oo:Option Nat)
  (hT: ∀ m,τ.th m= {(σ.putT s).th m with c:=if m=t then c' else ((σ.putT s).th m).c,cnt:=((σ.putT s).th m).cnt - hit (oo=some m)})
  (hR: ∀ m,τ.row m=if m=t then {(σ.putT s).row t with c:=c'} else (σ.putT s).row m)
  (hZ:τ.zero=σ.zero ++ olist (λ o=>((σ.putT s).th o).cnt) oo)
  (hO:Same (σ.putT s) τ) (hw:τ.wk=(σ.putT s).wk) (hr:τ.real=(σ.putT s).real) (hl:τ.lastRow=(σ.putT s).lastRow)
  (hcount: ∀ x,(goals c').count x+(if oo=some x then 1 else 0)=(goals (σ.row t).c).count x+(if x=σ.last+1 then 1 else 0)) (hoo: ∀ o,oo=some o→o∈goals (σ.row t).c) (hmem:members c'=goals c') (hko:KeysOk c') :
  Inv (B+1) τ∧τ.zero.length≤σ.zero.length+3∧τ.roots=σ.roots:=by
 obtain ⟨I0,hnw⟩:=I.putT hs
 obtain ⟨h1,h2,h3,h4,h5,h6,h7⟩:=putT_rest (σ:=σ) (s:=s)
 have hnt:t≠σ.last+1:=λ q=>hnw (by rw [← q];exact ht)
 have hng: ∀ x∈goals (σ.row t).c,x∈σ.wk:=λ x hx=>I.tg t ht x (.inl hx)
 have hoow: ∀ o,oo=some o→o∈σ.wk:=λ o ho=>hng o (hoo o ho)
 have hon:oo≠some (σ.last+1):=λ h=>hnw (hoow _ h)
 have hold0:(goals (σ.row t).c).count (σ.last+1)=0:=List.count_eq_zero.mpr λ h=>hnw (hng _ h)
 have hth0: ∀ m,((σ.putT s).setCnt (σ.last+1) 0).th m= {(σ.putT s).th m with cnt:=if m=σ.last+1 then 0 else ((σ.putT s).th m).cnt}:=λ m=>by rw [setCnt_eq]
 have hrow0: ∀ m,((σ.putT s).setCnt (σ.last+1) 0).row m=(σ.putT s).row m:=λ m=>rfl
 have hrt:(σ.putT s).row t=σ.row t:=by rw [h7,if_neg hnt]
 have hw0:((σ.putT s).setCnt (σ.last+1) 0).wk=σ.wk ++ [σ.last+1]:=h2
 have hmemo:members (σ.row t).c=goals (σ.row t).c:=by
  cases hc:(σ.row t).c with
  | s v=>exact absurd hc (hns v)
  | a xs=>rfl
  | h es=>rfl
 have hsub': ∀ x∈goals c',x∈goals (σ.row t).c∨x=σ.last+1:=λ x hx=>by
  have h8:=hcount x
  have h9:=List.count_pos_iff.mpr hx
  by_cases q:x=σ.last+1
  ·exact .inr q
  ·rw [if_neg q] at h8
   exact .inl (List.count_pos_iff.mp (by omega))
 have hcn:((σ.putT s).th (σ.last+1)).cnt=1:=by rw [putT_new]
 have hI:=I0.setC (τ:=τ) (t:=t) (by rw [hw0];exact List.mem_append_left _ ht) (c':=c') ⟨hO.roots,hO.last,hO.heard,hO.log,hO.lkW,hO.lkR,hO.lkT⟩ hw hr hl (λ m=>hR m)
  (λ m _=>by rw [hT,hth0]) (λ m _=>by rw [hT,hth0];exact ⟨rfl,rfl,rfl⟩) (λ m hm=> ?_) (λ u hu x=> ?_) (λ u hu=> ?_) (λ ⟨v,h⟩=> ?_) (λ x hx=> ?_) (λ x hx=> ?_) ?_ hko (λ m hm=> ?_) (λ m hm=> ?_) (λ m hm hg h0=> ?_)
 ·refine ⟨hI.1.drop λ d hd _ h0=> ?_,?_,by rw [hO.roots];exact h1.roots⟩
  ·exfalso
   rcases List.mem_singleton.mp hd with rfl
   have:=hI.2 (σ.last+1)
   rw [h0,hrow0,hrt,hold0] at this
   have h8:=hcount (σ.last+1)
   rw [if_pos rfl,if_neg hon] at h8
   omega
  ·rw [hZ,List.length_append]
   cases oo with
   | none=>simp [olist]
   | some o=>simp only [olist];split <;> simp
 ·rw [hT,hth0,hrow0,hrt]
  dsimp only
  have h8:=hcount m
  by_cases q:m=σ.last+1
  ·subst q
   rw [if_pos rfl,if_neg hon] at h8
   rw [hit_f hon,if_pos rfl,hcn,hold0]
   omega
  ·rw [if_neg q] at h8 ⊢
   by_cases z:oo=some m
   ·rw [if_pos z] at h8
    rw [hit_t z];omega
   ·rw [if_neg z] at h8
    rw [hit_f z];omega
 ·have h8:=I0.we u hu x
  have e1:(τ.th u).weak=(((σ.putT s).setCnt (σ.last+1) 0).th u).weak:=by rw [hT,hth0]
  rw [e1,h8,hR,hrow0]
  by_cases q:x=t
  ·subst q
   simp only [if_true]
   rw [hrt]
   exact ⟨λ h=>absurd h.2 (hns _),λ h=>absurd h.2 (hns' _)⟩
  ·simp [q]
 ·have e1:(τ.th u).weak=(((σ.putT s).setCnt (σ.last+1) 0).th u).weak:=by rw [hT,hth0]
  rw [e1];exact I0.wn u hu
 ·rw [hrow0,hrt] at h;exact absurd h (hns v)
 ·rcases hx with h | h
  ·rw [hw0]
   rcases hsub' x h with q | q
   ·exact List.mem_append_left _ (hng x q)
   ·rw [q];simp
  ·exact absurd h (hns' _)
 ·rw [hmem] at hx
  rcases hsub' x hx with q | q
  ·obtain ⟨v,hv⟩:=I.ms t ht x (by rw [hmemo];exact q)
   rw [hR]
   split
   ·subst_vars;exact absurd hv (hns v)
   ·rw [h7]
    split
    ·exact ⟨_,rfl⟩
    ·exact ⟨v,hv⟩
  ·rw [hR,q,if_neg (λ z=>hnt z.symm),h7,if_pos rfl]
   exact ⟨_,rfl⟩
 ·rw [List.nodup_iff_count]
  intro x
  have h8:=hcount x
  by_cases q:x=σ.last+1
  ·subst q
   rw [if_pos rfl] at h8
   omega
  ·rw [if_neg q] at h8
   have h9:=List.nodup_iff_count.mp (I.gn t ht) x
   omega
 ·rw [hZ]
  exact List.mem_append_left _ (by rw [← h6];exact hm)
 ·have hr0:((σ.putT s).setCnt (σ.last+1) 0).real=σ.real ++ [σ.last+1]:=h3
  rw [hr0]
  rw [hZ] at hm
  rcases List.mem_append.mp hm with h | h
  ·exact List.mem_append_left _ (I.zs m h)
  ·cases oo with
   | none=>simp [olist] at h
   | some o =>
    simp only [olist] at h
    split at h
    ·rcases List.mem_singleton.mp h with rfl
     exact List.mem_append_left _ (I.sub _ (hoow _ rfl))
    ·simp at h
 ·rw [hrow0,hrt] at hg
  have hmw:=hng m hg
  have hml:=I.rb m (I.sub m hmw)
  have hp:=putT_th (σ:=σ) (s:=s) hml
  have h8:=I.ct m hmw
  have h9:0 < σ.deg m:=by
   unfold S.deg
   have:=degOver_pos ht hg
   omega
  rw [hT] at h0
  dsimp only at h0
  by_cases z:oo=some m
  ·rw [hit_t z] at h0
   rw [hZ,z]
   simp only [olist]
   rw [if_pos h0];simp
  ·rw [hit_f z,hp] at h0
   dsimp only at h0
   unfold hit at h0
   split at h0 <;> omega
theorem Inv.deedPut (I:Inv B σ) {k:Nat} (hp:LS σ m) (hs:LS σ s):Inv (B+1) (σ.putD m s k)∧(σ.putD m s k).zero.length≤σ.zero.length+3∧(σ.putD m s k).roots=σ.roots:=by
 have idle:Inv (B+1) σ∧σ.zero.length≤σ.zero.length+3∧σ.roots=σ.roots:=⟨I.mono (by omega),by omega,rfl⟩
 obtain ⟨h1,h2,h3,h4,h5,h6,h7⟩:=putT_rest (σ:=σ) (s:=s)
 unfold S.putD
 cases htg:(σ.row m).c.val.tgt with
 | none=>exact idle
 | some t =>
  have ht:t∈σ.wk:=I.target hp.1 htg
  dsimp only
  cases hc:(σ.row t).c with
  | s v=>exact idle
  | a xs =>
   dsimp only
   unfold S.putA
   refine I.putGo hs ht (by rw [hc];nofun) (c':= .a (xs ++ [σ.last+1])) nofun none (λ n=> ?_) (λ n=> ?_) ?_ ?_ rfl rfl rfl (λ x=> ?_) nofun rfl nofun
   ·show ((σ.putT s).setC t _).th n=_
    rw [setC_th];simp [hit]
   ·rfl
   ·show (σ.putT s).zero=_
    rw [h6];simp [olist]
   ·exact ⟨rfl,Nat.le_refl _,rfl,rfl,rfl,rfl,rfl⟩
   ·rw [hc]
    show (xs ++ [σ.last+1]).count x+_=xs.count x+_
    rw [count_snoc];simp
  | h es =>
   dsimp only
   unfold S.putH
   have hko:=I.ko t ht _ hc
   cases hk:aget (keyOf k) es with
   | none =>
    dsimp only
    have hput:=aput_none (v:=σ.last+1) hk
    rw [hput]
    refine I.putGo hs ht (by rw [hc];nofun) (c':= .h (es ++ [(keyOf k,σ.last+1)])) nofun none (λ n=> ?_) (λ n=> ?_) ?_ ?_ rfl rfl rfl (λ x=> ?_) nofun rfl (λ es' h=> ?_)
    ·show ((σ.putT s).setC t _).th n=_
     rw [setC_th];simp [hit]
    ·rfl
    ·show (σ.putT s).zero=_
     rw [h6];simp [olist]
    ·exact ⟨rfl,Nat.le_refl _,rfl,rfl,rfl,rfl,rfl⟩
    ·rw [hc]
     show ((es ++ [(keyOf k,σ.last+1)]).map (·.2)).count x+_=(es.map (·.2)).count x+_
     rw [List.map_append]
     show (es.map (·.2) ++ [σ.last+1]).count x+_=_
     rw [count_snoc];simp
    ·cases h
     rw [List.map_append,List.nodup_append]
     exact ⟨hko,by simp,λ a ha b hb q=>aget_none hk (by simp at hb;rw [← hb,← q];exact ha)⟩
   | some o =>
    dsimp only
    have hput:=aput_some (v:=σ.last+1) hko hk
    rw [hput]
    refine I.putGo hs ht (by rw [hc];nofun) (c':= .h (es.map λ e=>(e.1,if e.1=keyOf k then σ.last+1 else e.2))) nofun (some o) (λ n=> ?_) (λ n=> ?_) ?_ ?_ ?_ ?_ ?_ (λ x=> ?_) (λ o' h=> ?_) rfl (λ es' h=> ?_)
    ·show (((σ.putT s).setC t _).letGo o).th n=_
     rw [letGo_eq]
     dsimp only
     rw [setC_th]
     by_cases q:n=o
     ·subst q;simp [hit]
     ·have: ¬ o=n:=λ z=>q z.symm
      simp [hit,q,this]
    ·unfold S.setRC S.setRow
     rw [letGo_row];rfl
    ·show (((σ.putT s).setC t _).letGo o).zero=_
     rw [letGo_eq]
     dsimp only
     rw [setC_th]
     show (σ.putT s).zero ++ _=_
     rw [h6]
     rfl
    ·rw [letGo_eq];exact ⟨rfl,Nat.le_refl _,rfl,rfl,rfl,rfl,rfl⟩
    ·rw [letGo_eq];rfl
    ·rw [letGo_eq];rfl
    ·rw [letGo_eq];rfl
    ·rw [hc]
     show ((es.map λ e=>(e.1,if e.1=keyOf k then σ.last+1 else e.2)).map (·.2)).count x+_=(es.map (·.2)).count x+_
     rw [← hput]
     have:=aput_count (v:=σ.last+1) (x:=x) hk
     simp only [Option.some.injEq]
     rw [this]
     congr 1
     by_cases q:σ.last+1=x
     ·simp [q]
     ·have: ¬ x=σ.last+1:=λ z=>q z.symm
      simp [q,this]
    ·cases h
     rw [hc];exact aget_snd hk
    ·cases h
     rw [List.map_map]
     exact hko
theorem Inv.deed (I:Inv B σ) (h:DeedOf σ τ):Inv (B+1) τ∧τ.zero.length≤σ.zero.length+3∧τ.roots=σ.roots:=by
 cases h with
 | new hp hw=>exact I.deedNew hw hp
 | @copy place source hp hs =>
  obtain ⟨b1,v,b2⟩:=hs
  have hth:=(I.cc source b1).trans b2
  have hv:(σ.row source).c.val=v:=by rw [b2];rfl
  have hv':(σ.th source).c.val=v:=by rw [hth];rfl
  show Inv (B+1) (σ.copyD place source)∧_
  unfold S.copyD
  rw [hv,hv']
  exact I.deedJ hp λ m hm=>I.target b1 (by rw [hv];exact hm)
 | @set place v hp hv =>
  have:v.strong=v:=by cases v <;> first | rfl | cases hv
  have:=I.deedJ (pv:=v) hp (λ m hm=>by rw [hv] at hm;cases hm)
  unfold S.jstore at this
  rw [‹v.strong=v›] at this
  exact this
 | weak hp=>exact I.deedWeak hp
 | put hp hs=>exact I.deedPut hp hs
 | taken hp=>exact I.deedTaken hp
 | nop=>exact ⟨I.mono (by omega),by omega,rfl⟩
end
structure RSame (σ τ:S):Prop where
 last:τ.last=σ.last
 real:τ.real=σ.real
 roots:τ.roots=σ.roots
 wk:τ.wk=σ.wk
 row:τ.row=σ.row
 lastRow:τ.lastRow=σ.lastRow
 log:τ.log=σ.log
 lkW:τ.lkW=σ.lkW
 lkR:τ.lkR=σ.lkR
 lkT:τ.lkT=σ.lkT
theorem RSame.refl {σ:S}:RSame σ σ:=⟨rfl,rfl,rfl,rfl,rfl,rfl,rfl,rfl,rfl,rfl⟩
theorem RSame.trans {a b c:S} (h:RSame a b) (h':RSame b c):RSame a c:=⟨h'.1.trans h.1,h'.2.trans h.2,h'.3.trans h.3,h'.4.trans h.4,h'.5.trans h.5,h'.6.trans h.6,h'.7.trans h.7,h'.8.trans h.8,h'.9.trans h.9,h'.10.trans h.10⟩
section
variable {D D':List Nat} {B B':Nat} {σ τ:S} {n m s t x:Nat} {pv old:PV}
theorem RSame.letGo:RSame σ (σ.letGo n):=by rw [letGo_eq];exact ⟨rfl,rfl,rfl,rfl,rfl,rfl,rfl,rfl,rfl,rfl⟩
theorem RSame.putOff:RSame σ (σ.putOff s old):=by rw [putOff_eq];exact ⟨rfl,rfl,rfl,rfl,rfl,rfl,rfl,rfl,rfl,rfl⟩
theorem RSame.store:RSame σ (σ.store s pv):=by
 unfold S.store
 refine RSame.trans ?_ RSame.putOff
 rw [take_eq];exact ⟨rfl,rfl,rfl,rfl,rfl,rfl,rfl,rfl,rfl,rfl⟩
structure LetAll (ms:List Nat) (σ τ:S):Prop where
 th: ∀ x,τ.th x= {σ.th x with cnt:=(σ.th x).cnt - ms.count x}
 same:RSame σ τ
 heard:τ.heard=σ.heard
 z1: ∀ x∈σ.zero,x∈τ.zero
 z2: ∀ x∈τ.zero,x∈σ.zero∨x∈ms
 z3: ∀ x∈ms,(τ.th x).cnt=0→x∈τ.zero
theorem letAll: ∀ (ms:List Nat) (σ:S),LetAll ms σ (ms.foldl S.letGo σ)
 | [],σ=>⟨λ x=>by simp,RSame.refl,rfl,λ x h=>h,λ x h=> .inl h,λ x h=>by simp at h⟩
 | a :: ms,σ=>by
  have h1:=letAll ms (σ.letGo a)
  have e:=letGo_eq (σ:=σ) (m:=a)
  have hz: ∀ x,x∈(σ.letGo a).zero↔x∈σ.zero∨(x=a∧(σ.th a).cnt - 1=0):=λ x=>by
   rw [e]
   simp only [List.mem_append]
   split <;> simp_all
  have hth: ∀ x,((a :: ms).foldl S.letGo σ).th x= {σ.th x with cnt:=(σ.th x).cnt - (a :: ms).count x}:=λ x=>by
   rw [List.foldl_cons,h1.th,e]
   dsimp only
   rw [List.count_cons]
   unfold hit
   by_cases q:x=a
   ·subst q;simp;omega
   ·have: ¬ a=x:=λ z=>q z.symm
    simp [q,this]
  refine ⟨hth,RSame.letGo.trans h1.same,?_,λ x hx=> ?_,λ x hx=> ?_,λ x hx h0=> ?_⟩
  ·rw [List.foldl_cons,h1.heard,e]
  ·exact h1.z1 x ((hz x).mpr (.inl hx))
  ·rcases h1.z2 x hx with h | h
   ·rcases (hz x).mp h with h | h
    ·exact .inl h
    ·exact .inr (by simp [h.1])
   ·exact .inr (List.mem_cons_of_mem _ h)
  ·by_cases q:x∈ms
   ·exact h1.z3 x q h0
   ·have hxa:x=a:=by
     rcases List.mem_cons.mp hx with h | h
     ·exact h
     ·exact absurd h q
    subst hxa
    refine h1.z1 x ((hz x).mpr (.inr ⟨rfl,?_⟩))
    rw [hth] at h0
    dsimp only at h0
    rw [List.count_cons,List.count_eq_zero.mpr q] at h0
    simpa using h0
structure Freed (σ τ:S) (n:Nat):Prop where
 c: ∀ x,x≠n→(τ.th x).c=if x∈(σ.th n).weak then .s .none else (σ.th x).c
 cnt: ∀ x,(τ.th x).cnt=(σ.th x).cnt - (goals (σ.th n).c).count x
 weak: ∀ x,x≠n→(τ.th x).weak=if (σ.th n).c= .s (.weak x) then (σ.th x).weak.filter (· ≠n) else (σ.th x).weak
 bl: ∀ x,(τ.th x).bl=(σ.th x).bl
 ds: ∀ x,(τ.th x).ds=(σ.th x).ds
 fr: ∀ x,(τ.th x).fr=if x=n then true else (σ.th x).fr
 same:RSame σ τ
 heard:τ.heard=σ.heard
 z1: ∀ x∈σ.zero,x∈τ.zero
 z2: ∀ x∈τ.zero,x∈σ.zero∨x∈goals (σ.th n).c
 z3: ∀ x∈goals (σ.th n).c,(τ.th x).cnt=0→x∈τ.zero
theorem free3_th:(σ.free3 n).th x= {σ.th x with c:=if x∈(σ.th n).weak then .s .none else (σ.th x).c,weak:=if x=n then [] else (σ.th x).weak,fr:=if x=n then true else (σ.th x).fr}:=by
 unfold S.free3 S.setWeak
 rw [th_setTh]
 have e1: ∀ y,((σ.freed n).clearVals (σ.th n).weak).th y= {σ.th y with c:=if y∈(σ.th n).weak then .s .none else (σ.th y).c,fr:=if y=n then true else (σ.th y).fr}:=λ y=>by
  unfold S.clearVals S.freed
  dsimp only
  rw [th_setTh]
  by_cases q:y=n
  ·subst q;split <;> simp
  ·split <;> simp [q]
 rw [e1,e1]
 by_cases q:x=n
 ·subst q;simp
 ·simp [q]
theorem setTh_id {t':Th} (h:σ.th n=t'):σ.setTh n t'=σ:=by rw [← h];exact setTh_self
theorem freed_ok (hws: ∀ s∈(σ.th n).weak,∃ v,(σ.th s).c= .s v) (hself:n∈(σ.th n).weak→(σ.th n).c= .s (.weak n)):Freed σ (σ.free n) n:=by
 have f3: ∀ x,(σ.free3 n).th x=_:=λ x=>free3_th (σ:=σ) (n:=n) (x:=x)
 have s3:RSame σ (σ.free3 n)∧(σ.free3 n).heard=σ.heard∧(σ.free3 n).zero=σ.zero:=⟨⟨rfl,rfl,rfl,rfl,rfl,rfl,rfl,rfl,rfl,rfl⟩,rfl,rfl⟩
 obtain ⟨s31,s32,s33⟩:=s3
 have nonS: ∀ c,(σ.th n).c=c→(∀ v,c≠ .s v)→(members c=goals c)→Freed σ ((members c).foldl S.letGo ((σ.free3 n).empty n)) n:=by
  intro c hc hns hmg
  have hnw:n∉(σ.th n).weak:=λ h=>by
   obtain ⟨v,hv⟩:=hws n h
   exact hns v (by rw [← hc];exact hv)
  have L:=letAll (members c) ((σ.free3 n).empty n)
  have he: ∀ x,((σ.free3 n).empty n).th x=if x=n then {(σ.free3 n).th n with c:=((σ.free3 n).th n).c.emptied} else (σ.free3 n).th x:=λ x=>rfl
  have hfield: ∀ x,(((σ.free3 n).empty n).th x).cnt=(σ.th x).cnt∧(((σ.free3 n).empty n).th x).bl=(σ.th x).bl∧(((σ.free3 n).empty n).th x).ds=(σ.th x).ds∧(((σ.free3 n).empty n).th x).fr=(if x=n then true else (σ.th x).fr):=λ x=>by
   rw [he]
   by_cases q:x=n
   ·subst q;rw [if_pos rfl,f3];exact ⟨rfl,rfl,rfl,by simp⟩
   ·rw [if_neg q,f3];exact ⟨rfl,rfl,rfl,by simp [q]⟩
  rw [hmg] at L ⊢
  refine ⟨λ x hx=> ?_,λ x=> ?_,λ x hx=> ?_,λ x=> ?_,λ x=> ?_,λ x=> ?_,?_,L.heard,L.z1,λ x hx=>by rw [hc];exact L.z2 x hx,λ x hx h0=>L.z3 x (by rw [← hc];exact hx) h0⟩
  ·rw [L.th,he,if_neg hx,f3]
  ·rw [L.th,hc];dsimp only;rw [(hfield x).1]
  ·rw [L.th,he,if_neg hx,f3]
   dsimp only
   rw [if_neg hx,if_neg (by rw [hc];exact hns _)]
  ·rw [L.th];exact (hfield x).2.1
  ·rw [L.th];exact (hfield x).2.2.1
  ·rw [L.th];exact (hfield x).2.2.2
  ·have s5:RSame (σ.free3 n) ((σ.free3 n).empty n):=⟨rfl,rfl,rfl,rfl,rfl,rfl,rfl,rfl,rfl,rfl⟩
   exact (s31.trans s5).trans L.same
 cases hc:(σ.th n).c with
 | a xs =>
  have hnw:n∉(σ.th n).weak:=λ h=>by obtain ⟨v,hv⟩:=hws n h;rw [hc] at hv;cases hv
  have h3:((σ.free3 n).th n).c= .a xs:=by rw [f3];dsimp only;rw [if_neg hnw,hc]
  have h4:σ.free4 n=σ.free3 n:=by unfold S.free4;rw [h3]
  unfold S.free
  rw [h4,h3]
  exact nonS _ hc nofun rfl
 | h es =>
  have hnw:n∉(σ.th n).weak:=λ h=>by obtain ⟨v,hv⟩:=hws n h;rw [hc] at hv;cases hv
  have h3:((σ.free3 n).th n).c= .h es:=by rw [f3];dsimp only;rw [if_neg hnw,hc]
  have h4:σ.free4 n=σ.free3 n:=by unfold S.free4;rw [h3]
  unfold S.free
  rw [h4,h3]
  exact nonS _ hc nofun rfl
 | s old =>
  have h3: ∃ o',((σ.free3 n).th n).c= .s o'∧(o'=old∨(o'= .none∧old= .weak n)):=by
   rw [f3]
   dsimp only
   by_cases q:n∈(σ.th n).weak
   ·rw [if_pos q]
    exact ⟨_,rfl, .inr ⟨rfl,by have:=hself q;rw [hc] at this;injection this⟩⟩
   ·rw [if_neg q,hc];exact ⟨_,rfl, .inl rfl⟩
  obtain ⟨o',h3,ho⟩:=h3
  have h4:σ.free4 n=((σ.free3 n).setVal n .none).putOff n o':=by unfold S.free4;rw [h3]
  have hv: ∀ x,((σ.free3 n).setVal n .none).th x=if x=n then {(σ.free3 n).th n with c:= .s .none} else (σ.free3 n).th x:=λ x=>rfl
  have h4c:((σ.free4 n).th n).c= .s .none:=by
   rw [h4,putOff_c,hv,if_pos rfl]
  have h5:σ.free n=((σ.free3 n).setVal n .none).putOff n o':=by
   unfold S.free S.empty
   rw [h4c]
   show (σ.free4 n).setTh n {(σ.free4 n).th n with c:= .s .none}=_
   rw [setTh_id (by
    show (σ.free4 n).th n= {(σ.free4 n).th n with c:= .s .none}
    rw [← h4c]),h4]
  have hcnt0: ∀ x,(((σ.free3 n).setVal n .none).th x).cnt=(σ.th x).cnt:=λ x=>by
   rw [hv];split
   ·subst_vars;rw [f3]
   ·rw [f3]
  have hgo: ∀ x,(goals (.s old)).count x=if o'= .ref x then 1 else 0:=λ x=>by
   rw [goals_s]
   rcases ho with q | ⟨q,q'⟩
   ·rw [q]
   ·rw [q,q'];simp
  have href: ∀ x,x∈goals (.s old)↔o'= .ref x:=λ x=>by
   have:=hgo x
   constructor
   ·intro h
    have h1:=List.count_pos_iff.mpr h
    by_cases z:o'= .ref x
    ·exact z
    ·rw [if_neg z] at this;omega
   ·intro z
    rw [if_pos z] at this
    exact List.count_pos_iff.mp (by omega)
  have hz:(σ.free n).zero=σ.zero ++ zlist (λ m=>(σ.th m).cnt) o':=by
   rw [h5,putOff_eq]
   show (σ.free3 n).zero ++ _=_
   rw [s33]
   congr 1
   cases o' with
   | ref m =>
    show (if (((σ.free3 n).setVal n .none).th m).cnt - 1=0 then [m] else [])=(if (σ.th m).cnt - 1=0 then [m] else [])
    simp only [hcnt0 m]
   | _=>rfl
  have hth: ∀ x,(σ.free n).th x= {((σ.free3 n).setVal n .none).th x with cnt:=(((σ.free3 n).setVal n .none).th x).cnt - hit (o'= .ref x),weak:=if o'= .weak x then (((σ.free3 n).setVal n .none).th x).weak.filter (· ≠n) else (((σ.free3 n).setVal n .none).th x).weak}:=λ x=>by rw [h5,putOff_eq]
  have hfr:RSame σ (σ.free n)∧(σ.free n).heard=σ.heard:=by
   rw [h5]
   have s5:RSame (σ.free3 n) ((σ.free3 n).setVal n .none):=⟨rfl,rfl,rfl,rfl,rfl,rfl,rfl,rfl,rfl,rfl⟩
   refine ⟨(s31.trans s5).trans RSame.putOff,?_⟩
   rw [putOff_eq];exact s32
  have hc':(σ.th n).c= .s old:=hc
  refine ⟨λ x hx=> ?_,λ x=> ?_,λ x hx=> ?_,λ x=> ?_,λ x=> ?_,λ x=> ?_,hfr.1,hfr.2,λ x hx=>by rw [hz];exact List.mem_append_left _ hx,λ x hx=> ?_,λ x hx h0=> ?_⟩
  ·rw [hth];dsimp only;rw [hv,if_neg hx,f3]
  ·rw [hth]
   dsimp only
   rw [hcnt0,hc',hgo]
   unfold hit
   split <;> simp
  ·rw [hth]
   dsimp only
   rw [hv,if_neg hx,f3,hc']
   dsimp only
   rw [if_neg hx]
   rcases ho with q | ⟨q,q'⟩
   ·rw [q]
    by_cases z:old= .weak x
    ·rw [if_pos z,if_pos (by rw [z])]
    ·rw [if_neg z,if_neg (λ h=>z (by injection h))]
   ·rw [q,q',if_neg nofun,if_neg (λ h=>hx (by injection h with h;injection h with h;exact h.symm))]
  ·rw [hth];dsimp only;rw [hv];split
   ·subst_vars;rw [f3]
   ·rw [f3]
  ·rw [hth];dsimp only;rw [hv];split
   ·subst_vars;rw [f3]
   ·rw [f3]
  ·rw [hth];dsimp only;rw [hv]
   by_cases q:x=n
   ·subst q;rw [if_pos rfl,if_pos rfl,f3];dsimp only;rw [if_pos rfl]
   ·rw [if_neg q,if_neg q,f3];dsimp only;rw [if_neg q]
  ·rw [hz] at hx
   rcases List.mem_append.mp hx with h | h
   ·exact .inl h
   ·right
    rw [hc',href]
    cases o' with
    | ref m =>
     simp only [zlist] at h
     split at h
     ·rw [List.mem_singleton.mp h]
     ·simp at h
    | _=>simp [zlist] at h
  ·rw [hc',href] at hx
   rw [hth] at h0
   dsimp only at h0
   rw [hcnt0,hit_t hx] at h0
   rw [hz,hx]
   refine List.mem_append_right _ ?_
   show x∈(if (σ.th x).cnt - 1=0 then [x] else [])
   rw [if_pos h0];simp
end
section
variable {D D' ns:List Nat} {B B':Nat} {σ τ:S} {n m s t x a:Nat} {pv old:PV}
theorem free4_c (ok:FreeOk σ n):((σ.free4 n).th n).c=(σ.th n).c∨((∃ v,(σ.th n).c= .s v)∧((σ.free4 n).th n).c= .s .none):=by
 have h3:=free3_c ok
 unfold S.free4
 split
 ·rename_i old ho
  right
  refine ⟨?_,by rw [putOff_c];unfold S.setVal;rw [setTh_same]⟩
  rcases h3 with q | q
  ·exact ⟨old,by rw [← q];exact ho⟩
  ·exact q.1
 ·exact h3
theorem free_zlen (ok:FreeOk σ n):(σ.free n).zero.length≤σ.zero.length+1+(members (σ.th n).c).length:=by
 have h1:=free4_zero (σ:=σ) (n:=n)
 have h2:=foldLet_zero (members ((σ.free4 n).th n).c) ((σ.free4 n).empty n)
 have h3:((σ.free4 n).empty n).zero=(σ.free4 n).zero:=rfl
 rw [h3] at h2
 have h4:(members ((σ.free4 n).th n).c).length≤(members (σ.th n).c).length:=by
  rcases free4_c ok with q | ⟨_,q⟩
  ·rw [q];exact Nat.le_refl _
  ·rw [q];simp [members]
 show ((members ((σ.free4 n).th n).c).foldl S.letGo ((σ.free4 n).empty n)).zero.length≤_
 omega
theorem InvD.freeOk (I:InvD D B σ) (ha:a∈σ.wk) (hb:B≤1000) (hz:σ.zero.length≤100000):FreeOk σ a:=by
 have hc:=I.cc a ha
 refine ⟨λ s hs=> ?_,?_,I.rb a (I.sub a ha),by rw [hc];exact I.ko a ha,I.lt,λ m hm=> ?_⟩
 ·obtain ⟨h1,h2⟩:=(I.we a ha s).mp hs
  exact ⟨_,(I.cc s h1).trans h2⟩
 ·have:=I.ml ha
  rw [hc];unfold big;omega
 ·have hm':m∈σ.wk:=I.tg a ha m (.inr (by rw [← hc];exact hm))
  have:=I.wkl hm'
  exact ⟨by unfold big;omega,I.rb m (I.sub m hm')⟩
theorem cleanRow_c {row:Nat→Row} {ds:List Nat}:(cleanRow row n ds m).c=(row m).c∧ ¬ (m∈ds∧(row m).c= .s (.weak n))∨(cleanRow row n ds m).c= .s .none∧m∈ds∧(row m).c= .s (.weak n):=by
 unfold cleanRow
 by_cases q:m∈ds∧(row m).c= .s (.weak n)
 ·rw [if_pos q];exact .inr ⟨rfl,q⟩
 ·rw [if_neg q];exact .inl ⟨rfl,q⟩
theorem cleanRow_goals {row:Nat→Row} {ds:List Nat}:goals (cleanRow row n ds m).c=goals (row m).c:=by
 rcases cleanRow_c (row:=row) (n:=n) (m:=m) (ds:=ds) with h | h
 ·rw [h.1]
 ·rw [h.1,h.2.2];rfl
theorem cleanRow_bl {row:Nat→Row} {ds:List Nat}:(cleanRow row n ds m).bl=(row m).bl:=by unfold cleanRow;split <;> rfl
theorem cleanRow_ds {row:Nat→Row} {ds:List Nat}:(cleanRow row n ds m).ds=(row m).ds:=by unfold cleanRow;split <;> rfl
theorem InvD.goes (I:InvD (a :: ns) B σ) (ha:a∈σ.wk) (h0:σ.deg a=0):InvD ns B ((σ.free a).wpop a)∧ ∀ n,((σ.free a).wpop a).deg n+(goals (σ.row a).c).count n=σ.deg n:=by
 have hac:=I.cc a ha
 obtain ⟨hnr,hng⟩:=I.deg_zero h0
 have F:Freed σ (σ.free a) a:=freed_ok (λ s hs=>by
  obtain ⟨h1,h2⟩:=(I.we a ha s).mp hs
  exact ⟨_,(I.cc s h1).trans h2⟩) (λ h=>by rw [hac];exact ((I.we a ha a).mp h).2)
 have hw:((σ.free a).wpop a).wk=σ.wk.erase a:=by show (σ.free a).wk.erase a=_;rw [F.same.wk]
 have hrow:((σ.free a).wpop a).row=cleanRow σ.row a (σ.wk.erase a):=by show cleanRow (σ.free a).row a ((σ.free a).wk.erase a)=_;rw [F.same.wk,F.same.row]
 have hth:((σ.free a).wpop a).th=(σ.free a).th:=rfl
 have hmem: ∀ n,n∈σ.wk.erase a↔n∈σ.wk∧n≠a:=λ n=>by
  rw [I.nd.mem_erase_iff];exact ⟨λ h=>⟨h.2,h.1⟩,λ h=>⟨h.2,h.1⟩⟩
 have hdeg: ∀ n,((σ.free a).wpop a).deg n+(goals (σ.row a).c).count n=σ.deg n:=λ n=>by
  unfold S.deg
  rw [hw,hrow]
  have e1:degOver (cleanRow σ.row a (σ.wk.erase a)) (σ.wk.erase a) n=degOver σ.row (σ.wk.erase a) n:=degOver_congr λ m hm=>by rw [cleanRow_goals]
  have e2:=degOver_erase (row:=σ.row) (n:=n) ha
  have e3:((σ.free a).wpop a).roots=σ.roots:=F.same.roots
  rw [e1,e3]
  omega
 refine ⟨⟨?_,?_,?_,?_,?_,?_,?_,?_,?_,?_,?_,?_,?_,?_,?_,?_,?_,?_,?_,?_,?_,?_,?_,?_,?_⟩,hdeg⟩
 ·show (σ.free a).lkW=false;rw [F.same.lkW];exact I.lw
 ·show (σ.free a).lkR=false;rw [F.same.lkR];exact I.lr
 ·intro n;show (σ.free a).lkT n=false;rw [F.same.lkT];exact I.lt n
 ·rw [hw];exact I.nd.erase a
 ·intro n hn
  rw [hw] at hn
  show n∈(σ.free a).real
  rw [F.same.real];exact I.sub n ((hmem n).mp hn).1
 ·intro n hn
  show n≤(σ.free a).last
  rw [F.same.last]
  exact I.rb n (by rw [← F.same.real];exact hn)
 ·show (σ.free a).lastRow≤(σ.free a).last
  rw [F.same.lastRow,F.same.last];exact I.lb
 ·intro n hn
  have hn':n∈σ.real:=by rw [← F.same.real];exact hn
  rw [hth,F.fr,hw,I.fr n hn']
  by_cases q:n=a
  ·subst q;rw [if_pos rfl];simp [hmem]
  ·rw [if_neg q];simp [hmem,q]
 ·intro n hn
  rw [hw] at hn
  obtain ⟨h1,h2⟩:=(hmem n).mp hn
  rw [hth,F.c n h2,hrow]
  unfold cleanRow
  by_cases q:(σ.row n).c= .s (.weak a)
  ·rw [if_pos ((I.we a ha n).mpr ⟨h1,q⟩),if_pos ⟨hn,q⟩]
  ·rw [if_neg (λ h=>q ((I.we a ha n).mp h).2),if_neg (λ h=>q h.2)]
   exact I.cc n h1
 ·intro n hn
  rw [hw] at hn
  rw [hth,F.bl,hrow,cleanRow_bl];exact I.bl n ((hmem n).mp hn).1
 ·intro n hn
  rw [hw] at hn
  rw [hth,F.ds,hrow,cleanRow_ds];exact I.ds n ((hmem n).mp hn).1
 ·intro n hn
  rw [hw] at hn
  rw [hth,F.cnt,hac,I.ct n ((hmem n).mp hn).1]
  have:=hdeg n
  omega
 ·intro n hn m hm
  rw [hw] at hn ⊢
  obtain ⟨h1,h2⟩:=(hmem n).mp hn
  rw [hrow] at hm
  rw [cleanRow_goals] at hm
  rcases hm with h | h
  ·exact (hmem m).mpr ⟨I.tg n h1 m (.inl h),λ q=>hng n h1 (by rw [← q];exact h)⟩
  ·rcases cleanRow_c (row:=σ.row) (n:=a) (m:=n) (ds:=σ.wk.erase a) with z | z
   ·rw [z.1] at h
    exact (hmem m).mpr ⟨I.tg n h1 m (.inr h),λ q=>z.2 ⟨hn,by rw [← q];exact h⟩⟩
   ·rw [z.1] at h;cases h
 ·intro n hn m hm
  rw [hw] at hn
  obtain ⟨h1,h2⟩:=(hmem n).mp hn
  rw [hrow] at hm ⊢
  have hm':m∈members (σ.row n).c:=by
   rcases cleanRow_c (row:=σ.row) (n:=a) (m:=n) (ds:=σ.wk.erase a) with z | z
   ·rw [z.1] at hm;exact hm
   ·rw [z.1] at hm;simp [members] at hm
  obtain ⟨v,hv⟩:=I.ms n h1 m hm'
  rcases cleanRow_c (row:=σ.row) (n:=a) (m:=m) (ds:=σ.wk.erase a) with z | z
  ·exact ⟨v,by rw [z.1];exact hv⟩
  ·exact ⟨_,z.1⟩
 ·intro n hn
  rw [hw] at hn
  rw [hrow,cleanRow_goals];exact I.gn n ((hmem n).mp hn).1
 ·intro n hn
  rw [hw] at hn
  rw [hrow]
  rcases cleanRow_c (row:=σ.row) (n:=a) (m:=n) (ds:=σ.wk.erase a) with z | z
  ·rw [z.1];exact I.ko n ((hmem n).mp hn).1
  ·rw [z.1];exact nofun
 ·intro t ht s
  rw [hw] at ht ⊢
  obtain ⟨t1,t2⟩:=(hmem t).mp ht
  rw [hth,F.weak t t2,hrow,hac]
  have hwe:=I.we t t1 s
  constructor
  ·intro h
   have hs:s∈(σ.th t).weak∧((σ.row a).c= .s (.weak t)→s≠a):=by
    split at h
    ·rw [List.mem_filter] at h
     exact ⟨h.1,λ _=>by simpa using h.2⟩
    ·rename_i q
     exact ⟨h,λ z=>absurd z q⟩
   obtain ⟨h1,h2⟩:=hwe.mp hs.1
   have hsa:s≠a:=λ q=>hs.2 (by rw [← q];exact h2) q
   refine ⟨(hmem s).mpr ⟨h1,hsa⟩,?_⟩
   rcases cleanRow_c (row:=σ.row) (n:=a) (m:=s) (ds:=σ.wk.erase a) with z | z
   ·rw [z.1];exact h2
   ·rw [z.2.2] at h2
    injection h2 with h2
    injection h2 with h2
    exact absurd h2.symm t2
  ·rintro ⟨h1,h2⟩
   obtain ⟨h3,h4⟩:=(hmem s).mp h1
   have h5:s∈(σ.th t).weak:=by
    rcases cleanRow_c (row:=σ.row) (n:=a) (m:=s) (ds:=σ.wk.erase a) with z | z
    ·rw [z.1] at h2;exact hwe.mpr ⟨h3,h2⟩
    ·rw [z.1] at h2;cases h2
   split
   ·rw [List.mem_filter];exact ⟨h5,by simpa using h4⟩
   ·exact h5
 ·intro t ht
  rw [hw] at ht
  obtain ⟨t1,t2⟩:=(hmem t).mp ht
  rw [hth,F.weak t t2]
  split
  ·exact (I.wn t t1).filter _
  ·exact I.wn t t1
 ·intro r hr
  have hr':r∈σ.roots:=by rw [← F.same.roots];exact hr
  obtain ⟨h1,v,h2⟩:=I.ro r hr'
  refine ⟨by rw [hw];exact (hmem r).mpr ⟨h1,λ q=>hnr (by rw [← q];exact hr')⟩,?_⟩
  rw [hrow]
  rcases cleanRow_c (row:=σ.row) (n:=a) (m:=r) (ds:=σ.wk.erase a) with z | z
  ·exact ⟨v,by rw [z.1];exact h2⟩
  ·exact ⟨_,z.1⟩
 ·intro n hn hd
  rw [hw] at hn
  obtain ⟨h1,h2⟩:=(hmem n).mp hn
  have hdn:=hdeg n
  by_cases q:n∈goals (σ.row a).c
  ·left
   refine F.z3 n (by rw [hac];exact q) ?_
   rw [F.cnt,hac,I.ct n h1]
   omega
  ·rw [List.count_eq_zero.mpr q] at hdn
   rcases I.zm n h1 (by omega) with h | h
   ·exact .inl (F.z1 n h)
   ·rcases List.mem_cons.mp h with h | h
    ·exact absurd h h2
    ·exact .inr h
 ·intro n hn
  show n∈(σ.free a).real
  rw [F.same.real]
  rcases F.z2 n hn with h | h
  ·exact I.zs n h
  ·rw [hac] at h;exact I.sub n (I.tg a ha n (.inl h))
 ·show (σ.free a).heard=(σ.free a).log
  rw [F.heard,F.same.log];exact I.hl
 ·show (σ.free a).log.length≤((σ.free a).real.filter λ n=>((σ.free a).th n).ds).length
  rw [F.same.log,F.same.real]
  have:(σ.real.filter λ n=>((σ.free a).th n).ds)=σ.real.filter λ n=>(σ.th n).ds:=List.filter_congr λ n _=>F.ds n
  rw [this];exact I.ll
 ·show (σ.free a).real.length≤B
  rw [F.same.real];exact I.rl
 ·show (σ.free a).roots.length≤4
  rw [F.same.roots];exact I.r4
end
section
variable {D D' ns:List Nat} {B B':Nat} {σ τ j:S} {n m s t x a d q:Nat} {pv old:PV}
theorem filter_more {l:List Nat} {p p':Nat→Bool} (h: ∀ x∈l,p x=true→p' x=true) (hd:d∈l) (h1:p d=false) (h2:p' d=true):(l.filter p).length+1≤(l.filter p').length:=by
 have mono: ∀ l:List Nat,(∀ x∈l,p x=true→p' x=true)→(l.filter p).length≤(l.filter p').length:=by
  intro l
  induction l with
  | nil=>intro _;simp
  | cons a l ih =>
   intro h
   have:=ih λ x hx=>h x (List.mem_cons_of_mem _ hx)
   have ha:=h a (by simp)
   simp only [List.filter_cons]
   cases hp:p a with
   | true=>rw [ha hp];simpa using this
   | false=>simp only [Bool.false_eq_true,if_false];split <;> simp <;> omega
 induction l with
 | nil=>simp at hd
 | cons a l ih =>
  have hm:=mono l λ x hx=>h x (List.mem_cons_of_mem _ hx)
  simp only [List.filter_cons]
  rcases List.mem_cons.mp hd with rfl | hd
  ·rw [h1,h2];simp;omega
  ·have:=ih (λ x hx=>h x (List.mem_cons_of_mem _ hx)) hd
   have ha:=h a (by simp)
   cases hp:p a with
   | true=>rw [ha hp];simpa using this
   | false=>simp only [Bool.false_eq_true,if_false];split <;> simp <;> omega
def S.mark (j:S) (d:Nat):S:=((j.marked d).hears d).wmarked d
theorem InvD.mark (I:InvD D B j) (hd:d∈j.wk) (hds:(j.row d).ds=false):InvD D B (j.mark d)∧(∀ n,(j.mark d).deg n=j.deg n):=by
 have hth: ∀ m,(j.mark d).th m= {j.th m with ds:=if m=d then true else (j.th m).ds}:=λ m=>by
  show (j.marked d).th m=_
  unfold S.marked
  rw [th_setTh]
  by_cases q:m=d
  ·subst q;simp
  ·simp [q]
 have hrow: ∀ m,(j.mark d).row m= {j.row m with ds:=if m=d then true else (j.row m).ds}:=λ m=>by
  show (if m=d then {j.row d with ds:=true} else j.row m)=_
  by_cases q:m=d
  ·subst q;simp
  ·simp [q]
 have hdeg: ∀ n,(j.mark d).deg n=j.deg n:=λ n=>by
  unfold S.deg
  show j.roots.count n+degOver (j.mark d).row j.wk n=_
  rw [degOver_congr (row:=j.row) λ m _=>by rw [hrow]]
 have hc: ∀ m,((j.mark d).row m).c=(j.row m).c:=λ m=>by rw [hrow]
 refine ⟨⟨I.lw,I.lr,I.lt,I.nd,I.sub,I.rb,I.lb,λ n hn=>by rw [hth];exact I.fr n hn,λ n hn=>by rw [hth,hc];exact I.cc n hn,λ n hn=>by rw [hth,hrow];exact I.bl n hn,λ n hn=>by rw [hth,hrow];dsimp only;rw [I.ds n hn],λ n hn=>by rw [hth,hdeg];exact I.ct n hn,λ n hn m hm=>by rw [hc] at hm;exact I.tg n hn m hm,λ n hn m hm=>by rw [hc] at hm;rw [hc];exact I.ms n hn m hm,λ n hn=>by rw [hc];exact I.gn n hn,λ n hn=>by rw [hc];exact I.ko n hn,λ t ht s=>by rw [hth,hc];exact I.we t ht s,λ t ht=>by rw [hth];exact I.wn t ht,λ r hr=>by obtain ⟨h1,h2⟩:=I.ro r hr;exact ⟨h1,by rw [hc];exact h2⟩,λ n hn h0=>by rw [hdeg] at h0;exact I.zm n hn h0,I.zs,?_,?_,I.rl,I.r4⟩,hdeg⟩
 ·show j.heard ++ [d]=j.log ++ [d];rw [I.hl]
 ·show (j.log ++ [d]).length≤(j.real.filter λ n=>((j.mark d).th n).ds).length
  have:=filter_more (l:=j.real) (p:=λ n=>(j.th n).ds) (p':=λ n=>((j.mark d).th n).ds) (d:=d) (λ x hx h=>by rw [hth];dsimp only;split <;> simp_all) (I.sub d hd) (by rw [I.ds d hd];exact hds) (by rw [hth];simp)
  have:=I.ll
  simp only [List.length_append,List.length_singleton]
  omega
theorem finish_eq (hcnt:(σ.th d).cnt=0) (hbl:(σ.th d).bl=true) (hds:(σ.th d).ds=false) (hold:σ.roots≠[]→ ∃ old,(σ.th (σ.roots.getD (d % 4) 0)).c= .s old∧old≠ .ref d) :
  σ.finish q d=if d % 3=q∧σ.roots≠[] then ((σ.marked d).hears d).store (σ.roots.getD (d % 4) 0) (.ref d) else (σ.marked d).hears d:=by
 unfold S.finish
 rw [if_pos ⟨hcnt,hbl,hds⟩]
 have e0:(((σ.marked d).hold d).hears d)=((σ.marked d).hears d).hold d:=rfl
 unfold S.destroy
 rw [e0]
 have er:((σ.marked d).hold d).roots=σ.roots:=rfl
 rw [er]
 by_cases h:d % 3=q∧σ.roots≠[]
 ·rw [if_pos h,if_pos h]
  obtain ⟨old,ho,hne⟩:=hold h.2
  generalize σ.roots.getD (d % 4) 0=r at ho
  have h1:(((σ.marked d).hears d).th r).c= .s old:=by show ((σ.marked d).th r).c=_;rw [marked_c];exact ho
  have h2:((((σ.marked d).hears d).hold d).th r).c= .s old:=by rw [hold_c];exact h1
  generalize (σ.marked d).hears d=A at h1 h2
  dsimp only
  rw [store_eq h2,store_eq h1,setCnt_eq]
  have hA: ∀ n,(A.hold d).th n= {A.th n with cnt:=(A.th n).cnt+hit (n=d)}:=λ n=>by
   unfold S.hold
   rw [setCnt_eq]
   dsimp only
   by_cases z:n=d
   ·subst z;simp [hit]
   ·simp [z,hit]
  have hz:zlist (λ m=>((A.hold d).th m).cnt+hit ((PV.ref d).tgt=some m)) old=zlist (λ m=>(A.th m).cnt+hit ((PV.ref d).tgt=some m)) old:=by
   cases old with
   | ref m =>
    have hmd:m≠d:=λ z=>hne (by rw [z])
    show (if ((A.hold d).th m).cnt+_ - 1=0 then [m] else [])=(if (A.th m).cnt+_ - 1=0 then [m] else [])
    simp only [hA,hit_f hmd,Int.add_zero]
   | _=>rfl
  have hzz:(A.hold d).zero=A.zero:=rfl
  simp only [hz,hzz]
  have: ∀ (f g:Nat→Th),f=g→({A.hold d with th:=f,zero:=A.zero ++ zlist (λ m=>(A.th m).cnt+hit ((PV.ref d).tgt=some m)) old}:S)= {A with th:=g,zero:=A.zero ++ zlist (λ m=>(A.th m).cnt+hit ((PV.ref d).tgt=some m)) old}:=λ f g e=>by rw [e];rfl
  refine this _ _ (funext λ n=> ?_)
  simp only [hA]
  by_cases z:n=d
  ·subst z
   simp [hit,PV.tgt,hne]
   try omega
  ·simp [z,hit]
 ·rw [if_neg h,if_neg h]
  dsimp only
  rw [setCnt_eq]
  generalize (σ.marked d).hears d=A
  have hA: ∀ n,(A.hold d).th n= {A.th n with cnt:=(A.th n).cnt+hit (n=d)}:=λ n=>by
   unfold S.hold
   rw [setCnt_eq]
   dsimp only
   by_cases z:n=d
   ·subst z;simp [hit]
   ·simp [z,hit]
  have: ∀ (f:Nat→Th),f=A.th→({A.hold d with th:=f}:S)=A:=λ f e=>by rw [e];rfl
  refine this _ (funext λ n=> ?_)
  simp only [hA]
  by_cases z:n=d
  ·subst z;simp [hit]
  ·simp [z,hit]
structure Step1 (j j':S) (d:Nat):Prop where
 wk:j'.wk=j.wk
 real:j'.real=j.real
 roots:j'.roots=j.roots
 bl: ∀ m,(j'.row m).bl=(j.row m).bl
 dsn: ∀ m,m≠d→(j'.row m).ds=(j.row m).ds
 ds1:(j.row d).ds=true→(j'.row d).ds=true
 ds2:(j.row d).bl=true→(j'.row d).ds=true
 zl:j'.zero.length≤j.zero.length+1
 dg: ∀ x,x≠d→j'.deg x≤j.deg x
 dd:j'.deg d≠0→(j.row d).ds=false∧(j'.row d).ds=true
 rf: ∀ m,goals (j'.row m).c=goals (j.row m).c∨m∈j.roots
theorem InvD.step1 (I:InvD D B j) (hd:d∈j.wk) (h0:j.deg d=0) (h4:j.roots=[]∨j.roots.length=4):InvD D B ((j.finish q d).wfinish q d)∧Step1 j ((j.finish q d).wfinish q d) d:=by
 have hcnt:(j.th d).cnt=0:=by rw [I.ct d hd,h0];rfl
 have hblr:=I.bl d hd
 have hdsr:=I.ds d hd
 obtain ⟨hnr,hng⟩:=I.deg_zero h0
 by_cases hyes:(j.row d).bl=true∧(j.row d).ds=false
 ·obtain ⟨hbl,hds⟩:=hyes
  have hroot:j.roots≠[]→j.roots.getD (d % 4) 0∈j.roots:=λ hr=>by
   rcases h4 with h | h
   ·exact absurd h hr
   ·have:d % 4 < j.roots.length:=by rw [h];exact Nat.mod_lt _ (by decide)
    rw [List.getD_eq_getElem?_getD,List.getElem?_eq_getElem this]
    exact List.getElem_mem this
  have hold:j.roots≠[]→ ∃ old,(j.row (j.roots.getD (d % 4) 0)).c= .s old∧(j.th (j.roots.getD (d % 4) 0)).c= .s old∧old≠ .ref d∧j.roots.getD (d % 4) 0∈j.wk:=λ hr=>by
   obtain ⟨h1,v,h2⟩:=I.ro _ (hroot hr)
   exact ⟨v,h2,(I.cc _ h1).trans h2,λ z=>hng _ h1 (by rw [h2,z];simp [goals]),h1⟩
  have hf:=finish_eq (q:=q) hcnt (hblr.trans hbl) (hdsr.trans hds) (λ hr=>by obtain ⟨o,_,a,b,_⟩:=hold hr;exact ⟨o,a,b⟩)
  obtain ⟨Im,hdm⟩:=I.mark hd hds
  have hmrow: ∀ m,(j.mark d).row m=if m=d then {j.row d with ds:=true} else j.row m:=λ m=>rfl
  by_cases hres:d % 3=q∧j.roots≠[]
  ·rw [if_pos hres] at hf
   obtain ⟨old,ho1,ho2,ho3,ho4⟩:=hold hres.2
   have hrr:=hroot hres.2
   generalize hr:j.roots.getD (d % 4) 0=r at *
   have hthm: ∀ A:S,A=(j.marked d).hears d→(A.th r).c= .s old:=λ A e=>by rw [e];show ((j.marked d).th r).c=_;rw [marked_c];exact ho2
   have hrd:r≠d:=λ z=>hnr (by rw [← z];exact hrr)
   have hw:(j.finish q d).wfinish q d=(j.mark d).jstore r (.ref d):=by
    have hs:RSame ((j.marked d).hears d) (j.finish q d):=by rw [hf];exact RSame.store
    unfold S.wfinish
    have e1:(j.finish q d).row=j.row:=hs.row
    have e2:(j.finish q d).deg d=0:=by
     unfold S.deg
     rw [hs.row,hs.wk,hs.roots];exact h0
    have e3:(j.finish q d).roots=j.roots:=hs.roots
    rw [e1,e2,e3,if_pos ⟨hbl,hds,rfl⟩,if_pos hres,hr,hf]
    unfold S.jstore S.mark
    rw [store_eq (hthm _ rfl),store_eq (σ:=((j.marked d).hears d).wmarked d) (s:=r) (show ((j.marked d).th r).c= .s old by rw [marked_c];exact ho2)]
    rfl
   rw [hw]
   have hmr:((j.mark d).row r).c= .s old:=by rw [hmrow,if_neg hrd];exact ho1
   obtain ⟨J1,J2⟩:=Im.jstore (pv:= .ref d) (s:=r) ho4 hmr (λ m hm=>by cases hm;exact hd)
   have hth:((j.mark d).th r).c= .s old:=(Im.cc r ho4).trans hmr
   have hS:RSame (j.mark d) ((j.mark d).store r (.ref d)):=RSame.store
   have hjrow: ∀ m,((j.mark d).jstore r (.ref d)).row m=if m=r then {(j.mark d).row r with c:= .s (.ref d)} else (j.mark d).row m:=λ m=>by
    unfold S.jstore S.setRowV S.setRow
    rw [hS.row];rfl
   refine ⟨J1,⟨hS.wk,hS.real,hS.roots,λ m=> ?_,λ m hm=> ?_,λ _=> ?_,λ _=> ?_,jstore_zlen hth,λ x hx=> ?_,λ _=>⟨hds,?_⟩,λ m=> ?_⟩⟩
   ·rw [hjrow]
    by_cases z1:m=r
    ·subst z1;rw [if_pos rfl];show ((j.mark d).row m).bl=_;rw [hmrow,if_neg hrd]
    ·rw [if_neg z1,hmrow];split
     ·subst_vars;rfl
     ·rfl
   ·rw [hjrow]
    by_cases z1:m=r
    ·subst z1;rw [if_pos rfl];show ((j.mark d).row m).ds=_;rw [hmrow,if_neg hm]
    ·rw [if_neg z1,hmrow,if_neg hm]
   ·rw [hjrow,if_neg (λ z=>hrd z.symm),hmrow,if_pos rfl]
   ·rw [hjrow,if_neg (λ z=>hrd z.symm),hmrow,if_pos rfl]
   ·have:=J2 x
    rw [hdm] at this
    have hx': ¬ (PV.ref d).tgt=some x:=λ z=>hx (by injection z with z;exact z.symm)
    rw [if_neg hx'] at this
    omega
   ·rw [hjrow,if_neg (λ z=>hrd z.symm),hmrow,if_pos rfl]
   ·by_cases z1:m=r
    ·right;rw [z1];exact hrr
    ·left
     rw [hjrow,if_neg z1,hmrow]
     split
     ·subst_vars;rfl
     ·rfl
  ·rw [if_neg hres] at hf
   have hw:(j.finish q d).wfinish q d=j.mark d:=by
    rw [hf]
    unfold S.wfinish
    have e2:((j.marked d).hears d).deg d=0:=h0
    rw [if_pos ⟨hbl,hds,e2⟩]
    show (if d % 3=q∧j.roots≠[] then _ else _)=_
    rw [if_neg hres]
    rfl
   rw [hw]
   refine ⟨Im,⟨rfl,rfl,rfl,λ m=> ?_,λ m hm=> ?_,λ _=> ?_,λ _=> ?_,Nat.le_succ _,λ x _=>by rw [hdm];exact Nat.le_refl _,λ h=>absurd (by rw [hdm];exact h0) h,λ m=> .inl ?_⟩⟩
   ·rw [hmrow];split
    ·subst_vars;rfl
    ·rfl
   ·rw [hmrow,if_neg hm]
   ·rw [hmrow,if_pos rfl]
   ·rw [hmrow,if_pos rfl]
   ·rw [hmrow];split
    ·subst_vars;rfl
    ·rfl
 ·have hf:j.finish q d=j:=by
   unfold S.finish
   rw [if_neg (λ h=>hyes ⟨hblr ▸ h.2.1,hdsr ▸ h.2.2⟩)]
  have hw:(j.finish q d).wfinish q d=j:=by
   rw [hf]
   unfold S.wfinish
   rw [if_neg (λ h=>hyes ⟨h.1,h.2.1⟩)]
  rw [hw]
  refine ⟨I,⟨rfl,rfl,rfl,λ _=>rfl,λ _ _=>rfl,λ h=>h,λ h=> ?_,Nat.le_succ _,λ _ _=>Nat.le_refl _,λ h=>absurd h0 h,λ _=> .inl rfl⟩⟩
  cases hds:(j.row d).ds with
  | true=>rfl
  | false=>exact absurd ⟨h,hds⟩ hyes
end
section
variable {D D' ns:List Nat} {B B':Nat} {σ τ j ρ:S} {n m s t x a d q:Nat} {pv old:PV}
theorem nins_perm (i:Nat): ∀ l,(nins i l).Perm (i :: l)
 | []=>List.Perm.refl _
 | j :: r=>by
  unfold nins
  split
  ·exact List.Perm.refl _
  ·exact (List.Perm.cons j (nins_perm i r)).trans (List.Perm.swap i j r)
theorem nsort_perm: ∀ l,(nsort l).Perm l
 | []=>List.Perm.refl _
 | i :: r=>(nins_perm i _).trans (List.Perm.cons i (nsort_perm r))
theorem nins_comm (a b:Nat): ∀ l,nins a (nins b l)=nins b (nins a l)
 | []=>by
  unfold nins
  by_cases h:a≤b
  ·by_cases h':b≤a
   ·have:a=b:=by omega
    subst this;rfl
   ·simp [nins,h,h']
  ·have h':b≤a:=by omega
   simp [nins,h,h']
 | c :: l=>by
  by_cases h1:a≤c
  ·by_cases h2:b≤c
   ·by_cases h:a≤b
    ·by_cases h':b≤a
     ·have:a=b:=by omega
      subst this;rfl
     ·simp [nins,h1,h2,h,h']
    ·have h':b≤a:=by omega
     simp [nins,h1,h2,h,h']
   ·have:a≤b:=by omega
    have h': ¬ b≤a:=by omega
    simp [nins,h1,h2,this,h']
  ·by_cases h2:b≤c
   ·have:b≤a:=by omega
    have h': ¬ a≤b:=by omega
    simp [nins,h1,h2,this,h']
   ·simp [nins,h1,h2,nins_comm a b l]
theorem nsort_congr {l l':List Nat} (h:l.Perm l'):nsort l=nsort l':=by
 induction h with
 | nil=>rfl
 | cons x _ ih=>unfold nsort;rw [ih]
 | swap x y l=>show nins y (nins x (nsort l))=nins x (nins y (nsort l));exact nins_comm _ _ _
 | trans _ _ ih1 ih2=>rw [ih1,ih2]
theorem perm_of {l l':List Nat} (h1:l.Nodup) (h2:l'.Nodup) (h: ∀ x,x∈l↔x∈l'):l.Perm l':=by
 rw [List.perm_iff_count]
 intro x
 by_cases q:x∈l
 ·have a1:=List.nodup_iff_count.mp h1 x
  have a2:=List.count_pos_iff.mpr q
  have b1:=List.nodup_iff_count.mp h2 x
  have b2:=List.count_pos_iff.mpr ((h x).mp q)
  omega
 ·rw [List.count_eq_zero.mpr q,List.count_eq_zero.mpr λ z=>q ((h x).mpr z)]
theorem addK_nodup {fs:List Nat} (h:fs.Nodup):(addK fs n).Nodup:=by
 unfold addK
 split
 ·exact h
 ·rename_i q
  rw [List.nodup_append]
  exact ⟨h,by simp,λ a ha b hb z=>q (by rw [List.mem_singleton.mp hb] at z;rw [← z];exact ha)⟩
theorem addK_mem {fs:List Nat}:x∈addK fs n↔x∈fs∨x=n:=by
 unfold addK
 split
 ·rename_i q
  exact ⟨.inl,λ h=>h.elim id λ z=>z ▸ q⟩
 ·simp
theorem keys_facts (ns:List Nat):(σ.keys ns).Nodup∧ ∀ x,x∈σ.keys ns↔x∈ns∧σ.isDy x=true:=by
 have: ∀ (ns fs:List Nat),fs.Nodup→(ns.foldl (λ fs n=>if σ.isDy n then addK fs n else fs) fs).Nodup∧ ∀ x,x∈ns.foldl (λ fs n=>if σ.isDy n then addK fs n else fs) fs↔x∈fs∨(x∈ns∧σ.isDy x=true):=by
  intro ns
  induction ns with
  | nil=>intro fs h;exact ⟨h,λ x=>by simp⟩
  | cons a ns ih =>
   intro fs h
   simp only [List.foldl_cons]
   cases hd:σ.isDy a with
   | true =>
    obtain ⟨h1,h2⟩:=ih (addK fs a) (addK_nodup h)
    refine ⟨h1,λ x=>(h2 x).trans ?_⟩
    rw [addK_mem]
    constructor
    ·rintro ((h | h) | h)
     ·exact .inl h
     ·exact .inr ⟨by simp [h],by rw [h];exact hd⟩
     ·exact .inr ⟨List.mem_cons_of_mem _ h.1,h.2⟩
    ·rintro (h | ⟨h,h'⟩)
     ·exact .inl (.inl h)
     ·rcases List.mem_cons.mp h with h | h
      ·exact .inl (.inr h)
      ·exact .inr ⟨h,h'⟩
   | false =>
    obtain ⟨h1,h2⟩:=ih fs h
    refine ⟨h1,λ x=>(h2 x).trans ?_⟩
    constructor
    ·rintro (h | h)
     ·exact .inl h
     ·exact .inr ⟨List.mem_cons_of_mem _ h.1,h.2⟩
    ·rintro (h | ⟨h,h'⟩)
     ·exact .inl h
     ·rcases List.mem_cons.mp h with h | h
      ·rw [h,hd] at h';cases h'
      ·exact .inr ⟨h,h'⟩
 obtain ⟨h1,h2⟩:=this ns [] (by simp)
 exact ⟨h1,λ x=>(h2 x).trans (by simp)⟩
theorem Inv.isDy (I:InvD D B ρ) (h:n∈ρ.wk):ρ.isDy n=decide (ρ.deg n=0):=by
 unfold S.isDy
 rw [I.ct n h,I.fr n (I.sub n h)]
 have:decide (n∉ρ.wk)=false:=by simp [h]
 rw [this]
 simp only [Bool.not_false,Bool.and_true]
 by_cases q:ρ.deg n=0
 ·simp [q]
 ·have: ¬ (ρ.deg n:Int)=0:=by omega
  simp [q]
theorem Inv.dying (I:Inv B ρ):ρ.dying=ρ.wdying∧ρ.dying.Nodup∧ ∀ x,x∈ρ.dying↔x∈ρ.wk∧ρ.deg x=0:=by
 obtain ⟨h1,h2⟩:=keys_facts (σ:=ρ) ρ.zero
 have hm: ∀ x,x∈ρ.keys ρ.zero↔x∈ρ.wk∧ρ.deg x=0:=λ x=>by
  rw [h2]
  constructor
  ·rintro ⟨a1,a2⟩
   have hx:=I.zs x a1
   have hfr:(ρ.th x).fr=false:=by
    unfold S.isDy at a2
    simp only [Bool.and_eq_true,Bool.not_eq_true'] at a2
    exact a2.2
   have hw:x∈ρ.wk:=by
    have:=I.fr x hx
    rw [hfr] at this
    simpa using this
   rw [Inv.isDy I hw] at a2
   exact ⟨hw,by simpa using a2⟩
  ·rintro ⟨a1,a2⟩
   refine ⟨(I.zm x a1 a2).resolve_right (by simp),?_⟩
   rw [Inv.isDy I a1];simpa using a2
 refine ⟨nsort_congr (perm_of h1 (I.nd.filter _) λ x=> ?_),(nsort_perm _).nodup_iff.mpr h1,λ x=> ?_⟩
 ·rw [hm,List.mem_filter];simp
 ·unfold S.dying;rw [nsort_mem,hm]
def mix (σ τ:S):S:= {σ with wk:=τ.wk,row:=τ.row,log:=τ.log,lastRow:=τ.lastRow}
theorem mix_note:(mix σ τ).note n=mix (σ.note n) τ:=by
 unfold S.note
 show (if (σ.th n).cnt=0 then _ else _)=_
 split <;> rfl
theorem mix_letGo:(mix σ τ).letGo n=mix (σ.letGo n) τ:=mix_note (σ:=σ.setCnt n ((σ.th n).cnt - 1))
theorem mix_store:(mix σ τ).store s pv=mix (σ.store s pv) τ:=by
 unfold S.store
 have e1:((mix σ τ).take pv).setVal s pv.strong=mix ((σ.take pv).setVal s pv.strong) τ:=by cases pv <;> rfl
 rw [e1]
 show (mix ((σ.take pv).setVal s pv.strong) τ).putOff s (σ.th s).c.val=_
 cases (σ.th s).c.val with
 | ref m=>exact mix_letGo
 | _=>rfl
theorem mix_destroy:(mix σ τ).destroy q n=mix (σ.destroy q n) τ:=by
 unfold S.destroy
 show (if n % 3=q∧σ.roots≠[] then ((mix (σ.hears n) τ).store (σ.roots.getD (n % 4) 0) (.ref n)) else mix (σ.hears n) τ)=_
 split
 ·exact mix_store
 ·rfl
theorem mix_finish:(mix σ τ).finish q n=mix (σ.finish q n) τ:=by
 unfold S.finish
 show (if (σ.th n).cnt=0∧(σ.th n).bl=true∧(σ.th n).ds=false then _ else _)=_
 split
 ·have:(((mix σ τ).marked n).hold n).destroy q n=mix (((σ.marked n).hold n).destroy q n) τ:=mix_destroy (σ:=(σ.marked n).hold n)
  dsimp only
  rw [this];rfl
 ·rfl
theorem mix_fold: ∀ (ms:List Nat) (σ:S),ms.foldl S.letGo (mix σ τ)=mix (ms.foldl S.letGo σ) τ
 | [],σ=>rfl
 | a :: ms,σ=>by
  simp only [List.foldl_cons]
  rw [mix_letGo,mix_fold ms]
theorem mix_free:(mix σ τ).free n=mix (σ.free n) τ:=by
 have e4:(mix σ τ).free4 n=mix (σ.free4 n) τ:=by
  unfold S.free4
  show (match ((σ.free3 n).th n).c with | .s old=>((mix (σ.free3 n) τ).setVal n .none).putOff n old | _=>mix (σ.free3 n) τ)=_
  generalize ((σ.free3 n).th n).c=c
  cases c with
  | s old =>
   show (mix ((σ.free3 n).setVal n .none) τ).putOff n old=mix (((σ.free3 n).setVal n .none).putOff n old) τ
   cases old with
   | ref m=>exact mix_letGo
   | _=>rfl
  | _=>rfl
 unfold S.free
 rw [e4]
 exact mix_fold _ ((σ.free4 n).empty n)
theorem mix_deg (h:σ.roots=τ.roots):(mix σ τ).deg n=τ.deg n:=by
 show σ.roots.count n+_=_
 rw [h];rfl
theorem mix_wfinish (h:σ.roots=τ.roots):(mix σ τ).wfinish q n=mix σ (τ.wfinish q n):=by
 unfold S.wfinish
 rw [mix_deg h]
 show (if (τ.row n).bl=true∧(τ.row n).ds=false∧τ.deg n=0 then (if n % 3=q∧σ.roots≠[] then ((mix σ τ).wmarked n).setRowV (σ.roots.getD (n % 4) 0) (.ref n) else (mix σ τ).wmarked n) else mix σ τ)=_
 rw [h]
 split
 ·split <;> rfl
 ·rfl
end
section
variable {D D' ns ds:List Nat} {B B':Nat} {σ τ j ρ σ' τ':S} {n m s t x a d q:Nat} {pv old:PV}
theorem RSame.finish:RSame σ (σ.finish q n):=by
 unfold S.finish
 split
 ·have h1:RSame σ ((σ.marked n).hold n):=⟨rfl,rfl,rfl,rfl,rfl,rfl,rfl,rfl,rfl,rfl⟩
  have h2:RSame ((σ.marked n).hold n) (((σ.marked n).hold n).destroy q n):=by
   have h0:RSame ((σ.marked n).hold n) (((σ.marked n).hold n).hears n):=⟨rfl,rfl,rfl,rfl,rfl,rfl,rfl,rfl,rfl,rfl⟩
   unfold S.destroy
   split
   ·exact h0.trans RSame.store
   ·exact h0
  have h3: ∀ A:S,∀ c,RSame A (A.setCnt n c):=λ A c=>⟨rfl,rfl,rfl,rfl,rfl,rfl,rfl,rfl,rfl,rfl⟩
  exact (h1.trans h2).trans (h3 _ _)
 ·exact RSame.refl
structure WSame (σ τ:S):Prop where
 roots:τ.roots=σ.roots
 lkW:τ.lkW=σ.lkW
 eq:τ=mix σ τ
theorem WSame.refl:WSame σ σ:=⟨rfl,rfl,rfl⟩
theorem WSame.trans {a b c:S} (h:WSame a b) (h':WSame b c):WSame a c:=⟨h'.1.trans h.1,h'.2.trans h.2,by
 have e:c=mix b c:=h'.3
 have e':mix b c=mix (mix a b) c:=by rw [← h.3]
 exact e.trans e'⟩
theorem WSame.wfinish:WSame σ (σ.wfinish q n):=by
 unfold S.wfinish
 split
 ·split <;> exact ⟨rfl,rfl,rfl⟩
 ·exact ⟨rfl,rfl,rfl⟩
theorem wfinish_wk:(σ.wfinish q n).wk=σ.wk:=by
 unfold S.wfinish
 split
 ·split <;> rfl
 ·rfl
structure Ph1 (B q:Nat) (σ τ:S) (ds ns:List Nat) (σ' τ':S):Prop where
 I:InvD σ.dying B (mix σ' τ')
 rs:RSame σ σ'
 ts:WSame τ τ'
 tw:τ'.wk=τ.wk
 zl:σ'.zero.length≤ds.length
 dz: ∀ d∈σ.dying,τ'.deg d=0∨((τ'.row d).ds=true∧(τ.row d).ds=false)
 nm: ∀ d∈ns,(τ'.row d).ds=(τ.row d).ds
 dm: ∀ m,(τ.row m).ds=true→(τ'.row m).ds=true
 rf: ∀ d∈σ.dying,∀ m∈τ.wk,d∈goals (τ'.row m).c→m∈σ.roots
theorem eq_snoc (l:List Nat) (h:l≠[]): ∃ l' b,l=l' ++ [b]:=⟨l.dropLast,l.getLast h,(List.dropLast_concat_getLast h).symm⟩
theorem phase1 (I:Inv B (mix σ τ)) (hr:σ.roots=τ.roots) (h4:σ.roots=[]∨σ.roots.length=4): ∀ (k:Nat) (ds ns:List Nat),ds.length=k→σ.dying=ds ++ ns→Ph1 B q σ τ ds ns (ds.foldl (λ σ n=>σ.finish q n) {σ with zero:=[]}) (ds.foldl (λ σ n=>σ.wfinish q n) τ):=by
 obtain ⟨d1,d2,d3⟩:=Inv.dying I
 have d1:σ.dying=(mix σ τ).wdying:=d1
 have d2:σ.dying.Nodup:=d2
 have d3: ∀ x,x∈σ.dying↔x∈τ.wk∧τ.deg x=0:=λ x=>by
  have:=d3 x
  rw [mix_deg hr] at this
  exact this
 intro k
 induction k with
 | zero =>
  intro ds ns hk hD
  obtain rfl:=List.length_eq_zero_iff.mp hk
  refine ⟨⟨I.lw,I.lr,I.lt,I.nd,I.sub,I.rb,I.lb,I.fr,I.cc,I.bl,I.ds,I.ct,I.tg,I.ms,I.gn,I.ko,I.we,I.wn,I.ro,λ n hn h0=> .inr ?_,λ n hn=>by simp [mix] at hn,I.hl,I.ll,I.rl,I.r4⟩,⟨rfl,rfl,rfl,rfl,rfl,rfl,rfl,rfl,rfl,rfl⟩,WSame.refl,rfl,by simp,λ d hd=> .inl ((d3 d).mp hd).2,λ _ _=>rfl,λ _ h=>h,λ d hd m hm hg=> ?_⟩
  ·exact (d3 n).mpr ⟨hn,by rw [← mix_deg (σ:= {σ with zero:=[]}) hr];exact h0⟩
  ·have h0:=((d3 d).mp hd).2
   exfalso
   have:0 < degOver τ.row τ.wk d:=degOver_pos hm hg
   unfold S.deg at h0
   omega
 | succ k ih =>
  intro ds ns hk hD
  obtain ⟨ds',d,rfl⟩:=eq_snoc ds (λ h=>by rw [h] at hk;cases hk)
  have hk':ds'.length=k:=by simpa using hk
  have P:=ih ds' (d :: ns) hk' (by rw [hD];simp)
  simp only [List.foldl_append,List.foldl_cons,List.foldl_nil]
  generalize ds'.foldl (λ σ n=>σ.finish q n) {σ with zero:=[]}=σ' at P
  generalize ds'.foldl (λ σ n=>σ.wfinish q n) τ=τ' at P
  have hr':σ'.roots=τ'.roots:=by rw [P.rs.roots,P.ts.roots,hr]
  have hdD:d∈σ.dying:=by rw [hD];simp
  have hdw:d∈τ'.wk:=by rw [P.tw];exact ((d3 d).mp hdD).1
  have hd0:τ'.deg d=0:=by
   rcases P.dz d hdD with h | h
   ·exact h
   ·have:=P.nm d (by simp);rw [this,h.2] at h;cases h.1
  obtain ⟨J,T⟩:=P.I.step1 (q:=q) (d:=d) hdw (by rw [mix_deg hr'];exact hd0) (by show σ'.roots=[]∨σ'.roots.length=4;rw [P.rs.roots];exact h4)
  have hfr:(σ'.finish q d).roots=τ'.roots:=by rw [(RSame.finish (σ:=σ') (q:=q) (n:=d)).roots];exact hr'
  have ej:((mix σ' τ').finish q d).wfinish q d=mix (σ'.finish q d) (τ'.wfinish q d):=by rw [mix_finish,mix_wfinish hfr]
  rw [ej] at J T
  have hr2:(σ'.finish q d).roots=(τ'.wfinish q d).roots:=by rw [hfr,(WSame.wfinish (σ:=τ') (q:=q) (n:=d)).roots]
  have hdn:d∉ns:=λ h=>by
   rw [hD,List.append_assoc] at d2
   have:=(List.nodup_append.mp d2).2.1
   simp only [List.singleton_append,List.nodup_cons] at this
   exact this.1 h
  have edeg: ∀ x,(τ'.wfinish q d).deg x=(mix (σ'.finish q d) (τ'.wfinish q d)).deg x:=λ x=>(mix_deg hr2).symm
  have edeg': ∀ x,τ'.deg x=(mix σ' τ').deg x:=λ x=>(mix_deg hr').symm
  refine ⟨J,P.rs.trans RSame.finish,P.ts.trans WSame.wfinish,by rw [wfinish_wk,P.tw],?_,λ x hx=> ?_,λ x hx=> ?_,λ m hm=> ?_,λ x hx m hm hg=> ?_⟩
  ·have h1:(σ'.finish q d).zero.length≤σ'.zero.length+1:=T.zl
   have:=P.zl
   simp only [List.length_append,List.length_singleton]
   omega
  ·by_cases z:x=d
   ·subst z
    by_cases h:(mix (σ'.finish q x) (τ'.wfinish q x)).deg x=0
    ·left;rw [edeg];exact h
    ·right
     obtain ⟨a1,a2⟩:=T.dd h
     refine ⟨a2,?_⟩
     rw [← P.nm x (by simp)];exact a1
   ·rcases P.dz x hx with h | h
    ·left
     rw [edeg]
     have:=T.dg x z
     rw [edeg'] at h
     omega
    ·right
     exact ⟨by have:=T.dsn x z;exact this.trans h.1,h.2⟩
  ·have z:x≠d:=λ h=>hdn (by rw [← h];exact hx)
   exact (T.dsn x z).trans (P.nm x (List.mem_cons_of_mem _ hx))
  ·by_cases z:m=d
   ·subst z;exact T.ds1 (P.dm m hm)
   ·exact (T.dsn m z).trans (P.dm m hm)
  ·rcases T.rf m with h | h
   ·refine P.rf x hx m hm ?_
    have h':goals ((τ'.wfinish q d).row m).c=goals (τ'.row m).c:=h
    rw [← h'];exact hg
   ·have h':m∈σ'.roots:=h
    rw [P.rs.roots] at h';exact h'
theorem RSame.free:RSame σ (σ.free n):=by
 have h3:RSame σ (σ.free3 n):=⟨rfl,rfl,rfl,rfl,rfl,rfl,rfl,rfl,rfl,rfl⟩
 have h4:RSame (σ.free3 n) (σ.free4 n):=by
  unfold S.free4
  split
  ·have:RSame (σ.free3 n) ((σ.free3 n).setVal n .none):=⟨rfl,rfl,rfl,rfl,rfl,rfl,rfl,rfl,rfl,rfl⟩
   exact this.trans RSame.putOff
  ·exact RSame.refl
 have h5:RSame (σ.free4 n) ((σ.free4 n).empty n):=⟨rfl,rfl,rfl,rfl,rfl,rfl,rfl,rfl,rfl,rfl⟩
 exact ((h3.trans h4).trans h5).trans (letAll _ _).same
structure Ph2 (B q:Nat) (σ τ:S) (ds ns:List Nat) (σ' τ':S):Prop where
 I:InvD ns B (mix σ' τ')
 rs:RSame σ σ'
 ts:WSame τ τ'
 sub:τ'.wk.Sublist τ.wk
 dk: ∀ m,(τ'.row m).ds=((τ.wround1 q).row m).ds
 keep: ∀ d∈ns,d∈τ'.wk∧τ'.deg d=(τ.wround1 q).deg d
 gone: ∀ d∈ds,(τ.wround1 q).deg d=0→d∉τ'.wk
 rf: ∀ d∈ns,∀ m∈τ'.wk,d∈goals (τ'.row m).c→m∈σ.roots
 zl:σ'.zero.length≤σ.dying.length+100 * ds.length
theorem phase2 (I:Inv B (mix σ τ)) (hr:σ.roots=τ.roots) (h4:σ.roots=[]∨σ.roots.length=4) (hB:B≤60): ∀ (k:Nat) (ds ns:List Nat),ds.length=k→σ.dying=ds ++ ns→Ph2 B q σ τ ds ns (ds.foldl S.free? (σ.round1 q)) ((ds.filter λ n=>decide ((τ.wround1 q).deg n=0)).foldl S.wpop (τ.wround1 q)):=by
 obtain ⟨d1,d2,d3⟩:=Inv.dying I
 have d1:σ.dying=(mix σ τ).wdying:=d1
 have d2:σ.dying.Nodup:=d2
 have d3: ∀ x,x∈σ.dying↔x∈τ.wk∧τ.deg x=0:=λ x=>by
  have:=d3 x
  rw [mix_deg hr] at this
  exact this
 have dw:τ.wdying=σ.dying:=by
  rw [d1]
  show nsort (τ.wk.filter λ n=>decide (τ.deg n=0))=nsort (τ.wk.filter λ n=>decide ((mix σ τ).deg n=0))
  have:(λ n=>decide (τ.deg n=0))=λ n=>decide ((mix σ τ).deg n=0):=funext λ n=>by rw [mix_deg hr]
  rw [this]
 have P0:=phase1 (q:=q) I hr h4 σ.dying.length σ.dying [] rfl (by simp)
 have e1:(σ.dying.foldl (λ σ n=>σ.finish q n) {σ with zero:=[]})=σ.round1 q:=rfl
 have e2:(σ.dying.foldl (λ σ n=>σ.wfinish q n) τ)=τ.wround1 q:=by unfold S.wround1;rw [dw]
 rw [e1,e2] at P0
 intro k
 induction k with
 | zero =>
  intro ds ns hk hD
  obtain rfl:=List.length_eq_zero_iff.mp hk
  have hns:ns=σ.dying:=by rw [hD];rfl
  refine ⟨by rw [hns];exact P0.I,P0.rs,P0.ts,by show (τ.wround1 q).wk.Sublist τ.wk;rw [P0.tw];exact List.Sublist.refl _,λ _=>rfl,λ d hd=>⟨?_,rfl⟩,λ d hd=>by simp at hd,λ d hd m hm=> ?_,by have:=P0.zl;show (σ.round1 q).zero.length≤_;simp;exact this⟩
  ·show d∈(τ.wround1 q).wk
   rw [P0.tw];exact ((d3 d).mp (hns ▸ hd)).1
  ·exact P0.rf d (hns ▸ hd) m (by rw [← P0.tw];exact hm)
 | succ k ih =>
  intro ds ns hk hD
  obtain ⟨ds',d,rfl⟩:=eq_snoc ds (λ h=>by rw [h] at hk;cases hk)
  have hk':ds'.length=k:=by simpa using hk
  have P:=ih ds' (d :: ns) hk' (by rw [hD];simp)
  simp only [List.foldl_append,List.foldl_cons,List.foldl_nil,List.filter_append]
  generalize ds'.foldl S.free? (σ.round1 q)=σ' at P
  generalize hτ:(ds'.filter λ n=>decide ((τ.wround1 q).deg n=0)).foldl S.wpop (τ.wround1 q)=τ' at P
  have hr':σ'.roots=τ'.roots:=by rw [P.rs.roots,P.ts.roots,hr]
  obtain ⟨hdw,hdd⟩:=P.keep d (by simp)
  have hdn:d∉ns∧d∉ds':=by
   rw [hD,List.append_assoc] at d2
   have h1:=List.nodup_append.mp d2
   have h2:=h1.2.1
   simp only [List.singleton_append,List.nodup_cons] at h2
   exact ⟨h2.1,λ h=>h1.2.2 d h d (by simp) rfl⟩
  have hisdy:σ'.isDy d=decide ((τ.wround1 q).deg d=0):=by
   have:=Inv.isDy P.I (n:=d) hdw
   rw [mix_deg hr',hdd] at this
   exact this
  by_cases h0:(τ.wround1 q).deg d=0
  ·have e3:([d].filter λ n=>decide ((τ.wround1 q).deg n=0))=[d]:=by simp [h0]
   rw [e3]
   simp only [List.foldl_cons,List.foldl_nil]
   have e4:S.free? σ' d=σ'.free d:=by unfold S.free?;rw [if_pos (by rw [hisdy];simp [h0])]
   rw [e4]
   have hj0:(mix σ' τ').deg d=0:=by rw [mix_deg hr',hdd];exact h0
   obtain ⟨J,hdeg⟩:=P.I.goes hdw hj0
   have ej:((mix σ' τ').free d).wpop d=mix (σ'.free d) (τ'.wpop d):=by rw [mix_free];rfl
   rw [ej] at J hdeg
   have hrs:RSame σ' (σ'.free d):=RSame.free
   have hr2:(σ'.free d).roots=(τ'.wpop d).roots:=by rw [hrs.roots];exact hr'
   have hz:=P.zl
   have hBD:σ.dying.length≤B:=Nat.le_trans (subset_len d2 λ x hx=>((d3 x).mp hx).1) I.wl
   have hdl:ds'.length≤σ.dying.length:=by rw [hD];simp only [List.length_append];omega
   have ok:FreeOk (mix σ' τ') d:=P.I.freeOk hdw (by omega) (by show σ'.zero.length≤100000;omega)
   refine ⟨J,P.rs.trans hrs,P.ts.trans ⟨rfl,rfl,rfl⟩,(List.erase_sublist).trans P.sub,λ m=> ?_,λ x hx=> ?_,λ x hx hx0=> ?_,λ x hx m hm hg=> ?_,?_⟩
   ·show (cleanRow τ'.row d (τ'.wk.erase d) m).ds=_
    rw [cleanRow_ds];exact P.dk m
   ·have hxd:x≠d:=λ z=>hdn.1 (by rw [← z];exact hx)
    obtain ⟨k1,k2⟩:=P.keep x (List.mem_cons_of_mem _ hx)
    refine ⟨(List.mem_erase_of_ne hxd).mpr k1,?_⟩
    have h5:=hdeg x
    rw [mix_deg hr2,mix_deg hr'] at h5
    have h6:(goals ((mix σ' τ').row d).c).count x=0:=List.count_eq_zero.mpr λ hg=>by
     have:=P.rf x (List.mem_cons_of_mem _ hx) d hdw hg
     exact (P.I.deg_zero hj0).1 (by show d∈σ'.roots;rw [P.rs.roots];exact this)
    rw [← k2];omega
   ·rcases List.mem_append.mp hx with h | h
    ·exact λ hm=>P.gone x h hx0 (List.mem_of_mem_erase hm)
    ·rcases List.mem_singleton.mp h with rfl
     have hnd:τ'.wk.Nodup:=P.I.nd
     show x∉τ'.wk.erase x
     rw [hnd.mem_erase_iff];simp
   ·have hm':m∈τ'.wk:=List.mem_of_mem_erase hm
    refine P.rf x (List.mem_cons_of_mem _ hx) m hm' ?_
    have:goals (cleanRow τ'.row d (τ'.wk.erase d) m).c=goals (τ'.row m).c:=cleanRow_goals
    rw [← this];exact hg
   ·have h7:=free_zlen ok
    have h8:((mix σ' τ').free d).zero=(σ'.free d).zero:=by rw [mix_free];rfl
    rw [h8] at h7
    have h9:(members ((mix σ' τ').th d).c).length≤B:=by
     rw [P.I.cc d hdw];exact P.I.ml hdw
    have h10:(mix σ' τ').zero=σ'.zero:=rfl
    rw [h10] at h7
    simp only [List.length_append,List.length_singleton]
    omega
  ·have e3:([d].filter λ n=>decide ((τ.wround1 q).deg n=0))=[]:=by simp [h0]
   rw [e3]
   simp only [List.foldl_nil]
   have e4:S.free? σ' d=σ':=by unfold S.free?;rw [if_neg (by rw [hisdy];simp [h0])]
   rw [e4]
   refine ⟨P.I.drop λ x hx hxw hx0=> ?_,P.rs,P.ts,P.sub,P.dk,λ x hx=>P.keep x (List.mem_cons_of_mem _ hx),λ x hx hx0=> ?_,λ x hx=>P.rf x (List.mem_cons_of_mem _ hx),?_⟩
   ·rcases List.mem_cons.mp hx with h | h
    ·exfalso
     subst h
     rw [mix_deg hr',hdd] at hx0
     exact h0 hx0
    ·exact .inr h
   ·rcases List.mem_append.mp hx with h | h
    ·exact P.gone x h hx0
    ·rcases List.mem_singleton.mp h with rfl;exact absurd hx0 h0
   ·have:=P.zl
    simp only [List.length_append,List.length_singleton]
    omega
end
section
variable {D D' ns ds:List Nat} {B B':Nat} {σ τ j ρ σ' τ':S} {n m s t x a d q:Nat} {pv old:PV}
theorem mix_zero:(mix σ τ).zero=σ.zero:=rfl
theorem mix_roots:(mix σ τ).roots=σ.roots:=rfl
theorem DestroyOk.unmix (h:DestroyOk (mix σ τ) n):DestroyOk σ n:=⟨h.hb,λ hr=>let ⟨r,a,b,c⟩:=h.ro hr;⟨r,a,b,⟨c.zb,c.sc⟩⟩⟩
theorem FreeOk.unmix (h:FreeOk (mix σ τ) n):FreeOk σ n:=⟨h.ws,h.zb,h.nl,h.ko,h.lk,h.wk⟩
theorem InvD.logLen (I:InvD D B ρ):ρ.log.length≤B:=Nat.le_trans I.ll (Nat.le_trans (List.length_filter_le _ _) I.rl)
theorem InvD.destroyOk (I:InvD D B ρ) (h4:ρ.roots=[]∨ρ.roots.length=4) (hB:B≤60) (hz:ρ.zero.length≤100000):DestroyOk ρ n:=by
 refine ⟨by rw [I.hl];have:=I.logLen;unfold big;omega,λ h=> ?_⟩
 have hl:ρ.roots.length=4:=h4.resolve_left h
 have hlt:n % 4 < ρ.roots.length:=by omega
 have hm:=List.getElem_mem hlt
 refine ⟨ρ.roots[n % 4],List.getElem?_eq_getElem hlt,I.sub _ (I.ro _ hm).1,I.store_ok (I.ro _ hm) (by omega) (by unfold big;omega)⟩
theorem InvD.wOk (I:InvD D B (mix σ τ)) (hr:σ.roots=τ.roots) (hw:τ.lkW=false) (hB:B≤60):WOk τ:=by
 have h1:(mix σ τ).degLen=τ.degLen:=by unfold S.degLen mix;rw [hr]
 have h2:=I.degLen
 have h3:B * B≤60 * 60:=Nat.mul_le_mul hB hB
 have h4:τ.wk.length≤B:=I.wl
 exact ⟨hw,by unfold big;omega,by omega⟩
theorem InvD.wFinOk (I:InvD D B (mix σ τ)) (hr:σ.roots=τ.roots) (hw:τ.lkW=false) (h4:τ.roots=[]∨τ.roots.length=4) (hB:B≤60) (hn:n∈τ.wk):WFinOk τ n:=by
 refine ⟨I.wOk hr hw hB,hn,by have:τ.log.length≤B:=I.logLen;unfold big;omega,λ h=> ?_⟩
 have hl:τ.roots.length=4:=h4.resolve_left h
 have hlt:n % 4 < τ.roots.length:=by omega
 have hm:=List.getElem_mem hlt
 obtain ⟨k1,v,k2⟩:=I.ro τ.roots[n % 4] (by show _∈σ.roots;rw [hr];exact hm)
 exact ⟨τ.roots[n % 4],List.getElem?_eq_getElem hlt,k1,v,k2⟩
theorem wdying_eq (I:Inv B (mix σ τ)) (hr:σ.roots=τ.roots):τ.wdying=σ.dying∧σ.dying.Nodup∧(∀ x,x∈σ.dying↔x∈τ.wk∧τ.deg x=0)∧σ.dying.length≤B:=by
 obtain ⟨d1,d2,d3⟩:=Inv.dying I
 have d1:σ.dying=(mix σ τ).wdying:=d1
 have d2:σ.dying.Nodup:=d2
 have d3: ∀ x,x∈σ.dying↔x∈τ.wk∧τ.deg x=0:=λ x=>by
  have:=d3 x
  rw [mix_deg hr] at this
  exact this
 refine ⟨?_,d2,d3,Nat.le_trans (subset_len d2 λ x hx=>((d3 x).mp hx).1) I.wl⟩
 rw [d1]
 show nsort (τ.wk.filter λ n=>decide (τ.deg n=0))=nsort (τ.wk.filter λ n=>decide ((mix σ τ).deg n=0))
 have:(λ n=>decide (τ.deg n=0))=λ n=>decide ((mix σ τ).deg n=0):=funext λ n=>by rw [mix_deg hr]
 rw [this]
theorem round_ok (I:Inv B (mix σ τ)) (hr:σ.roots=τ.roots) (h4:σ.roots=[]∨σ.roots.length=4) (hB:B≤60) (hz:σ.zero.length≤100000):RoundOk σ q:=by
 obtain ⟨d1,d2,d3,d4⟩:=wdying_eq I hr
 refine ⟨by unfold big;omega,?_,λ ds n ns e=> ?_,λ ds n ns e hdy=> ?_⟩
 ·have:σ.dying.length=(σ.keys σ.zero).length:=(nsort_perm _).length_eq
  omega
 ·have P:=phase1 (q:=q) I hr h4 ds.length ds (n :: ns) rfl e
  have hl:ds.length≤σ.dying.length:=by rw [e];simp only [List.length_append];omega
  have hzl:=P.zl
  exact (P.I.destroyOk (by rw [mix_roots,P.rs.roots];exact h4) hB (by rw [mix_zero];omega)).unmix
 ·have P:=phase2 (q:=q) I hr h4 hB ds.length ds (n :: ns) rfl e
  have hl:ds.length≤σ.dying.length:=by rw [e];simp only [List.length_append];omega
  have hzl:=P.zl
  exact (P.I.freeOk (P.keep n (by simp)).1 (by omega) (by rw [mix_zero];omega)).unmix
theorem phase1w (I:Inv B (mix σ τ)) (hr:σ.roots=τ.roots) (h4:σ.roots=[]∨σ.roots.length=4) (e:σ.dying=ds ++ ns):Ph1 B q σ τ ds ns (ds.foldl (λ σ n=>σ.finish q n) {σ with zero:=[]}) (ds.foldl (λ σ n=>σ.wfinish q n) τ):=phase1 I hr h4 ds.length ds ns rfl e
theorem wround_ok (I:Inv B (mix σ τ)) (hr:σ.roots=τ.roots) (h4:σ.roots=[]∨σ.roots.length=4) (hB:B≤60) (hw:τ.lkW=false):WRoundOk τ q:=by
 obtain ⟨d1,d2,d3,d4⟩:=wdying_eq I hr
 refine ⟨I.wOk hr hw hB,λ ds n ns e=> ?_,?_,λ ds n ns e=> ?_⟩
 ·rw [d1] at e
  have P:=phase1w (q:=q) I hr h4 e
  refine P.I.wFinOk (by rw [P.rs.roots,P.ts.roots];exact hr) (by rw [P.ts.lkW];exact hw) (by rw [P.ts.roots,← hr];exact h4) hB ?_
  rw [P.tw]
  exact ((d3 n).mp (by rw [e];simp)).1
 ·have P:=phase1w (q:=q) (ds:=σ.dying) (ns:=[]) I hr h4 (by simp)
  have e2:(σ.dying.foldl (λ σ n=>σ.wfinish q n) τ)=τ.wround1 q:=by unfold S.wround1;rw [d1]
  rw [e2] at P
  exact P.I.wOk (by rw [P.rs.roots,P.ts.roots];exact hr) (by rw [P.ts.lkW];exact hw) hB
 ·unfold S.wdead at e
  rw [d1] at e
  obtain ⟨l1,l2,e1,e2,e3⟩:=List.filter_eq_append_iff.mp e
  obtain ⟨m1,m2,e4,e5,e6,e7⟩:=List.filter_eq_cons_iff.mp e3
  have P:=phase2 (q:=q) I hr h4 hB (l1 ++ m1).length (l1 ++ m1) (n :: m2) rfl (by rw [e1,e4];simp)
  have e8:m1.filter (λ n=>decide ((τ.wround1 q).deg n=0))=[]:=List.filter_eq_nil_iff.mpr e5
  rw [List.filter_append,e2,e8,List.append_nil] at P
  exact ⟨(P.keep n (by simp)).1,by rw [P.ts.lkW];exact hw⟩
def wt (row:Nat→Row) (n:Nat):Nat:=if (row n).ds then 1 else 2
def phi (τ:S):Nat:=(τ.wk.map (wt τ.row)).sum
theorem sum_le {l' l:List Nat} {f' f:Nat→Nat} (hs:l'.Sublist l) (h: ∀ x,f' x≤f x):(l'.map f').sum≤(l.map f).sum:=by
 induction hs with
 | slnil=>simp
 | cons a _ ih=>simp only [List.map_cons,List.sum_cons];omega
 | cons_cons a _ ih=>simp only [List.map_cons,List.sum_cons];have:=h a;omega
theorem sum_lt {l' l:List Nat} {f' f:Nat→Nat} (hs:l'.Sublist l) (h: ∀ x,f' x≤f x) (hp: ∀ x,0 < f x) (hd:d∈l) (hc:d∉l'∨f' d < f d):(l'.map f').sum < (l.map f).sum:=by
 induction hs with
 | slnil=>simp at hd
 | cons a hs ih=>simp only [List.map_cons,List.sum_cons];have:=sum_le hs h;have:=hp a;omega
 | cons_cons a hs ih =>
  simp only [List.map_cons,List.sum_cons]
  have h1:=sum_le hs h
  have h2:=h a
  rcases List.mem_cons.mp hd with z | z
  ·subst z
   rcases hc with hc | hc
   ·simp at hc
   ·omega
  ·have:=ih z (hc.imp (λ q=>λ w=>q (List.mem_cons_of_mem _ w)) id)
   omega
theorem phi_le (τ:S):phi τ≤2 * τ.wk.length:=by
 unfold phi
 generalize τ.wk=l
 induction l with
 | nil=>simp
 | cons a l ih =>
  simp only [List.map_cons,List.sum_cons,List.length_cons]
  have:wt τ.row a≤2:=by unfold wt;split <;> omega
  omega
theorem round_inv (I:Inv B (mix σ τ)) (hr:σ.roots=τ.roots) (h4:σ.roots=[]∨σ.roots.length=4) (hB:B≤60):Inv B (mix (σ.round q) (τ.wround q))∧RSame σ (σ.round q)∧WSame τ (τ.wround q)∧(σ.round q).zero.length≤100000∧(σ.dying≠[]→phi (τ.wround q) < phi τ):=by
 obtain ⟨d1,d2,d3,d4⟩:=wdying_eq I hr
 have P:=phase2 (q:=q) I hr h4 hB σ.dying.length σ.dying [] rfl (by simp)
 have e1:σ.dying.foldl S.free? (σ.round1 q)=σ.round q:=rfl
 have e2:(σ.dying.filter λ n=>decide ((τ.wround1 q).deg n=0)).foldl S.wpop (τ.wround1 q)=τ.wround q:=by
  unfold S.wround S.wdead;rw [d1]
 rw [e1,e2] at P
 refine ⟨P.I,P.rs,P.ts,by have:=P.zl;omega,λ hne=> ?_⟩
 have P1:=phase1w (q:=q) (ds:=σ.dying) (ns:=[]) I hr h4 (by simp)
 have e3:(σ.dying.foldl (λ σ n=>σ.wfinish q n) τ)=τ.wround1 q:=by unfold S.wround1;rw [d1]
 rw [e3] at P1
 obtain ⟨d,hd⟩:=List.exists_mem_of_ne_nil _ hne
 have hdw:=((d3 d).mp hd).1
 refine sum_lt P.sub (λ x=> ?_) (λ x=>by unfold wt;split <;> omega) hdw ?_
 ·unfold wt
  rw [P.dk x]
  cases h:(τ.row x).ds
  ·split <;> simp
  ·rw [P1.dm x h];simp
 ·rcases P1.dz d hd with h | ⟨h,h'⟩
  ·exact .inl (P.gone d hd h)
  ·right
   unfold wt
   rw [P.dk d,h,h'];simp
theorem settles (hB:B≤60): ∀ (m:Nat) (σ τ:S),phi τ≤m→Inv B (mix σ τ)→σ.roots=τ.roots→(σ.roots=[]∨σ.roots.length=4)→τ.lkW=false→σ.zero.length≤100000 →
  ∃ k k' σ' τ',k≤m+1∧k'≤m+1∧Settles q k σ σ'∧WSettles q k' τ τ'∧Inv B (mix σ' τ')∧σ'.zero=[]∧RSame σ σ'∧WSame τ τ':=by
 intro m
 induction m with
 | zero =>
  intro σ τ hm I hr h4 hw hz
  obtain ⟨d1,d2,d3,d4⟩:=wdying_eq I hr
  obtain ⟨J,r1,r2,r3,r4⟩:=round_inv (q:=q) I hr h4 hB
  have hd:σ.dying=[]:=Classical.byContradiction λ h=>by have:=r4 h;omega
  have e1:σ.round q= {σ with zero:=[]}:=by unfold S.round S.round1;rw [hd];rfl
  have e2:τ.wround q=τ:=by unfold S.wround S.wdead S.wround1;rw [d1,hd];rfl
  rw [e1,e2] at J
  by_cases h0:σ.zero=[]
  ·exact ⟨0,0,σ,τ,by omega,by omega, .stop h0, .stop (I.wOk hr hw hB) (d1.trans hd),I,h0,RSame.refl,WSame.refl⟩
  ·exact ⟨1,0, {σ with zero:=[]},τ,by omega,by omega, .step h0 (round_ok I hr h4 hB hz) (by rw [e1];exact .stop rfl), .stop (I.wOk hr hw hB) (d1.trans hd),J,rfl,⟨rfl,rfl,rfl,rfl,rfl,rfl,rfl,rfl,rfl,rfl⟩,WSame.refl⟩
 | succ m ih =>
  intro σ τ hm I hr h4 hw hz
  obtain ⟨d1,d2,d3,d4⟩:=wdying_eq I hr
  obtain ⟨J,r1,r2,r3,r4⟩:=round_inv (q:=q) I hr h4 hB
  by_cases hd:σ.dying=[]
  ·have e1:σ.round q= {σ with zero:=[]}:=by unfold S.round S.round1;rw [hd];rfl
   have e2:τ.wround q=τ:=by unfold S.wround S.wdead S.wround1;rw [d1,hd];rfl
   rw [e1,e2] at J
   by_cases h0:σ.zero=[]
   ·exact ⟨0,0,σ,τ,by omega,by omega, .stop h0, .stop (I.wOk hr hw hB) (d1.trans hd),I,h0,RSame.refl,WSame.refl⟩
   ·exact ⟨1,0, {σ with zero:=[]},τ,by omega,by omega, .step h0 (round_ok I hr h4 hB hz) (by rw [e1];exact .stop rfl), .stop (I.wOk hr hw hB) (d1.trans hd),J,rfl,⟨rfl,rfl,rfl,rfl,rfl,rfl,rfl,rfl,rfl,rfl⟩,WSame.refl⟩
  ·have h0:σ.zero≠[]:=λ h=>hd (by unfold S.dying;rw [h];rfl)
   obtain ⟨k,k',σ',τ',a1,a2,a3,a4,a5,a6,a7,a8⟩:=ih (σ.round q) (τ.wround q) (by have:=r4 hd;omega) J (by rw [r1.roots,r2.roots];exact hr) (by rw [r1.roots];exact h4) (by rw [r2.lkW];exact hw) r3
   exact ⟨k+1,k'+1,σ',τ',by omega,by omega, .step h0 (round_ok I hr h4 hB hz) a3, .step (by rw [d1];exact hd) (wround_ok I hr h4 hB hw) a4,a5,a6,r1.trans a7,r2.trans a8⟩
theorem Settles.det {k k':Nat} {σ a b:S} (h:Settles q k σ a) (h':Settles q k' σ b):a=b:=by
 induction h generalizing k' with
 | stop e =>
  cases h' with
  | stop _=>rfl
  | step e' _ _=>exact absurd e e'
 | step e _ _ ih =>
  cases h' with
  | stop e'=>exact absurd e' e
  | step _ _ s=>exact ih s
theorem Inv.settle (I:Inv B ρ) (h4:ρ.roots=[]∨ρ.roots.length=4) (hB:B≤60) (hz:ρ.zero.length≤100000): ∃ k k' σ' τ',k < 1000∧k' < 1000∧Settles q k ρ σ'∧WSettles q k' σ' τ'∧Inv B τ'∧τ'.zero=[]∧τ'.roots=ρ.roots:=by
 have hp:phi ρ≤120:=by have h1:=phi_le ρ;have h2:=I.wl;omega
 obtain ⟨k,k',σ',τ',a1,a2,a3,a4,a5,a6,a7,a8⟩:=settles (q:=q) hB 120 ρ ρ hp I rfl h4 I.lw hz
 have e:mix ρ σ'=ρ:=by
  unfold mix
  rw [a7.wk,a7.row,a7.log,a7.lastRow]
 have hp':phi σ'≤120:=by unfold phi at hp ⊢;rw [a7.wk,a7.row];exact hp
 obtain ⟨l,l',σ'',τ'',b1,b2,b3,b4,b5,b6,b7,b8⟩:=settles (q:=q) hB 120 ρ σ' hp' (by rw [e];exact I) a7.roots.symm h4 (by rw [a7.lkW];exact I.lw) hz
 obtain rfl:=a3.det b3
 have e2:mix σ' τ''=τ'':=b8.eq.symm
 rw [e2] at b5
 refine ⟨k,l',σ',τ'',by omega,by omega,a3,b4,b5,?_,?_⟩
 ·rw [b8.eq];exact a6
 ·rw [b8.roots,a7.roots]
end
def numOf (i:Int):Nat:=i.natAbs % 1000000000
def scriptOf (is:List Int):List Nat:=(is.take 24).map numOf
def elt0 (v_n:AV):M AV:=bd (bd (rt v_n) λ a5=>absM a5) λ a3=>bd (bd (rt (.int 10)) λ a6=>bd (rt (.int 9)) λ a7=>powM a6 a7) λ a4=>modM a3 a4
theorem elt0_eq {i:Int} {μ:Mem}:elt0 (.int i) μ=some (.int (numOf i),μ):=by
 have:(0:Int) < 1000000000:=by decide
 have h2:Int.fmod (Int.natAbs i) 1000000000=((i.natAbs % 1000000000:Nat):Int):=by
  rw [Int.fmod_eq_emod_of_nonneg _ (by decide)];rfl
 show (if 0 < (1000000000:Int) then rt (AV.int (Int.fmod (Int.natAbs i) 1000000000)) else fl) μ=_
 rw [if_pos this,h2];rfl
theorem bd_some {α β:Type} {m:M α} {f:α→M β} {μ μ':Mem} {a:α} (e:m μ=some (a,μ')):bd m f μ=f a μ':=by unfold bd;rw [e]
theorem law0_eq (is:List Int):f_law0 (is.map AV.int) []=some (.nxt (.obj 1),[.list ((is.take 24).map AV.int), .list (nums (scriptOf is))]):=by
 have e1:(is.map AV.int).take 24=(is.take 24).map AV.int:=List.map_take.symm
 have h:wp (comp (λ v_n=>[none,some v_n,none]) (.obj 0) (λ v_n=>(rt true)) elt0) (λ a μ=>a= .obj 1∧μ=[.list ((is.take 24).map AV.int), .list (nums (scriptOf is))]) [.list ((is.take 24).map AV.int)]:=by
  refine wp_compR (λ _=>true) (λ v=>match v with | .int i=> .int (numOf i) | _=> .none) rfl (by simp [List.length_take];unfold big;omega) (λ x hx=>⟨rfl,λ _=> ?_⟩) ?_
  ·obtain ⟨i,_,rfl⟩:=List.mem_map.mp hx
   exact elt0_eq
  ·refine wp_of rfl ⟨rfl,?_⟩
   rw [List.filter_eq_self.mpr (λ _ _=>rfl)]
   simp only [List.map_map,scriptOf,nums,List.cons_append,List.nil_append]
   rfl
 obtain ⟨a,μ',e,rfl,rfl⟩:=h
 have h1:(bd (al (.list ((is.map AV.int).take 24))) λ a8=>comp (λ v_n=>[none,some v_n,none]) a8 (λ v_n=>(rt true)) elt0) []=some (.obj 1,[.list ((is.take 24).map AV.int), .list (nums (scriptOf is))]):=by
  rw [e1,bd_some (show al (.list ((is.take 24).map AV.int)) []=some (.obj 0,[.list ((is.take 24).map AV.int)]) from rfl)]
  exact e
 show bd (bd (al (.list ((is.map AV.int).take 24))) λ a8=>comp (λ v_n=>[none,some v_n,none]) a8 (λ v_n=>(rt true)) elt0) (λ v_script=>rt (Fl.nxt v_script)) []=_
 rw [bd_some h1]
 rfl
def K0:Ad:=⟨3,12,13,7,8,9,5,6,10⟩
def lim0:AO:= .inst .limits [("width", .int 64),("depth", .int 50),("steps", .int 1000000),("text", .int 100000),("items", .int 10000)]
def mem1 (o0 o1:AO):Mem:=[o0,o1,lim0, .inst .heap [("limits", .obj 2),("last", .int 0),("zero", .obj 4)], .list [], .list [], .list [], .dI false [], .dI false [], .list [], .list [], .tup [.obj 5, .obj 6, .obj 7, .obj 8, .obj 9, .obj 10]]
def mem2 (o0 o1:AO):Mem:=[o0,o1,lim0, .inst .heap [("limits", .obj 2),("last", .int 0),("zero", .obj 4)], .list [], .list [], .list [], .dI false [], .dI false [], .list [], .list [.obj 12], .tup [.obj 5, .obj 6, .obj 7, .obj 8, .obj 9, .obj 10], .inst .counter [("heap", .obj 3),("destroy", .dstr),("places", .obj 13)], .dI false []]
def lt0 (q:Nat):LT:=⟨.obj 1, .obj 3, .obj 5, .obj 7,K0.cv q⟩
def rest1 (v_script v_rescue:AV):M (Fl LT) :=
 bd (bd (new .limits λ o=>f_Limits_init o (.int 64) (.int 50) (.int 1000000) (.int 100000) (.int 10000)) λ a12=>new .heap λ o=>f_Heap_init o a12) λ v_heap =>
 bd (mkL []) λ t_log=>bd (mkL []) λ t_heard=>bd (al (.dI false [])) λ t_world=>bd (al (.dI false [])) λ t_real=>bd (mkL []) λ t_roots=>bd (mkL []) λ t_box=>bd (al (.tup [t_log,t_heard,t_world,t_real,t_roots,t_box])) λ _=> 
 rt (Fl.nxt ⟨v_script,v_heap,t_log,t_world,⟨t_heard,t_real,v_rescue,t_roots,t_box⟩⟩)
theorem rest1_eq {o0 o1:AO} {x:AV}:rest1 (.obj 1) x [o0,o1]=some (.nxt ⟨.obj 1, .obj 3, .obj 5, .obj 7,⟨.obj 6, .obj 8,x, .obj 9, .obj 10⟩⟩,mem1 o0 o1):=by kernel_rfl
def rescueOf (ns:List Nat):Nat:=ns.sum % 4
theorem sum_cast (ns:List Nat):(ns.map λ n:Nat=>(n:Int)).sum=((ns.sum:Nat):Int):=by
 induction ns with
 | nil=>rfl
 | cons a ns ih=>simp only [List.map_cons,List.sum_cons,ih];omega
theorem law1_eq {o0:AO} {ns:List Nat}:f_law1 (.obj 1) [o0, .list (nums ns)]=some (.nxt (lt0 (rescueOf ns)),mem1 o0 (.list (nums ns))):=by
 have h:(bd (bd (rt (AV.obj 1)) λ a11=>sumM a11) λ a9=>bd (rt (.int 4)) λ a10=>modM a9 a10) [o0, .list (nums ns)]=some (.int (rescueOf ns),[o0, .list (nums ns)]):=by
  have h1:(bd (rt (AV.obj 1)) λ a11=>sumM a11) [o0, .list (nums ns)]=some (.int (ns.sum:Nat),[o0, .list (nums ns)]):=by
   show (bd (opt (intsOf (nums ns))) λ is=>rt (AV.int is.sum)) [o0, .list (nums ns)]=_
   rw [intsOf_nums]
   show some (AV.int (ns.map λ n:Nat=>(n:Int)).sum,_)=_
   rw [sum_cast]
  rw [bd_some h1]
  show (if 0 < (4:Int) then rt (AV.int (Int.fmod (ns.sum:Nat) 4)) else fl) [o0, .list (nums ns)]=_
  rw [if_pos (by decide),Int.fmod_eq_emod_of_nonneg _ (by decide)];rfl
 show bd _ (λ v_rescue=>rest1 (.obj 1) v_rescue) _=_
 rw [bd_some h]
 exact rest1_eq
def own0 (o1:AO):Own
 | 1=> .im o1 | 3=> .heap | 4=> .zero | 5=> .log | 6=> .heard | 7=> .world | 8=> .real | 9=> .roots | 10=> .box | 12=> .counter | 13=> .places | _=> .junk
def S0:S:=⟨λ _=>⟨.s .none,0,false,false,false,[]⟩,[],[],0,[],[],[],λ _=>⟨.s .none,false,false⟩,0,[],false,false,λ _=>false⟩
theorem own0_ge {o1:AO} {i:Nat} (h:14≤i):own0 o1 i= .junk:=by
 unfold own0
 split <;> first | omega | rfl
def tagOf:Role→Nat
 | .heap=>3 | .zero=>4 | .log=>5 | .heard=>6 | .world=>7 | .real=>8 | .roots=>9 | .box=>10 | .counter=>12 | .places=>13 | _=>0
theorem own0_tag {o1:AO} {i:Nat} (h:(own0 o1 i).once=true):tagOf (own0 o1 i)=i:=by
 unfold own0 at h ⊢
 split <;> first | rfl | (simp_all [Role.once];done)
theorem rep0 {o0 o1:AO}:Rep K0 (own0 o1) S0 (mem2 o0 o1) where
 len i h:=own0_ge h
 desc i o h:=by
  match i,h with
  | 0,h=>trivial
  | 1,h=>cases h;exact rfl
  | 2,h=>trivial
  | 3,h=>cases h;exact ⟨.obj 2, .obj 4,⟨4,rfl,rfl⟩,rfl⟩
  | 4,h=>cases h;exact ⟨[],rfl, .nil⟩
  | 5,h=>cases h;exact rfl
  | 6,h=>cases h;exact rfl
  | 7,h=>cases h;exact ⟨[],rfl, .nil⟩
  | 8,h=>cases h;exact ⟨[],rfl, .nil⟩
  | 9,h=>cases h;exact rfl
  | 10,h=>cases h;exact rfl
  | 11,h=>trivial
  | 12,h=>cases h;exact rfl
  | 13,h=>cases h;exact rfl
  | n+14,h=>rw [own0_ge (by omega)];trivial
 uniq i j e ho:=by
  have h1:=own0_tag ho
  have h2:=own0_tag (show (own0 o1 j).once=true by rw [← e];exact ho)
  rw [← h1,← h2,e]
 bnd i:=by
  unfold own0
  split <;> exact ⟨Nat.le_refl _,Nat.le_refl _⟩
 kH:=rfl
 kC:=rfl
 kP:=rfl
 kW:=rfl
 kR:=rfl
 kO:=rfl
 kL:=rfl
 kE:=rfl
 kB:=rfl
section
variable {D D' ns ds:List Nat} {B B':Nat} {σ τ j ρ σ' τ':S} {n m s t x a d q:Nat} {pv old:PV}
theorem InvD.sameOk (I:InvD D B σ) (hB:B≤60):SameOk σ:=by
 have h3:B * B≤60 * 60:=Nat.mul_le_mul hB hB
 have h2:=I.degLen
 have h4:=I.wl
 refine ⟨I.lw,I.lr,I.lt,by unfold big;omega,by unfold big;omega,I.fr,I.cc,I.ct,I.ds,λ n hn=> ?_,λ n hn=>by rw [I.cc n hn];exact I.ko n hn⟩
 rw [I.cc n hn]
 have:=I.ml hn
 unfold big;omega
theorem InvD.ready (I:InvD D B σ) (hB:B≤60) (h4:σ.roots.length=4) (hz:σ.zero.length≤100000):Ready σ:=by
 have h1:=I.wl
 have h2:=I.rl
 refine ⟨⟨I.lw,I.lr,I.lt,by unfold big;omega,by unfold big;omega,by unfold big;omega,I.rb,λ n hn=>I.rb n (I.sub n hn),I.lb⟩,I.closed,λ i hi=> ?_,λ t ht=> ?_,λ p m hp h=>I.target hp h⟩
 ·have hlt:i < σ.roots.length:=by omega
  exact ⟨σ.roots[i],List.getElem?_eq_getElem hlt,I.ro _ (List.getElem_mem hlt)⟩
 ·have:=I.ml ht
  have h5:=I.wkl ht
  exact ⟨I.sub t ht,I.cc t ht,by unfold big;omega,I.ko t ht,I.rb t (I.sub t ht),by unfold big;omega⟩
theorem Inv.hnew (I:Inv B σ) (hB:B≤60) (hz:σ.zero.length≤100000) (way place:Nat) (b:Bool) (hp:LS σ place) (hw:way < 3):StoreOk (σ.newT way b) place∧ ∃ v,((σ.newT way b).row place).c= .s v:=by
 have J:=(I.newT (b:=b) hw).1
 have hl:=newLS (b:=b) I hw hp
 refine ⟨J.store_ok hl (by omega) ?_,hl.2⟩
 rw [newT_zero hw]
 simp only [List.length_append,List.length_singleton]
 unfold big;omega
def laid (σ:S) (j:Nat):S:= {σ with wk:=σ.wk ++ [σ.last],lastRow:=σ.last}.setRow σ.last ⟨.s (.int j),false,false⟩
def St1 (σ:S) (j:Nat):S :=
 let σ1:=σ.freshV (.int j)
 let σ2:S:= {σ1 with real:=σ1.real ++ [σ.last+1]}
 let σ3:S:= {σ2 with wk:=σ2.wk ++ [σ.last+1],lastRow:=σ.last+1}.setRow (σ.last+1) ⟨.s (.int j),false,false⟩
 {σ3 with roots:=σ3.roots ++ [σ.last+1]}
def St:Nat→S
 | 0=>S0
 | j+1=>St1 (St j) j
structure StF (σ:S) (j:Nat):Prop where
 lk:σ.lkR=false∧σ.lkW=false∧ ∀ n,σ.lkT n=false
 la:σ.last=j∧σ.lastRow=j
 re:σ.real.length=j∧ ∀ x∈σ.real,x≤j
 wk:σ.wk=σ.real
 ro:σ.roots=σ.real
theorem stF: ∀ j,StF (St j) j
 | 0=>⟨⟨rfl,rfl,λ _=>rfl⟩,⟨rfl,rfl⟩,⟨rfl,λ x h=>by cases h⟩,rfl,rfl⟩
 | j+1=>by
  have h:=stF j
  have hl:=h.la.1
  refine ⟨h.lk,⟨congrArg (· +1) hl,congrArg (· +1) hl⟩,⟨?_,λ x hx=> ?_⟩,?_,?_⟩
  ·show ((St j).real ++ [(St j).last+1]).length=_
   simp [h.re.1]
  ·have hx:x∈(St j).real ++ [(St j).last+1]:=hx
   rcases List.mem_append.mp hx with q | q
   ·have:=h.re.2 x q;omega
   ·rw [List.mem_singleton.mp q,hl];exact Nat.le_refl _
  ·show (St j).wk ++ [(St j).last+1]=(St j).real ++ [(St j).last+1];rw [h.wk]
  ·show (St j).roots ++ [(St j).last+1]=(St j).real ++ [(St j).last+1];rw [h.ro]
theorem St4_lists:(St 4).wk=[1,2,3,4]∧(St 4).real=[1,2,3,4]∧(St 4).roots=[1,2,3,4]∧(St 4).zero=[]∧(St 4).heard=[]∧(St 4).log=[]∧(St 4).last=4∧(St 4).lastRow=4:=⟨rfl,rfl,rfl,rfl,rfl,rfl,rfl,rfl⟩
theorem St4_at: ∀ n∈[1,2,3,4],(St 4).th n=⟨.s (.int ((n - 1:Nat):Int)),1,false,false,false,[]⟩∧(St 4).row n=⟨.s (.int ((n - 1:Nat):Int)),false,false⟩∧(St 4).deg n=1:=by
 intro n hn
 simp only [List.mem_cons,List.not_mem_nil,or_false] at hn
 rcases hn with rfl | rfl | rfl | rfl <;> exact ⟨rfl,rfl,rfl⟩
theorem inv4:Inv 4 (St 4):=by
 obtain ⟨e1,e2,e3,e4,e5,e6,e7,e8⟩:=St4_lists
 have at4:=St4_at
 have F:=stF 4
 refine ⟨F.lk.2.1,F.lk.1,F.lk.2.2,by rw [e1];decide,by rw [e1,e2];exact λ _ h=>h,by rw [e2,e7];decide,by rw [e7,e8];exact Nat.le_refl _,?_,?_,?_,?_,?_,?_,?_,?_,?_,?_,?_,?_,?_,?_,by rw [e5,e6],by rw [e6];exact Nat.zero_le _,by rw [e2];decide,by rw [e3];decide⟩
 ·rw [e1,e2];intro n hn;rw [(at4 n hn).1];simp [hn]
 ·rw [e1];intro n hn;rw [(at4 n hn).1,(at4 n hn).2.1]
 ·rw [e1];intro n hn;rw [(at4 n hn).1,(at4 n hn).2.1]
 ·rw [e1];intro n hn;rw [(at4 n hn).1,(at4 n hn).2.1]
 ·rw [e1];intro n hn;rw [(at4 n hn).1,(at4 n hn).2.2];rfl
 ·rw [e1];intro n hn m hm;rw [(at4 n hn).2.1] at hm;simp [goals] at hm
 ·rw [e1];intro n hn m hm;rw [(at4 n hn).2.1] at hm;simp [members] at hm
 ·rw [e1];intro n hn;rw [(at4 n hn).2.1];exact List.nodup_nil
 ·rw [e1];intro n hn;rw [(at4 n hn).2.1];intro es h;cases h
 ·rw [e1];intro t ht s
  rw [(at4 t ht).1]
  constructor
  ·intro h;cases h
  ·rintro ⟨h1,h2⟩;rw [(at4 s h1).2.1] at h2;cases h2
 ·rw [e1];intro t ht;rw [(at4 t ht).1];exact List.nodup_nil
 ·rw [e3];intro r hr;exact ⟨by rw [e1];exact hr,_,by rw [(at4 r hr).2.1]⟩
 ·rw [e1];intro n hn h;rw [(at4 n hn).2.2] at h;cases h
 ·rw [e4];intro n hn;cases hn
def letFour (σ:S):S:=σ.roots.foldl S.letGo {σ with roots:=[]}
theorem Inv.letFour (I:Inv B σ):Inv B (letFour σ)∧(Pl.letFour σ).roots=[]∧(Pl.letFour σ).zero.length≤σ.zero.length+4:=by
 have L:=letAll σ.roots {σ with roots:=[]}
 have hz:=foldLet_zero σ.roots {σ with roots:=[]}
 change LetAll σ.roots {σ with roots:=[]} (Pl.letFour σ) at L
 change (Pl.letFour σ).zero.length≤_ at hz
 generalize Pl.letFour σ=τ at L hz
 have s:=L.same
 have ewk:τ.wk=σ.wk:=s.wk
 have erow:τ.row=σ.row:=s.row
 have ero:τ.roots=[]:=s.roots
 have elog:τ.log=σ.log:=s.log
 have elr:τ.lastRow=σ.lastRow:=s.lastRow
 have ela:τ.last=σ.last:=s.last
 have erl:τ.real=σ.real:=s.real
 have hth: ∀ x,τ.th x= {σ.th x with cnt:=(σ.th x).cnt - σ.roots.count x}:=L.th
 have hdeg: ∀ x,τ.deg x+σ.roots.count x=σ.deg x:=λ x=>by
  unfold S.deg
  rw [ero,ewk,erow]
  simp only [List.count_nil]
  omega
 have hwf: ∀ t,(τ.th t).weak=(σ.th t).weak:=λ t=>by rw [hth]
 refine ⟨⟨s.lkW.trans I.lw,s.lkR.trans I.lr,λ n=>by rw [s.lkT];exact I.lt n,by rw [ewk];exact I.nd,by rw [ewk,erl];exact I.sub,by rw [erl,ela];exact I.rb,by rw [elr,ela];exact I.lb,?_,?_,?_,?_,?_,by rw [ewk,erow];exact I.tg,by rw [ewk,erow];exact I.ms,by rw [ewk,erow];exact I.gn,by rw [ewk,erow];exact I.ko,?_,?_,by rw [ero];intro r hr;(cases hr),?_,?_,by rw [L.heard,elog];exact I.hl,?_,by rw [erl];exact I.rl,by rw [ero];exact Nat.zero_le _⟩,ero,?_⟩
 ·rw [erl,ewk];intro n hn;rw [hth];exact I.fr n hn
 ·rw [ewk,erow];intro n hn;rw [hth];exact I.cc n hn
 ·rw [ewk,erow];intro n hn;rw [hth];exact I.bl n hn
 ·rw [ewk,erow];intro n hn;rw [hth];exact I.ds n hn
 ·rw [ewk];intro n hn
  rw [hth]
  have h1:=I.ct n hn
  have h2:=hdeg n
  dsimp only
  omega
 ·rw [ewk,erow];intro t ht s;rw [hwf];exact I.we t ht s
 ·rw [ewk];intro t ht;rw [hwf];exact I.wn t ht
 ·rw [ewk];intro n hn h0
  left
  by_cases q:n∈σ.roots
  ·refine L.z3 n q ?_
   rw [hth]
   have h1:=I.ct n hn
   have h2:=hdeg n
   dsimp only
   omega
  ·have h2:=hdeg n
   rw [List.count_eq_zero.mpr q] at h2
   rcases I.zm n hn (by omega) with h | h
   ·exact L.z1 n h
   ·cases h
 ·rw [erl];intro n hn
  rcases L.z2 n hn with h | h
  ·exact I.zs n h
  ·exact I.sub n (I.ro n h).1
 ·rw [elog,erl]
  have:(σ.real.filter λ n=>(τ.th n).ds)=σ.real.filter λ n=>(σ.th n).ds:=List.filter_congr λ n hn=>by rw [hth]
  rw [this];exact I.ll
 ·have h1:=I.r4
  have h2:({σ with roots:=[]}:S).zero=σ.zero:=rfl
  rw [h2] at hz
  omega
end
theorem lt_s {q:Nat}:(lt0 q).script= .obj 1:=rfl
theorem lt_h {q:Nat}:(lt0 q).heap= .obj K0.heap:=rfl
theorem lt_l {q:Nat}:(lt0 q).log= .obj K0.log:=rfl
theorem lt_w {q:Nat}:(lt0 q).world= .obj K0.world:=rfl
theorem lt_c {q:Nat}:(lt0 q).cv=K0.cv q:=rfl
section
variable {K:Ad} {own own':Own} {σ σ':S} {μ μ':Mem} {α:Type}
variable {Q:AV→Mem→Prop} {v c s x:AV} {n k q B:Nat}
theorem cv_b:(K.cv q).box= .obj K.box:=rfl
theorem cv_h:(K.cv q).heard= .obj K.heard:=rfl
theorem cv_r:(K.cv q).real= .obj K.real:=rfl
theorem cv_o:(K.cv q).roots= .obj K.roots:=rfl
theorem cv_q:(K.cv q).rescue= .int q:=rfl
def extra:List Nat:=[1441,1603,8,9]
theorem nums_cat {xs ys:List Nat}:nums xs ++ nums ys=nums (xs ++ ys):=by simp [nums]
theorem wp_addL {i j:Nat} {xs ys:List AV} (hi:μ[i]? =some (.list xs)) (hj:μ[j]? =some (.list ys)) (hl:xs.length+ys.length≤big):wp (addM (.obj i) (.obj j)) Q μ=wp (al (.list (xs ++ ys))) Q μ:=by
 show wp (bd (rdL (.obj i)) λ xs=>bd (rdL (.obj j)) λ ys=>if xs.length+ys.length≤big then al (.list (xs ++ ys)) else fl) Q μ=_
 rw [wp_bd,wp_eq (rdL_eq hi),wp_bd,wp_eq (rdL_eq hj),if_pos hl]
theorem law2_run {o0:AO} {ns:List Nat} {q:Nat} (hl:ns.length≤24):wp (f_law2 (lt0 q)) (λ f _=>f= .ret (.bool true)) (mem1 o0 (.list (nums ns))):=by
 unfold f_law2
 rw [wp_bd]
 refine wp_of (a:= .obj K0.counter) (μ':=mem1 o0 (.list (nums ns)) ++ [.inst .counter [("heap", .obj 3),("destroy", .dstr),("places", .obj 13)], .dI false []]) (by kernel_rfl) ?_
 rw [wp_bd]
 refine wp_of (a:= .none) (μ':=mem2 o0 (.list (nums ns))) (by kernel_rfl) ?_
 have R0:=rep0 (o0:=o0) (o1:= .list (nums ns))
 have hs:own0 (.list (nums ns)) 1= .im (.list (nums ns)):=rfl
 generalize own0 (.list (nums ns))=own at R0 hs
 generalize mem2 o0 (.list (nums ns))=μ at R0 ⊢
 simp only [lt_s,lt_h,lt_l,lt_w,lt_c,cv_b,cv_h,cv_r,cv_o,cv_q]
 walk_at "w-s"
 refine wp_forR (n:=4) (λ j _ μ'=> ∃ own',Ext own own'∧Rep K0 own' (St j) μ') (by decide) ⟨own,Ext.refl,R0⟩ (λ j _ μ1 hj h=> ?_) (λ _ μ1 h=> ?_)
 ·obtain ⟨own1,e1,R1⟩:=h
  have F:=stF j
  walk_at "w-s"
  rw [wp_chkC R1]
  refine wp_fresh R1 (pv:= .int j) (x:= .int (Int.ofNat j)) rfl F.lk.2.2 λ own2 μ2 v e2 hv R2=> ?_
  rw [wp_number R2 hv]
  have hlen:(St j).real.length < big:=by rw [F.re.1];unfold big;omega
  have hnm:(St j).last+1∉(St j).real:=λ hm=>by have:=F.re.2 _ hm;rw [F.la.1] at this;omega
  refine wp_setReal R2 F.lk.1 hlen hnm hv λ μ3 R3=> ?_
  walk_at "w-s"
  refine wp_alC R3 (.nw (.list [.str "S", .bool false, .bool false, .int (Int.ofNat j)])) (by simp) λ own4 μ4 a4 e4 h4 j4 b4 R4=> ?_
  rw [wp_number R4 (hv.th e4)]
  refine wp_newRow (c:= .s (.int j)) (bl:=false) (x:= .int (Int.ofNat j)) R4 F.lk.2.1 (by show (St j).wk.length < big;rw [F.wk];exact hlen) (by show _∉(St j).wk;rw [F.wk];exact hnm) (by show (St j).lastRow < _;rw [F.la.1,F.la.2];omega) h4 (.inl ⟨_,rfl,rfl⟩) λ own5 μ5 e5 R5=> ?_
  walk_at "w-s"
  rw [wp_chkLO R5,wp_number R5 ((hv.th e4).th e5)]
  refine wp_appRoots R5 (by show (St j).roots.length < big;rw [F.ro];exact hlen) λ μ6 R6=> ?_
  exact ⟨own5,((e1.trans e2).trans e4).trans e5,R6⟩
 obtain ⟨own1,e1,R1⟩:=h
 have hs1:own1 1= .im (.list (nums ns)):=e1.at hs rfl
 have I1:=inv4
 have r1:(St 4).roots.length=4:=rfl
 have z1:(St 4).zero.length=0:=rfl
 generalize St 4=σ at R1 I1 r1 z1
 clear R0 hs e1 own μ
 walk_at "w-s"
 refine wp_alC R1 (.tm (.list (nums extra))) (.inr (.inl rfl)) λ own2 μ2 a2 e2 h2 j2 b2 R2=> ?_
 rw [wp_addL (R2.im (e2.at hs1 rfl)) (R2.tm h2) (by simp [nums,extra];unfold big;omega),nums_cat]
 refine wp_alC R2 (.tm (.list (nums (ns ++ extra)))) (.inr (.inl rfl)) λ own3 μ3 a3 e3 h3 j3 b3 R3=> ?_
 clear R1 R2 hs1 h2 j2 b2 j3 b3 e2 e3
 have hlen:(ns ++ extra).length≤28:=by rw [List.length_append];show _+4≤_;omega
 generalize ns ++ extra=script at h3 hlen
 refine wp_forLl (λ xs _ μ'=> ∃ ds ks own' σ',script=ds ++ ks∧xs=nums ks∧Ext own3 own'∧Rep K0 own' σ' μ'∧Inv (4+ds.length) σ'∧σ'.roots.length=4∧σ'.zero.length≤3 * ds.length) (R3.tm h3) ⟨[],script,own3,σ,rfl,rfl,Ext.refl,R3,I1,r1,by rw [z1];exact Nat.zero_le _⟩ (λ xs _ μ' h=> ?_) (λ x xs _ μ' h=> ?_) (λ _ μ' h=> ?_)
 ·obtain ⟨ds,ks,own',σ',q1,q2,q3,q4,q5,q6,q7⟩:=h
  exact q4.tm (q3.at h3 rfl)
 ·obtain ⟨ds,ks,own',σ',q1,q2,q3,R',I',r',z'⟩:=h
  cases ks with
  | nil=>cases q2
  | cons n ks =>
  simp only [nums,List.map_cons,List.cons.injEq] at q2
  obtain ⟨rfl,rfl⟩:=q2
  have hds:ds.length+1≤28:=by rw [q1] at hlen;simp only [List.length_append,List.length_cons] at hlen;omega
  walk_at "w-s"
  refine wp_deed R' (I'.ready (by omega) r' (by omega)) (I'.hnew (by omega) (by omega)) λ own4 μ4 σ4 e4 hd R4=> ?_
  obtain ⟨I4,z4,ro4⟩:=I'.deed hd
  have r4:σ4.roots.length=4:=by rw [ro4];exact r'
  have hnext: ∀ own5 μ5 σ5,Ext own4 own5→Rep K0 own5 σ5 μ5→Inv (4+ds.length+1) σ5→σ5.roots.length=4→σ5.zero.length≤3 * (ds.length+1)→loopQ (λ xs _ μ'=> ∃ ds ks own' σ',script=ds ++ ks∧xs=nums ks∧Ext own3 own'∧Rep K0 own' σ' μ'∧Inv (4+ds.length) σ'∧σ'.roots.length=4∧σ'.zero.length≤3 * ds.length) (List.map (λ n:Nat=>AV.int n) ks) () (.nxt ()) μ5:=λ own5 μ5 σ5 e5 R5 I5 r5 z5 =>
   ⟨ds ++ [n],ks,own5,σ5,by rw [q1];simp,rfl,(q3.trans e4).trans e5,R5,by simpa [Nat.add_assoc] using I5,r5,by simpa using z5⟩
  walk_at "w-s"
  by_cases h9:((n % 10:Nat):Int)=9
  ·rw [if_pos (by simpa using h9)]
   walk_at "w-s"
   rw [wp_chkC R4]
   obtain ⟨k,k',σ5,σ6,hk,hk',st,st',I6,z6,ro6⟩:=I4.settle (q:=q) (.inr r4) (by omega) (by omega)
   refine wp_settle st hk R4 λ own5 μ5 e5 R5=> ?_
   refine wp_settled st' hk' R5 λ own6 μ6 e6 R6=> ?_
   walk_at "w-s"
   rw [wp_eqNums R6.heard R6.log,I6.hl]
   walk_at "w-s"
   refine wp_same R6 (I6.sameOk (by omega)) λ own7 μ7 e7 R7=> ?_
   walk_at "w-s"
   exact hnext own7 μ7 σ6 ((e5.trans e6).trans e7) R7 I6 (by rw [ro6];exact r4) (by rw [z6];exact Nat.zero_le _)
  ·rw [if_neg (by simpa using h9)]
   walk_at "w-s"
   exact hnext own4 μ4 σ4 Ext.refl R4 I4 r4 (by omega)
 obtain ⟨ds,ks,own',σ',q1,q2,q3,R',I',r',z'⟩:=h
 have hds:ds.length≤28:=by rw [q1] at hlen;simp only [List.length_append] at hlen;omega
 have hB:4+ds.length≤60:=by omega
 have hz:σ'.zero.length≤1000:=by omega
 clear R3 I1 r1 z1 h3
 generalize 4+ds.length=B at I' hB
 rw [thnQ_nxt]
 walk_at "w-s"
 have hgone: ∀ {G:AV→Cx0} {QQ:AV→Mem→Prop},(∀ own4 μ4 a4 vs,Ext own' own4→own4 a4= .tm (.list vs)→Things own4 vs σ'.roots→Rep K0 own4 σ' μ4→QQ (.obj a4) μ4)→wp (comp G (.obj K0.roots) (λ v_number=>(rt true)) (λ v_number=>(bd (rt (AV.obj K0.real)) λ a60=>bd (rt v_number) λ a61=>getI a60 a61))) QQ μ':=λ {G QQ} hq=>by
  refine wp_compL (λ xs acc μ4=>μ4=μ'∧ ∃ ds ks,σ'.roots=ds ++ ks∧xs=nums ks∧Things own' acc ds) R'.roots (by simp [nums,r'];unfold big;omega) ⟨rfl,[],σ'.roots,rfl,rfl, .nil⟩ (λ xs acc μ4 h=>by rw [h.1];exact R'.roots) (λ x xs acc μ4 h=> ?_) (λ acc μ4 h=> ?_)
  ·obtain ⟨rfl,ds,ks,p1,p2,p3⟩:=h
   cases ks with
   | nil=>cases p2
   | cons n ks =>
   simp only [nums,List.map_cons,List.cons.injEq] at p2
   obtain ⟨rfl,rfl⟩:=p2
   walk_at "w-s"
   refine wp_getReal R' (I'.sub n (I'.ro n (by rw [p1];simp)).1) λ v hv=> ?_
   exact ⟨rfl,ds ++ [n],ks,by rw [p1];simp,rfl,p3.snoc hv⟩
  ·obtain ⟨rfl,ds,ks,p1,p2,p3⟩:=h
   cases ks with
   | cons n ks=>cases p2
   | nil =>
   rw [List.append_nil] at p1
   subst p1
   refine wp_alC R' (.tm (.list acc)) (.inr (.inl rfl)) λ own4 μ4 a4 e4 h4 j4 b4 R4=> ?_
   exact hq own4 μ4 a4 acc e4 h4 (p3.ext e4) R4
 refine hgone λ own4 μ4 a4 vs e4 h4 t4 R4=> ?_
 clear hgone
 refine wp_alC R4 (.nw (.list [])) (by simp) λ own5 μ5 a5 e5 h5 j5 b5 R5=> ?_
 refine wp_clearRoots R5 h5 λ μ6 R6=> ?_
 have h6:own5 a4= .tm (.list vs):=e5.at h4 rfl
 have t6:=t4.ext e5
 walk_at "w-s"
 refine wp_forLl (λ xs _ μ'=> ∃ ds ks own7,σ'.roots=ds ++ ks∧Things own7 xs ks∧Ext own5 own7∧Rep K0 own7 (ds.foldl S.letGo {σ' with roots:=[]}) μ') (R6.tm h6) ⟨[],σ'.roots,own5,rfl,t6,Ext.refl,R6⟩ (λ xs _ μ' h=> ?_) (λ x xs _ μ' h=> ?_) (λ _ μ' h=> ?_)
 ·obtain ⟨ds,ks,own7,p1,p2,p3,R7⟩:=h
  exact R7.tm (p3.at h6 rfl)
 ·obtain ⟨ds,ks,own7,p1,p2,p3,R7⟩:=h
  cases p2 with
  | @cons _ n _ ks hx hxs =>
  walk_at "w-s"
  rw [wp_chkC R7]
  have hzl:=foldLet_zero ds {σ' with roots:=[]}
  have hdl:ds.length≤4:=by rw [← r',p1];simp only [List.length_append];omega
  have hz0:({σ' with roots:=[]}:S).zero=σ'.zero:=rfl
  rw [hz0] at hzl
  refine wp_letGo R7 hx (by unfold big;omega) λ μ8 R8=> ?_
  exact ⟨ds ++ [n],ks,own7,by rw [p1];simp,hxs,p3,by rw [List.foldl_append];exact R8⟩
 obtain ⟨ds,ks,own7,p1,p2,p3,R7⟩:=h
 cases p2 with
 | nil =>
 rw [List.append_nil] at p1
 subst p1
 obtain ⟨I7,ro7,z7⟩:=I'.letFour
 change Rep K0 own7 (letFour σ') μ' at R7
 generalize letFour σ'=σ7 at R7 I7 ro7 z7
 rw [thnQ_nxt]
 walk_at "w-s"
 rw [wp_chkC R7]
 obtain ⟨k,k',σ8,σ9,hk,hk',st,st',I9,z9,ro9⟩:=I7.settle (q:=q) (.inl ro7) hB (by omega)
 refine wp_settle st hk R7 λ own8 μ8 e8 R8=> ?_
 refine wp_settled st' hk' R8 λ own9 μ9 e9 R9=> ?_
 rw [wp_andV]
 walk_at "w-s"
 rw [wp_eqNums R9.heard R9.log,I9.hl]
 walk_at "w-s"
 refine wp_same R9 (I9.sameOk hB) λ own10 μ10 e10 R10=> ?_
 rfl
end
end Mine.Pl
section
open PySem PySem.W PyProof.Rows
namespace Mine
set_option maxRecDepth 100000 in
set_option maxHeartbeats 8000000 in
open_top hd for PySem.Challenge.rw_nz0184_01
end Mine
end
section
open PySem PySem.W PySem.Calls PyProof.Rows
namespace Mine
inductive F2 {α β:Type} (R:α→β→Prop):List α→List β→Prop
 | nil:F2 R [] []
 | cons {a b as bs}:R a b→F2 R as bs→F2 R (a :: as) (b :: bs)
namespace F2
variable {α β:Type} {R S:α→β→Prop}
theorem len {as:List α} {bs:List β} (h:F2 R as bs):as.length=bs.length:=by
 induction h with
 | nil=>rfl
 | cons _ _ ih=>simp [ih]
theorem mono (hm: ∀ a b,R a b→S a b) {as:List α} {bs:List β} (h:F2 R as bs):F2 S as bs:=by
 induction h with
 | nil=>exact .nil
 | cons h _ ih=>exact .cons (hm _ _ h) ih
theorem app {as as':List α} {bs bs':List β} (h:F2 R as bs) (h':F2 R as' bs'):F2 R (as ++ as') (bs ++ bs'):=by
 induction h with
 | nil=>exact h'
 | cons h _ ih=>exact .cons h ih
theorem at_ {as:List α} {bs:List β} (h:F2 R as bs): ∀ {i:Nat} {b:β},bs[i]? =some b→ ∃ a,as[i]? =some a∧R a b:=by
 induction h with
 | nil=>intro i b e;simp at e
 | @cons a b as bs hr _ ih =>
  intro i c e
  cases i with
  | zero=>simp at e;subst e;exact ⟨a,by simp,hr⟩
  | succ i=>simp at e;obtain ⟨x,h1,h2⟩:=ih e;exact ⟨x,by simpa using h1,h2⟩
theorem none_ {as:List α} {bs:List β} (h:F2 R as bs) {i:Nat} (e:bs[i]? =none):as[i]? =none:=by
 rw [List.getElem?_eq_none_iff] at *;rw [h.len];exact e
theorem set_ {as:List α} {bs:List β} (h:F2 R as bs) {a:α} {b:β} (hr:R a b): ∀ i,F2 R (as.set i a) (bs.set i b):=by
 induction h with
 | nil=>intro i;exact .nil
 | cons h1 h2 ih =>
  intro i
  cases i with
  | zero=>exact .cons hr h2
  | succ i=>exact .cons h1 (ih i)
theorem drop_ {as:List α} {bs:List β} (h:F2 R as bs): ∀ i,F2 R (as.drop i) (bs.drop i):=by
 induction h with
 | nil=>intro i;simp;exact .nil
 | cons h1 h2 ih =>
  intro i
  cases i with
  | zero=>exact .cons h1 h2
  | succ i=>exact ih i
theorem take_ {as:List α} {bs:List β} (h:F2 R as bs): ∀ i,F2 R (as.take i) (bs.take i):=by
 induction h with
 | nil=>intro i;simp;exact .nil
 | cons h1 h2 ih =>
  intro i
  cases i with
  | zero=>exact .nil
  | succ i=>exact .cons h1 (ih i)
end F2
theorem toNat_inj {c d:Char} (h:c.toNat=d.toNat):c=d:=Char.ext (UInt32.toNat_inj.mp h)
theorem ofString_inj {a b:String} (h:Str.ofString a=Str.ofString b):a=b:=by
 rw [Str.ofString_eq_toList,Str.ofString_eq_toList] at h
 injection h with h
 have h':a.toList.map Char.toNat=b.toList.map Char.toNat:=by simpa using h
 have: ∀ {l m:List Char},l.map Char.toNat=m.map Char.toNat→l=m:=by
  intro l
  induction l with
  | nil=>intro m e;cases m <;> simp_all
  | cons c l ih =>
   intro m e
   cases m with
   | nil=>simp at e
   | cons d m=>simp at e;rw [toNat_inj e.1,ih (by simpa using e.2)]
 have e:=this h'
 exact String.toList_injective e
theorem ofString_beq (a b:String):(Str.ofString a == Str.ofString b)=decide (a=b):=by
 by_cases h:a=b
 ·subst h;simp
 ·have: ¬ Str.ofString a=Str.ofString b:=λ e=>h (ofString_inj e)
  simp [h,this]
abbrev Led:=List (Addr × Obj)
def Cl.addr:Cl→Addr
 | .scalar=>59 | .array=>78 | .hash=>97 | .code=>116 | .glob=>135 | .ref=>155 | .heap=>218 | .counter=>331 | .limits=>367
inductive VR (fd:Option Addr) (adr:List Addr):Value→AV→Prop
 | none:VR fd adr .none .none
 | bool (b:Bool):VR fd adr (.bool b) (.bool b)
 | int (i:Int) (t:Tok):VR fd adr (.int i t) (.int i)
 | str (s:String) (t:Tok):VR fd adr (.str (Str.ofString s) t) (.str s)
 | obj {i:Nat} {a:Addr} (h:adr[i]? =some a):VR fd adr (.ref a) (.obj i)
 | dstr {f:Addr} (h:fd=some f):VR fd adr (.ref f) .dstr
theorem VR.mono {fd:Option Addr} {adr more:List Addr} {v:Value} {a:AV} (h:VR fd adr v a):VR fd (adr ++ more) v a:=by
 cases h with
 | obj h=>exact .obj (by rw [List.getElem?_append_left (by rw [List.getElem?_eq_some_iff] at h;exact h.1)];exact h)
 | dstr h=>exact .dstr h
 | _=>constructor
theorem VR.handed {fd:Option Addr} {adr:List Addr} {v:Value} {a:AV} (h:VR fd adr v a):handedIn v=true:=by cases h <;> rfl
theorem VR.pre {fd:Option Addr} {adr adr':List Addr} (p:adr <+: adr') {v:Value} {a:AV} (h:VR fd adr v a):VR fd adr' v a:=by
 obtain ⟨m,rfl⟩:=p;exact h.mono
def FE (fd:Option Addr) (adr:List Addr) (e:DictEntry) (p:String × AV):Prop:=(∃ t,e.key= .str (Str.ofString p.1) t)∧VR fd adr e.val p.2
theorem getL_skip {n:Str} {e:DictEntry} {es:List DictEntry} (hq:e.key.isStr n=false) (hr:e.refKey=false):getL n (e :: es)=getL n es:=by
 have h1:(e :: es).find? (λ x=>x.key.isStr n)=es.find? (λ x=>x.key.isStr n):=by simp [hq]
 have h2:(e :: es).any (λ x=>x.refKey)=es.any (λ x=>x.refKey):=by simp [hr]
 unfold getL
 rw [h1,h2]
theorem getL_hit {n:Str} {e:DictEntry} {es:List DictEntry} (hq:e.key.isStr n=true):getL n (e :: es)=some (some e.val):=by
 have h1:(e :: es).find? (λ x=>x.key.isStr n)=some e:=by simp [hq]
 unfold getL
 rw [h1]
theorem getL_FR {fd:Option Addr} {adr:List Addr} {es:List DictEntry} {fs:List (String × AV)} (h:F2 (FE fd adr) es fs) (f:String) :
  (∀ x,get f fs=some x→ ∃ v,getL (Str.ofString f) es=some (some v)∧VR fd adr v x)∧(get f fs=none→getL (Str.ofString f) es=some none):=by
 induction h with
 | nil=>exact ⟨λ x e=>by simp [get] at e,λ _=>rfl⟩
 | @cons e p es fs h1 h2 ih =>
  obtain ⟨⟨t,hk⟩,hv⟩:=h1
  have hq:e.key.isStr (Str.ofString f)=decide (p.1=f):=by rw [hk];show (Str.ofString p.1 == Str.ofString f)=_;exact ofString_beq _ _
  have hr:e.refKey=false:=by unfold DictEntry.refKey;rw [hk]
  unfold get
  by_cases hp:p.1=f
  ·rw [getL_hit (by rw [hq];simp [hp])]
   simp only [hp,if_true]
   exact ⟨λ x ex=>⟨e.val,rfl,by cases ex;exact hv⟩,λ ex=>by cases ex⟩
  ·rw [getL_skip (by rw [hq];simp [hp]) hr]
   simp only [hp,if_false]
   exact ih
theorem putL_FR {fd:Option Addr} {adr:List Addr} {es:List DictEntry} {fs:List (String × AV)} (h:F2 (FE fd adr) es fs) {f:String} {hsh:Int} {t:Tok} {v:Value} {x:AV} (hv:VR fd adr v x) :
  F2 (FE fd adr) (putL (Str.ofString f) hsh (.str (Str.ofString f) t) v es) (put f x fs):=by
 induction h with
 | nil=>exact .cons ⟨⟨t,rfl⟩,hv⟩ .nil
 | @cons e p es fs h1 h2 ih =>
  obtain ⟨⟨t',hk⟩,hv'⟩:=h1
  have hq:e.key.isStr (Str.ofString f)=decide (p.1=f):=by rw [hk];show (Str.ofString p.1 == Str.ofString f)=_;exact ofString_beq _ _
  unfold putL put
  by_cases hp:p.1=f
  ·simp only [hq,hp,decide_true,if_true]
   exact .cons ⟨⟨t',by rw [← hp];exact hk⟩,hv⟩ h2
  ·simp only [hq,hp,decide_false,if_false]
   exact .cons ⟨⟨t',hk⟩,hv'⟩ ih
theorem put_len {κ:Type} [DecidableEq κ] (k:κ) (v:AV): ∀ es:List (κ × AV),(put k v es).length≤es.length+1
 | []=>by simp [put]
 | e :: r=>by
  unfold put
  split
  ·simp
  ·have:=put_len k v r;simp;omega
section
variable {κ:Type} [DecidableEq κ] {κ':Type} [DecidableEq κ'] {g:κ'→κ} {fd:Option Addr} {adr:List Addr}
def PR (g:κ'→κ) (fd:Option Addr) (adr:List Addr) (e:κ × Value) (p:κ' × AV):Prop:=e.1=g p.1∧VR fd adr e.2 p.2
theorem valueAt_PR (hg: ∀ a b,g a=g b→a=b) {kvs:List (κ × Value)} {es:List (κ' × AV)} (h:F2 (PR g fd adr) kvs es) (k:κ') :
  (∀ x,get k es=some x→ ∃ v,valueAt kvs (g k)=some v∧VR fd adr v x)∧(get k es=none→valueAt kvs (g k)=none):=by
 induction h with
 | nil=>exact ⟨λ x e=>by simp [get] at e,λ _=>rfl⟩
 | @cons e p kvs es h1 h2 ih =>
  obtain ⟨hk,hv⟩:=h1
  unfold get valueAt
  by_cases hp:p.1=k
  ·have:e.1=g k:=by rw [hk,hp]
   simp only [hp,if_true]
   refine ⟨λ x ex=>⟨e.2,by simp [List.find?_cons,this],by cases ex;exact hv⟩,λ ex=>by cases ex⟩
  ·have: ¬ e.1=g k:=λ q=>hp (hg _ _ (hk ▸ q))
   simp only [hp,if_false]
   have go:valueAt kvs (g k)=((e :: kvs).find? λ kv=>kv.1=g k).map (·.2):=by unfold valueAt;simp [List.find?_cons,this]
   rw [← go]
   exact ih
theorem stored_PR (hg: ∀ a b,g a=g b→a=b) {kvs:List (κ × Value)} {es:List (κ' × AV)} (h:F2 (PR g fd adr) kvs es) (k:κ') {v:Value} {x:AV} (hv:VR fd adr v x) (nd:(kvs.map (·.1)).Nodup) :
  F2 (PR g fd adr) (stored kvs (g k) v) (put k x es):=by
 induction h with
 | nil=>exact .cons ⟨rfl,hv⟩ .nil
 | @cons e p kvs es h1 h2 ih =>
  obtain ⟨hk,hv'⟩:=h1
  simp only [List.map_cons,List.nodup_cons] at nd
  unfold put
  by_cases hp:p.1=k
  ·have he:e.1=g k:=by rw [hk,hp]
   simp only [hp,if_true]
   have hno: ∀ q∈kvs,¬ q.1=g k:=λ q hq e'=>nd.1 (by rw [he,← e'];exact List.mem_map_of_mem hq)
   have hmap:kvs.map (λ kv=>if kv.1=g k then (kv.1,v) else kv)=kvs:=by
    conv=>rhs;rw [← List.map_id kvs]
    exact List.map_congr_left λ q hq=>by simp [hno q hq]
   unfold stored
   simp only [List.any_cons,he,decide_true,Bool.true_or,if_true,List.map_cons,hmap]
   exact .cons ⟨rfl,hv⟩ h2
  ·have he: ¬ e.1=g k:=λ q=>hp (hg _ _ (hk ▸ q))
   simp only [hp,if_false]
   have:=ih nd.2
   unfold stored at this ⊢
   simp only [List.any_cons,he,decide_false,Bool.false_or,List.map_cons,if_false]
   split
   ·rename_i q;rw [if_pos q] at this;exact .cons ⟨hk,hv'⟩ this
   ·rename_i q;rw [if_neg q] at this;exact .cons ⟨hk,hv'⟩ this
end
abbrev tupOf (its:Array Value) (n:Nat):Obj:= {cls:= .type "tuple",data:= .seq its n}
structure Gd where
 prog:Program
 w:World
 K:Frag
 p:Program
 loose:List Str
 mean:ExcName→Option Value
 mg:Str→Option Value
 mb:Str→Option Value
 co:Led→(List Addr→Prop)→Option Addr→Prop
inductive CR (g:Gd) (fd:Option Addr) (adr:List Addr):Led→AO→Prop
 | inst {x dx:Addr} {es:List DictEntry} {n:Nat} {c:Cl} {fs:List (String × AV)}:F2 (FE fd adr) es fs→(∀ p∈fs,p.1∈c.fields)→fs.length≤100 →
   CR g fd adr [(x,instObj c.addr dx),(dx,dictOf es n)] (.inst c fs)
 | list {a:Addr} {vs:List Value} {n:Nat} {xs:List AV}:F2 (VR fd adr) vs xs→xs.length≤big→CR g fd adr [(a,listOf vs.toArray n)] (.list xs)
 | tup {a:Addr} {vs:List Value} {n:Nat} {xs:List AV}:F2 (VR fd adr) vs xs→xs.length≤big→CR g fd adr [(a,tupOf vs.toArray n)] (.tup xs)
 | dI {a:Addr} {o:Obj} {lk:Bool} {kvs:List (Int × Value)} {es:List (Int × AV)}:o.IsDictOf (PySem.intKind g.prog g.w) kvs→F2 (PR (id:Int→Int) fd adr) kvs es→(a == sysModules)=false→es.length≤big →
   CR g fd adr [(a,o)] (.dI lk es)
 | dS {a:Addr} {o:Obj} {lk:Bool} {kvs:List (Str × Value)} {es:List (String × AV)}:o.IsDictOf (PySem.strKind g.prog g.w) kvs→F2 (PR Str.ofString fd adr) kvs es→(a == sysModules)=false→es.length≤big →
   CR g fd adr [(a,o)] (.dS lk es)
def hd1:Led→Addr
 | []=>0
 | e :: _=>e.1
theorem FE.pre {fd:Option Addr} {adr adr':List Addr} (p:adr <+: adr') {e:DictEntry} {q:String × AV} (h:FE fd adr e q):FE fd adr' e q:=⟨h.1,h.2.pre p⟩
theorem PR.pre {κ κ':Type} {g:κ'→κ} {fd:Option Addr} {adr adr':List Addr} (p:adr <+: adr') {e:κ × Value} {q:κ' × AV} (h:PR g fd adr e q):PR g fd adr' e q:=⟨h.1,h.2.pre p⟩
theorem CR.pre {g:Gd} {fd:Option Addr} {adr adr':List Addr} (p:adr <+: adr') {c:Led} {o:AO} (h:CR g fd adr c o):CR g fd adr' c o:=by
 cases h with
 | inst h1 h2 h3=>exact .inst (h1.mono λ _ _=>FE.pre p) h2 h3
 | list h1 h2=>exact .list (h1.mono λ _ _=>VR.pre p) h2
 | tup h1 h2=>exact .tup (h1.mono λ _ _=>VR.pre p) h2
 | dI h1 h2 h3 h4=>exact .dI h1 (h2.mono λ _ _=>PR.pre p) h3 h4
 | dS h1 h2 h3 h4=>exact .dS h1 (h2.mono λ _ _=>PR.pre p) h3 h4
structure Cx where
 A:Around
 env:Env
 fenv:Env
 outer:List Env
 A₀:Around
 base:Heap
 h₀:Heap
 L:Addr
 fd:Option Addr
 s0:Shared
 need:Led
 fact:List Addr→Prop
 lks:List (Nat × Led)
 fz:Bool
 km:Option (Str→Option Value)
structure Cx.Ok (g:Gd) (d:Nat) (x:Cx):Prop where
 below:Below x.A₀ x.base x.outer x.h₀
 kin:g.K.In x.h₀
 top:Top g.p g.loose g.mean g.mg g.mb x.h₀
 frames:x.A.frames=some (x.fenv :: x.outer)
 hnd:x.A.handled=none
 fL:x.fenv.frame=some x.L
 floc:x.fenv.locals=x.L
 fk:x.fenv.scope.kind= .function
 eg:x.env.globals=mainGlobals
 ek:x.env.scope.kind= .function
 eb:x.env.builtins=builtinsNs
 ef:x.env.frame=some x.L
 nd:(x.env.scope.names.map (·.1)).Nodup
 dep:x.A.depth+d < recursionLimit
 un:x.A.units+16 * d+100 < cLine
 mono: ∀ adr adr',adr <+: adr'→x.fact adr→x.fact adr'
 kn:x.env=x.fenv→x.km=none
 ci: ∀ n n' c,x.env.scope.names.lookup n'=some .cell→x.env.cells.lookup n=some c→x.env.cells.lookup n'=some c→n=n'
 cs: ∀ n,x.env.scope.names.lookup n=some .cell→ ∃ c,x.env.cells.lookup n=some c
 co:g.co x.need x.fact x.fd
 cz:x.fz=false→ ∀ p∈x.need,∀ n c,x.env.scope.names.lookup n=some .cell→x.env.cells.lookup n=some c→p.1≠c
inductive VarV (x:Cx) (m:Str→Option Value) (pl:Led) (n:Str):NameKind→Value→Prop
 | loc {v:Value}:x.env.locals=x.L→m n=some v→VarV x m pl n .local v
 | cloc {v:Value} {o:Obj} {es:Array DictEntry} {ep:Nat}:(x.env.locals,o)∈pl→o.data= .dict es ep→StrKeys es→nsFind es n=some v→VarV x m pl n .local v
 | cell {v:Value} {c:Addr} {o:Obj}:x.env.cells.lookup n=some c→(x.h₀.get? c=some o∨(c,o)∈pl)→o.data= .cell (some v)→VarV x m pl n .cell v
 | free {v:Value} {c:Addr} {o:Obj}:x.env.cells.lookup n=some c→(x.h₀.get? c=some o∨(c,o)∈pl)→o.data= .cell (some v)→VarV x m pl n .free v
def Vars (x:Cx) (adr:List Addr) (m:Str→Option Value) (pl:Led) (Γ:Cx0):Prop :=
 ∀ (i:Nat) (av:AV),Γ[i]? =some (some av)→ ∃ n k v,x.env.scope.names[i]? =some (n,k)∧VarV x m pl n k v∧VR x.fd adr v av
structure StE (g:Gd) (x:Cx) (Γ:Cx0) (μ:Mem) (adr:List Addr) (s:Shared) (cs:List Led) (pl:Led) (m:Str→Option Value):Prop where
 F:Fr x.h₀ x.L s.heap m
 N:News x.h₀ x.L s.heap (cs.flatten ++ pl)
 nd:((cs.flatten ++ pl).map (·.1)).Nodup
 ha:cs.map hd1=adr
 C:F2 (CR g x.fd adr) cs μ
 V:Vars x adr m pl Γ
 gens:s.gens=x.s0.gens
 drawn:s.drawn=x.s0.drawn
 os:s.os=x.s0.os
 ex: ∀ p∈x.need,x.h₀.get? p.1=some p.2∨p∈pl
 fa:x.fact adr
 lk: ∀ p∈x.lks,cs[p.1]? =some p.2∧ ∃ o,μ[p.1]? =some o∧o.locked=true
 cl: ∀ n c,x.env.scope.names.lookup n=some .cell→x.env.cells.lookup n=some c→ ∃ o v₀,(c,o)∈pl∧o.data= .cell v₀
 km: ∀ m₀,x.km=some m₀→m=m₀
def St (g:Gd) (x:Cx) (Γ:Cx0) (μ:Mem) (adr:List Addr) (s:Shared):Prop:= ∃ cs pl m,StE g x Γ μ adr s cs pl m
abbrev nof:Value→Shared→Prop:=λ _ _=>False
def Does (g:Gd) (x:Cx) (Γ':Cx0) {α β:Type} (R:List Addr→α→β→Prop) (t:Sem α) (m:M β) (μ:Mem) (adr:List Addr) (s:Shared):Prop :=
 ∀ b μ',m μ=some (b,μ')→wpAny (model g.prog g.w) x.A t (λ a s'=> ∃ adr',adr <+: adr'∧St g x Γ' μ' adr' s'∧R adr' a b) nof s
def Sim (g:Gd) (x:Cx) (Γ Γ':Cx0) {α β:Type} (R:List Addr→α→β→Prop) (t:Sem α) (m:M β):Prop :=
 ∀ μ adr s,St g x Γ μ adr s→Does g x Γ' R t m μ adr s
def RE (g:Gd) (fr:Bool) (d:Nat) (sc:Scope) (Γ:Cx0) (e:Expr) (m:M AV):Prop :=
 ∀ x:Cx,x.Ok g d→x.env.scope=sc→(fr=true→x.env=x.fenv)→Sim g x Γ Γ (VR x.fd) (eval e x.env) m
def RC (g:Gd) (fr:Bool) (d:Nat) (sc:Scope) (Γ:Cx0) (e:Expr) (m:M Bool):Prop :=
 ∀ x:Cx,x.Ok g d→x.env.scope=sc→(fr=true→x.env=x.fenv)→Sim g x Γ Γ (λ _ a b=>a=b) (isTrue e x.env (eval e x.env)) m
section
variable {g:Gd} {x:Cx} {Γ Γ' Γ'':Cx0}
theorem bd_some {α β:Type} {m:M α} {f:α→M β} {μ:Mem} {b:β} {μ':Mem} (h:bd m f μ=some (b,μ')): ∃ a μ₁,m μ=some (a,μ₁)∧f a μ₁=some (b,μ'):=by
 unfold bd at h
 split at h
 ·exact ⟨_,_,by assumption,h⟩
 ·cases h
theorem Does.bind {α α' β β':Type} {R:List Addr→α→β→Prop} {R':List Addr→α'→β'→Prop} {t:Sem α} {m:M β} {f:α→Sem α'} {k:β→M β'} {μ:Mem} {adr:List Addr} {s:Shared}
  (h:Does g x Γ' R t m μ adr s) (hk: ∀ a b μ adr s,St g x Γ' μ adr s→R adr a b→Does g x Γ'' R' (f a) (k b) μ adr s):Does g x Γ'' R' (t >>= f) (bd m k) μ adr s:=by
 intro b' μ' e
 obtain ⟨b,μ₁,e1,e2⟩:=bd_some e
 refine wpAny_bind (wpAny_mono (h b μ₁ e1) (λ a s₁ z=> ?_) λ _ _ z=>z)
 obtain ⟨adr₁,p1,S1,r⟩:=z
 refine wpAny_mono (hk a b μ₁ adr₁ s₁ S1 r b' μ' e2) (λ a' s' z=> ?_) λ _ _ z=>z
 obtain ⟨adr₂,p2,S2,r2⟩:=z
 exact ⟨adr₂,p1.trans p2,S2,r2⟩
theorem Does.via {α α' β β':Type} {R:List Addr→α→β→Prop} {R':List Addr→α'→β'→Prop} {t:Sem α} {T:Sem α'} {f:α→Sem α'} {m:M β} {k:β→M β'} {μ:Mem} {adr:List Addr} {s:Shared}
  (h:Does g x Γ' R t m μ adr s) (rule: ∀ Q:α'→Shared→Prop,wpAny (model g.prog g.w) x.A t (λ a s₁=>wpAny (model g.prog g.w) x.A (f a) Q nof s₁) nof s→wpAny (model g.prog g.w) x.A T Q nof s)
  (hk: ∀ a b μ adr s,St g x Γ' μ adr s→R adr a b→Does g x Γ'' R' (f a) (k b) μ adr s):Does g x Γ'' R' T (bd m k) μ adr s:=by
 intro b' μ' e
 obtain ⟨b,μ₁,e1,e2⟩:=bd_some e
 refine rule _ (wpAny_mono (h b μ₁ e1) (λ a s₁ z=> ?_) λ _ _ z=>z)
 obtain ⟨adr₁,p1,S1,r⟩:=z
 refine wpAny_mono (hk a b μ₁ adr₁ s₁ S1 r b' μ' e2) (λ a' s' z=> ?_) λ _ _ z=>z
 obtain ⟨adr₂,p2,S2,r2⟩:=z
 exact ⟨adr₂,p1.trans p2,S2,r2⟩
theorem Does.same {α β:Type} {R:List Addr→α→β→Prop} {t T:Sem α} {m:M β} {μ:Mem} {adr:List Addr} {s:Shared}
  (h:Does g x Γ' R t m μ adr s) (rule: ∀ Q:α→Shared→Prop,wpAny (model g.prog g.w) x.A t Q nof s→wpAny (model g.prog g.w) x.A T Q nof s):Does g x Γ' R T m μ adr s :=
 λ b' μ' e=>rule _ (h b' μ' e)
theorem Does.rt {α β:Type} {R:List Addr→α→β→Prop} {t:Sem α} {b:β} {μ:Mem} {adr:List Addr} {s:Shared}
  (h: ∀ Q:α→Shared→Prop,(∀ a tk,R adr a b→Q a {s with toks:=tk})→wpAny (model g.prog g.w) x.A t Q nof s) (S:St g x Γ μ adr s):Does g x Γ R t (rt b) μ adr s:=by
 intro b' μ' e
 cases e
 exact h _ λ a tk r=>⟨adr,List.prefix_refl _,let ⟨cs,pl,m,z⟩:=S;⟨cs,pl,m,⟨z.F,z.N,z.nd,z.ha,z.C,z.V,z.gens,z.drawn,z.os,z.ex,z.fa,z.lk,z.cl,z.km⟩⟩,r⟩
theorem Vars.pre {adr adr':List Addr} {m:Str→Option Value} {pl:Led} (h:Vars x adr m pl Γ) (p:adr <+: adr'):Vars x adr' m pl Γ:=λ i av e =>
 let ⟨n,k,v,a,b,c⟩:=h i av e
 ⟨n,k,v,a,b,c.pre p⟩
theorem StE.toks {μ:Mem} {adr:List Addr} {s:Shared} {cs:List Led} {pl:Led} {m:Str→Option Value} {t:Tok} (S:StE g x Γ μ adr s cs pl m):StE g x Γ μ adr {s with toks:=t} cs pl m :=
 ⟨S.F,S.N,S.nd,S.ha,S.C,S.V,S.gens,S.drawn,S.os,S.ex,S.fa,S.lk,S.cl,S.km⟩
theorem St.toks {μ:Mem} {adr:List Addr} {s:Shared} {t:Tok} (S:St g x Γ μ adr s):St g x Γ μ adr {s with toks:=t} :=
 let ⟨cs,pl,m,z⟩:=S;⟨cs,pl,m,z.toks⟩
theorem mem_flat {cs:List Led} {c:Led} {e:Addr × Obj} {i:Nat} (h:cs[i]? =some c) (he:e∈c) {pl:Led}:e∈cs.flatten ++ pl :=
 List.mem_append_left _ (List.mem_flatten.mpr ⟨c,List.mem_of_getElem? h,he⟩)
theorem StE.chunk {μ:Mem} {adr:List Addr} {s:Shared} {cs:List Led} {pl:Led} {m:Str→Option Value} (S:StE g x Γ μ adr s cs pl m) {i:Nat} {o:AO} (e:μ[i]? =some o) :
  ∃ c,cs[i]? =some c∧CR g x.fd adr c o:=S.C.at_ e
theorem StE.adr_of {μ:Mem} {adr:List Addr} {s:Shared} {cs:List Led} {pl:Led} {m:Str→Option Value} (S:StE g x Γ μ adr s cs pl m) {i:Nat} {c:Led} {a:Addr} (e:cs[i]? =some c) (h:adr[i]? =some a):hd1 c=a:=by
 rw [← S.ha,List.getElem?_map,e] at h;exact Option.some.inj h
theorem split_at {cs:List Led} {c:Led} {i:Nat} (h:cs[i]? =some c):cs=cs.take i ++ c :: cs.drop (i+1):=by
 have hi:i < cs.length:=(List.getElem?_eq_some_iff.mp h).1
 have hc:cs[i]=c:=(List.getElem?_eq_some_iff.mp h).2
 conv=>lhs;rw [← List.take_append_drop i cs]
 rw [List.drop_eq_getElem_cons hi,hc]
theorem set_split {cs:List Led} {c c':Led} {i:Nat} (h:cs[i]? =some c):cs.set i c'=cs.take i ++ c' :: cs.drop (i+1):=by
 have hi:i < cs.length:=(List.getElem?_eq_some_iff.mp h).1
 rw [List.set_eq_take_append_cons_drop,if_pos hi]
theorem upd_nd {l₁ l₂:Led} {d:Addr} {o o':Obj} (nd:((l₁ ++ (d,o) :: l₂).map (·.1)).Nodup):Upd d o o' (l₁ ++ (d,o) :: l₂) (l₁ ++ (d,o') :: l₂):=by
 induction l₁ with
 | nil =>
  simp only [List.nil_append,List.map_cons,List.nodup_cons] at nd
  exact .head λ p hp q=>nd.1 (q ▸ List.mem_map_of_mem hp)
 | cons p l ih =>
  simp only [List.cons_append,List.map_cons,List.nodup_cons] at nd
  refine .tail (λ q=>nd.1 ?_) (ih nd.2)
  rw [q];simp
theorem updF_nd {l₁ l₂:Led} {d:Addr} {o:Obj} (nd:((l₁ ++ (d,o) :: l₂).map (·.1)).Nodup):UpdF d o (l₁ ++ (d,o) :: l₂) (λ o'=>l₁ ++ (d,o') :: l₂):=by
 induction l₁ with
 | nil =>
  simp only [List.nil_append,List.map_cons,List.nodup_cons] at nd
  exact .head λ p hp q=>nd.1 (q ▸ List.mem_map_of_mem hp)
 | cons p l ih =>
  simp only [List.cons_append,List.map_cons,List.nodup_cons] at nd
  refine .tail (λ q=>nd.1 ?_) (ih nd.2)
  rw [q];simp
theorem StE.put {μ:Mem} {adr:List Addr} {s s':Shared} {cs:List Led} {pl:Led} {m:Str→Option Value} (S:StE g x Γ μ adr s cs pl m) {i:Nat} {c c':Led} {o':AO}
  (e:cs[i]? =some c) (hu: ∀ o,μ[i]? =some o→o.locked=false) (hk:c'.map (·.1)=c.map (·.1)) (hc:CR g x.fd adr c' o') (F:Fr x.h₀ x.L s'.heap m) (N:News x.h₀ x.L s'.heap ((cs.set i c').flatten ++ pl))
  (h1:s'.gens=s.gens:=by rfl) (h2:s'.drawn=s.drawn:=by rfl) (h3:s'.os=s.os:=by rfl):StE g x Γ (μ.set i o') adr s' (cs.set i c') pl m:=by
 have keys:((cs.set i c').flatten ++ pl).map (·.1)=(cs.flatten ++ pl).map (·.1):=by
  rw [set_split e]
  conv=>rhs;rw [split_at e]
  simp [hk]
 have hd:hd1 c'=hd1 c:=by
  cases c' <;> cases c <;> simp_all [hd1]
 refine ⟨F,N,by rw [keys];exact S.nd,?_,S.C.set_ hc i,S.V,h1.trans S.gens,h2.trans S.drawn,h3.trans S.os,S.ex,S.fa,λ p hp=> ?_,S.cl,S.km⟩
 rotate_left
 ·obtain ⟨a1,o,a2,a3⟩:=S.lk p hp
  have hne:i≠p.1:=λ q=>by rw [hu o (q ▸ a2)] at a3;cases a3
  exact ⟨by rw [List.getElem?_set_ne hne];exact a1,o,by rw [List.getElem?_set_ne hne];exact a2,a3⟩
 rw [← S.ha,set_split e]
 conv=>rhs;rw [split_at e]
 simp [hd]
theorem StE.new {μ:Mem} {adr:List Addr} {s s':Shared} {cs:List Led} {pl:Led} {m:Str→Option Value} (S:StE g x Γ μ adr s cs pl m) (ok: ∀ adr',adr <+: adr'→x.fact adr→x.fact adr') {c:Led} {o:AO}
  (hc:CR g x.fd (adr ++ [hd1 c]) c o) (F:Fr x.h₀ x.L s'.heap m) (N:News x.h₀ x.L s'.heap (c ++ (cs.flatten ++ pl))) (nd:(c.map (·.1)).Nodup) (fresh: ∀ p∈c,∀ q∈cs.flatten ++ pl,q.1≠p.1)
  (h1:s'.gens=s.gens:=by rfl) (h2:s'.drawn=s.drawn:=by rfl) (h3:s'.os=s.os:=by rfl) :
  StE g x Γ (μ ++ [o]) (adr ++ [hd1 c]) s' (cs ++ [c]) pl m:=by
 have pre:adr <+: adr ++ [hd1 c]:=⟨_,rfl⟩
 refine ⟨F,?_,?_,by simp [S.ha],(S.C.mono λ _ _=>CR.pre pre).app (.cons hc .nil),S.V.pre pre,h1.trans S.gens,h2.trans S.drawn,h3.trans S.os,S.ex,ok _ pre S.fa,λ p hp=> ?_,S.cl,S.km⟩
 rotate_left 2
 ·obtain ⟨a1,o,a2,a3⟩:=S.lk p hp
  have l1:=(List.getElem?_eq_some_iff.mp a1).1
  have l2:=(List.getElem?_eq_some_iff.mp a2).1
  exact ⟨by rw [List.getElem?_append_left l1];exact a1,o,by rw [List.getElem?_append_left l2];exact a2,a3⟩
 ·intro p hp
  refine N p ?_
  simp only [List.flatten_append,List.flatten_cons,List.flatten_nil,List.append_nil,List.append_assoc,List.mem_append] at hp ⊢
  rcases hp with h | h | h
  ·exact .inr (.inl h)
  ·exact .inl h
  ·exact .inr (.inr h)
 ·have z:((c ++ (cs.flatten ++ pl)).map (·.1)).Nodup:=by
   rw [List.map_append,List.nodup_append]
   refine ⟨nd,S.nd,λ a ha b hb=> ?_⟩
   obtain ⟨p,hp,rfl⟩:=List.mem_map.mp ha
   obtain ⟨q,hq,rfl⟩:=List.mem_map.mp hb
   exact λ e=>fresh p hp q hq e.symm
  have pm:((cs ++ [c]).flatten ++ pl).Perm (c ++ (cs.flatten ++ pl)):=by
   simp only [List.flatten_append,List.flatten_cons,List.flatten_nil,List.append_nil,List.append_assoc]
   exact (List.perm_append_comm_assoc _ _ _)
  exact (pm.map (·.1)).nodup_iff.mpr z
end
structure Facts (g:Gd):Prop where
 com: ∀ n n' f fd,(∀ p∈n,p∈n')→g.co n f fd→g.co n' f fd
 pg: ∀ c:Cl,∀ f∈c.fields,plainGet g.K c.addr (Str.ofString f)=true∧hasDictIn g.K c.addr=true∧ ∃ at_,findIn g.K (.ref c.addr) (Str.ofString f)=some at_∧noGet g.K at_=true
 ps: ∀ c:Cl,∀ f∈c.fields,findIn g.K (.ref c.addr) "__setattr__" =some (some (.builtin "object.__setattr__"))∧plainOver g.K c.addr=true∧takerIn g.K c.addr (Str.ofString f)=some none
 ki: ∀ c e:Cl,kitOne g.K (.ref c.addr) (.ref e.addr)=some (decide (c=e))
 kn: ∀ e:Cl,kitOne g.K (.type "NoneType") (.ref e.addr)=some false
 kj: ∀ e:Cl,kitOne g.K (.type "int") (.ref e.addr)=some false
 tn:kitOne g.K (.type "NoneType") (.type "tuple")=some false
 tj:kitOne g.K (.type "int") (.type "tuple")=some false
 tl:kitOne g.K (.type "list") (.type "tuple")=some false
 tt:kitOne g.K (.type "tuple") (.type "tuple")=some true
 kc: ∀ c:Cl,plainGet g.K c.addr "__class__" =true∧findIn g.K (.ref c.addr) "__class__" =some (some (.builtin "object.__class__"))∧mroIn g.K c.addr (.type "object")=some true
 kd: ∀ c:Cl,hasDictIn g.K c.addr=true
 kg:specialIn g.K (.builtin "object.__class__") "__get__" =some (some (.builtin "getset_descriptor.__get__"))
 kk:takesIn g.K (.builtin "object.__class__")=some true
section
variable {g:Gd} {x:Cx} {Γ Γ':Cx0} {d:Nat} {fr:Bool} {sc:Scope}
theorem lookup_idx {names:List (Str × NameKind)} (nd:(names.map (·.1)).Nodup) {i:Nat} {n:Str} {k:NameKind} (h:names[i]? =some (n,k)):names.lookup n=some k:=by
 induction names generalizing i with
 | nil=>simp at h
 | cons p r ih =>
  obtain ⟨n',k'⟩:=p
  simp only [List.map_cons,List.nodup_cons] at nd
  cases i with
  | zero=>simp at h;obtain ⟨rfl,rfl⟩:=h;simp [List.lookup_cons]
  | succ i =>
   simp at h
   have hm:(n,k)∈r:=List.mem_of_getElem? h
   have hne:(n == n')=false:=beq_eq_false_iff_ne.mpr λ e=>nd.1 (e ▸ List.mem_map_of_mem hm)
   rw [List.lookup_cons,hne]
   exact ih nd.2 h
theorem VarV.load {m:Str→Option Value} {pl:Led} {n:Str} {k:NameKind} {v:Value} {μ:Mem} {adr:List Addr} {s:Shared} {cs:List Led} (hx:x.Ok g d) (h:VarV x m pl n k v) (S:StE g x Γ μ adr s cs pl m)
  (hk:x.env.kindOf n=some k) (hd:(n == ("__debug__" :Str))=false) (hn:(n == ("__classdict__" :Str))=false) {p:Pos} {Q:Value→Shared→Prop} (hq:Q v s) :
  wpAny (model g.prog g.w) x.A (eval (.Name n p) x.env) Q nof s:=by
 refine wpAny_Name ?_ hd
 cases h with
 | loc h1 h2=>exact wpAny_loadName_local hx.ek hk (h1 ▸ S.F.ns) h2 hq
 | @cloc _ o es ep h1 h2 h3 h4=>exact wpAny_loadName_local hx.ek hk (m:=nsFind es) ⟨o,es,ep,(S.N _ (List.mem_append_right _ h1)).1,h2,h3,λ _=>rfl⟩ h4 hq
 | @cell _ c o h1 h2 h3=>exact wpAny_loadName_cell hx.ek hk h1 ⟨o,h2.elim (λ e=>S.F.keep _ _ e) (λ e=>(S.N _ (List.mem_append_right _ e)).1),h3⟩ hq
 | @free _ c o h1 h2 h3=>exact wpAny_loadName_free hx.ek hk h1 ⟨o,h2.elim (λ e=>S.F.keep _ _ e) (λ e=>(S.N _ (List.mem_append_right _ e)).1),h3⟩ hq hn
theorem RE_name {i:Nat} {n:Str} {k:NameKind} {av:AV} {p:Pos} (hi:Γ[i]? =some (some av)) (hn:sc.names[i]? =some (n,k)) (hd:(n == ("__debug__" :Str))=false) (hc:(n == ("__classdict__" :Str))=false) :
  RE g fr d sc Γ (.Name n p) (rt av):=by
 intro x hx hsc _ μ adr s S
 refine Does.rt (λ Q hq=> ?_) S
 obtain ⟨cs,pl,m,S⟩:=S
 obtain ⟨n',k',v,h1,h2,h3⟩:=S.V i av hi
 rw [hsc,hn] at h1
 cases h1
 exact h2.load hx S (lookup_idx hx.nd (by rw [hsc];exact hn)) hd hc (hq v s.toks h3)
theorem RE_none {k:Nat} {p:Pos}:RE g fr d sc Γ (.Constant .none k p) (rt .none):=λ x _ _ _ μ adr s S =>
 Does.rt (λ Q hq=>(λ _ _ _=>hq .none s.toks .none:wpAny _ _ (eval (.Constant .none k p) x.env) Q nof s)) S
theorem RE_bool {b:Bool} {k:Nat} {p:Pos}:RE g fr d sc Γ (.Constant (.bool b) k p) (rt (.bool b)):=λ x _ _ _ μ adr s S =>
 Does.rt (λ Q hq=>(λ _ _ _=>hq (.bool b) s.toks (.bool b):wpAny _ _ (eval (.Constant (.bool b) k p) x.env) Q nof s)) S
theorem RE_int {i:Int} {k:Nat} {p:Pos}:RE g fr d sc Γ (.Constant (.int i) k p) (rt (.int i)):=λ x _ _ _ μ adr s S =>
 Does.rt (λ Q hq=>wpAny_Constant_int (hq _ _ (.int _ _))) S
theorem RE_str {a:String} {k:Nat} {p:Pos}:RE g fr d sc Γ (.Constant (.str (Str.ofString a)) k p) (rt (.str a)):=λ x _ _ _ μ adr s S =>
 Does.rt (λ Q hq=>(show wpAny _ _ (mkText (Str.ofString a)) Q nof s from wpAny_mkText (hq _ _ (.str _ _)))) S
theorem rd_some {i:Nat} {μ μ':Mem} {o:AO} (e:rd i μ=some (o,μ')):μ[i]? =some o∧μ'=μ:=by
 unfold rd at e
 cases h:μ[i]? with
 | none=>rw [h] at e;cases e
 | some p=>rw [h] at e;cases e;exact ⟨rfl,rfl⟩
theorem opt_some {α:Type} {o:Option α} {b:α} {μ μ':Mem} (e:opt o μ=some (b,μ')):o=some b∧μ'=μ:=by
 cases o with
 | none=>cases e
 | some a=>cases e;exact ⟨rfl,rfl⟩
theorem wr_some {i:Nat} {o:AO} {u:Unit} {μ μ':Mem} (e:wr i o μ=some (u,μ')):μ'=μ.set i o:=by cases e;rfl
theorem getA_inv {a:AV} {f:String} {b:AV} {μ μ':Mem} (e:getA a f μ=some (b,μ')): ∃ i c fs,a= .obj i∧μ[i]? =some (.inst c fs)∧get f fs=some b∧μ'=μ:=by
 cases a <;> try (cases e;done)
 rename_i i
 obtain ⟨o,μ₁,e1,e2⟩:=bd_some (show bd (rd i) _ μ=_ from e)
 obtain ⟨h1,rfl⟩:=rd_some e1
 cases o <;> try (cases e2;done)
 rename_i c fs
 dsimp only at e2
 cases h:get f fs with
 | none=>rw [h] at e2;cases e2
 | some z=>rw [h] at e2;cases e2;exact ⟨i,c,fs,rfl,h1,h,rfl⟩
theorem setA_inv {a v:AV} {f:String} {u:Unit} {μ μ':Mem} (e:setA a f v μ=some (u,μ')): ∃ i c fs,a= .obj i∧μ[i]? =some (.inst c fs)∧f∈c.fields∧fs.length < 100∧μ'=μ.set i (.inst c (put f v fs)):=by
 cases a <;> try (cases e;done)
 rename_i i
 obtain ⟨o,μ₁,e1,e2⟩:=bd_some (show bd (rd i) _ μ=_ from e)
 obtain ⟨h1,rfl⟩:=rd_some e1
 cases o <;> try (cases e2;done)
 rename_i c fs
 dsimp only at e2
 by_cases h:f∈c.fields∧fs.length < 100
 ·rw [if_pos h] at e2;exact ⟨i,c,fs,rfl,h1,h.1,h.2,wr_some e2⟩
 ·rw [if_neg h] at e2;cases e2
theorem get_mem {κ:Type} [DecidableEq κ] {f:κ} {b:AV}: ∀ {fs:List (κ × AV)},get f fs=some b→ ∃ p∈fs,p.1=f
 | [],q=>by simp [get] at q
 | p :: r,q=>by
  unfold get at q
  by_cases hp:p.1=f
  ·exact ⟨p,by simp,hp⟩
  ·rw [if_neg hp] at q
   obtain ⟨q',a,b⟩:=get_mem q;exact ⟨q',by simp [a],b⟩
theorem getA_does (hf:Facts g) (hx:x.Ok g d) {v:Value} {a:AV} {f:String} {μ:Mem} {adr:List Addr} {s:Shared} {ex:Bool} (S:St g x Γ μ adr s) (r:VR x.fd adr v a) :
  Does g x Γ (VR x.fd) (getAttr v (Str.ofString f) ex) (getA a f) μ adr s:=by
 intro b μ' e
 obtain ⟨i,c,fs,rfl,ho,hget,rfl⟩:=getA_inv e
 cases r
 rename_i ad had
 have S':=S
 obtain ⟨cs,pl,m,S⟩:=S
 obtain ⟨ch,hc,hr⟩:=S.chunk ho
 have had':=S.adr_of hc had
 cases hr with
 | @inst ad' dx es n _ _ h1 h2 h3 =>
 simp only [hd1] at had'
 subst had'
 have hmem:f∈c.fields:=by obtain ⟨p,hp,rfl⟩:=get_mem hget;exact h2 p hp
 obtain ⟨k1,k2,at_,k3,k4⟩:=hf.pg c f hmem
 obtain ⟨v',hv1,hv2⟩:=(getL_FR h1 f).1 b hget
 have I:InstAt s.heap ad' (instObj c.addr dx) c.addr (some (dictOf es n)):=InstAt.of_news S.N (mem_flat hc (by simp)) (mem_flat hc (by simp))
 exact get_own S.F hx.kin I k1 k2 k3 k4 hv1 hv2.handed ⟨adr,List.prefix_refl _,S'.toks,hv2⟩
theorem RE_attr (hf:Facts g) {e:Expr} {m:M AV} {f:String} {p:Pos} (h:RE g fr d sc Γ e m) (hb: ∀ env,attributeBase e (Str.ofString f) env (eval e env)=eval e env:=by intro _;rfl) :
  RE g fr d sc Γ (.Attribute e (Str.ofString f) p) (bd m λ a=>getA a f):=by
 intro x hx hsc hfr μ adr s S
 refine Does.via (h x hx hsc hfr μ adr s S) (f:=λ o=>getAttr o (Str.ofString f) true) (λ Q hq=> ?_) λ a b μ adr s S r=>getA_does hf hx S r
 rw [arm_eval_Attribute,hb]
 exact wpAny_bind (wpAny_mono hq (λ o s₁ h₁=>wpAny_bind (wpAny_standAt (wpAny_bind (wpAny_holding (wpAny_mono h₁ (λ r s₂ h₂=>wpAny_bind (wpAny_letTemporaryGo (wpAny_pure h₂))) λ _ _ z=>z))))) λ _ _ z=>z)
def Op2 (g:Gd) (t:Value→Value→Sem Value) (m:AV→AV→M AV):Prop :=
 ∀ (x:Cx) (d:Nat) (Γ:Cx0),x.Ok g d→ ∀ va vb a b μ adr s,St g x Γ μ adr s→VR x.fd adr va a→VR x.fd adr vb b→Does g x Γ (VR x.fd) (t va vb) (m a b) μ adr s
theorem Sim2 {t1 t2:Expr} {m1 m2:M AV} (h1:RE g fr d sc Γ t1 m1) (h2:RE g fr d sc Γ t2 m2) {T:Env→Sem Value} {op:Value→Value→Sem Value} {mop:AV→AV→M AV} (ho:Op2 g op mop)
  (rule: ∀ (env:Env) (A:Around) s (Q:Value→Shared→Prop),wpAny (model g.prog g.w) A (eval t1 env) (λ a s₁=>wpAny (model g.prog g.w) A (eval t2 env) (λ b s₂=>wpAny (model g.prog g.w) A (op a b) Q nof s₂) nof s₁) nof s→wpAny (model g.prog g.w) A (T env) Q nof s) :
  ∀ x:Cx,x.Ok g d→x.env.scope=sc→(fr=true→x.env=x.fenv)→Sim g x Γ Γ (VR x.fd) (T x.env) (bd m1 λ a=>bd m2 λ b=>mop a b):=by
 intro x hx hsc hfr μ adr s S
 intro b' μ' e
 obtain ⟨a,μ₁,e1,e2⟩:=bd_some e
 obtain ⟨b,μ₂,e2,e3⟩:=bd_some e2
 refine rule _ _ _ _ (wpAny_mono (h1 x hx hsc hfr μ adr s S a μ₁ e1) (λ va s₁ z=> ?_) λ _ _ z=>z)
 obtain ⟨adr₁,p1,S1,r1⟩:=z
 refine wpAny_mono (h2 x hx hsc hfr μ₁ adr₁ s₁ S1 b μ₂ e2) (λ vb s₂ z=> ?_) λ _ _ z=>z
 obtain ⟨adr₂,p2,S2,r2⟩:=z
 refine wpAny_mono (ho x d Γ hx va vb a b μ₂ adr₂ s₂ S2 (r1.pre p2) r2 b' μ' e3) (λ v s₃ z=> ?_) λ _ _ z=>z
 obtain ⟨adr₃,p3,S3,r3⟩:=z
 exact ⟨adr₃,(p1.trans p2).trans p3,S3,r3⟩
theorem RE_binop {l r:Expr} {op:Operator} {p:Pos} {m1 m2:M AV} {mop:AV→AV→M AV} (h1:RE g fr d sc Γ l m1) (h2:RE g fr d sc Γ r m2) (ho:Op2 g (binaryOp op) mop) :
  RE g fr d sc Γ (.BinOp l op r p) (bd m1 λ a=>bd m2 λ b=>mop a b):=Sim2 h1 h2 ho λ env A s Q h=>wpAny_BinOp h
theorem RE_cmp {l r:Expr} {op:CmpOp} {p:Pos} {m1 m2:M AV} {mop:AV→AV→M AV} (h1:RE g fr d sc Γ l m1) (h2:RE g fr d sc Γ r m2) (ho:Op2 g (compareOp op) mop) (hm:behindInMarks op r=false:=by with_unfolding_all rfl) :
  RE g fr d sc Γ (.Compare l [op] [r] p) (bd m1 λ a=>bd m2 λ b=>mop a b):=Sim2 h1 h2 ho λ env A s Q h=>wpAny_Compare1 h hm
theorem post_int {i:Int} {μ:Mem} {adr:List Addr} {s:Shared} {t u:Tok} (S:St g x Γ μ adr s): ∃ adr',adr <+: adr'∧St g x Γ μ adr' {s with toks:=u}∧VR x.fd adr' (.int i t) (.int i):=⟨adr,List.prefix_refl _,S.toks, .int i t⟩
theorem post_bool {b:Bool} {μ:Mem} {adr:List Addr} {s:Shared} (S:St g x Γ μ adr s): ∃ adr',adr <+: adr'∧St g x Γ μ adr' s∧VR x.fd adr' (.bool b) (.bool b):=⟨adr,List.prefix_refl _,S, .bool b⟩
theorem op_sub:Op2 g (binaryOp .Sub) subM:=by
 intro x d Γ hx va vb a b μ adr s S r1 r2 c μ' e
 cases r1 <;> try (cases e;done)
 cases r2 <;> try (cases e;done)
 cases e
 exact SiftDown.sub_int (post_int S)
theorem op_mod:Op2 g (binaryOp .Mod) modM:=by
 intro x d Γ hx va vb a b μ adr s S r1 r2 c μ' e
 cases r1 <;> try (cases e;done)
 cases r2 <;> try (cases e;done)
 unfold modM at e
 dsimp only at e
 split at e <;> cases e
 exact mod_int' (by omega) (post_int S)
theorem op_div:Op2 g (binaryOp .FloorDiv) divM:=by
 intro x d Γ hx va vb a b μ adr s S r1 r2 c μ' e
 cases r1 <;> try (cases e;done)
 cases r2 <;> try (cases e;done)
 unfold divM at e
 dsimp only at e
 split at e <;> cases e
 exact floordiv_int (by omega) (post_int S) (Or.inl (PyProof.noPylong_small (by omega)))
theorem op_pow:Op2 g (binaryOp .Pow) powM:=by
 intro x d Γ hx va vb a b μ adr s S r1 r2 c μ' e
 cases r1 <;> try (cases e;done)
 cases r2 <;> try (cases e;done)
 unfold powM at e
 dsimp only at e
 split at e <;> cases e
 rename_i h
 obtain ⟨rfl,rfl⟩:=h
 exact pow_int_small (by decide) (by decide) (by decide) (post_int S)
theorem op_lt:Op2 g (compareOp .Lt) ltM:=by
 intro x d Γ hx va vb a b μ adr s S r1 r2 c μ' e
 cases r1 <;> try (cases e;done)
 cases r2 <;> try (cases e;done)
 cases e
 exact wpAny_lt_int (post_bool S)
theorem op_gt:Op2 g (compareOp .Gt) gtM:=by
 intro x d Γ hx va vb a b μ adr s S r1 r2 c μ' e
 cases r1 <;> try (cases e;done)
 cases r2 <;> try (cases e;done)
 cases e
 exact SiftDown.gt_int (post_bool S)
theorem RE_isN {e:Expr} {m:M AV} {k:Nat} {p q:Pos} (h:RE g fr d sc Γ e m):RE g fr d sc Γ (.Compare e [.Is] [.Constant .none k q] p) (bd m λ a=>isN a):=by
 intro x hx hsc hfr μ adr s S
 refine Does.via (h x hx hsc hfr μ adr s S) (f:=λ a=>compareOp .Is a .none) (λ Q hq=>wpAny_Compare1 (wpAny_mono hq (λ a s₁ h₁=>wpAny_pure h₁) λ _ _ z=>z)) λ a b μ adr s S r=> ?_
 intro c μ' e
 cases e
 refine is_none_gen ?_
 have:(a == Value.none)=decide (b=AV.none):=by cases r <;> rfl
 rw [this]
 exact post_bool S
theorem RE_isNN {e:Expr} {m:M AV} {k:Nat} {p q:Pos} (h:RE g fr d sc Γ e m):RE g fr d sc Γ (.Compare e [.IsNot] [.Constant .none k q] p) (bd m λ a=>isNN a):=by
 intro x hx hsc hfr μ adr s S
 refine Does.via (h x hx hsc hfr μ adr s S) (f:=λ a=>compareOp .IsNot a .none) (λ Q hq=>wpAny_Compare1 (wpAny_mono hq (λ a s₁ h₁=>wpAny_pure h₁) λ _ _ z=>z)) λ a b μ adr s S r=> ?_
 intro c μ' e
 cases e
 refine isnot_none_gen ?_
 have:(!(a == Value.none))= !decide (b=AV.none):=by cases r <;> rfl
 rw [this]
 exact post_bool S
end
section
variable {g:Gd} {x:Cx} {Γ Γ':Cx0} {d:Nat} {fr:Bool} {sc:Scope}
theorem flat1 {cs:List Led} {i:Nat} {p:Addr × Obj} {pl:Led} (h:cs[i]? =some [p]):cs.flatten ++ pl=(cs.take i).flatten ++ p :: ((cs.drop (i+1)).flatten ++ pl):=by
 conv=>lhs;rw [split_at h]
 simp
theorem flat1s {cs:List Led} {i:Nat} {c:Led} {p:Addr × Obj} {pl:Led} (h:cs[i]? =some c):(cs.set i [p]).flatten ++ pl=(cs.take i).flatten ++ p :: ((cs.drop (i+1)).flatten ++ pl):=by
 rw [set_split h];simp
theorem flat2 {cs:List Led} {i:Nat} {p q:Addr × Obj} {pl:Led} (h:cs[i]? =some [p,q]):cs.flatten ++ pl=((cs.take i).flatten ++ [p]) ++ q :: ((cs.drop (i+1)).flatten ++ pl):=by
 conv=>lhs;rw [split_at h]
 simp
theorem flat2s {cs:List Led} {i:Nat} {c:Led} {p q:Addr × Obj} {pl:Led} (h:cs[i]? =some c):(cs.set i [p,q]).flatten ++ pl=((cs.take i).flatten ++ [p]) ++ q :: ((cs.drop (i+1)).flatten ++ pl):=by
 rw [set_split h];simp
theorem nd_split {l₁ l₂:Led} {d:Addr} {o:Obj} (nd:((l₁ ++ (d,o) :: l₂).map (·.1)).Nodup):(∀ p∈l₁,p.1≠d)∧ ∀ p∈l₂,p.1≠d:=by
 simp only [List.map_append,List.map_cons,List.nodup_append,List.nodup_cons] at nd
 obtain ⟨_,⟨h2,_⟩,h3⟩:=nd
 exact ⟨λ p hp e=>h3 p.1 (List.mem_map_of_mem hp) d (by simp) e,λ p hp e=>h2 (e ▸ List.mem_map_of_mem hp)⟩
theorem mem1 {cs:List Led} {i:Nat} {a:Addr} {o:Obj} {pl:Led} (h:cs[i]? =some [(a,o)]):(a,o)∈cs.flatten ++ pl:=mem_flat h (List.mem_singleton.mpr rfl)
theorem StE.at1 {μ:Mem} {adr:List Addr} {s:Shared} {cs:List Led} {pl:Led} {m:Str→Option Value} (S:StE g x Γ μ adr s cs pl m) {i:Nat} {a:Addr} {o:Obj} (h:cs[i]? =some [(a,o)]):s.heap.get? a=some o:=(S.N _ (mem1 h)).1
theorem setA_does (hf:Facts g) (hx:x.Ok g d) {v w:Value} {a b:AV} {f:String} {μ:Mem} {adr:List Addr} {s:Shared} (S:St g x Γ μ adr s) (r:VR x.fd adr v a) (r':VR x.fd adr w b) :
  Does g x Γ (λ _ _ _=>True) (setAttr v (Str.ofString f) w) (setA a f b) μ adr s:=by
 intro u μ' e
 obtain ⟨i,c,fs,rfl,ho,hmem,hlen,rfl⟩:=setA_inv e
 cases r
 rename_i ad had
 obtain ⟨cs,pl,m,S⟩:=S
 obtain ⟨ch,hc,hr⟩:=S.chunk ho
 have had':=S.adr_of hc had
 cases hr with
 | @inst ad' dx es n _ _ h1 h2 h3 =>
 simp only [hd1] at had'
 subst had'
 obtain ⟨k1,k2,k3⟩:=hf.ps c f hmem
 obtain ⟨_,k4,_⟩:=hf.pg c f hmem
 have hl:(getL (Str.ofString f) es).isSome=true:=by
  cases hg:get f fs with
  | none=>rw [(getL_FR h1 f).2 hg];rfl
  | some b'=>obtain ⟨v',e',_⟩:=(getL_FR h1 f).1 b' hg;rw [e'];rfl
 have I:InstAt s.heap ad' (instObj c.addr dx) c.addr (some (dictOf es n)):=InstAt.of_news S.N (mem_flat hc (by simp)) (mem_flat hc (by simp))
 have N:=S.N
 have nd:=S.nd
 rw [flat2 hc] at N nd
 have hp:=putL_FR h1 (f:=f) (hsh:=PyData.keyHash g.w.params (Str.ofString f)) (t:=s.toks+1) r'
 have pl':=put_len f b fs
 refine set_dict S.F hx.kin N I rfl k1 k2 k3 k4 hl rfl (upd_nd nd) (by rw [hp.len];omega) λ h' F' N'=> ?_
 refine ⟨adr,List.prefix_refl _,⟨_,pl,m,S.put (c':=[(ad',instObj c.addr dx),(dx,dictOf (putL (Str.ofString f) (PyData.keyHash g.w.params (Str.ofString f)) (.str (Str.ofString f) (s.toks+1)) w es) (putN (Str.ofString f) es n))]) hc (λ o e=>by rw [ho] at e;cases e;rfl) rfl (.inst hp ?_ (by omega)) F' (by rw [flat2s hc];exact N')⟩,trivial⟩
 intro p hp'
 have: ∀ {fs:List (String × AV)},p∈put f b fs→p.1=f∨ ∃ q∈fs,q.1=p.1:=by
  intro fs
  induction fs with
  | nil=>intro q;simp [put] at q;left;rw [q]
  | cons q r ih =>
   intro z
   unfold put at z
   split at z
   ·rcases List.mem_cons.mp z with rfl | z
    ·left;rfl
    ·right;exact ⟨p,by simp [z],rfl⟩
   ·rcases List.mem_cons.mp z with rfl | z
    ·right;exact ⟨p,by simp,rfl⟩
    ·rcases ih z with h | ⟨q',a,b⟩
     ·left;exact h
     ·right;exact ⟨q',by simp [a],b⟩
 rcases this hp' with h | ⟨q,a,b⟩
 ·rw [h];exact hmem
 ·rw [← b];exact h2 q a
theorem tru_does {v:Value} {a:AV} {μ:Mem} {adr:List Addr} {s:Shared} (S:St g x Γ μ adr s) (r:VR x.fd adr v a):Does g x Γ (λ _ a b=>a=b) (truthy v) (tru a) μ adr s:=by
 intro b μ' e
 cases r <;> try (cases e;done)
 cases e
 exact wpAny_truthy_bool ⟨adr,List.prefix_refl _,S,rfl⟩
theorem isTrue_of_eval {M:Model} {A:Around} {E:Value→Shared→Prop} {s:Shared} {env:Env} {l r:Expr} {op:CmpOp} {pos:Pos} {whole:Sem Value} {Q:Bool→Shared→Prop}
  (h:wpAny M A (eval (.Compare l [op] [r] pos) env) (λ c s₁=>wpAny M A (truthy c) Q E s₁) E s):wpAny M A (isTrue (.Compare l [op] [r] pos) env whole) Q E s:=λ Γ p hΓ=>by
 have z:=h Γ p hΓ
 rw [isTrue_Compare1]
 rw [eval_Compare1] at z
 simp only [Sem.wp_bind',Sem.wp_holding] at z ⊢
 exact Sem.wp_mono M Γ _ (λ a p₁ s₁ z=>Sem.wp_mono M Γ _ (λ b p₂ s₂ z=>Sem.wp_mono M Γ _ (λ _ p₃ s₃ z=>Sem.wp_mono M Γ _ (λ c p₄ s₄ z=>z Γ p₄ hΓ) (λ _ _ _ z=>z) _ _ z) (λ _ _ _ z=>z) _ _ z) (λ _ _ _ z=>z) _ _ z) (λ _ _ _ z=>z) _ _ z
theorem RC_cmp {l r:Expr} {op:CmpOp} {p:Pos} {m:M AV} (h:RE g fr d sc Γ (.Compare l [op] [r] p) m):RC g fr d sc Γ (.Compare l [op] [r] p) (bd m tru):=λ x hx hsc hfr μ adr s S =>
 Does.via (h x hx hsc hfr μ adr s S) (f:=truthy) (λ Q hq=>isTrue_of_eval hq) λ a b μ adr s S r=>tru_does S r
theorem RC_plain {e:Expr} {m:M AV} (h:RE g fr d sc Γ e m) (he: ∀ env whole,isTrue e env whole=(do let v ← whole;standAt e.pos;holding [v] (truthy v)):=by intro _ _;rfl):RC g fr d sc Γ e (bd m tru):=λ x hx hsc hfr μ adr s S =>
 Does.via (h x hx hsc hfr μ adr s S) (f:=truthy) (λ Q hq=>isTrue_plain hq (he _ _)) λ a b μ adr s S r=>tru_does S r
theorem RC_not {e:Expr} {p:Pos} {m:M Bool} (h:RC g fr d sc Γ e m):RC g fr d sc Γ (.UnaryOp .Not e p) (notC m):=λ x hx hsc hfr μ adr s S =>
 Does.via (h x hx hsc hfr μ adr s S) (f:=λ c=>(pure (!c):Sem Bool)) (λ Q hq=>by
  show wpAny _ _ (isTrue e x.env (eval e x.env) >>= λ c=>pure (!c)) _ _ _
  exact wpAny_bind hq) λ a b μ adr s S r=>by
  intro c μ' e
  cases e
  subst r
  exact wpAny_pure ⟨adr,List.prefix_refl _,S,rfl⟩
theorem RC_and1 {e:Expr} {p:Pos} {m:M Bool} (h:RC g fr d sc Γ e m):RC g fr d sc Γ (.BoolOp .And [e] p) m:=λ x hx hsc hfr μ adr s S =>
 Does.same (h x hx hsc hfr μ adr s S) λ Q hq=>isTrue_and (wpAny_mono hq (λ c s' z=>by
  cases c
  ·exact z
  ·exact isTrue_and_nil z) λ _ _ z=>z)
theorem RC_or1 {e:Expr} {p:Pos} {m:M Bool} (h:RC g fr d sc Γ e m):RC g fr d sc Γ (.BoolOp .Or [e] p) m:=λ x hx hsc hfr μ adr s S =>
 Does.same (h x hx hsc hfr μ adr s S) λ Q hq=>isTrue_or (wpAny_mono hq (λ c s' z=>by
  cases c
  ·exact isTrue_or_nil z
  ·exact z) λ _ _ z=>z)
theorem RC_and {e:Expr} {es:List Expr} {p:Pos} {m m':M Bool} (h:RC g fr d sc Γ e m) (h':RC g fr d sc Γ (.BoolOp .And es p) m'):RC g fr d sc Γ (.BoolOp .And (e :: es) p) (andC m m'):=by
 intro x hx hsc hfr μ adr s S b' μ' e
 obtain ⟨b,μ₁,e1,e2⟩:=bd_some e
 refine isTrue_and (wpAny_mono (h x hx hsc hfr μ adr s S b μ₁ e1) (λ c s₁ z=> ?_) λ _ _ z=>z)
 obtain ⟨adr₁,p1,S1,rfl⟩:=z
 cases c
 ·cases e2;exact ⟨adr₁,p1,S1,rfl⟩
 ·refine wpAny_mono (h' x hx hsc hfr μ₁ adr₁ s₁ S1 b' μ' e2) (λ c s₂ z=> ?_) λ _ _ z=>z
  obtain ⟨adr₂,p2,S2,r⟩:=z
  exact ⟨adr₂,p1.trans p2,S2,r⟩
theorem RC_or {e:Expr} {es:List Expr} {p:Pos} {m m':M Bool} (h:RC g fr d sc Γ e m) (h':RC g fr d sc Γ (.BoolOp .Or es p) m'):RC g fr d sc Γ (.BoolOp .Or (e :: es) p) (orC m m'):=by
 intro x hx hsc hfr μ adr s S b' μ' e
 obtain ⟨b,μ₁,e1,e2⟩:=bd_some e
 refine isTrue_or (wpAny_mono (h x hx hsc hfr μ adr s S b μ₁ e1) (λ c s₁ z=> ?_) λ _ _ z=>z)
 obtain ⟨adr₁,p1,S1,rfl⟩:=z
 cases c
 ·refine wpAny_mono (h' x hx hsc hfr μ₁ adr₁ s₁ S1 b' μ' e2) (λ c s₂ z=> ?_) λ _ _ z=>z
  obtain ⟨adr₂,p2,S2,r⟩:=z
  exact ⟨adr₂,p1.trans p2,S2,r⟩
 ·cases e2;exact ⟨adr₁,p1,S1,rfl⟩
theorem RE_ite {c a b:Expr} {p:Pos} {mc:M Bool} {ma mb:M AV} (hc:RC g fr d sc Γ c mc) (ha:RE g fr d sc Γ a ma) (hb:RE g fr d sc Γ b mb):RE g fr d sc Γ (.IfExp c a b p) (iteV mc ma mb):=by
 intro x hx hsc hfr μ adr s S
 refine Does.via (hc x hx hsc hfr μ adr s S) (f:=λ t=>if t then eval a x.env else eval b x.env) (λ Q hq=> ?_) λ t t' μ adr s S r=> ?_
 ·rw [arm_eval_IfExp];exact wpAny_bind hq
 ·subst r
  cases t
  ·exact hb x hx hsc hfr μ adr s S
  ·exact ha x hx hsc hfr μ adr s S
theorem RE_and {a b:Expr} {p:Pos} {ma mb:M AV} (ha:RE g fr d sc Γ a ma) (hb:RE g fr d sc Γ b mb):RE g fr d sc Γ (.BoolOp .And [a,b] p) (andV ma mb):=by
 intro x hx hsc hfr μ adr s S
 refine Does.via (ha x hx hsc hfr μ adr s S) (f:=λ v=>do
   standAt p
   let t ← holding [v] (truthy v)
   match BoolOp.And,t with
   | .And,false | .Or,true=>pure v
   | _,_=>boolOp p .And [eval b x.env]) (λ Q hq=> ?_) λ v av μ adr s S r=> ?_
 ·rw [arm_eval_BoolOp]
  exact wpAny_bind hq
 ·intro c μ' e
  obtain ⟨t,μ₁,e1,e2⟩:=bd_some e
  refine wpAny_bind (wpAny_standAt (wpAny_bind (wpAny_holding (wpAny_mono (tru_does S r t μ₁ e1) (λ t' s₁ z=> ?_) λ _ _ z=>z))))
  obtain ⟨adr₁,p1,S1,rfl⟩:=z
  cases t'
  ·cases e2;exact wpAny_pure ⟨adr₁,p1,S1,r.pre p1⟩
  ·refine wpAny_mono (hb x hx hsc hfr μ₁ adr₁ s₁ S1 c μ' e2) (λ c s₂ z=> ?_) λ _ _ z=>z
   obtain ⟨adr₂,p2,S2,r2⟩:=z
   exact ⟨adr₂,p1.trans p2,S2,r2⟩
structure REs (g:Gd) (fr:Bool) (d:Nat) (sc:Scope) (Γ:Cx0) (es:List Expr) (ms:List (M AV)):Prop where
 star: ∀ env,starEach es env=es.map λ e=>(false,eval e env)
 len:es.length=ms.length
 run: ∀ x:Cx,x.Ok g d→x.env.scope=sc→(fr=true→x.env=x.fenv)→ ∀ pos,Sim g x Γ Γ (λ adr=>F2 (VR x.fd adr)) (spliced (backTo pos (starEach es x.env))) (evs ms)
theorem REs_nil:REs g fr d sc Γ [] []:=⟨λ _=>rfl,rfl,λ x hx hsc hfr pos μ adr s S b μ' e=>by
 cases e
 exact wpAny_pure ⟨adr,List.prefix_refl _,S, .nil⟩⟩
theorem REs_cons {e:Expr} {es:List Expr} {m:M AV} {ms:List (M AV)} (h:RE g fr d sc Γ e m) (h':REs g fr d sc Γ es ms) (he: ∀ env,starEach (e :: es) env=(false,eval e env) :: starEach es env:=by intro _;rfl) :
  REs g fr d sc Γ (e :: es) (m :: ms):=by
 refine ⟨λ env=>by rw [he,h'.star];rfl,by simp [h'.len],?_⟩
 intro x hx hsc hfr pos μ adr s S b μ' eq
 obtain ⟨a,μ₁,e1,e2⟩:=bd_some (show bd m (λ a=>bd (evs ms) λ as=>rt (a :: as)) μ=_ from eq)
 obtain ⟨as,μ₂,e2,e3⟩:=bd_some e2
 cases e3
 rw [he]
 show wpAny _ _ (eval e x.env >>= λ v=>(pure [v]:Sem (List Value)) >>= λ here=>holding here (spliced (backTo pos (starEach es x.env))) >>= λ r=>pure (here ++ r)) _ _ _
 refine wpAny_bind (wpAny_mono (h x hx hsc hfr μ adr s S a μ₁ e1) (λ v s₁ z=> ?_) λ _ _ z=>z)
 obtain ⟨adr₁,p1,S1,r1⟩:=z
 refine wpAny_bind (wpAny_pure (wpAny_bind (wpAny_holding (wpAny_mono (h'.run x hx hsc hfr pos μ₁ adr₁ s₁ S1 as μ' e2) (λ vs s₂ z=> ?_) λ _ _ z=>z))))
 obtain ⟨adr₂,p2,S2,r2⟩:=z
 exact wpAny_pure ⟨adr₂,p1.trans p2,S2, .cons (r1.pre p2) r2⟩
theorem al_inv {o:AO} {b:AV} {μ μ':Mem} (e:al o μ=some (b,μ')):b= .obj μ.length∧μ'=μ ++ [o]:=by cases e;exact ⟨rfl,rfl⟩
theorem StE.lt {μ:Mem} {adr:List Addr} {s:Shared} {cs:List Led} {pl:Led} {m:Str→Option Value} (S:StE g x Γ μ adr s cs pl m): ∀ p∈cs.flatten ++ pl,p.1 < s.heap.objs.size:=λ p hp=>Heap.lt_size (S.N p hp).1
theorem StE.ladr {μ:Mem} {adr:List Addr} {s:Shared} {cs:List Led} {pl:Led} {m:Str→Option Value} (S:StE g x Γ μ adr s cs pl m):adr.length=μ.length:=by
 rw [← S.ha,List.length_map,S.C.len]
theorem VR.last {fd:Option Addr} {adr:List Addr} {a:Addr} {n:Nat} (h:adr.length=n):VR fd (adr ++ [a]) (.ref a) (.obj n):= .obj (by rw [← h];simp)
theorem St.new1 (hx:x.Ok g d) {μ:Mem} {adr:List Addr} {s s':Shared} {cs:List Led} {pl:Led} {m:Str→Option Value} (S:StE g x Γ μ adr s cs pl m) {a:Addr} {o:Obj} {ao:AO}
  (hc:CR g x.fd (adr ++ [a]) [(a,o)] ao) (F:Fr x.h₀ x.L s'.heap m) (N:News x.h₀ x.L s'.heap ((a,o) :: (cs.flatten ++ pl))) (hl: ∀ p∈cs.flatten ++ pl,p.1 < a)
  (h1:s'.gens=s.gens:=by rfl) (h2:s'.drawn=s.drawn:=by rfl) (h3:s'.os=s.os:=by rfl) :
  ∃ adr',adr <+: adr'∧St g x Γ (μ ++ [ao]) adr' s'∧VR x.fd adr' (.ref a) (.obj μ.length):=by
 have z:=S.new (c:=[(a,o)]) (λ adr' p=>hx.mono _ _ p) hc F N (by simp) (λ p hp q hq=>by
  rw [List.mem_singleton.mp hp];exact Nat.ne_of_lt (hl q hq)) h1 h2 h3
 exact ⟨_,⟨_,rfl⟩,⟨_,_,_,z⟩, .last S.ladr⟩
theorem mkL_does (hx:x.Ok g d) {vs:List Value} {xs:List AV} {μ:Mem} {adr:List Addr} {s:Shared} (S:St g x Γ μ adr s) (r:F2 (VR x.fd adr) vs xs) (hl:xs.length≤big):Does g x Γ (VR x.fd) (newList vs) (al (.list xs)) μ adr s:=by
 intro b μ' e
 obtain ⟨rfl,rfl⟩:=al_inv e
 obtain ⟨cs,pl,m,S⟩:=S
 refine newList_K S.F S.N (λ l h' F' N' lt=> ?_) (by rw [r.len,sizeLine_eq];unfold big at hl;omega)
 exact St.new1 hx S (.list (r.mono λ _ _=>VR.pre ⟨_,rfl⟩) hl) F' N' lt
theorem mkT_does (hx:x.Ok g d) {vs:List Value} {xs:List AV} {μ:Mem} {adr:List Addr} {s:Shared} (S:St g x Γ μ adr s) (r:F2 (VR x.fd adr) vs xs) (hl:xs.length≤big):Does g x Γ (VR x.fd) (newTuple vs) (al (.tup xs)) μ adr s:=by
 intro b μ' e
 obtain ⟨rfl,rfl⟩:=al_inv e
 obtain ⟨cs,pl,m,S⟩:=S
 refine newTuple_N S.F S.N (λ h' F' N'=> ?_) (by rw [r.len,sizeLine_eq];unfold big at hl;omega)
 exact St.new1 hx S (.tup (r.mono λ _ _=>VR.pre ⟨_,rfl⟩) hl) F' N' S.lt
theorem evs_len {ms:List (M AV)} {xs:List AV} {μ μ':Mem} (e:evs ms μ=some (xs,μ')):xs.length=ms.length:=by
 induction ms generalizing xs μ μ' with
 | nil=>cases e;rfl
 | cons m ms ih =>
  obtain ⟨a,μ₁,e1,e2⟩:=bd_some (show bd m (λ a=>bd (evs ms) λ as=>rt (a :: as)) μ=_ from e)
  obtain ⟨as,μ₂,e2,e3⟩:=bd_some e2
  cases e3
  simp [ih e2]
theorem RE_list {es:List Expr} {ms:List (M AV)} {p:Pos} (h:REs g fr d sc Γ es ms) (hl:ms.length≤100:=by decide):RE g fr d sc Γ (.List es p) (mkL ms):=by
 intro x hx hsc hfr μ adr s S b μ' e
 obtain ⟨xs,μ₁,e1,e2⟩:=bd_some (show bd (evs ms) (λ xs=>al (.list xs)) μ=_ from e)
 rw [arm_eval_List]
 refine wpAny_bind (wpAny_standAt (wpAny_bind (wpAny_mono (h.run x hx hsc hfr p μ adr s S xs μ₁ e1) (λ vs s₁ z=> ?_) λ _ _ z=>z)))
 obtain ⟨adr₁,p1,S1,r1⟩:=z
 refine wpAny_mono (mkL_does hx S1 r1 (by rw [evs_len e1];unfold big;omega) b μ' e2) (λ v s₂ z=> ?_) λ _ _ z=>z
 obtain ⟨adr₂,p2,S2,r2⟩:=z
 exact ⟨adr₂,p1.trans p2,S2,r2⟩
theorem RE_tuple {es:List Expr} {ms:List (M AV)} {k:Nat} {p:Pos} (h:REs g fr d sc Γ es ms) (hl:ms.length≤100:=by decide):RE g fr d sc Γ (.Tuple es k p) (mkT ms):=by
 intro x hx hsc hfr μ adr s S b μ' e
 obtain ⟨xs,μ₁,e1,e2⟩:=bd_some (show bd (evs ms) (λ xs=>al (.tup xs)) μ=_ from e)
 rw [arm_eval_Tuple]
 refine wpAny_bind (wpAny_standAt (wpAny_bind (wpAny_mono (h.run x hx hsc hfr p μ adr s S xs μ₁ e1) (λ vs s₁ z=> ?_) λ _ _ z=>z)))
 obtain ⟨adr₁,p1,S1,r1⟩:=z
 refine wpAny_mono (mkT_does hx S1 r1 (by rw [evs_len e1];unfold big;omega) b μ' e2) (λ v s₂ z=> ?_) λ _ _ z=>z
 obtain ⟨adr₂,p2,S2,r2⟩:=z
 exact ⟨adr₂,p1.trans p2,S2,r2⟩
theorem RE_dI {p:Pos}:RE g fr d sc Γ (.Dict [] [] p) (al (.dI false [])):=by
 intro x hx hsc hfr μ adr s S b μ' e
 obtain ⟨rfl,rfl⟩:=al_inv e
 obtain ⟨cs,pl,m,S⟩:=S
 refine newDict_K (prog:=g.prog) (w:=g.w) S.F S.N hx.top.nolimit λ dd h' o F' N' lt lo a1 _ a2 _=> ?_
 exact St.new1 hx S (.dI a2 .nil lo (Nat.zero_le _)) F' N' lt
theorem RE_dS {p:Pos}:RE g fr d sc Γ (.Dict [] [] p) (al (.dS false [])):=by
 intro x hx hsc hfr μ adr s S b μ' e
 obtain ⟨rfl,rfl⟩:=al_inv e
 obtain ⟨cs,pl,m,S⟩:=S
 refine newDict_K (prog:=g.prog) (w:=g.w) S.F S.N hx.top.nolimit λ dd h' o F' N' lt lo a1 _ a2 _=> ?_
 exact St.new1 hx S (.dS a1 .nil lo (Nat.zero_le _)) F' N' lt
end
section
variable {g:Gd} {x:Cx} {Γ Γ':Cx0} {d:Nat} {fr:Bool} {sc:Scope}
def Got (g:Gd) (x:Cx) (Γ:Cx0) (va vb:Value) (b:AV) (μ:Mem) (adr:List Addr) (s:Shared):Prop :=
 wpAny (model g.prog g.w) x.A (getItem va vb) (λ a s'=> ∃ adr',adr <+: adr'∧St g x Γ μ adr' s'∧VR x.fd adr' a b) nof s ∧
  ∃ T id,s.TypeIs va T∧typeLookup (.type T) "__getitem__" =pure (some (.builtin id))
theorem getI_got (hx:x.Ok g d) {va vb:Value} {a b c:AV} {μ μ':Mem} {adr:List Addr} {s:Shared} (S:St g x Γ μ adr s) (r1:VR x.fd adr va a) (r2:VR x.fd adr vb b) (e:getI a b μ=some (c,μ')) :
  μ'=μ∧Got g x Γ va vb c μ adr s:=by
 cases a <;> try (cases b <;> cases e;done)
 rename_i i
 cases b <;> try (cases e;done)
 ·rename_i k
  obtain ⟨o,μ₁,e1,e2⟩:=bd_some (show bd (rd i) _ μ=_ from e)
  obtain ⟨h1,rfl⟩:=rd_some e1
  have S':=S
  obtain ⟨cs,pl,m,S⟩:=S
  cases r1
  rename_i ad had
  cases r2
  rename_i t
  obtain ⟨ch,hc,hr⟩:=S.chunk h1
  have had':=S.adr_of hc had
  cases hr with
  | inst=>cases e2
  | dS=>cases e2
  | @list ad' vs n xs q1 q2 =>
   simp only [hd1] at had';subst had'
   dsimp only at e2
   by_cases hk:0≤k
   ·rw [if_pos hk] at e2
    obtain ⟨e3,rfl⟩:=opt_some e2
    obtain ⟨v,hv1,hv2⟩:=q1.at_ e3
    have hl:s.heap.IsList ad' vs.toArray:=⟨_,S.at1 hc,rfl,n,rfl⟩
    have hlt:k.toNat < xs.length:=(List.getElem?_eq_some_iff.mp e3).1
    refine ⟨rfl,wpAny_getItem_list hl hk (by unfold big at q2;omega) (by simpa using hv1) ⟨adr,List.prefix_refl _,S',hv2⟩,_,_,hl.typeIs,slot_list_getitem.lookup⟩
   ·rw [if_neg hk] at e2;cases e2
  | @tup ad' vs n xs q1 q2 =>
   simp only [hd1] at had';subst had'
   dsimp only at e2
   by_cases hk:0≤k
   ·rw [if_pos hk] at e2
    obtain ⟨e3,rfl⟩:=opt_some e2
    obtain ⟨v,hv1,hv2⟩:=q1.at_ e3
    have hl:IsTup s.heap ad' vs.toArray:=⟨_,S.at1 hc,rfl,n,rfl⟩
    have hlt:k.toNat < xs.length:=(List.getElem?_eq_some_iff.mp e3).1
    have hvl:k.toNat < vs.length:=by rw [q1.len];exact hlt
    refine ⟨rfl,PyProof.Rows.getItem_tuple (j:=k.toNat) hl (by omega) (by unfold big at q2;omega) ?_ (by simpa using hv1) ⟨adr,List.prefix_refl _,S',hv2⟩,"tuple",_,⟨_,S.at1 hc,rfl⟩,PySem.F.slot_tuple_getitem.lookup⟩
    unfold seqIndex?
    have hvk:k < (vs.length:Int):=by omega
    have hnk: ¬ k < 0:=by omega
    simp [hnk,hk,hvk]
   ·rw [if_neg hk] at e2;cases e2
  | @dI ad' o lk kvs es q1 q2 q3 q4 =>
   simp only [hd1] at had';subst had'
   dsimp only at e2
   obtain ⟨e3,rfl⟩:=opt_some e2
   obtain ⟨v,hv1,hv2⟩:=(valueAt_PR (g:=(id:Int→Int)) (λ a b h=>h) q2 k).1 c e3
   have hD:=kda_dict S.N (mem1 hc) q1
   exact ⟨rfl,wpAny_getItem_of (intKind_is _ _ _ _) hD.mapOf hv1 ⟨adr,List.prefix_refl _,S'.toks,hv2⟩,_,_,hD.typeIs,slot_dict_getitem.lookup⟩
 ·rename_i k
  obtain ⟨o,μ₁,e1,e2⟩:=bd_some (show bd (rd i) _ μ=_ from e)
  obtain ⟨h1,rfl⟩:=rd_some e1
  have S':=S
  obtain ⟨cs,pl,m,S⟩:=S
  cases r1
  rename_i ad had
  cases r2
  rename_i t
  obtain ⟨ch,hc,hr⟩:=S.chunk h1
  have had':=S.adr_of hc had
  cases hr <;> try (cases e2;done)
  rename_i ad' o lk kvs es q1 q2 q3 q4
  simp only [hd1] at had';subst had'
  dsimp only at e2
  obtain ⟨e3,rfl⟩:=opt_some e2
  obtain ⟨v,hv1,hv2⟩:=(valueAt_PR (g:=Str.ofString) (λ a b h=>ofString_inj h) q2 k).1 c e3
  have hD:=kda_dict S.N (mem1 hc) q1
  exact ⟨rfl,wpAny_getItem_of (strKind_is _ _ _ _) hD.mapOf hv1 ⟨adr,List.prefix_refl _,S'.toks,hv2⟩,_,_,hD.typeIs,slot_dict_getitem.lookup⟩
theorem RE_sub {a b:Expr} {ma mb:M AV} {p:Pos} (ha:RE g fr d sc Γ a ma) (hb:RE g fr d sc Γ b mb) (hs: ∀ o i,subscripted b false o i=operate [o,i] (getItem o i):=by intro _ _;rfl) :
  RE g fr d sc Γ (.Subscript a b p) (bd ma λ o=>bd mb λ i=>getI o i):=by
 refine Sim2 ha hb (op:=λ o i=>subscriptTail a b o i) (mop:=getI) ?_ (T:=λ env=>eval (.Subscript a b p) env) λ env A s Q h=>Subscript_ h
 intro x d Γ hx va vb av bv μ adr s S r1 r2 c μ' e
 obtain ⟨rfl,h,T,id,hT,hl⟩:=getI_got hx S r1 r2 e
 exact tail_any hT hl h (hs _ _)
theorem appL_does (hx:x.Ok g d) {va vb:Value} {a b:AV} {μ:Mem} {adr:List Addr} {s:Shared} (S:St g x Γ μ adr s) (r1:VR x.fd adr va a) (r2:VR x.fd adr vb b) :
  Does g x Γ (VR x.fd) (call (.builtin "list.append") [va,vb]) (appL a b) μ adr s:=by
 intro c μ' e
 cases a <;> try (cases e;done)
 rename_i i
 obtain ⟨o,μ₁,e1,e2⟩:=bd_some (show bd (rd i) _ μ=_ from e)
 obtain ⟨h1,rfl⟩:=rd_some e1
 cases o <;> try (cases e2;done)
 rename_i xs
 dsimp only at e2
 by_cases hk:xs.length < big
 ·rw [if_pos hk] at e2
  obtain ⟨u,μ₂,e3,e4⟩:=bd_some e2
  have:=wr_some e3
  cases e4
  subst this
  obtain ⟨cs,pl,m,S⟩:=S
  cases r1
  rename_i ad had
  obtain ⟨ch,hc,hr⟩:=S.chunk h1
  have had':=S.adr_of hc had
  cases hr
  rename_i ad' vs n q1 q2
  simp only [hd1] at had';subst had'
  have N:=S.N
  have nd:=S.nd
  rw [flat1 hc] at N nd
  refine append_K S.F N (upd_nd nd) (λ h' F' N'=>⟨adr,List.prefix_refl _,⟨_,pl,m,S.put (c':=[(ad',listOf (vs ++ [vb]).toArray (n+1))]) hc (λ o e=>by rw [h1] at e;cases e;rfl) rfl (.list (q1.app (.cons r2 .nil)) (by simp;omega)) F' ?_⟩, .none⟩) ?_
  ·rw [flat1s hc];rw [List.push_toArray] at N';exact N'
  ·have:=q1.len;simp [sizeLine_eq];unfold big at hk;omega
 ·rw [if_neg hk] at e2;cases e2
theorem popL_does (hx:x.Ok g d) {va:Value} {t:Tok} {a:AV} {μ:Mem} {adr:List Addr} {s:Shared} (S:St g x Γ μ adr s) (r1:VR x.fd adr va a) :
  Does g x Γ (VR x.fd) (call (.builtin "list.pop") [va, .int 0 t]) (popL a) μ adr s:=by
 intro c μ' e
 cases a <;> try (cases e;done)
 rename_i i
 obtain ⟨o,μ₁,e1,e2⟩:=bd_some (show bd (rd i) _ μ=_ from e)
 obtain ⟨h1,rfl⟩:=rd_some e1
 cases o <;> try (cases e2;done)
 rename_i xs
 cases xs <;> try (cases e2;done)
 rename_i y ys
 dsimp only at e2
 obtain ⟨u,μ₂,e3,e4⟩:=bd_some e2
 have:=wr_some e3
 cases e4
 subst this
 obtain ⟨cs,pl,m,S⟩:=S
 cases r1
 rename_i ad had
 obtain ⟨ch,hc,hr⟩:=S.chunk h1
 have had':=S.adr_of hc had
 cases hr
 rename_i ad' vs n q1 q2
 simp only [hd1] at had';subst had'
 cases q1 with
 | @cons v _ vs _ r q1 =>
 have N:=S.N
 have nd:=S.nd
 rw [flat1 hc] at N nd
 have hl:=q1.len
 simp only [List.length_cons] at q2
 refine kl_popAt (p:=[]) (q:=vs) (y:=v) (k:=0) S.F N (by decide) ?_ rfl (upd_nd nd) ?_ (λ h' F' N'=>⟨adr,List.prefix_refl _,⟨_,pl,m,S.put (c':=[(ad',listOf vs.toArray (n+1))]) hc (λ o e=>by rw [h1] at e;cases e;rfl) rfl (.list q1 (by omega)) F' ?_⟩,r⟩)
 ·unfold seqIndex?
  simp
 ·simp [sizeLine_eq];unfold big at q2;omega
 ·rw [flat1s hc];exact N'
theorem without_PR {κ:Type} [DecidableEq κ] {κ':Type} [DecidableEq κ'] {gg:κ'→κ} (hg: ∀ a b,gg a=gg b→a=b) {fd:Option Addr} {adr:List Addr} {kvs:List (κ × Value)} {es:List (κ' × AV)} (h:F2 (PR gg fd adr) kvs es) (k:κ') (nd:(kvs.map (·.1)).Nodup) :
  F2 (PR gg fd adr) (without kvs (gg k)) (del k es):=by
 induction h with
 | nil=>exact .nil
 | @cons e p kvs es h1 h2 ih =>
  obtain ⟨hk,hv'⟩:=h1
  simp only [List.map_cons,List.nodup_cons] at nd
  unfold del
  by_cases hp:p.1=k
  ·have he:e.1=gg k:=by rw [hk,hp]
   simp only [hp,if_true]
   have hno: ∀ q∈kvs,¬ q.1=gg k:=λ q hq e'=>nd.1 (by rw [he,← e'];exact List.mem_map_of_mem hq)
   have:without (e :: kvs) (gg k)=kvs:=by
    unfold without
    rw [List.filter_cons]
    simp only [he]
    rw [if_neg (by simp)]
    exact List.filter_eq_self.mpr λ q hq=>by simp [hno q hq]
   rw [this];exact h2
  ·have he: ¬ e.1=gg k:=λ q=>hp (hg _ _ (hk ▸ q))
   simp only [hp,if_false]
   have:without (e :: kvs) (gg k)=e :: without kvs (gg k):=by
    unfold without
    rw [List.filter_cons]
    rw [if_pos (by simp [he])]
   rw [this]
   exact .cons ⟨hk,hv'⟩ (ih nd.2)
theorem del_len {κ:Type} [DecidableEq κ] (k:κ): ∀ es:List (κ × AV),(del k es).length≤es.length
 | []=>by simp [del]
 | e :: r=>by
  unfold del
  split
  ·simp
  ·have:=del_len k r;simp;omega
theorem dictView {va vb:Value} {dv k:AV} {μ μ':Mem} {adr:List Addr} {s:Shared} {cs:List Led} {pl:Led} {m:Str→Option Value} {r:Option AV} (S:StE g x Γ μ adr s cs pl m) (r1:VR x.fd adr va dv) (r2:VR x.fd adr vb k)
  (e:getK dv k μ=some (r,μ')):μ'=μ∧ ∃ (i:Nat) (ad:Addr) (o:Obj) (κ:Type) (_:DecidableEq κ) (knd:KeyKind g.prog g.w κ) (kvs:List (κ × Value)) (kk:κ),
   dv= .obj i∧va= .ref ad∧cs[i]? =some [(ad,o)]∧o.IsDictOf knd kvs∧(ad == sysModules)=false∧knd.is kk vb=true∧(keyPart vb).isSome=true∧kvs.length≤big ∧
   (∀ y,r=some y→ ∃ v,valueAt kvs kk=some v∧VR x.fd adr v y)∧(r=none→valueAt kvs kk=none) ∧
   (∀ y v o',VR x.fd adr v y→o'.IsDictOf knd (stored kvs kk v)→ ∀ u μ₁,setI dv k y μ=some (u,μ₁)→ ∃ ao,μ₁=μ.set i ao∧CR g x.fd adr [(ad,o')] ao∧ ∀ o,μ[i]? =some o→o.locked=false) ∧
   (∀ o',o'.IsDictOf knd (without kvs kk)→ ∀ u μ₁,delK dv k μ=some (u,μ₁)→ ∃ ao,μ₁=μ.set i ao∧CR g x.fd adr [(ad,o')] ao∧ ∀ o,μ[i]? =some o→o.locked=false):=by
 cases dv <;> try (cases k <;> cases e;done)
 rename_i i
 cases k <;> try (cases e;done)
 ·rename_i k
  obtain ⟨o,μ₁,e1,e2⟩:=bd_some (show bd (rd i) _ μ=_ from e)
  obtain ⟨h1,rfl⟩:=rd_some e1
  cases r1
  rename_i ad had
  cases r2
  rename_i t
  obtain ⟨ch,hc,hr⟩:=S.chunk h1
  have had':=S.adr_of hc had
  cases hr <;> try (cases e2;done)
  rename_i ad' o lk kvs es q1 q2 q3 q4
  simp only [hd1] at had';subst had'
  cases e2
  have hv:=valueAt_PR (g:=(id:Int→Int)) (λ a b h=>h) q2 k
  have nd:(kvs.map (·.1)).Nodup:=by obtain ⟨_,_,_,_,_,_,z⟩:=q1;exact z
  refine ⟨rfl,i,ad',o,Int,inferInstance,_,kvs,k,rfl,rfl,hc,q1,q3,intKind_is _ _ _ _,rfl,by rw [q2.len];exact q4,hv.1,hv.2,?_,?_⟩
  ·intro y v o' hy ho' u μ₁ e
   obtain ⟨o₂,μ₂,e1,e2⟩:=bd_some (show bd (rd i) _ μ'=_ from e)
   obtain ⟨h2,rfl⟩:=rd_some e1
   rw [h1] at h2;cases h2
   dsimp only at e2
   by_cases hb:lk=false∧es.length < big
   ·rw [if_pos hb] at e2
    have hpl:=put_len k y es
    exact ⟨_,wr_some e2, .dI ho' (stored_PR (g:=(id:Int→Int)) (λ a b h=>h) q2 k hy nd) q3 (by omega),λ o e=>by rw [h1] at e;cases e;exact hb.1⟩
   ·rw [if_neg hb] at e2;cases e2
  ·intro o' ho' u μ₁ e
   obtain ⟨o₂,μ₂,e1,e2⟩:=bd_some (show bd (rd i) _ μ'=_ from e)
   obtain ⟨h2,rfl⟩:=rd_some e1
   rw [h1] at h2;cases h2
   have:=del_len k es
   dsimp only at e2
   split at e2
   ·rename_i hl
    exact ⟨_,wr_some e2, .dI ho' (without_PR (gg:=(id:Int→Int)) (λ a b h=>h) q2 k nd) q3 (by omega),λ o e=>by rw [h1] at e;cases e;exact hl⟩
   ·cases e2
 ·rename_i k
  obtain ⟨o,μ₁,e1,e2⟩:=bd_some (show bd (rd i) _ μ=_ from e)
  obtain ⟨h1,rfl⟩:=rd_some e1
  cases r1
  rename_i ad had
  cases r2
  rename_i t
  obtain ⟨ch,hc,hr⟩:=S.chunk h1
  have had':=S.adr_of hc had
  cases hr <;> try (cases e2;done)
  rename_i ad' o lk kvs es q1 q2 q3 q4
  simp only [hd1] at had';subst had'
  cases e2
  have inj: ∀ a b:String,Str.ofString a=Str.ofString b→a=b:=λ a b h=>ofString_inj h
  have hv:=valueAt_PR inj q2 k
  have nd:(kvs.map (·.1)).Nodup:=by obtain ⟨_,_,_,_,_,_,z⟩:=q1;exact z
  refine ⟨rfl,i,ad',o,Str,inferInstance,_,kvs,Str.ofString k,rfl,rfl,hc,q1,q3,strKind_is _ _ _ _,rfl,by rw [q2.len];exact q4,hv.1,hv.2,?_,?_⟩
  ·intro y v o' hy ho' u μ₁ e
   obtain ⟨o₂,μ₂,e1,e2⟩:=bd_some (show bd (rd i) _ μ'=_ from e)
   obtain ⟨h2,rfl⟩:=rd_some e1
   rw [h1] at h2;cases h2
   dsimp only at e2
   by_cases hb:lk=false∧es.length < big
   ·rw [if_pos hb] at e2
    have hpl:=put_len k y es
    exact ⟨_,wr_some e2, .dS ho' (stored_PR inj q2 k hy nd) q3 (by omega),λ o e=>by rw [h1] at e;cases e;exact hb.1⟩
   ·rw [if_neg hb] at e2;cases e2
  ·intro o' ho' u μ₁ e
   obtain ⟨o₂,μ₂,e1,e2⟩:=bd_some (show bd (rd i) _ μ'=_ from e)
   obtain ⟨h2,rfl⟩:=rd_some e1
   rw [h1] at h2;cases h2
   have:=del_len k es
   dsimp only at e2
   split at e2
   ·rename_i hl
    exact ⟨_,wr_some e2, .dS ho' (without_PR inj q2 k nd) q3 (by omega),λ o e=>by rw [h1] at e;cases e;exact hl⟩
   ·cases e2
theorem rt_inv {α:Type} {a b:α} {μ μ':Mem} (e:rt a μ=some (b,μ')):b=a∧μ'=μ:=by cases e;exact ⟨rfl,rfl⟩
theorem dget1_does (hx:x.Ok g d) {va vb:Value} {a b:AV} {μ:Mem} {adr:List Addr} {s:Shared} (S:St g x Γ μ adr s) (r1:VR x.fd adr va a) (r2:VR x.fd adr vb b) :
  Does g x Γ (VR x.fd) (call (.builtin "dict.get") [va,vb]) (dget1 a b) μ adr s:=by
 intro c μ' e
 obtain ⟨r,μ₁,e1,e2⟩:=bd_some (show bd (getK a b) _ μ=_ from e)
 obtain ⟨rfl,rfl⟩:=rt_inv e2
 obtain ⟨cs,pl,m,S⟩:=S
 obtain ⟨rfl,i,ad,o,κ,_,knd,kvs,kk,rfl,rfl,hc,q1,q3,q5,q6,q7,q8,q9,_,_⟩:=dictView S r1 r2 e1
 refine kdg_get1 S.N (mem1 hc) q1 q3 q5 _ rfl ⟨adr,List.prefix_refl _,⟨cs,pl,m,S.toks⟩,?_⟩
 cases r with
 | none=>rw [q9 rfl];exact .none
 | some y=>obtain ⟨v,h1,h2⟩:=q8 y rfl;rw [h1];exact h2
theorem dget2_does (hx:x.Ok g d) {va vb vc:Value} {a b z:AV} {μ:Mem} {adr:List Addr} {s:Shared} (S:St g x Γ μ adr s) (r1:VR x.fd adr va a) (r2:VR x.fd adr vb b) (r3:VR x.fd adr vc z) :
  Does g x Γ (VR x.fd) (call (.builtin "dict.get") [va,vb,vc]) (dget2 a b z) μ adr s:=by
 intro c μ' e
 obtain ⟨r,μ₁,e1,e2⟩:=bd_some (show bd (getK a b) _ μ=_ from e)
 obtain ⟨rfl,rfl⟩:=rt_inv e2
 obtain ⟨cs,pl,m,S⟩:=S
 obtain ⟨rfl,i,ad,o,κ,_,knd,kvs,kk,rfl,rfl,hc,q1,q3,q5,q6,q7,q8,q9,_,_⟩:=dictView S r1 r2 e1
 refine kdg_get2 S.N (mem1 hc) q1 q3 q5 _ rfl ⟨adr,List.prefix_refl _,⟨cs,pl,m,S.toks⟩,?_⟩
 cases r with
 | none=>rw [q9 rfl];exact r3
 | some y=>obtain ⟨v,h1,h2⟩:=q8 y rfl;rw [h1];exact h2
theorem op_in:Op2 g (compareOp .In) inK:=by
 intro x d Γ hx va vb a b μ adr s S r1 r2 c μ' e
 obtain ⟨r,μ₁,e1,e2⟩:=bd_some (show bd (getK b a) _ μ=_ from e)
 obtain ⟨rfl,rfl⟩:=rt_inv e2
 obtain ⟨cs,pl,m,S⟩:=S
 obtain ⟨rfl,i,ad,o,κ,_,knd,kvs,kk,rfl,rfl,hc,q1,q3,q5,q6,q7,q8,q9,_,_⟩:=dictView S r2 r1 e1
 refine kda_in S.N (mem1 hc) q1 q3 q5 r.isSome ?_ ⟨adr,List.prefix_refl _,⟨cs,pl,m,S.toks⟩, .bool _⟩
 cases r with
 | none=>rw [q9 rfl];rfl
 | some y=>obtain ⟨v,h1,h2⟩:=q8 y rfl;rw [h1];rfl
theorem op_nin:Op2 g (compareOp .NotIn) ninK:=by
 intro x d Γ hx va vb a b μ adr s S r1 r2 c μ' e
 obtain ⟨r,μ₁,e1,e2⟩:=bd_some (show bd (getK b a) _ μ=_ from e)
 obtain ⟨rfl,rfl⟩:=rt_inv e2
 obtain ⟨cs,pl,m,S⟩:=S
 obtain ⟨rfl,i,ad,o,κ,_,knd,kvs,kk,rfl,rfl,hc,q1,q3,q5,q6,q7,q8,q9,_,_⟩:=dictView S r2 r1 e1
 refine kdg_notin S.N (mem1 hc) q1 q3 q5 r.isSome ?_ ⟨adr,List.prefix_refl _,⟨cs,pl,m,S.toks⟩, .bool _⟩
 cases r with
 | none=>rw [q9 rfl];rfl
 | some y=>obtain ⟨v,h1,h2⟩:=q8 y rfl;rw [h1];rfl
theorem pop_there {va vb:Value} {more:List Value} {a b y:AV} {μ μ₁:Mem} {adr:List Addr} {s:Shared} {u:Unit} (S:St g x Γ μ adr s) (r1:VR x.fd adr va a) (r2:VR x.fd adr vb b) (hm:more=[]∨ ∃ z,more=[z])
  (hargs: ∀ dd,argsOk "dict.pop" ⟨dd :: vb :: more,[]⟩) (e1:getK a b μ=some (some y,μ)) (e2:delK a b μ=some (u,μ₁)) :
  wpAny (model g.prog g.w) x.A (call (.builtin "dict.pop") (va :: vb :: more)) (λ v s'=> ∃ adr',adr <+: adr'∧St g x Γ μ₁ adr' s'∧VR x.fd adr' v y) nof s:=by
 obtain ⟨cs,pl,m,S⟩:=S
 obtain ⟨_,i,ad,o,κ,_,knd,kvs,kk,rfl,rfl,hc,q1,q3,q5,q6,q7,q8,q9,_,q11⟩:=dictView S r1 r2 e1
 obtain ⟨v,h1,h2⟩:=q8 y rfl
 have hD:=kda_dict S.N (mem1 hc) q1
 have N:=S.N
 have nd:=S.nd
 rw [flat1 hc] at N nd
 obtain ⟨n1,n2⟩:=nd_split nd
 have hmm:=N (ad,o) (by simp)
 refine call_meetsIn PySem.F.slot_dict_pop hD.typeIs PySem.F.entry_dict_pop (hargs _) (meets_dict_pop_there knd ad q5 more hm q6) ⟨kvs,v,hD,(by rw [sizeLine_eq];unfold big at q7;omega),h1,λ h' hd' hs=> ?_⟩
 obtain ⟨o',ho',hd''⟩:=Heap.dictOf_iff.mp hd'
 obtain ⟨ao,rfl,hcr,hul⟩:=q11 o' hd'' u μ₁ e2
 refine ⟨adr,List.prefix_refl _,⟨_,pl,m,S.put (c':=[(ad,o')]) hc hul rfl hcr (S.F.change hs hmm.2.1 hmm.2.2) ?_⟩,h2⟩
 rw [flat1s hc]
 exact N.setIn n1 n2 hs ho'
theorem dpop1_does (hx:x.Ok g d) {va vb:Value} {a b:AV} {μ:Mem} {adr:List Addr} {s:Shared} (S:St g x Γ μ adr s) (r1:VR x.fd adr va a) (r2:VR x.fd adr vb b) :
  Does g x Γ (VR x.fd) (call (.builtin "dict.pop") [va,vb]) (dpop1 a b) μ adr s:=by
 intro c μ' e
 obtain ⟨r,μ₁,e1,e2⟩:=bd_some (show bd (getK a b) _ μ=_ from e)
 have hμ:μ₁=μ:=by obtain ⟨cs,pl,m,S⟩:=S;exact (dictView S r1 r2 e1).1
 subst hμ
 cases r with
 | none=>cases e2
 | some y =>
  obtain ⟨u,μ₂,e3,e4⟩:=bd_some e2
  obtain ⟨rfl,rfl⟩:=rt_inv e4
  exact pop_there S r1 r2 (.inl rfl) (λ dd=>PySem.F.args_dict_pop_2 _ _) e1 e3
theorem dpop2_does (hx:x.Ok g d) {va vb vc:Value} {a b z:AV} {μ:Mem} {adr:List Addr} {s:Shared} (S:St g x Γ μ adr s) (r1:VR x.fd adr va a) (r2:VR x.fd adr vb b) (r3:VR x.fd adr vc z) :
  Does g x Γ (VR x.fd) (call (.builtin "dict.pop") [va,vb,vc]) (dpop2 a b z) μ adr s:=by
 intro c μ' e
 obtain ⟨r,μ₁,e1,e2⟩:=bd_some (show bd (getK a b) _ μ=_ from e)
 have hμ:μ₁=μ:=by obtain ⟨cs,pl,m,S⟩:=S;exact (dictView S r1 r2 e1).1
 subst hμ
 cases r with
 | none =>
  obtain ⟨rfl,rfl⟩:=rt_inv e2
  obtain ⟨cs,pl,m,S⟩:=S
  obtain ⟨_,i,ad,o,κ,_,knd,kvs,kk,rfl,rfl,hc,q1,q3,q5,q6,q7,q8,q9,_,q11⟩:=dictView S r1 r2 e1
  have hD:=kda_dict S.N (mem1 hc) q1
  exact call_meetsIn PySem.F.slot_dict_pop hD.typeIs PySem.F.entry_dict_pop (PySem.F.args_dict_pop_3 _ _ _) (meets_dict_pop_default knd ad q5 q3 q6 vc) ⟨kvs,hD,q9 rfl,⟨adr,List.prefix_refl _,⟨cs,pl,m,S.toks⟩,r3⟩⟩
 | some y =>
  obtain ⟨u,μ₂,e3,e4⟩:=bd_some e2
  obtain ⟨rfl,rfl⟩:=rt_inv e4
  exact pop_there S r1 r2 (.inr ⟨vc,rfl⟩) (λ dd=>PySem.F.args_dict_pop_3 _ _ _) e1 e3
end
section
variable {g:Gd} {x:Cx} {Γ Γ':Cx0} {d:Nat} {fr:Bool} {sc:Scope}
theorem ki_setL_of: ∀ {l:List Value} {k:Nat} {v:Value},k < l.length→ki_setL l k v=some (l.set k v)
 | [],k,v,h=>by simp at h
 | y :: r,0,v,h=>rfl
 | y :: r,k+1,v,h=>by
  unfold ki_setL
  rw [ki_setL_of (by simpa using h)]
  rfl
theorem setI_does (hx:x.Ok g d) {va vb vc:Value} {a b c:AV} {μ:Mem} {adr:List Addr} {s:Shared} (S:St g x Γ μ adr s) (r1:VR x.fd adr va a) (r2:VR x.fd adr vb b) (r3:VR x.fd adr vc c) :
  Does g x Γ (λ _ _ _=>True) (setItem va vb vc) (setI a b c) μ adr s:=by
 intro u μ' e
 have dict: ∀ r,getK a b μ=some (r,μ)→wpAny (model g.prog g.w) x.A (setItem va vb vc) (λ a s'=> ∃ adr',adr <+: adr'∧St g x Γ μ' adr' s'∧True) nof s:=by
  intro r e1
  obtain ⟨cs,pl,m,S⟩:=S
  obtain ⟨_,i,ad,o,κ,_,knd,kvs,kk,rfl,rfl,hc,q1,q3,q5,q6,q7,q8,q9,q10,_⟩:=dictView S r1 r2 e1
  have N:=S.N
  have nd:=S.nd
  rw [flat1 hc] at N nd
  refine kda_set S.F N (updF_nd nd) q1 q5 (by rw [sizeLine_eq];unfold big at q7;omega) λ h' o' F' N' hd'=> ?_
  obtain ⟨ao,rfl,hcr,hul⟩:=q10 c vc o' r3 hd' u μ' e
  refine ⟨adr,List.prefix_refl _,⟨_,pl,m,S.put (c':=[(ad,o')]) hc hul rfl hcr F' ?_⟩,trivial⟩
  rw [flat1s hc];exact N'
 cases a <;> try (cases b <;> cases e;done)
 rename_i i
 cases b <;> try (cases e;done)
 ·rename_i k
  obtain ⟨o,μ₁,e1,e2⟩:=bd_some (show bd (rd i) _ μ=_ from e)
  obtain ⟨h1,rfl⟩:=rd_some e1
  cases o <;> try (cases e2;done)
  ·rename_i xs
   dsimp only at e2
   by_cases hk:0≤k∧k.toNat < xs.length
   ·rw [if_pos hk] at e2
    have:=wr_some e2
    subst this
    obtain ⟨cs,pl,m,S⟩:=S
    cases r1
    rename_i ad had
    cases r2
    rename_i t
    obtain ⟨ch,hc,hr⟩:=S.chunk h1
    have had':=S.adr_of hc had
    cases hr
    rename_i ad' vs n q1 q2
    simp only [hd1] at had';subst had'
    have N:=S.N
    have nd:=S.nd
    rw [flat1 hc] at N nd
    have hl:=q1.len
    refine ki_set (its:=vs.toArray) (q:=vs.set k.toNat vc) S.F N hk.1 (by unfold big at q2;omega) (ki_setL_of (by simp;omega)) (upd_nd nd) λ h' F' N'=> ?_
    refine ⟨adr,List.prefix_refl _,⟨_,pl,m,S.put (c':=[(ad',listOf (vs.set k.toNat vc).toArray n)]) hc (λ o e=>by rw [h1] at e;cases e;rfl) rfl (.list (q1.set_ r3 _) (by simpa using q2)) F' ?_⟩,trivial⟩
    rw [flat1s hc];exact N'
   ·rw [if_neg hk] at e2;cases e2
  ·rename_i es
   refine dict (get k es) ?_
   show bd (rd i) _ _=_
   unfold bd rd
   rw [h1]
   rfl
 ·rename_i k
  obtain ⟨o,μ₁,e1,e2⟩:=bd_some (show bd (rd i) _ μ=_ from e)
  obtain ⟨h1,rfl⟩:=rd_some e1
  cases o <;> try (cases e2;done)
  rename_i es
  refine dict (get k es) ?_
  show bd (rd i) _ _=_
  unfold bd rd
  rw [h1]
  rfl
/-! what is compared -/
mutual
def D.py:D→PyData
 | .none=> .none
 | .int i=> .int i
 | .str s=> .str (Str.ofString s)
 | .node true ds=> .list (D.pys ds)
 | .node false ds=> .tuple (D.pys ds)
def D.pys:List D→List PyData
 | []=>[]
 | d :: ds=>d.py :: D.pys ds
end
theorem strOk_of (s:String):PyData.strOk (Str.ofString s)=true:=by
 unfold PyData.strOk
 rw [Str.ofString_eq_toList]
 simp only [Array.all_eq_true]
 intro i hi
 simp only [List.getElem_toArray,List.getElem_map,decide_eq_true_eq]
 have:=(s.toList[i]'(by simpa using hi)).valid
 have h2:(s.toList[i]'(by simpa using hi)).toNat < 0x110000:=by
  rcases this with h | h
  ·show UInt32.toNat _ < _;omega
  ·show UInt32.toNat _ < _;omega
 exact h2
mutual
theorem py_eqv: ∀ x y:D,PyData.eqv x.py y.py=D.same x y
 | .none,y=>by
  cases y with
  | node l _=>cases l <;> rfl
  | _=>rfl
 | .int i,y=>by
  cases y with
  | node l _=>cases l <;> rfl
  | _=>rfl
 | .str i,y=>by
  cases y with
  | str j=>simp only [D.py,PyData.eqv,D.same];rw [ofString_beq];rfl
  | node l _=>cases l <;> rfl
  | _=>rfl
 | .node l xs,y=>by
  cases y with
  | node l' ys=>cases l <;> cases l' <;> simp [D.py,PyData.eqv,D.same,py_eqvs xs ys]
  | _=>cases l <;> rfl
theorem py_eqvs: ∀ xs ys:List D,PyData.eqvAll (D.pys xs) (D.pys ys)=D.sames xs ys
 | [],[]=>rfl
 | [],_ :: _=>rfl
 | _ :: _,[]=>rfl
 | x :: xs,y :: ys=>by simp only [D.pys,PyData.eqvAll,D.sames,py_eqv x y,py_eqvs xs ys]
end
def Lay (n:Nat) (p:PyData):Prop:=p.canLay0=true∧p.depth≤n
theorem lay_all {n:Nat} {ps:List PyData} (h: ∀ p∈ps,Lay n p):PyData.canLayAll0 ps=true∧PyData.depthAll ps≤n:=by
 induction ps with
 | nil=>simp [PyData.canLayAll0,PyData.depthAll]
 | cons p ps ih =>
  have h1:=h p (by simp)
  have h2:=ih λ q hq=>h q (by simp [hq])
  simp only [PyData.canLayAll0,PyData.depthAll,h1.1,h2.1,Bool.and_self,true_and]
  have:=h1.2;have:=h2.2
  omega
theorem mapM_F2 {α β:Type} {f:α→Option β}: ∀ {xs:List α} {ys:List β},xs.mapM f=some ys→F2 (λ x y=>f x=some y) xs ys
 | [],ys,h=>by simp at h;subst h;exact .nil
 | x :: xs,ys,h=>by
  rw [List.mapM_cons] at h
  cases hx:f x with
  | none=>rw [hx] at h;cases h
  | some y =>
   rw [hx] at h
   cases hr:xs.mapM f with
   | none=>rw [hr] at h;cases h
   | some zs =>
    rw [hr] at h
    cases h
    exact .cons hx (mapM_F2 hr)
theorem reads_all {adr:List Addr} {μ:Mem} {h:Heap} {fd:Option Addr} {n:Nat} {vs:List Value} {xs:List AV} {ds:List D} (q:F2 (VR fd adr) vs xs) (r:F2 (λ x y=>readD μ n x=some y) xs ds)
  (ih: ∀ v a d,VR fd adr v a→readD μ n a=some d→ ∃ as,Reads h v d.py as∧Lay n d.py): ∃ as,ReadsAll h vs (D.pys ds) as∧ ∀ p∈D.pys ds,Lay n p:=by
 induction q generalizing ds with
 | nil=>cases r;exact ⟨_, .nil,by simp [D.pys]⟩
 | cons h1 h2 ih2 =>
  cases r with
  | cons r1 r2 =>
   obtain ⟨as,a1,a2⟩:=ih _ _ _ h1 r1
   obtain ⟨bs,b1,b2⟩:=ih2 r2
   exact ⟨_, .cons a1 b1,by simp only [D.pys,List.mem_cons];intro p hp;exact hp.elim (λ e=>e ▸ a2) (b2 p)⟩
theorem readD_reads {μ:Mem} {adr:List Addr} {s:Shared} {cs:List Led} {pl:Led} {m:Str→Option Value} (S:StE g x Γ μ adr s cs pl m): ∀ (n:Nat) (v:Value) (a:AV) (D:D),VR x.fd adr v a→readD μ n a=some D→ ∃ as,Reads s.heap v D.py as∧Lay n D.py:=by
 intro n
 induction n with
 | zero =>
  intro v a D r e
  cases r <;> simp only [readD] at e <;> try (cases e;done)
  ·cases e;exact ⟨_, .none,rfl,by simp [Mine.D.py,PyData.depth]⟩
  ·cases e;exact ⟨_, .int _ _,rfl,by simp [Mine.D.py,PyData.depth]⟩
  ·cases e;exact ⟨_, .str _ _,by simp [Mine.D.py,PyData.canLay0,strOk_of],by simp [Mine.D.py,PyData.depth]⟩
 | succ n ih =>
  intro v a D r e
  cases r <;> simp only [readD] at e <;> try (cases e;done)
  ·cases e;exact ⟨_, .none,rfl,by simp [Mine.D.py,PyData.depth]⟩
  ·cases e;exact ⟨_, .int _ _,rfl,by simp [Mine.D.py,PyData.depth]⟩
  ·cases e;exact ⟨_, .str _ _,by simp [Mine.D.py,PyData.canLay0,strOk_of],by simp [Mine.D.py,PyData.depth]⟩
  ·rename_i i ad had
   cases ho:μ[i]? with
   | none=>rw [ho] at e;cases e
   | some o =>
    rw [ho] at e
    obtain ⟨ch,hc,hr⟩:=S.chunk ho
    have had':=S.adr_of hc had
    cases hr <;> try (cases e;done)
    ·rename_i ad' vs k xs q1 q2
     simp only [hd1] at had';subst had'
     simp only [Option.map_eq_some_iff] at e
     obtain ⟨ds,e1,rfl⟩:=e
     obtain ⟨as,b1,b2⟩:=reads_all q1 (mapM_F2 e1) ih
     have:=lay_all b2
     exact ⟨_,reads_list_at (S.at1 hc) rfl rfl (by simpa using b1),by simp [Mine.D.py,PyData.canLay0,this.1],by simp [Mine.D.py,PyData.depth];omega⟩
    ·rename_i ad' vs k xs q1 q2
     simp only [hd1] at had';subst had'
     simp only [Option.map_eq_some_iff] at e
     obtain ⟨ds,e1,rfl⟩:=e
     obtain ⟨as,b1,b2⟩:=reads_all q1 (mapM_F2 e1) ih
     have:=lay_all b2
     exact ⟨_,reads_tuple_at (S.at1 hc) rfl rfl (by simpa using b1),by simp [Mine.D.py,PyData.canLay0,this.1],by simp [Mine.D.py,PyData.depth];omega⟩
theorem eqM_inv {a b c:AV} {μ μ':Mem} (e:eqM a b μ=some (c,μ')):μ'=μ∧((∃ i j,a= .bool i∧b= .bool j∧c= .bool (decide (i=j)))∨ ∃ p q,readD μ 3 a=some p∧readD μ 3 b=some q∧c= .bool (D.same p q)):=by
 have go:(match readD μ 3 a,readD μ 3 b with
  | some p,some q=>some (AV.bool (D.same p q),μ)
  | _,_=>none)=some (c,μ')→μ'=μ∧ ∃ p q,readD μ 3 a=some p∧readD μ 3 b=some q∧c= .bool (D.same p q):=by
  intro h
  cases h1:readD μ 3 a with
  | none=>rw [h1] at h;cases h
  | some p =>
   cases h2:readD μ 3 b with
   | none=>rw [h1,h2] at h;cases h
   | some q=>rw [h1,h2] at h;cases h;exact ⟨rfl,p,q,rfl,rfl,rfl⟩
 cases a <;> cases b <;> first
  | (cases e;exact ⟨rfl, .inl ⟨_,_,rfl,rfl,rfl⟩⟩)
  | (obtain ⟨h1,h2⟩:=go e;exact ⟨h1, .inr h2⟩)
theorem shaped_of {n:Nat} (hn:n≤3) {p:PyData} (h:Lay n p):SeqAt.shaped p=true:=by
 unfold SeqAt.shaped
 rw [h.1,Bool.true_and]
 exact decide_eq_true (Nat.le_trans h.2 (Nat.le_trans hn (by decide)))
theorem op_eq:Op2 g (compareOp .Eq) eqM:=by
 intro x d Γ hx va vb a b μ adr s S r1 r2 c μ' e
 obtain ⟨rfl,(⟨i,j,rfl,rfl,rfl⟩ | ⟨p,q,e1,e2,rfl⟩)⟩:=eqM_inv e
 ·cases r1;cases r2
  refine PyProof.Rows.eq_bool ?_
  have:(i == j)=decide (i=j):=by cases i <;> cases j <;> rfl
  rw [this]
  exact post_bool S
 ·obtain ⟨cs,pl,m,S'⟩:=id S
  obtain ⟨as,a1,a2⟩:=readD_reads S' 3 va a p r1 e1
  obtain ⟨bs,b1,b2⟩:=readD_reads S' 3 vb b q r2 e2
  refine eq_dataH a1 b1 (shaped_of (Nat.le_refl _) a2) (shaped_of (Nat.le_refl _) b2) (by have:=hx.un;omega) ?_
  rw [py_eqv]
  exact post_bool S
theorem op_ne:Op2 g (compareOp .NotEq) neM:=by
 intro x d Γ hx va vb a b μ adr s S r1 r2 c μ' e
 obtain ⟨c',μ₁,e,e'⟩:=bd_some (show bd (eqM a b) neg μ=_ from e)
 obtain ⟨rfl,(⟨i,j,rfl,rfl,rfl⟩ | ⟨p,q,e1,e2,rfl⟩)⟩:=eqM_inv e
 ·obtain ⟨rfl,rfl⟩:=rt_inv e'
  cases r1;cases r2
  refine PyProof.Rows.ne_bool ?_
  have:(i != j)= !decide (i=j):=by cases i <;> cases j <;> rfl
  rw [this]
  exact post_bool S
 ·obtain ⟨rfl,rfl⟩:=rt_inv e'
  obtain ⟨cs,pl,m,S'⟩:=id S
  obtain ⟨as,a1,a2⟩:=readD_reads S' 3 va a p r1 e1
  obtain ⟨bs,b1,b2⟩:=readD_reads S' 3 vb b q r2 e2
  refine ne_dataH a1 b1 (shaped_of (Nat.le_refl _) a2) (shaped_of (Nat.le_refl _) b2) (by have:=hx.un;omega) ?_
  rw [py_eqv]
  exact post_bool S
end
section
variable {g:Gd} {x:Cx} {Γ Γ':Cx0} {d:Nat} {fr:Bool} {sc:Scope}
theorem rdL_inv {a:AV} {xs:List AV} {μ μ':Mem} (e:rdL a μ=some (xs,μ')):μ'=μ∧ ∃ i,a= .obj i∧μ[i]? =some (.list xs):=by
 cases a <;> try (cases e;done)
 rename_i i
 obtain ⟨o,μ₁,e1,e2⟩:=bd_some (show bd (rd i) _ μ=_ from e)
 obtain ⟨h1,rfl⟩:=rd_some e1
 cases o <;> try (cases e2;done)
 obtain ⟨rfl,rfl⟩:=rt_inv e2
 exact ⟨rfl,i,rfl,h1⟩
theorem StE.listAt {μ:Mem} {adr:List Addr} {s:Shared} {cs:List Led} {pl:Led} {m:Str→Option Value} (S:StE g x Γ μ adr s cs pl m) {v:Value} {i:Nat} {xs:List AV} (r:VR x.fd adr v (.obj i)) (h:μ[i]? =some (.list xs)) :
  ∃ (ad:Addr) (vs:List Value) (n:Nat),v= .ref ad∧cs[i]? =some [(ad,W.listOf vs.toArray n)]∧F2 (VR x.fd adr) vs xs∧xs.length≤big∧s.heap.IsList ad vs.toArray:=by
 cases r
 rename_i ad had
 obtain ⟨ch,hc,hr⟩:=S.chunk h
 have had':=S.adr_of hc had
 cases hr
 rename_i ad' vs n q1 q2
 simp only [hd1] at had';subst had'
 exact ⟨_,vs,n,rfl,hc,q1,q2,⟨_,S.at1 hc,rfl,n,rfl⟩⟩
theorem ofString_length (s:String):(Str.ofString s).length=s.length:=by
 rw [Str.ofString_eq_toList]
 show (Array.size _)=_
 simp [String.length_toList]
theorem ofString_append (s t:String):Str.ofString s ++ Str.ofString t=Str.ofString (s ++ t):=by
 rw [Str.ofString_eq_toList,Str.ofString_eq_toList,Str.ofString_eq_toList]
 show Str.mk (_ ++ _)=_
 simp
theorem op_add:Op2 g (binaryOp .Add) addM:=by
 intro x d Γ hx va vb a b μ adr s S r1 r2 c μ' e
 cases a <;> try (cases e;done)
 ·rename_i i
  cases b <;> try (cases e;done)
  cases e
  cases r1;cases r2
  exact PyProof.Rows.add_int (post_int S)
 ·rename_i p
  cases b <;> try (cases e;done)
  rename_i q
  simp only [addM] at e
  split at e
  ·rename_i hl
   obtain ⟨rfl,rfl⟩:=rt_inv e
   cases r1;cases r2
   refine SB.add (λ t' k=>⟨adr,List.prefix_refl _,S.toks,?_⟩) (by rw [ofString_length,ofString_length,sizeLine_eq];omega)
   rw [ofString_append]
   exact .str _ _
  ·cases e
 ·rename_i i
  cases b <;> try (cases e;done)
  rename_i j
  obtain ⟨xs,μ₁,e1,e2⟩:=bd_some (show bd (rdL (.obj i)) _ μ=_ from e)
  obtain ⟨rfl,i',ei,h1⟩:=rdL_inv e1
  cases ei
  obtain ⟨ys,μ₂,e2,e3⟩:=bd_some e2
  obtain ⟨rfl,j',ej,h2⟩:=rdL_inv e2
  cases ej
  skip
  split at e3
  ·rename_i hl
   obtain ⟨rfl,rfl⟩:=al_inv e3
   obtain ⟨cs,pl,m,S⟩:=S
   obtain ⟨ad,vs,n,rfl,hc,q1,q2,L1⟩:=S.listAt r1 h1
   obtain ⟨ad',ws,n',rfl,hc',q1',q2',L2⟩:=S.listAt r2 h2
   refine add_lists S.F S.N L1 L2 (λ h' F' N'=> ?_) (by rw [q1.len,q1'.len,sizeLine_eq];unfold big at hl;omega)
   exact St.new1 hx S (.list (n:=0) ((q1.app q1').mono λ _ _=>VR.pre ⟨_,rfl⟩) (by simpa using hl)) F' N' S.lt
  ·cases e3
def Op1 (g:Gd) (t:Value→Sem Value) (m:AV→M AV):Prop :=
 ∀ (x:Cx) (d:Nat) (Γ:Cx0),x.Ok g d→ ∀ va a μ adr s,St g x Γ μ adr s→VR x.fd adr va a→Does g x Γ (VR x.fd) (t va) (m a) μ adr s
theorem op_isI (hf:Facts g) (c:Cl):Op1 g (λ v=>call (.builtin "isinstance") [v, .ref c.addr]) (isI c):=by
 intro x d Γ hx va a μ adr s S r b μ' e
 have X:g.K.In s.heap:=by obtain ⟨cs,pl,m,S⟩:=S;exact hx.kin.keeps S.F.keep
 cases a <;> try (cases e;done)
 ·obtain ⟨rfl,rfl⟩:=rt_inv e
  cases r
  exact kia_one kitx_none X trivial (hf.kn c) (by simp) λ tk=>post_bool S.toks
 ·obtain ⟨rfl,rfl⟩:=rt_inv e
  cases r
  exact kia_one kitx_int X trivial (hf.kj c) (by simp) λ tk=>post_bool S.toks
 ·rename_i i
  obtain ⟨o,μ₁,e1,e2⟩:=bd_some (show bd (rd i) _ μ=_ from e)
  obtain ⟨h1,rfl⟩:=rd_some e1
  cases o <;> try (cases e2;done)
  rename_i dc fs
  obtain ⟨rfl,rfl⟩:=rt_inv e2
  cases r
  rename_i ad had
  obtain ⟨cs,pl,m,S'⟩:=id S
  obtain ⟨ch,hc,hr⟩:=S'.chunk h1
  have had':=S'.adr_of hc had
  cases hr
  rename_i ad' dx es n q1 q2 q3
  simp only [hd1] at had';subst had'
  have I:InstAt s.heap ad' (instObj dc.addr dx) dc.addr (some (dictOf es n)):=InstAt.of_news S'.N (mem_flat hc (by simp)) (mem_flat hc (by simp))
  obtain ⟨k1,k2,k3⟩:=hf.kc dc
  have k4:hasDictIn g.K dc.addr=true:=by
   have: ∀ c:Cl,hasDictIn g.K c.addr=true:=by
    intro c
    cases c with
    | code=>exact hf.kd _
    | glob=>exact hf.kd _
    | _=>exact hf.kd _
   exact this dc
  exact kia_one (kitx_own k1 k4 k2 hf.kg hf.kk k3) X I (hf.ki dc c) (by simp) λ tk=>post_bool S.toks
theorem op_isT (hf:Facts g):Op1 g (λ v=>call (.builtin "isinstance") [v, .type "tuple"]) isT:=by
 intro x d Γ hx va a μ adr s S r b μ' e
 have X:g.K.In s.heap:=by obtain ⟨cs,pl,m,S⟩:=S;exact hx.kin.keeps S.F.keep
 cases a <;> try (cases e;done)
 ·obtain ⟨rfl,rfl⟩:=rt_inv e
  cases r
  exact kia_one kitx_none X trivial hf.tn (by simp) λ tk=>post_bool S.toks
 ·obtain ⟨rfl,rfl⟩:=rt_inv e
  cases r
  exact kia_one kitx_int X trivial hf.tj (by simp) λ tk=>post_bool S.toks
 ·rename_i i
  obtain ⟨o,μ₁,e1,e2⟩:=bd_some (show bd (rd i) _ μ=_ from e)
  obtain ⟨h1,rfl⟩:=rd_some e1
  obtain ⟨cs,pl,m,S'⟩:=id S
  obtain ⟨ch,hc,hr⟩:=S'.chunk h1
  cases r
  rename_i ad had
  have had':=S'.adr_of hc had
  cases o <;> try (cases e2;done)
  ·obtain ⟨rfl,rfl⟩:=rt_inv e2
   cases hr
   rename_i ad' vs n q1 q2
   simp only [hd1] at had';subst had'
   exact kia_one kitx_list X ⟨_,S'.at1 hc,rfl⟩ hf.tl (by simp) λ tk=>post_bool S.toks
  ·obtain ⟨rfl,rfl⟩:=rt_inv e2
   cases hr
   rename_i ad' vs n q1 q2
   simp only [hd1] at had';subst had'
   exact kia_one kitx_tuple X ⟨_,S'.at1 hc,rfl⟩ hf.tt (by simp) λ tk=>post_bool S.toks
theorem op_len:Op1 g (λ v=>call (.builtin "len") [v]) lenM:=by
 intro x d Γ hx va a μ adr s S r b μ' e
 obtain ⟨xs,μ₁,e1,e2⟩:=bd_some (show bd (rdL a) _ μ=_ from e)
 obtain ⟨rfl,i,rfl,h1⟩:=rdL_inv e1
 obtain ⟨rfl,rfl⟩:=rt_inv e2
 obtain ⟨cs,pl,m,S'⟩:=id S
 obtain ⟨ad,vs,n,rfl,hc,q1,q2,L1⟩:=S'.listAt r h1
 have hl:=q1.len
 refine call_len_list L1 (by simp only [List.size_toArray];unfold big at q2;omega) ?_
 simp only [List.size_toArray,hl]
 exact post_int S
theorem op_abs:Op1 g (λ v=>call (.builtin "abs") [v]) absM:=by
 intro x d Γ hx va a μ adr s S r b μ' e
 cases a <;> try (cases e;done)
 rename_i i
 obtain ⟨rfl,rfl⟩:=rt_inv e
 cases r
 refine call_abs_int λ u tk=> ?_
 have:(if i < 0 then -i else i)=(i.natAbs:Int):=by omega
 rw [this]
 exact post_int S
theorem op_str:Op1 g (λ v=>call (.type "str") [v]) strM:=by
 intro x d Γ hx va a μ adr s S r b μ' e
 cases a <;> try (cases e;done)
 rename_i i
 unfold strM at e
 dsimp only at e
 split at e
 ·rename_i hi
  obtain ⟨rfl,rfl⟩:=rt_inv e
  cases r
  refine P.str_of_int ?_ ⟨adr,List.prefix_refl _,S.toks, .str _ _⟩
  have:i.natAbs < 10:=by omega
  exact Nat.lt_of_le_of_lt (Nat.log2_le_self _) (by omega)
 ·cases e
theorem ints_of {fd:Option Addr} {adr:List Addr}: ∀ {vs:List Value} {xs:List AV} {is:List Int},F2 (VR fd adr) vs xs→intsOf xs=some is→IntsAre vs is
 | _,_,is, .nil,e=>by simp [intsOf] at e;subst e;exact .nil
 | _,_,is, .cons (b:=b) h r,e=>by
  cases b <;> try (cases e;done)
  rename_i i
  simp only [intsOf,Option.map_eq_some_iff] at e
  obtain ⟨js,e1,rfl⟩:=e
  cases h
  exact .cons i _ (ints_of r e1)
theorem ints_VR {fd:Option Addr} {adr:List Addr}: ∀ {vs:List Value} {is:List Int},IntsAre vs is→F2 (VR fd adr) vs (is.map AV.int)
 | _,_, .nil=> .nil
 | _,_, .cons n t r=> .cons (.int n t) (ints_VR r)
theorem op_sum:Op1 g (λ v=>call (.builtin "sum") [v]) sumM:=by
 intro x d Γ hx va a μ adr s S r b μ' e
 obtain ⟨xs,μ₁,e1,e2⟩:=bd_some (show bd (rdL a) _ μ=_ from e)
 obtain ⟨rfl,i,rfl,h1⟩:=rdL_inv e1
 obtain ⟨is,μ₂,e2,e3⟩:=bd_some e2
 obtain ⟨e4,rfl⟩:=opt_some e2
 obtain ⟨rfl,rfl⟩:=rt_inv e3
 obtain ⟨cs,pl,m,S⟩:=S
 obtain ⟨ad,vs,n,rfl,hc,q1,q2,L1⟩:=S.listAt r h1
 refine sumK hx.hnd S.F S.N L1 (ints_of q1 e4) λ h' tk t' F' N'=>⟨adr,List.prefix_refl _,⟨cs,pl,m,F',N',S.nd,S.ha,S.C,S.V,S.gens,S.drawn,S.os,S.ex,S.fa,S.lk,S.cl,S.km⟩, .int _ _⟩
theorem ins_perm (i:Int): ∀ l:List Int,(ins i l).Perm (i :: l)
 | []=> .refl _
 | j :: r=>by
  unfold ins
  split
  ·exact .refl _
  ·exact ((ins_perm i r).cons j).trans (.swap i j r)
theorem isort_perm: ∀ l:List Int,(isort l).Perm l
 | []=> .refl _
 | i :: r=>(ins_perm i _).trans ((isort_perm r).cons i)
theorem ins_sorted (i:Int): ∀ l:List Int,l.Pairwise (· ≤ ·)→(ins i l).Pairwise (· ≤ ·)
 | [],_=>by simp [ins]
 | j :: r,h=>by
  unfold ins
  split
  ·rename_i hij
   refine List.pairwise_cons.mpr ⟨λ k hk=> ?_,h⟩
   rcases List.mem_cons.mp hk with rfl | hk
   ·exact hij
   ·exact Int.le_trans hij ((List.pairwise_cons.mp h).1 k hk)
  ·rename_i hij
   refine List.pairwise_cons.mpr ⟨λ k hk=> ?_,ins_sorted i r (List.pairwise_cons.mp h).2⟩
   rcases List.mem_cons.mp ((ins_perm i r).mem_iff.mp hk) with rfl | hk
   ·omega
   ·exact (List.pairwise_cons.mp h).1 k hk
theorem isort_sorted: ∀ l:List Int,(isort l).Pairwise (· ≤ ·)
 | []=> .nil
 | i :: r=>ins_sorted i _ (isort_sorted r)
theorem isort_unique {l l':List Int} (p:l'.Perm l) (s:l'.Pairwise (· ≤ ·)):l'=isort l :=
 List.Perm.eq_of_pairwise (le:=(· ≤ ·)) (λ a b _ _ h h'=>Int.le_antisymm h h') s (isort_sorted l) (p.trans (isort_perm l).symm)
theorem op_sortedL:Op1 g (λ v=>call (.builtin "sorted") [v]) sortedL:=by
 intro x d Γ hx va a μ adr s S r b μ' e
 obtain ⟨xs,μ₁,e1,e2⟩:=bd_some (show bd (rdL a) _ μ=_ from e)
 obtain ⟨rfl,i,rfl,h1⟩:=rdL_inv e1
 obtain ⟨is,μ₂,e2,e3⟩:=bd_some e2
 obtain ⟨e4,rfl⟩:=opt_some e2
 split at e3
 ·rename_i h64
  obtain ⟨rfl,rfl⟩:=al_inv e3
  obtain ⟨cs,pl,m,S⟩:=S
  obtain ⟨ad,vs,n,rfl,hc,q1,q2,L1⟩:=S.listAt r h1
  have hi:=ints_of q1 e4
  refine sorted_N S.F S.N L1 hi (by rw [hi.length];exact h64) λ h' vs' ns' k F' N' i' p o=> ?_
  have:=isort_unique p o
  subst this
  refine St.new1 hx S (o:=seqObj "list" vs'.toArray k) (.list (n:=k) (ints_VR i') ?_) F' N' (λ p hp=>Nat.lt_succ_of_lt (S.lt p hp))
  rw [List.length_map,(isort_perm is).length_eq]
  exact Nat.le_trans (Nat.le_of_lt h64) (by unfold big;omega)
 ·cases e3
theorem keys_ints {fd:Option Addr} {adr:List Addr} {kvs:List (Int × Value)} {es:List (Int × AV)} (h:F2 (PR (id:Int→Int) fd adr) kvs es):kvs.map (·.1)=es.map (·.1):=by
 induction h with
 | nil=>rfl
 | cons h1 _ ih=>simp [h1.1,ih]
theorem ints_at: ∀ {vs:List Value} {ns:List Int},vs.length=ns.length→(∀ (j:Nat) (v:Value),vs[j]? =some v→ ∃ t n,v= .int n t∧ns[j]? =some n)→IntsAre vs ns
 | [],[],_,_=> .nil
 | v :: vs,n :: ns,hl,h=>by
  obtain ⟨t,n',rfl,e⟩:=h 0 v rfl
  simp at e;subst e
  exact .cons n t (ints_at (by simpa using hl) λ j v hv=>by simpa using h (j+1) v (by simpa using hv))
theorem op_sortedD:Op1 g (λ v=>call (.builtin "sorted") [v]) sortedD:=by
 intro x d Γ hx va a μ adr s S r b μ' e
 cases a <;> try (cases e;done)
 rename_i i
 obtain ⟨o,μ₁,e1,e2⟩:=bd_some (show bd (rd i) _ μ=_ from e)
 obtain ⟨h1,rfl⟩:=rd_some e1
 cases o <;> try (cases e2;done)
 rename_i es
 dsimp only at e2
 split at e2
 ·rename_i h64
  obtain ⟨rfl,rfl⟩:=al_inv e2
  obtain ⟨cs,pl,m,S⟩:=S
  cases r
  rename_i ad had
  obtain ⟨ch,hc,hr⟩:=S.chunk h1
  have had':=S.adr_of hc had
  cases hr
  rename_i ad' o kvs q1 q3 q2 q4
  simp only [hd1] at had';subst had'
  obtain ⟨ep,hD⟩:=(kda_dict S.N (mem1 hc) q1).dictAt
  have hl:=q2.len
  refine kdu_sorted (kdl_dict q3) hx.hnd S.F S.N hD (by rw [sizeLine_eq];omega) λ D h' tk vs F' N' lt hvl hv=> ?_
  have hi:IntsAre vs (kvs.map (·.1)):=by
   refine ints_at (by simp [hvl]) λ j v e=> ?_
   obtain ⟨k,y,a1,a2⟩:=hv j v e
   obtain ⟨t,rfl⟩: ∃ t,v= .int k t:=by
    have a2':Value.isInt k v=true:=a2
    cases v <;> simp [Value.isInt] at a2'
    subst a2'
    exact ⟨_,rfl⟩
   exact ⟨t,k,rfl,by simp [a1]⟩
  refine ksk_lsort (its:=vs.toArray) (news':=λ o=>(D,o) :: (cs.flatten ++ pl)) F' N' (λ o=> .head λ p hp=>Nat.ne_of_lt (lt p hp)) (by simp) hi (by rw [List.length_map];omega) λ vs' ns' c h'' F'' N'' i' _ p o _=> ?_
  have:=isort_unique p o
  subst this
  rw [keys_ints q2] at i'
  refine St.new1 hx S (o:=W.listOf vs'.toArray c) (.list (n:=c) (ints_VR i') ?_) F'' N'' lt
  rw [List.length_map,(isort_perm _).length_eq,List.length_map]
  exact Nat.le_trans (Nat.le_of_lt h64) (by unfold big;omega)
 ·cases e2
end
section
variable {g:Gd} {x:Cx} {Γ Γ':Cx0} {d:Nat} {fr:Bool} {sc:Scope}
/-! a slice read -/
theorem slice_does (hx:x.Ok g d) {value slice:PySem.Expr} {v vl vu:Value} {i:Nat} {xs:List AV} {lo hi:Option Int} {μ:Mem} {adr:List Addr} {s:Shared} (S:St g x Γ μ adr s) (r:VR x.fd adr v (.obj i)) (h:μ[i]? =some (.list xs))
  (pl:IsPart vl lo) (pu:IsPart vu hi) (hs: ∀ o i,subscripted slice false o i=operate [i,o] (getItem o i)) {ys:List AV} (hy: ∀ vs:List Value,F2 (VR x.fd adr) vs xs→F2 (VR x.fd adr) (slicePick vs.toArray lo hi none).toList ys) (hl:ys.length≤big) :
  wpAny (model g.prog g.w) x.A (subscriptTail value slice v (.ref s.heap.objs.size)) (λ a s'=> ∃ adr',adr <+: adr'∧St g x Γ (μ ++ [.list ys]) adr' s'∧VR x.fd adr' a (.obj μ.length)) nof
   {s with heap:=s.heap.push {cls:= .type "slice",data:= .fields #[vl,vu, .none]}}:=by
 obtain ⟨cs,pl',m,S⟩:=S
 obtain ⟨ad,vs,n,rfl,hc,q1,q2,L1⟩:=S.listAt r h
 refine tail_any (T:="list") (Heap.IsList.typeIs (s:= {s with heap:=s.heap.push {cls:= .type "slice",data:= .fields #[vl,vu, .none]}}) (L1.push _)) list_getitem_lookup
  (wpAny_getItem_list_slice (L1.push _) (Heap.IsSliceOf.new ..) pl pu .none (by simp) ?_ (by simp only [List.size_toArray];rw [q1.len,sizeLine_eq];unfold big at q2;omega)) (hs _ _)
 have N1:=News.push (S.F.push {cls:= .type "slice",data:= .fields #[vl,vu, .none]}) (S.N.grown λ _ _ e=>Heap.get?_push_of_some _ e) {cls:= .type "list",data:= .seq (slicePick vs.toArray lo hi none)}
 refine St.new1 hx S (o:= {cls:= .type "list",data:= .seq (slicePick vs.toArray lo hi none)}) ?_ ((S.F.push _).push _) N1 (λ p hp=>by rw [Heap.size_push];exact Nat.lt_succ_of_lt (S.lt p hp))
 have e:(slicePick vs.toArray lo hi none)=(slicePick vs.toArray lo hi none).toList.toArray:=by simp
 rw [e]
 exact .list (n:=0) ((hy vs q1).mono λ _ _=>VR.pre ⟨_,rfl⟩) hl
theorem pick_from (vs:List Value) (k:Int) (h:0≤k):(slicePick vs.toArray (some k) none none).toList=vs.drop k.toNat:=by
 have e:sliceBounds (some k) none none vs.toArray.size=(((min k.toNat vs.toArray.size:Nat):Int),((vs.toArray.size:Nat):Int),1):=by
  simp only [sliceBounds,Option.getD_none,show (1:Int) > 0 by decide,if_true,if_neg (show ¬ (k < 0) by omega)]
  congr 1
  omega
 rw [kmk_pick_nat _ e]
 show (vs.drop (min k.toNat vs.toArray.size)).take (vs.toArray.size - min k.toNat vs.toArray.size)=_
 rw [List.size_toArray,kmk_drop_min,List.take_of_length_le (by rw [List.length_drop];omega)]
theorem pick_upto (vs:List Value) (k:Int) (h:0≤k):(slicePick vs.toArray none (some k) none).toList=vs.take k.toNat:=by
 have e:sliceBounds none (some k) none vs.toArray.size=(((0:Nat):Int),((min k.toNat vs.toArray.size:Nat):Int),1):=by
  simp only [sliceBounds,Option.getD_none,show (1:Int) > 0 by decide,if_true,if_neg (show ¬ (k < 0) by omega)]
  congr 1
  congr 1
  omega
 rw [kmk_pick_nat _ e]
 show (vs.drop 0).take (min k.toNat vs.toArray.size - 0)=_
 rw [List.drop_zero,Nat.sub_zero,List.size_toArray,kmk_take_min]
theorem RE_slFrom {a b:PySem.Expr} {ma mb:M AV} {p q:Pos} (ha:RE g fr d sc Γ a ma) (hb:RE g fr d sc Γ b mb) :
  RE g fr d sc Γ (.Subscript a (.Slice (some b) none none p) q) (bd ma λ o=>bd mb λ k=>slFrom o k):=by
 intro x hx hsc hfr μ adr s S c μ' e
 obtain ⟨o,μ₁,e1,e2⟩:=bd_some e
 obtain ⟨k,μ₂,e2,e3⟩:=bd_some e2
 refine Subscript_ (wpAny_mono (ha x hx hsc hfr μ adr s S o μ₁ e1) (λ vo s₁ z=> ?_) λ _ _ z=>z)
 obtain ⟨adr₁,p1,S1,r1⟩:=z
 refine wpAny_Slice (wpAny_mono (hb x hx hsc hfr μ₁ adr₁ s₁ S1 k μ₂ e2) (λ vk s₂ z=> ?_) λ _ _ z=>z)
 obtain ⟨adr₂,p2,S2,r2⟩:=z
 refine wpAny_pure (wpAny_pure ?_)
 cases k <;> try (cases e3;done)
 rename_i k
 unfold slFrom at e3
 dsimp only at e3
 split at e3
 ·rename_i hk
  obtain ⟨xs,μ₃,e4,e5⟩:=bd_some e3
  obtain ⟨rfl,i,rfl,h1⟩:=rdL_inv e4
  obtain ⟨rfl,rfl⟩:=al_inv e5
  cases r2
  have hbig:xs.length≤big:=by obtain ⟨cs,pl,m,S'⟩:=S2;obtain ⟨_,_,_,_,_,_,q2,_⟩:=S'.listAt (r1.pre p2) h1;exact q2
  refine wpAny_mono (slice_does hx S2 (r1.pre p2) h1 (.int _ _) .none (λ _ _=>rfl) (ys:=xs.drop k.toNat) (λ vs q=>by rw [pick_from _ _ hk];exact q.drop_ _) (by rw [List.length_drop];omega)) (λ v s₃ z=> ?_) λ _ _ z=>z
  obtain ⟨adr₃,p3,S3,r3⟩:=z
  exact ⟨adr₃,(p1.trans p2).trans p3,S3,r3⟩
 ·cases e3
theorem RE_slTo {a b:PySem.Expr} {ma mb:M AV} {p q:Pos} (ha:RE g fr d sc Γ a ma) (hb:RE g fr d sc Γ b mb) :
  RE g fr d sc Γ (.Subscript a (.Slice none (some b) none p) q) (bd ma λ o=>bd mb λ k=>slTo o k):=by
 intro x hx hsc hfr μ adr s S c μ' e
 obtain ⟨o,μ₁,e1,e2⟩:=bd_some e
 obtain ⟨k,μ₂,e2,e3⟩:=bd_some e2
 refine Subscript_ (wpAny_mono (ha x hx hsc hfr μ adr s S o μ₁ e1) (λ vo s₁ z=> ?_) λ _ _ z=>z)
 obtain ⟨adr₁,p1,S1,r1⟩:=z
 refine wpAny_Slice (wpAny_pure (wpAny_mono (hb x hx hsc hfr μ₁ adr₁ s₁ S1 k μ₂ e2) (λ vk s₂ z=> ?_) λ _ _ z=>z))
 obtain ⟨adr₂,p2,S2,r2⟩:=z
 refine wpAny_pure ?_
 cases k <;> try (cases e3;done)
 rename_i k
 unfold slTo at e3
 dsimp only at e3
 split at e3
 ·rename_i hk
  obtain ⟨xs,μ₃,e4,e5⟩:=bd_some e3
  obtain ⟨rfl,i,rfl,h1⟩:=rdL_inv e4
  obtain ⟨rfl,rfl⟩:=al_inv e5
  cases r2
  have hbig:xs.length≤big:=by obtain ⟨cs,pl,m,S'⟩:=S2;obtain ⟨_,_,_,_,_,_,q2,_⟩:=S'.listAt (r1.pre p2) h1;exact q2
  refine wpAny_mono (slice_does hx S2 (r1.pre p2) h1 .none (.int _ _) (λ _ _=>rfl) (ys:=xs.take k.toNat) (λ vs q=>by rw [pick_upto _ _ hk];exact q.take_ _) (by rw [List.length_take];omega)) (λ v s₃ z=> ?_) λ _ _ z=>z
  obtain ⟨adr₃,p3,S3,r3⟩:=z
  exact ⟨adr₃,(p1.trans p2).trans p3,S3,r3⟩
 ·cases e3
theorem RE_sah {b:PySem.Expr} {mb:M AV} {p q:Pos} {u:Nat} (hb:RE g fr d sc Γ b mb) (hs: ∀ o i,subscripted b false o i=operate [o,i] (getItem o i):=by intro _ _;rfl) :
  RE g fr d sc Γ (.Subscript (.Constant (.str (Str.ofString "SAH")) u p) b q) (bd mb λ k=>sah k):=by
 intro x hx hsc hfr μ adr s S c μ' e
 obtain ⟨k,μ₁,e1,e2⟩:=bd_some e
 refine Subscript_ (show wpAny _ _ (mkText (Str.ofString "SAH")) _ nof s from wpAny_mkText (wpAny_mono (hb x hx hsc hfr μ adr _ S.toks k μ₁ e1) (λ vk s₁ z=> ?_) λ _ _ z=>z))
 obtain ⟨adr₁,p1,S1,r1⟩:=z
 cases k <;> try (cases e2;done)
 rename_i k
 cases r1
 have go: ∀ {j:Int} {t:Tok} {y:String} {u:Tok},(decide (j < -(2 ^ 63:Int)) || decide (j ≥ 2 ^ 63))=false→(∃ ch:Nat,(seqIndex? j (Str.ofString "SAH").length).bind ((Str.ofString "SAH").cps[·]?)=some ch∧Str.ofString y=⟨#[ch]⟩) →
   wpAny (model g.prog g.w) x.A (subscriptTail (.Constant (.str (Str.ofString "SAH")) u p) b (.str (Str.ofString "SAH") t) (.int j u)) (λ a s'=> ∃ adr',adr <+: adr'∧St g x Γ μ₁ adr' s'∧VR x.fd adr' a (.str y)) nof s₁:=by
  rintro j t y u hj ⟨ch,h1,h2⟩
  refine tail_any (T:="str") (typeIs_str _ _ _) PySem.F.slot_str_getitem.lookup (P.getItem_str hj h1 ⟨adr₁,p1,S1.toks,?_⟩) (hs _ _)
  rw [← h2]
  exact .str _ _
 unfold sah at e2
 dsimp only at e2
 split at e2
 ·rename_i h;subst h;obtain ⟨rfl,rfl⟩:=rt_inv e2
  exact go (by decide) ⟨83,by decide +kernel,by decide +kernel⟩
 ·split at e2
  ·rename_i h;subst h;obtain ⟨rfl,rfl⟩:=rt_inv e2
   exact go (by decide) ⟨65,by decide +kernel,by decide +kernel⟩
  ·split at e2
   ·rename_i h;subst h;obtain ⟨rfl,rfl⟩:=rt_inv e2
    exact go (by decide) ⟨72,by decide +kernel,by decide +kernel⟩
   ·cases e2
end
section
variable {g:Gd} {x:Cx} {Γ Γ':Cx0} {d:Nat} {fr:Bool} {sc:Scope}
theorem St.kin (hx:x.Ok g d) {μ:Mem} {adr:List Addr} {s:Shared} (S:St g x Γ μ adr s):g.K.In s.heap:=by obtain ⟨cs,pl,m,S⟩:=S;exact hx.kin.keeps S.F.keep
def NameIs (g:Gd) (sc:Scope) (n:Str) (fv:Value):Prop :=
 ∀ (x:Cx) (d:Nat),x.Ok g d→x.env.scope=sc→ ∀ Γ μ adr s p (Q:Value→Shared→Prop),St g x Γ μ adr s→Q fv s→wpAny (model g.prog g.w) x.A (eval (.Name n p) x.env) Q nof s
theorem NameIs.glob {n:Str} {fv:Value} (e:nsIn g.K mainGlobals n=some (some fv)) (hk:sc.names.lookup n=some .globalImplicit) (hd:(n == ("__debug__" :Str))=false:=by decide):NameIs g sc n fv:=by
 intro x d hx hsc Γ μ adr s p Q S hq
 obtain ⟨cs,pl,m,S⟩:=S
 exact nameG_K S.F hx.kin (topRead_of hx.top) e hq hx.eg hx.ek (by show x.env.scope.names.lookup n=_;rw [hsc];exact hk) hd
theorem NameIs.built {n:Str} {fv:Value} (e:nsIn g.K mainGlobals n=some none) (hk:sc.names.lookup n=some .globalImplicit) (hv:bootBuiltins n=some fv) (hn:n≠"__name__") (hd:(n == ("__debug__" :Str))=false:=by decide):NameIs g sc n fv:=by
 intro x d hx hsc Γ μ adr s p Q S hq
 obtain ⟨cs,pl,m,S⟩:=S
 have T:=topRead_of hx.top
 exact Name_function_global hx.ek (by show x.env.scope.names.lookup n=_;rw [hsc];exact hk)
  (loadGlobal_builtin (hx.eg ▸ T.g.keeps S.F.keep) (mg_none_of hx.kin T.g e) (hx.eb ▸ T.b.keeps S.F.keep) ((T.builtins n hn).trans hv) hq) hd
def Kp (g:Gd) (fv:Value):Prop:= ∀ h,g.K.In h→ ∃ k,(k=Keeper.frame∨k=Keeper.machine∨k=Keeper.boundFrame)∧Looks (model g.prog g.w) h (keeperOf fv) k
theorem Kp.K {fv:Value} (h:keepIn g.K fv=true):Kp g fv:=λ hp X=>keeps_K h hp X
theorem Kp.builtin {id:String}:Kp g (.builtin id):=λ _ _=>⟨.machine, .inr (.inl rfl),Looks.of_pure rfl⟩
theorem Kp.type {id:String}:Kp g (.type id):=λ _ _=>⟨.machine, .inr (.inl rfl),Looks.of_pure rfl⟩
theorem plain_args {es:List PySem.Expr} {env:Env} {pos:Pos} (h:starEach es env=es.map λ e=>(false,eval e env)):(backTo pos (starEach es env)).any (·.1)=false:=by
 rw [h]
 unfold backTo
 simp
theorem callWith_does {es:List PySem.Expr} {ms:List (M AV)} {β:Type} {R:List Addr→Value→β→Prop} {fv:Value} {first:List Value} {F:List AV→M β} {pos:Pos} {μ:Mem} {adr:List Addr} {s:Shared} (hx:x.Ok g d) (hsc:x.env.scope=sc) (hfr:fr=true→x.env=x.fenv)
  (hk:Kp g fv) (ha:REs g fr d sc Γ es ms) (S:St g x Γ μ adr s)
  (hc: ∀ vs as μ₁ adr₁ s₁,adr <+: adr₁→St g x Γ μ₁ adr₁ s₁→F2 (VR x.fd adr₁) vs as→Does g x Γ R (call fv (first ++ vs)) (F as) μ₁ adr₁ s₁) :
  Does g x Γ R (callWith pos fv first (backTo pos (starEach es x.env)) (backToKw pos (keywordEach [] x.env))) (bd (evs ms) F) μ adr s:=by
 intro c μ' e
 obtain ⟨as,μ₁,e1,e2⟩:=bd_some e
 show wpAny _ _ (callWith pos fv first (backTo pos (starEach es x.env)) []) _ _ _
 have hp:=plain_args (pos:=pos) (ha.star x.env)
 have run:=ha.run x hx hsc hfr pos μ adr s S as μ₁ e1
 have cont: ∀ vs s₁,(∃ adr',adr <+: adr'∧St g x Γ μ₁ adr' s₁∧F2 (VR x.fd adr') vs as)→g.K.In s₁.heap∧wpAny (model g.prog g.w) x.A (call fv (first ++ vs)) (λ a s'=> ∃ adr',adr <+: adr'∧St g x Γ μ' adr' s'∧R adr' a c) nof s₁:=by
  rintro vs s₁ ⟨adr₁,p1,S1,r1⟩
  refine ⟨S1.kin hx,wpAny_mono (hc vs as μ₁ adr₁ s₁ p1 S1 r1 c μ' e2) (λ v s₂ z=> ?_) λ _ _ z=>z⟩
  obtain ⟨adr₂,p2,S2,r2⟩:=z
  exact ⟨adr₂,p1.trans p2,S2,r2⟩
 cases es with
 | nil =>
  have hl:=ha.len
  cases ms with
  | nil =>
   cases e1
   exact callWith_of rfl hk (evalArgs_nil3 (cont [] s ⟨adr,List.prefix_refl _,S, .nil⟩))
  | cons m ms=>simp at hl
 | cons e₁ es =>
  have he:starEach (e₁ :: es) x.env=(false,eval e₁ x.env) :: (es.map λ e=>(false,eval e x.env)):=ha.star x.env
  refine callWith_of (by simp only [hp,List.any_nil,Bool.or_false]) hk ?_
  rw [he] at run ⊢
  exact evalArgs_plain (wpAny_mono run (λ vs s₁ z=>cont vs s₁ z) λ _ _ z=>z)
end
def Sub (Γ' Γ:Cx0):Prop:= ∀ (i:Nat) (av:AV),Γ'[i]? =some (some av)→Γ[i]? =some (some av)
theorem Sub.nil {Γ:Cx0}:Sub [] Γ:=λ i av e=>by simp at e
theorem Sub.refl {Γ:Cx0}:Sub Γ Γ:=λ _ _ e=>e
theorem Sub.same {Γ' Γ:Cx0} {a:Option AV} (h:Sub Γ' Γ):Sub (a :: Γ') (a :: Γ):=λ i av e=>by
 cases i with
 | zero=>simpa using e
 | succ i=>simp at e ⊢;exact h i av e
theorem Sub.drop {Γ' Γ:Cx0} {a:Option AV} (h:Sub Γ' Γ):Sub (none :: Γ') (a :: Γ):=λ i av e=>by
 cases i with
 | zero=>simp at e
 | succ i=>simp at e ⊢;exact h i av e
theorem Sub.trans {Γ Γ' Γ'':Cx0} (h:Sub Γ Γ') (h':Sub Γ' Γ''):Sub Γ Γ'':=λ i av e=>h' i av (h i av e)
section
variable {g:Gd} {x:Cx} {Γ Γ' Γc:Cx0} {d:Nat} {fr z:Bool} {sc:Scope}
theorem StE.sub {μ:Mem} {adr:List Addr} {s:Shared} {cs:List Led} {pl:Led} {m:Str→Option Value} (h:Sub Γ' Γ) (S:StE g x Γ μ adr s cs pl m):StE g x Γ' μ adr s cs pl m :=
 ⟨S.F,S.N,S.nd,S.ha,S.C,λ i av e=>S.V i av (h i av e),S.gens,S.drawn,S.os,S.ex,S.fa,S.lk,S.cl,S.km⟩
theorem St.sub {μ:Mem} {adr:List Addr} {s:Shared} (h:Sub Γ' Γ) (S:St g x Γ μ adr s):St g x Γ' μ adr s:=let ⟨cs,pl,m,z⟩:=S;⟨cs,pl,m,z.sub h⟩
def FlowR (g:Gd) (x:Cx) {ρ:Type} (G:ρ→Cx0) (Γc:Cx0) (b:Fl ρ) (μ:Mem) (adr:List Addr) (s:Shared) (fl:Flow):Prop:=match b with
 | .nxt r=>fl= .next∧St g x (G r) μ adr s
 | .cnt=>fl= .cont∧St g x Γc μ adr s
 | .ret v=> ∃ vv,fl= .ret vv∧VR x.fd adr vv v∧St g x [] μ adr s
def DoesS (g:Gd) (x:Cx) {ρ:Type} (G:ρ→Cx0) (Γc:Cx0) (t:Sem Flow) (m:M (Fl ρ)) (μ:Mem) (adr:List Addr) (s:Shared):Prop :=
 ∀ b μ',m μ=some (b,μ')→wpAny (model g.prog g.w) x.A t (λ fl s'=> ∃ adr',adr <+: adr'∧FlowR g x G Γc b μ' adr' s' fl) nof s
def RS (g:Gd) (z:Bool) (d:Nat) (sc:Scope) (Γ Γc:Cx0) {ρ:Type} (G:ρ→Cx0) (ss:List Stmt) (m:M (Fl ρ)):Prop :=
 ∀ x:Cx,x.Ok g d→x.env.scope=sc→x.env=x.fenv→x.fz=z→ ∀ μ adr s,St g x Γ μ adr s→DoesS g x G Γc (execs ss x.env) m μ adr s
def R1 (g:Gd) (z:Bool) (d:Nat) (sc:Scope) (Γ Γc:Cx0) {ρ:Type} (G:ρ→Cx0) (st:Stmt) (m:M (Fl ρ)):Prop :=
 ∀ x:Cx,x.Ok g d→x.env.scope=sc→x.env=x.fenv→x.fz=z→ ∀ μ adr s,St g x Γ μ adr s→DoesS g x G Γc (exec st x.env) m μ adr s
theorem FlowR.pre {ρ:Type} {G:ρ→Cx0} {b:Fl ρ} {μ:Mem} {adr₀ adr:List Addr} {s:Shared} {fl:Flow} (p:adr₀ <+: adr) (h: ∃ adr',adr <+: adr'∧FlowR g x G Γc b μ adr' s fl): ∃ adr',adr₀ <+: adr'∧FlowR g x G Γc b μ adr' s fl :=
 let ⟨adr',q,r⟩:=h;⟨adr',p.trans q,r⟩
theorem bd_assoc {α β γ:Type} (m:M α) (f:α→M β) (k:β→M γ):bd (bd m f) k=bd m λ a=>bd (f a) k:=by
 funext μ
 unfold bd
 cases h:m μ with
 | none=>rfl
 | some r=>obtain ⟨a,μ'⟩:=r;rfl
theorem DoesS.cons {ρ β:Type} {G:ρ→Cx0} {Γ':β→Cx0} {st:Stmt} {rest:List Stmt} {m:M β} {k:β→M (Fl ρ)} {μ:Mem} {adr:List Addr} {s:Shared}
  (h: ∀ b μ₁,m μ=some (b,μ₁)→wpAny (model g.prog g.w) x.A (exec st x.env) (λ fl s₁=>fl= .next∧ ∃ adr₁,adr <+: adr₁∧St g x (Γ' b) μ₁ adr₁ s₁) nof s)
  (hk: ∀ b μ₁ adr₁ s₁,St g x (Γ' b) μ₁ adr₁ s₁→DoesS g x G Γc (execs rest x.env) (k b) μ₁ adr₁ s₁):DoesS g x G Γc (execs (st :: rest) x.env) (bd m k) μ adr s:=by
 intro b μ' e
 obtain ⟨a,μ₁,e1,e2⟩:=bd_some e
 refine wpAny_execs_cons (wpAny_mono (h a μ₁ e1) (λ fl s₁ z=> ?_) λ _ _ z=>z)
 obtain ⟨rfl,adr₁,p1,S1⟩:=z
 exact wpAny_mono (hk a μ₁ adr₁ s₁ S1 b μ' e2) (λ fl s₂ z=>FlowR.pre p1 z) λ _ _ z=>z
theorem RS_nil {ρ:Type} {G:ρ→Cx0} {r:ρ} (h:Sub (G r) Γ):RS g z d sc Γ Γc G [] (rt (.nxt r)):=λ x hx _ _ _ μ adr s S b μ' e=>by
 cases e
 exact wpAny_execs_nil ⟨adr,List.prefix_refl _,rfl,S.sub h⟩
theorem RS_one {ρ:Type} {G:ρ→Cx0} {st:Stmt} {m:M (Fl ρ)} (h:R1 g z d sc Γ Γc G st m):RS g z d sc Γ Γc G [st] m:=λ x hx hsc hfr hz μ adr s S b μ' e=>by
 refine wpAny_execs_cons (wpAny_mono (h x hx hsc hfr hz μ adr s S b μ' e) (λ fl s₁ z=> ?_) λ _ _ z=>z)
 cases fl with
 | next=>exact wpAny_execs_nil z
 | _=>exact z
theorem RS_thn {ρ σ:Type} {G':ρ→Cx0} {G:σ→Cx0} {st:Stmt} {rest:List Stmt} {m:M (Fl ρ)} {k:ρ→M (Fl σ)} (h:R1 g z d sc Γ Γc G' st m) (hk: ∀ r,RS g z d sc (G' r) Γc G rest (k r)):RS g z d sc Γ Γc G (st :: rest) (thnG G' m k):=λ x hx hsc hfr hz μ adr s S b μ' e=>by
 obtain ⟨f,μ₁,e1,e2⟩:=bd_some (show bd m _ μ=_ from e)
 refine wpAny_execs_cons (wpAny_mono (h x hx hsc hfr hz μ adr s S f μ₁ e1) (λ fl s₁ z=> ?_) λ _ _ z=>z)
 obtain ⟨adr₁,p1,z⟩:=z
 cases f with
 | nxt r =>
  obtain ⟨rfl,S1⟩:=z
  exact wpAny_mono (hk r x hx hsc hfr hz μ₁ adr₁ s₁ S1 b μ' e2) (λ fl s₂ z=>FlowR.pre p1 z) λ _ _ z=>z
 | cnt =>
  obtain ⟨rfl,S1⟩:=z
  cases e2
  exact ⟨adr₁,p1,rfl,S1⟩
 | ret v =>
  obtain ⟨vv,rfl,r,S1⟩:=z
  cases e2
  exact ⟨adr₁,p1,vv,rfl,r,S1⟩
theorem R1_if {ρ:Type} {G:ρ→Cx0} {test:Expr} {body orelse:List Stmt} {pos:Pos} {mc:M Bool} {m1 m2:M (Fl ρ)} (hc:RC g true d sc Γ test mc) (h1:RS g z d sc Γ Γc G body m1) (h2:RS g z d sc Γ Γc G orelse m2) :
  R1 g z d sc Γ Γc G (.If test body orelse pos) (bd mc λ c=>if c then m1 else m2):=λ x hx hsc hfr hz μ adr s S b μ' e=>by
 obtain ⟨c,μ₁,e1,e2⟩:=bd_some e
 refine wpAny_If (wpAny_mono (hc x hx hsc (λ _=>hfr) μ adr s S c μ₁ e1) (λ c' s₁ z=> ?_) λ _ _ z=>z)
 obtain ⟨adr₁,p1,S1,rfl⟩:=z
 cases c'
 ·exact wpAny_mono (h2 x hx hsc hfr hz μ₁ adr₁ s₁ S1 b μ' e2) (λ fl s₂ z=>FlowR.pre p1 z) λ _ _ z=>z
 ·exact wpAny_mono (h1 x hx hsc hfr hz μ₁ adr₁ s₁ S1 b μ' e2) (λ fl s₂ z=>FlowR.pre p1 z) λ _ _ z=>z
theorem RS_fl {ρ:Type} {G:ρ→Cx0} {ss:List Stmt}:RS g z d sc Γ Γc G ss fl:=λ x _ _ _ _ μ adr s _ b μ' e=>by cases e
theorem RS_ret {ρ:Type} {G:ρ→Cx0} {e:Expr} {p:Pos} {rest:List Stmt} {m:M AV} (h:RE g true d sc Γ e m):RS g z d sc Γ Γc G (.Return (some e) p :: rest) (bd m λ r=>rt (.ret r)):=λ x hx hsc hfr hz μ adr s S b μ' e=>by
 obtain ⟨v,μ₁,e1,e2⟩:=bd_some e
 cases e2
 refine wpAny_execs_cons (wpAny_Return_some (wpAny_mono (h x hx hsc (λ _=>hfr) μ adr s S v μ' e1) (λ vv s₁ z=> ?_) λ _ _ z=>z))
 obtain ⟨adr₁,p1,S1,r⟩:=z
 exact ⟨adr₁,p1,vv,rfl,r,S1.sub .nil⟩
theorem RS_retN {ρ:Type} {G:ρ→Cx0} {p:Pos} {rest:List Stmt}:RS g z d sc Γ Γc G (.Return none p :: rest) (rt (.ret .none)):=λ x hx hsc hfr hz μ adr s S b μ' e=>by
 cases e
 exact wpAny_execs_cons (wpAny_Return_none ⟨adr,List.prefix_refl _,_,rfl, .none,S.sub .nil⟩)
theorem RS_cont {ρ:Type} {G:ρ→Cx0} {p:Pos} {rest:List Stmt} (h:Sub Γc Γ):RS g z d sc Γ Γc G (.Continue p :: rest) (rt .cnt):=λ x hx hsc hfr hz μ adr s S b μ' e=>by
 cases e
 exact wpAny_execs_cons (wpAny_Continue ⟨adr,List.prefix_refl _,rfl,S.sub h⟩)
theorem RS_pass {ρ:Type} {G:ρ→Cx0} {p:Pos} {rest:List Stmt} {m:M (Fl ρ)} (h:RS g z d sc Γ Γc G rest m):RS g z d sc Γ Γc G (.Pass p :: rest) m:=λ x hx hsc hfr hz μ adr s S b μ' e =>
 wpAny_execs_cons (wpAny_Pass (h x hx hsc hfr hz μ adr s S b μ' e))
theorem interactive_of {env:Env} (h:env.scope.kind= .function):interactive env=false:=by
 unfold interactive;rw [h];rfl
theorem RS_expr {ρ:Type} {G:ρ→Cx0} {e:Expr} {p:Pos} {rest:List Stmt} {m:M AV} {k:M (Fl ρ)} (h:RE g true d sc Γ e m) (hk:RS g z d sc Γ Γc G rest k) (hs: ∀ env,swapsWith e none p.line env=pure false:=by intro _;rfl) :
  RS g z d sc Γ Γc G (.Expr e p :: rest) (bd m λ _=>k):=λ x hx hsc hfr hz μ adr s S =>
 DoesS.cons (Γ':=λ _=>Γ) (λ v μ₁ e1=>wpAny_Expr_any (wpAny_mono (h x hx hsc (λ _=>hfr) μ adr s S v μ₁ e1) (λ vv s₁ ⟨adr₁,p1,S1,_⟩=>⟨rfl,adr₁,p1,S1⟩) λ _ _ z=>z) (interactive_of hx.ek) (hs _))
  λ _ μ₁ adr₁ s₁ S1=>hk x hx hsc hfr hz μ₁ adr₁ s₁ S1
theorem RS_setA (hf:Facts g) {ρ:Type} {G:ρ→Cx0} {e o:Expr} {f:String} {p q:Pos} {rest:List Stmt} {mv mo:M AV} {k:M (Fl ρ)} (hv:RE g true d sc Γ e mv) (ho:RE g true d sc Γ o mo) (hk:RS g z d sc Γ Γc G rest k)
  (hs: ∀ env,swapsWith e (some (.Attribute o (Str.ofString f) q)) p.line env=pure false:=by intro _;rfl) :
  RS g z d sc Γ Γc G (.Assign [.Attribute o (Str.ofString f) q] e p :: rest) (bd mv λ v=>bd mo λ o=>bd (setA o f v) λ _=>k):=λ x hx hsc hfr hz μ adr s S=>by
 have eq:(bd mv λ v=>bd mo λ o=>bd (setA o f v) λ _=>k)=bd (bd mv λ v=>bd mo λ o=>setA o f v) λ _=>k:=by simp only [bd_assoc]
 rw [eq]
 refine DoesS.cons (Γ':=λ _=>Γ) (λ u μ₃ e=> ?_) λ _ μ₁ adr₁ s₁ S1=>hk x hx hsc hfr hz μ₁ adr₁ s₁ S1
 obtain ⟨v,μ₁,e1,e2⟩:=bd_some e
 obtain ⟨ov,μ₂,e2,e3⟩:=bd_some e2
 refine plainObj_wpAny_Assign_Attribute (wpAny_mono (hv x hx hsc (λ _=>hfr) μ adr s S v μ₁ e1) (λ vv s₁ ⟨adr₁,p1,S1,r1⟩=> ?_) λ _ _ z=>z) (hs _)
 refine wpAny_mono (ho x hx hsc (λ _=>hfr) μ₁ adr₁ s₁ S1 ov μ₂ e2) (λ oo s₂ ⟨adr₂,p2,S2,r2⟩=> ?_) λ _ _ z=>z
 refine wpAny_mono (setA_does hf hx S2 r2 (r1.pre p2) u μ₃ e3) (λ _ s₃ ⟨adr₃,p3,S3,_⟩=> ?_) λ _ _ z=>z
 exact ⟨rfl,adr₃,(p1.trans p2).trans p3,S3⟩
theorem RS_setI {ρ:Type} {G:ρ→Cx0} {e o i:Expr} {p q:Pos} {rest:List Stmt} {mv mo mi:M AV} {k:M (Fl ρ)} (hv:RE g true d sc Γ e mv) (ho:RE g true d sc Γ o mo) (hi:RE g true d sc Γ i mi) (hk:RS g z d sc Γ Γc G rest k)
  (hs: ∀ env,swapsWith e (some (.Subscript o i q)) p.line env=pure false:=by intro _;rfl) :
  RS g z d sc Γ Γc G (.Assign [.Subscript o i q] e p :: rest) (bd mv λ v=>bd mo λ o=>bd mi λ i=>bd (setI o i v) λ _=>k):=λ x hx hsc hfr hz μ adr s S=>by
 have eq:(bd mv λ v=>bd mo λ o=>bd mi λ i=>bd (setI o i v) λ _=>k)=bd (bd mv λ v=>bd mo λ o=>bd mi λ i=>setI o i v) λ _=>k:=by simp only [bd_assoc]
 rw [eq]
 refine DoesS.cons (Γ':=λ _=>Γ) (λ u μ₄ e=> ?_) λ _ μ₁ adr₁ s₁ S1=>hk x hx hsc hfr hz μ₁ adr₁ s₁ S1
 obtain ⟨v,μ₁,e1,e2⟩:=bd_some e
 obtain ⟨ov,μ₂,e2,e3⟩:=bd_some e2
 obtain ⟨iv,μ₃,e3,e4⟩:=bd_some e3
 refine wpAny_Assign_Subscript (wpAny_mono (hv x hx hsc (λ _=>hfr) μ adr s S v μ₁ e1) (λ vv s₁ ⟨adr₁,p1,S1,r1⟩=> ?_) λ _ _ z=>z) (hs _)
 refine wpAny_mono (ho x hx hsc (λ _=>hfr) μ₁ adr₁ s₁ S1 ov μ₂ e2) (λ oo s₂ ⟨adr₂,p2,S2,r2⟩=> ?_) λ _ _ z=>z
 refine wpAny_mono (hi x hx hsc (λ _=>hfr) μ₂ adr₂ s₂ S2 iv μ₃ e3) (λ ii s₃ ⟨adr₃,p3,S3,r3⟩=> ?_) λ _ _ z=>z
 refine wpAny_mono (setI_does hx S3 (r2.pre p3) r3 ((r1.pre p2).pre p3) u μ₄ e4) (λ _ s₄ ⟨adr₄,p4,S4,_⟩=> ?_) λ _ _ z=>z
 exact ⟨rfl,adr₄,((p1.trans p2).trans p3).trans p4,S4⟩
theorem op_iadd:Op2 g (inplaceOp .Add) iaddM:=by
 intro x d Γ hx va vb a b μ adr s S r1 r2 c μ' e
 cases r1 <;> try (cases e;done)
 cases r2 <;> try (cases e;done)
 cases e
 exact AutoIntOps.iadd_0 (post_int S)
theorem op_isub:Op2 g (inplaceOp .Sub) subM:=by
 intro x d Γ hx va vb a b μ adr s S r1 r2 c μ' e
 cases r1 <;> try (cases e;done)
 cases r2 <;> try (cases e;done)
 cases e
 exact AutoIntOps.isub_0 (post_int S)
theorem RS_aug (hf:Facts g) {ρ:Type} {G:ρ→Cx0} {o e:Expr} {op:Operator} {f:String} {p q:Pos} {rest:List Stmt} {mo me:M AV} {mop:AV→AV→M AV} {k:M (Fl ρ)} (ho:RE g true d sc Γ o mo) (he:RE g true d sc Γ e me) (hop:Op2 g (inplaceOp op) mop) (hk:RS g z d sc Γ Γc G rest k) :
  RS g z d sc Γ Γc G (.AugAssign (.Attribute o (Str.ofString f) q) op e p :: rest) (bd mo λ o=>bd (getA o f) λ a=>bd me λ b=>bd (mop a b) λ r=>bd (setA o f r) λ _=>k):=λ x hx hsc hfr hz μ adr s S=>by
 have eq:(bd mo λ o=>bd (getA o f) λ a=>bd me λ b=>bd (mop a b) λ r=>bd (setA o f r) λ _=>k)=bd (bd mo λ o=>bd (getA o f) λ a=>bd me λ b=>bd (mop a b) λ r=>setA o f r) λ _=>k:=by simp only [bd_assoc]
 rw [eq]
 refine DoesS.cons (Γ':=λ _=>Γ) (λ u μ₅ e=> ?_) λ _ μ₁ adr₁ s₁ S1=>hk x hx hsc hfr hz μ₁ adr₁ s₁ S1
 obtain ⟨ov,μ₁,e1,e2⟩:=bd_some e
 obtain ⟨av,μ₂,e2,e3⟩:=bd_some e2
 obtain ⟨bv,μ₃,e3,e4⟩:=bd_some e3
 obtain ⟨rv,μ₄,e4,e5⟩:=bd_some e4
 refine wpAny_AugAssign_AttributeAny (wpAny_mono (ho x hx hsc (λ _=>hfr) μ adr s S ov μ₁ e1) (λ oo s₁ ⟨adr₁,p1,S1,r1⟩=> ?_) λ _ _ z=>z)
 refine wpAny_mono (getA_does hf hx S1 r1 av μ₂ e2) (λ aa s₂ ⟨adr₂,p2,S2,r2⟩=> ?_) λ _ _ z=>z
 refine wpAny_mono (he x hx hsc (λ _=>hfr) μ₂ adr₂ s₂ S2 bv μ₃ e3) (λ bb s₃ ⟨adr₃,p3,S3,r3⟩=> ?_) λ _ _ z=>z
 refine wpAny_mono (hop x d Γ hx aa bb av bv μ₃ adr₃ s₃ S3 (r2.pre p3) r3 rv μ₄ e4) (λ rr s₄ ⟨adr₄,p4,S4,r4⟩=> ?_) λ _ _ z=>z
 refine wpAny_mono (setA_does hf hx S4 (((r1.pre p2).pre p3).pre p4) r4 u μ₅ e5) (λ _ s₅ ⟨adr₅,p5,S5,_⟩=> ?_) λ _ _ z=>z
 exact ⟨rfl,adr₅,(((p1.trans p2).trans p3).trans p4).trans p5,S5⟩
/-! names are stored -/
theorem Vars.set_local {adr:List Addr} {m:Str→Option Value} {pl:Led} (h:Vars x adr m pl Γ) (nd:(x.env.scope.names.map (·.1)).Nodup) (hL:x.env.locals=x.L) {i:Nat} {n:Str} {v:Value} {av:AV} (hn:x.env.scope.names[i]? =some (n, .local)) (r:VR x.fd adr v av) :
  Vars x adr (λ y=>if y=n then some v else m y) pl (Γ.set i (some av)):=by
 intro j bv e
 by_cases hj:i=j
 ·subst hj
  rw [List.getElem?_set_self'] at e
  have hb:bv=av:=by
   cases q:Γ[i]? with
   | none=>rw [q] at e;simp at e
   | some _=>rw [q] at e;simp at e;exact e.symm
  subst hb
  exact ⟨n, .local,v,hn, .loc hL (by simp),r⟩
 ·rw [List.getElem?_set_ne hj] at e
  obtain ⟨n',k,v',a1,a2,a3⟩:=h j bv e
  have hne:n'≠n:=λ q=>hj (by
   have h1:(x.env.scope.names.map (·.1))[i]? =some n:=by rw [List.getElem?_map,hn];rfl
   have h2:(x.env.scope.names.map (·.1))[j]? =some n:=by rw [List.getElem?_map,a1,← q];rfl
   exact (List.getElem?_inj (List.getElem?_eq_some_iff.mp h1).1 nd).mp (h1.trans h2.symm))
  refine ⟨n',k,v',a1,?_,a3⟩
  cases a2 with
  | loc b1 b2=>exact .loc b1 (by simpa [hne] using b2)
  | cloc b1 b2 b3 b4=>exact .cloc b1 b2 b3 b4
  | cell b1 b2 b3=>exact .cell b1 b2 b3
  | free b1 b2 b3=>exact .free b1 b2 b3
theorem store_local (hx:x.Ok g d) (hfr:x.env=x.fenv) {i:Nat} {n:Str} {v:Value} {av:AV} {μ:Mem} {adr:List Addr} {s:Shared} (S:St g x Γ μ adr s) (hn:x.env.scope.names[i]? =some (n, .local)) (r:VR x.fd adr v av) :
  wpAny (model g.prog g.w) x.A (storeName x.env n v) (λ _ s'=>St g x (Γ.set i (some av)) μ adr s') nof s:=by
 obtain ⟨cs,pl,m,S⟩:=S
 have hL:x.env.locals=x.L:=by rw [hfr];exact hx.floc
 refine wpAny_storeName_local (m:=m) (lookup_idx hx.nd hn) (hL ▸ S.F.ns) (λ h' hn' hs=> ?_) (by rw [hx.ek];rfl)
 rw [hL] at hn' hs
 exact ⟨cs,pl,_,⟨S.F.set hn' hs,S.N.set hs,S.nd,S.ha,S.C,S.V.set_local hx.nd hL hn r,S.gens,S.drawn,S.os,S.ex,S.fa,S.lk,S.cl,λ m₀ h=>by rw [hx.kn hfr] at h;cases h⟩⟩
theorem flat_pl {cs:List Led} {p1 p2:Led} {e:Addr × Obj}:cs.flatten ++ (p1 ++ e :: p2)=(cs.flatten ++ p1) ++ e :: p2:=by simp
theorem store_cell (hx:x.Ok g d) (hfr:x.env=x.fenv) (hz:x.fz=false) {i:Nat} {n:Str} {v:Value} {av:AV} {μ:Mem} {adr:List Addr} {s:Shared} (S:St g x Γ μ adr s) (hn:x.env.scope.names[i]? =some (n, .cell)) (r:VR x.fd adr v av) :
  wpAny (model g.prog g.w) x.A (storeName x.env n v) (λ _ s'=>St g x (Γ.set i (some av)) μ adr s') nof s:=by
 obtain ⟨cs,pl,m,S⟩:=S
 have hk:=lookup_idx hx.nd hn
 obtain ⟨c,hc⟩:=hx.cs n hk
 obtain ⟨o,v₀,hm,hd⟩:=S.cl n c hk hc
 obtain ⟨p1,p2,rfl⟩:=List.append_of_mem hm
 have N:=S.N
 have nd:=S.nd
 rw [flat_pl] at N nd
 obtain ⟨n1,n2⟩:=nd_split nd
 have hmm:=N (c,o) (by simp)
 refine wpAny_storeName_cell hx.ek hk hc ⟨o,hmm.1,hd⟩ λ h' hv hs=> ?_
 obtain ⟨o',ho',hd'⟩:=hv
 have N':News x.h₀ x.L h' ((cs.flatten ++ p1) ++ (c,o') :: p2):=N.setIn n1 n2 hs ho'
 have key: ∀ q,q∈p1 ++ (c,o) :: p2→q.1≠c→q∈p1 ++ (c,o') :: p2:=λ q hq hne=>by
  rcases List.mem_append.mp hq with h | h
  ·exact List.mem_append_left _ h
  ·rcases List.mem_cons.mp h with h | h
   ·exact absurd (by rw [h]) hne
   ·exact List.mem_append_right _ (.tail _ h)
 have mc:(c,o')∈p1 ++ (c,o') :: p2:=by simp
 have same: ∀ q:Obj,(c,q)∈p1 ++ (c,o) :: p2→q=o:=λ q hq=>by
  have h1:=(S.N (c,q) (List.mem_append_right _ hq)).1
  rw [hmm.1] at h1;exact (Option.some.inj h1).symm
 refine ⟨cs,p1 ++ (c,o') :: p2,m,⟨S.F.change hs hmm.2.1 hmm.2.2,by rw [flat_pl];exact N',?_,S.ha,S.C,?_,S.gens,S.drawn,S.os,?_,S.fa,S.lk,?_,S.km⟩⟩
 ·have:=S.nd;simpa using this
 ·intro j bv e
  by_cases hj:i=j
  ·subst hj
   rw [List.getElem?_set_self'] at e
   have hb:bv=av:=by
    cases q:Γ[i]? with
    | none=>rw [q] at e;simp at e
    | some _=>rw [q] at e;simp at e;exact e.symm
   subst hb
   exact ⟨n, .cell,v,hn, .cell hc (.inr mc) hd',r⟩
  ·rw [List.getElem?_set_ne hj] at e
   obtain ⟨n',k,v',a1,a2,a3⟩:=S.V j bv e
   have hne:n'≠n:=λ q=>hj (by
    have h1:(x.env.scope.names.map (·.1))[i]? =some n:=by rw [List.getElem?_map,hn];rfl
    have h2:(x.env.scope.names.map (·.1))[j]? =some n:=by rw [List.getElem?_map,a1,← q];rfl
    exact (List.getElem?_inj (List.getElem?_eq_some_iff.mp h1).1 hx.nd).mp (h1.trans h2.symm))
   refine ⟨n',k,v',a1,?_,a3⟩
   cases a2 with
   | loc b1 b2=>exact .loc b1 b2
   | @cloc _ o₂ es ep b1 b2 b3 b4 =>
    refine .cloc (key _ b1 λ q=> ?_) b2 b3 b4
    have q':x.env.locals=c:=q
    rw [q'] at b1
    rw [same _ b1,hd] at b2;cases b2
   | @cell _ c₂ o₂ b1 b2 b3 =>
    have hcc:c₂≠c:=λ q=>hne (hx.ci _ _ _ hk b1 (q ▸ hc))
    exact .cell b1 (b2.imp id λ h=>key _ h hcc) b3
   | @free _ c₂ o₂ b1 b2 b3 =>
    have hcc:c₂≠c:=λ q=>hne (hx.ci _ _ _ hk b1 (q ▸ hc))
    exact .free b1 (b2.imp id λ h=>key _ h hcc) b3
 ·intro p hp
  exact (S.ex p hp).imp id λ h=>key _ h (hx.cz hz p hp n c hk hc)
 ·intro n' c' hk' hc'
  by_cases hcc:c'=c
  ·subst hcc;exact ⟨o',some v,mc,hd'⟩
  ·obtain ⟨o₂,v₂,h1,h2⟩:=S.cl n' c' hk' hc'
   exact ⟨o₂,v₂,key _ h1 hcc,h2⟩
def Stores (z:Bool) (sc:Scope) (i:Nat) (n:Str):Prop:=sc.names[i]? =some (n, .local)∨(sc.names[i]? =some (n, .cell)∧z=false)
theorem store_name (hx:x.Ok g d) (hsc:x.env.scope=sc) (hfr:x.env=x.fenv) (hz:x.fz=z) {i:Nat} {n:Str} (hs:Stores z sc i n) {v:Value} {av:AV} {μ:Mem} {adr:List Addr} {s:Shared} (S:St g x Γ μ adr s) (r:VR x.fd adr v av) :
  wpAny (model g.prog g.w) x.A (storeName x.env n v) (λ _ s'=>St g x (Γ.set i (some av)) μ adr s') nof s:=by
 rcases hs with h | ⟨h,h'⟩
 ·exact store_local hx hfr S (hsc ▸ h) r
 ·exact store_cell hx hfr (hz.trans h') S (hsc ▸ h) r
theorem RS_name {ρ:Type} {G:ρ→Cx0} {e:Expr} {n:Str} {p q:Pos} {rest:List Stmt} {m:M AV} {k:AV→M (Fl ρ)} {i:Nat} (h:RE g true d sc Γ e m) (hn:Stores z sc i n) (hk: ∀ v,RS g z d sc (Γ.set i (some v)) Γc G rest (k v))
  (hs: ∀ env,swapsWith e (some (.Name n q)) p.line env=pure false:=by intro _;rfl):RS g z d sc Γ Γc G (.Assign [.Name n q] e p :: rest) (bd m k):=λ x hx hsc hfr hz μ adr s S =>
 DoesS.cons (Γ':=λ v=>Γ.set i (some v)) (λ v μ₁ e1=>wpAny_Assign_Name (wpAny_mono (h x hx hsc (λ _=>hfr) μ adr s S v μ₁ e1) (λ vv s₁ ⟨adr₁,p1,S1,r1⟩ =>
  wpAny_mono (store_name hx hsc hfr hz hn S1 r1) (λ _ s₂ S2=>⟨rfl,adr₁,p1,S2⟩) λ _ _ z=>z) λ _ _ z=>z) (hs _))
  λ v μ₁ adr₁ s₁ S1=>hk v x hx hsc hfr hz μ₁ adr₁ s₁ S1
end
section
variable {g:Gd} {x:Cx} {Γ Γ' Γc:Cx0} {d:Nat} {fr z:Bool} {sc:Scope}
theorem bindL_other {kf:Str→Option NameKind} {n:Str}: ∀ {bs:List (Str × Value)} {m:Str→Option Value},n∉bs.map (·.1)→bindL kf bs m n=m n
 | [],m,_=>rfl
 | (n',v) :: r,m,h=>by
  unfold bindL
  simp only [List.map_cons,List.mem_cons,not_or] at h
  rw [bindL_other h.2]
  split
  ·simp [h.1]
  ·rfl
theorem bindL_get {kf:Str→Option NameKind} {n:Str} {v:Value}: ∀ {bs:List (Str × Value)} {m:Str→Option Value},(bs.map (·.1)).Nodup→(n,v)∈bs→kf n=some .local→bindL kf bs m n=some v
 | [],_,_,h,_=>by simp at h
 | (n',v') :: r,m,nd,h,hk=>by
  unfold bindL
  simp only [List.map_cons,List.nodup_cons] at nd
  rcases List.mem_cons.mp h with h | h
  ·cases h
   rw [bindL_other nd.1,if_pos hk];simp
  ·exact bindL_get nd.2 h hk
theorem bindC_other {kf:Str→Option NameKind} {n:Str}: ∀ {bs:List (Str × Value)} {m:Str→Option Value},n∉bs.map (·.1)→bindC kf bs m n=m n
 | [],m,_=>rfl
 | (n',v) :: r,m,h=>by
  unfold bindC
  simp only [List.map_cons,List.mem_cons,not_or] at h
  rw [bindC_other h.2]
  split
  ·rfl
  ·simp [h.1]
theorem bindC_get {kf:Str→Option NameKind} {n:Str} {v:Value}: ∀ {bs:List (Str × Value)} {m:Str→Option Value},(bs.map (·.1)).Nodup→(n,v)∈bs→ ¬ kf n=some .local→bindC kf bs m n=some v
 | [],_,_,h,_=>by simp at h
 | (n',v') :: r,m,nd,h,hk=>by
  unfold bindC
  simp only [List.map_cons,List.nodup_cons] at nd
  rcases List.mem_cons.mp h with h | h
  ·cases h
   rw [bindC_other nd.1,if_neg hk];simp
  ·exact bindC_get nd.2 h hk
theorem cellsFrom_addr: ∀ (names:List (Str × NameKind)) (n:Nat) (acc:List (Str × Addr)),(acc.map (·.2)).Nodup→(∀ p∈acc,p.2 < n)→((cellsFrom n names acc).map (·.2)).Nodup∧ ∀ p∈cellsFrom n names acc,p∈acc∨n≤p.2
 | [],n,acc,h,h'=>⟨h,λ p hp=> .inl hp⟩
 | (nm,k) :: r,n,acc,h,h'=>by
  unfold cellsFrom
  split
  ·obtain ⟨a,b⟩:=cellsFrom_addr r (n+1) ((nm,n) :: acc) (by
    simp only [List.map_cons,List.nodup_cons]
    refine ⟨λ q=> ?_,h⟩
    obtain ⟨p,hp,e⟩:=List.mem_map.mp q
    have:=h' p hp
    rw [e] at this
    exact absurd this (Nat.lt_irrefl _)) (λ p hp=>by
    rcases List.mem_cons.mp hp with rfl | hp
    ·exact Nat.lt_succ_self _
    ·exact Nat.lt_succ_of_lt (h' p hp))
   refine ⟨a,λ p hp=> ?_⟩
   rcases b p hp with q | q
   ·rcases List.mem_cons.mp q with rfl | q
    ·exact .inr (Nat.le_refl _)
    ·exact .inl q
   ·exact .inr (Nat.le_of_succ_le q)
  ·exact cellsFrom_addr r n acc h h'
theorem CellsAre.keys {cm:Str→Option Value} {cs:List (Str × Addr)} {cells:List (Addr × Obj)} (h:CellsAre cm cs cells):cells.map (·.1)=cs.map (·.2):=by
 induction h with
 | nil=>rfl
 | cons _ _ ih=>simp [ih]
theorem CellsAre.get {cm:Str→Option Value} {n:Str} {c:Addr}: ∀ {cs:List (Str × Addr)} {cells:List (Addr × Obj)},CellsAre cm cs cells→cs.lookup n=some c→ ∃ o,(c,o)∈cells∧o.data= .cell (cm n)
 | _,_, .nil,e=>by simp at e
 | _,_, .cons (n:=n') (c:=c') (o:=o) h r,e=>by
  rw [List.lookup_cons] at e
  cases hb:n == n' with
  | true =>
   rw [hb] at e;cases e
   rw [beq_iff_eq.mp hb]
   exact ⟨o, .head _,h⟩
  | false =>
   rw [hb] at e
   obtain ⟨o',h1,h2⟩:=CellsAre.get r e
   exact ⟨o', .tail _ h1,h2⟩
theorem lookup_inj {cs:List (Str × Addr)} (h:(cs.map (·.2)).Nodup): ∀ n n' c,cs.lookup n=some c→cs.lookup n'=some c→n=n':=by
 intro n n' c e e'
 have h1:=mem_of_lookup e
 have h2:=mem_of_lookup e'
 induction cs with
 | nil=>simp at h1
 | cons p r ih =>
  simp only [List.map_cons,List.nodup_cons] at h
  rcases List.mem_cons.mp h1 with q1 | q1
  ·rcases List.mem_cons.mp h2 with q2 | q2
   ·rw [← q1] at q2;exact (Prod.mk.inj q2).1.symm
   ·exact absurd (by rw [← q1];exact List.mem_map_of_mem (f:=(·.2)) q2) h.1
  ·rcases List.mem_cons.mp h2 with q2 | q2
   ·exact absurd (by rw [← q2];exact List.mem_map_of_mem (f:=(·.2)) q1) h.1
   ·refine ih h.2 ?_ ?_ q1 q2
    ·rw [List.lookup_cons] at e
     cases hb:n == p.1 with
     | false=>rw [hb] at e;exact e
     | true=>rw [hb] at e;exact absurd (by rw [Option.some.inj e];exact List.mem_map_of_mem (f:=(·.2)) q1) h.1
    ·rw [List.lookup_cons] at e'
     cases hb:n' == p.1 with
     | false=>rw [hb] at e';exact e'
     | true=>rw [hb] at e';exact absurd (by rw [Option.some.inj e'];exact List.mem_map_of_mem (f:=(·.2)) q1) h.1
theorem zip_nodup {α β:Type}: ∀ {l:List α},l.Nodup→ ∀ l':List β,((l.zip l').map (·.1)).Nodup
 | [],_,_=>by simp
 | a :: l,h,[]=>by simp
 | a :: l,h,b :: l'=>by
  simp only [List.zip_cons_cons,List.map_cons,List.nodup_cons] at h ⊢
  refine ⟨λ q=>h.1 ?_,zip_nodup h.2 l'⟩
  obtain ⟨p,hp,e⟩:=List.mem_map.mp q
  exact e ▸ (List.of_mem_zip hp).1
def Fn (g:Gd) (d:Nat) (fv:Value) (F:List AV→M AV):Prop :=
 ∀ (x:Cx) (Γ:Cx0),x.Ok g d→ ∀ μ adr s vs as (R:Result→Shared→Prop),St g x Γ μ adr s→F2 (VR x.fd adr) vs as→ ∀ b μ',F as μ=some (b,μ') →
  (∀ v s',(∃ adr',adr <+: adr'∧St g x Γ μ' adr' s'∧VR x.fd adr' v b)→R (.ok (.ret v)) s')→codeAny (model g.prog g.w) x.A (.call fv ⟨vs,[]⟩) R s
theorem Fn.does {fv:Value} {F:List AV→M AV} (h:Fn g d fv F) (hx:x.Ok g d) {μ:Mem} {adr:List Addr} {s:Shared} {vs:List Value} {as:List AV} (S:St g x Γ μ adr s) (r:F2 (VR x.fd adr) vs as):Does g x Γ (VR x.fd) (call fv vs) (F as) μ adr s :=
 λ b μ' e=>wpAny_call (h x Γ hx μ adr s vs as _ S r b μ' e λ v s' z=>z)
theorem Cx.Ok.weak {d d':Nat} (h:x.Ok g d) (hd:d'≤d):x.Ok g d' :=
 {h with dep:=by have:=h.dep;omega,un:=by have:=h.un;omega}
theorem Fn.weak {d d':Nat} {fv:Value} {F:List AV→M AV} (h:Fn g d fv F) (hd:d≤d'):Fn g d' fv F:=λ x Γ hx=>h x Γ (hx.weak hd)
abbrev callee (x:Cx) (E:Env) (L:Addr) (gh:Heap) (pl:Led):Cx :=
 {A:=x.A.deeper E,env:=E,fenv:=E,outer:=x.fenv :: x.outer,A₀:=x.A,base:=x.base,h₀:=gh,L:=L,fd:=x.fd,s0:=x.s0,need:=x.need ++ pl,fact:=x.fact,lks:=x.lks,fz:=false,km:=none}
theorem fin_some {m:M (Fl Unit)} {b:AV} {μ μ':Mem} (e:fin m μ=some (b,μ')):(∃ u,m μ=some (.nxt u,μ')∧b= .none)∨m μ=some (.ret b,μ'):=by
 obtain ⟨f,μ₁,e1,e2⟩:=bd_some (show bd m _ μ=_ from e)
 cases f with
 | nxt u=>cases e2;exact .inl ⟨u,e1,rfl⟩
 | cnt=>cases e2
 | ret v=>cases e2;exact .inr e1
theorem Fn_def (hf:Facts g) {f:Addr} {oc:Value} {od:Option Addr} {osl:Array (Option Value)} {name qual:Str} {params:Arguments} {body:List Stmt} {scope:Scope} {dV kV doc pm cdv ct:Value} {an:Option Addr}
  (ho:g.K.lookup f=some ⟨oc,od, .func (fnOf name qual params body scope dV kV doc pm an cdv ct),osl⟩) (hcd:codeIn g.K cdv qual=true) (dv:List Value) (dav:List AV) (k:Nat) (mb:List AV→M (Fl Unit)) (hdv: ∀ fd adr,F2 (VR fd adr) dv dav)
  (hbind: ∀ s vs,g.K.In s.heap→vs.length=k→BindsTo s (fnOf name qual params body scope dV kV doc pm an cdv ct) ⟨vs,[]⟩ ((scope.names.map (·.1)).zip (vs ++ dv)))
  (hk:((scope.names.take (k+dv.length)).all λ n=>n.2 == .local || n.2 == .cell)=true) (hkn:k+dv.length≤scope.names.length)
  (hnd:((cellsFrom 0 scope.names []).map (·.1)).Nodup) (nd:(scope.names.map (·.1)).Nodup) (hkd:scope.kind= .function) (hco:scope.isCoroutine=false) (hgen:scope.isGenerator=false)
  (hb: ∀ as:List AV,as.length=k+dv.length→RS g false d scope (as.map some ++ List.replicate (scope.names.length - as.length) none) [] (λ _=>[]) body (mb as)) {F:List AV→M AV} (hF: ∀ as b μ μ',F as μ=some (b,μ')→as.length=k∧fin (mb (as ++ dav)) μ=some (b,μ')) :
  Fn g (d+1) (.ref f) F:=by
 intro x Γ hx μ adr s vs as R S r b μ' e hR
 obtain ⟨hlen,e⟩:=hF as b μ μ' e
 obtain ⟨cs,pl,m,S⟩:=S
 have hvl:vs.length=k:=r.len.trans hlen
 have hdl:dv.length=dav.length:=(hdv none []).len
 have hal:(as ++ dav).length=k+dv.length:=by rw [List.length_append,hlen,hdl]
 have hval:(vs ++ dv).length=k+dv.length:=by rw [List.length_append,hvl]
 have rr:F2 (VR x.fd adr) (vs ++ dv) (as ++ dav):=r.app (hdv _ _)
 have X:g.K.In s.heap:=hx.kin.keeps S.F.keep
 have kinds: ∀ y∈(scope.names.map (·.1)).zip (vs ++ dv),scope.names.lookup y.1=some .local∨scope.names.lookup y.1=some .cell:=by
  intro y hy
  obtain ⟨i,hi⟩:=List.getElem?_of_mem hy
  obtain ⟨h1,h2⟩:=List.getElem?_zip_eq_some.mp hi
  rw [List.getElem?_map,Option.map_eq_some_iff] at h1
  obtain ⟨q,hq,he⟩:=h1
  have hlt:i < k+dv.length:=by rw [← hval];exact (List.getElem?_eq_some_iff.mp h2).1
  have hm:q∈scope.names.take (k+dv.length):=List.mem_of_getElem? (i:=i) (by rw [List.getElem?_take,if_pos hlt];exact hq)
  have:=List.all_eq_true.mp hk q hm
  have hl:=lookup_idx nd (k:=q.2) (n:=q.1) (i:=i) hq
  rw [← he]
  rcases Bool.or_eq_true_iff.mp this with q' | q'
  ·left;rw [hl,eq_of_beq q']
  ·right;rw [hl,eq_of_beq q']
 refine code_defC hx.below S.F hx.kin S.N hx.top hx.frames hx.fL hx.fk ho hcd (by have:=hx.dep;omega) (hbind s vs X hvl) ?_ hnd (λ g' L' h₁ tk cells FG F' N' Y B' X' T' l=> ?_) hco hgen hkd
 ·rw [List.all_eq_true]
  intro y hy
  rcases kinds y hy with q | q <;> simp [q]
 obtain ⟨ca1,ca2⟩:=cellsFrom_addr scope.names (L'+1) [] (by simp) (by simp)
 have ca2: ∀ p∈cellsFrom (L'+1) scope.names [],L'+1≤p.2:=λ p hp=>(ca2 p hp).elim (λ h=>by simp at h) id
 have cell_lo: ∀ p∈cells,L'+1≤p.1:=λ p hp=>by
  have:p.1∈cells.map (·.1):=List.mem_map_of_mem hp
  rw [CellsAre.keys Y] at this
  obtain ⟨q,hq,e⟩:=List.mem_map.mp this
  exact e ▸ ca2 q hq
 let E:=envOfC qual scope L' f cdv
 have hx':(callee x E L' g' pl).Ok g d:=by
  refine ⟨B',X',T',?_,hx.hnd,rfl,rfl,hkd,rfl,hkd,rfl,rfl,nd,?_,?_,hx.mono,λ _=>rfl,λ n n' c _=>lookup_inj ca1 n n' c,?_,hf.com _ _ _ _ (λ p hp=>List.mem_append_left _ hp) hx.co,?_⟩
  ·show (x.A.deeper E).frames=_
   show x.A.frames.map (E :: ·)=_
   rw [hx.frames];rfl
  ·show x.A.depth+1+d < _
   have:=hx.dep;omega
  ·show x.A.units+3+16 * d+100 < _
   have:=hx.un;omega
  ·intro n hn
   exact Option.isSome_iff_exists.mp (cellsFrom_some scope.names (L'+1) [] (.inl hn))
  ·intro _ p hp n c _ hc
   have hc':=ca2 _ (mem_of_lookup hc)
   have hlt:p.1 < L':=by
    rcases List.mem_append.mp hp with h | h
    ·rcases S.ex p h with q | q
     ·exact Nat.lt_of_lt_of_le (Heap.lt_size (FG.keep _ _ q)) F'.above
     ·exact l p (List.mem_append_right _ q)
    ·exact l p (List.mem_append_right _ h)
   have hc'':L'+1≤c:=hc'
   exact λ q=>Nat.lt_irrefl L' (Nat.lt_of_lt_of_le (Nat.lt_of_succ_le hc'') (Nat.le_of_lt (q ▸ hlt:c < L')))
 have S':St g (callee x E L' g' pl) ((as ++ dav).map some ++ List.replicate (scope.names.length - (as ++ dav).length) none) μ adr {s with heap:=h₁,toks:=tk}:=by
  refine ⟨cs,cells ++ pl,_,⟨F',?_,?_,S.ha,S.C,?_,S.gens,S.drawn,S.os,?_,S.fa,S.lk,?_,λ m₀ h=>by cases h⟩⟩
  ·intro p hp
   refine N' p ?_
   simp only [List.mem_append] at hp ⊢
   rcases hp with h | h | h
   ·exact .inr (.inl h)
   ·exact .inl h
   ·exact .inr (.inr h)
  ·have z:((cells ++ (cs.flatten ++ pl)).map (·.1)).Nodup:=by
    rw [List.map_append,List.nodup_append]
    refine ⟨by rw [CellsAre.keys Y];exact ca1,S.nd,λ a ha b hb=> ?_⟩
    obtain ⟨p,hp,rfl⟩:=List.mem_map.mp ha
    obtain ⟨q,hq,rfl⟩:=List.mem_map.mp hb
    have h1:=cell_lo p hp
    have h2:q.1 < L':=l q hq
    exact λ e=>Nat.lt_irrefl L' (Nat.lt_of_lt_of_le (Nat.lt_of_succ_le (e ▸ h1:L'+1≤q.1)) (Nat.le_of_lt h2))
   have pm:(cs.flatten ++ (cells ++ pl)).Perm (cells ++ (cs.flatten ++ pl)):=by
    rw [← List.append_assoc,← List.append_assoc]
    exact List.Perm.append_right _ List.perm_append_comm
   exact (pm.map (·.1)).nodup_iff.mpr z
  ·intro i av ei
   have hlt:i < (as ++ dav).length:=by
    rcases Nat.lt_or_ge i (as ++ dav).length with h | h
    ·exact h
    ·rw [List.getElem?_append_right (by simpa using h),List.getElem?_replicate] at ei
     split at ei <;> simp at ei
   rw [List.getElem?_append_left (by simpa using hlt),List.getElem?_map,Option.map_eq_some_iff] at ei
   obtain ⟨a,ha,hae⟩:=ei
   cases hae
   obtain ⟨v,hv,hvr⟩:=rr.at_ ha
   have hin:i < scope.names.length:=by omega
   obtain ⟨n,kd,hq'⟩: ∃ n kd,scope.names[i]? =some (n,kd):=⟨_,_,List.getElem?_eq_getElem hin⟩
   have hmem:(n,v)∈(scope.names.map (·.1)).zip (vs ++ dv):=List.mem_of_getElem? (i:=i) (List.getElem?_zip_eq_some.mpr ⟨by rw [List.getElem?_map,hq'];rfl,hv⟩)
   have hzn:(((scope.names.map (·.1)).zip (vs ++ dv)).map (·.1)).Nodup:=by
    exact zip_nodup nd _
   have hl:=lookup_idx nd hq'
   refine ⟨n,kd,v,hq',?_,hvr⟩
   have hkk:E.kindOf n=scope.names.lookup n:=rfl
   rcases kinds _ hmem with q | q
   ·rw [hl] at q;cases q
    exact .loc rfl (bindL_get hzn hmem hl)
   ·rw [hl] at q;cases q
    obtain ⟨c,hc⟩:=Option.isSome_iff_exists.mp (cellsFrom_some scope.names (L'+1) [] (.inl hl))
    obtain ⟨o,ho1,ho2⟩:=CellsAre.get Y hc
    refine .cell hc (.inr (List.mem_append_left _ ho1)) ?_
    rw [ho2,bindC_get hzn hmem (by show ¬ scope.names.lookup n=_;rw [hl];simp)]
  ·intro p hp
   rcases List.mem_append.mp hp with h | h
   ·rcases S.ex p h with q | q
    ·exact .inl (FG.keep _ _ q)
    ·exact .inr (List.mem_append_right _ q)
   ·exact .inr (List.mem_append_right _ h)
  ·intro n c hn hc
   obtain ⟨o,ho1,ho2⟩:=CellsAre.get Y hc
   exact ⟨o,_,List.mem_append_left _ ho1,ho2⟩
 have done: ∀ (fl:Flow) s' (v:Value) Γ'',v=(match fl with | .ret v=>v | _=> .none)→(∃ adr',adr <+: adr'∧VR x.fd adr' v b∧St g (callee x E L' g' pl) Γ'' μ' adr' s')→LeaveK x.h₀ x.L m g' R (match fl with | .ret v=>v | _=> .none) s':=by
  rintro fl s' v Γ'' rfl ⟨adr',p,hv,cs',pl',m',Z⟩
  have keep: ∀ q∈pl,q∈pl':=λ q hq=>by
   rcases Z.ex q (List.mem_append_right _ hq) with h | h
   ·have h1:=(N' q (List.mem_append_right _ (List.mem_append_right _ hq))).2.2
    have h':g'.get? q.1=some q.2:=h
    rw [h1] at h';cases h'
   ·exact h
  refine leaveK_ Z.F Z.N λ F₂ N₂=> ?_
  refine hR _ _ ⟨adr',p,⟨cs',pl',m,⟨F₂,N₂,Z.nd,Z.ha,Z.C,?_,Z.gens,Z.drawn,Z.os,?_,Z.fa,Z.lk,?_,S.km⟩⟩,hv⟩
  ·intro i av ei
   obtain ⟨n,kd,v,a1,a2,a3⟩:=S.V i av ei
   refine ⟨n,kd,v,a1,?_,a3.pre p⟩
   cases a2 with
   | loc b1 b2=>exact .loc b1 b2
   | cloc b1 b2 b3 b4=>exact .cloc (keep _ b1) b2 b3 b4
   | cell b1 b2 b3=>exact .cell b1 (b2.imp id (keep _)) b3
   | free b1 b2 b3=>exact .free b1 (b2.imp id (keep _)) b3
  ·exact λ q hq=>(S.ex q hq).imp id (keep q)
  ·intro n c hn hc
   obtain ⟨o,v₀,h1,h2⟩:=S.cl n c hn hc
   exact ⟨o,v₀,keep _ h1,h2⟩
 rcases fin_some e with ⟨u,e1,rfl⟩ | e1
 ·refine wpAny_mono (hb _ hal (callee x E L' g' pl) hx' rfl rfl rfl μ adr _ S' _ _ e1) (λ fl s' z=> ?_) λ _ _ z=>z.elim
  obtain ⟨adr',p,rfl,Z⟩:=z
  exact done .next s' .none _ rfl ⟨adr',p, .none,Z⟩
 ·refine wpAny_mono (hb _ hal (callee x E L' g' pl) hx' rfl rfl rfl μ adr _ S' _ _ e1) (λ fl s' z=> ?_) λ _ _ z=>z.elim
  obtain ⟨adr',p,vv,rfl,hv,Z⟩:=z
  exact done (.ret vv) s' vv _ rfl ⟨adr',p,hv,Z⟩
end
section
variable {g:Gd} {x:Cx} {Γ Γ' Γc:Cx0} {d:Nat} {fr z:Bool} {sc:Scope}
theorem bd_rt {α β:Type} (a:α) (f:α→M β):bd (rt a) f=f a:=rfl
theorem evs0 {β:Type} (F:List AV→M β):bd (evs []) F=F []:=rfl
theorem evs1 {β:Type} (m:M AV) (F:List AV→M β):bd (evs [m]) F=bd m λ a=>F [a]:=by simp only [evs,bd_assoc,bd_rt]
theorem evs2 {β:Type} (m n:M AV) (F:List AV→M β):bd (evs [m,n]) F=bd m λ a=>bd n λ b=>F [a,b]:=by simp only [evs,bd_assoc,bd_rt]
theorem evs3 {β:Type} (m n o:M AV) (F:List AV→M β):bd (evs [m,n,o]) F=bd m λ a=>bd n λ b=>bd o λ c=>F [a,b,c]:=by simp only [evs,bd_assoc,bd_rt]
theorem evs4 {β:Type} (m n o p:M AV) (F:List AV→M β):bd (evs [m,n,o,p]) F=bd m λ a=>bd n λ b=>bd o λ c=>bd p λ e=>F [a,b,c,e]:=by simp only [evs,bd_assoc,bd_rt]
theorem evs5 {β:Type} (m n o p q:M AV) (F:List AV→M β):bd (evs [m,n,o,p,q]) F=bd m λ a=>bd n λ b=>bd o λ c=>bd p λ e=>bd q λ f=>F [a,b,c,e,f]:=by simp only [evs,bd_assoc,bd_rt]
theorem evs6 {β:Type} (m n o p q r:M AV) (F:List AV→M β):bd (evs [m,n,o,p,q,r]) F=bd m λ a=>bd n λ b=>bd o λ c=>bd p λ e=>bd q λ f=>bd r λ h=>F [a,b,c,e,f,h]:=by simp only [evs,bd_assoc,bd_rt]
theorem RE_callN {n:Str} {p pos:Pos} {es:List PySem.Expr} {ms:List (M AV)} {fv:Value} {F:List AV→M AV} {dF:Nat} (hn:NameIs g sc n fv) (hk:Kp g fv) (hF:Fn g dF fv F) (hd:dF≤d) (ha:REs g fr d sc Γ es ms) :
  RE g fr d sc Γ (.Call (.Name n p) es [] pos) (bd (evs ms) F):=by
 intro x hx hsc hfr μ adr s S b μ' e
 refine Call_ (hn x d hx hsc Γ μ adr s p _ S ?_) (by rfl)
 exact callWith_does (first:=[]) hx hsc hfr hk ha S (λ vs as μ₁ adr₁ s₁ _ S₁ r=>(hF.weak hd).does hx S₁ r) b μ' e
theorem RE_b1 {n:Str} {p pos:Pos} {e:PySem.Expr} {m:M AV} {fv:Value} {mop:AV→M AV} (hn:NameIs g sc n fv) (hk:Kp g fv) (hF:Op1 g (λ v=>call fv [v]) mop) (ha:RE g fr d sc Γ e m) (he: ∀ env,starEach [e] env=[(false,eval e env)]:=by intro _;rfl) :
  RE g fr d sc Γ (.Call (.Name n p) [e] [] pos) (bd m λ a=>mop a):=by
 have ha':REs g fr d sc Γ [e] [m]:=REs_cons ha REs_nil (by intro env;rw [he];rfl)
 have eq:(bd m λ a=>mop a)=bd (evs [m]) (λ as=>match as with | [a]=>mop a | _=>fl):=by rw [evs1]
 rw [eq]
 intro x hx hsc hfr μ adr s S b μ' e
 refine Call_ (hn x d hx hsc Γ μ adr s p _ S ?_) (by rfl)
 refine callWith_does (first:=[]) hx hsc hfr hk ha' S (λ vs as μ₁ adr₁ s₁ _ S₁ r=> ?_) b μ' e
 cases r with
 | nil=>intro b μ' e;cases e
 | cons r1 r2 =>
  cases r2 with
  | nil=>exact hF x d Γ hx _ _ μ₁ adr₁ s₁ S₁ r1
  | cons _ _=>intro b μ' e;cases e
theorem RE_isinst {n cn:Str} {p pos cp:Pos} {e:PySem.Expr} {m:M AV} {cv:Value} {mop:AV→M AV} (hn:NameIs g sc n (.builtin "isinstance")) (hc:NameIs g sc cn cv) (hF:Op1 g (λ v=>call (.builtin "isinstance") [v,cv]) mop) (ha:RE g fr d sc Γ e m)
  (he: ∀ env,starEach [e, .Name cn cp] env=[(false,eval e env),(false,eval (.Name cn cp) env)]:=by intro _;rfl) :
  RE g fr d sc Γ (.Call (.Name n p) [e, .Name cn cp] [] pos) (bd m λ a=>mop a):=by
 intro x hx hsc hfr μ adr s S b μ' eq
 obtain ⟨a,μ₁,e1,e2⟩:=bd_some eq
 refine Call_ (hn x d hx hsc Γ μ adr s p _ S ?_) (by rfl)
 rw [he]
 refine callWith_of rfl Kp.builtin (evalArgs_plain ?_)
 refine spliced_cons (wpAny_mono (ha x hx hsc hfr μ adr s S a μ₁ e1) (λ v s₁ ⟨adr₁,p1,S1,r1⟩=> ?_) λ _ _ z=>z)
 refine spliced_cons (hc x d hx hsc Γ μ₁ adr₁ s₁ cp _ S1 (spliced_nil ?_))
 refine ⟨S1.kin hx,?_⟩
 exact wpAny_mono (hF x d Γ hx v a μ₁ adr₁ s₁ S1 r1 b μ' e2) (λ v s₂ ⟨adr₂,p2,S2,r2⟩=>⟨adr₂,p1.trans p2,S2,r2⟩) λ _ _ z=>z
theorem chk_inv {v:AV} {c:Cl} {u:Unit} {μ μ':Mem} (e:chk v c μ=some (u,μ')):μ'=μ∧ ∃ i fs,v= .obj i∧μ[i]? =some (.inst c fs):=by
 cases v <;> try (cases e;done)
 rename_i i
 obtain ⟨o,μ₁,e1,e2⟩:=bd_some (show bd (rd i) _ μ=_ from e)
 obtain ⟨h1,rfl⟩:=rd_some e1
 cases o <;> try (cases e2;done)
 rename_i c' fs
 dsimp only at e2
 split at e2
 ·rename_i hc;subst hc;cases e2;exact ⟨rfl,i,fs,rfl,h1⟩
 ·cases e2
theorem get_none {κ:Type} [DecidableEq κ] {f:κ}: ∀ {fs:List (κ × AV)},(∀ p∈fs,p.1≠f)→get f fs=none
 | [],_=>rfl
 | p :: r,h=>by
  unfold get
  rw [if_neg (h p (by simp))]
  exact get_none λ q hq=>h q (by simp [hq])
structure MethIs (g:Gd) (c:Cl) (name:String) (f:Addr):Prop where
 a1:plainGet g.K c.addr (Str.ofString name)=true
 a2:findIn g.K (.ref c.addr) (Str.ofString name)=some (some (.ref f))
 a3:isFn g.K (.ref f)=true
 a4:name∉c.fields
 a5:Kp g (.ref f)
theorem RE_meth {name:String} {o:PySem.Expr} {ap pos:Pos} {es:List PySem.Expr} {ms:List (M AV)} {mo:M AV} {c:Cl} {f:Addr} {F:List AV→M AV} {dF:Nat} (hM:MethIs g c name f) (hF:Fn g dF (.ref f) F) (hd:dF≤d) (ho:RE g fr d sc Γ o mo) (ha:REs g fr d sc Γ es ms)
  (he: ∀ env,∃ pl,eval (.Call (.Attribute o (Str.ofString name) ap) es [] pos) env=(do
   let ov ← eval o env
   standAt ap.atName
   let (f,first) ← holding [ov] (getMethod ov (Str.ofString name) pl)
   callWith pos f first (backTo pos (starEach es env)) [])) :
  RE g fr d sc Γ (.Call (.Attribute o (Str.ofString name) ap) es [] pos) (bd mo λ o=>bd (chk o c) λ _=>bd (evs ms) λ as=>F (o :: as)):=by
 intro x hx hsc hfr μ adr s S b μ' e
 obtain ⟨ov,μ₁,e1,e2⟩:=bd_some e
 obtain ⟨u,μ₂,e2,e3⟩:=bd_some e2
 obtain ⟨rfl,i,fs,rfl,hi⟩:=chk_inv e2
 obtain ⟨plc,hpl⟩:=he x.env
 refine MethodCall_ (pl:=plc) (wpAny_mono (ho x hx hsc hfr μ adr s S _ _ e1) (λ vo s₁ ⟨adr₁,p1,S1,r1⟩=> ?_) λ _ _ z=>z) hpl
 have S1':=S1
 obtain ⟨cs,pl,m,Z⟩:=S1'
 cases r1
 rename_i ad had
 obtain ⟨ch,hc,hr⟩:=Z.chunk hi
 have had':=Z.adr_of hc had
 cases hr with
 | @inst ad' dx es' n _ _ h1 h2 h3 =>
 simp only [hd1] at had'
 subst had'
 have I:InstAt s₁.heap ad' (instObj c.addr dx) c.addr (some (dictOf es' n)):=InstAt.of_news Z.N (mem_flat hc (by simp)) (mem_flat hc (by simp))
 have hl:getL (Str.ofString name) es'=some none:=(getL_FR h1 name).2 (get_none λ p hp q=>hM.a4 (q ▸ h2 p hp))
 refine method_inst Z.F hx.kin I hM.a1 hM.a2 hM.a3 hl ?_
 refine wpAny_mono (callWith_does (first:=[.ref ad']) (F:=λ as=>F (.obj i :: as)) hx hsc hfr hM.a5 ha S1 (λ vs as μ₃ adr₃ s₃ p3 S₃ r=> ?_) b μ' e3) (λ v s₂ ⟨adr₂,p2,S2,r2⟩=>⟨adr₂,p1.trans p2,S2,r2⟩) λ _ _ z=>z
 exact (hF.weak hd).does hx S₃ (.cons (VR.pre p3 (.obj had)) r)
theorem chkL_inv {v:AV} {u:Unit} {μ μ':Mem} (e:chkL v μ=some (u,μ')):μ'=μ∧ ∃ i xs,v= .obj i∧μ[i]? =some (.list xs):=by
 cases v <;> try (cases e;done)
 rename_i i
 obtain ⟨o,μ₁,e1,e2⟩:=bd_some (show bd (rd i) _ μ=_ from e)
 obtain ⟨h1,rfl⟩:=rd_some e1
 cases o <;> try (cases e2;done)
 cases e2
 exact ⟨rfl,i,_,rfl,h1⟩
theorem chkD_inv {v:AV} {u:Unit} {μ μ':Mem} (e:chkD v μ=some (u,μ')):μ'=μ∧ ∃ i o,v= .obj i∧μ[i]? =some o∧((∃ l es,o= .dI l es)∨ ∃ l es,o= .dS l es):=by
 cases v <;> try (cases e;done)
 rename_i i
 obtain ⟨o,μ₁,e1,e2⟩:=bd_some (show bd (rd i) _ μ=_ from e)
 obtain ⟨h1,rfl⟩:=rd_some e1
 cases o <;> try (cases e2;done)
 ·cases e2;exact ⟨rfl,i,_,rfl,h1, .inl ⟨_,_,rfl⟩⟩
 ·cases e2;exact ⟨rfl,i,_,rfl,h1, .inr ⟨_,_,rfl⟩⟩
theorem list_method {i:Nat} {xs:List AV} {v:Value} {μ:Mem} {adr:List Addr} {s:Shared} {name:Str} {id:String} {pl:Sem Bool} {Q:Value × List Value→Shared→Prop} (hx:x.Ok g d) (S:St g x Γ μ adr s) (r:VR x.fd adr v (.obj i)) (h:μ[i]? =some (.list xs))
  (slot:Slot "list" name id) (hty:typeOf (.builtin id)=pure (.type "method_descriptor")) (hq:Q (.builtin id,[v]) s):wpAny (model g.prog g.w) x.A (getMethod v name pl) Q nof s:=by
 obtain ⟨cs,pl,m,Z⟩:=S
 obtain ⟨ad,vs,n,rfl,hc,q1,q2,L1⟩:=Z.listAt r h
 exact listMethod_K Z.N (mem1 hc) slot hty hq
theorem dict_method {i:Nat} {o:AO} {v:Value} {μ:Mem} {adr:List Addr} {s:Shared} {name:Str} {id:String} {pl:Sem Bool} {Q:Value × List Value→Shared→Prop} (hx:x.Ok g d) (S:St g x Γ μ adr s) (r:VR x.fd adr v (.obj i)) (h:μ[i]? =some o)
  (hdi:(∃ l es,o= .dI l es)∨ ∃ l es,o= .dS l es) (slot:Slot "dict" name id) (hty:typeOf (.builtin id)=pure (.type "method_descriptor")) (hq:Q (.builtin id,[v]) s):wpAny (model g.prog g.w) x.A (getMethod v name pl) Q nof s:=by
 obtain ⟨cs,pl,m,Z⟩:=S
 cases r
 rename_i ad had
 obtain ⟨ch,hc,hr⟩:=Z.chunk h
 have had':=Z.adr_of hc had
 rcases hdi with ⟨l,es,rfl⟩ | ⟨l,es,rfl⟩
 ·cases hr
  rename_i ad' o kvs q1 q3 q2 q4
  simp only [hd1] at had';subst had'
  have hD:=kda_dict Z.N (mem1 hc) q1
  exact getMethod_builtin hD.typeIs PySem.F.plainAttrs_dict slot hty hD.mapOf.noDict hq
 ·cases hr
  rename_i ad' o kvs q1 q3 q2 q4
  simp only [hd1] at had';subst had'
  have hD:=kda_dict Z.N (mem1 hc) q1
  exact getMethod_builtin hD.typeIs PySem.F.plainAttrs_dict slot hty hD.mapOf.noDict hq
abbrev MethEval (o:PySem.Expr) (name:String) (ap pos:Pos) (es:List PySem.Expr):Prop:= ∀ env,∃ pl,eval (.Call (.Attribute o (Str.ofString name) ap) es [] pos) env=(do
   let ov ← eval o env
   standAt ap.atName
   let (f,first) ← holding [ov] (getMethod ov (Str.ofString name) pl)
   callWith pos f first (backTo pos (starEach es env)) [])
theorem RE_append {o e:PySem.Expr} {ap pos:Pos} {mo m:M AV} (ho:RE g fr d sc Γ o mo) (h1:RE g fr d sc Γ e m) (he:MethEval o "append" ap pos [e]) (hst: ∀ env,starEach [e] env=[(false,eval e env)]:=by intro _;rfl) :
  RE g fr d sc Γ (.Call (.Attribute o (Str.ofString "append") ap) [e] [] pos) (bd mo λ o=>bd (chkL o) λ _=>bd m λ a=>appL o a):=by
 intro x hx hsc hfr μ adr s S b μ' eq
 obtain ⟨ov,μ₁,e1,e2⟩:=bd_some eq
 obtain ⟨u,μ₂,e2,e3⟩:=bd_some e2
 obtain ⟨rfl,i,xs,rfl,hi⟩:=chkL_inv e2
 obtain ⟨plc,hpl⟩:=he x.env
 refine MethodCall_ (pl:=plc) (wpAny_mono (ho x hx hsc hfr μ adr s S _ _ e1) (λ vo s₁ ⟨adr₁,p1,S1,r1⟩=> ?_) λ _ _ z=>z) hpl
 refine list_method hx S1 r1 hi PySem.F.slot_list_append PySem.F.type_list_append ?_
 have e3':bd (evs [m]) (λ as=>match as with | [a]=>appL (.obj i) a | _=>fl) μ₂=some (b,μ'):=by rw [evs1];exact e3
 refine wpAny_mono (callWith_does (first:=[vo]) hx hsc hfr Kp.builtin (REs_cons h1 REs_nil (by intro env;rw [hst];rfl)) S1 (λ vs as μ₃ adr₃ s₃ p3 S₃ r=> ?_) b μ' e3') (λ v s₂ ⟨adr₂,p2,S2,r2⟩=>⟨adr₂,p1.trans p2,S2,r2⟩) λ _ _ z=>z
 cases r with
 | nil=>intro b μ' e;cases e
 | cons q1 q2 =>
  cases q2 with
  | nil=>exact appL_does hx S₃ (r1.pre p3) q1
  | cons _ _=>intro b μ' e;cases e
theorem RE_pop0 {o:PySem.Expr} {k:Nat} {ap pos cp:Pos} {mo:M AV} (ho:RE g fr d sc Γ o mo) (he:MethEval o "pop" ap pos [.Constant (.int 0) k cp]) :
  RE g fr d sc Γ (.Call (.Attribute o (Str.ofString "pop") ap) [.Constant (.int 0) k cp] [] pos) (bd mo λ o=>bd (chkL o) λ _=>popL o):=by
 intro x hx hsc hfr μ adr s S b μ' eq
 obtain ⟨ov,μ₁,e1,e2⟩:=bd_some eq
 obtain ⟨u,μ₂,e2,e3⟩:=bd_some e2
 obtain ⟨rfl,i,xs,rfl,hi⟩:=chkL_inv e2
 obtain ⟨plc,hpl⟩:=he x.env
 refine MethodCall_ (pl:=plc) (wpAny_mono (ho x hx hsc hfr μ adr s S _ _ e1) (λ vo s₁ ⟨adr₁,p1,S1,r1⟩=> ?_) λ _ _ z=>z) hpl
 refine list_method hx S1 r1 hi PySem.F.slot_list_pop PySem.F.type_list_pop ?_
 have h1:RE g fr d sc Γ (.Constant (.int 0) k cp) (rt (.int 0)):=RE_int
 have e3':bd (evs [rt (.int 0)]) (λ as=>if as=[.int 0] then popL (.obj i) else fl) μ₂=some (b,μ'):=by rw [evs1];exact e3
 refine wpAny_mono (callWith_does (first:=[vo]) hx hsc hfr Kp.builtin (REs_cons h1 REs_nil (by intro env;rfl)) S1 (λ vs as μ₃ adr₃ s₃ p3 S₃ r=> ?_) b μ' e3') (λ v s₂ ⟨adr₂,p2,S2,r2⟩=>⟨adr₂,p1.trans p2,S2,r2⟩) λ _ _ z=>z
 intro b μ' e
 by_cases has:as=[.int 0]
 ·rw [if_pos has] at e
  subst has
  cases r with
  | cons q1 q2 =>
   cases q2
   cases q1
   exact popL_does hx S₃ (r1.pre p3) b μ' e
 ·rw [if_neg has] at e;cases e
theorem RE_dmeth1 {name id:String} {o e:PySem.Expr} {ap pos:Pos} {mo m:M AV} {mop:AV→AV→M AV} (slot:Slot "dict" (Str.ofString name) id) (hty:typeOf (.builtin id)=pure (.type "method_descriptor"))
  (hF: ∀ (x:Cx) (d:Nat) (Γ:Cx0),x.Ok g d→ ∀ va vb a b μ adr s,St g x Γ μ adr s→VR x.fd adr va a→VR x.fd adr vb b→Does g x Γ (VR x.fd) (call (.builtin id) [va,vb]) (mop a b) μ adr s)
  (ho:RE g fr d sc Γ o mo) (h1:RE g fr d sc Γ e m) (he:MethEval o name ap pos [e]) (hst: ∀ env,starEach [e] env=[(false,eval e env)]:=by intro _;rfl) :
  RE g fr d sc Γ (.Call (.Attribute o (Str.ofString name) ap) [e] [] pos) (bd mo λ o=>bd (chkD o) λ _=>bd m λ a=>mop o a):=by
 intro x hx hsc hfr μ adr s S b μ' eq
 obtain ⟨ov,μ₁,e1,e2⟩:=bd_some eq
 obtain ⟨u,μ₂,e2,e3⟩:=bd_some e2
 obtain ⟨rfl,i,oo,rfl,hi,hdi⟩:=chkD_inv e2
 obtain ⟨plc,hpl⟩:=he x.env
 refine MethodCall_ (pl:=plc) (wpAny_mono (ho x hx hsc hfr μ adr s S _ _ e1) (λ vo s₁ ⟨adr₁,p1,S1,r1⟩=> ?_) λ _ _ z=>z) hpl
 refine dict_method hx S1 r1 hi hdi slot hty ?_
 have e3':bd (evs [m]) (λ as=>match as with | [a]=>mop (.obj i) a | _=>fl) μ₂=some (b,μ'):=by rw [evs1];exact e3
 refine wpAny_mono (callWith_does (first:=[vo]) hx hsc hfr Kp.builtin (REs_cons h1 REs_nil (by intro env;rw [hst];rfl)) S1 (λ vs as μ₃ adr₃ s₃ p3 S₃ r=> ?_) b μ' e3') (λ v s₂ ⟨adr₂,p2,S2,r2⟩=>⟨adr₂,p1.trans p2,S2,r2⟩) λ _ _ z=>z
 cases r with
 | nil=>intro b μ' e;cases e
 | cons q1 q2 =>
  cases q2 with
  | nil=>exact hF x d Γ hx _ _ _ _ _ _ _ S₃ (r1.pre p3) q1
  | cons _ _=>intro b μ' e;cases e
theorem RE_dmeth2 {name id:String} {o e f:PySem.Expr} {ap pos:Pos} {mo m n:M AV} {mop:AV→AV→AV→M AV} (slot:Slot "dict" (Str.ofString name) id) (hty:typeOf (.builtin id)=pure (.type "method_descriptor"))
  (hF: ∀ (x:Cx) (d:Nat) (Γ:Cx0),x.Ok g d→ ∀ va vb vc a b c μ adr s,St g x Γ μ adr s→VR x.fd adr va a→VR x.fd adr vb b→VR x.fd adr vc c→Does g x Γ (VR x.fd) (call (.builtin id) [va,vb,vc]) (mop a b c) μ adr s)
  (ho:RE g fr d sc Γ o mo) (h1:RE g fr d sc Γ e m) (h2:RE g fr d sc Γ f n) (he:MethEval o name ap pos [e,f]) (hst: ∀ env,starEach [e,f] env=[(false,eval e env),(false,eval f env)]:=by intro _;rfl) (hst': ∀ env,starEach [f] env=[(false,eval f env)]:=by intro _;rfl) :
  RE g fr d sc Γ (.Call (.Attribute o (Str.ofString name) ap) [e,f] [] pos) (bd mo λ o=>bd (chkD o) λ _=>bd m λ a=>bd n λ b=>mop o a b):=by
 intro x hx hsc hfr μ adr s S b μ' eq
 obtain ⟨ov,μ₁,e1,e2⟩:=bd_some eq
 obtain ⟨u,μ₂,e2,e3⟩:=bd_some e2
 obtain ⟨rfl,i,oo,rfl,hi,hdi⟩:=chkD_inv e2
 obtain ⟨plc,hpl⟩:=he x.env
 refine MethodCall_ (pl:=plc) (wpAny_mono (ho x hx hsc hfr μ adr s S _ _ e1) (λ vo s₁ ⟨adr₁,p1,S1,r1⟩=> ?_) λ _ _ z=>z) hpl
 refine dict_method hx S1 r1 hi hdi slot hty ?_
 have e3':bd (evs [m,n]) (λ as=>match as with | [a,b]=>mop (.obj i) a b | _=>fl) μ₂=some (b,μ'):=by rw [evs2];exact e3
 refine wpAny_mono (callWith_does (first:=[vo]) hx hsc hfr Kp.builtin (REs_cons h1 (REs_cons h2 REs_nil (by intro env;rw [hst'];rfl)) (by intro env;rw [hst,hst'])) S1 (λ vs as μ₃ adr₃ s₃ p3 S₃ r=> ?_) b μ' e3') (λ v s₂ ⟨adr₂,p2,S2,r2⟩=>⟨adr₂,p1.trans p2,S2,r2⟩) λ _ _ z=>z
 cases r with
 | nil=>intro b μ' e;cases e
 | cons q1 q2 =>
  cases q2 with
  | nil=>intro b μ' e;cases e
  | cons q2 q3 =>
   cases q3 with
   | nil=>exact hF x d Γ hx _ _ _ _ _ _ _ _ _ S₃ (r1.pre p3) q1 q2
   | cons _ _=>intro b μ' e;cases e
end
section
variable {g:Gd} {x:Cx} {Γ Γ' Γc:Cx0} {d:Nat} {fr z:Bool} {sc:Scope}
theorem VarV.move {x x':Cx} {m:Str→Option Value} {pl:Led} {n:Str} {k:NameKind} {v:Value} (he:x'.env=x.env) (hL:x'.L=x.L) (h0:x'.h₀=x.h₀) (h:VarV x m pl n k v):VarV x' m pl n k v:=by
 cases h with
 | loc b1 b2=>exact .loc (by rw [he,hL];exact b1) b2
 | cloc b1 b2 b3 b4=>exact .cloc (by rw [he];exact b1) b2 b3 b4
 | cell b1 b2 b3=>exact .cell (by rw [he];exact b1) (by rw [h0];exact b2) b3
 | free b1 b2 b3=>exact .free (by rw [he];exact b1) (by rw [h0];exact b2) b3
theorem StE.move {x x':Cx} {μ:Mem} {adr:List Addr} {s:Shared} {cs:List Led} {pl:Led} {m:Str→Option Value} (he:x'.env=x.env) (hL:x'.L=x.L) (h0:x'.h₀=x.h₀) (hfd:x'.fd=x.fd) (hs0:x'.s0=x.s0) (hfa:x'.fact=x.fact) (hkm:x'.km=x.km)
  (S:StE g x Γ μ adr s cs pl m) (hn: ∀ p∈x'.need,x.h₀.get? p.1=some p.2∨p∈pl) (hl: ∀ p∈x'.lks,cs[p.1]? =some p.2∧ ∃ o,μ[p.1]? =some o∧o.locked=true):StE g x' Γ μ adr s cs pl m :=
 ⟨by rw [h0,hL];exact S.F,by rw [h0,hL];exact S.N,S.nd,S.ha,by rw [hfd];exact S.C,λ i av e=>let ⟨n,k,v,a1,a2,a3⟩:=S.V i av e;⟨n,k,v,by rw [he];exact a1,a2.move he hL h0,by rw [hfd];exact a3⟩,
  by rw [hs0];exact S.gens,by rw [hs0];exact S.drawn,by rw [hs0];exact S.os,by rw [h0];exact hn,by rw [hfa];exact S.fa,hl,by rw [he];exact S.cl,by rw [hkm];exact S.km⟩
theorem St.reA {A:Around} {μ:Mem} {adr:List Addr} {s:Shared} (S:St g x Γ μ adr s):St g {x with A:=A} Γ μ adr s:=let ⟨cs,pl,m,Z⟩:=S;⟨cs,pl,m,StE.move (x:=x) (x':= {x with A:=A}) rfl rfl rfl rfl rfl rfl rfl Z Z.ex Z.lk⟩
theorem St.unA {A:Around} {μ:Mem} {adr:List Addr} {s:Shared} (S:St g {x with A:=A} Γ μ adr s):St g x Γ μ adr s:=let ⟨cs,pl,m,Z⟩:=S;⟨cs,pl,m,StE.move (x:= {x with A:=A}) (x':=x) rfl rfl rfl rfl rfl rfl rfl Z Z.ex Z.lk⟩
structure ClsIs (g:Gd) (c:Cl) (fI:Addr):Prop where
 a1:makesIn g.K c.addr=true
 a2:findIn g.K (.ref c.addr) "__init__" =some (some (.ref fI))
 a3:isFn g.K (.ref fI)=true
 a4:Kp g (.ref c.addr)
theorem new_Fn {c:Cl} {fI:Addr} {F:List AV→M AV} (hC:ClsIs g c fI) (hF:Fn g d (.ref fI) F):Fn g (d+1) (.ref c.addr) (λ as=>new c λ o=>F (o :: as)):=by
 intro x Γ hx μ adr s vs as R S r b μ' e hR
 obtain ⟨o,μ₁,e1,e2⟩:=bd_some (show bd (al (.inst c [])) _ μ=_ from e)
 obtain ⟨rfl,rfl⟩:=al_inv e1
 obtain ⟨rv,μ₂,e2,e3⟩:=bd_some e2
 split at e3
 case isFalse=>cases e3
 rename_i hrv
 subst hrv
 cases e3
 obtain ⟨cs,pl,m,S⟩:=S
 have X:g.K.In s.heap:=hx.kin.keeps S.F.keep
 refine make_K S.F S.N X hC.a1 hC.a2 (beq_iff_eq.mp hC.a3) λ x₀ dx h' F' N' lt lt'=> ?_
 have Z:=S.new (s':= {s with heap:=h'}) (c:=[(x₀,instObj c.addr dx),(dx,emptyDict)]) (o:= .inst c []) (λ adr' p=>hx.mono _ _ p) (.inst (es:=[]) (n:=0) .nil (by simp) (by simp)) F' N'
  (by simp only [List.map_cons,List.map_nil,List.nodup_cons,List.mem_singleton,List.not_mem_nil,not_false_eq_true,List.nodup_nil,and_true];exact Nat.ne_of_gt lt') (λ p hp q hq=>by
   have hlt:=lt q hq
   simp only [List.mem_cons,List.not_mem_nil,or_false] at hp
   rcases hp with rfl | rfl
   ·exact Nat.ne_of_lt (Nat.lt_trans hlt lt')
   ·exact Nat.ne_of_lt hlt)
 have x1:({x with A:=x.A.under (.builtin "type.__call__" ⟨.ref c.addr :: vs,[]⟩)}:Cx).Ok g d:=by
  have hd:(x.A.under (.builtin "type.__call__" ⟨.ref c.addr :: vs,[]⟩)).depth=x.A.depth+1:=rfl
  have hu:(x.A.under (.builtin "type.__call__" ⟨.ref c.addr :: vs,[]⟩)).units=x.A.units+1:=rfl
  have hf:(x.A.under (.builtin "type.__call__" ⟨.ref c.addr :: vs,[]⟩)).frames=x.A.frames:=rfl
  have hh:(x.A.under (.builtin "type.__call__" ⟨.ref c.addr :: vs,[]⟩)).handled=x.A.handled:=rfl
  exact {hx with frames:=hf.trans hx.frames,hnd:=hh.trans hx.hnd,dep:=by (show (x.A.under _).depth+d < _);rw [hd];have:=hx.dep;omega,un:=by (show (x.A.under _).units+16 * d+100 < _);rw [hu];have:=hx.un;omega}
 refine hF _ Γ x1 _ _ _ (.ref x₀ :: vs) (.obj μ.length :: as) _ (St.reA ⟨_,_,_,Z⟩) (.cons (.last S.ladr) (r.mono λ _ _=>VR.pre ⟨_,rfl⟩)) .none μ' e2 λ v s' z=> ?_
 obtain ⟨adr',p,S',rv⟩:=z
 cases rv
 exact ⟨rfl,hR _ _ ⟨adr',List.IsPrefix.trans ⟨_,rfl⟩ p,S'.unA,VR.pre p (.last S.ladr)⟩⟩
theorem RE_clsm {n:Str} {name:String} {np ap pos:Pos} {es:List PySem.Expr} {ms:List (M AV)} {C f:Addr} {mc:Value} {F:List AV→M AV} {dF:Nat} (hn:NameIs g sc n (.ref C)) (h1:specialIn g.K (.ref C) "__getattribute__" =some (some (.builtin "type.__getattribute__")))
  (h2:typeIn g.K (.ref C)=some mc) (h3:readsIn g.K C mc=true) (h4:findCls g.K (.ref C) mc (Str.ofString name)=some (.val (.ref f))) (h5:Kp g (.ref f)) (hF:Fn g dF (.ref f) F) (hd:dF≤d) (ha:REs g fr d sc Γ es ms) (he:MethEval (.Name n np) name ap pos es) :
  RE g fr d sc Γ (.Call (.Attribute (.Name n np) (Str.ofString name) ap) es [] pos) (bd (evs ms) F):=by
 intro x hx hsc hfr μ adr s S b μ' e
 obtain ⟨plc,hpl⟩:=he x.env
 refine MethodCall_ (pl:=plc) (hn x d hx hsc Γ μ adr s np _ S ?_) hpl
 obtain ⟨cs,pl,m,Z⟩:=id S
 refine method_of_cls Z.F hx.kin h1 (cls_val Z.F hx.kin h2 h3 h4 rfl ?_)
 exact callWith_does (first:=[]) hx hsc hfr h5 ha S.toks (λ vs as μ₁ adr₁ s₁ _ S₁ r=>(hF.weak hd).does hx S₁ r) b μ' e
end
section
variable {g:Gd} {x:Cx} {Γ Γ' Γc:Cx0} {d:Nat} {fr z:Bool} {sc:Scope}
theorem Ok_need (hf:Facts g) (hx:x.Ok g d) {nd:Led} {lks:List (Nat × Led)} (h1: ∀ p∈x.need,p∈nd) (h2: ∀ p∈nd,p∈x.need∨ ∀ n c,x.env.scope.names.lookup n=some .cell→x.env.cells.lookup n=some c→p.1≠c):({x with need:=nd,lks:=lks}:Cx).Ok g d :=
 {hx with co:=hf.com _ _ _ _ h1 hx.co,cz:=λ hz p hp n c hn hc=>(h2 p hp).elim (λ h=>hx.cz hz p h n c hn hc) λ h=>h n c hn hc}
theorem StE.priv {μ:Mem} {adr:List Addr} {s:Shared} {cs:List Led} {pl:Led} {m:Str→Option Value} (S:StE g x Γ μ adr s cs pl m) (o:Obj) {lks:List (Nat × Led)} (ho:o.isFreed=false:=by rfl) (hl: ∀ p∈lks,cs[p.1]? =some p.2∧ ∃ o,μ[p.1]? =some o∧o.locked=true) :
  StE g {x with need:=(s.heap.objs.size,o) :: x.need,lks:=lks} Γ μ adr {s with heap:=s.heap.push o} cs ((s.heap.objs.size,o) :: pl) m:=by
 refine ⟨S.F.push o,?_,?_,S.ha,S.C,λ i av e=> ?_,S.gens,S.drawn,S.os,λ p hp=> ?_,S.fa,hl,λ n c hn hc=> ?_,S.km⟩
 ·have N':=News.push S.F S.N o ho
  intro p hp
  refine N' p ?_
  simp only [List.mem_append,List.mem_cons] at hp ⊢
  rcases hp with h | h | h
  ·exact .inr (.inl h)
  ·exact .inl h
  ·exact .inr (.inr h)
 ·have z:(((s.heap.objs.size,o) :: (cs.flatten ++ pl)).map (·.1)).Nodup:=by
   simp only [List.map_cons,List.nodup_cons]
   refine ⟨λ q=> ?_,S.nd⟩
   obtain ⟨p,hp,e⟩:=List.mem_map.mp q
   have:=S.lt p hp
   rw [e] at this
   exact Nat.lt_irrefl _ this
  have pm:(cs.flatten ++ (s.heap.objs.size,o) :: pl).Perm ((s.heap.objs.size,o) :: (cs.flatten ++ pl)):=List.perm_middle
  exact (pm.map (·.1)).nodup_iff.mpr z
 ·obtain ⟨n,k,v,a1,a2,a3⟩:=S.V i av e
  refine ⟨n,k,v,a1,?_,a3⟩
  cases a2 with
  | loc b1 b2=>exact .loc b1 b2
  | cloc b1 b2 b3 b4=>exact .cloc (.tail _ b1) b2 b3 b4
  | cell b1 b2 b3=>exact .cell b1 (b2.imp id λ h=> .tail _ h) b3
  | free b1 b2 b3=>exact .free b1 (b2.imp id λ h=> .tail _ h) b3
 ·rcases List.mem_cons.mp hp with rfl | hp
  ·exact .inr (.head _)
  ·exact (S.ex p hp).imp id λ h=> .tail _ h
 ·obtain ⟨o',v₀,h1,h2⟩:=S.cl n c hn hc
  exact ⟨o',v₀, .tail _ h1,h2⟩
theorem Ns_keep {h h':Heap} {L:Addr} {m:Str→Option Value} (n:h.Ns L m) (e: ∀ o,h.get? L=some o→h'.get? L=some o):h'.Ns L m:=let ⟨o,es,ep,x,r⟩:=n;⟨o,es,ep,e _ x,r⟩
theorem StE.swap {μ:Mem} {adr:List Addr} {s:Shared} {cs:List Led} {p1 p2 r:Led} {m:Str→Option Value} {I:Addr} {oI:Obj} {h':Heap} {tk:Tok} {nd:Led} (S:StE g x Γ μ adr s cs (p1 ++ (I,oI) :: p2) m)
  (hr:r=[]∨ ∃ o',r=[(I,o')]∧h'.get? I=some o') (hs:Heap.ExtBut I s.heap h') (hd: ∀ v,oI.data≠ .cell v) (hl:x.env.locals≠I∨ ∀ (i:Nat) (av:AV),Γ[i]? =some (some av)→ ∀ n:Str,x.env.scope.names[i]? ≠some (n,NameKind.local)) (hn: ∀ p∈nd,p∈r∨(p∈x.need∧p.1≠I)) :
  StE g {x with need:=nd} Γ μ adr {s with heap:=h',toks:=tk} cs (p1 ++ (r ++ p2)) m:=by
 have N:=S.N
 have nd:=S.nd
 rw [flat_pl] at N nd
 obtain ⟨n1,n2⟩:=nd_split nd
 have hmm:=N (I,oI) (by simp)
 have key: ∀ q,q∈p1 ++ (I,oI) :: p2→q.1≠I→q∈p1 ++ (r ++ p2):=λ q hq hne=>by
  rcases List.mem_append.mp hq with h | h
  ·exact List.mem_append_left _ h
  ·rcases List.mem_cons.mp h with h | h
   ·exact absurd (by rw [h]) hne
   ·exact List.mem_append_right _ (List.mem_append_right _ h)
 have same: ∀ q:Obj,(I,q)∈p1 ++ (I,oI) :: p2→q=oI:=λ q hq=>by
  have h1:=(S.N (I,q) (List.mem_append_right _ hq)).1
  rw [hmm.1] at h1;exact (Option.some.inj h1).symm
 have noc: ∀ c (o:Obj) v,(c,o)∈p1 ++ (I,oI) :: p2→o.data= .cell v→c≠I:=λ c o v hm hdd q=>by
  subst q;rw [same _ hm] at hdd;exact hd v hdd
 have rI: ∀ q∈r,q.1=I∧h'.get? q.1=some q.2:=λ q hq=>by
  rcases hr with rfl | ⟨o',rfl,ho'⟩
  ·simp at hq
  ·rw [List.mem_singleton.mp hq];exact ⟨rfl,ho'⟩
 refine ⟨⟨Ns_keep S.F.ns λ o e=>hs _ _ (λ q=>hmm.2.1 q.symm) e,λ b o e=>hs b o (λ q=>by rw [q,hmm.2.2] at e;cases e) (S.F.keep b o e),S.F.above⟩,?_,?_,S.ha,S.C,λ i av e=> ?_,S.gens,S.drawn,S.os,λ p hp=> ?_,S.fa,S.lk,λ n c hn hc=> ?_,S.km⟩
 ·intro p hp
  have cases':p∈r∨(p∈cs.flatten ++ p1∨p∈p2):=by
   simp only [List.mem_append] at hp ⊢
   rcases hp with h | h | h | h
   ·exact .inr (.inl (.inl h))
   ·exact .inr (.inl (.inr h))
   ·exact .inl h
   ·exact .inr (.inr h)
  rcases cases' with h | h | h
  ·obtain ⟨e1,e2⟩:=rI p h
   exact ⟨e2,e1 ▸ hmm.2.1,e1 ▸ hmm.2.2⟩
  ·have q:=N p (List.mem_append_left _ h)
   exact ⟨hs _ _ (n1 p h) q.1,q.2⟩
  ·have q:=N p (List.mem_append_right _ (.tail _ h))
   exact ⟨hs _ _ (n2 p h) q.1,q.2⟩
 ·rcases hr with rfl | ⟨o',rfl,_⟩
  ·have:=S.nd
   refine List.Sublist.nodup (List.Sublist.map _ ?_) this
   simp
  ·have:=S.nd;simpa using this
 ·obtain ⟨n,k,v,a1,a2,a3⟩:=S.V i av e
  refine ⟨n,k,v,a1,?_,a3⟩
  cases a2 with
  | loc b1 b2=>exact .loc b1 b2
  | cloc b1 b2 b3 b4=>exact .cloc (key _ b1 (hl.elim id λ h=>absurd a1 (h i av e n))) b2 b3 b4
  | cell b1 b2 b3=>exact .cell b1 (b2.imp id λ h=>key _ h (noc _ _ _ h b3)) b3
  | free b1 b2 b3=>exact .free b1 (b2.imp id λ h=>key _ h (noc _ _ _ h b3)) b3
 ·rcases hn p hp with h | ⟨h,hne⟩
  ·exact .inr (List.mem_append_right _ (List.mem_append_left _ h))
  ·exact (S.ex p h).imp id λ h=>key _ h hne
 ·obtain ⟨o',v₀,h1,h2⟩:=S.cl n c hn hc
  exact ⟨o',v₀,key _ h1 (noc _ _ _ h1 h2),h2⟩
structure Steps (g:Gd) (x:Cx) (adr₀:List Addr) (I:Addr) (items:List AV) (ck:M Unit) (Jt:Nat→Obj→Prop):Prop where
 ckp: ∀ μ u μ',ck μ=some (u,μ')→μ'=μ
 item: ∀ (x':Cx) (_:x'.fd=x.fd) (_:x'.lks=x.lks) Γ j μ adr s cs pl m oI,StE g x' Γ μ adr s cs pl m→adr₀ <+: adr→(I,oI)∈pl→Jt j oI→ck μ=some ((),μ)→ ∀ a,items[j]? =some a→ ∀ Q:Option Value→Shared→Prop,
  (∀ v h' oI' tk,VR x.fd adr v a→Jt (j+1) oI'→h'.get? I=some oI'→Heap.ExtBut I s.heap h'→Q (some v) {s with heap:=h',toks:=tk})→wpAny (model g.prog g.w) x.A (pyNext (.ref I)) Q nof s
 done: ∀ (x':Cx) (_:x'.fd=x.fd) (_:x'.lks=x.lks) Γ j μ adr s cs pl m oI,StE g x' Γ μ adr s cs pl m→adr₀ <+: adr→(I,oI)∈pl→Jt j oI→ck μ=some ((),μ)→items[j]? =none→ ∀ Q:Option Value→Shared→Prop,
  (∀ h' tk,Heap.ExtBut I s.heap h'→Q none {s with heap:=h',toks:=tk})→wpAny (model g.prog g.w) x.A (pyNext (.ref I)) Q nof s
 dat: ∀ j o,Jt j o→ ∀ v,o.data≠ .cell v
 self: ∀ (s:Shared) j oI,s.heap.get? I=some oI→Jt j oI→ ∀ (Q:Value→Shared→Prop) (E:Value→Shared→Prop),Q (.ref I) s→wpAny (model g.prog g.w) x.A (pyIter (.ref I)) Q E s
theorem ck_unit {ck:M Unit} {μ:Mem} {u:Unit} {μ':Mem} (hc: ∀ μ u μ',ck μ=some (u,μ')→μ'=μ) (e:ck μ=some (u,μ')):ck μ=some ((),μ):=by
 have:=hc _ _ _ e;subst this;exact e
theorem ends_nof {α:Type} {M:Model} {A:Around} {t:Sem α} {Q:α→Shared→Prop} {E:Value→Shared→Prop} {s:Shared} (h:wpAny M A t Q nof s):wpAny M A t Q E s:=wpAny_mono h (λ _ _ z=>z) λ _ _ z=>z.elim
theorem loop_run (hf:Facts g) (hx:x.Ok g d) (hsc:x.env.scope=sc) (hfr:x.env=x.fenv) (hz:x.fz=z) {ρ:Type} {G:ρ→Cx0} {n:Str} {i:Nat} {px:Pos} {body:List Stmt} {bodyM:ρ→AV→M (Fl ρ)} {I:Addr} {items:List AV} {ck:M Unit} {Jt:Nat→Obj→Prop} {b:Fl ρ} {μ':Mem} {adr₀:List Addr} {s₀:Shared} {R:Result→Shared→Prop}
  (hst:Steps g x adr₀ I items ck Jt) (hI0:x.h₀.get? I=none) (hIL:x.L≠I) (hIn: ∀ p∈x.need,p.1≠I) (hIc: ∀ n c,x.env.scope.names.lookup n=some .cell→x.env.cells.lookup n=some c→I≠c) (hn:Stores z sc i n)
  (hb: ∀ r v,RS g z d sc ((G r).set i (some v)) (G r) G body (bodyM r v))
  (hR: ∀ fl s',(∃ adr',adr₀ <+: adr'∧(match b with
   | .nxt r=>fl= .next∧ ∃ cs pl m,StE g x (G r) μ' adr' s' cs pl m
   | .cnt=>False
   | .ret v=> ∃ vv,fl= .ret vv∧VR x.fd adr' vv v∧ ∃ cs pl m,StE g x [] μ' adr' s' cs pl m))→R (.ok fl) s')
  {r₀:ρ} {μ₀:Mem} {cs₀:List Led} {pl₀:Led} {m₀:Str→Option Value} {o₀:Obj} (S₀:StE g {x with need:=(I,o₀) :: x.need} (G r₀) μ₀ adr₀ s₀ cs₀ pl₀ m₀) (hJ:Jt 0 o₀) (e₀:goG ck bodyM items r₀ μ₀=some (b,μ')) :
  codeAny (model g.prog g.w) x.A (.forLoop (.Name n px) (.ref I) body [] x.env) R s₀:=by
 have okx: ∀ o,({x with need:=(I,o) :: x.need}:Cx).Ok g d:=λ o=>Ok_need hf hx (λ p hp=> .tail _ hp) λ p hp=>by
  rcases List.mem_cons.mp hp with rfl | hp
  ·exact .inr hIc
  ·exact .inl hp
 have hloc:x.env.locals≠I:=by rw [hfr];exact (show x.fenv.locals=x.L from hx.floc) ▸ hIL
 refine codeAny_forLoop (λ k s'=> ∃ j r μ adr' cs pl m oI,k=items.length - j∧adr₀ <+: adr'∧StE g {x with need:=(I,oI) :: x.need} (G r) μ adr' s' cs pl m∧Jt j oI∧goG ck bodyM (items.drop j) r μ=some (b,μ'))
  (λ k s' hk=> ?_) (items.length - 0) ⟨0,r₀,μ₀,adr₀,cs₀,pl₀,m₀,o₀,rfl,List.prefix_refl _,S₀,hJ,by simpa using e₀⟩
 obtain ⟨j,r,μ,adr',cs,pl,m,oI,rfl,pa,S,hJ,e⟩:=hk
 have hmem:(I,oI)∈pl:=(S.ex (I,oI) (.head _)).resolve_left λ q=>by rw [show x.h₀.get? I=none from hI0] at q;cases q
 obtain ⟨p1,p2,rfl⟩:=List.append_of_mem hmem
 cases hit:items[j]? with
 | none =>
  have hdr:items.drop j=[]:=List.drop_eq_nil_of_le (List.getElem?_eq_none_iff.mp hit)
  rw [hdr] at e
  obtain ⟨u,μ₁,e1,e2⟩:=bd_some (show bd ck _ μ=_ from e)
  have hck:=ck_unit hst.ckp e1
  have:=hst.ckp _ _ _ e1
  subst this
  cases e2
  refine ends_nof (hst.done {x with need:=(I,oI) :: x.need} rfl rfl _ j _ adr' s' cs _ m oI S pa hmem hJ hck hit _ λ h' tk he=> ?_)
  refine ends_nof (wpAny_execs_nil (hR _ _ ⟨adr',pa,rfl,?_⟩))
  exact ⟨cs,_,m,StE.swap (x:= {x with need:=(I,oI) :: x.need}) (nd:=x.need) S (.inl rfl) he (hst.dat _ _ hJ) (.inl hloc) λ p hp=> .inr ⟨.tail _ hp,hIn p hp⟩⟩
 | some a =>
  have hjl:j < items.length:=(List.getElem?_eq_some_iff.mp hit).1
  have hdr:items.drop j=a :: items.drop (j+1):=by
   rw [List.drop_eq_getElem_cons hjl]
   rw [(List.getElem?_eq_some_iff.mp hit).2]
  rw [hdr] at e
  obtain ⟨u,μ₁,e1,e2⟩:=bd_some (show bd ck _ μ=_ from e)
  have hck:=ck_unit hst.ckp e1
  have:=hst.ckp _ _ _ e1
  subst this
  obtain ⟨fl,μ₂,e2,e3⟩:=bd_some e2
  refine ends_nof (hst.item {x with need:=(I,oI) :: x.need} rfl rfl _ j _ adr' s' cs _ m oI S pa hmem hJ hck a hit _ λ v h' oI' tk hv hJ' hg he=> ?_)
  have S1:=StE.swap (x:= {x with need:=(I,oI) :: x.need}) (r:=[(I,oI')]) (tk:=tk) (nd:=(I,oI') :: x.need) S (.inr ⟨oI',rfl,hg⟩) he (hst.dat _ _ hJ) (.inl hloc) λ p hp=>by
   rcases List.mem_cons.mp hp with rfl | hp
   ·exact .inl (by simp)
   ·exact .inr ⟨.tail _ hp,hIn p hp⟩
  have St1:St g ({x with need:=(I,oI') :: x.need}:Cx) (G r) μ₁ adr' {s' with heap:=h',toks:=tk}:=⟨_,_,_,S1⟩
  refine ends_nof (wpAny_assign_Name (wpAny_mono (store_name (x:= {x with need:=(I,oI') :: x.need}) (okx oI') hsc hfr hz hn St1 hv) (λ _ s₂ S2=> ?_) λ _ _ z=>z))
  refine ends_nof (wpAny_mono (hb r a _ (okx oI') hsc hfr hz μ₁ adr' s₂ S2 fl μ₂ e2) (λ fl' s₃ z=> ?_) λ _ _ z=>z)
  obtain ⟨adr₃,p3,z⟩:=z
  cases fl with
  | nxt r' =>
   obtain ⟨rfl,cs3,pl3,m3,S3⟩:=z
   exact ⟨items.length - (j+1),by omega,j+1,r',μ₂,adr₃,cs3,pl3,m3,oI',rfl,pa.trans p3,S3,hJ',e3⟩
  | cnt =>
   obtain ⟨rfl,cs3,pl3,m3,S3⟩:=z
   exact ⟨items.length - (j+1),by omega,j+1,r,μ₂,adr₃,cs3,pl3,m3,oI',rfl,pa.trans p3,S3,hJ',e3⟩
  | ret vv =>
   obtain ⟨w,rfl,hw,cs3,pl3,m3,S3⟩:=z
   cases e3
   refine hR _ _ ⟨adr₃,pa.trans p3,w,rfl,hw,cs3,pl3,m3,?_⟩
   exact StE.move (x:= {x with need:=(I,oI') :: x.need}) (x':=x) rfl rfl rfl rfl rfl rfl rfl S3 (λ p hp=>S3.ex p (.tail _ hp)) S3.lk
end
section
variable {g:Gd} {x:Cx} {Γ Γ' Γc:Cx0} {d:Nat} {fr z:Bool} {sc:Scope}
theorem ckO_inv {i:Nat} {o:AO} {μ μ':Mem} {u:Unit} (e:ckO i o μ=some (u,μ')):μ[i]? =some o∧μ'=μ:=by
 obtain ⟨p,μ₁,e1,e2⟩:=bd_some (show bd (rd i) _ μ=_ from e)
 obtain ⟨h1,rfl⟩:=rd_some e1
 split at e2
 ·rename_i h;subst h;cases e2;exact ⟨h1,rfl⟩
 ·cases e2
def ListIt (ad:Addr) (j:Nat) (o:Obj):Prop:=o.cls= .type "list_iterator" ∧o.data= .fields #[.ref ad, .int j 0]
theorem prefix_get {adr₀ adr:List Addr} {i:Nat} {ad:Addr} (p:adr₀ <+: adr) (h:adr₀[i]? =some ad):adr[i]? =some ad:=by
 obtain ⟨m,rfl⟩:=p
 rw [List.getElem?_append_left (List.getElem?_eq_some_iff.mp h).1];exact h
theorem steps_list (hh:x.A.handled=none) {adr₀:List Addr} {I ad:Addr} {i:Nat} {xs:List AV} (had:adr₀[i]? =some ad):Steps g x adr₀ I xs (ckO i (.list xs)) (ListIt ad) where
 self:=λ s j oI ho hJ Q E hq=>wpAny_pyIter_listiter (l:=ad) (i:=j) ⟨oI,ho,hJ.1,hJ.2⟩ hq
 ckp:=λ μ u μ' e=>(ckO_inv e).2
 dat:=λ j o h v q=>by rw [h.2] at q;cases q
 item:=λ x' hfd hlk' Γ j μ adr s cs pl m oI S pa hm hJ hck a ha Q hQ=>by
  obtain ⟨h1,_⟩:=ckO_inv hck
  have r:VR x'.fd adr (.ref ad) (.obj i):= .obj (prefix_get pa had)
  obtain ⟨ad',vs,n,ead,hc,q1,q2,L1⟩:=S.listAt r h1
  cases ead
  obtain ⟨v,hv,hr⟩:=q1.at_ ha
  have hI:=(S.N _ (List.mem_append_right _ hm)).1
  have hit:s.heap.IsListIter I ad j:=⟨oI,hI,hJ.1,hJ.2⟩
  refine wpAny_pyNext_list_item hit L1 (x:=v) (by simpa using hv) λ h' hit' hs=> ?_
  obtain ⟨o',ho',a1,a2⟩:=hit'
  exact hQ v h' o' s.toks (hfd ▸ hr) ⟨a1,a2⟩ ho' hs.extBut
 done:=λ x' hfd hlk' Γ j μ adr s cs pl m oI S pa hm hJ hck ha Q hQ=>by
  obtain ⟨h1,_⟩:=ckO_inv hck
  have r:VR x'.fd adr (.ref ad) (.obj i):= .obj (prefix_get pa had)
  obtain ⟨ad',vs,n,ead,hc,q1,q2,L1⟩:=S.listAt r h1
  cases ead
  have hI:=(S.N _ (List.mem_append_right _ hm)).1
  have hit:s.heap.IsListIter I ad j:=⟨oI,hI,hJ.1,hJ.2⟩
  exact wpAny_pyNext_list_end hh hit L1 (by simpa using q1.none_ ha) λ h' he=>hQ h' s.toks he
def KeyIt (ad:Addr) (n ep:Nat) (j:Nat) (o:Obj):Prop:=o.cls= .type "dict_keyiterator" ∧o.data= .fields #[.ref ad, .int j 0, .int n 0, .int ep 0]
def ValIt (ad:Addr) (n ep:Nat) (j:Nat) (o:Obj):Prop:=o.cls= .type "dict_valueiterator" ∧o.data= .fields #[.ref ad, .int j 0, .int n 0, .int ep 0]
theorem dict_at {x':Cx} (hlk':x'.lks=x.lks) {μ:Mem} {adr:List Addr} {s:Shared} {cs:List Led} {pl:Led} {m:Str→Option Value} {i:Nat} {ad:Addr} {od:Obj} {κ:Type} [DecidableEq κ] {knd:KeyKind g.prog g.w κ} {kvs:List (κ × Value)} {ep:Nat}
  (S:StE g x' Γ μ adr s cs pl m) (hlk:(i,[(ad,od)])∈x.lks) (hd:KdkAt knd od kvs ep):cs[i]? =some [(ad,od)]∧s.heap.DictAt knd ad kvs ep:=by
 obtain ⟨h1,_⟩:=S.lk _ (by rw [hlk'];exact hlk)
 exact ⟨h1,hd.dictAt (S.at1 h1)⟩
theorem steps_keys (hh:x.A.handled=none) {adr₀:List Addr} {I ad:Addr} {od:Obj} {i:Nat} {o:AO} {items:List AV} {κ:Type} [DecidableEq κ] {knd:KeyKind g.prog g.w κ} {kvs:List (κ × Value)} {ep:Nat} (hlk:(i,[(ad,od)])∈x.lks) (hd:KdkAt knd od kvs ep)
  (hl:items.length=kvs.length) (hit: ∀ (j:Nat) (a:AV),items[j]? =some a→ ∃ (k:κ) (y:Value),kvs[j]? =some (k,y)∧ ∀ v adr,knd.is k v=true→VR x.fd adr v a):Steps g x adr₀ I items (ckO i o) (KeyIt ad kvs.length ep) where
 self:=λ s j oI ho hJ Q E hq=>wpAny_pyIter_keyiter (d:=ad) (i:=j) (n:=kvs.length) (ep:=ep) ⟨oI,ho,hJ.1,hJ.2⟩ hq
 ckp:=λ μ u μ' e=>(ckO_inv e).2
 dat:=λ j o h v q=>by rw [h.2] at q;cases q
 item:=λ x' hfd hlk' Γ j μ adr s cs pl m oI S pa hm hJ hck a ha Q hQ=>by
  obtain ⟨h1,h2⟩:=dict_at hlk' S hlk hd
  obtain ⟨k,y,e1,e2⟩:=hit j a ha
  have hI:=(S.N _ (List.mem_append_right _ hm)).1
  refine wpAny_pyNext_dict_item ⟨oI,hI,hJ.1,hJ.2⟩ h2 e1 λ key h' hk hit' hs=> ?_
  obtain ⟨o',ho',a1,a2⟩:=hit'
  exact hQ key h' o' s.toks (e2 _ _ hk) ⟨a1,a2⟩ ho' hs.extBut
 done:=λ x' hfd hlk' Γ j μ adr s cs pl m oI S pa hm hJ hck ha Q hQ=>by
  obtain ⟨h1,h2⟩:=dict_at hlk' S hlk hd
  have hI:=(S.N _ (List.mem_append_right _ hm)).1
  have hn:kvs[j]? =none:=by rw [List.getElem?_eq_none_iff] at ha ⊢;rw [← hl];exact ha
  exact wpAny_pyNext_dict_end hh ⟨oI,hI,hJ.1,hJ.2⟩ h2 hn λ h' he=>hQ h' s.toks he
theorem steps_vals (hh:x.A.handled=none) {adr₀:List Addr} {I ad:Addr} {od:Obj} {i:Nat} {o:AO} {items:List AV} {κ:Type} [DecidableEq κ] {knd:KeyKind g.prog g.w κ} {kvs:List (κ × Value)} {ep:Nat} (hlk:(i,[(ad,od)])∈x.lks) (hd:KdkAt knd od kvs ep)
  (hl:items.length=kvs.length) (hit: ∀ (j:Nat) (a:AV),items[j]? =some a→ ∃ (k:κ) (y:Value),kvs[j]? =some (k,y)∧VR x.fd adr₀ y a):Steps g x adr₀ I items (ckO i o) (ValIt ad kvs.length ep) where
 self:=λ s j oI ho hJ Q E hq=>wpAny_pyIter_valiter (d:=ad) (i:=j) (n:=kvs.length) (ep:=ep) ⟨oI,ho,hJ.1,hJ.2⟩ hq
 ckp:=λ μ u μ' e=>(ckO_inv e).2
 dat:=λ j o h v q=>by rw [h.2] at q;cases q
 item:=λ x' hfd hlk' Γ j μ adr s cs pl m oI S pa hm hJ hck a ha Q hQ=>by
  obtain ⟨h1,h2⟩:=dict_at hlk' S hlk hd
  obtain ⟨k,y,e1,e2⟩:=hit j a ha
  have hI:=(S.N _ (List.mem_append_right _ hm)).1
  refine wpAny_pyNext_values_item ⟨oI,hI,hJ.1,hJ.2⟩ h2 e1 λ h' hit' hs=> ?_
  obtain ⟨o',ho',a1,a2⟩:=hit'
  exact hQ y h' o' s.toks (e2.pre pa) ⟨a1,a2⟩ ho' hs.extBut
 done:=λ x' hfd hlk' Γ j μ adr s cs pl m oI S pa hm hJ hck ha Q hQ=>by
  obtain ⟨h1,h2⟩:=dict_at hlk' S hlk hd
  have hI:=(S.N _ (List.mem_append_right _ hm)).1
  have hn:kvs[j]? =none:=by rw [List.getElem?_eq_none_iff] at ha ⊢;rw [← hl];exact ha
  exact wpAny_pyNext_values_end hh ⟨oI,hI,hJ.1,hJ.2⟩ h2 hn λ h' he=>hQ h' s.toks he
def RangeIt (n:Nat) (j:Nat) (o:Obj):Prop:=o= {cls:= .type "range_iterator",data:= .fields #[rawInt (j:Int),rawInt ((n:Int) - (j:Int)),rawInt 1]}
theorem steps_range (hh:x.A.handled=none) {adr₀:List Addr} {I:Addr} {n:Nat}:Steps g x adr₀ I ((List.range n).map λ j:Nat=>AV.int (Int.ofNat j)) (rt ()) (RangeIt n) where
 self:=λ s j oI ho hJ Q E hq=>wpAny_pyIter_rangeiter (x:=(j:Int)) (left:=(n:Int) - (j:Int)) (step:=1) (by rw [hJ] at ho;exact ho) hq
 ckp:=λ μ u μ' e=>by cases e;rfl
 dat:=λ j o h v q=>by rw [h] at q;cases q
 item:=λ x' hfd hlk' Γ j μ adr s cs pl m oI S pa hm hJ hck a ha Q hQ=>by
  have hI:=(S.N _ (List.mem_append_right _ hm)).1
  rw [List.getElem?_map,Option.map_eq_some_iff] at ha
  obtain ⟨j',hj',rfl⟩:=ha
  obtain ⟨hlt,hje⟩:=List.getElem?_eq_some_iff.mp hj'
  simp at hlt hje
  subst hje
  have hr:IsRangeIter s.heap I (j:Int) ((n:Int) - (j:Int)) 1:=by rw [hJ] at hI;exact hI
  refine wpAny_pyNext_range_item hr (by omega) λ h' hit' hs=> ?_
  refine hQ _ h' _ _ (.int _ _) (RangeIt.eq_1 n (j+1) _ ▸ rfl) ?_ hs.extBut
  have e1:((j:Int)+1)=(((j+1:Nat)):Int):=by omega
  have e2:((n:Int) - (j:Int) - 1)=((n:Int) - ((j+1:Nat):Int)):=by omega
  rw [e1,e2] at hit'
  exact hit'
 done:=λ x' hfd hlk' Γ j μ adr s cs pl m oI S pa hm hJ hck ha Q hQ=>by
  have hI:=(S.N _ (List.mem_append_right _ hm)).1
  rw [List.getElem?_eq_none_iff] at ha
  simp at ha
  have hr:IsRangeIter s.heap I (j:Int) ((n:Int) - (j:Int)) 1:=by rw [hJ] at hI;exact hI
  exact wpAny_pyNext_range_end hh hr (by omega) λ h' he=>hQ h' s.toks he
/-! the loops -/
theorem walked_some {α:Type} {i:Nat} {o:AO} {m:M α} {a:α} {μ μ':Mem} (e:walked i o m μ=some (a,μ')):o.locked=false∧ ∃ μ₁,m (μ.set i o.lock)=some (a,μ₁)∧μ₁[i]? =some o.lock∧μ'=μ₁.set i o:=by
 unfold walked at e
 split at e
 ·cases e
 ·rename_i h
  obtain ⟨u,μ₁,e1,e2⟩:=bd_some e
  have:=wr_some e1
  subst this
  obtain ⟨a',μ₂,f2,f3⟩:=bd_some e2
  obtain ⟨p,μ₃,g3,g4⟩:=bd_some f3
  obtain ⟨h1,rfl⟩:=rd_some g3
  split at g4
  ·rename_i hp
   subst hp
   obtain ⟨u,μ₄,k4,k5⟩:=bd_some g4
   have:=wr_some k4
   subst this
   cases k5
   exact ⟨by simpa using h,_,f2,h1,rfl⟩
  ·cases g4
theorem fresh_facts (hx:x.Ok g d) {μ:Mem} {adr:List Addr} {s:Shared} {cs:List Led} {pl:Led} {m:Str→Option Value} (S:StE g x Γ μ adr s cs pl m) {I:Addr} (hI:s.heap.objs.size≤I) :
  x.h₀.get? I=none∧x.L≠I∧(∀ p∈x.need,p.1≠I)∧ ∀ n c,x.env.scope.names.lookup n=some .cell→x.env.cells.lookup n=some c→I≠c:=by
 have lt: ∀ b o,s.heap.get? b=some o→b≠I:=λ b o e q=>Nat.lt_irrefl I (Nat.lt_of_lt_of_le (q ▸ Heap.lt_size e) hI)
 refine ⟨?_,?_,?_,?_⟩
 ·cases q:x.h₀.get? I with
  | none=>rfl
  | some o=>exact absurd rfl (lt _ _ (S.F.keep _ _ q))
 ·obtain ⟨o,es,ep,h,_⟩:=S.F.ns
  exact lt _ _ h
 ·intro p hp
  rcases S.ex p hp with h | h
  ·exact lt _ _ (S.F.keep _ _ h)
  ·exact lt _ _ (S.N p (List.mem_append_right _ h)).1
 ·intro n c hn hc
  obtain ⟨o,v₀,h,_⟩:=S.cl n c hn hc
  exact (lt _ _ (S.N _ (List.mem_append_right _ h)).1).symm
theorem set_self {α:Type} {l:List α} {i:Nat} {a:α} (h:l[i]? =some a):l.set i a=l:=by
 obtain ⟨hi,e⟩:=List.getElem?_eq_some_iff.mp h
 subst e
 exact List.set_getElem_self hi
theorem lock_in {μ:Mem} {adr:List Addr} {s:Shared} {cs:List Led} {pl:Led} {m:Str→Option Value} {k:Nat} {c:Led} {o:AO} (Z:StE g x Γ μ adr s cs pl m) (hc:cs[k]? =some c) (ho:μ[k]? =some o) (hu:o.locked=false) (hl:o.lock.locked=true) (hcr:CR g x.fd adr c o.lock) :
  StE g {x with need:=x.need,lks:=(k,c) :: x.lks} Γ (μ.set k o.lock) adr s cs pl m:=by
 have Z1:=Z.put (s':=s) (c':=c) (o':=o.lock) hc (λ o' e=>by rw [ho] at e;cases e;exact hu) rfl hcr Z.F (by rw [set_self hc];exact Z.N)
 rw [set_self hc] at Z1
 refine StE.move (x:=x) rfl rfl rfl rfl rfl rfl rfl Z1 Z1.ex λ p hp=> ?_
 rcases List.mem_cons.mp hp with rfl | hp
 ·exact ⟨hc,_,List.getElem?_set_self (List.getElem?_eq_some_iff.mp ho).1,hl⟩
 ·exact Z1.lk p hp
theorem lock_out {μ:Mem} {adr:List Addr} {s:Shared} {cs:List Led} {pl:Led} {m:Str→Option Value} {k:Nat} {c:Led} {o:AO} (W:StE g {x with need:=x.need,lks:=(k,c) :: x.lks} Γ μ adr s cs pl m) (h6:μ[k]? =some o.lock)
  (conv:CR g x.fd adr c o.lock→CR g x.fd adr c o) (hk: ∀ p∈x.lks,p.1≠k):StE g x Γ (μ.set k o) adr s cs pl m:=by
 obtain ⟨w1,_⟩:=W.lk _ (.head _)
 obtain ⟨ch',hc',hr'⟩:=W.chunk h6
 have e':cs[k]? =some c:=w1
 rw [e'] at hc';cases hc'
 refine ⟨W.F,W.N,W.nd,W.ha,?_,λ i av e=> ?_,W.gens,W.drawn,W.os,W.ex,W.fa,λ p hp=> ?_,W.cl,W.km⟩
 ·have:=W.C.set_ (b:=o) (a:=c) (conv hr') k
  rw [set_self e'] at this;exact this
 ·obtain ⟨n,kk,v,a1,a2,a3⟩:=W.V i av e
  exact ⟨n,kk,v,a1,VarV.move (x:= {x with need:=x.need,lks:=(k,c) :: x.lks}) (x':=x) rfl rfl rfl a2,a3⟩
 ·obtain ⟨b1,o,b2,b3⟩:=W.lk p (.tail _ hp)
  exact ⟨b1,o,by rw [List.getElem?_set_ne (Ne.symm (hk p hp))];exact b2,b3⟩
theorem lks_ne {μ:Mem} {adr:List Addr} {s:Shared} {cs:List Led} {pl:Led} {m:Str→Option Value} {k:Nat} {o:AO} (Z:StE g x Γ μ adr s cs pl m) (ho:μ[k]? =some o) (hu:o.locked=false): ∀ p∈x.lks,p.1≠k:=by
 intro p hp q
 obtain ⟨_,o',b2,b3⟩:=Z.lk p hp
 rw [q,ho] at b2;cases b2;rw [hu] at b3;cases b3
def LoopR (g:Gd) (x:Cx) {ρ:Type} (G:ρ→Cx0) (b:Fl ρ) (μ':Mem) (adr':List Addr) (s':Shared) (fl:Flow):Prop:=match b with
   | .nxt r=>fl= .next∧ ∃ cs pl m,StE g x (G r) μ' adr' s' cs pl m
   | .cnt=>False
   | .ret v=> ∃ vv,fl= .ret vv∧VR x.fd adr' vv v∧ ∃ cs pl m,StE g x [] μ' adr' s' cs pl m
theorem key_items_I {adr:List Addr} {kvs:List (Int × Value)} {es:List (Int × AV)} (q2:F2 (PR (id:Int→Int) x.fd adr) kvs es): ∀ (j:Nat) (a:AV),(es.map λ e=>AV.int e.1)[j]? =some a→ ∃ (k:Int) (y:Value),kvs[j]? =some (k,y)∧ ∀ v adr,(PySem.intKind g.prog g.w).is k v=true→VR x.fd adr v a:=by
 intro j a ha
 rw [List.getElem?_map,Option.map_eq_some_iff] at ha
 obtain ⟨p,hp,rfl⟩:=ha
 obtain ⟨kv,hkv,h1,h2⟩:=q2.at_ hp
 refine ⟨kv.1,kv.2,hkv,λ v adr hv=> ?_⟩
 have h1:kv.1=p.1:=h1
 rw [h1] at hv
 obtain ⟨t,rfl⟩:=PySem.Value.isInt_shape hv
 exact .int _ _
theorem key_items_S {adr:List Addr} {kvs:List (Str × Value)} {es:List (String × AV)} (q2:F2 (PR Str.ofString x.fd adr) kvs es): ∀ (j:Nat) (a:AV),(es.map λ e=>AV.str e.1)[j]? =some a→ ∃ (k:Str) (y:Value),kvs[j]? =some (k,y)∧ ∀ v adr,(PySem.strKind g.prog g.w).is k v=true→VR x.fd adr v a:=by
 intro j a ha
 rw [List.getElem?_map,Option.map_eq_some_iff] at ha
 obtain ⟨p,hp,rfl⟩:=ha
 obtain ⟨kv,hkv,h1,h2⟩:=q2.at_ hp
 refine ⟨kv.1,kv.2,hkv,λ v adr hv=> ?_⟩
 have h1:kv.1=Str.ofString p.1:=h1
 rw [h1] at hv
 obtain ⟨t,rfl⟩:=PySem.Value.isStrOf_shape hv
 exact .str _ _
theorem val_items {κ κ':Type} {f:κ'→κ} {adr:List Addr} {kvs:List (κ × Value)} {es:List (κ' × AV)} (q2:F2 (PR f x.fd adr) kvs es): ∀ (j:Nat) (a:AV),(es.map (·.2))[j]? =some a→ ∃ (k:κ) (y:Value),kvs[j]? =some (k,y)∧VR x.fd adr y a:=by
 intro j a ha
 rw [List.getElem?_map,Option.map_eq_some_iff] at ha
 obtain ⟨p,hp,rfl⟩:=ha
 obtain ⟨kv,hkv,h1,h2⟩:=q2.at_ hp
 exact ⟨kv.1,kv.2,hkv,h2⟩
theorem conv_I {adr:List Addr} {c:Led} {es:List (Int × AV)} (h:CR g x.fd adr c (.dI true es)):CR g x.fd adr c (.dI false es):=by
 cases h with
 | dI h1 h2 h3 h4=>exact .dI h1 h2 h3 h4
theorem conv_S {adr:List Addr} {c:Led} {es:List (String × AV)} (h:CR g x.fd adr c (.dS true es)):CR g x.fd adr c (.dS false es):=by
 cases h with
 | dS h1 h2 h3 h4=>exact .dS h1 h2 h3 h4
theorem R1_forL (hf:Facts g) {ρ:Type} {G:ρ→Cx0} {n:Str} {i:Nat} {px pos:Pos} {iter:PySem.Expr} {body:List Stmt} {src:M AV} {r₀:ρ} {bodyM:ρ→AV→M (Fl ρ)} (hs:RE g true d sc Γ iter src) (hn:Stores z sc i n) (h0:Sub (G r₀) Γ)
  (hb: ∀ r v,RS g z d sc ((G r).set i (some v)) (G r) G body (bodyM r v)) (hfs: ∀ env x,foldedSetIterable iter env x=pure x:=by intro _ _;rfl) :
  R1 g z d sc Γ Γc G (.For (.Name n px) iter body [] pos) (bd src λ a=>forL G a r₀ bodyM):=by
 intro x hx hsc hfr hz μ adr s S b μ' e
 obtain ⟨a,μ₁,e1,e2⟩:=bd_some e
 refine wpAny_For (wpAny_mono (hs x hx hsc (λ _=>hfr) μ adr s S a μ₁ e1) (λ va s₁ ⟨adr₁,p1,S1,r1⟩=> ?_) λ _ _ z=>z) (hfs _)
 obtain ⟨k,rfl⟩: ∃ k,a= .obj k:=by cases a <;> first | exact ⟨_,rfl⟩ | cases e2
 obtain ⟨o,μ₂,e2,e3⟩:=bd_some (show bd (rd k) _ μ₁=_ from e2)
 obtain ⟨ho,rfl⟩:=rd_some e2
 obtain ⟨items,μ₃,e3,e4⟩:=bd_some e3
 obtain ⟨hki,rfl⟩:=opt_some e3
 obtain ⟨hul,μ₄,e5,h6,rfl⟩:=walked_some e4
 obtain ⟨cs,pl,m,Z⟩:=S1.sub h0
 obtain ⟨f1,f2,f3,f4⟩:=fresh_facts hx Z (Nat.le_refl _)
 have hkn:=lks_ne Z ho hul
 cases o with
 | inst c fs=>cases hki
 | tup xs=>cases hki
 | list xs =>
  cases hki
  obtain ⟨ad,vs,nn,rfl,hc,q1,q2,L1⟩:=Z.listAt r1 ho
  have had:adr₁[k]? =some ad:=by cases r1;assumption
  rw [show List.set _ k (AO.list items).lock=_ from set_self ho] at e5
  rw [show List.set μ₄ k (AO.list items)=μ₄ from set_self h6]
  refine wpAny_pyIter_list L1 ?_
  have ZZ:=Z.priv {cls:= .type "list_iterator",data:= .fields #[.ref ad, .int 0 0]} (lks:=x.lks) rfl Z.lk
  refine loop_run hf hx hsc hfr hz (steps_list (adr₀:=adr₁) hx.hnd had) f1 f2 f3 f4 hn hb (λ fl s' z=> ?_) ZZ ⟨rfl,rfl⟩ e5
  obtain ⟨adr',pa,z⟩:=z
  refine ⟨adr',p1.trans pa,?_⟩
  cases b with
  | nxt r=>exact z
  | cnt=>exact z.elim
  | ret v=>exact z
 | dI lk es =>
  cases hki
  have hul':lk=false:=hul
  subst hul'
  cases r1
  rename_i ad had
  obtain ⟨ch,hc,hr⟩:=Z.chunk ho
  have had':=Z.adr_of hc had
  cases hr with
  | @dI ad' od _ kvs _ q1 q2 q3 q4 =>
  simp only [hd1] at had';subst had'
  obtain ⟨ep,hK⟩:=KdkAt.of q1
  refine wpAny_pyIter_dict q3 (hK.dictAt (Z.N _ (mem1 hc)).1) ?_
  have Z2:=lock_in Z hc ho rfl rfl (.dI q1 q2 q3 q4)
  have ZZ:=Z2.priv {cls:= .type "dict_keyiterator",data:= .fields #[.ref ad', .int 0 0, .int kvs.length 0, .int ep 0]} (lks:=(k,[(ad',od)]) :: x.lks) rfl Z2.lk
  have hx2:({x with need:=x.need,lks:=(k,[(ad',od)]) :: x.lks}:Cx).Ok g d:=Ok_need hf hx (λ p hp=>hp) λ p hp=> .inl hp
  refine loop_run (x:= {x with need:=x.need,lks:=(k,[(ad',od)]) :: x.lks}) hf hx2 hsc hfr hz (steps_keys (x:= {x with need:=x.need,lks:=(k,[(ad',od)]) :: x.lks}) (adr₀:=adr₁) hx.hnd (.head _) hK (by simp [q2.len]) (key_items_I q2)) f1 f2 f3 f4 hn hb (λ fl s' z=> ?_) ZZ ⟨rfl,rfl⟩ e5
  obtain ⟨adr',pa,z⟩:=z
  refine ⟨adr',p1.trans pa,?_⟩
  cases b with
  | nxt r=>obtain ⟨rfl,cs',pl',m',W⟩:=z;exact ⟨rfl,cs',pl',m',lock_out W h6 conv_I hkn⟩
  | cnt=>exact z.elim
  | ret v=>obtain ⟨vv,rfl,hv,cs',pl',m',W⟩:=z;exact ⟨vv,rfl,hv,cs',pl',m',lock_out W h6 conv_I hkn⟩
 | dS lk es =>
  cases hki
  have hul':lk=false:=hul
  subst hul'
  cases r1
  rename_i ad had
  obtain ⟨ch,hc,hr⟩:=Z.chunk ho
  have had':=Z.adr_of hc had
  cases hr with
  | @dS ad' od _ kvs _ q1 q2 q3 q4 =>
  simp only [hd1] at had';subst had'
  obtain ⟨ep,hK⟩:=KdkAt.of q1
  refine wpAny_pyIter_dict q3 (hK.dictAt (Z.N _ (mem1 hc)).1) ?_
  have Z2:=lock_in Z hc ho rfl rfl (.dS q1 q2 q3 q4)
  have ZZ:=Z2.priv {cls:= .type "dict_keyiterator",data:= .fields #[.ref ad', .int 0 0, .int kvs.length 0, .int ep 0]} (lks:=(k,[(ad',od)]) :: x.lks) rfl Z2.lk
  have hx2:({x with need:=x.need,lks:=(k,[(ad',od)]) :: x.lks}:Cx).Ok g d:=Ok_need hf hx (λ p hp=>hp) λ p hp=> .inl hp
  refine loop_run (x:= {x with need:=x.need,lks:=(k,[(ad',od)]) :: x.lks}) hf hx2 hsc hfr hz (steps_keys (x:= {x with need:=x.need,lks:=(k,[(ad',od)]) :: x.lks}) (adr₀:=adr₁) hx.hnd (.head _) hK (by simp [q2.len]) (key_items_S q2)) f1 f2 f3 f4 hn hb (λ fl s' z=> ?_) ZZ ⟨rfl,rfl⟩ e5
  obtain ⟨adr',pa,z⟩:=z
  refine ⟨adr',p1.trans pa,?_⟩
  cases b with
  | nxt r=>obtain ⟨rfl,cs',pl',m',W⟩:=z;exact ⟨rfl,cs',pl',m',lock_out W h6 conv_S hkn⟩
  | cnt=>exact z.elim
  | ret v=>obtain ⟨vv,rfl,hv,cs',pl',m',W⟩:=z;exact ⟨vv,rfl,hv,cs',pl',m',lock_out W h6 conv_S hkn⟩
end
section
variable {g:Gd} {x:Cx} {Γ Γ' Γc:Cx0} {d:Nat} {fr z:Bool} {sc:Scope}
theorem StE.grow {μ:Mem} {adr:List Addr} {s:Shared} {cs:List Led} {pl:Led} {m:Str→Option Value} {h':Heap} {tk:Tok} (S:StE g x Γ μ adr s cs pl m) (hk: ∀ b o,s.heap.get? b=some o→h'.get? b=some o):StE g x Γ μ adr {s with heap:=h',toks:=tk} cs pl m :=
 ⟨⟨Ns_keep S.F.ns λ o e=>hk _ _ e,λ b o e=>hk _ _ (S.F.keep b o e),S.F.above⟩,λ p hp=>⟨hk _ _ (S.N p hp).1,(S.N p hp).2⟩,S.nd,S.ha,S.C,S.V,S.gens,S.drawn,S.os,S.ex,S.fa,S.lk,S.cl,S.km⟩
theorem R1_forV (hf:Facts g) {ρ:Type} {G:ρ→Cx0} {n:Str} {i:Nat} {px pos ap cp:Pos} {o:PySem.Expr} {body:List Stmt} {src:M AV} {r₀:ρ} {bodyM:ρ→AV→M (Fl ρ)} (hs:RE g true d sc Γ o src) (hn:Stores z sc i n) (h0:Sub (G r₀) Γ)
  (hb: ∀ r v,RS g z d sc ((G r).set i (some v)) (G r) G body (bodyM r v)) (he:MethEval o "values" ap cp []) (hfs: ∀ env x,foldedSetIterable (.Call (.Attribute o (Str.ofString "values") ap) [] [] cp) env x=pure x:=by intro _ _;rfl) :
  R1 g z d sc Γ Γc G (.For (.Name n px) (.Call (.Attribute o (Str.ofString "values") ap) [] [] cp) body [] pos) (bd src λ a=>forV G a r₀ bodyM):=by
 intro x hx hsc hfr hz μ adr s S b μ' e
 obtain ⟨a,μ₁,e1,e2⟩:=bd_some e
 obtain ⟨plc,hpl⟩:=he x.env
 refine wpAny_For ?_ (hfs _)
 refine MethodCall_ (pl:=plc) (wpAny_mono (hs x hx hsc (λ _=>hfr) μ adr s S a μ₁ e1) (λ va s₁ ⟨adr₁,p1,S1,r1⟩=> ?_) λ _ _ z=>z) hpl
 obtain ⟨k,rfl⟩: ∃ k,a= .obj k:=by cases a <;> first | exact ⟨_,rfl⟩ | cases e2
 obtain ⟨o,μ₂,e2,e3⟩:=bd_some (show bd (rd k) _ μ₁=_ from e2)
 obtain ⟨ho,rfl⟩:=rd_some e2
 obtain ⟨items,μ₃,e3,e4⟩:=bd_some e3
 obtain ⟨hki,rfl⟩:=opt_some e3
 obtain ⟨hul,μ₄,e5,h6,rfl⟩:=walked_some e4
 obtain ⟨cs,pl,m,Z0⟩:=S1.sub h0
 have hkn:=lks_ne Z0 ho hul
 cases o with
 | inst c fs=>cases hki
 | tup xs=>cases hki
 | list xs=>cases hki
 | dI lk es =>
  cases hki
  have hul':lk=false:=hul
  subst hul'
  cases r1
  rename_i ad had
  obtain ⟨ch,hc,hr⟩:=Z0.chunk ho
  have had':=Z0.adr_of hc had
  cases hr with
  | @dI ad' od _ kvs _ q1 q2 q3 q4 =>
  simp only [hd1] at had';subst had'
  have hD:=kda_dict Z0.N (mem1 hc) q1
  refine getMethod_builtin hD.typeIs PySem.F.plainAttrs_dict PySem.F.slot_dict_values PySem.F.type_dict_values hD.mapOf.noDict ?_
  refine callWith_of rfl Kp.builtin (evalArgs_nil3 ⟨S1.kin hx,?_⟩)
  refine call_meetsIn PySem.F.slot_dict_values hD.typeIs PySem.F.entry_dict_values (PySem.F.args_dict_values_1 _) (meets_dict_values _ ad' q3) ⟨⟨kvs,hD⟩,?_⟩
  obtain ⟨ep,hK⟩:=KdkAt.of q1
  have Z:=Z0.grow (h':=s₁.heap.push {cls:= .type "dict_values",data:= .fields #[.ref ad']}) (tk:=s₁.toks) λ b o e=>Heap.get?_push_of_some _ e
  refine wpAny_pyIter_values ⟨_,Heap.get?_push_size _ rfl,rfl,rfl⟩ (hK.dictAt (Z.N _ (mem1 hc)).1) ?_
  obtain ⟨f1,f2,f3,f4⟩:=fresh_facts hx Z (Nat.le_refl _)
  have Z2:=lock_in Z hc ho rfl rfl (.dI q1 q2 q3 q4)
  have ZZ:=Z2.priv {cls:= .type "dict_valueiterator",data:= .fields #[.ref ad', .int 0 0, .int kvs.length 0, .int ep 0]} (lks:=(k,[(ad',od)]) :: x.lks) rfl Z2.lk
  have hx2:({x with need:=x.need,lks:=(k,[(ad',od)]) :: x.lks}:Cx).Ok g d:=Ok_need hf hx (λ p hp=>hp) λ p hp=> .inl hp
  refine loop_run (x:= {x with need:=x.need,lks:=(k,[(ad',od)]) :: x.lks}) hf hx2 hsc hfr hz (steps_vals (x:= {x with need:=x.need,lks:=(k,[(ad',od)]) :: x.lks}) (adr₀:=adr₁) hx.hnd (.head _) hK (by simp [q2.len]) (val_items q2)) f1 f2 f3 f4 hn hb (λ fl s' z=> ?_) ZZ ⟨rfl,rfl⟩ e5
  obtain ⟨adr',pa,z⟩:=z
  refine ⟨adr',p1.trans pa,?_⟩
  cases b with
  | nxt r=>obtain ⟨rfl,cs',pl',m',W⟩:=z;exact ⟨rfl,cs',pl',m',lock_out W h6 conv_I hkn⟩
  | cnt=>exact z.elim
  | ret v=>obtain ⟨vv,rfl,hv,cs',pl',m',W⟩:=z;exact ⟨vv,rfl,hv,cs',pl',m',lock_out W h6 conv_I hkn⟩
 | dS lk es =>
  cases hki
  have hul':lk=false:=hul
  subst hul'
  cases r1
  rename_i ad had
  obtain ⟨ch,hc,hr⟩:=Z0.chunk ho
  have had':=Z0.adr_of hc had
  cases hr with
  | @dS ad' od _ kvs _ q1 q2 q3 q4 =>
  simp only [hd1] at had';subst had'
  have hD:=kda_dict Z0.N (mem1 hc) q1
  refine getMethod_builtin hD.typeIs PySem.F.plainAttrs_dict PySem.F.slot_dict_values PySem.F.type_dict_values hD.mapOf.noDict ?_
  refine callWith_of rfl Kp.builtin (evalArgs_nil3 ⟨S1.kin hx,?_⟩)
  refine call_meetsIn PySem.F.slot_dict_values hD.typeIs PySem.F.entry_dict_values (PySem.F.args_dict_values_1 _) (meets_dict_values _ ad' q3) ⟨⟨kvs,hD⟩,?_⟩
  obtain ⟨ep,hK⟩:=KdkAt.of q1
  have Z:=Z0.grow (h':=s₁.heap.push {cls:= .type "dict_values",data:= .fields #[.ref ad']}) (tk:=s₁.toks) λ b o e=>Heap.get?_push_of_some _ e
  refine wpAny_pyIter_values ⟨_,Heap.get?_push_size _ rfl,rfl,rfl⟩ (hK.dictAt (Z.N _ (mem1 hc)).1) ?_
  obtain ⟨f1,f2,f3,f4⟩:=fresh_facts hx Z (Nat.le_refl _)
  have Z2:=lock_in Z hc ho rfl rfl (.dS q1 q2 q3 q4)
  have ZZ:=Z2.priv {cls:= .type "dict_valueiterator",data:= .fields #[.ref ad', .int 0 0, .int kvs.length 0, .int ep 0]} (lks:=(k,[(ad',od)]) :: x.lks) rfl Z2.lk
  have hx2:({x with need:=x.need,lks:=(k,[(ad',od)]) :: x.lks}:Cx).Ok g d:=Ok_need hf hx (λ p hp=>hp) λ p hp=> .inl hp
  refine loop_run (x:= {x with need:=x.need,lks:=(k,[(ad',od)]) :: x.lks}) hf hx2 hsc hfr hz (steps_vals (x:= {x with need:=x.need,lks:=(k,[(ad',od)]) :: x.lks}) (adr₀:=adr₁) hx.hnd (.head _) hK (by simp [q2.len]) (val_items q2)) f1 f2 f3 f4 hn hb (λ fl s' z=> ?_) ZZ ⟨rfl,rfl⟩ e5
  obtain ⟨adr',pa,z⟩:=z
  refine ⟨adr',p1.trans pa,?_⟩
  cases b with
  | nxt r=>obtain ⟨rfl,cs',pl',m',W⟩:=z;exact ⟨rfl,cs',pl',m',lock_out W h6 conv_S hkn⟩
  | cnt=>exact z.elim
  | ret v=>obtain ⟨vv,rfl,hv,cs',pl',m',W⟩:=z;exact ⟨vv,rfl,hv,cs',pl',m',lock_out W h6 conv_S hkn⟩
theorem R1_forR (hf:Facts g) {ρ:Type} {G:ρ→Cx0} {n rn:Str} {i:Nat} {px pos rp cp:Pos} {e:PySem.Expr} {body:List Stmt} {src:M AV} {r₀:ρ} {bodyM:ρ→AV→M (Fl ρ)} (hr:NameIs g sc rn (.type "range")) (hs:RE g true d sc Γ e src) (hn:Stores z sc i n) (h0:Sub (G r₀) Γ)
  (hb: ∀ r v,RS g z d sc ((G r).set i (some v)) (G r) G body (bodyM r v)) (hst: ∀ env,starEach [e] env=[(false,eval e env)]:=by intro _;rfl) (hfs: ∀ env x,foldedSetIterable (.Call (.Name rn rp) [e] [] cp) env x=pure x:=by intro _ _;rfl) :
  R1 g z d sc Γ Γc G (.For (.Name n px) (.Call (.Name rn rp) [e] [] cp) body [] pos) (bd src λ a=>forR G a r₀ bodyM):=by
 intro x hx hsc hfr hz μ adr s S b μ' e
 obtain ⟨a,μ₁,e1,e2⟩:=bd_some e
 refine wpAny_For ?_ (hfs _)
 refine Call_ (hr x d hx hsc Γ μ adr s rp _ S ?_) (by rfl)
 rw [hst]
 refine callWith_of rfl Kp.type (evalArgs_plain ?_)
 refine spliced_cons (wpAny_mono (hs x hx hsc (λ _=>hfr) μ adr s S a μ₁ e1) (λ va s₁ ⟨adr₁,p1,S1,r1⟩=>spliced_nil ⟨S1.kin hx,?_⟩) λ _ _ z=>z)
 obtain ⟨k,rfl⟩: ∃ k,a= .int k:=by cases a <;> first | exact ⟨_,rfl⟩ | cases e2
 obtain ⟨t,rfl⟩: ∃ t,va= .int k t:=by cases r1;exact ⟨_,rfl⟩
 unfold forR at e2
 dsimp only at e2
 split at e2
 case isFalse=>cases e2
 rename_i hk
 obtain ⟨cs,pl,m,Z0⟩:=S1.sub h0
 refine call_range_1 (wpAny_pyIter_range (IsRange.new ..) (small_one (by decide) (by decide) (by omega) (by omega)) ?_)
 have Z:=Z0.grow (h':=s₁.heap.push {cls:= .type "range",data:= .fields #[.int 0 s₁.toks, .int k t, .int 1 (s₁.toks+1)]}) (tk:=s₁.toks+1+1) λ b o e=>Heap.get?_push_of_some _ e
 obtain ⟨f1,f2,f3,f4⟩:=fresh_facts hx Z (Nat.le_refl _)
 have hsz:Builtin.Range.rangeSize 0 k 1=(k.toNat:Int):=by rw [rangeSize_one];split <;> omega
 have ZZ:=Z.priv {cls:= .type "range_iterator",data:= .fields #[rawInt 0,rawInt (Builtin.Range.rangeSize 0 k 1),rawInt 1]} (lks:=x.lks) rfl Z.lk
 have hJ:RangeIt k.toNat 0 {cls:= .type "range_iterator",data:= .fields #[rawInt 0,rawInt (Builtin.Range.rangeSize 0 k 1),rawInt 1]}:=by unfold RangeIt;rw [hsz];simp
 refine loop_run hf hx hsc hfr hz (steps_range (adr₀:=adr₁) (n:=k.toNat) hx.hnd) f1 f2 f3 f4 hn hb (λ fl s' z=> ?_) ZZ hJ e2
 obtain ⟨adr',pa,z⟩:=z
 refine ⟨adr',p1.trans pa,?_⟩
 cases b with
 | nxt r=>exact z
 | cnt=>exact z.elim
 | ret v=>exact z
theorem whl_S {test:PySem.Expr} {body:List Stmt} {mc:M Bool} {mb:M (Fl Unit)} {G:Cx0} (hc:RC g true d sc G test mc) (hb:RS g z d sc G G (λ _=>G) body mb) (hx:x.Ok g d) (hsc:x.env.scope=sc) (hfr:x.env=x.fenv) (hz:x.fz=z) {b:Fl Unit} {μ':Mem} {adr₀:List Addr} {R:Result→Shared→Prop}
  (hR: ∀ fl s',(∃ adr',adr₀ <+: adr'∧LoopR g x (λ _=>G) b μ' adr' s' fl)→R (.ok fl) s') {k₀:Nat} {μ₀:Mem} {s₀:Shared} (S₀:St g x G μ₀ adr₀ s₀) (e₀:whl G k₀ mc mb μ₀=some (b,μ')) :
  codeAny (model g.prog g.w) x.A (.whileLoop test body [] x.env) R s₀:=by
 refine codeAny_whileLoop (λ k s'=> ∃ μ adr',adr₀ <+: adr'∧St g x G μ adr' s'∧whl G k mc mb μ=some (b,μ')) (λ k s' hk=> ?_) k₀ ⟨μ₀,adr₀,List.prefix_refl _,S₀,e₀⟩
 obtain ⟨μ,adr',pa,S,e⟩:=hk
 cases k with
 | zero=>cases e
 | succ k =>
  obtain ⟨c,μ₁,e1,e2⟩:=bd_some (show bd mc _ μ=_ from e)
  refine ends_nof (wpAny_mono (hc x hx hsc (λ _=>hfr) μ adr' s' S c μ₁ e1) (λ c' s₁ ⟨adr₁,p1,S1,hcc⟩=> ?_) λ _ _ z=>z)
  subst hcc
  cases c' with
  | false =>
   cases e2
   simp only [Bool.false_eq_true,if_false]
   exact ends_nof (wpAny_execs_nil (hR _ _ ⟨adr₁,pa.trans p1,rfl,S1⟩))
  | true =>
   simp only [if_true] at e2 ⊢
   obtain ⟨fl,μ₂,e2,e3⟩:=bd_some e2
   refine ends_nof (wpAny_mono (hb x hx hsc hfr hz μ₁ adr₁ s₁ S1 fl μ₂ e2) (λ fl' s₂ ⟨adr₂,p2,z⟩=> ?_) λ _ _ z=>z)
   cases fl with
   | nxt u =>
    obtain ⟨rfl,S2⟩:=z
    exact ⟨k,Nat.lt_succ_self k,μ₂,adr₂,(pa.trans p1).trans p2,S2,e3⟩
   | cnt =>
    obtain ⟨rfl,S2⟩:=z
    exact ⟨k,Nat.lt_succ_self k,μ₂,adr₂,(pa.trans p1).trans p2,S2,e3⟩
   | ret v =>
    obtain ⟨vv,rfl,hv,S2⟩:=z
    cases e3
    obtain ⟨cs,pl,m,S2⟩:=S2
    exact hR _ _ ⟨adr₂,(pa.trans p1).trans p2,vv,rfl,hv,cs,pl,m,S2⟩
theorem R1_while {test:PySem.Expr} {body:List Stmt} {pos:Pos} {mc:M Bool} {mb:M (Fl Unit)} {G:Cx0} {k:Nat} (hc:RC g true d sc G test mc) (hb:RS g z d sc G G (λ _=>G) body mb) (h0:Sub G Γ) :
  R1 g z d sc Γ Γc (λ _:Unit=>G) (.While test body [] pos) (whl G k mc mb):=by
 intro x hx hsc hfr hz μ adr s S b μ' e
 refine wpAny_While (whl_S hc hb hx hsc hfr hz (λ fl s' z=> ?_) (S.sub h0) e)
 obtain ⟨adr',pa,z⟩:=z
 refine ⟨adr',pa,?_⟩
 cases b with
 | nxt r=>exact z
 | cnt=>exact z.elim
 | ret v=>exact z
end
section
variable {g:Gd} {x:Cx} {Γ Γ' Γc:Cx0} {d:Nat} {fr z:Bool} {sc:Scope}
def relabK (sc:Scope) (p:Str × NameKind):Str × NameKind:=if (p.2 == .free && sc.kind == .function && sc.names.lookup p.1 == some .cell) then (p.1, .cell) else p
def relabS (csc sc:Scope):Scope:= {csc with names:=csc.names.map (relabK sc)}
theorem relabel_eq {csc:Scope} {env:Env}:relabel csc env=relabS csc env.scope:=by
 unfold relabel relabS
 congr 1
def closOf (cells:List (Str × Addr)):List (Str × NameKind)→List (Str × Addr)→List (Str × Addr)
 | [],acc=>acc
 | (n,k) :: r,acc=>if k == .free then closOf cells r ((n,(cells.lookup n).getD 0) :: acc) else closOf cells r acc
theorem closFold {env:Env}: ∀ (names:List (Str × NameKind)) (acc:List (Str × Addr)),(∀ y∈names,y.2= .free→ ∃ c,env.cells.lookup y.1=some c) →
  (forIn names acc λ (x:Str × NameKind) r=>match x with
   | (name,kind)=>if (kind == .free)=true then do
     let c ← cellOf env name
     pure (ForInStep.yield ((name,c) :: r))
    else pure (ForInStep.yield r):Sem (List (Str × Addr)))=pure (closOf env.cells names acc)
 | [],acc,_=>by rw [List.forIn_nil];rfl
 | (n,k) :: r,acc,h=>by
  rw [List.forIn_cons]
  have ih:=λ acc=>closFold r acc λ y hy=>h y (.tail _ hy)
  cases hk:k == .free with
  | true =>
   obtain ⟨c,hc⟩:=h (n,k) (.head _) (eq_of_beq hk)
   have hce:cellOf env n=pure c:=by unfold cellOf;rw [hc]
   have e:closOf env.cells ((n,k) :: r) acc=closOf env.cells r ((n,c) :: acc):=by
    conv=>lhs;unfold closOf
    rw [hk,if_pos rfl,hc];rfl
   rw [e,← ih]
   show ((if (k == .free)=true then do
     let c ← cellOf env n
     pure (ForInStep.yield ((n,c) :: acc))
    else pure (ForInStep.yield acc):Sem _) >>= _)=_
   rw [hk,if_pos rfl,hce]
   rfl
  | false =>
   have e:closOf env.cells ((n,k) :: r) acc=closOf env.cells r acc:=by
    conv=>lhs;unfold closOf
    rw [hk,if_neg (by simp)]
   rw [e,← ih]
   show ((if (k == .free)=true then do
     let c ← cellOf env n
     pure (ForInStep.yield ((n,c) :: acc))
    else pure (ForInStep.yield acc):Sem _) >>= _)=_
   rw [hk,if_neg (by simp)]
   rfl
theorem closureFor_eq {csc:Scope} {env:Env} (h: ∀ y∈csc.names,y.2= .free→ ∃ c,env.cells.lookup y.1=some c):closureFor csc env=pure (closOf env.cells csc.names []):=by
 unfold closureFor
 have e:=closFold csc.names [] h
 exact congrArg (· >>= pure) e
theorem closOf_sub {cells:List (Str × Addr)}: ∀ {names:List (Str × NameKind)} {acc:List (Str × Addr)},(∀ y∈names,y.2= .free→ ∃ c,cells.lookup y.1=some c)→(∀ n c,acc.lookup n=some c→cells.lookup n=some c)→ ∀ n c,(closOf cells names acc).lookup n=some c→cells.lookup n=some c
 | [],acc,_,h,n,c,e=>h n c e
 | (n',k) :: r,acc,hn,h,n,c,e=>by
  unfold closOf at e
  split at e
  ·rename_i hk
   refine closOf_sub (λ y hy=>hn y (.tail _ hy)) (λ m b hb=> ?_) n c e
   rw [List.lookup_cons] at hb
   split at hb
   ·rename_i hm
    obtain ⟨c',hc'⟩:=hn (n',k) (.head _) (eq_of_beq hk)
    have hc':cells.lookup n'=some c':=hc'
    rw [hc'] at hb
    cases hb
    rw [eq_of_beq hm];exact hc'
   ·exact h m b hb
  ·exact closOf_sub (λ y hy=>hn y (.tail _ hy)) h n c e
theorem closOf_some {cells:List (Str × Addr)} {n:Str}: ∀ {names:List (Str × NameKind)} {acc:List (Str × Addr)},((n,NameKind.free)∈names∨(acc.lookup n).isSome=true)→((closOf cells names acc).lookup n).isSome=true
 | [],acc,h=>h.elim (λ h=>by simp at h) id
 | (n',k) :: r,acc,h=>by
  unfold closOf
  split
  ·rename_i hk
   refine closOf_some ?_
   rcases h with h | h
   ·rcases List.mem_cons.mp h with h | h
    ·cases h;right;rw [List.lookup_cons,beq_self_eq_true];rfl
    ·exact .inl h
   ·right
    rw [List.lookup_cons]
    split
    ·rfl
    ·exact h
  ·rename_i hk
   refine closOf_some ?_
   rcases h with h | h
   ·rcases List.mem_cons.mp h with h | h
    ·cases h;exact absurd rfl hk
    ·exact .inl h
   ·exact .inr h
structure CScope (sc csc:Scope) (v:Str) (i:Nat):Prop where
 kind:csc.kind= .function
 skind:sc.kind= .function
 nocell: ∀ y∈csc.names,y.2≠ .cell
 free: ∀ y∈csc.names,y.2= .free→sc.names.lookup y.1=some .cell
 nd:(csc.names.map (·.1)).Nodup
 iv:csc.names[i]? =some (v, .local)
def Takes (sc csc:Scope) (Γ Γ0:Cx0):Prop:= ∀ (j:Nat) (av:AV),Γ0[j]? =some (some av)→ ∃ (n:Str) (i':Nat),csc.names[j]? =some (n,NameKind.free)∧sc.names[i']? =some (n,NameKind.cell)∧Γ[i']? =some (some av)
theorem relab_names {csc sc:Scope} {v:Str} {i:Nat} (h:CScope sc csc v i):((relabS csc sc).names.map (·.1))=csc.names.map (·.1):=by
 show (csc.names.map (relabK sc)).map (·.1)=_
 rw [List.map_map]
 refine List.map_congr_left λ p _=> ?_
 show (relabK sc p).1=p.1
 unfold relabK
 split <;> rfl
theorem relab_free {csc sc:Scope} {v:Str} {i:Nat} (h:CScope sc csc v i) {j:Nat} {n:Str} (e:csc.names[j]? =some (n, .free)):(relabS csc sc).names[j]? =some (n, .cell):=by
 show (csc.names.map (relabK sc))[j]? =_
 rw [List.getElem?_map,e]
 show some (relabK sc (n, .free))=_
 unfold relabK
 have h1:=h.free _ (List.mem_of_getElem? e) rfl
 have h1:sc.names.lookup n=some .cell:=h1
 rw [h.skind,h1]
 rfl
theorem relab_local {csc sc:Scope} {v:Str} {i:Nat} (h:CScope sc csc v i) {j:Nat} {n:Str} (e:csc.names[j]? =some (n, .local)):(relabS csc sc).names[j]? =some (n, .local):=by
 show (csc.names.map (relabK sc))[j]? =_
 rw [List.getElem?_map,e]
 rfl
theorem relab_cell {csc sc:Scope} {v:Str} {i:Nat} (h:CScope sc csc v i) {n:Str} (e:(relabS csc sc).names.lookup n=some .cell):(n,NameKind.free)∈csc.names:=by
 obtain ⟨j,hj⟩:=List.getElem?_of_mem (mem_of_lookup e)
 have hj:(csc.names.map (relabK sc))[j]? =some (n, .cell):=hj
 rw [List.getElem?_map,Option.map_eq_some_iff] at hj
 obtain ⟨p,hp,e'⟩:=hj
 unfold relabK at e'
 split at e'
 ·rename_i hc
  simp only [Bool.and_eq_true] at hc
  have hk:=eq_of_beq hc.1.1
  cases e'
  have:=List.mem_of_getElem? hp
  rw [← hk]
  exact this
 ·subst e'
  exact absurd rfl (h.nocell _ (List.mem_of_getElem? hp))
abbrev cenv (x:Cx) (csc:Scope) (C:Addr):Env:=compEnvC csc (closOf x.env.cells csc.names []) C x.env
abbrev ccx (x:Cx) (csc:Scope) (C:Addr) (nd:Led) (m:Str→Option Value):Cx:= {x with env:=cenv x csc C,need:=nd,fz:=true,km:=some m}
theorem ccx_Ok (hf:Facts g) (hx:x.Ok g d) {csc:Scope} {v:Str} {i:Nat} (hc:CScope x.env.scope csc v i) {C:Addr} (hCL:C≠x.L) {nd:Led} {m:Str→Option Value} (hn: ∀ p∈x.need,p∈nd):(ccx x csc C nd m).Ok g d:=by
 have fr: ∀ y∈csc.names,y.2= .free→ ∃ c,x.env.cells.lookup y.1=some c:=λ y hy hk=>hx.cs _ (hc.free y hy hk)
 have sub: ∀ n c,(cenv x csc C).cells.lookup n=some c→x.env.cells.lookup n=some c:=λ n c e=>closOf_sub fr (by simp) n c e
 refine ⟨hx.below,hx.kin,hx.top,hx.frames,hx.hnd,hx.fL,hx.floc,hx.fk,hx.eg,hc.kind,hx.eb,hx.ef,?_,hx.dep,hx.un,hx.mono,?_,?_,?_,hf.com _ _ _ _ hn hx.co,?_⟩
 ·show ((relabel csc x.env).names.map (·.1)).Nodup
  rw [relabel_eq,relab_names hc];exact hc.nd
 ·intro e
  exact absurd ((congrArg Env.locals e).trans hx.floc) hCL
 ·exact λ n n' c hk e e'=>hx.ci n n' c (by
   have hk:(relabel csc x.env).names.lookup n'=some .cell:=hk
   rw [relabel_eq] at hk
   exact hc.free _ (relab_cell hc hk) rfl) (sub _ _ e) (sub _ _ e')
 ·intro n e
  have e:(relabel csc x.env).names.lookup n=some .cell:=e
  rw [relabel_eq] at e
  exact Option.isSome_iff_exists.mp (closOf_some (.inl (relab_cell hc e)))
 ·intro h;cases h
theorem StE.cin {μ:Mem} {adr:List Addr} {s:Shared} {cs:List Led} {pl:Led} {m:Str→Option Value} (S:StE g x Γ μ adr s cs pl m) (hx:x.Ok g d) {csc:Scope} {v:Str} {i:Nat} (hc:CScope x.env.scope csc v i) {C:Addr} {nd:Led} {Γ0:Cx0} (hT:Takes x.env.scope csc Γ Γ0) (hn: ∀ p∈nd,x.h₀.get? p.1=some p.2∨p∈pl) :
  StE g (ccx x csc C nd m) Γ0 μ adr s cs pl m:=by
 have fr: ∀ y∈csc.names,y.2= .free→ ∃ c,x.env.cells.lookup y.1=some c:=λ y hy hk=>hx.cs _ (hc.free y hy hk)
 have sub: ∀ n c,(cenv x csc C).cells.lookup n=some c→x.env.cells.lookup n=some c:=λ n c e=>closOf_sub fr (by simp) n c e
 refine ⟨S.F,S.N,S.nd,S.ha,S.C,λ j av e=> ?_,S.gens,S.drawn,S.os,hn,S.fa,S.lk,λ n c e1 e2=> ?_,λ m₀ h=>by cases h;rfl⟩
 ·obtain ⟨n,i',h1,h2,h3⟩:=hT j av e
  obtain ⟨n',k,w,a1,a2,a3⟩:=S.V i' av h3
  rw [h2] at a1;cases a1
  refine ⟨n, .cell,w,by show (relabel csc x.env).names[j]? =_;rw [relabel_eq];exact relab_free hc h1,?_,a3⟩
  cases a2 with
  | cell b1 b2 b3 =>
   obtain ⟨c',hc'⟩:=Option.isSome_iff_exists.mp (closOf_some (cells:=x.env.cells) (acc:=[]) (.inl (List.mem_of_getElem? h1)))
   have:=sub _ _ hc'
   rw [b1] at this;cases this
   exact .cell hc' b2 b3
 ·have e1:(relabel csc x.env).names.lookup n=some .cell:=e1
  rw [relabel_eq] at e1
  exact S.cl n c (hc.free _ (relab_cell hc e1) rfl) (sub _ _ e2)
theorem StE.cout {μ μ':Mem} {adr adr':List Addr} {s s':Shared} {cs cs':List Led} {pl pl':Led} {m m':Str→Option Value} {csc:Scope} {C:Addr} {nd nd':Led} {Γ0:Cx0} (S:StE g x Γ μ adr s cs pl m) (W:StE g (ccx x csc C nd m) Γ0 μ' adr' s' cs' pl' m') (pa:adr <+: adr')
  (hpl: ∀ p∈pl,p∈nd) (hn: ∀ p∈nd',p∈x.need∨(p∈nd∧x.h₀.get? p.1=none)):StE g {x with need:=nd'} Γ μ' adr' s' cs' pl' m:=by
 have hm:m'=m:=W.km m rfl
 subst hm
 have keep: ∀ q∈pl,q∈pl':=λ q hq=>by
  rcases W.ex q (hpl q hq) with h | h
  ·have h1:=(S.N q (List.mem_append_right _ hq)).2.2
   have h':x.h₀.get? q.1=some q.2:=h
   rw [h1] at h';cases h'
  ·exact h
 refine ⟨W.F,W.N,W.nd,W.ha,W.C,λ i av e=> ?_,W.gens,W.drawn,W.os,λ p hp=> ?_,W.fa,W.lk,λ n c e1 e2=> ?_,λ m₀ h=>S.km m₀ h⟩
 ·obtain ⟨n,k,v,a1,a2,a3⟩:=S.V i av e
  refine ⟨n,k,v,a1,?_,a3.pre pa⟩
  cases a2 with
  | loc b1 b2=>exact .loc b1 b2
  | cloc b1 b2 b3 b4=>exact .cloc (keep _ b1) b2 b3 b4
  | cell b1 b2 b3=>exact .cell b1 (b2.imp id (keep _)) b3
  | free b1 b2 b3=>exact .free b1 (b2.imp id (keep _)) b3
 ·rcases hn p hp with h | ⟨h,h'⟩
  ·exact (S.ex p h).imp id (keep p)
  ·exact (W.ex p h).imp (λ q=>by have q:x.h₀.get? p.1=some p.2:=q;rw [h'] at q;cases q) id
 ·obtain ⟨o,v₀,h1,h2⟩:=S.cl n c e1 e2
  exact ⟨o,v₀,keep _ h1,h2⟩
theorem StE.cset {μ:Mem} {adr:List Addr} {s:Shared} {cs:List Led} {pl:Led} {m:Str→Option Value} {csc:Scope} {v:Str} {i:Nat} {C:Addr} {nd:Led} {Γ0:Cx0} {w:Value} {a:AV} {oC:Obj} {es:List DictEntry} {ep:Nat} (W:StE g (ccx x csc C nd m) Γ0 μ adr s cs pl m) (hc:CScope x.env.scope csc v i)
  (hm:(C,oC)∈pl) (hd:oC.data= .dict es.toArray ep) (hk:StrKeys es.toArray) (hv:nsFind es.toArray v=some w) (hr:VR x.fd adr w a) (hi: ∀ av,Γ0[i]? ≠some (some av)):StE g (ccx x csc C nd m) (Γ0.set i (some a)) μ adr s cs pl m :=
 ⟨W.F,W.N,W.nd,W.ha,W.C,λ j bv e=>by
  by_cases hj:i=j
  ·subst hj
   rw [List.getElem?_set_self'] at e
   have hb:bv=a:=by
    cases q:Γ0[i]? with
    | none=>rw [q] at e;simp at e
    | some _=>rw [q] at e;simp at e;exact e.symm
   subst hb
   exact ⟨v, .local,w,by show (relabel csc x.env).names[i]? =_;rw [relabel_eq];exact relab_local hc hc.iv, .cloc hm hd hk hv,hr⟩
  ·rw [List.getElem?_set_ne hj] at e
   exact W.V j bv e,W.gens,W.drawn,W.os,W.ex,W.fa,W.lk,W.cl,W.km⟩
theorem StE.publish {μ:Mem} {adr:List Addr} {s:Shared} {cs:List Led} {p1 p2:Led} {m:Str→Option Value} {D:Addr} {oD:Obj} {o:AO} (S:StE g x Γ μ adr s cs (p1 ++ (D,oD) :: p2) m) (hx:x.Ok g d) (hc:CR g x.fd (adr ++ [D]) [(D,oD)] o) (hd: ∀ v,oD.data≠ .cell v) (hl:x.env.locals≠D) (hn: ∀ p∈x.need,p.1≠D) :
  StE g x Γ (μ ++ [o]) (adr ++ [D]) s (cs ++ [[(D,oD)]]) (p1 ++ p2) m:=by
 have same: ∀ q:Obj,(D,q)∈p1 ++ (D,oD) :: p2→q=oD:=λ q hq=>by
  have h1:=(S.N (D,q) (List.mem_append_right _ hq)).1
  have h2:=(S.N (D,oD) (List.mem_append_right _ (by simp))).1
  have h1:s.heap.get? D=some q:=h1
  rw [h2] at h1;exact (Option.some.inj h1).symm
 have key: ∀ q,q∈p1 ++ (D,oD) :: p2→q.1≠D→q∈p1 ++ p2:=λ q hq hne=>by
  rcases List.mem_append.mp hq with h | h
  ·exact List.mem_append_left _ h
  ·rcases List.mem_cons.mp h with h | h
   ·exact absurd (by rw [h]) hne
   ·exact List.mem_append_right _ h
 have noc: ∀ c (o:Obj) v,(c,o)∈p1 ++ (D,oD) :: p2→o.data= .cell v→c≠D:=λ c o v hm hdd q=>by
  subst q;rw [same _ hm] at hdd;exact hd v hdd
 have pre:adr <+: adr ++ [D]:=⟨_,rfl⟩
 have pm:((cs ++ [[(D,oD)]]).flatten ++ (p1 ++ p2)).Perm (cs.flatten ++ (p1 ++ (D,oD) :: p2)):=by
  simp only [List.flatten_append,List.flatten_cons,List.flatten_nil,List.append_nil,List.append_assoc]
  exact List.Perm.append_left _ (by simpa using List.perm_middle.symm)
 refine ⟨S.F,λ p hp=>S.N p (pm.mem_iff.mp hp),(pm.map (·.1)).nodup_iff.mpr S.nd,by simp [S.ha,hd1],(S.C.mono λ _ _=>CR.pre pre).app (.cons hc .nil),λ i av e=> ?_,S.gens,S.drawn,S.os,λ p hp=>(S.ex p hp).imp id λ h=>key _ h (hn p hp),hx.mono _ _ pre S.fa,λ p hp=> ?_,λ n c e1 e2=> ?_,S.km⟩
 ·obtain ⟨n,k,v,a1,a2,a3⟩:=S.V i av e
  refine ⟨n,k,v,a1,?_,a3.pre pre⟩
  cases a2 with
  | loc b1 b2=>exact .loc b1 b2
  | cloc b1 b2 b3 b4=>exact .cloc (key _ b1 hl) b2 b3 b4
  | cell b1 b2 b3=>exact .cell b1 (b2.imp id λ h=>key _ h (noc _ _ _ h b3)) b3
  | free b1 b2 b3=>exact .free b1 (b2.imp id λ h=>key _ h (noc _ _ _ h b3)) b3
 ·obtain ⟨a1,o,a2,a3⟩:=S.lk p hp
  have l1:=(List.getElem?_eq_some_iff.mp a1).1
  have l2:=(List.getElem?_eq_some_iff.mp a2).1
  exact ⟨by rw [List.getElem?_append_left l1];exact a1,o,by rw [List.getElem?_append_left l2];exact a2,a3⟩
 ·obtain ⟨o',v₀,h1,h2⟩:=S.cl n c e1 e2
  exact ⟨o',v₀,key _ h1 (noc _ _ _ h1 h2),h2⟩
end
section
variable {g:Gd} {x:Cx} {Γ Γ' Γc:Cx0} {d:Nat} {fr z:Bool} {sc:Scope}
inductive CTests (g:Gd) (d:Nat) (sc':Scope) (Γ0:Cx0) (i:Nat):List PySem.Expr→(AV→M Bool)→Prop
 | nil:CTests g d sc' Γ0 i [] (λ _=>rt true)
 | one {c:PySem.Expr} {t:AV→M Bool}:(∀ w,RC g false d sc' (Γ0.set i (some w)) c (t w))→CTests g d sc' Γ0 i [c] t
theorem CTests.run {csc:Scope} {Γ0:Cx0} {i:Nat} {ifs:List PySem.Expr} {t:AV→M Bool} (h:CTests g d (relabS csc sc) Γ0 i ifs t) {x':Cx} (hx:x'.Ok g d) (hsc:x'.env.scope=relabS csc sc) {w:AV} {μ:Mem} {adr:List Addr} {s:Shared} (S:St g x' (Γ0.set i (some w)) μ adr s) :
  Does g x' (Γ0.set i (some w)) (λ _ a b=>a=b) (forIn ifs true λ c r=>if r=true then do let ok ← isTrue c x'.env (eval c x'.env);pure (ForInStep.yield ok) else pure (ForInStep.yield r)) (t w) μ adr s:=by
 cases h with
 | nil =>
  intro b μ' e
  cases e
  exact wpAny_tests_nil ⟨adr,List.prefix_refl _,S,rfl⟩
 | one h =>
  intro b μ' e
  exact wpAny_tests_one (h w x' hx hsc (λ q=>by cases q) μ adr s S b μ' e)
theorem Ns_of {h:Heap} {C:Addr} {oC:Obj} {es:Array DictEntry} {ep:Nat} (hg:h.get? C=some oC) (hd:oC.data= .dict es ep) (hk:StrKeys es):h.Ns C (nsFind es):=⟨oC,es,ep,hg,hd,hk,λ _=>rfl⟩
theorem comp_run (hf:Facts g) (hx:x.Ok g d) (hsc:x.env.scope=sc) (hfr:x.env=x.fenv) {csc:Scope} {v:Str} {i:Nat} {px pos:Pos} {iter elt:PySem.Expr} {ifs:List PySem.Expr} {test:AV→M Bool} {eltM:AV→M AV} {Γ0:Cx0} (hc:CScope sc csc v i) (hT:Takes sc csc Γ Γ0) (hi: ∀ av,Γ0[i]? ≠some (some av))
  (ht:CTests g d (relabS csc sc) Γ0 i ifs test) (he: ∀ w,RE g false d (relabS csc sc) (Γ0.set i (some w)) elt (eltM w)) {items:List AV} {ck:M Unit} {Jt:Nat→Obj→Prop} {adr₀:List Addr} {s₀:Shared} {μ₀ μ':Mem} {cs₀:List Led} {pl₀:Led} {m₀:Str→Option Value} {oI0:Obj} {zs:List AV}
  (Z:StE g x Γ μ₀ adr₀ s₀ cs₀ pl₀ m₀) (hst:Steps g x adr₀ s₀.heap.objs.size items ck Jt) (hfree:oI0.isFreed=false) (hJ:Jt 0 oI0) (hlen:items.length≤big) (e₀:goC ck test eltM items [] μ₀=some (zs,μ')) {E:Value→Shared→Prop} {RR:Value→Addr→Result→Shared→Prop}
  (hRR: ∀ D C s',(∃ adr' cs' p1 p2 oC es ep ys n,adr₀ <+: adr'∧StE g {x with need:=(C,oC) :: x.need} Γ μ' adr' s' cs' (p1 ++ (D,W.listOf ys.toArray n) :: p2) m₀∧F2 (VR x.fd adr') ys zs∧zs.length≤big∧(C,oC)∈p1 ++ (D,W.listOf ys.toArray n) :: p2∧oC.data= .dict es ep∧StrKeys es∧C≠D∧s₀.heap.objs.size≤C∧s₀.heap.objs.size≤D)→RR (.ref D) C (.ok .next) s') :
  wpAny (model g.prog g.w) x.A (newList []) (λ acc s₃=>wpAny (model g.prog g.w) x.A (newFunctionEnv csc x.env.globals (closOf x.env.cells csc.names []) [] x.env.qual none .none (some x.env)) (λ cenv s₄ =>
   codeAny (model g.prog g.w) x.A (.compStart (.ListComp elt [⟨.Name v px,iter,ifs,0⟩] csc pos) 0 (.ref s₀.heap.objs.size) acc {cenv with scope:=relabel csc x.env}) (RR acc cenv.locals) s₄) E s₃) E {s₀ with heap:=s₀.heap.push oI0}:=by
 subst hsc
 have hloc:x.env.locals=x.L:=by rw [hfr];exact hx.floc
 have Z1:=Z.priv oI0 (lks:=x.lks) hfree Z.lk
 generalize hI:s₀.heap.objs.size=I at *
 refine wpAny_newObj_type ?_
 have Z2:=Z1.priv {cls:= .type "list",data:= .seq ([]:List Value).toArray} (lks:=x.lks) rfl Z1.lk
 obtain ⟨fI1,fI2,fI3,fI4⟩:=fresh_facts hx Z (I:=I) (Nat.le_of_eq hI)
 have hD0:s₀.heap.objs.size≤(s₀.heap.push oI0).objs.size:=by rw [Heap.size_push];exact Nat.le_succ _
 have hDI:(s₀.heap.push oI0).objs.size≠I:=by rw [Heap.size_push,hI];exact Nat.succ_ne_self I
 generalize hD:(s₀.heap.push oI0).objs.size=D at *
 obtain ⟨fD1,fD2,fD3,fD4⟩:=fresh_facts hx Z (I:=D) hD0
 refine wpAny_newFunctionEnv hc.nocell (by intro y hy;simp at hy) (λ h₁ hns₁ hsb₁=> ?_) hc.kind
 dsimp only at hns₁ hsb₁ ⊢
 have Z3:=Z2.priv {cls:= .type "dict",data:= .dict #[]} (lks:=x.lks) rfl Z2.lk
 have hC0:s₀.heap.objs.size≤((s₀.heap.push oI0).push {cls:= .type "list",data:= .seq ([]:List Value).toArray}).objs.size:=by rw [Heap.size_push,hD];exact Nat.le_succ_of_le hD0
 have hCD:((s₀.heap.push oI0).push {cls:= .type "list",data:= .seq ([]:List Value).toArray}).objs.size≠D:=by rw [Heap.size_push,hD];exact Nat.succ_ne_self D
 have hCI:((s₀.heap.push oI0).push {cls:= .type "list",data:= .seq ([]:List Value).toArray}).objs.size≠I:=by
  rw [Heap.size_push,Heap.size_push,hI]
  exact λ q=>Nat.lt_irrefl I (Nat.lt_of_lt_of_le (Nat.lt_succ_of_lt (Nat.lt_succ_self I)) (Nat.le_of_eq q))
 generalize hC:((s₀.heap.push oI0).push {cls:= .type "list",data:= .seq ([]:List Value).toArray}).objs.size=C at *
 obtain ⟨fC1,fC2,fC3,fC4⟩:=fresh_facts hx Z (I:=C) hC0
 obtain ⟨oC,esC,epC,hgC,hdC,hkC, -⟩:=hns₁
 have Z4:=StE.swap (p1:=[]) (r:=[(C,oC)]) (h':=h₁) (tk:=s₀.toks+([]:List (Str × Value)).length) (nd:=(C,oC) :: (D,_) :: (I,oI0) :: x.need) Z3 (.inr ⟨oC,rfl,hgC⟩) hsb₁.extBut (λ v q=>by cases q) (.inl (by rw [show x.env.locals=x.L from hloc];exact fC2)) (λ p hp=>by
  rcases List.mem_cons.mp hp with rfl | hp
  ·exact .inl (by simp)
  ·refine .inr ⟨.tail _ hp,?_⟩
   rcases List.mem_cons.mp hp with rfl | hp
   ·exact hCD.symm
   ·rcases List.mem_cons.mp hp with rfl | hp
    ·exact hCI.symm
    ·exact fC3 p hp)
 have cls:CScope x.env.scope csc v i:=hc
 let nb:Led:=pl₀ ++ x.need
 let oD0:Obj:= {cls:= .type "list",data:= .seq ([]:List Value).toArray}
 have W0:=StE.cin (x:=x) (C:=C) (csc:=csc) (nd:=(C,oC) :: (D,oD0) :: (I,oI0) :: nb) (StE.move (x:= {x with need:=(C,oC) :: (D,oD0) :: (I,oI0) :: x.need}) (x':=x) rfl rfl rfl rfl rfl rfl rfl Z4 (λ p hp=>Z4.ex p (.tail _ (.tail _ (.tail _ hp)))) Z4.lk) hx hc hT (λ p hp=>by
  rcases List.mem_cons.mp hp with rfl | hp
  ·exact .inr (by simp)
  ·rcases List.mem_cons.mp hp with rfl | hp
   ·exact .inr (by simp [oD0])
   ·rcases List.mem_cons.mp hp with rfl | hp
    ·exact .inr (by simp)
    ·rcases List.mem_append.mp hp with h | h
     ·exact .inr (by simp [h])
     ·exact (Z.ex p h).imp id λ h=>by simp [h])
 have okc: ∀ oC oD oI,(ccx x csc C ((C,oC) :: (D,oD) :: (I,oI) :: nb) m₀).Ok g d:=λ oC oD oI=>ccx_Ok hf hx hc fC2.symm λ p hp=>by simp [nb,hp]
 have eqE:cenv x csc C= {(newEnv csc C x.env.globals (closOf x.env.cells csc.names []) x.env.qual none Value.none (some x.env) 0) with scope:=relabel csc x.env}:=rfl
 have scE:(cenv x csc C).scope=relabS csc x.env.scope:=relabel_eq
 have kv:(cenv x csc C).kindOf v=some .local:=by
  show (relabel csc x.env).names.lookup v=_
  rw [relabel_eq]
  exact lookup_idx (by rw [relab_names hc];exact hc.nd) (relab_local hc hc.iv)
 have nbC: ∀ p∈nb,p.1≠C∧p.1≠D∧p.1≠I:=λ p hp=>by
  rcases List.mem_append.mp hp with h | h
  ·have:=Z.lt p (List.mem_append_right _ h)
   refine ⟨λ q=> ?_,λ q=> ?_,λ q=> ?_⟩
   ·exact Nat.lt_irrefl _ (Nat.lt_of_lt_of_le (q ▸ this) hC0)
   ·exact Nat.lt_irrefl _ (Nat.lt_of_lt_of_le (q ▸ this) hD0)
   ·exact Nat.lt_irrefl _ (Nat.lt_of_lt_of_le (q ▸ this) (Nat.le_of_eq hI))
  ·exact ⟨fC3 p h,fD3 p h,fI3 p h⟩
 have loop:codeAny (model g.prog g.w) x.A (.compLoop (.ListComp elt [⟨.Name v px,iter,ifs,0⟩] csc pos) 0 (.ref I) (.ref D) (cenv x csc C)) (RR (.ref D) C) {s₀ with heap:=h₁,toks:=s₀.toks+([]:List (Str × Value)).length}:=by
  refine codeAny_compLoop_tests (λ k s'=> ∃ j acc ys μ adr cs pl oI oC es ep n,k=items.length - j∧adr₀ <+: adr∧StE g (ccx x csc C ((C,oC) :: (D,W.listOf ys.toArray n) :: (I,oI) :: nb) m₀) Γ0 μ adr s' cs pl m₀∧Jt j oI∧F2 (VR x.fd adr) ys acc∧acc.length≤j∧j≤items.length∧oC.data= .dict es ep∧StrKeys es∧goC ck test eltM (items.drop j) acc μ=some (zs,μ'))
   (λ k s' hk=> ?_) (items.length - 0) ⟨0,[],[],μ₀,adr₀,cs₀,_,oI0,oC,esC,epC,0,rfl,List.prefix_refl _,W0,hJ, .nil,Nat.le_refl _,Nat.zero_le _,hdC,hkC,by simpa using e₀⟩
  obtain ⟨j,acc,ys,μ,adr,cs,pl,oI,oC,es,ep,n,rfl,pa,S,hJ,hys,hacc,hjl,hdC,hkC,e⟩:=hk
  have hmI:(I,oI)∈pl:=(S.ex (I,oI) (by simp)).resolve_left λ q=>by rw [show x.h₀.get? I=none from fI1] at q;cases q
  cases hit:items[j]? with
  | none =>
   have hdr:items.drop j=[]:=List.drop_eq_nil_of_le (List.getElem?_eq_none_iff.mp hit)
   rw [hdr] at e
   obtain ⟨u,μ₁,e1,e2⟩:=bd_some (show bd ck _ μ=_ from e)
   have hck:=ck_unit hst.ckp e1
   have:=hst.ckp _ _ _ e1
   subst this
   cases e2
   refine ends_nof (hst.done (ccx x csc C ((C,oC) :: (D,W.listOf ys.toArray n) :: (I,oI) :: nb) m₀) rfl rfl _ j _ adr s' cs _ _ oI S pa hmI hJ hck hit _ λ h' tk hk=> ?_)
   obtain ⟨q1,q2,rfl⟩:=List.append_of_mem hmI
   have S1:=StE.swap (x:=ccx x csc C ((C,oC) :: (D,W.listOf ys.toArray n) :: (I,oI) :: nb) m₀) (r:=[]) (tk:=tk) (nd:=(C,oC) :: (D,W.listOf ys.toArray n) :: nb) S (.inl rfl) hk (hst.dat _ _ hJ) (.inl hCI) λ p hp=> .inr (by
    rcases List.mem_cons.mp hp with rfl | hp
    ·exact ⟨by simp,hCI⟩
    ·rcases List.mem_cons.mp hp with rfl | hp
     ·exact ⟨by simp,hDI⟩
     ·exact ⟨by simp [hp],(nbC p hp).2.2⟩)
   have W1:=StE.cout (x:=x) (nd':=(C,oC) :: (D,W.listOf ys.toArray n) :: x.need) Z S1 pa (λ p hp=>by simp [nb,hp]) λ p hp=>by
    rcases List.mem_cons.mp hp with rfl | hp
    ·exact .inr ⟨by simp,fC1⟩
    ·rcases List.mem_cons.mp hp with rfl | hp
     ·exact .inr ⟨by simp,fD1⟩
     ·exact .inl hp
   have hmD:(D,W.listOf ys.toArray n)∈q1 ++ ([] ++ q2):=(W1.ex (D,_) (by simp)).resolve_left λ q=>by rw [show x.h₀.get? D=none from fD1] at q;cases q
   have hmC:(C,oC)∈q1 ++ ([] ++ q2):=(W1.ex (C,oC) (by simp)).resolve_left λ q=>by rw [show x.h₀.get? C=none from fC1] at q;cases q
   generalize q1 ++ ([] ++ q2)=qq at *
   obtain ⟨p1,p2,rfl⟩:=List.append_of_mem hmD
   have W2:=StE.move (x:= {x with need:=(C,oC) :: (D,W.listOf ys.toArray n) :: x.need}) (x':= {x with need:=(C,oC) :: x.need}) rfl rfl rfl rfl rfl rfl rfl W1 (λ p hp=>W1.ex p (by
    rcases List.mem_cons.mp hp with rfl | hp
    ·simp
    ·simp [hp])) W1.lk
   exact hRR _ _ _ ⟨adr,cs,p1,p2,oC,es,ep,ys,n,pa,W2,hys,Nat.le_trans (Nat.le_trans hacc hjl) hlen,hmC,hdC,hkC,hCD,by rw [← hI];exact hC0,by rw [← hI];exact hD0⟩
  | some a =>
   have hjl':j < items.length:=(List.getElem?_eq_some_iff.mp hit).1
   have hdr:items.drop j=a :: items.drop (j+1):=by
    rw [List.drop_eq_getElem_cons hjl']
    rw [(List.getElem?_eq_some_iff.mp hit).2]
   rw [hdr] at e
   obtain ⟨u,μ₁,e1,e2⟩:=bd_some (show bd ck _ μ=_ from e)
   have hck:=ck_unit hst.ckp e1
   have:=hst.ckp _ _ _ e1
   subst this
   obtain ⟨b,μ₂,e2,e3⟩:=bd_some e2
   refine ends_nof (hst.item (ccx x csc C ((C,oC) :: (D,W.listOf ys.toArray n) :: (I,oI) :: nb) m₀) rfl rfl _ j _ adr s' cs _ _ oI S pa hmI hJ hck a hit _ λ w h' oI' tk hw hJ' hg' hk=> ?_)
   obtain ⟨q1,q2,rfl⟩:=List.append_of_mem hmI
   have S1:=StE.swap (x:=ccx x csc C ((C,oC) :: (D,W.listOf ys.toArray n) :: (I,oI) :: nb) m₀) (r:=[(I,oI')]) (tk:=tk) (nd:=(C,oC) :: (D,W.listOf ys.toArray n) :: (I,oI') :: nb) S (.inr ⟨oI',rfl,hg'⟩) hk (hst.dat _ _ hJ) (.inl hCI) λ p hp=>by
    rcases List.mem_cons.mp hp with rfl | hp
    ·exact .inr ⟨by simp,hCI⟩
    ·rcases List.mem_cons.mp hp with rfl | hp
     ·exact .inr ⟨by simp,hDI⟩
     ·rcases List.mem_cons.mp hp with rfl | hp
      ·exact .inl (by simp)
      ·exact .inr ⟨by simp [hp],(nbC p hp).2.2⟩
   have hmC:(C,oC)∈q1 ++ ([(I,oI')] ++ q2):=(S1.ex (C,oC) (by simp)).resolve_left λ q=>by rw [show x.h₀.get? C=none from fC1] at q;cases q
   generalize q1 ++ ([(I,oI')] ++ q2)=qq at *
   have hgC:=(S1.N _ (List.mem_append_right _ hmC)).1
   refine ends_nof (wpAny_assign_Name (wpAny_storeName_local kv (Ns_of hgC hdC hkC) (λ h₂ hn₂ hs₂=> ?_) (by show (csc.kind == .class || (csc.kind == .module && _))=false;rw [hc.kind];rfl)))
   obtain ⟨oC',es',ep',hgC',hdC',hkC',hfC'⟩:=hn₂
   obtain ⟨p1,p2,rfl⟩:=List.append_of_mem hmC
   have S2:=StE.swap (x:=ccx x csc C ((C,oC) :: (D,W.listOf ys.toArray n) :: (I,oI') :: nb) m₀) (r:=[(C,oC')]) (tk:=tk+1) (nd:=(C,oC') :: (D,W.listOf ys.toArray n) :: (I,oI') :: nb) S1 (.inr ⟨oC',rfl,hgC'⟩) hs₂.extBut (λ v q=>by rw [hdC] at q;cases q) (.inr (λ jj av ej nn en=>by
     obtain ⟨nn',i',h1,h2,h3⟩:=hT jj av ej
     have en:(relabel csc x.env).names[jj]? =some (nn,NameKind.local):=en
     rw [relabel_eq,relab_free hc h1] at en
     cases en)) λ p hp=>by
    rcases List.mem_cons.mp hp with rfl | hp
    ·exact .inl (by simp)
    ·rcases List.mem_cons.mp hp with rfl | hp
     ·exact .inr ⟨by simp,hCD.symm⟩
     ·rcases List.mem_cons.mp hp with rfl | hp
      ·exact .inr ⟨by simp,hCI.symm⟩
      ·exact .inr ⟨by simp [hp],(nbC p hp).1⟩
   have hmC':(C,oC')∈p1 ++ ([(C,oC')] ++ p2):=by simp
   generalize p1 ++ ([(C,oC')] ++ p2)=qq2 at *
   have S3:=StE.cset (x:=x) (v:=v) (i:=i) (w:=w) (a:=a) (es:=es'.toList) S2 hc hmC' (by simpa using hdC') (by simpa using hkC') (by have:=hfC' v;simpa using this) hw hi
   have okk:=okc oC' (W.listOf ys.toArray n) oI'
   have St3:St g (ccx x csc C ((C,oC') :: (D,W.listOf ys.toArray n) :: (I,oI') :: nb) m₀) (Γ0.set i (some a)) _ adr _:=⟨_,_,_,S3⟩
   refine ends_nof (wpAny_mono (ht.run okk scE St3 b μ₂ e2) (λ b' s₃ ⟨adr₃,p3,St4,hbb⟩=> ?_) λ _ _ z=>z)
   subst hbb
   have sub0:Sub Γ0 (Γ0.set i (some a)):=λ jj av ej=>by
    by_cases hji:i=jj
    ·subst hji;exact absurd ej (hi av)
    ·rw [List.getElem?_set_ne hji];exact ej
   cases b' with
   | false =>
    simp only [Bool.false_eq_true,if_false] at e3 ⊢
    obtain ⟨cs4,pl4,m4,Z4⟩:=St4
    have hm4:m4=m₀:=Z4.km _ rfl
    subst hm4
    exact ⟨items.length - (j+1),by omega,j+1,acc,ys,μ₂,adr₃,cs4,pl4,oI',oC',es',ep',n,rfl,pa.trans p3,Z4.sub sub0,hJ',hys.mono λ _ _=>VR.pre p3,by omega,hjl',hdC',hkC',e3⟩
   | true =>
    simp only [if_true] at e3 ⊢
    obtain ⟨y,μ₃,e3,e4⟩:=bd_some e3
    refine ends_nof (wpAny_mono (he a _ okk scE (λ q=>by cases q) μ₂ adr₃ s₃ St4 y μ₃ e3) (λ vy s₄ ⟨adr₄,p4,St5,hy⟩=> ?_) λ _ _ z=>z)
    obtain ⟨cs5,pl5,m5,Z5⟩:=St5
    have hm5:m5=m₀:=Z5.km _ rfl
    subst hm5
    have hmD:(D,W.listOf ys.toArray n)∈pl5:=(Z5.ex (D,_) (by simp)).resolve_left λ q=>by rw [show x.h₀.get? D=none from fD1] at q;cases q
    have hgD:=(Z5.N _ (List.mem_append_right _ hmD)).1
    have hyl:=hys.len
    refine ends_nof (wpAny_list_append_plain (hsz:=by simp only [List.size_toArray];rw [sizeLine_eq];unfold big at hlen;omega) ⟨n,hgD⟩ λ h₅ hl₅ hs₅=> ?_)
    obtain ⟨n',hgD'⟩:=hl₅
    obtain ⟨r1,r2,rfl⟩:=List.append_of_mem hmD
    have hgD'':h₅.get? D=some (W.listOf (ys ++ [vy]).toArray n'):=by rw [hgD',List.push_toArray]
    have S6:=StE.swap (x:=ccx x csc C ((C,oC') :: (D,W.listOf ys.toArray n) :: (I,oI') :: nb) m5) (r:=[(D,W.listOf (ys ++ [vy]).toArray n')]) (tk:=s₄.toks) (nd:=(C,oC') :: (D,W.listOf (ys ++ [vy]).toArray n') :: (I,oI') :: nb) Z5 (.inr ⟨_,rfl,hgD''⟩) hs₅.extBut (λ v q=>by cases q) (.inl hCD) λ p hp=>by
     rcases List.mem_cons.mp hp with rfl | hp
     ·exact .inr ⟨by simp,hCD⟩
     ·rcases List.mem_cons.mp hp with rfl | hp
      ·exact .inl (by simp)
      ·rcases List.mem_cons.mp hp with rfl | hp
       ·exact .inr ⟨by simp,hDI.symm⟩
       ·exact .inr ⟨by simp [hp],(nbC p hp).2.1⟩
    exact ⟨items.length - (j+1),by omega,j+1,acc ++ [y],ys ++ [vy],μ₃,adr₄,cs5,_,oI',oC',es',ep',n',rfl,(pa.trans p3).trans p4,S6.sub sub0,hJ',(hys.mono λ _ _=>VR.pre (p3.trans p4)).app (.cons hy .nil),by simp;omega,hjl',hdC',hkC',e4⟩
 exact codeAny_compStart_list loop (hst.self _ 0 oI0 (W0.N (I,oI0) (List.mem_append_right _ (by simp))).1 hJ _ _ loop)
end
section
variable {g:Gd} {x:Cx} {Γ Γ' Γc:Cx0} {d:Nat} {fr z:Bool} {sc:Scope}
def CompEnd (g:Gd) (x:Cx) (Γ:Cx0) (b:AV) (μ':Mem) (adr₁:List Addr) (D C:Addr) (s':Shared):Prop :=
 ∃ adr' cs' pl' oC es ep m,adr₁ <+: adr'∧StE g {x with need:=(C,oC) :: x.need} Γ μ' adr' s' cs' pl' m∧VR x.fd adr' (.ref D) b∧(C,oC)∈pl'∧oC.data= .dict es ep∧StrKeys es∧x.L≠C∧(∀ p∈x.need,p.1≠C)∧(∀ n c,x.env.scope.names.lookup n=some .cell→x.env.cells.lookup n=some c→C≠c)
theorem CompEnd.drop {b:AV} {μ':Mem} {adr₁:List Addr} {D C:Addr} {s':Shared} (hx:x.Ok g d) (hfr:x.env=x.fenv) (h:CompEnd g x Γ b μ' adr₁ D C s') :
  ∃ m,s'.heap.Ns C m∧ ∀ h',Heap.SameBut C s'.heap h'→ ∃ adr',adr₁ <+: adr'∧St g x Γ μ' adr' {s' with heap:=h'}∧VR x.fd adr' (.ref D) b:=by
 obtain ⟨adr',cs',pl',oC,es,ep,m,pa,S,hv,hm,hd,hk,h1,h2,h3⟩:=h
 refine ⟨_,Ns_of (S.N _ (List.mem_append_right _ hm)).1 hd hk,λ h' hs=>⟨adr',pa,?_,hv⟩⟩
 obtain ⟨p1,p2,rfl⟩:=List.append_of_mem hm
 exact ⟨cs',_,m,StE.swap (x:= {x with need:=(C,oC) :: x.need}) (r:=[]) (tk:=s'.toks) (nd:=x.need) S (.inl rfl) hs.extBut (λ v q=>by rw [hd] at q;cases q) (.inl (by
  show x.env.locals≠C
  rw [hfr,hx.floc];exact h1)) λ p hp=> .inr ⟨.tail _ hp,h2 p hp⟩⟩
theorem comp_src (hf:Facts g) (hx:x.Ok g d) (hsc:x.env.scope=sc) (hfr:x.env=x.fenv) {csc:Scope} {v:Str} {i:Nat} {px pos:Pos} {iter elt:PySem.Expr} {ifs:List PySem.Expr} {test:AV→M Bool} {eltM:AV→M AV} {Γ0:Cx0} (hc:CScope sc csc v i) (hT:Takes sc csc Γ Γ0) (hi: ∀ av,Γ0[i]? ≠some (some av))
  (ht:CTests g d (relabS csc sc) Γ0 i ifs test) (he: ∀ w,RE g false d (relabS csc sc) (Γ0.set i (some w)) elt (eltM w)) {Gv:AV→Cx0} {va:Value} {a b:AV} {adr₁:List Addr} {s₁:Shared} {μ₁ μ':Mem} (S1:St g x Γ μ₁ adr₁ s₁) (r1:VR x.fd adr₁ va a) (e2:comp Gv a test eltM μ₁=some (b,μ'))
  {E:Value→Shared→Prop} {RR:Value→Addr→Result→Shared→Prop} (hRR: ∀ D C s',CompEnd g x Γ b μ' adr₁ D C s'→RR (.ref D) C (.ok .next) s') :
  wpAny (model g.prog g.w) x.A (pyIter va) (λ it s₂=>wpAny (model g.prog g.w) x.A (newList []) (λ acc s₃=>wpAny (model g.prog g.w) x.A (newFunctionEnv csc x.env.globals (closOf x.env.cells csc.names []) [] x.env.qual none .none (some x.env)) (λ cenv s₄ =>
   codeAny (model g.prog g.w) x.A (.compStart (.ListComp elt [⟨.Name v px,iter,ifs,0⟩] csc pos) 0 it acc {cenv with scope:=relabel csc x.env}) (RR acc cenv.locals) s₄) E s₃) E s₂) E s₁:=by
 obtain ⟨k,rfl⟩: ∃ k,a= .obj k:=by cases a <;> first | exact ⟨_,rfl⟩ | cases e2
 obtain ⟨o,μ₂,e2,e3⟩:=bd_some (show bd (rd k) _ μ₁=_ from e2)
 obtain ⟨ho,rfl⟩:=rd_some e2
 obtain ⟨items,μ₃,e3,e4⟩:=bd_some e3
 obtain ⟨hki,rfl⟩:=opt_some e3
 split at e4
 case isFalse=>cases e4
 rename_i hlen
 obtain ⟨ys',μ₅,f4,e6⟩:=bd_some e4
 obtain ⟨rfl,rfl⟩:=al_inv e6
 obtain ⟨hul,μ₄,e5,h6,rfl⟩:=walked_some f4
 obtain ⟨cs,pl,m,Z⟩:=S1
 have hkn:=lks_ne Z ho hul
 have fin: ∀ (x1:Cx),x1=x∨(∃ c,x1= {x with need:=x.need,lks:=(k,c) :: x.lks}∧(∀ adr,CR g x.fd adr c o.lock→CR g x.fd adr c o)∧o.lock.locked=true)→(x1=x→o.lock=o)→ ∀ D C s',(∃ adr' cs' p1 p2 oC es ep ys n,adr₁ <+: adr'∧StE g {x1 with need:=(C,oC) :: x1.need} Γ μ₄ adr' s' cs' (p1 ++ (D,W.listOf ys.toArray n) :: p2) m∧F2 (VR x1.fd adr') ys ys'∧ys'.length≤big∧(C,oC)∈p1 ++ (D,W.listOf ys.toArray n) :: p2∧oC.data= .dict es ep∧StrKeys es∧C≠D∧s₁.heap.objs.size≤C∧s₁.heap.objs.size≤D) →
   RR (.ref D) C (.ok .next) s':=by
  rintro x1 hx1 hlo D C s' ⟨adr',cs',p1,p2,oC,es,ep,ys,n,pa,S,q1,q2,q3,q4,q5,q6,q7,q8⟩
  obtain ⟨fC1,fC2,fC3,fC4⟩:=fresh_facts hx Z q7
  obtain ⟨fD1,fD2,fD3,fD4⟩:=fresh_facts hx Z q8
  have S2:StE g {x with need:=(C,oC) :: x.need} Γ (μ₄.set k o) adr' s' cs' (p1 ++ (D,W.listOf ys.toArray n) :: p2) m:=by
   rcases hx1 with rfl | ⟨c,rfl,hcv,hll⟩
   ·have:μ₄.set k o=μ₄:=by rw [hlo rfl] at h6;exact set_self h6
    rw [this];exact S
   ·exact lock_out (x:= {x with need:=(C,oC) :: x.need}) S h6 (hcv _) hkn
  have hfd:x1.fd=x.fd:=by rcases hx1 with rfl | ⟨c,rfl,_⟩ <;> rfl
  rw [hfd] at q1
  have okC:({x with need:=(C,oC) :: x.need,lks:=x.lks}:Cx).Ok g d:=Ok_need hf hx (λ p hp=> .tail _ hp) λ p hp=>by
   rcases List.mem_cons.mp hp with rfl | hp
   ·exact .inr fC4
   ·exact .inl hp
  have hlen':ys.length=ys'.length:=q1.len
  have S3:=StE.publish (x:= {x with need:=(C,oC) :: x.need}) S2 okC (CR.list (n:=n) (q1.mono λ _ _=>VR.pre ⟨_,rfl⟩) q2) (λ v q=>by cases q) (by
   show x.env.locals≠D
   rw [hfr,hx.floc];exact fD2) (λ p hp=>by
   rcases List.mem_cons.mp hp with rfl | hp
   ·exact q6
   ·exact fD3 p hp)
  refine hRR D C s' ⟨adr' ++ [D],_,_,oC,es,ep,m,pa.trans ⟨_,rfl⟩,S3,?_,?_,q4,q5,fC2,fC3,fC4⟩
  ·exact .last (by rw [S2.ladr])
  ·rcases List.mem_append.mp q3 with h | h
   ·exact List.mem_append_left _ h
   ·rcases List.mem_cons.mp h with h | h
    ·exact absurd (Prod.mk.inj h).1 q6
    ·exact List.mem_append_right _ h
 cases o with
 | inst c fs=>cases hki
 | tup xs=>cases hki
 | list xs =>
  cases hki
  obtain ⟨ad,vs,nn,rfl,hcc,q1,q2,L1⟩:=Z.listAt r1 ho
  have had:adr₁[k]? =some ad:=by cases r1;assumption
  rw [show List.set _ k (AO.list items).lock=_ from set_self ho] at e5
  refine wpAny_pyIter_list L1 ?_
  exact comp_run hf hx hsc hfr hc hT hi ht he Z (steps_list hx.hnd had) rfl ⟨rfl,rfl⟩ hlen e5 (fin x (.inl rfl) λ _=>rfl)
 | dI lk es =>
  cases hki
  have hul':lk=false:=hul
  subst hul'
  cases r1
  rename_i ad had
  obtain ⟨ch,hcc,hr⟩:=Z.chunk ho
  have had':=Z.adr_of hcc had
  cases hr with
  | @dI ad' od _ kvs _ q1 q2 q3 q4 =>
  simp only [hd1] at had';subst had'
  obtain ⟨ep,hK⟩:=KdkAt.of q1
  refine wpAny_pyIter_dict q3 (hK.dictAt (Z.N _ (mem1 hcc)).1) ?_
  have Z2:=lock_in Z hcc ho rfl rfl (.dI q1 q2 q3 q4)
  have hx2:({x with need:=x.need,lks:=(k,[(ad',od)]) :: x.lks}:Cx).Ok g d:=Ok_need hf hx (λ p hp=>hp) λ p hp=> .inl hp
  exact comp_run (x:= {x with need:=x.need,lks:=(k,[(ad',od)]) :: x.lks}) hf hx2 hsc hfr hc hT hi ht he Z2 (steps_keys (x:= {x with need:=x.need,lks:=(k,[(ad',od)]) :: x.lks}) hx.hnd (.head _) hK (by simp [q2.len]) (key_items_I q2)) rfl ⟨rfl,rfl⟩ hlen e5 (fin _ (.inr ⟨_,rfl,λ _=>conv_I,rfl⟩) λ q=>by
   exfalso
   have:=congrArg Cx.lks q
   have h2:((k,[(ad',od)]) :: x.lks).length=x.lks.length:=congrArg List.length this
   simp at h2)
 | dS lk es =>
  cases hki
  have hul':lk=false:=hul
  subst hul'
  cases r1
  rename_i ad had
  obtain ⟨ch,hcc,hr⟩:=Z.chunk ho
  have had':=Z.adr_of hcc had
  cases hr with
  | @dS ad' od _ kvs _ q1 q2 q3 q4 =>
  simp only [hd1] at had';subst had'
  obtain ⟨ep,hK⟩:=KdkAt.of q1
  refine wpAny_pyIter_dict q3 (hK.dictAt (Z.N _ (mem1 hcc)).1) ?_
  have Z2:=lock_in Z hcc ho rfl rfl (.dS q1 q2 q3 q4)
  have hx2:({x with need:=x.need,lks:=(k,[(ad',od)]) :: x.lks}:Cx).Ok g d:=Ok_need hf hx (λ p hp=>hp) λ p hp=> .inl hp
  exact comp_run (x:= {x with need:=x.need,lks:=(k,[(ad',od)]) :: x.lks}) hf hx2 hsc hfr hc hT hi ht he Z2 (steps_keys (x:= {x with need:=x.need,lks:=(k,[(ad',od)]) :: x.lks}) hx.hnd (.head _) hK (by simp [q2.len]) (key_items_S q2)) rfl ⟨rfl,rfl⟩ hlen e5 (fin _ (.inr ⟨_,rfl,λ _=>conv_S,rfl⟩) λ q=>by
   exfalso
   have:=congrArg Cx.lks q
   have h2:((k,[(ad',od)]) :: x.lks).length=x.lks.length:=congrArg List.length this
   simp at h2)
theorem comp_clos (hx:x.Ok g d) {csc:Scope} {v:Str} {i:Nat} (hc:CScope x.env.scope csc v i):closureFor csc x.env=pure (closOf x.env.cells csc.names []):=closureFor_eq λ y hy hk=>hx.cs _ (hc.free y hy hk)
theorem comp_names {csc:Scope} {v:Str} {i:Nat} (hc:CScope sc csc v i): ∀ y∈csc.names,y.2= .local→csc.names.lookup y.1=some .local:=λ y hy hk=>by
 obtain ⟨j,hj⟩:=List.getElem?_of_mem hy
 exact lookup_idx hc.nd (by rw [hj,← hk])
theorem RE_comp (hf:Facts g) {csc:Scope} {v:Str} {i:Nat} {px pos:Pos} {iter elt:PySem.Expr} {ifs:List PySem.Expr} {src:M AV} {test:AV→M Bool} {eltM:AV→M AV} {Gv:AV→Cx0} (Γ0:Cx0) (hs:RE g true d sc Γ iter src) (hc:CScope sc csc v i) (hT:Takes sc csc Γ Γ0) (hi: ∀ av,Γ0[i]? ≠some (some av))
  (ht:CTests g d (relabS csc sc) Γ0 i ifs test) (he: ∀ w,RE g false d (relabS csc sc) (Γ0.set i (some w)) elt (eltM w)) (hfs: ∀ env x,foldedSetIterable iter env x=pure x:=by intro _ _;rfl) :
  RE g true d sc Γ (.ListComp elt [⟨.Name v px,iter,ifs,0⟩] csc pos) (bd src λ a=>comp Gv a test eltM):=by
 intro x hx hsc hfr μ adr s S b μ' e
 obtain ⟨a,μ₁,e1,e2⟩:=bd_some e
 have hc':CScope x.env.scope csc v i:=hsc ▸ hc
 rw [eval_ListComp]
 refine wpAny_comprehension_free (use:=none) rfl (hfs _) (comp_clos hx hc') hc.kind (comp_names hc') (wpAny_mono (hs x hx hsc hfr μ adr s S a μ₁ e1) (λ va s₁ ⟨adr₁,p1,S1,r1⟩=> ?_) λ _ _ z=>z)
 refine comp_src (RR:=λ acc C=>compPost (model g.prog g.w) x.A nof none _ acc C) hf hx hsc (hfr rfl) hc hT hi ht he S1 r1 e2 λ D C s' h=> ?_
 obtain ⟨m,h1,h2⟩:=h.drop hx (hfr rfl)
 refine ⟨m,h1,λ h' hs=> ?_⟩
 obtain ⟨adr',pa,S',r'⟩:=h2 h' hs
 exact ⟨adr',p1.trans pa,S',r'⟩
theorem RS_nameC (hf:Facts g) {ρ:Type} {G:ρ→Cx0} {csc:Scope} {v n:Str} {i j:Nat} {px q p pos:Pos} {iter elt:PySem.Expr} {ifs:List PySem.Expr} {src:M AV} {test:AV→M Bool} {eltM:AV→M AV} {Gv:AV→Cx0} {rest:List Stmt} {k:AV→M (Fl ρ)} (Γ0:Cx0) (hs:RE g true d sc Γ iter src) (hc:CScope sc csc v i) (hT:Takes sc csc Γ Γ0) (hi: ∀ av,Γ0[i]? ≠some (some av))
  (ht:CTests g d (relabS csc sc) Γ0 i ifs test) (he: ∀ w,RE g false d (relabS csc sc) (Γ0.set i (some w)) elt (eltM w)) (hn:sc.names[j]? =some (n, .local)) (hk: ∀ w,RS g z d sc (Γ.set j (some w)) Γc G rest (k w))
  (hsw: ∀ env:Env,env.scope=sc→swapsWith (.ListComp elt [⟨.Name v px,iter,ifs,0⟩] csc pos) (some (.Name n q)) p.line env=pure true) (hfs: ∀ env x,foldedSetIterable iter env x=pure x:=by intro _ _;rfl) :
  RS g z d sc Γ Γc G (.Assign [.Name n q] (.ListComp elt [⟨.Name v px,iter,ifs,0⟩] csc pos) p :: rest) (bd (bd src λ a=>comp Gv a test eltM) k):=λ x hx hsc hfr hz μ adr s S=>by
 refine DoesS.cons (Γ':=λ w=>Γ.set j (some w)) (λ b μ' e=> ?_) λ w μ₁ adr₁ s₁ S1=>hk w x hx hsc hfr hz μ₁ adr₁ s₁ S1
 obtain ⟨a,μ₁,e1,e2⟩:=bd_some e
 have hc':CScope x.env.scope csc v i:=hsc ▸ hc
 rw [exec_Assign_Name_used _ _ _ _ (hsw x.env hsc)]
 refine wpAny_bind (wpAny_standAt (wpAny_bind ?_))
 show wpAny _ x.A (do let _ ← comprehension (.ListComp elt [⟨.Name v px,iter,ifs,0⟩] csc pos) csc x.env _ (newList []) false (eval iter x.env) (some (assign (.Name n q) x.env))) _ _ s
 refine wpAny_bind (wpAny_mono (wpAny_comprehension_free (use:=some (assign (.Name n q) x.env)) (Q:=λ _ s'=> ∃ adr₁,adr <+: adr₁∧St g x (Γ.set j (some b)) μ' adr₁ s') rfl (hfs _) (comp_clos hx hc') hc.kind (comp_names hc') (wpAny_mono (hs x hx hsc (λ _=>hfr) μ adr s S a μ₁ e1) (λ va s₁ ⟨adr₁,p1,S1,r1⟩=> ?_) λ _ _ z=>z)) (λ _ s' hq=>wpAny_pure (wpAny_pure ⟨rfl,hq⟩)) λ _ _ e=>e)
 refine comp_src (RR:=λ acc C=>compPost (model g.prog g.w) x.A nof (some (assign (.Name n q) x.env)) _ acc C) hf hx hsc hfr hc hT hi ht he S1 r1 e2 λ D C s' h=> ?_
 obtain ⟨adr',cs',pl',oC,es,ep,m,pa,S',hv,hm,hd,hkk,h1,h2,h3⟩:=h
 show wpAny _ x.A (assign (.Name n q) x.env (.ref D)) _ _ _
 have okC:({x with need:=(C,oC) :: x.need,lks:=x.lks}:Cx).Ok g d:=Ok_need hf hx (λ p hp=> .tail _ hp) λ p hp=>by
  rcases List.mem_cons.mp hp with rfl | hp
  ·exact .inr h3
  ·exact .inl hp
 have St':St g ({x with need:=(C,oC) :: x.need,lks:=x.lks}:Cx) Γ μ' adr' s':=⟨_,_,_,S'⟩
 refine wpAny_assign_Name (wpAny_mono (store_local (x:= {x with need:=(C,oC) :: x.need,lks:=x.lks}) okC hfr St' (show x.env.scope.names[j]? =some (n, .local) from hsc ▸ hn) hv) (λ _ s₂ ⟨cs2,pl2,m2,S2⟩=> ?_) λ _ _ z=>z)
 have hm2:(C,oC)∈pl2:=(S2.ex (C,oC) (by simp)).resolve_left λ q=>by
  have h4:=(S'.N _ (List.mem_append_right _ hm)).2.2
  have h4:x.h₀.get? C=none:=h4
  rw [show x.h₀.get? C=some oC from q] at h4;cases h4
 refine ⟨_,Ns_of (S2.N _ (List.mem_append_right _ hm2)).1 hd hkk,λ h' hs'=>⟨adr',p1.trans pa,?_⟩⟩
 obtain ⟨q1,q2,rfl⟩:=List.append_of_mem hm2
 exact ⟨cs2,_,m2,StE.swap (x:= {x with need:=(C,oC) :: x.need}) (r:=[]) (tk:=s₂.toks) (nd:=x.need) S2 (.inl rfl) hs'.extBut (λ v q=>by rw [hd] at q;cases q) (.inl (by
  show x.env.locals≠C
  rw [hfr,hx.floc];exact h1)) λ p hp=> .inr ⟨.tail _ hp,h2 p hp⟩⟩
end
section
variable {g:Gd} {x:Cx} {Γ Γ' Γc:Cx0} {d:Nat} {fr z:Bool} {sc:Scope}
theorem mapSeq_list (f:Array Value→Array Value) (its:Array Value) (n:Nat): ∃ n',Obj.mapSeq f (W.listOf its n)=W.listOf (f its) n':=⟨_,rfl⟩
theorem bounds_all (n:Nat):sliceBounds none none none n=(0,(n:Int),1):=by
 simp [sliceBounds]
theorem listItems_ {M:Model} {A:Around} {E:Value→Shared→Prop} {s:Shared} {v:Addr} {its:Array Value} {Q:Array Value→Shared→Prop} (hv:s.heap.IsList v its) (h:Q its s):wpAny M A (Builtin.List.listItems (.ref v)) Q E s:=by
 obtain ⟨ov,hov,hcv,nv,hdv⟩:=hv
 unfold Builtin.List.listItems
 exact wpAny_bind (wpAny_seqItems hov hdv (wpAny_pure h))
theorem listAllItems_ {M:Model} {A:Around} {E:Value→Shared→Prop} {s:Shared} {v:Addr} {its:Array Value} {msg:String} {Q:Array Value→Shared→Prop} (hv:s.heap.IsList v its) (h:Q its s):wpAny M A (Builtin.List.listAllItems (.ref v) msg) Q E s:=by
 have hv':=hv
 obtain ⟨ov,hov,hcv,nv,hdv⟩:=hv'
 unfold Builtin.List.listAllItems
 refine wpAny_bind (wpAny_typeOf (T:="list") ⟨ov,hov,hcv⟩ ?_)
 rw [if_pos (by decide)]
 exact listItems_ hv h
theorem setItem_all {prog:Program} {w:World} {A:Around} {s:Shared} {l sl v:Addr} {its new:Array Value} {n:Nat} {Q:Unit→Shared→Prop} (ho:s.heap.get? l=some (W.listOf its n)) (hs:s.heap.IsSliceOf sl .none .none .none) (hv:s.heap.IsList v new) (hne:l≠v)
  (h1:its.size≤big) (h2:new.size≤big) (hq: ∀ h' n',Heap.SameBut l s.heap h'→h'.get? l=some (W.listOf new n')→Q () {s with heap:=h'}):wpAny (model prog w) A (setItem (.ref l) (.ref sl) (.ref v)) Q nof s:=by
 have hl:s.heap.IsList l its:=⟨_,ho,rfl,n,rfl⟩
 obtain ⟨os,hos,hcs,hds⟩:=id hs
 obtain ⟨ov,hov,hcv,nv,hdv⟩:=id hv
 have hTs:s.TypeIs (.ref sl) "slice" :=⟨os,hos,hcs⟩
 have hsz:(1048576:Nat)+1048576 < sizeLine:=by rw [sizeLine_eq];omega
 unfold setItem
 try with_reducible refine wpAny_holding ?_
 first | refine wpAny_bind (wpAny_pure ?_) | skip
 refine wpAny_bind (wpAny_sequenceKey hl.typeIs (by decide) ?_)
 refine wpAny_bind (wpAny_callSpecial?_slot (name:=Str.ofString "__setitem__") hl.typeIs slot_list_setitem
  (wpAny_call_entry slot_list_setitem hl.typeIs entry_list_setitem ?_ (args_list_setitem _ _ _)))
 show wpAny _ _ (Builtin.List.listSubscript? (.ref sl) >>= _) _ _ s
 refine wpAny_bind ?_
 unfold Builtin.List.listSubscript?
 refine wpAny_bind (wpAny_specialOf hTs slice_no_index ?_)
 simp only [Option.isNone_none,if_true]
 refine wpAny_pure ?_
 show wpAny _ _ (typeOf (.ref sl) >>= _) _ _ s
 refine wpAny_bind (wpAny_typeOf hTs ?_)
 rw [if_neg (by decide)]
 rw [listSliceParts_eq]
 refine wpAny_bind (wpAny_bind (wpAny_field hos hds (x:= .none) rfl (wpAny_bind (wpAny_listPart .none ?_))))
 rw [if_neg (by decide)]
 refine wpAny_bind (wpAny_field hos hds (x:= .none) rfl (wpAny_bind (wpAny_listPart .none ?_)))
 refine wpAny_bind (wpAny_field hos hds (x:= .none) rfl (wpAny_bind (wpAny_listPart .none (wpAny_pure ?_))))
 dsimp only
 have hsame:Builtin.List.listSameRef (.ref l) (.ref v)=false:=by
  show (l == v)=false
  exact beq_eq_false_iff_ne.mpr hne
 rw [hsame,if_neg (by decide)]
 refine wpAny_bind (listAllItems_ hv ?_)
 refine wpAny_bind (listItems_ hl ?_)
 refine wpAny_bind (wpAny_of_eq (sliceIndices_raw none none none its.size (by simp)) ?_)
 rw [bounds_all]
 dsimp only
 rw [if_pos (by decide)]
 refine wpAny_bind (wpAny_rule ?_)
 have hlong:Builtin.List.listTooLong (its.size+new.size)=false:=by
  unfold Builtin.List.listTooLong
  unfold big at h1 h2
  simp;omega
 rw [hlong,if_neg (by decide)]
 refine wpAny_bind (m:=Builtin.List.listUpdate (.ref l) _) ?_
 show wpAny _ _ (updateSeq l _) _ _ s
 have hf: ∀ xs:Array Value,xs.size=its.size→(xs.extract 0 (0:Int).toNat ++ new ++ xs.extract (max (0:Int) (its.size:Int)).toNat xs.size)=new:=by
  intro xs hxs
  have e:(max (0:Int) (its.size:Int)).toNat=xs.size:=by omega
  rw [e]
  apply Array.toList_inj.mp
  simp
 refine wpAny_updateSeq ho rfl ?_ (by rw [sizeLine_eq];unfold big at h1;omega) (by
  rw [hf its rfl];rw [sizeLine_eq];unfold big at h2;omega)
 refine wpAny_bind (wpAny_letGo ?_)
 obtain ⟨n',hn'⟩:=mapSeq_list (λ xs=>xs.extract 0 (0:Int).toNat ++ new ++ xs.extract (max (0:Int) (its.size:Int)).toNat xs.size) its n
 rw [hf its rfl] at hn'
 have hg:(s.heap.update l (Obj.mapSeq λ xs=>xs.extract 0 (0:Int).toNat ++ new ++ xs.extract (max (0:Int) (its.size:Int)).toNat xs.size)).get? l=some (W.listOf new n'):=by
  rw [← hn']
  exact Heap.get?_update_self _ ho (by rw [hn'];rfl)
 have fin:=hq _ n' (Heap.SameBut.update ..) hg
 first
  | exact wpAny_bind (wpAny_pure (wpAny_pure ⟨.none,rfl,wpAny_pure fin⟩))
  | exact wpAny_pure ⟨.none,rfl,wpAny_pure fin⟩
theorem setAll_inv {a b:AV} {u:Unit} {μ μ':Mem} (e:setAll a b μ=some (u,μ')): ∃ i j xs ys,a= .obj i∧b= .obj j∧μ[i]? =some (.list xs)∧μ[j]? =some (.list ys)∧μ'=μ.set i (.list ys):=by
 cases a <;> try (cases e;done)
 rename_i i
 obtain ⟨o,μ₁,e1,e2⟩:=bd_some (show bd (rd i) _ μ=_ from e)
 obtain ⟨h1,rfl⟩:=rd_some e1
 cases o <;> try (cases e2;done)
 rename_i xs
 obtain ⟨ys,μ₂,e3,e4⟩:=bd_some e2
 obtain ⟨rfl,j,rfl,h2⟩:=rdL_inv e3
 exact ⟨i,j,xs,ys,rfl,rfl,h1,h2,wr_some e4⟩
theorem setAll_does (hx:x.Ok g d) {va vb:Value} {a b:AV} {μ:Mem} {adr:List Addr} {s:Shared} {sl:Addr} (S:St g x Γ μ adr s) (r1:VR x.fd adr va a) (r2:VR x.fd adr vb b) (hs:s.heap.IsSliceOf sl .none .none .none) (hij: ∀ i j,a= .obj i→b= .obj j→i≠j) :
  Does g x Γ (λ _ _ _=>True) (setItem va (.ref sl) vb) (setAll a b) μ adr s:=by
 intro u μ' e
 obtain ⟨i,j,xs,ys,rfl,rfl,h1,h2,rfl⟩:=setAll_inv e
 obtain ⟨cs,pl,m,S⟩:=S
 obtain ⟨ad,vs,n,rfl,hc,q1,q2,L1⟩:=S.listAt r1 h1
 obtain ⟨ad',ws,n',rfl,hc',q1',q2',L2⟩:=S.listAt r2 h2
 have N:=S.N
 have nd:=S.nd
 rw [flat1 hc] at N nd
 obtain ⟨n1,n2⟩:=nd_split nd
 have hmm:=N (ad,W.listOf vs.toArray n) (by simp)
 have hne:ad≠ad':=λ q=>by
  subst q
  cases r1;cases r2
  rename_i k1 k2
  have hnd:adr.Nodup:=by
   rw [← S.ha]
   have:(cs.map hd1).Sublist ((cs.flatten ++ pl).map (·.1)):=by
    rw [List.map_append]
    refine List.Sublist.trans ?_ (List.sublist_append_left _ _)
    have:=S.C
    have nonempty: ∀ c∈cs,c≠[]:=λ c hcm=>by
     obtain ⟨k,hk⟩:=List.getElem?_of_mem hcm
     have hlt:k < μ.length:=by rw [← S.C.len];exact (List.getElem?_eq_some_iff.mp hk).1
     obtain ⟨c',hk',hcr⟩:=S.chunk (List.getElem?_eq_getElem hlt)
     rw [hk] at hk';cases hk'
     generalize μ[k]=oo at hcr
     cases hcr <;> simp
    clear this
    generalize hcs:cs=cc at nonempty
    clear hcs
    induction cc with
    | nil=>simp
    | cons c cc ih =>
     have hc:=nonempty c (by simp)
     cases c with
     | nil=>exact absurd rfl hc
     | cons p r =>
      simp only [List.map_cons,List.flatten_cons,List.cons_append,List.map_append,hd1]
      exact List.Sublist.cons_cons _ (List.Sublist.trans (ih λ c hc=>nonempty c (by simp [hc])) (List.sublist_append_right _ _))
   exact this.nodup S.nd
  have:=(List.getElem?_inj (List.getElem?_eq_some_iff.mp k1).1 hnd).mp (k1.trans k2.symm)
  exact hij i j rfl rfl this
 refine setItem_all hmm.1 hs L2 hne (by simp only [List.size_toArray];rw [q1.len];exact q2) (by simp only [List.size_toArray];rw [q1'.len];exact q2') λ h' n' hsb hg=> ?_
 refine ⟨adr,List.prefix_refl _,⟨_,pl,m,S.put (c':=[(ad,W.listOf ws.toArray n')]) hc (λ o e=>by rw [h1] at e;cases e;rfl) rfl (.list q1' q2') (S.F.change hsb hmm.2.1 hmm.2.2) ?_⟩,trivial⟩
 rw [flat1s hc]
 exact N.setIn n1 n2 hsb hg
theorem RS_setAll {ρ:Type} {G:ρ→Cx0} {e o:PySem.Expr} {p q sp:Pos} {rest:List Stmt} {mv mo:M AV} {k:M (Fl ρ)} (hv:RE g true d sc Γ e mv) (ho:RE g true d sc Γ o mo) (hk:RS g z d sc Γ Γc G rest k)
  (hs: ∀ env,swapsWith e (some (.Subscript o (.Slice none none none sp) q)) p.line env=pure false:=by intro _;rfl) :
  RS g z d sc Γ Γc G (.Assign [.Subscript o (.Slice none none none sp) q] e p :: rest) (bd mv λ v=>bd mo λ o=>bd (setAllN o v) λ _=>k):=λ x hx hsc hfr hz μ adr s S=>by
 have eq:(bd mv λ v=>bd mo λ o=>bd (setAllN o v) λ _=>k)=bd (bd mv λ v=>bd mo λ o=>setAllN o v) λ _=>k:=by simp only [bd_assoc]
 rw [eq]
 refine DoesS.cons (Γ':=λ _=>Γ) (λ u μ₄ e=> ?_) λ _ μ₁ adr₁ s₁ S1=>hk x hx hsc hfr hz μ₁ adr₁ s₁ S1
 obtain ⟨v,μ₁,e1,e2⟩:=bd_some e
 obtain ⟨ov,μ₂,e2,e3⟩:=bd_some e2
 unfold setAllN at e3
 split at e3
 ·cases e3
 rename_i hne
 refine wpAny_Assign_Subscript (wpAny_mono (hv x hx hsc (λ _=>hfr) μ adr s S v μ₁ e1) (λ vv s₁ ⟨adr₁,p1,S1,r1⟩=> ?_) λ _ _ z=>z) (hs _)
 refine wpAny_mono (ho x hx hsc (λ _=>hfr) μ₁ adr₁ s₁ S1 ov μ₂ e2) (λ oo s₂ ⟨adr₂,p2,S2,r2⟩=> ?_) λ _ _ z=>z
 refine wpAny_Slice (wpAny_pure (wpAny_pure (wpAny_pure ?_)))
 obtain ⟨cs,pl,m,Z⟩:=S2
 have S3:St g x Γ μ₂ adr₂ {s₂ with heap:=s₂.heap.push {cls:= .type "slice",data:= .fields #[.none, .none, .none]}}:=⟨cs,pl,m,Z.grow (tk:=s₂.toks) λ b o e=>Heap.get?_push_of_some _ e⟩
 refine wpAny_mono (setAll_does hx S3 r2 (r1.pre p2) (Heap.IsSliceOf.new ..) (λ i j h h' q=>hne (by rw [h,h',q])) u μ₄ e3) (λ _ s₄ ⟨adr₄,p4,S4,_⟩=> ?_) λ _ _ z=>z
 exact ⟨rfl,adr₄,(p1.trans p2).trans p4,S4⟩
end
section
variable {g:Gd} {x:Cx} {Γ Γ' Γc:Cx0} {d:Nat} {fr z:Bool} {sc:Scope}
def Clo (name qual:Str) (params:Arguments) (body:List Stmt) (scope:Scope) (ns:List Str) (avs:List AV) (n:Led) (fact:List Addr→Prop) (fd:Option Addr):Prop :=
 ∃ f doc pm c' ctv oc vs qt cl,fd=some f∧(f,fnMade name qual params body scope cl doc pm c' ctv)∈n∧(c',oc)∈n∧oc.data= .fields vs∧vs[1]? =some (.str qual qt) ∧
  ∀ (i:Nat) nm av,ns[i]? =some nm→avs[i]? =some av→ ∃ c o v,cl.lookup nm=some c∧(c,o)∈n∧o.data= .cell (some v)∧ ∀ adr,fact adr→VR fd adr v av
theorem Clo.mono {name qual:Str} {params:Arguments} {body:List Stmt} {scope:Scope} {ns:List Str} {avs:List AV}: ∀ n n' f fd,(∀ p∈n,p∈n')→Clo name qual params body scope ns avs n f fd→Clo name qual params body scope ns avs n' f fd:=by
 rintro n n' fa fd h ⟨f,doc,pm,c',ctv,oc,vs,qt,cl,h1,h2,h3,h4,h5,h6⟩
 refine ⟨f,doc,pm,c',ctv,oc,vs,qt,cl,h1,h _ h2,h _ h3,h4,h5,λ i nm av e e'=> ?_⟩
 obtain ⟨c,o,v,a1,a2,a3,a4⟩:=h6 i nm av e e'
 exact ⟨c,o,v,a1,h _ a2,a3,a4⟩
theorem need_get {μ:Mem} {adr:List Addr} {s:Shared} {cs:List Led} {pl:Led} {m:Str→Option Value} (S:StE g x Γ μ adr s cs pl m) {p:Addr × Obj} (h:p∈x.need):s.heap.get? p.1=some p.2:=(S.ex p h).elim (λ q=>S.F.keep _ _ q) λ q=>(S.N _ (List.mem_append_right _ q)).1
theorem clo_call (hf:Facts g) {name qual pn:Str} {params:Arguments} {body:List Stmt} {scope:Scope} {ns:List Str} {avs:List AV} {rk:List (Str × NameKind)} {mb:AV→M (Fl Unit)} (hco':g.co=Clo name qual params body scope ns avs)
  (hsn:scope.names=(pn, .local) :: (ns.map λ n=>(n, .free)) ++ rk) (hrk: ∀ y∈rk,y.2= .globalImplicit) (hnl:ns.length=avs.length) (nd:(scope.names.map (·.1)).Nodup) (hkd:scope.kind= .function) (hcor:scope.isCoroutine=false) (hgen:scope.isGenerator=false)
  (hbind: ∀ cl doc pm c' ctv v,bindArgs (fnX name qual params body scope cl .none .none doc pm none (.ref c') ctv) ⟨[v],[]⟩=pure [(pn,v)])
  (hb: ∀ a,RS g false d scope (some a :: avs.map some ++ List.replicate rk.length none) [] (λ _=>[]) body (mb a)) (hx:x.Ok g (d+1)) {μ:Mem} {adr:List Addr} {s:Shared} (S:St g x Γ μ adr s) {f w:Value} {a:AV} (hfv:VR x.fd adr f .dstr) (r:VR x.fd adr w a) :
  Does g x Γ (VR x.fd) (call f [w]) (fin (mb a)) μ adr s:=by
 intro b μ' e
 obtain ⟨cs,pl,m,S⟩:=S
 have hco:=hx.co
 rw [hco'] at hco
 obtain ⟨fa,doc,pm,c',ctv,oc,vs,qt,cl,hfd,hfn,hcn,hd1,hd2,hcell⟩:=hco
 have hff:f= .ref fa:=by
  cases hfv with
  | dstr h=>rw [hfd] at h;cases h;rfl
 subst hff
 have X:g.K.In s.heap:=hx.kin.keeps S.F.keep
 refine wpAny_call (callX_plain (cl:=cl) hx.below S.F S.N hx.top.nolimit hx.frames hx.fL hx.fk (need_get S hfn) rfl ⟨c',oc,vs,qt,rfl,need_get S hcn,hd1,hd2⟩ (by have:=hx.dep;omega) (binds:=[(pn,w)]) (BindsTo.of_eq (hbind cl doc pm c' ctv w)) ?_ (λ g' L' h₁ FG F' N' B' st lt=> ?_) ?_ hcor hgen hkd)
 ·intro y hy
  rw [List.mem_singleton.mp hy,hsn]
  simp
 rotate_left
 ·intro y hy
  rw [hsn] at hy
  simp only [List.cons_append,List.mem_cons,List.mem_append,List.mem_map] at hy
  rcases hy with rfl | ⟨n,_,rfl⟩ | hy
  ·show NameKind.local≠NameKind.cell;decide
  ·simp
  ·rw [hrk y hy];decide
 let E:=envX qual scope L' fa (.ref c') cl
 have kc: ∀ n:Str,scope.names.lookup n=some .cell→False:=λ n h=>by
  have hm:=mem_of_lookup h
  rw [hsn] at hm
  simp only [List.cons_append,List.mem_cons,List.mem_append,List.mem_map] at hm
  rcases hm with q | ⟨n',_,q⟩ | q
  ·cases q
  ·cases q
  ·have:=hrk _ q;cases this
 have hx':(callee x E L' g' pl).Ok g d:=by
  refine ⟨B',hx.kin.keeps st,hx.top.keeps st,?_,hx.hnd,rfl,rfl,hkd,rfl,hkd,rfl,rfl,nd,?_,?_,hx.mono,λ _=>rfl,λ n n' c h=>(kc _ h).elim,λ n h=>(kc _ h).elim,hf.com _ _ _ _ (λ p hp=>List.mem_append_left _ hp) hx.co,λ _ p _ n c h=>(kc _ h).elim⟩
  ·show x.A.frames.map (E :: ·)=_
   rw [hx.frames];rfl
  ·show x.A.depth+1+d < _
   have:=hx.dep;omega
  ·show x.A.units+3+16 * d+100 < _
   have:=hx.un;omega
 have inNeed: ∀ p∈x.need,g'.get? p.1=some p.2∨p∈pl:=λ p hp=>(S.ex p hp).imp (λ q=>FG.keep _ _ q) id
 have S':St g (callee x E L' g' pl) (some a :: avs.map some ++ List.replicate rk.length none) μ adr {s with heap:=h₁,toks:=s.toks+[(pn,w)].length}:=by
  refine ⟨cs,pl,_,⟨F',N',S.nd,S.ha,S.C,?_,S.gens,S.drawn,S.os,?_,S.fa,S.lk,λ n c h=>(kc _ h).elim,λ m₀ h=>by cases h⟩⟩
  ·intro i av ei
   cases i with
   | zero =>
    simp at ei
    subst ei
    refine ⟨pn, .local,w,by show scope.names[0]? =_;rw [hsn];rfl, .loc rfl (by simp),r⟩
   | succ i =>
    simp only [List.cons_append,List.getElem?_cons_succ] at ei
    have hlt:i < avs.length:=by
     rcases Nat.lt_or_ge i avs.length with h | h
     ·exact h
     ·rw [List.getElem?_append_right (by simpa using h),List.getElem?_replicate] at ei
      split at ei <;> simp at ei
    rw [List.getElem?_append_left (by simpa using hlt),List.getElem?_map,Option.map_eq_some_iff] at ei
    obtain ⟨a',ha',hae⟩:=ei
    cases hae
    have hin:i < ns.length:=by omega
    have hnm:ns[i]? =some ns[i]:=List.getElem?_eq_getElem hin
    obtain ⟨c,o,v,k1,k2,k3,k4⟩:=hcell i ns[i] av hnm ha'
    refine ⟨ns[i], .free,v,?_, .free k1 (inNeed _ k2) k3,k4 adr S.fa⟩
    show scope.names[i+1]? =_
    rw [hsn,List.cons_append,List.getElem?_cons_succ,List.getElem?_append_left (by simpa using hin),List.getElem?_map,hnm]
    rfl
  ·intro p hp
   rcases List.mem_append.mp hp with h | h
   ·exact inNeed p h
   ·exact .inr h
 have done: ∀ (fl:Flow) s' (v:Value) Γ'',v=(match fl with | .ret v=>v | _=> .none)→(∃ adr',adr <+: adr'∧VR x.fd adr' v b∧St g (callee x E L' g' pl) Γ'' μ' adr' s')→LeaveK x.h₀ x.L m g' (λ r s'=>match r with | .ok (.ret v)=>(∃ adr',adr <+: adr'∧St g x Γ μ' adr' s'∧VR x.fd adr' v b) | .ok _=>False | .error e=>nof e s') (match fl with | .ret v=>v | _=> .none) s':=by
  rintro fl s' v Γ'' rfl ⟨adr',p,hv,cs',pl',m',Z⟩
  have keep: ∀ q∈pl,q∈pl':=λ q hq=>by
   rcases Z.ex q (List.mem_append_right _ hq) with h | h
   ·have h1:=(N' q (List.mem_append_right _ hq)).2.2
    have h':g'.get? q.1=some q.2:=h
    rw [h1] at h';cases h'
   ·exact h
  refine leaveK_ Z.F Z.N λ F₂ N₂=> ?_
  refine ⟨adr',p,⟨cs',pl',m,⟨F₂,N₂,Z.nd,Z.ha,Z.C,?_,Z.gens,Z.drawn,Z.os,?_,Z.fa,Z.lk,?_,S.km⟩⟩,hv⟩
  ·intro i av ei
   obtain ⟨n,kd,v,a1,a2,a3⟩:=S.V i av ei
   refine ⟨n,kd,v,a1,?_,a3.pre p⟩
   cases a2 with
   | loc b1 b2=>exact .loc b1 b2
   | cloc b1 b2 b3 b4=>exact .cloc (keep _ b1) b2 b3 b4
   | cell b1 b2 b3=>exact .cell b1 (b2.imp id (keep _)) b3
   | free b1 b2 b3=>exact .free b1 (b2.imp id (keep _)) b3
  ·exact λ q hq=>(S.ex q hq).imp id (keep q)
  ·intro n c hn hc
   obtain ⟨o,v₀,h1,h2⟩:=S.cl n c hn hc
   exact ⟨o,v₀,keep _ h1,h2⟩
 rcases fin_some e with ⟨u,e1,rfl⟩ | e1
 ·refine wpAny_mono (hb a (callee x E L' g' pl) hx' rfl rfl rfl μ adr _ S' _ _ e1) (λ fl s' z=> ?_) λ _ _ z=>z.elim
  obtain ⟨adr',p,rfl,Z⟩:=z
  exact done .next s' .none _ rfl ⟨adr',p, .none,Z⟩
 ·refine wpAny_mono (hb a (callee x E L' g' pl) hx' rfl rfl rfl μ adr _ S' _ _ e1) (λ fl s' z=> ?_) λ _ _ z=>z.elim
  obtain ⟨adr',p,vv,rfl,hv,Z⟩:=z
  exact done (.ret vv) s' vv _ rfl ⟨adr',p,hv,Z⟩
theorem RE_attrcall (hf:Facts g) {name qual nm:Str} {params:Arguments} {bd':List Stmt} {scope:Scope} {ns:List Str} {avs:List AV} (hco':g.co=Clo nm qual params bd' scope ns avs) {name:String} {o e:PySem.Expr} {ap pos:Pos} {mo m:M AV} {F:AV→AV→M AV} (hc: ∀ c:Cl,name∈c.fields→findIn g.K (.ref c.addr) (Str.ofString name)=some none)
  (hF: ∀ dd a μ r,F dd a μ=some r→dd= .dstr) (hD: ∀ (x:Cx) (Γ:Cx0),x.Ok g d→ ∀ v w a μ adr s,St g x Γ μ adr s→VR x.fd adr v .dstr→VR x.fd adr w a→Does g x Γ (VR x.fd) (call v [w]) (F .dstr a) μ adr s)
  (ho:RE g fr d sc Γ o mo) (h1:RE g fr d sc Γ e m) (he:MethEval o name ap pos [e]) (hst: ∀ env,starEach [e] env=[(false,eval e env)]:=by intro _;rfl) :
  RE g fr d sc Γ (.Call (.Attribute o (Str.ofString name) ap) [e] [] pos) (bd mo λ o=>bd (getA o name) λ dd=>bd m λ a=>F dd a):=by
 intro x hx hsc hfr μ adr s S b μ' e
 obtain ⟨ov,μ₁,e1,e2⟩:=bd_some e
 obtain ⟨dv,μ₂,e2,e3⟩:=bd_some e2
 obtain ⟨av,μ₃,e4,e5⟩:=bd_some e3
 have:=hF dv av μ₃ _ e5
 subst this
 obtain ⟨plc,hpl⟩:=he x.env
 refine MethodCall_ (pl:=plc) (wpAny_mono (ho x hx hsc hfr μ adr s S _ _ e1) (λ vo s₁ ⟨adr₁,p1,S1,r1⟩=> ?_) λ _ _ z=>z) hpl
 obtain ⟨i,c,fs,rfl,hi,hg,hμ⟩:=getA_inv e2
 subst hμ
 have S1':=S1
 obtain ⟨cs,pl,m',Z⟩:=S1'
 have r1':=r1
 cases r1
 rename_i ad had
 obtain ⟨ch,hc',hr⟩:=Z.chunk hi
 have had':=Z.adr_of hc' had
 cases hr with
 | @inst ad' dx es' n _ _ q1 q2 q3 =>
 simp only [hd1] at had'
 subst had'
 have hmem:name∈c.fields:=by obtain ⟨p,hp,q⟩:=get_mem hg;exact q ▸ q2 p hp
 have I:InstAt s₁.heap ad' (instObj c.addr dx) c.addr (some (dictOf es' n)):=InstAt.of_news Z.N (mem_flat hc' (by simp)) (mem_flat hc' (by simp))
 obtain ⟨k1,k2,_⟩:=hf.pg c name hmem
 refine method_usual (hx.kin.keeps Z.F.keep) I (plainGet_of k1).1 (plainGet_of k1).2 (hc c hmem) rfl ?_
 refine wpAny_mono (getA_does hf hx S1 r1' .dstr _ e2) (λ vd s₂ ⟨adr₂,p2,S2,r2⟩=> ?_) λ _ _ z=>z
 have hco:=hx.co
 rw [hco'] at hco
 obtain ⟨fa,doc,pm,c',ctv,oc,vs,qt,cl,hfd,hfn,hcn,hd1,hd2,hcell⟩:=hco
 have hff:vd= .ref fa:=by
  cases r2 with
  | dstr h=>rw [hfd] at h;cases h;rfl
 subst hff
 rw [hst]
 refine callWith_of (P:=λ h=>FnAt fa h) rfl keeps_F (evalArgs_plain (spliced_cons (wpAny_mono (h1 x hx hsc hfr _ _ _ S2 _ _ e4) (λ va s₃ ⟨adr₃,p3,S3,r3⟩=>spliced_nil ?_) λ _ _ z=>z)))
 refine ⟨?_,?_⟩
 ·obtain ⟨cs3,pl3,m3,Z3⟩:=S3
  exact ⟨_,_,_,_,need_get Z3 hfn⟩
 ·exact wpAny_mono (hD x Γ hx _ va av μ₃ adr₃ s₃ S3 (r2.pre p3) r3 b μ' e5) (λ v s₄ ⟨adr₄,p4,S4,r4⟩=>⟨adr₄,((p1.trans p2).trans p3).trans p4,S4,r4⟩) λ _ _ z=>z
/-! tuples unpacked -/
theorem tup_at {μ:Mem} {adr:List Addr} {s:Shared} {v:Value} {i:Nat} {xs:List AV} (S:St g x Γ μ adr s) (r:VR x.fd adr v (.obj i)) (h:μ[i]? =some (.tup xs)): ∃ (ad:Addr) (vs:List Value),v= .ref ad∧IsTup s.heap ad vs.toArray∧F2 (VR x.fd adr) vs xs:=by
 obtain ⟨cs,pl,m,S⟩:=S
 cases r
 rename_i ad had
 obtain ⟨ch,hc,hr⟩:=S.chunk h
 have had':=S.adr_of hc had
 cases hr
 rename_i ad' vs n q1 q2
 simp only [hd1] at had';subst had'
 exact ⟨_,vs,rfl,⟨_,S.at1 hc,rfl,n,rfl⟩,q1⟩
theorem ext_st {μ:Mem} {adr:List Addr} {s:Shared} {h':Heap} (S:St g x Γ μ adr s) (he:Heap.ExtBut s.heap.objs.size s.heap h'):St g x Γ μ adr {s with heap:=h'}:=by
 obtain ⟨cs,pl,m,Z⟩:=S
 exact ⟨cs,pl,m,Z.grow (tk:=s.toks) λ b o e=>he b o (Nat.ne_of_lt (Heap.lt_size e)) e⟩
theorem unpack_two {prog:Program} {w:World} {A:Around} {E:Value→Shared→Prop} {s:Shared} {t:Addr} {a b:Value} {Q:List Value→Shared→Prop} (hh:A.handled=none) (ht:IsTup s.heap t [a,b].toArray) (hQ: ∀ h',Heap.ExtBut s.heap.objs.size s.heap h'→Q [a,b] {s with heap:=h'}):wpAny (model prog w) A (unpackItems (.ref t) 2 none) Q E s:=by
 generalize hi:[a,b].toArray=items at ht
 have e:items.size=2:=by rw [← hi];rfl
 rw [← e]
 refine unpackItems_tuple hh ht λ h' he=> ?_
 rw [← hi]
 exact hQ h' he
theorem RS_tup2 {ρ:Type} {G:ρ→Cx0} {e1 e2:PySem.Expr} {n1 n2:Str} {i1 i2 k1 k2:Nat} {p1 p2 tp vp pos:Pos} {rest:List Stmt} {m1 m2:M AV} {k:AV→AV→M (Fl ρ)} (h1:RE g true d sc Γ e1 m1) (h2:RE g true d sc Γ e2 m2) (hn1:sc.names[i1]? =some (n1, .local)) (hn2:sc.names[i2]? =some (n2, .local))
  (hk: ∀ a b,RS g z d sc ((Γ.set i2 (some b)).set i1 (some a)) Γc G rest (k a b)) (hst: ∀ env,starEach [e1,e2] env=[(false,eval e1 env),(false,eval e2 env)]:=by intro _;rfl) (hst': ∀ env,starEach [e2] env=[(false,eval e2 env)]:=by intro _;rfl)
  (hs: ∀ env,swapsWithSole [.Tuple [.Name n1 p1, .Name n2 p2] k1 tp] (.Tuple [e1,e2] k2 vp) pos.line env=pure false) (hw: ∀ env:Env,env.scope=sc→swappedStores [.Tuple [.Name n1 p1, .Name n2 p2] k1 tp] (.Tuple [e1,e2] k2 vp) env=pure (some [n1,n2])) :
  RS g z d sc Γ Γc G (.Assign [.Tuple [.Name n1 p1, .Name n2 p2] k1 tp] (.Tuple [e1,e2] k2 vp) pos :: rest) (bd m1 λ a=>bd m2 λ b=>bd (al (.tup [a,b])) λ _=>k a b):=λ x hx hsc hfr hz μ adr s S=>by
 have eq:(bd m1 λ a=>bd m2 λ b=>bd (al (.tup [a,b])) λ _=>k a b)=bd (bd m1 λ a=>bd m2 λ b=>bd (al (.tup [a,b])) λ _=>rt (a,b)) λ p=>k p.1 p.2:=by simp only [bd_assoc,bd_rt]
 rw [eq]
 refine DoesS.cons (Γ':=λ p=>(Γ.set i2 (some p.2)).set i1 (some p.1)) (λ p μ₄ e=> ?_) λ p μ₁ adr₁ s₁ S1=>hk p.1 p.2 x hx hsc hfr hz μ₁ adr₁ s₁ S1
 obtain ⟨a,μ₁,e1',e2'⟩:=bd_some e
 obtain ⟨b,μ₂,e3,e4⟩:=bd_some e2'
 obtain ⟨t,μ₃,e5,e6⟩:=bd_some e4
 obtain ⟨rfl,rfl⟩:=al_inv e5
 cases e6
 have hT:=RE_tuple (p:=vp) (k:=k2) (REs_cons h1 (REs_cons h2 REs_nil (by intro env;rw [hst'];rfl)) (by intro env;rw [hst,hst'])) (show [m1,m2].length≤100 by simp) x hx hsc (λ _=>hfr) μ adr s S (.obj μ₂.length) (μ₂ ++ [.tup [a,b]]) (by
  show bd (evs [m1,m2]) (λ xs=>al (.tup xs)) μ=_
  rw [evs2]
  show bd m1 _ μ=_
  unfold bd
  rw [e1']
  show bd m2 _ μ₁=_
  unfold bd
  rw [e3]
  rfl)
 refine Assign_Tuple_swapped (wpAny_mono hT (λ v s₁ ⟨adr₁,p1',S1,r1⟩=> ?_) λ _ _ z=>z) (hs _) (hw _ hsc)
 obtain ⟨ad,vs,rfl,hI,q⟩:=tup_at (xs:=[a,b]) S1 r1 (by simp)
 cases q with
 | cons qa q =>
 cases q with
 | cons qb q =>
 cases q
 have e2:[n1,n2].length=2:=rfl
 rw [e2]
 refine unpack_two hx.hnd hI λ h' he=> ?_
 have S2:=ext_st S1 he
 show wpAny _ _ (assignInOrder [bindName x.env n2,bindName x.env n1] [_,_]) _ _ _
 refine assignInOrder_cons (wpAny_bindName (wpAny_mono (store_name hx hsc hfr hz (.inl hn2) S2 qb) (λ _ s₂ S3=> ?_) λ _ _ z=>z))
 refine assignInOrder_cons (wpAny_bindName (wpAny_mono (store_name hx hsc hfr hz (.inl hn1) S3 qa) (λ _ s₃ S4=> ?_) λ _ _ z=>z))
 exact assignInOrder_nil ⟨rfl,adr₁,p1',S4⟩
theorem RS_tup6 {ρ:Type} {G:ρ→Cx0} {es:List PySem.Expr} {ms:List (M AV)} {n1 n2 n3 n4 n5 n6:Str} {i1 i2 i3 i4 i5 i6 k1 k2:Nat} {p1 p2 p3 p4 p5 p6 tp vp pos:Pos} {rest:List Stmt} {k:AV→AV→AV→AV→AV→AV→M (Fl ρ)} {m1 m2 m3 m4 m5 m6:M AV} (h:REs g true d sc Γ es [m1,m2,m3,m4,m5,m6])
  (hn1:Stores z sc i1 n1) (hn2:Stores z sc i2 n2) (hn3:Stores z sc i3 n3) (hn4:Stores z sc i4 n4) (hn5:Stores z sc i5 n5) (hn6:Stores z sc i6 n6)
  (hk: ∀ a b c e f h,RS g z d sc ((((((Γ.set i1 (some a)).set i2 (some b)).set i3 (some c)).set i4 (some e)).set i5 (some f)).set i6 (some h)) Γc G rest (k a b c e f h))
  (hs: ∀ env,swapsWithSole [.Tuple [.Name n1 p1, .Name n2 p2, .Name n3 p3, .Name n4 p4, .Name n5 p5, .Name n6 p6] k1 tp] (.Tuple es k2 vp) pos.line env=pure false) (hw: ∀ env:Env,swappedStores [.Tuple [.Name n1 p1, .Name n2 p2, .Name n3 p3, .Name n4 p4, .Name n5 p5, .Name n6 p6] k1 tp] (.Tuple es k2 vp) env=pure none) :
  RS g z d sc Γ Γc G (.Assign [.Tuple [.Name n1 p1, .Name n2 p2, .Name n3 p3, .Name n4 p4, .Name n5 p5, .Name n6 p6] k1 tp] (.Tuple es k2 vp) pos :: rest) (bd m1 λ a=>bd m2 λ b=>bd m3 λ c=>bd m4 λ e=>bd m5 λ f=>bd m6 λ h=>bd (al (.tup [a,b,c,e,f,h])) λ _=>k a b c e f h):=λ x hx hsc hfr hz μ adr s S=>by
 have eq:(bd m1 λ a=>bd m2 λ b=>bd m3 λ c=>bd m4 λ e=>bd m5 λ f=>bd m6 λ h=>bd (al (.tup [a,b,c,e,f,h])) λ _=>k a b c e f h) =
   bd (bd m1 λ a=>bd m2 λ b=>bd m3 λ c=>bd m4 λ e=>bd m5 λ f=>bd m6 λ h=>bd (al (.tup [a,b,c,e,f,h])) λ _=>rt (a,b,c,e,f,h)) λ p=>k p.1 p.2.1 p.2.2.1 p.2.2.2.1 p.2.2.2.2.1 p.2.2.2.2.2:=by
  simp only [bd_assoc,bd_rt]
 rw [eq]
 refine DoesS.cons (Γ':=λ p=>((((((Γ.set i1 (some p.1)).set i2 (some p.2.1)).set i3 (some p.2.2.1)).set i4 (some p.2.2.2.1)).set i5 (some p.2.2.2.2.1)).set i6 (some p.2.2.2.2.2))) (λ p μ₄ e=> ?_) λ p μ₁ adr₁ s₁ S1=>hk _ _ _ _ _ _ x hx hsc hfr hz μ₁ adr₁ s₁ S1
 obtain ⟨a,μ₁,e1,e⟩:=bd_some e
 obtain ⟨b,μ₂,e2,e⟩:=bd_some e
 obtain ⟨c,μ₃,e3,e⟩:=bd_some e
 obtain ⟨ee,μ₄',e4,e⟩:=bd_some e
 obtain ⟨f,μ₅,e5,e⟩:=bd_some e
 obtain ⟨hh,μ₆,e6,e⟩:=bd_some e
 obtain ⟨t,μ₇,e7,e⟩:=bd_some e
 obtain ⟨rfl,rfl⟩:=al_inv e7
 cases e
 have hT:=RE_tuple (p:=vp) (k:=k2) h (show [m1,m2,m3,m4,m5,m6].length≤100 by simp) x hx hsc (λ _=>hfr) μ adr s S (.obj μ₆.length) (μ₆ ++ [.tup [a,b,c,ee,f,hh]]) (by
  show bd (evs [m1,m2,m3,m4,m5,m6]) (λ xs=>al (.tup xs)) μ=_
  rw [evs6]
  simp only [bd,e1,e2,e3,e4,e5,e6]
  rfl)
 refine Assign_Tuple (wpAny_mono hT (λ v s₁ ⟨adr₁,q1,S1,r1⟩=> ?_) λ _ _ z=>z) (hs _) (hw _)
 obtain ⟨ad,vs,rfl,hI,q⟩:=tup_at (xs:=[a,b,c,ee,f,hh]) S1 r1 (by simp)
 cases q with
 | cons qa q =>
 cases q with
 | cons qb q =>
 cases q with
 | cons qc q =>
 cases q with
 | cons qd q =>
 cases q with
 | cons qe q =>
 cases q with
 | cons qf q =>
 cases q
 refine assign_Tuple_tuple hx.hnd hI rfl rfl λ h' he=> ?_
 have S2:=ext_st S1 he
 refine assignInOrder_cons (wpAny_assign_Name (wpAny_mono (store_name hx hsc hfr hz hn1 S2 qa) (λ _ s₂ S3=> ?_) λ _ _ z=>z))
 refine assignInOrder_cons (wpAny_assign_Name (wpAny_mono (store_name hx hsc hfr hz hn2 S3 qb) (λ _ s₃ S4=> ?_) λ _ _ z=>z))
 refine assignInOrder_cons (wpAny_assign_Name (wpAny_mono (store_name hx hsc hfr hz hn3 S4 qc) (λ _ s₄ S5=> ?_) λ _ _ z=>z))
 refine assignInOrder_cons (wpAny_assign_Name (wpAny_mono (store_name hx hsc hfr hz hn4 S5 qd) (λ _ s₅ S6=> ?_) λ _ _ z=>z))
 refine assignInOrder_cons (wpAny_assign_Name (wpAny_mono (store_name hx hsc hfr hz hn5 S6 qe) (λ _ s₆ S7=> ?_) λ _ _ z=>z))
 refine assignInOrder_cons (wpAny_assign_Name (wpAny_mono (store_name hx hsc hfr hz hn6 S7 qf) (λ _ s₇ S8=> ?_) λ _ _ z=>z))
 exact assignInOrder_nil ⟨rfl,adr₁,q1,S8⟩
end
noncomputable abbrev KK (P:Params):Frag:=hd.heap_39 P
def Cls:List Cl:=[.scalar, .array, .hash, .code, .glob, .ref, .heap, .counter, .limits]
theorem memCls (c:Cl):c∈Cls:=by cases c <;> decide
def pgB (K:Frag):Bool:=Cls.all λ c=>c.fields.all λ f=>plainGet K c.addr (Str.ofString f) && (hasDictIn K c.addr && (findIn K (.ref c.addr) (Str.ofString f) == some none))
def psB (K:Frag):Bool:=Cls.all λ c=>c.fields.all λ f=>(findIn K (.ref c.addr) "__setattr__" == some (some (.builtin "object.__setattr__"))) && (plainOver K c.addr && (takerIn K c.addr (Str.ofString f) == some none))
def kiB (K:Frag):Bool:=Cls.all λ c=>Cls.all λ e=>kitOne K (.ref c.addr) (.ref e.addr) == some (decide (c=e))
def knB (K:Frag):Bool:=Cls.all λ e=>(kitOne K (.type "NoneType") (.ref e.addr) == some false) && (kitOne K (.type "int") (.ref e.addr) == some false)
def kcB (K:Frag):Bool:=Cls.all λ c=>plainGet K c.addr "__class__" && ((findIn K (.ref c.addr) "__class__" == some (some (.builtin "object.__class__"))) && ((mroIn K c.addr (.type "object") == some true) && hasDictIn K c.addr))
theorem pg_ok (P:Params):pgB (KK P)=true:=by kernel_rfl
theorem ps_ok (P:Params):psB (KK P)=true:=by kernel_rfl
theorem ki_ok (P:Params):kiB (KK P)=true:=by kernel_rfl
theorem kn_ok (P:Params):knB (KK P)=true:=by kernel_rfl
theorem kc_ok (P:Params):kcB (KK P)=true:=by kernel_rfl
theorem facts_of (g:Gd) (hK:g.K=KK g.w.params) (com: ∀ n n' f fd,(∀ p∈n,p∈n')→g.co n f fd→g.co n' f fd):Facts g where
 com:=com
 pg:=λ c f hf=>by
  have h:=List.all_eq_true.mp (List.all_eq_true.mp (hK ▸ pg_ok g.w.params:pgB g.K=true) c (memCls c)) f hf
  simp only [Bool.and_eq_true,beq_iff_eq] at h
  exact ⟨h.1,h.2.1,none,h.2.2,rfl⟩
 ps:=λ c f hf=>by
  have h:=List.all_eq_true.mp (List.all_eq_true.mp (hK ▸ ps_ok g.w.params:psB g.K=true) c (memCls c)) f hf
  simp only [Bool.and_eq_true,beq_iff_eq] at h
  exact ⟨h.1,h.2.1,h.2.2⟩
 ki:=λ c e=>by
  have h:=List.all_eq_true.mp (List.all_eq_true.mp (hK ▸ ki_ok g.w.params:kiB g.K=true) c (memCls c)) e (memCls e)
  exact beq_iff_eq.mp h
 kn:=λ e=>by
  have h:=List.all_eq_true.mp (hK ▸ kn_ok g.w.params:knB g.K=true) e (memCls e)
  simp only [Bool.and_eq_true,beq_iff_eq] at h
  exact h.1
 kj:=λ e=>by
  have h:=List.all_eq_true.mp (hK ▸ kn_ok g.w.params:knB g.K=true) e (memCls e)
  simp only [Bool.and_eq_true,beq_iff_eq] at h
  exact h.2
 tn:=by rw [hK];kernel_rfl
 tj:=by rw [hK];kernel_rfl
 tl:=by rw [hK];kernel_rfl
 tt:=by rw [hK];kernel_rfl
 kc:=λ c=>by
  have h:=List.all_eq_true.mp (hK ▸ kc_ok g.w.params:kcB g.K=true) c (memCls c)
  simp only [Bool.and_eq_true,beq_iff_eq] at h
  exact ⟨h.1,h.2.1,h.2.2.1⟩
 kd:=λ c=>by
  have h:=List.all_eq_true.mp (hK ▸ kc_ok g.w.params:kcB g.K=true) c (memCls c)
  simp only [Bool.and_eq_true,beq_iff_eq] at h
  exact h.2.2.2
 kg:=by rw [hK];kernel_rfl
 kk:=by rw [hK];kernel_rfl
section
variable {g:Gd} {x:Cx} {Γ Γ' Γc:Cx0} {d:Nat} {fr z:Bool} {sc:Scope}
def TakesAt (sc csc:Scope) (Γ:Cx0) (k:Nat) (Γ0:Cx0):Prop:= ∀ (j:Nat) (av:AV),Γ0[j]? =some (some av)→ ∃ (n:Str) (i':Nat),csc.names[k+j]? =some (n,NameKind.free)∧sc.names[i']? =some (n,NameKind.cell)∧Γ[i']? =some (some av)
theorem TakesAt.nil {csc:Scope} {k:Nat}:TakesAt sc csc Γ k []:=λ j av e=>by simp at e
theorem TakesAt.none {csc:Scope} {k:Nat} {r:Cx0} (h:TakesAt sc csc Γ (k+1) r):TakesAt sc csc Γ k (Option.none :: r):=λ j av e=>by
 cases j with
 | zero=>simp at e
 | succ j=>have:=h j av (by simpa using e);rwa [show k+(j+1)=k+1+j by omega]
theorem TakesAt.some {csc:Scope} {k i':Nat} {n:Str} {a:AV} {r:Cx0} (h1:csc.names[k]? =Option.some (n, .free)) (h2:sc.names[i']? =Option.some (n, .cell)) (h3:Γ[i']? =Option.some (Option.some a)) (h:TakesAt sc csc Γ (k+1) r):TakesAt sc csc Γ k (Option.some a :: r):=λ j av e=>by
 cases j with
 | zero=>simp at e;subst e;exact ⟨n,i',h1,h2,h3⟩
 | succ j=>have:=h j av (by simpa using e);rwa [show k+(j+1)=k+1+j by omega]
theorem TakesAt.takes {csc:Scope} {r:Cx0} (h:TakesAt sc csc Γ 2 r):Takes sc csc Γ (Option.none :: Option.none :: r):=λ j av e=>by
 match j with
 | 0=>simp at e
 | 1=>simp at e
 | j+2=>have:=h j av (by simpa using e);rwa [show j+2=2+j by omega]
inductive CT (g:Gd) (d:Nat) (sc':Scope) (Gv:AV→Cx0):List PySem.Expr→(AV→M Bool)→Prop
 | nil:CT g d sc' Gv [] (λ _=>rt true)
 | one {c:PySem.Expr} {t:AV→M Bool}:(∀ w,RC g false d sc' (Gv w) c (t w))→CT g d sc' Gv [c] t
theorem CT.tests {sc':Scope} {Gv:AV→Cx0} {r:Cx0} {ifs:List PySem.Expr} {t:AV→M Bool} (hG: ∀ w,Gv w=Option.none :: Option.some w :: r) (h:CT g d sc' Gv ifs t):CTests g d sc' (Option.none :: Option.none :: r) 1 ifs t:=by
 cases h with
 | nil=>exact .nil
 | one h=>exact .one λ w=>by have:=h w;rw [hG] at this;exact this
theorem RE_comp' (hf:Facts g) {csc:Scope} {v:Str} {px pos:Pos} {iter elt:PySem.Expr} {ifs:List PySem.Expr} {src:M AV} {test:AV→M Bool} {eltM:AV→M AV} {Gv:AV→Cx0} {r:Cx0} {names':List (Str × NameKind)} (hrel:csc.names.map (relabK sc)=names') (hc:CScope sc csc v 1) (hG: ∀ w,Gv w=Option.none :: Option.some w :: r) (hT:TakesAt sc csc Γ 2 r)
  (hs:RE g true d sc Γ iter src) (ht:CT g d {csc with names:=names'} Gv ifs test) (he: ∀ w,RE g false d {csc with names:=names'} (Gv w) elt (eltM w)) (hfs: ∀ env x,foldedSetIterable iter env x=pure x) :
  RE g true d sc Γ (.ListComp elt [⟨.Name v px,iter,ifs,0⟩] csc pos) (bd src λ a=>comp Gv a test eltM):=by
 subst hrel
 exact RE_comp hf (Option.none :: Option.none :: r) hs hc hT.takes (by intro av e;cases e) (ht.tests hG) (λ w=>by have:=he w;rw [hG] at this;exact this) hfs
theorem RS_nameC' (hf:Facts g) {ρ:Type} {G:ρ→Cx0} {csc:Scope} {v n:Str} {j:Nat} {px q p pos:Pos} {iter elt:PySem.Expr} {ifs:List PySem.Expr} {src:M AV} {test:AV→M Bool} {eltM:AV→M AV} {Gv:AV→Cx0} {r:Cx0} {names':List (Str × NameKind)} {rest:List Stmt} {k:AV→M (Fl ρ)} (hrel:csc.names.map (relabK sc)=names') (hc:CScope sc csc v 1) (hG: ∀ w,Gv w=Option.none :: Option.some w :: r) (hT:TakesAt sc csc Γ 2 r)
  (hn:sc.names[j]? =some (n, .local)) (hs:RE g true d sc Γ iter src) (ht:CT g d {csc with names:=names'} Gv ifs test) (he: ∀ w,RE g false d {csc with names:=names'} (Gv w) elt (eltM w)) (hk: ∀ w,RS g z d sc (Γ.set j (some w)) Γc G rest (k w))
  (hsw: ∀ env:Env,env.scope=sc→swapsWith (.ListComp elt [⟨.Name v px,iter,ifs,0⟩] csc pos) (some (.Name n q)) p.line env=pure true) (hfs: ∀ env x,foldedSetIterable iter env x=pure x) :
  RS g z d sc Γ Γc G (.Assign [.Name n q] (.ListComp elt [⟨.Name v px,iter,ifs,0⟩] csc pos) p :: rest) (bd (bd src λ a=>comp Gv a test eltM) k):=by
 subst hrel
 exact RS_nameC hf (Option.none :: Option.none :: r) hs hc hT.takes (by intro av e;cases e) (ht.tests hG) (λ w=>by have:=he w;rw [hG] at this;exact this) hn hk hsw hfs
end
end Mine
end
section
open PySem PySem.W PySem.Calls PyProof.Rows
namespace Mine
variable {g:Gd}
theorem NB (hK:g.K=KK g.w.params) {sc:Scope} (n:Str) (fv:Value) (e: ∀ P,nsIn (KK P) mainGlobals n=some none) (hv:bootBuiltins n=some fv) (hn:n≠"__name__") (hd:(n == ("__debug__" :Str))=false) (hk:sc.names.lookup n=some .globalImplicit):NameIs g sc n fv:= .built (by rw [hK];exact e _) hk hv hn hd
theorem N_isinstance (hK:g.K=KK g.w.params) {sc:Scope} (hk:sc.names.lookup (Str.ofString "isinstance")=some .globalImplicit):NameIs g sc (Str.ofString "isinstance") (.builtin "isinstance"):=NB hK _ _ (λ P=>by kernel_rfl) (by boot_fast) (by decide) (by decide) hk
theorem N_tuple (hK:g.K=KK g.w.params) {sc:Scope} (hk:sc.names.lookup (Str.ofString "tuple")=some .globalImplicit):NameIs g sc (Str.ofString "tuple") (.type "tuple"):=NB hK _ _ (λ P=>by kernel_rfl) (by boot_fast) (by decide) (by decide) hk
theorem N_len (hK:g.K=KK g.w.params) {sc:Scope} (hk:sc.names.lookup (Str.ofString "len")=some .globalImplicit):NameIs g sc (Str.ofString "len") (.builtin "len"):=NB hK _ _ (λ P=>by kernel_rfl) (by boot_fast) (by decide) (by decide) hk
theorem N_sorted (hK:g.K=KK g.w.params) {sc:Scope} (hk:sc.names.lookup (Str.ofString "sorted")=some .globalImplicit):NameIs g sc (Str.ofString "sorted") (.builtin "sorted"):=NB hK _ _ (λ P=>by kernel_rfl) (by boot_fast) (by decide) (by decide) hk
theorem N_range (hK:g.K=KK g.w.params) {sc:Scope} (hk:sc.names.lookup (Str.ofString "range")=some .globalImplicit):NameIs g sc (Str.ofString "range") (.type "range"):=NB hK _ _ (λ P=>by kernel_rfl) (by boot_fast) (by decide) (by decide) hk
theorem N_abs (hK:g.K=KK g.w.params) {sc:Scope} (hk:sc.names.lookup (Str.ofString "abs")=some .globalImplicit):NameIs g sc (Str.ofString "abs") (.builtin "abs"):=NB hK _ _ (λ P=>by kernel_rfl) (by boot_fast) (by decide) (by decide) hk
theorem N_sum (hK:g.K=KK g.w.params) {sc:Scope} (hk:sc.names.lookup (Str.ofString "sum")=some .globalImplicit):NameIs g sc (Str.ofString "sum") (.builtin "sum"):=NB hK _ _ (λ P=>by kernel_rfl) (by boot_fast) (by decide) (by decide) hk
theorem N_str (hK:g.K=KK g.w.params) {sc:Scope} (hk:sc.names.lookup (Str.ofString "str")=some .globalImplicit):NameIs g sc (Str.ofString "str") (.type "str"):=NB hK _ _ (λ P=>by kernel_rfl) (by boot_fast) (by decide) (by decide) hk
theorem N_Thing (hK:g.K=KK g.w.params) {sc:Scope} (hk:sc.names.lookup (Str.ofString "Thing")=some .globalImplicit):NameIs g sc (Str.ofString "Thing") (.ref 38):= .glob (by rw [hK];kernel_rfl) hk (by decide)
theorem N_Scalar (hK:g.K=KK g.w.params) {sc:Scope} (hk:sc.names.lookup (Str.ofString "Scalar")=some .globalImplicit):NameIs g sc (Str.ofString "Scalar") (.ref 59):= .glob (by rw [hK];kernel_rfl) hk (by decide)
theorem N_Array (hK:g.K=KK g.w.params) {sc:Scope} (hk:sc.names.lookup (Str.ofString "Array")=some .globalImplicit):NameIs g sc (Str.ofString "Array") (.ref 78):= .glob (by rw [hK];kernel_rfl) hk (by decide)
theorem N_Hash (hK:g.K=KK g.w.params) {sc:Scope} (hk:sc.names.lookup (Str.ofString "Hash")=some .globalImplicit):NameIs g sc (Str.ofString "Hash") (.ref 97):= .glob (by rw [hK];kernel_rfl) hk (by decide)
theorem N_Code (hK:g.K=KK g.w.params) {sc:Scope} (hk:sc.names.lookup (Str.ofString "Code")=some .globalImplicit):NameIs g sc (Str.ofString "Code") (.ref 116):= .glob (by rw [hK];kernel_rfl) hk (by decide)
theorem N_Glob (hK:g.K=KK g.w.params) {sc:Scope} (hk:sc.names.lookup (Str.ofString "Glob")=some .globalImplicit):NameIs g sc (Str.ofString "Glob") (.ref 135):= .glob (by rw [hK];kernel_rfl) hk (by decide)
theorem N_Ref (hK:g.K=KK g.w.params) {sc:Scope} (hk:sc.names.lookup (Str.ofString "Ref")=some .globalImplicit):NameIs g sc (Str.ofString "Ref") (.ref 155):= .glob (by rw [hK];kernel_rfl) hk (by decide)
theorem N_Heap (hK:g.K=KK g.w.params) {sc:Scope} (hk:sc.names.lookup (Str.ofString "Heap")=some .globalImplicit):NameIs g sc (Str.ofString "Heap") (.ref 218):= .glob (by rw [hK];kernel_rfl) hk (by decide)
theorem N_Counter (hK:g.K=KK g.w.params) {sc:Scope} (hk:sc.names.lookup (Str.ofString "Counter")=some .globalImplicit):NameIs g sc (Str.ofString "Counter") (.ref 331):= .glob (by rw [hK];kernel_rfl) hk (by decide)
theorem N_Limits (hK:g.K=KK g.w.params) {sc:Scope} (hk:sc.names.lookup (Str.ofString "Limits")=some .globalImplicit):NameIs g sc (Str.ofString "Limits") (.ref 367):= .glob (by rw [hK];kernel_rfl) hk (by decide)
theorem N_held_by (hK:g.K=KK g.w.params) {sc:Scope} (hk:sc.names.lookup (Str.ofString "held_by")=some .globalImplicit):NameIs g sc (Str.ofString "held_by") (.ref 227):= .glob (by rw [hK];kernel_rfl) hk (by decide)
theorem N_empty_out (hK:g.K=KK g.w.params) {sc:Scope} (hk:sc.names.lookup (Str.ofString "empty_out")=some .globalImplicit):NameIs g sc (Str.ofString "empty_out") (.ref 234):= .glob (by rw [hK];kernel_rfl) hk (by decide)
theorem N_in_order (hK:g.K=KK g.w.params) {sc:Scope} (hk:sc.names.lookup (Str.ofString "in_order")=some .globalImplicit):NameIs g sc (Str.ofString "in_order") (.ref 239):= .glob (by rw [hK];kernel_rfl) hk (by decide)
theorem N_weaken_scalar (hK:g.K=KK g.w.params) {sc:Scope} (hk:sc.names.lookup (Str.ofString "weaken_scalar")=some .globalImplicit):NameIs g sc (Str.ofString "weaken_scalar") (.ref 342):= .glob (by rw [hK];kernel_rfl) hk (by decide)
theorem N_bless_thing (hK:g.K=KK g.w.params) {sc:Scope} (hk:sc.names.lookup (Str.ofString "bless_thing")=some .globalImplicit):NameIs g sc (Str.ofString "bless_thing") (.ref 349):= .glob (by rw [hK];kernel_rfl) hk (by decide)
theorem N_law_degrees (hK:g.K=KK g.w.params) {sc:Scope} (hk:sc.names.lookup (Str.ofString "_law_degrees")=some .globalImplicit):NameIs g sc (Str.ofString "_law_degrees") (.ref 376):= .glob (by rw [hK];kernel_rfl) hk (by decide)
theorem N_law_settled (hK:g.K=KK g.w.params) {sc:Scope} (hk:sc.names.lookup (Str.ofString "_law_settled")=some .globalImplicit):NameIs g sc (Str.ofString "_law_settled") (.ref 381):= .glob (by rw [hK];kernel_rfl) hk (by decide)
theorem N_law_value (hK:g.K=KK g.w.params) {sc:Scope} (hk:sc.names.lookup (Str.ofString "_law_value")=some .globalImplicit):NameIs g sc (Str.ofString "_law_value") (.ref 388):= .glob (by rw [hK];kernel_rfl) hk (by decide)
theorem N_law_same (hK:g.K=KK g.w.params) {sc:Scope} (hk:sc.names.lookup (Str.ofString "_law_same")=some .globalImplicit):NameIs g sc (Str.ofString "_law_same") (.ref 393):= .glob (by rw [hK];kernel_rfl) hk (by decide)
theorem N_law_place (hK:g.K=KK g.w.params) {sc:Scope} (hk:sc.names.lookup (Str.ofString "_law_place")=some .globalImplicit):NameIs g sc (Str.ofString "_law_place") (.ref 400):= .glob (by rw [hK];kernel_rfl) hk (by decide)
theorem N_law_strong (hK:g.K=KK g.w.params) {sc:Scope} (hk:sc.names.lookup (Str.ofString "_law_strong")=some .globalImplicit):NameIs g sc (Str.ofString "_law_strong") (.ref 407):= .glob (by rw [hK];kernel_rfl) hk (by decide)
theorem N_law_new (hK:g.K=KK g.w.params) {sc:Scope} (hk:sc.names.lookup (Str.ofString "_law_new")=some .globalImplicit):NameIs g sc (Str.ofString "_law_new") (.ref 414):= .glob (by rw [hK];kernel_rfl) hk (by decide)
theorem N_law_put (hK:g.K=KK g.w.params) {sc:Scope} (hk:sc.names.lookup (Str.ofString "_law_put")=some .globalImplicit):NameIs g sc (Str.ofString "_law_put") (.ref 419):= .glob (by rw [hK];kernel_rfl) hk (by decide)
theorem N_law_taken (hK:g.K=KK g.w.params) {sc:Scope} (hk:sc.names.lookup (Str.ofString "_law_taken")=some .globalImplicit):NameIs g sc (Str.ofString "_law_taken") (.ref 426):= .glob (by rw [hK];kernel_rfl) hk (by decide)
theorem N_law_deed (hK:g.K=KK g.w.params) {sc:Scope} (hk:sc.names.lookup (Str.ofString "_law_deed")=some .globalImplicit):NameIs g sc (Str.ofString "_law_deed") (.ref 433):= .glob (by rw [hK];kernel_rfl) hk (by decide)
theorem I_Scalar (hf:Facts g) (hK:g.K=KK g.w.params) {fr:Bool} {d:Nat} {sc:Scope} {Γ:Cx0} {e:PySem.Expr} {m:M AV} {p cp pos:Pos} (hk:sc.names.lookup (Str.ofString "isinstance")=some .globalImplicit) (hk2:sc.names.lookup (Str.ofString "Scalar")=some .globalImplicit) (he: ∀ env,starEach [e, .Name (Str.ofString "Scalar") cp] env=[(false,eval e env),(false,eval (.Name (Str.ofString "Scalar") cp) env)]) (h:RE g fr d sc Γ e m):RE g fr d sc Γ (.Call (.Name (Str.ofString "isinstance") p) [e, .Name (Str.ofString "Scalar") cp] [] pos) (bd m λ a=>isI .scalar a):=RE_isinst (N_isinstance hK hk) (N_Scalar hK hk2) (op_isI hf .scalar) h he
theorem I_Array (hf:Facts g) (hK:g.K=KK g.w.params) {fr:Bool} {d:Nat} {sc:Scope} {Γ:Cx0} {e:PySem.Expr} {m:M AV} {p cp pos:Pos} (hk:sc.names.lookup (Str.ofString "isinstance")=some .globalImplicit) (hk2:sc.names.lookup (Str.ofString "Array")=some .globalImplicit) (he: ∀ env,starEach [e, .Name (Str.ofString "Array") cp] env=[(false,eval e env),(false,eval (.Name (Str.ofString "Array") cp) env)]) (h:RE g fr d sc Γ e m):RE g fr d sc Γ (.Call (.Name (Str.ofString "isinstance") p) [e, .Name (Str.ofString "Array") cp] [] pos) (bd m λ a=>isI .array a):=RE_isinst (N_isinstance hK hk) (N_Array hK hk2) (op_isI hf .array) h he
theorem I_Hash (hf:Facts g) (hK:g.K=KK g.w.params) {fr:Bool} {d:Nat} {sc:Scope} {Γ:Cx0} {e:PySem.Expr} {m:M AV} {p cp pos:Pos} (hk:sc.names.lookup (Str.ofString "isinstance")=some .globalImplicit) (hk2:sc.names.lookup (Str.ofString "Hash")=some .globalImplicit) (he: ∀ env,starEach [e, .Name (Str.ofString "Hash") cp] env=[(false,eval e env),(false,eval (.Name (Str.ofString "Hash") cp) env)]) (h:RE g fr d sc Γ e m):RE g fr d sc Γ (.Call (.Name (Str.ofString "isinstance") p) [e, .Name (Str.ofString "Hash") cp] [] pos) (bd m λ a=>isI .hash a):=RE_isinst (N_isinstance hK hk) (N_Hash hK hk2) (op_isI hf .hash) h he
theorem I_Code (hf:Facts g) (hK:g.K=KK g.w.params) {fr:Bool} {d:Nat} {sc:Scope} {Γ:Cx0} {e:PySem.Expr} {m:M AV} {p cp pos:Pos} (hk:sc.names.lookup (Str.ofString "isinstance")=some .globalImplicit) (hk2:sc.names.lookup (Str.ofString "Code")=some .globalImplicit) (he: ∀ env,starEach [e, .Name (Str.ofString "Code") cp] env=[(false,eval e env),(false,eval (.Name (Str.ofString "Code") cp) env)]) (h:RE g fr d sc Γ e m):RE g fr d sc Γ (.Call (.Name (Str.ofString "isinstance") p) [e, .Name (Str.ofString "Code") cp] [] pos) (bd m λ a=>isI .code a):=RE_isinst (N_isinstance hK hk) (N_Code hK hk2) (op_isI hf .code) h he
theorem I_Glob (hf:Facts g) (hK:g.K=KK g.w.params) {fr:Bool} {d:Nat} {sc:Scope} {Γ:Cx0} {e:PySem.Expr} {m:M AV} {p cp pos:Pos} (hk:sc.names.lookup (Str.ofString "isinstance")=some .globalImplicit) (hk2:sc.names.lookup (Str.ofString "Glob")=some .globalImplicit) (he: ∀ env,starEach [e, .Name (Str.ofString "Glob") cp] env=[(false,eval e env),(false,eval (.Name (Str.ofString "Glob") cp) env)]) (h:RE g fr d sc Γ e m):RE g fr d sc Γ (.Call (.Name (Str.ofString "isinstance") p) [e, .Name (Str.ofString "Glob") cp] [] pos) (bd m λ a=>isI .glob a):=RE_isinst (N_isinstance hK hk) (N_Glob hK hk2) (op_isI hf .glob) h he
theorem I_Ref (hf:Facts g) (hK:g.K=KK g.w.params) {fr:Bool} {d:Nat} {sc:Scope} {Γ:Cx0} {e:PySem.Expr} {m:M AV} {p cp pos:Pos} (hk:sc.names.lookup (Str.ofString "isinstance")=some .globalImplicit) (hk2:sc.names.lookup (Str.ofString "Ref")=some .globalImplicit) (he: ∀ env,starEach [e, .Name (Str.ofString "Ref") cp] env=[(false,eval e env),(false,eval (.Name (Str.ofString "Ref") cp) env)]) (h:RE g fr d sc Γ e m):RE g fr d sc Γ (.Call (.Name (Str.ofString "isinstance") p) [e, .Name (Str.ofString "Ref") cp] [] pos) (bd m λ a=>isI .ref a):=RE_isinst (N_isinstance hK hk) (N_Ref hK hk2) (op_isI hf .ref) h he
theorem I_Heap (hf:Facts g) (hK:g.K=KK g.w.params) {fr:Bool} {d:Nat} {sc:Scope} {Γ:Cx0} {e:PySem.Expr} {m:M AV} {p cp pos:Pos} (hk:sc.names.lookup (Str.ofString "isinstance")=some .globalImplicit) (hk2:sc.names.lookup (Str.ofString "Heap")=some .globalImplicit) (he: ∀ env,starEach [e, .Name (Str.ofString "Heap") cp] env=[(false,eval e env),(false,eval (.Name (Str.ofString "Heap") cp) env)]) (h:RE g fr d sc Γ e m):RE g fr d sc Γ (.Call (.Name (Str.ofString "isinstance") p) [e, .Name (Str.ofString "Heap") cp] [] pos) (bd m λ a=>isI .heap a):=RE_isinst (N_isinstance hK hk) (N_Heap hK hk2) (op_isI hf .heap) h he
theorem I_Counter (hf:Facts g) (hK:g.K=KK g.w.params) {fr:Bool} {d:Nat} {sc:Scope} {Γ:Cx0} {e:PySem.Expr} {m:M AV} {p cp pos:Pos} (hk:sc.names.lookup (Str.ofString "isinstance")=some .globalImplicit) (hk2:sc.names.lookup (Str.ofString "Counter")=some .globalImplicit) (he: ∀ env,starEach [e, .Name (Str.ofString "Counter") cp] env=[(false,eval e env),(false,eval (.Name (Str.ofString "Counter") cp) env)]) (h:RE g fr d sc Γ e m):RE g fr d sc Γ (.Call (.Name (Str.ofString "isinstance") p) [e, .Name (Str.ofString "Counter") cp] [] pos) (bd m λ a=>isI .counter a):=RE_isinst (N_isinstance hK hk) (N_Counter hK hk2) (op_isI hf .counter) h he
theorem I_Limits (hf:Facts g) (hK:g.K=KK g.w.params) {fr:Bool} {d:Nat} {sc:Scope} {Γ:Cx0} {e:PySem.Expr} {m:M AV} {p cp pos:Pos} (hk:sc.names.lookup (Str.ofString "isinstance")=some .globalImplicit) (hk2:sc.names.lookup (Str.ofString "Limits")=some .globalImplicit) (he: ∀ env,starEach [e, .Name (Str.ofString "Limits") cp] env=[(false,eval e env),(false,eval (.Name (Str.ofString "Limits") cp) env)]) (h:RE g fr d sc Γ e m):RE g fr d sc Γ (.Call (.Name (Str.ofString "isinstance") p) [e, .Name (Str.ofString "Limits") cp] [] pos) (bd m λ a=>isI .limits a):=RE_isinst (N_isinstance hK hk) (N_Limits hK hk2) (op_isI hf .limits) h he
theorem I_tuple (hf:Facts g) (hK:g.K=KK g.w.params) {fr:Bool} {d:Nat} {sc:Scope} {Γ:Cx0} {e:PySem.Expr} {m:M AV} {p cp pos:Pos} (hk:sc.names.lookup (Str.ofString "isinstance")=some .globalImplicit) (hk2:sc.names.lookup (Str.ofString "tuple")=some .globalImplicit) (he: ∀ env,starEach [e, .Name (Str.ofString "tuple") cp] env=[(false,eval e env),(false,eval (.Name (Str.ofString "tuple") cp) env)]) (h:RE g fr d sc Γ e m):RE g fr d sc Γ (.Call (.Name (Str.ofString "isinstance") p) [e, .Name (Str.ofString "tuple") cp] [] pos) (bd m λ a=>isT a):=RE_isinst (N_isinstance hK hk) (N_tuple hK hk2) (op_isT hf) h he
theorem B_lenM (hK:g.K=KK g.w.params) {fr:Bool} {d:Nat} {sc:Scope} {Γ:Cx0} {e:PySem.Expr} {m:M AV} {p pos:Pos} (hk:sc.names.lookup (Str.ofString "len")=some .globalImplicit) (he: ∀ env,starEach [e] env=[(false,eval e env)]) (h:RE g fr d sc Γ e m):RE g fr d sc Γ (.Call (.Name (Str.ofString "len") p) [e] [] pos) (bd m λ a=>lenM a):=RE_b1 (N_len hK hk) Kp.builtin op_len h he
theorem B_absM (hK:g.K=KK g.w.params) {fr:Bool} {d:Nat} {sc:Scope} {Γ:Cx0} {e:PySem.Expr} {m:M AV} {p pos:Pos} (hk:sc.names.lookup (Str.ofString "abs")=some .globalImplicit) (he: ∀ env,starEach [e] env=[(false,eval e env)]) (h:RE g fr d sc Γ e m):RE g fr d sc Γ (.Call (.Name (Str.ofString "abs") p) [e] [] pos) (bd m λ a=>absM a):=RE_b1 (N_abs hK hk) Kp.builtin op_abs h he
theorem B_strM (hK:g.K=KK g.w.params) {fr:Bool} {d:Nat} {sc:Scope} {Γ:Cx0} {e:PySem.Expr} {m:M AV} {p pos:Pos} (hk:sc.names.lookup (Str.ofString "str")=some .globalImplicit) (he: ∀ env,starEach [e] env=[(false,eval e env)]) (h:RE g fr d sc Γ e m):RE g fr d sc Γ (.Call (.Name (Str.ofString "str") p) [e] [] pos) (bd m λ a=>strM a):=RE_b1 (N_str hK hk) Kp.type op_str h he
theorem B_sumM (hK:g.K=KK g.w.params) {fr:Bool} {d:Nat} {sc:Scope} {Γ:Cx0} {e:PySem.Expr} {m:M AV} {p pos:Pos} (hk:sc.names.lookup (Str.ofString "sum")=some .globalImplicit) (he: ∀ env,starEach [e] env=[(false,eval e env)]) (h:RE g fr d sc Γ e m):RE g fr d sc Γ (.Call (.Name (Str.ofString "sum") p) [e] [] pos) (bd m λ a=>sumM a):=RE_b1 (N_sum hK hk) Kp.builtin op_sum h he
theorem B_sortedL (hK:g.K=KK g.w.params) {fr:Bool} {d:Nat} {sc:Scope} {Γ:Cx0} {e:PySem.Expr} {m:M AV} {p pos:Pos} (hk:sc.names.lookup (Str.ofString "sorted")=some .globalImplicit) (he: ∀ env,starEach [e] env=[(false,eval e env)]) (h:RE g fr d sc Γ e m):RE g fr d sc Γ (.Call (.Name (Str.ofString "sorted") p) [e] [] pos) (bd m λ a=>sortedL a):=RE_b1 (N_sorted hK hk) Kp.builtin op_sortedL h he
theorem B_sortedD (hK:g.K=KK g.w.params) {fr:Bool} {d:Nat} {sc:Scope} {Γ:Cx0} {e:PySem.Expr} {m:M AV} {p pos:Pos} (hk:sc.names.lookup (Str.ofString "sorted")=some .globalImplicit) (he: ∀ env,starEach [e] env=[(false,eval e env)]) (h:RE g fr d sc Γ e m):RE g fr d sc Γ (.Call (.Name (Str.ofString "sorted") p) [e] [] pos) (bd m λ a=>sortedD a):=RE_b1 (N_sorted hK hk) Kp.builtin op_sortedD h he
theorem D_dget1 {fr:Bool} {d:Nat} {sc:Scope} {Γ:Cx0} {o e:PySem.Expr} {ap pos:Pos} {mo m:M AV} (ho:RE g fr d sc Γ o mo) (h1:RE g fr d sc Γ e m) (he:MethEval o "get" ap pos [e]) (hst: ∀ env,starEach [e] env=[(false,eval e env)]):RE g fr d sc Γ (.Call (.Attribute o (Str.ofString "get") ap) [e] [] pos) (bd mo λ a=>bd (chkD a) λ _=>bd m λ b=>dget1 a b):=RE_dmeth1 (name:="get") (mop:=dget1) PySem.F.slot_dict_get PySem.F.type_dict_get (λ x d Γ hx va vb a b μ adr s S r1 r2=>dget1_does hx S r1 r2) ho h1 he hst
theorem D_dpop1 {fr:Bool} {d:Nat} {sc:Scope} {Γ:Cx0} {o e:PySem.Expr} {ap pos:Pos} {mo m:M AV} (ho:RE g fr d sc Γ o mo) (h1:RE g fr d sc Γ e m) (he:MethEval o "pop" ap pos [e]) (hst: ∀ env,starEach [e] env=[(false,eval e env)]):RE g fr d sc Γ (.Call (.Attribute o (Str.ofString "pop") ap) [e] [] pos) (bd mo λ a=>bd (chkD a) λ _=>bd m λ b=>dpop1 a b):=RE_dmeth1 (name:="pop") (mop:=dpop1) PySem.F.slot_dict_pop PySem.F.type_dict_pop (λ x d Γ hx va vb a b μ adr s S r1 r2=>dpop1_does hx S r1 r2) ho h1 he hst
theorem D_dget2 {fr:Bool} {d:Nat} {sc:Scope} {Γ:Cx0} {o e f:PySem.Expr} {ap pos:Pos} {mo m n:M AV} (ho:RE g fr d sc Γ o mo) (h1:RE g fr d sc Γ e m) (h2:RE g fr d sc Γ f n) (he:MethEval o "get" ap pos [e,f]) (hst: ∀ env,starEach [e,f] env=[(false,eval e env),(false,eval f env)]) (hst2: ∀ env,starEach [f] env=[(false,eval f env)]):RE g fr d sc Γ (.Call (.Attribute o (Str.ofString "get") ap) [e,f] [] pos) (bd mo λ a=>bd (chkD a) λ _=>bd m λ b=>bd n λ c=>dget2 a b c):=RE_dmeth2 (name:="get") (mop:=dget2) PySem.F.slot_dict_get PySem.F.type_dict_get (λ x d Γ hx va vb vc a b c μ adr s S r1 r2 r3=>dget2_does hx S r1 r2 r3) ho h1 h2 he hst hst2
theorem D_dpop2 {fr:Bool} {d:Nat} {sc:Scope} {Γ:Cx0} {o e f:PySem.Expr} {ap pos:Pos} {mo m n:M AV} (ho:RE g fr d sc Γ o mo) (h1:RE g fr d sc Γ e m) (h2:RE g fr d sc Γ f n) (he:MethEval o "pop" ap pos [e,f]) (hst: ∀ env,starEach [e,f] env=[(false,eval e env),(false,eval f env)]) (hst2: ∀ env,starEach [f] env=[(false,eval f env)]):RE g fr d sc Γ (.Call (.Attribute o (Str.ofString "pop") ap) [e,f] [] pos) (bd mo λ a=>bd (chkD a) λ _=>bd m λ b=>bd n λ c=>dpop2 a b c):=RE_dmeth2 (name:="pop") (mop:=dpop2) PySem.F.slot_dict_pop PySem.F.type_dict_pop (λ x d Γ hx va vb vc a b c μ adr s S r1 r2 r3=>dpop2_does hx S r1 r2 r3) ho h1 h2 he hst hst2
def idx (n:Str):List (Str × NameKind)→Nat
 | []=>0
 | p :: r=>if p.1 == n then 0 else idx n r+1
theorem RE_nameK {fr:Bool} {d:Nat} {sc:Scope} {Γ:Cx0} {n:Str} {av:AV} {p:Pos} (hi:Γ[idx n sc.names]? =some (some av)) (hn:((sc.names[idx n sc.names]?).map λ q=>q.1 == n)=some true) (hd:((n == ("__debug__" :Str)) || (n == ("__classdict__" :Str)))=false):RE g fr d sc Γ (.Name n p) (rt av):=by
 cases h:sc.names[idx n sc.names]? with
 | none=>rw [h] at hn;cases hn
 | some q =>
  obtain ⟨n',k⟩:=q
  rw [h] at hn
  have e:n'=n:=by simpa using hn
  rw [Bool.or_eq_false_iff] at hd
  exact RE_name hi (by rw [h,e]) hd.1 hd.2
local macro_rules | `(tactic| walk_at "m-name")=> `(tactic| ((with_reducible refine RE_nameK ?_ ?_ ?_);(focus kernel_rfl);(focus kernel_rfl);(focus kernel_rfl)))
local macro_rules | `(tactic| walk_at "m-sub")=> `(tactic| first | exact Sub.refl | exact Sub.nil | (refine Sub.same ?_;walk_at "m-sub") | (refine Sub.drop ?_;walk_at "m-sub"))
theorem st_l {z:Bool} {sc:Scope} {n:Str} (i:Nat) (h:sc.names[i]? =some (n, .local)):Stores z sc i n:=Or.inl h
theorem st_c {sc:Scope} {n:Str} (i:Nat) (h:sc.names[i]? =some (n, .cell)):Stores false sc i n:=Or.inr ⟨h,rfl⟩
theorem sl_at {sc:Scope} {n:Str} {k:NameKind} (i:Nat) (h:sc.names[i]? =some (n,k)):sc.names[i]? =some (n,k):=h
local macro_rules | `(tactic| walk_at "m-st")=> `(tactic| first | exact st_l 0 (by decide +kernel) | exact st_l 1 (by decide +kernel) | exact st_l 2 (by decide +kernel) | exact st_l 3 (by decide +kernel) | exact st_l 4 (by decide +kernel) | exact st_l 5 (by decide +kernel) | exact st_l 6 (by decide +kernel) | exact st_l 7 (by decide +kernel) | exact st_l 8 (by decide +kernel) | exact st_l 9 (by decide +kernel) | exact st_l 10 (by decide +kernel) | exact st_l 11 (by decide +kernel) | exact st_l 12 (by decide +kernel) | exact st_l 13 (by decide +kernel) | exact st_l 14 (by decide +kernel) | exact st_l 15 (by decide +kernel) | exact st_l 16 (by decide +kernel) | exact st_l 17 (by decide +kernel) | exact st_l 18 (by decide +kernel) | exact st_l 19 (by decide +kernel) | exact st_l 20 (by decide +kernel) | exact st_l 21 (by decide +kernel) | exact st_l 22 (by decide +kernel) | exact st_c 0 (by decide +kernel) | exact st_c 1 (by decide +kernel) | exact st_c 2 (by decide +kernel) | exact st_c 3 (by decide +kernel) | exact st_c 4 (by decide +kernel) | exact st_c 5 (by decide +kernel) | exact st_c 6 (by decide +kernel) | exact st_c 7 (by decide +kernel) | exact st_c 8 (by decide +kernel) | exact st_c 9 (by decide +kernel) | exact st_c 10 (by decide +kernel) | exact st_c 11 (by decide +kernel) | exact st_c 12 (by decide +kernel) | exact st_c 13 (by decide +kernel) | exact st_c 14 (by decide +kernel) | exact st_c 15 (by decide +kernel) | exact st_c 16 (by decide +kernel) | exact st_c 17 (by decide +kernel) | exact st_c 18 (by decide +kernel) | exact st_c 19 (by decide +kernel) | exact st_c 20 (by decide +kernel) | exact st_c 21 (by decide +kernel) | exact st_c 22 (by decide +kernel))
local macro_rules | `(tactic| walk_at "m-sl")=> `(tactic| first | exact sl_at 0 (by decide +kernel) | exact sl_at 1 (by decide +kernel) | exact sl_at 2 (by decide +kernel) | exact sl_at 3 (by decide +kernel) | exact sl_at 4 (by decide +kernel) | exact sl_at 5 (by decide +kernel) | exact sl_at 6 (by decide +kernel) | exact sl_at 7 (by decide +kernel) | exact sl_at 8 (by decide +kernel) | exact sl_at 9 (by decide +kernel) | exact sl_at 10 (by decide +kernel) | exact sl_at 11 (by decide +kernel) | exact sl_at 12 (by decide +kernel) | exact sl_at 13 (by decide +kernel) | exact sl_at 14 (by decide +kernel) | exact sl_at 15 (by decide +kernel) | exact sl_at 16 (by decide +kernel) | exact sl_at 17 (by decide +kernel) | exact sl_at 18 (by decide +kernel) | exact sl_at 19 (by decide +kernel) | exact sl_at 20 (by decide +kernel) | exact sl_at 21 (by decide +kernel) | exact sl_at 22 (by decide +kernel))
local macro_rules | `(tactic| walk_at "m-tk")=> `(tactic| first | with_reducible exact TakesAt.nil | ((with_reducible refine TakesAt.none ?_);walk_at "m-tk") | ((with_reducible refine' TakesAt.some (i':=0) ?h1 ?h2 ?h3 ?h);(case h1=>rfl);(case h2=>decide +kernel);(case h3=>rfl);(case h=>walk_at "m-tk")) | ((with_reducible refine' TakesAt.some (i':=1) ?h1 ?h2 ?h3 ?h);(case h1=>rfl);(case h2=>decide +kernel);(case h3=>rfl);(case h=>walk_at "m-tk")) | ((with_reducible refine' TakesAt.some (i':=2) ?h1 ?h2 ?h3 ?h);(case h1=>rfl);(case h2=>decide +kernel);(case h3=>rfl);(case h=>walk_at "m-tk")) | ((with_reducible refine' TakesAt.some (i':=3) ?h1 ?h2 ?h3 ?h);(case h1=>rfl);(case h2=>decide +kernel);(case h3=>rfl);(case h=>walk_at "m-tk")) | ((with_reducible refine' TakesAt.some (i':=4) ?h1 ?h2 ?h3 ?h);(case h1=>rfl);(case h2=>decide +kernel);(case h3=>rfl);(case h=>walk_at "m-tk")) | ((with_reducible refine' TakesAt.some (i':=5) ?h1 ?h2 ?h3 ?h);(case h1=>rfl);(case h2=>decide +kernel);(case h3=>rfl);(case h=>walk_at "m-tk")) | ((with_reducible refine' TakesAt.some (i':=6) ?h1 ?h2 ?h3 ?h);(case h1=>rfl);(case h2=>decide +kernel);(case h3=>rfl);(case h=>walk_at "m-tk")) | ((with_reducible refine' TakesAt.some (i':=7) ?h1 ?h2 ?h3 ?h);(case h1=>rfl);(case h2=>decide +kernel);(case h3=>rfl);(case h=>walk_at "m-tk")) | ((with_reducible refine' TakesAt.some (i':=8) ?h1 ?h2 ?h3 ?h);(case h1=>rfl);(case h2=>decide +kernel);(case h3=>rfl);(case h=>walk_at "m-tk")) | ((with_reducible refine' TakesAt.some (i':=9) ?h1 ?h2 ?h3 ?h);(case h1=>rfl);(case h2=>decide +kernel);(case h3=>rfl);(case h=>walk_at "m-tk")) | ((with_reducible refine' TakesAt.some (i':=10) ?h1 ?h2 ?h3 ?h);(case h1=>rfl);(case h2=>decide +kernel);(case h3=>rfl);(case h=>walk_at "m-tk")) | ((with_reducible refine' TakesAt.some (i':=11) ?h1 ?h2 ?h3 ?h);(case h1=>rfl);(case h2=>decide +kernel);(case h3=>rfl);(case h=>walk_at "m-tk")) | ((with_reducible refine' TakesAt.some (i':=12) ?h1 ?h2 ?h3 ?h);(case h1=>rfl);(case h2=>decide +kernel);(case h3=>rfl);(case h=>walk_at "m-tk")) | ((with_reducible refine' TakesAt.some (i':=13) ?h1 ?h2 ?h3 ?h);(case h1=>rfl);(case h2=>decide +kernel);(case h3=>rfl);(case h=>walk_at "m-tk")) | ((with_reducible refine' TakesAt.some (i':=14) ?h1 ?h2 ?h3 ?h);(case h1=>rfl);(case h2=>decide +kernel);(case h3=>rfl);(case h=>walk_at "m-tk")) | ((with_reducible refine' TakesAt.some (i':=15) ?h1 ?h2 ?h3 ?h);(case h1=>rfl);(case h2=>decide +kernel);(case h3=>rfl);(case h=>walk_at "m-tk")) | ((with_reducible refine' TakesAt.some (i':=16) ?h1 ?h2 ?h3 ?h);(case h1=>rfl);(case h2=>decide +kernel);(case h3=>rfl);(case h=>walk_at "m-tk")) | ((with_reducible refine' TakesAt.some (i':=17) ?h1 ?h2 ?h3 ?h);(case h1=>rfl);(case h2=>decide +kernel);(case h3=>rfl);(case h=>walk_at "m-tk")) | ((with_reducible refine' TakesAt.some (i':=18) ?h1 ?h2 ?h3 ?h);(case h1=>rfl);(case h2=>decide +kernel);(case h3=>rfl);(case h=>walk_at "m-tk")) | ((with_reducible refine' TakesAt.some (i':=19) ?h1 ?h2 ?h3 ?h);(case h1=>rfl);(case h2=>decide +kernel);(case h3=>rfl);(case h=>walk_at "m-tk")) | ((with_reducible refine' TakesAt.some (i':=20) ?h1 ?h2 ?h3 ?h);(case h1=>rfl);(case h2=>decide +kernel);(case h3=>rfl);(case h=>walk_at "m-tk")) | ((with_reducible refine' TakesAt.some (i':=21) ?h1 ?h2 ?h3 ?h);(case h1=>rfl);(case h2=>decide +kernel);(case h3=>rfl);(case h=>walk_at "m-tk")) | ((with_reducible refine' TakesAt.some (i':=22) ?h1 ?h2 ?h3 ?h);(case h1=>rfl);(case h2=>decide +kernel);(case h3=>rfl);(case h=>walk_at "m-tk")))
local macro_rules | `(tactic| walk_at "m-cs")=> `(tactic| exact ⟨rfl,rfl,by decide +kernel,by decide +kernel,by decide +kernel,rfl⟩)
local macro_rules | `(tactic| walk_at "m-ct")=> `(tactic| first | with_reducible exact CT.nil | ((with_reducible refine CT.one ?_);intro w;walk_at "m-rc"))
local macro_rules | `(tactic| walk_at "m-res")=> `(tactic| first | with_reducible exact REs_nil | ((with_reducible refine REs_cons ?_ ?_ ?_);(focus walk_at "m-re");(focus walk_at "m-res");(focus intro _;rfl)))
local macro_rules | `(tactic| walk_at "m-rc")=> `(tactic| first | ((with_reducible refine RC_not ?_);walk_at "m-rc") | ((with_reducible refine RC_and ?_ ?_);(focus walk_at "m-rc");walk_at "m-rc") | ((with_reducible refine RC_or ?_ ?_);(focus walk_at "m-rc");walk_at "m-rc") | ((with_reducible refine RC_and1 ?_);walk_at "m-rc") | ((with_reducible refine RC_or1 ?_);walk_at "m-rc") | ((with_reducible refine RC_cmp ?_);walk_at "m-re") | ((with_reducible refine RC_plain ?_ ?_);(focus walk_at "m-re");(focus intro _ _;rfl)))
local macro_rules | `(tactic| walk_at "m-rs")=> `(tactic| first
 | ((with_reducible refine RS_nil ?_);walk_at "m-sub")
 | with_reducible exact RS_fl
 | ((with_reducible refine RS_ret ?_);walk_at "m-re")
 | with_reducible exact RS_retN
 | ((with_reducible refine RS_cont ?_);walk_at "m-sub")
 | ((with_reducible refine RS_pass ?_);walk_at "m-rs")
 | ((with_reducible refine' RS_nameC' (names':=[(Str.ofString ".0", .local),(Str.ofString "key", .local),(Str.ofString "thing", .cell)]) (by assumption) ?hrel ?hc ?hG ?hT ?hn ?hs ?ht ?he ?hk ?hsw ?hfs);(case hrel=>decide +kernel);(case hc=>walk_at "m-cs");(case hG=>(intro _;rfl));(case hT=>walk_at "m-tk");(case hn=>walk_at "m-sl");(case hs=>walk_at "m-re");(case ht=>walk_at "m-ct");(case he=>(intro w;walk_at "m-re"));(case hsw=>(intro env h;cases env;cases h;kernel_rfl));(case hfs=>(intro _ _;rfl));(case hk=>(intro w;walk_at "m-rs")))
 | ((with_reducible refine' RS_nameC' (names':=[(Str.ofString ".0", .local),(Str.ofString "one", .local)]) (by assumption) ?hrel ?hc ?hG ?hT ?hn ?hs ?ht ?he ?hk ?hsw ?hfs);(case hrel=>decide +kernel);(case hc=>walk_at "m-cs");(case hG=>(intro _;rfl));(case hT=>walk_at "m-tk");(case hn=>walk_at "m-sl");(case hs=>walk_at "m-re");(case ht=>walk_at "m-ct");(case he=>(intro w;walk_at "m-re"));(case hsw=>(intro env h;cases env;cases h;kernel_rfl));(case hfs=>(intro _ _;rfl));(case hk=>(intro w;walk_at "m-rs")))
 | ((with_reducible refine' RS_nameC' (names':=[(Str.ofString ".0", .local),(Str.ofString "number", .local),(Str.ofString "found", .cell)]) (by assumption) ?hrel ?hc ?hG ?hT ?hn ?hs ?ht ?he ?hk ?hsw ?hfs);(case hrel=>decide +kernel);(case hc=>walk_at "m-cs");(case hG=>(intro _;rfl));(case hT=>walk_at "m-tk");(case hn=>walk_at "m-sl");(case hs=>walk_at "m-re");(case ht=>walk_at "m-ct");(case he=>(intro w;walk_at "m-re"));(case hsw=>(intro env h;cases env;cases h;kernel_rfl));(case hfs=>(intro _ _;rfl));(case hk=>(intro w;walk_at "m-rs")))
 | ((with_reducible refine' RS_nameC' (names':=[(Str.ofString ".0", .local),(Str.ofString "one", .local),(Str.ofString "scalar", .cell)]) (by assumption) ?hrel ?hc ?hG ?hT ?hn ?hs ?ht ?he ?hk ?hsw ?hfs);(case hrel=>decide +kernel);(case hc=>walk_at "m-cs");(case hG=>(intro _;rfl));(case hT=>walk_at "m-tk");(case hn=>walk_at "m-sl");(case hs=>walk_at "m-re");(case ht=>walk_at "m-ct");(case he=>(intro w;walk_at "m-re"));(case hsw=>(intro env h;cases env;cases h;kernel_rfl));(case hfs=>(intro _ _;rfl));(case hk=>(intro w;walk_at "m-rs")))
 | ((with_reducible refine' RS_nameC' (names':=[(Str.ofString ".0", .local),(Str.ofString "pair", .local)]) (by assumption) ?hrel ?hc ?hG ?hT ?hn ?hs ?ht ?he ?hk ?hsw ?hfs);(case hrel=>decide +kernel);(case hc=>walk_at "m-cs");(case hG=>(intro _;rfl));(case hT=>walk_at "m-tk");(case hn=>walk_at "m-sl");(case hs=>walk_at "m-re");(case ht=>walk_at "m-ct");(case he=>(intro w;walk_at "m-re"));(case hsw=>(intro env h;cases env;cases h;kernel_rfl));(case hfs=>(intro _ _;rfl));(case hk=>(intro w;walk_at "m-rs")))
 | ((with_reducible refine' RS_nameC' (names':=[(Str.ofString ".0", .local),(Str.ofString "number", .local),(Str.ofString "degrees", .cell)]) (by assumption) ?hrel ?hc ?hG ?hT ?hn ?hs ?ht ?he ?hk ?hsw ?hfs);(case hrel=>decide +kernel);(case hc=>walk_at "m-cs");(case hG=>(intro _;rfl));(case hT=>walk_at "m-tk");(case hn=>walk_at "m-sl");(case hs=>walk_at "m-re");(case ht=>walk_at "m-ct");(case he=>(intro w;walk_at "m-re"));(case hsw=>(intro env h;cases env;cases h;kernel_rfl));(case hfs=>(intro _ _;rfl));(case hk=>(intro w;walk_at "m-rs")))
 | ((with_reducible refine' RS_nameC' (names':=[(Str.ofString ".0", .local),(Str.ofString "one", .local),(Str.ofString "degrees", .cell)]) (by assumption) ?hrel ?hc ?hG ?hT ?hn ?hs ?ht ?he ?hk ?hsw ?hfs);(case hrel=>decide +kernel);(case hc=>walk_at "m-cs");(case hG=>(intro _;rfl));(case hT=>walk_at "m-tk");(case hn=>walk_at "m-sl");(case hs=>walk_at "m-re");(case ht=>walk_at "m-ct");(case he=>(intro w;walk_at "m-re"));(case hsw=>(intro env h;cases env;cases h;kernel_rfl));(case hfs=>(intro _ _;rfl));(case hk=>(intro w;walk_at "m-rs")))
 | ((with_reducible refine' RS_nameC' (names':=[(Str.ofString ".0", .local),(Str.ofString "one", .local),(Str.ofString "key", .cell),(Str.ofString "scalar", .cell)]) (by assumption) ?hrel ?hc ?hG ?hT ?hn ?hs ?ht ?he ?hk ?hsw ?hfs);(case hrel=>decide +kernel);(case hc=>walk_at "m-cs");(case hG=>(intro _;rfl));(case hT=>walk_at "m-tk");(case hn=>walk_at "m-sl");(case hs=>walk_at "m-re");(case ht=>walk_at "m-ct");(case he=>(intro w;walk_at "m-re"));(case hsw=>(intro env h;cases env;cases h;kernel_rfl));(case hfs=>(intro _ _;rfl));(case hk=>(intro w;walk_at "m-rs")))
 | ((with_reducible refine' RS_nameC' (names':=[(Str.ofString ".0", .local),(Str.ofString "n", .local),(Str.ofString "abs", .globalImplicit)]) (by assumption) ?hrel ?hc ?hG ?hT ?hn ?hs ?ht ?he ?hk ?hsw ?hfs);(case hrel=>decide +kernel);(case hc=>walk_at "m-cs");(case hG=>(intro _;rfl));(case hT=>walk_at "m-tk");(case hn=>walk_at "m-sl");(case hs=>walk_at "m-re");(case ht=>walk_at "m-ct");(case he=>(intro w;walk_at "m-re"));(case hsw=>(intro env h;cases env;cases h;kernel_rfl));(case hfs=>(intro _ _;rfl));(case hk=>(intro w;walk_at "m-rs")))
 | ((with_reducible refine' RS_nameC' (names':=[(Str.ofString ".0", .local),(Str.ofString "number", .local),(Str.ofString "real", .cell)]) (by assumption) ?hrel ?hc ?hG ?hT ?hn ?hs ?ht ?he ?hk ?hsw ?hfs);(case hrel=>decide +kernel);(case hc=>walk_at "m-cs");(case hG=>(intro _;rfl));(case hT=>walk_at "m-tk");(case hn=>walk_at "m-sl");(case hs=>walk_at "m-re");(case ht=>walk_at "m-ct");(case he=>(intro w;walk_at "m-re"));(case hsw=>(intro env h;cases env;cases h;kernel_rfl));(case hfs=>(intro _ _;rfl));(case hk=>(intro w;walk_at "m-rs")))
 | ((with_reducible refine' RS_name ?h ?hn ?hk ?hs);(case h=>walk_at "m-re");(case hn=>walk_at "m-st");(case hs=>(intro _;rfl));(case hk=>(intro w;walk_at "m-rs")))
 | ((with_reducible refine RS_setA (by assumption) ?_ ?_ ?_ ?_);(focus walk_at "m-re");(focus walk_at "m-re");rotate_left;(focus intro _;rfl);walk_at "m-rs")
 | ((with_reducible refine RS_setAll ?_ ?_ ?_ ?_);(focus walk_at "m-re");(focus walk_at "m-re");rotate_left;(focus intro _;rfl);walk_at "m-rs")
 | ((with_reducible refine RS_setI ?_ ?_ ?_ ?_ ?_);(focus walk_at "m-re");(focus walk_at "m-re");(focus walk_at "m-re");rotate_left;(focus intro _;rfl);walk_at "m-rs")
 | ((with_reducible refine RS_aug (by assumption) ?_ ?_ ?_ ?_);(focus walk_at "m-re");(focus walk_at "m-re");(focus first | with_reducible exact op_iadd | with_reducible exact op_isub);walk_at "m-rs")
 | ((with_reducible refine RS_expr ?_ ?_ ?_);(focus walk_at "m-re");rotate_left;(focus intro _;rfl);walk_at "m-rs")
 | ((with_reducible refine RS_thn ?_ ?_);(focus walk_at "m-r1");(intro w;walk_at "m-rs"))
 | ((with_reducible refine' RS_tup2 ?h1 ?h2 ?hn1 ?hn2 ?hk ?hst ?hst1 ?hs ?hw);(case h1=>walk_at "m-re");(case h2=>walk_at "m-re");(case hn1=>walk_at "m-sl");(case hn2=>walk_at "m-sl");(case hst=>(intro _;rfl));(case hst1=>(intro _;rfl));(case hs=>(intro _;rfl));(case hw=>(intro env h;cases env;cases h;kernel_rfl));(case hk=>(intro a b;walk_at "m-rs")))
 | ((with_reducible refine RS_one ?_);walk_at "m-r1"))
local macro_rules | `(tactic| walk_at "m-r1")=> `(tactic| first
 | ((with_reducible refine R1_if ?_ ?_ ?_);(focus walk_at "m-rc");(focus walk_at "m-rs");(focus walk_at "m-rs"))
 | ((with_reducible refine' R1_forR (by assumption) ?hr ?hs ?hn ?h0 ?hb ?hst ?hfs);(case hr=>(refine N_range (by assumption) ?_;kernel_rfl));(case hs=>walk_at "m-re");(case hn=>walk_at "m-st");(case h0=>walk_at "m-sub");(case hst=>(intro _;rfl));(case hfs=>(intro _ _;rfl));(case hb=>(intro r v;walk_at "m-rs")))
 | ((with_reducible refine' R1_forV (by assumption) ?hs ?hn ?h0 ?hb ?he ?hfs);(case hs=>walk_at "m-re");(case hn=>walk_at "m-st");(case h0=>walk_at "m-sub");(case he=>(intro _;exact ⟨_,rfl⟩));(case hfs=>(intro _ _;rfl));(case hb=>(intro r v;walk_at "m-rs")))
 | ((with_reducible refine' R1_forL (by assumption) ?hs ?hn ?h0 ?hb ?hfs);(case hs=>walk_at "m-re");(case hn=>walk_at "m-st");(case h0=>walk_at "m-sub");(case hfs=>(intro _ _;rfl));(case hb=>(intro r v;walk_at "m-rs")))
 | ((with_reducible refine R1_while ?_ ?_ ?_);(focus walk_at "m-rc");(focus walk_at "m-rs");(focus walk_at "m-sub")))
local macro_rules | `(tactic| walk_at "m-re")=> `(tactic| first
 | with_reducible exact RE_none
 | with_reducible exact RE_bool
 | with_reducible exact RE_int
 | with_reducible exact RE_str
 | walk_at "m-name"
 | ((with_reducible refine RE_attr (by assumption) ?_ ?hb);rotate_left;(focus intro _;rfl);walk_at "m-re")
 | ((with_reducible refine RE_cmp (op:= .Lt) ?_ ?_ op_lt ?_);(focus walk_at "m-re");(focus walk_at "m-re");(focus with_unfolding_all rfl))
 | ((with_reducible refine RE_cmp (op:= .Gt) ?_ ?_ op_gt ?_);(focus walk_at "m-re");(focus walk_at "m-re");(focus with_unfolding_all rfl))
 | ((with_reducible refine RE_cmp (op:= .Eq) ?_ ?_ op_eq ?_);(focus walk_at "m-re");(focus walk_at "m-re");(focus with_unfolding_all rfl))
 | ((with_reducible refine RE_cmp (op:= .NotEq) ?_ ?_ op_ne ?_);(focus walk_at "m-re");(focus walk_at "m-re");(focus with_unfolding_all rfl))
 | ((with_reducible refine RE_cmp (op:= .In) ?_ ?_ op_in ?_);(focus walk_at "m-re");(focus walk_at "m-re");(focus with_unfolding_all rfl))
 | ((with_reducible refine RE_cmp (op:= .NotIn) ?_ ?_ op_nin ?_);(focus walk_at "m-re");(focus walk_at "m-re");(focus with_unfolding_all rfl))
 | ((with_reducible refine RE_isN ?_);walk_at "m-re")
 | ((with_reducible refine RE_isNN ?_);walk_at "m-re")
 | ((with_reducible refine RE_slFrom ?_ ?_);(focus walk_at "m-re");(focus walk_at "m-re"))
 | ((with_reducible refine RE_slTo ?_ ?_);(focus walk_at "m-re");(focus walk_at "m-re"))
 | ((with_reducible refine RE_sah ?_ ?_);(focus walk_at "m-re");(focus intro _ _;rfl))
 | ((with_reducible refine RE_sub ?_ ?_ ?_);(focus walk_at "m-re");(focus walk_at "m-re");(focus intro _ _;rfl))
 | ((with_reducible refine RE_binop (op:= .Add) ?_ ?_ op_add);(focus walk_at "m-re");(focus walk_at "m-re"))
 | ((with_reducible refine RE_binop (op:= .Sub) ?_ ?_ op_sub);(focus walk_at "m-re");(focus walk_at "m-re"))
 | ((with_reducible refine RE_binop (op:= .Mod) ?_ ?_ op_mod);(focus walk_at "m-re");(focus walk_at "m-re"))
 | ((with_reducible refine RE_binop (op:= .FloorDiv) ?_ ?_ op_div);(focus walk_at "m-re");(focus walk_at "m-re"))
 | ((with_reducible refine RE_binop (op:= .Pow) ?_ ?_ op_pow);(focus walk_at "m-re");(focus walk_at "m-re"))
 | ((with_reducible refine RE_list ?_ ?_);(focus walk_at "m-res");(focus exact Nat.le_of_ble_eq_true rfl))
 | ((with_reducible refine RE_tuple ?_ ?_);(focus walk_at "m-res");(focus exact Nat.le_of_ble_eq_true rfl))
 | with_reducible exact RE_dI
 | with_reducible exact RE_dS
 | ((with_reducible refine RE_ite ?_ ?_ ?_);(focus walk_at "m-rc");(focus walk_at "m-re");(focus walk_at "m-re"))
 | ((with_reducible refine RE_and ?_ ?_);(focus walk_at "m-re");(focus walk_at "m-re"))
 | ((with_reducible refine RE_append ?_ ?_ ?_ ?_);(focus walk_at "m-re");(focus walk_at "m-re");(focus intro _;exact ⟨_,rfl⟩);(focus intro _;rfl))
 | ((with_reducible refine RE_pop0 ?_ ?_);(focus walk_at "m-re");(focus intro _;exact ⟨_,rfl⟩))
 | ((with_reducible refine D_dget1 ?_ ?_ ?_ ?_);(focus walk_at "m-re");(focus walk_at "m-re");(focus intro _;exact ⟨_,rfl⟩);(focus intro _;rfl))
 | ((with_reducible refine D_dpop1 ?_ ?_ ?_ ?_);(focus walk_at "m-re");(focus walk_at "m-re");(focus intro _;exact ⟨_,rfl⟩);(focus intro _;rfl))
 | ((with_reducible refine D_dget2 ?_ ?_ ?_ ?_ ?_ ?_);(focus walk_at "m-re");(focus walk_at "m-re");(focus walk_at "m-re");(focus intro _;exact ⟨_,rfl⟩);(focus intro _;rfl);(focus intro _;rfl))
 | ((with_reducible refine D_dpop2 ?_ ?_ ?_ ?_ ?_ ?_);(focus walk_at "m-re");(focus walk_at "m-re");(focus walk_at "m-re");(focus intro _;exact ⟨_,rfl⟩);(focus intro _;rfl);(focus intro _;rfl))
 | ((with_reducible refine I_Scalar (by assumption) (by assumption) ?_ ?_ ?_ ?_);(focus kernel_rfl);(focus kernel_rfl);(focus intro _;rfl);walk_at "m-re")
 | ((with_reducible refine I_Array (by assumption) (by assumption) ?_ ?_ ?_ ?_);(focus kernel_rfl);(focus kernel_rfl);(focus intro _;rfl);walk_at "m-re")
 | ((with_reducible refine I_Hash (by assumption) (by assumption) ?_ ?_ ?_ ?_);(focus kernel_rfl);(focus kernel_rfl);(focus intro _;rfl);walk_at "m-re")
 | ((with_reducible refine I_Code (by assumption) (by assumption) ?_ ?_ ?_ ?_);(focus kernel_rfl);(focus kernel_rfl);(focus intro _;rfl);walk_at "m-re")
 | ((with_reducible refine I_Glob (by assumption) (by assumption) ?_ ?_ ?_ ?_);(focus kernel_rfl);(focus kernel_rfl);(focus intro _;rfl);walk_at "m-re")
 | ((with_reducible refine I_Ref (by assumption) (by assumption) ?_ ?_ ?_ ?_);(focus kernel_rfl);(focus kernel_rfl);(focus intro _;rfl);walk_at "m-re")
 | ((with_reducible refine I_Heap (by assumption) (by assumption) ?_ ?_ ?_ ?_);(focus kernel_rfl);(focus kernel_rfl);(focus intro _;rfl);walk_at "m-re")
 | ((with_reducible refine I_Counter (by assumption) (by assumption) ?_ ?_ ?_ ?_);(focus kernel_rfl);(focus kernel_rfl);(focus intro _;rfl);walk_at "m-re")
 | ((with_reducible refine I_Limits (by assumption) (by assumption) ?_ ?_ ?_ ?_);(focus kernel_rfl);(focus kernel_rfl);(focus intro _;rfl);walk_at "m-re")
 | ((with_reducible refine I_tuple (by assumption) (by assumption) ?_ ?_ ?_ ?_);(focus kernel_rfl);(focus kernel_rfl);(focus intro _;rfl);walk_at "m-re")
 | ((with_reducible refine B_lenM (by assumption) ?_ ?_ ?_);(focus kernel_rfl);(focus intro _;rfl);walk_at "m-re")
 | ((with_reducible refine B_absM (by assumption) ?_ ?_ ?_);(focus kernel_rfl);(focus intro _;rfl);walk_at "m-re")
 | ((with_reducible refine B_strM (by assumption) ?_ ?_ ?_);(focus kernel_rfl);(focus intro _;rfl);walk_at "m-re")
 | ((with_reducible refine B_sumM (by assumption) ?_ ?_ ?_);(focus kernel_rfl);(focus intro _;rfl);walk_at "m-re")
 | ((with_reducible refine B_sortedL (by assumption) ?_ ?_ ?_);(focus kernel_rfl);(focus intro _;rfl);walk_at "m-re")
 | ((with_reducible refine B_sortedD (by assumption) ?_ ?_ ?_);(focus kernel_rfl);(focus intro _;rfl);walk_at "m-re")
 | ((with_reducible refine' RE_comp' (names':=[(Str.ofString ".0", .local),(Str.ofString "key", .local),(Str.ofString "thing", .cell)]) (by assumption) ?hrel ?hc ?hG ?hT ?hs ?ht ?he ?hfs);(case hrel=>decide +kernel);(case hc=>walk_at "m-cs");(case hG=>(intro _;rfl));(case hT=>walk_at "m-tk");(case hs=>walk_at "m-re");(case ht=>walk_at "m-ct");(case he=>(intro w;walk_at "m-re"));(case hfs=>(intro _ _;rfl)))
 | ((with_reducible refine' RE_comp' (names':=[(Str.ofString ".0", .local),(Str.ofString "one", .local)]) (by assumption) ?hrel ?hc ?hG ?hT ?hs ?ht ?he ?hfs);(case hrel=>decide +kernel);(case hc=>walk_at "m-cs");(case hG=>(intro _;rfl));(case hT=>walk_at "m-tk");(case hs=>walk_at "m-re");(case ht=>walk_at "m-ct");(case he=>(intro w;walk_at "m-re"));(case hfs=>(intro _ _;rfl)))
 | ((with_reducible refine' RE_comp' (names':=[(Str.ofString ".0", .local),(Str.ofString "number", .local),(Str.ofString "found", .cell)]) (by assumption) ?hrel ?hc ?hG ?hT ?hs ?ht ?he ?hfs);(case hrel=>decide +kernel);(case hc=>walk_at "m-cs");(case hG=>(intro _;rfl));(case hT=>walk_at "m-tk");(case hs=>walk_at "m-re");(case ht=>walk_at "m-ct");(case he=>(intro w;walk_at "m-re"));(case hfs=>(intro _ _;rfl)))
 | ((with_reducible refine' RE_comp' (names':=[(Str.ofString ".0", .local),(Str.ofString "one", .local),(Str.ofString "scalar", .cell)]) (by assumption) ?hrel ?hc ?hG ?hT ?hs ?ht ?he ?hfs);(case hrel=>decide +kernel);(case hc=>walk_at "m-cs");(case hG=>(intro _;rfl));(case hT=>walk_at "m-tk");(case hs=>walk_at "m-re");(case ht=>walk_at "m-ct");(case he=>(intro w;walk_at "m-re"));(case hfs=>(intro _ _;rfl)))
 | ((with_reducible refine' RE_comp' (names':=[(Str.ofString ".0", .local),(Str.ofString "pair", .local)]) (by assumption) ?hrel ?hc ?hG ?hT ?hs ?ht ?he ?hfs);(case hrel=>decide +kernel);(case hc=>walk_at "m-cs");(case hG=>(intro _;rfl));(case hT=>walk_at "m-tk");(case hs=>walk_at "m-re");(case ht=>walk_at "m-ct");(case he=>(intro w;walk_at "m-re"));(case hfs=>(intro _ _;rfl)))
 | ((with_reducible refine' RE_comp' (names':=[(Str.ofString ".0", .local),(Str.ofString "number", .local),(Str.ofString "degrees", .cell)]) (by assumption) ?hrel ?hc ?hG ?hT ?hs ?ht ?he ?hfs);(case hrel=>decide +kernel);(case hc=>walk_at "m-cs");(case hG=>(intro _;rfl));(case hT=>walk_at "m-tk");(case hs=>walk_at "m-re");(case ht=>walk_at "m-ct");(case he=>(intro w;walk_at "m-re"));(case hfs=>(intro _ _;rfl)))
 | ((with_reducible refine' RE_comp' (names':=[(Str.ofString ".0", .local),(Str.ofString "one", .local),(Str.ofString "degrees", .cell)]) (by assumption) ?hrel ?hc ?hG ?hT ?hs ?ht ?he ?hfs);(case hrel=>decide +kernel);(case hc=>walk_at "m-cs");(case hG=>(intro _;rfl));(case hT=>walk_at "m-tk");(case hs=>walk_at "m-re");(case ht=>walk_at "m-ct");(case he=>(intro w;walk_at "m-re"));(case hfs=>(intro _ _;rfl)))
 | ((with_reducible refine' RE_comp' (names':=[(Str.ofString ".0", .local),(Str.ofString "one", .local),(Str.ofString "key", .cell),(Str.ofString "scalar", .cell)]) (by assumption) ?hrel ?hc ?hG ?hT ?hs ?ht ?he ?hfs);(case hrel=>decide +kernel);(case hc=>walk_at "m-cs");(case hG=>(intro _;rfl));(case hT=>walk_at "m-tk");(case hs=>walk_at "m-re");(case ht=>walk_at "m-ct");(case he=>(intro w;walk_at "m-re"));(case hfs=>(intro _ _;rfl)))
 | ((with_reducible refine' RE_comp' (names':=[(Str.ofString ".0", .local),(Str.ofString "n", .local),(Str.ofString "abs", .globalImplicit)]) (by assumption) ?hrel ?hc ?hG ?hT ?hs ?ht ?he ?hfs);(case hrel=>decide +kernel);(case hc=>walk_at "m-cs");(case hG=>(intro _;rfl));(case hT=>walk_at "m-tk");(case hs=>walk_at "m-re");(case ht=>walk_at "m-ct");(case he=>(intro w;walk_at "m-re"));(case hfs=>(intro _ _;rfl)))
 | ((with_reducible refine' RE_comp' (names':=[(Str.ofString ".0", .local),(Str.ofString "number", .local),(Str.ofString "real", .cell)]) (by assumption) ?hrel ?hc ?hG ?hT ?hs ?ht ?he ?hfs);(case hrel=>decide +kernel);(case hc=>walk_at "m-cs");(case hG=>(intro _;rfl));(case hT=>walk_at "m-tk");(case hs=>walk_at "m-re");(case ht=>walk_at "m-ct");(case he=>(intro w;walk_at "m-re"));(case hfs=>(intro _ _;rfl))))
def FF_Thing_init:List AV→M AV:=λ as=>match as with | [v0,v1]=>f_Thing_init v0 v1 | _=>fl
def MB_Thing_init:List AV→M (Fl Unit):=λ as=>match as with | [v0,v1]=>f_Thing_init_b v0 v1 | _=>fl
theorem S_Thing_init (hf:Facts g) (hK:g.K=KK g.w.params):Fn g 1 (.ref 35) FF_Thing_init:=by
 refine' Fn_def (d:=0) (f:=35) hf ?ho ?hcd [] [] 2 MB_Thing_init ?hdv ?hb1 ?h1 ?h2 ?h3 ?h4 ?h5 ?h6 ?h7 ?hb2 ?hF
 case ho=>rw [hK];rfl
 case hcd=>rw [hK];kernel_rfl
 case hdv=>exact λ _ _=> .nil
 case h1=>rfl
 case h2=>decide
 case h3=>decide +kernel
 case h4=>decide +kernel
 case h5=>rfl
 case h6=>rfl
 case h7=>rfl
 case hb1 =>
  intro s vs X h
  match vs,h with
  | [_,_],_=>exact BindsTo.of_eq rfl
  | [],h=>simp at h
  | [_],h=>simp at h
  | _ :: _ :: _ :: _,h=>simp at h
 case hF =>
  intro as b μ μ' e
  match as,e with
  | [_,_],e=>exact ⟨rfl,e⟩
  | [],e=>cases e
  | [_],e=>cases e
  | _ :: _ :: _ :: _,e=>cases e
 case hb2 =>
  intro as h
  match as,h with
  | [v0,v1],_ =>
   show RS g false 0 _ [some v0,some v1] _ _ _ (f_Thing_init_b v0 v1)
   unfold f_Thing_init_b
   walk_at "m-rs"
  | [],h=>simp at h
  | [_],h=>simp at h
  | _ :: _ :: _ :: _,h=>simp at h
theorem C_Thing_init (hf:Facts g) (hK:g.K=KK g.w.params) {fr:Bool} {d:Nat} {sc:Scope} {Γ:Cx0} {es:List PySem.Expr} {m0 m1:M AV} {np ap pos:Pos} (hd:1≤d) (hk:sc.names.lookup (Str.ofString "Thing")=some .globalImplicit) (ha:REs g fr d sc Γ es [m0,m1]) (he:MethEval (.Name (Str.ofString "Thing") np) "__init__" ap pos es):RE g fr d sc Γ (.Call (.Attribute (.Name (Str.ofString "Thing") np) (Str.ofString "__init__") ap) es [] pos) (bd m0 λ v0=>bd m1 λ v1=>f_Thing_init v0 v1):=by
 have h:=RE_clsm (mc:= .type "type") (N_Thing hK hk) (by rw [hK];kernel_rfl) (by rw [hK];kernel_rfl) (by rw [hK];kernel_rfl) (by rw [hK];kernel_rfl) (.K (by rw [hK];kernel_rfl)) (S_Thing_init hf hK) hd ha he
 rw [evs2] at h
 exact h
local macro_rules | `(tactic| walk_at "m-re")=> `(tactic| ((with_reducible refine C_Thing_init (by assumption) (by assumption) ?_ ?_ ?_ ?_);(focus decide);(focus kernel_rfl);(focus walk_at "m-res");(focus intro _;exact ⟨_,rfl⟩)))
def FF_Scalar_init:List AV→M AV:=λ as=>match as with | [v0,v1,v2]=>f_Scalar_init v0 v1 v2 | _=>fl
def MB_Scalar_init:List AV→M (Fl Unit):=λ as=>match as with | [v0,v1,v2]=>f_Scalar_init_b v0 v1 v2 | _=>fl
theorem S_Scalar_init (hf:Facts g) (hK:g.K=KK g.w.params):Fn g 2 (.ref 56) FF_Scalar_init:=by
 refine' Fn_def (d:=1) (f:=56) hf ?ho ?hcd [] [] 3 MB_Scalar_init ?hdv ?hb1 ?h1 ?h2 ?h3 ?h4 ?h5 ?h6 ?h7 ?hb2 ?hF
 case ho=>rw [hK];rfl
 case hcd=>rw [hK];kernel_rfl
 case hdv=>exact λ _ _=> .nil
 case h1=>rfl
 case h2=>decide
 case h3=>decide +kernel
 case h4=>decide +kernel
 case h5=>rfl
 case h6=>rfl
 case h7=>rfl
 case hb1 =>
  intro s vs X h
  match vs,h with
  | [_,_,_],_=>exact BindsTo.of_eq rfl
  | [],h=>simp at h
  | [_],h=>simp at h
  | [_,_],h=>simp at h
  | _ :: _ :: _ :: _ :: _,h=>simp at h
 case hF =>
  intro as b μ μ' e
  match as,e with
  | [_,_,_],e=>exact ⟨rfl,e⟩
  | [],e=>cases e
  | [_],e=>cases e
  | [_,_],e=>cases e
  | _ :: _ :: _ :: _ :: _,e=>cases e
 case hb2 =>
  intro as h
  match as,h with
  | [v0,v1,v2],_ =>
   show RS g false 1 _ [some v0,some v1,some v2,none] _ _ _ (f_Scalar_init_b v0 v1 v2)
   unfold f_Scalar_init_b
   walk_at "m-rs"
  | [],h=>simp at h
  | [_],h=>simp at h
  | [_,_],h=>simp at h
  | _ :: _ :: _ :: _ :: _,h=>simp at h
theorem K_Scalar (hK:g.K=KK g.w.params):ClsIs g .scalar 56:=⟨by rw [hK];kernel_rfl,by rw [hK];kernel_rfl,by rw [hK];kernel_rfl, .K (by rw [hK];kernel_rfl)⟩
theorem C_Scalar_init (hf:Facts g) (hK:g.K=KK g.w.params) {fr:Bool} {d:Nat} {sc:Scope} {Γ:Cx0} {es:List PySem.Expr} {m0 m1:M AV} {p pos:Pos} (hd:3≤d) (hk:sc.names.lookup (Str.ofString "Scalar")=some .globalImplicit) (ha:REs g fr d sc Γ es [m0,m1]):RE g fr d sc Γ (.Call (.Name (Str.ofString "Scalar") p) es [] pos) (bd m0 λ v1=>bd m1 λ v2=>new .scalar λ v0=>f_Scalar_init v0 v1 v2):=by
 have h:=RE_callN (p:=p) (pos:=pos) (N_Scalar hK hk) (K_Scalar hK).a4 (new_Fn (K_Scalar hK) (S_Scalar_init hf hK)) hd ha
 rw [evs2] at h
 exact h
local macro_rules | `(tactic| walk_at "m-re")=> `(tactic| ((with_reducible refine C_Scalar_init (by assumption) (by assumption) ?_ ?_ ?_);(focus decide);(focus kernel_rfl);(focus walk_at "m-res")))
def FF_Array_init:List AV→M AV:=λ as=>match as with | [v0,v1]=>f_Array_init v0 v1 | _=>fl
def MB_Array_init:List AV→M (Fl Unit):=λ as=>match as with | [v0,v1]=>f_Array_init_b v0 v1 | _=>fl
theorem S_Array_init (hf:Facts g) (hK:g.K=KK g.w.params):Fn g 2 (.ref 75) FF_Array_init:=by
 refine' Fn_def (d:=1) (f:=75) hf ?ho ?hcd [] [] 2 MB_Array_init ?hdv ?hb1 ?h1 ?h2 ?h3 ?h4 ?h5 ?h6 ?h7 ?hb2 ?hF
 case ho=>rw [hK];rfl
 case hcd=>rw [hK];kernel_rfl
 case hdv=>exact λ _ _=> .nil
 case h1=>rfl
 case h2=>decide
 case h3=>decide +kernel
 case h4=>decide +kernel
 case h5=>rfl
 case h6=>rfl
 case h7=>rfl
 case hb1 =>
  intro s vs X h
  match vs,h with
  | [_,_],_=>exact BindsTo.of_eq rfl
  | [],h=>simp at h
  | [_],h=>simp at h
  | _ :: _ :: _ :: _,h=>simp at h
 case hF =>
  intro as b μ μ' e
  match as,e with
  | [_,_],e=>exact ⟨rfl,e⟩
  | [],e=>cases e
  | [_],e=>cases e
  | _ :: _ :: _ :: _,e=>cases e
 case hb2 =>
  intro as h
  match as,h with
  | [v0,v1],_ =>
   show RS g false 1 _ [some v0,some v1,none] _ _ _ (f_Array_init_b v0 v1)
   unfold f_Array_init_b
   walk_at "m-rs"
  | [],h=>simp at h
  | [_],h=>simp at h
  | _ :: _ :: _ :: _,h=>simp at h
theorem K_Array (hK:g.K=KK g.w.params):ClsIs g .array 75:=⟨by rw [hK];kernel_rfl,by rw [hK];kernel_rfl,by rw [hK];kernel_rfl, .K (by rw [hK];kernel_rfl)⟩
theorem C_Array_init (hf:Facts g) (hK:g.K=KK g.w.params) {fr:Bool} {d:Nat} {sc:Scope} {Γ:Cx0} {es:List PySem.Expr} {m0:M AV} {p pos:Pos} (hd:3≤d) (hk:sc.names.lookup (Str.ofString "Array")=some .globalImplicit) (ha:REs g fr d sc Γ es [m0]):RE g fr d sc Γ (.Call (.Name (Str.ofString "Array") p) es [] pos) (bd m0 λ v1=>new .array λ v0=>f_Array_init v0 v1):=by
 have h:=RE_callN (p:=p) (pos:=pos) (N_Array hK hk) (K_Array hK).a4 (new_Fn (K_Array hK) (S_Array_init hf hK)) hd ha
 rw [evs1] at h
 exact h
local macro_rules | `(tactic| walk_at "m-re")=> `(tactic| ((with_reducible refine C_Array_init (by assumption) (by assumption) ?_ ?_ ?_);(focus decide);(focus kernel_rfl);(focus walk_at "m-res")))
def FF_Hash_init:List AV→M AV:=λ as=>match as with | [v0,v1]=>f_Hash_init v0 v1 | _=>fl
def MB_Hash_init:List AV→M (Fl Unit):=λ as=>match as with | [v0,v1]=>f_Hash_init_b v0 v1 | _=>fl
theorem S_Hash_init (hf:Facts g) (hK:g.K=KK g.w.params):Fn g 2 (.ref 94) FF_Hash_init:=by
 refine' Fn_def (d:=1) (f:=94) hf ?ho ?hcd [] [] 2 MB_Hash_init ?hdv ?hb1 ?h1 ?h2 ?h3 ?h4 ?h5 ?h6 ?h7 ?hb2 ?hF
 case ho=>rw [hK];rfl
 case hcd=>rw [hK];kernel_rfl
 case hdv=>exact λ _ _=> .nil
 case h1=>rfl
 case h2=>decide
 case h3=>decide +kernel
 case h4=>decide +kernel
 case h5=>rfl
 case h6=>rfl
 case h7=>rfl
 case hb1 =>
  intro s vs X h
  match vs,h with
  | [_,_],_=>exact BindsTo.of_eq rfl
  | [],h=>simp at h
  | [_],h=>simp at h
  | _ :: _ :: _ :: _,h=>simp at h
 case hF =>
  intro as b μ μ' e
  match as,e with
  | [_,_],e=>exact ⟨rfl,e⟩
  | [],e=>cases e
  | [_],e=>cases e
  | _ :: _ :: _ :: _,e=>cases e
 case hb2 =>
  intro as h
  match as,h with
  | [v0,v1],_ =>
   show RS g false 1 _ [some v0,some v1,none] _ _ _ (f_Hash_init_b v0 v1)
   unfold f_Hash_init_b
   walk_at "m-rs"
  | [],h=>simp at h
  | [_],h=>simp at h
  | _ :: _ :: _ :: _,h=>simp at h
theorem K_Hash (hK:g.K=KK g.w.params):ClsIs g .hash 94:=⟨by rw [hK];kernel_rfl,by rw [hK];kernel_rfl,by rw [hK];kernel_rfl, .K (by rw [hK];kernel_rfl)⟩
theorem C_Hash_init (hf:Facts g) (hK:g.K=KK g.w.params) {fr:Bool} {d:Nat} {sc:Scope} {Γ:Cx0} {es:List PySem.Expr} {m0:M AV} {p pos:Pos} (hd:3≤d) (hk:sc.names.lookup (Str.ofString "Hash")=some .globalImplicit) (ha:REs g fr d sc Γ es [m0]):RE g fr d sc Γ (.Call (.Name (Str.ofString "Hash") p) es [] pos) (bd m0 λ v1=>new .hash λ v0=>f_Hash_init v0 v1):=by
 have h:=RE_callN (p:=p) (pos:=pos) (N_Hash hK hk) (K_Hash hK).a4 (new_Fn (K_Hash hK) (S_Hash_init hf hK)) hd ha
 rw [evs1] at h
 exact h
local macro_rules | `(tactic| walk_at "m-re")=> `(tactic| ((with_reducible refine C_Hash_init (by assumption) (by assumption) ?_ ?_ ?_);(focus decide);(focus kernel_rfl);(focus walk_at "m-res")))
def FF_Ref_init2:List AV→M AV:=λ as=>match as with | [v0,v1]=>f_Ref_init v0 v1 (.bool false) | _=>fl
def MB_Ref_init2:List AV→M (Fl Unit):=λ as=>match as with | [v0,v1,v2]=>f_Ref_init_b v0 v1 v2 | _=>fl
theorem S_Ref_init2 (hf:Facts g) (hK:g.K=KK g.w.params):Fn g 1 (.ref 152) FF_Ref_init2:=by
 refine' Fn_def (d:=0) (f:=152) hf ?ho ?hcd [.bool false] [.bool false] 2 MB_Ref_init2 ?hdv ?hb1 ?h1 ?h2 ?h3 ?h4 ?h5 ?h6 ?h7 ?hb2 ?hF
 case ho=>rw [hK];rfl
 case hcd=>rw [hK];kernel_rfl
 case hdv=>exact λ _ _=> .cons (by constructor) (.nil)
 case h1=>rfl
 case h2=>decide
 case h3=>decide +kernel
 case h4=>decide +kernel
 case h5=>rfl
 case h6=>rfl
 case h7=>rfl
 case hb1 =>
  intro s vs X h
  match vs,h with
  | [_,_],_=>exact binds_K (T:=145) (K:=KK g.w.params) (hK ▸ X) rfl (by rfl) (by rfl) rfl rfl
  | [],h=>simp at h
  | [_],h=>simp at h
  | _ :: _ :: _ :: _,h=>simp at h
 case hF =>
  intro as b μ μ' e
  match as,e with
  | [_,_],e=>exact ⟨rfl,e⟩
  | [],e=>cases e
  | [_],e=>cases e
  | _ :: _ :: _ :: _,e=>cases e
 case hb2 =>
  intro as h
  match as,h with
  | [v0,v1,v2],_ =>
   show RS g false 0 _ [some v0,some v1,some v2] _ _ _ (f_Ref_init_b v0 v1 v2)
   unfold f_Ref_init_b
   walk_at "m-rs"
  | [],h=>simp at h
  | [_],h=>simp at h
  | [_,_],h=>simp at h
  | _ :: _ :: _ :: _ :: _,h=>simp at h
theorem K_Ref (hK:g.K=KK g.w.params):ClsIs g .ref 152:=⟨by rw [hK];kernel_rfl,by rw [hK];kernel_rfl,by rw [hK];kernel_rfl, .K (by rw [hK];kernel_rfl)⟩
theorem C_Ref_init2 (hf:Facts g) (hK:g.K=KK g.w.params) {fr:Bool} {d:Nat} {sc:Scope} {Γ:Cx0} {es:List PySem.Expr} {m0:M AV} {p pos:Pos} (hd:2≤d) (hk:sc.names.lookup (Str.ofString "Ref")=some .globalImplicit) (ha:REs g fr d sc Γ es [m0]):RE g fr d sc Γ (.Call (.Name (Str.ofString "Ref") p) es [] pos) (bd m0 λ v1=>new .ref λ v0=>f_Ref_init v0 v1 (.bool false)):=by
 have h:=RE_callN (p:=p) (pos:=pos) (N_Ref hK hk) (K_Ref hK).a4 (new_Fn (K_Ref hK) (S_Ref_init2 hf hK)) hd ha
 rw [evs1] at h
 exact h
local macro_rules | `(tactic| walk_at "m-re")=> `(tactic| ((with_reducible refine C_Ref_init2 (by assumption) (by assumption) ?_ ?_ ?_);(focus decide);(focus kernel_rfl);(focus walk_at "m-res")))
def FF_Ref_init3:List AV→M AV:=λ as=>match as with | [v0,v1,v2]=>f_Ref_init v0 v1 v2 | _=>fl
def MB_Ref_init3:List AV→M (Fl Unit):=λ as=>match as with | [v0,v1,v2]=>f_Ref_init_b v0 v1 v2 | _=>fl
theorem S_Ref_init3 (hf:Facts g) (hK:g.K=KK g.w.params):Fn g 1 (.ref 152) FF_Ref_init3:=by
 refine' Fn_def (d:=0) (f:=152) hf ?ho ?hcd [] [] 3 MB_Ref_init3 ?hdv ?hb1 ?h1 ?h2 ?h3 ?h4 ?h5 ?h6 ?h7 ?hb2 ?hF
 case ho=>rw [hK];rfl
 case hcd=>rw [hK];kernel_rfl
 case hdv=>exact λ _ _=> .nil
 case h1=>rfl
 case h2=>decide
 case h3=>decide +kernel
 case h4=>decide +kernel
 case h5=>rfl
 case h6=>rfl
 case h7=>rfl
 case hb1 =>
  intro s vs X h
  match vs,h with
  | [_,_,_],_=>exact binds_K (T:=145) (K:=KK g.w.params) (hK ▸ X) rfl (by rfl) (by rfl) rfl rfl
  | [],h=>simp at h
  | [_],h=>simp at h
  | [_,_],h=>simp at h
  | _ :: _ :: _ :: _ :: _,h=>simp at h
 case hF =>
  intro as b μ μ' e
  match as,e with
  | [_,_,_],e=>exact ⟨rfl,e⟩
  | [],e=>cases e
  | [_],e=>cases e
  | [_,_],e=>cases e
  | _ :: _ :: _ :: _ :: _,e=>cases e
 case hb2 =>
  intro as h
  match as,h with
  | [v0,v1,v2],_ =>
   show RS g false 0 _ [some v0,some v1,some v2] _ _ _ (f_Ref_init_b v0 v1 v2)
   unfold f_Ref_init_b
   walk_at "m-rs"
  | [],h=>simp at h
  | [_],h=>simp at h
  | [_,_],h=>simp at h
  | _ :: _ :: _ :: _ :: _,h=>simp at h
theorem C_Ref_init3 (hf:Facts g) (hK:g.K=KK g.w.params) {fr:Bool} {d:Nat} {sc:Scope} {Γ:Cx0} {es:List PySem.Expr} {m0 m1:M AV} {p pos:Pos} (hd:2≤d) (hk:sc.names.lookup (Str.ofString "Ref")=some .globalImplicit) (ha:REs g fr d sc Γ es [m0,m1]):RE g fr d sc Γ (.Call (.Name (Str.ofString "Ref") p) es [] pos) (bd m0 λ v1=>bd m1 λ v2=>new .ref λ v0=>f_Ref_init v0 v1 v2):=by
 have h:=RE_callN (p:=p) (pos:=pos) (N_Ref hK hk) (K_Ref hK).a4 (new_Fn (K_Ref hK) (S_Ref_init3 hf hK)) hd ha
 rw [evs2] at h
 exact h
local macro_rules | `(tactic| walk_at "m-re")=> `(tactic| ((with_reducible refine C_Ref_init3 (by assumption) (by assumption) ?_ ?_ ?_);(focus decide);(focus kernel_rfl);(focus walk_at "m-res")))
def FF_Heap_init:List AV→M AV:=λ as=>match as with | [v0,v1]=>f_Heap_init v0 v1 | _=>fl
def MB_Heap_init:List AV→M (Fl Unit):=λ as=>match as with | [v0,v1]=>f_Heap_init_b v0 v1 | _=>fl
theorem S_Heap_init (hf:Facts g) (hK:g.K=KK g.w.params):Fn g 1 (.ref 173) FF_Heap_init:=by
 refine' Fn_def (d:=0) (f:=173) hf ?ho ?hcd [] [] 2 MB_Heap_init ?hdv ?hb1 ?h1 ?h2 ?h3 ?h4 ?h5 ?h6 ?h7 ?hb2 ?hF
 case ho=>rw [hK];rfl
 case hcd=>rw [hK];kernel_rfl
 case hdv=>exact λ _ _=> .nil
 case h1=>rfl
 case h2=>decide
 case h3=>decide +kernel
 case h4=>decide +kernel
 case h5=>rfl
 case h6=>rfl
 case h7=>rfl
 case hb1 =>
  intro s vs X h
  match vs,h with
  | [_,_],_=>exact BindsTo.of_eq rfl
  | [],h=>simp at h
  | [_],h=>simp at h
  | _ :: _ :: _ :: _,h=>simp at h
 case hF =>
  intro as b μ μ' e
  match as,e with
  | [_,_],e=>exact ⟨rfl,e⟩
  | [],e=>cases e
  | [_],e=>cases e
  | _ :: _ :: _ :: _,e=>cases e
 case hb2 =>
  intro as h
  match as,h with
  | [v0,v1],_ =>
   show RS g false 0 _ [some v0,some v1] _ _ _ (f_Heap_init_b v0 v1)
   unfold f_Heap_init_b
   walk_at "m-rs"
  | [],h=>simp at h
  | [_],h=>simp at h
  | _ :: _ :: _ :: _,h=>simp at h
theorem K_Heap (hK:g.K=KK g.w.params):ClsIs g .heap 173:=⟨by rw [hK];kernel_rfl,by rw [hK];kernel_rfl,by rw [hK];kernel_rfl, .K (by rw [hK];kernel_rfl)⟩
theorem C_Heap_init (hf:Facts g) (hK:g.K=KK g.w.params) {fr:Bool} {d:Nat} {sc:Scope} {Γ:Cx0} {es:List PySem.Expr} {m0:M AV} {p pos:Pos} (hd:2≤d) (hk:sc.names.lookup (Str.ofString "Heap")=some .globalImplicit) (ha:REs g fr d sc Γ es [m0]):RE g fr d sc Γ (.Call (.Name (Str.ofString "Heap") p) es [] pos) (bd m0 λ v1=>new .heap λ v0=>f_Heap_init v0 v1):=by
 have h:=RE_callN (p:=p) (pos:=pos) (N_Heap hK hk) (K_Heap hK).a4 (new_Fn (K_Heap hK) (S_Heap_init hf hK)) hd ha
 rw [evs1] at h
 exact h
local macro_rules | `(tactic| walk_at "m-re")=> `(tactic| ((with_reducible refine C_Heap_init (by assumption) (by assumption) ?_ ?_ ?_);(focus decide);(focus kernel_rfl);(focus walk_at "m-res")))
def FF_Heap_next_number:List AV→M AV:=λ as=>match as with | [v0]=>f_Heap_next_number v0 | _=>fl
def MB_Heap_next_number:List AV→M (Fl Unit):=λ as=>match as with | [v0]=>f_Heap_next_number_b v0 | _=>fl
theorem S_Heap_next_number (hf:Facts g) (hK:g.K=KK g.w.params):Fn g 1 (.ref 180) FF_Heap_next_number:=by
 refine' Fn_def (d:=0) (f:=180) hf ?ho ?hcd [] [] 1 MB_Heap_next_number ?hdv ?hb1 ?h1 ?h2 ?h3 ?h4 ?h5 ?h6 ?h7 ?hb2 ?hF
 case ho=>rw [hK];rfl
 case hcd=>rw [hK];kernel_rfl
 case hdv=>exact λ _ _=> .nil
 case h1=>rfl
 case h2=>decide
 case h3=>decide +kernel
 case h4=>decide +kernel
 case h5=>rfl
 case h6=>rfl
 case h7=>rfl
 case hb1 =>
  intro s vs X h
  match vs,h with
  | [_],_=>exact BindsTo.of_eq rfl
  | [],h=>simp at h
  | _ :: _ :: _,h=>simp at h
 case hF =>
  intro as b μ μ' e
  match as,e with
  | [_],e=>exact ⟨rfl,e⟩
  | [],e=>cases e
  | _ :: _ :: _,e=>cases e
 case hb2 =>
  intro as h
  match as,h with
  | [v0],_ =>
   show RS g false 0 _ [some v0] _ _ _ (f_Heap_next_number_b v0)
   unfold f_Heap_next_number_b
   walk_at "m-rs"
  | [],h=>simp at h
  | _ :: _ :: _,h=>simp at h
theorem M_Heap_next_number (hK:g.K=KK g.w.params):MethIs g .heap "next_number" 180:=⟨by rw [hK];kernel_rfl,by rw [hK];kernel_rfl,by rw [hK];kernel_rfl,by decide, .K (by rw [hK];kernel_rfl)⟩
theorem C_Heap_next_number (hf:Facts g) (hK:g.K=KK g.w.params) {fr:Bool} {d:Nat} {sc:Scope} {Γ:Cx0} {es:List PySem.Expr} {mo:M AV} {o:PySem.Expr} {ap pos:Pos} (hd:1≤d) (ho:RE g fr d sc Γ o mo) (ha:REs g fr d sc Γ es []) (he:MethEval o "next_number" ap pos es):RE g fr d sc Γ (.Call (.Attribute o (Str.ofString "next_number") ap) es [] pos) (bd mo λ v0=>bd (chk v0 .heap) λ _=>f_Heap_next_number v0):=by
 have h:=RE_meth (M_Heap_next_number hK) (S_Heap_next_number hf hK) hd ho ha he
 simp only [evs0] at h
 exact h
local macro_rules | `(tactic| walk_at "m-re")=> `(tactic| ((with_reducible refine C_Heap_next_number (by assumption) (by assumption) ?_ ?_ ?_ ?_);(focus decide);(focus walk_at "m-re");(focus walk_at "m-res");(focus intro _;exact ⟨_,rfl⟩)))
def FF_Heap_new_scalar:List AV→M AV:=λ as=>match as with | [v0,v1]=>f_Heap_new_scalar v0 v1 | _=>fl
def MB_Heap_new_scalar:List AV→M (Fl Unit):=λ as=>match as with | [v0,v1]=>f_Heap_new_scalar_b v0 v1 | _=>fl
theorem S_Heap_new_scalar (hf:Facts g) (hK:g.K=KK g.w.params):Fn g 4 (.ref 187) FF_Heap_new_scalar:=by
 refine' Fn_def (d:=3) (f:=187) hf ?ho ?hcd [] [] 2 MB_Heap_new_scalar ?hdv ?hb1 ?h1 ?h2 ?h3 ?h4 ?h5 ?h6 ?h7 ?hb2 ?hF
 case ho=>rw [hK];rfl
 case hcd=>rw [hK];kernel_rfl
 case hdv=>exact λ _ _=> .nil
 case h1=>rfl
 case h2=>decide
 case h3=>decide +kernel
 case h4=>decide +kernel
 case h5=>rfl
 case h6=>rfl
 case h7=>rfl
 case hb1 =>
  intro s vs X h
  match vs,h with
  | [_,_],_=>exact BindsTo.of_eq rfl
  | [],h=>simp at h
  | [_],h=>simp at h
  | _ :: _ :: _ :: _,h=>simp at h
 case hF =>
  intro as b μ μ' e
  match as,e with
  | [_,_],e=>exact ⟨rfl,e⟩
  | [],e=>cases e
  | [_],e=>cases e
  | _ :: _ :: _ :: _,e=>cases e
 case hb2 =>
  intro as h
  match as,h with
  | [v0,v1],_ =>
   show RS g false 3 _ [some v0,some v1,none] _ _ _ (f_Heap_new_scalar_b v0 v1)
   unfold f_Heap_new_scalar_b
   walk_at "m-rs"
  | [],h=>simp at h
  | [_],h=>simp at h
  | _ :: _ :: _ :: _,h=>simp at h
theorem M_Heap_new_scalar (hK:g.K=KK g.w.params):MethIs g .heap "new_scalar" 187:=⟨by rw [hK];kernel_rfl,by rw [hK];kernel_rfl,by rw [hK];kernel_rfl,by decide, .K (by rw [hK];kernel_rfl)⟩
theorem C_Heap_new_scalar (hf:Facts g) (hK:g.K=KK g.w.params) {fr:Bool} {d:Nat} {sc:Scope} {Γ:Cx0} {es:List PySem.Expr} {m0:M AV} {mo:M AV} {o:PySem.Expr} {ap pos:Pos} (hd:4≤d) (ho:RE g fr d sc Γ o mo) (ha:REs g fr d sc Γ es [m0]) (he:MethEval o "new_scalar" ap pos es):RE g fr d sc Γ (.Call (.Attribute o (Str.ofString "new_scalar") ap) es [] pos) (bd mo λ v0=>bd (chk v0 .heap) λ _=>bd m0 λ v1=>f_Heap_new_scalar v0 v1):=by
 have h:=RE_meth (M_Heap_new_scalar hK) (S_Heap_new_scalar hf hK) hd ho ha he
 simp only [evs1] at h
 exact h
local macro_rules | `(tactic| walk_at "m-re")=> `(tactic| ((with_reducible refine C_Heap_new_scalar (by assumption) (by assumption) ?_ ?_ ?_ ?_);(focus decide);(focus walk_at "m-re");(focus walk_at "m-res");(focus intro _;exact ⟨_,rfl⟩)))
def FF_Heap_new_array:List AV→M AV:=λ as=>match as with | [v0]=>f_Heap_new_array v0 | _=>fl
def MB_Heap_new_array:List AV→M (Fl Unit):=λ as=>match as with | [v0]=>f_Heap_new_array_b v0 | _=>fl
theorem S_Heap_new_array (hf:Facts g) (hK:g.K=KK g.w.params):Fn g 4 (.ref 194) FF_Heap_new_array:=by
 refine' Fn_def (d:=3) (f:=194) hf ?ho ?hcd [] [] 1 MB_Heap_new_array ?hdv ?hb1 ?h1 ?h2 ?h3 ?h4 ?h5 ?h6 ?h7 ?hb2 ?hF
 case ho=>rw [hK];rfl
 case hcd=>rw [hK];kernel_rfl
 case hdv=>exact λ _ _=> .nil
 case h1=>rfl
 case h2=>decide
 case h3=>decide +kernel
 case h4=>decide +kernel
 case h5=>rfl
 case h6=>rfl
 case h7=>rfl
 case hb1 =>
  intro s vs X h
  match vs,h with
  | [_],_=>exact BindsTo.of_eq rfl
  | [],h=>simp at h
  | _ :: _ :: _,h=>simp at h
 case hF =>
  intro as b μ μ' e
  match as,e with
  | [_],e=>exact ⟨rfl,e⟩
  | [],e=>cases e
  | _ :: _ :: _,e=>cases e
 case hb2 =>
  intro as h
  match as,h with
  | [v0],_ =>
   show RS g false 3 _ [some v0,none] _ _ _ (f_Heap_new_array_b v0)
   unfold f_Heap_new_array_b
   walk_at "m-rs"
  | [],h=>simp at h
  | _ :: _ :: _,h=>simp at h
theorem M_Heap_new_array (hK:g.K=KK g.w.params):MethIs g .heap "new_array" 194:=⟨by rw [hK];kernel_rfl,by rw [hK];kernel_rfl,by rw [hK];kernel_rfl,by decide, .K (by rw [hK];kernel_rfl)⟩
theorem C_Heap_new_array (hf:Facts g) (hK:g.K=KK g.w.params) {fr:Bool} {d:Nat} {sc:Scope} {Γ:Cx0} {es:List PySem.Expr} {mo:M AV} {o:PySem.Expr} {ap pos:Pos} (hd:4≤d) (ho:RE g fr d sc Γ o mo) (ha:REs g fr d sc Γ es []) (he:MethEval o "new_array" ap pos es):RE g fr d sc Γ (.Call (.Attribute o (Str.ofString "new_array") ap) es [] pos) (bd mo λ v0=>bd (chk v0 .heap) λ _=>f_Heap_new_array v0):=by
 have h:=RE_meth (M_Heap_new_array hK) (S_Heap_new_array hf hK) hd ho ha he
 simp only [evs0] at h
 exact h
local macro_rules | `(tactic| walk_at "m-re")=> `(tactic| ((with_reducible refine C_Heap_new_array (by assumption) (by assumption) ?_ ?_ ?_ ?_);(focus decide);(focus walk_at "m-re");(focus walk_at "m-res");(focus intro _;exact ⟨_,rfl⟩)))
def FF_Heap_new_hash:List AV→M AV:=λ as=>match as with | [v0]=>f_Heap_new_hash v0 | _=>fl
def MB_Heap_new_hash:List AV→M (Fl Unit):=λ as=>match as with | [v0]=>f_Heap_new_hash_b v0 | _=>fl
theorem S_Heap_new_hash (hf:Facts g) (hK:g.K=KK g.w.params):Fn g 4 (.ref 201) FF_Heap_new_hash:=by
 refine' Fn_def (d:=3) (f:=201) hf ?ho ?hcd [] [] 1 MB_Heap_new_hash ?hdv ?hb1 ?h1 ?h2 ?h3 ?h4 ?h5 ?h6 ?h7 ?hb2 ?hF
 case ho=>rw [hK];rfl
 case hcd=>rw [hK];kernel_rfl
 case hdv=>exact λ _ _=> .nil
 case h1=>rfl
 case h2=>decide
 case h3=>decide +kernel
 case h4=>decide +kernel
 case h5=>rfl
 case h6=>rfl
 case h7=>rfl
 case hb1 =>
  intro s vs X h
  match vs,h with
  | [_],_=>exact BindsTo.of_eq rfl
  | [],h=>simp at h
  | _ :: _ :: _,h=>simp at h
 case hF =>
  intro as b μ μ' e
  match as,e with
  | [_],e=>exact ⟨rfl,e⟩
  | [],e=>cases e
  | _ :: _ :: _,e=>cases e
 case hb2 =>
  intro as h
  match as,h with
  | [v0],_ =>
   show RS g false 3 _ [some v0,none] _ _ _ (f_Heap_new_hash_b v0)
   unfold f_Heap_new_hash_b
   walk_at "m-rs"
  | [],h=>simp at h
  | _ :: _ :: _,h=>simp at h
theorem M_Heap_new_hash (hK:g.K=KK g.w.params):MethIs g .heap "new_hash" 201:=⟨by rw [hK];kernel_rfl,by rw [hK];kernel_rfl,by rw [hK];kernel_rfl,by decide, .K (by rw [hK];kernel_rfl)⟩
theorem C_Heap_new_hash (hf:Facts g) (hK:g.K=KK g.w.params) {fr:Bool} {d:Nat} {sc:Scope} {Γ:Cx0} {es:List PySem.Expr} {mo:M AV} {o:PySem.Expr} {ap pos:Pos} (hd:4≤d) (ho:RE g fr d sc Γ o mo) (ha:REs g fr d sc Γ es []) (he:MethEval o "new_hash" ap pos es):RE g fr d sc Γ (.Call (.Attribute o (Str.ofString "new_hash") ap) es [] pos) (bd mo λ v0=>bd (chk v0 .heap) λ _=>f_Heap_new_hash v0):=by
 have h:=RE_meth (M_Heap_new_hash hK) (S_Heap_new_hash hf hK) hd ho ha he
 simp only [evs0] at h
 exact h
local macro_rules | `(tactic| walk_at "m-re")=> `(tactic| ((with_reducible refine C_Heap_new_hash (by assumption) (by assumption) ?_ ?_ ?_ ?_);(focus decide);(focus walk_at "m-re");(focus walk_at "m-res");(focus intro _;exact ⟨_,rfl⟩)))
def FF_held_by:List AV→M AV:=λ as=>match as with | [v0]=>f_held_by v0 | _=>fl
def MB_held_by:List AV→M (Fl Unit):=λ as=>match as with | [v0]=>f_held_by_b v0 | _=>fl
theorem S_held_by (hf:Facts g) (hK:g.K=KK g.w.params):Fn g 1 (.ref 227) FF_held_by:=by
 refine' Fn_def (d:=0) (f:=227) hf ?ho ?hcd [] [] 1 MB_held_by ?hdv ?hb1 ?h1 ?h2 ?h3 ?h4 ?h5 ?h6 ?h7 ?hb2 ?hF
 case ho=>rw [hK];rfl
 case hcd=>rw [hK];kernel_rfl
 case hdv=>exact λ _ _=> .nil
 case h1=>rfl
 case h2=>decide
 case h3=>decide +kernel
 case h4=>decide +kernel
 case h5=>rfl
 case h6=>rfl
 case h7=>rfl
 case hb1 =>
  intro s vs X h
  match vs,h with
  | [_],_=>exact BindsTo.of_eq rfl
  | [],h=>simp at h
  | _ :: _ :: _,h=>simp at h
 case hF =>
  intro as b μ μ' e
  match as,e with
  | [_],e=>exact ⟨rfl,e⟩
  | [],e=>cases e
  | _ :: _ :: _,e=>cases e
 case hb2 =>
  intro as h
  match as,h with
  | [v0],_ =>
   show RS g false 0 _ [some v0,none,none,none,none,none,none] _ _ _ (f_held_by_b v0)
   unfold f_held_by_b
   walk_at "m-rs"
  | [],h=>simp at h
  | _ :: _ :: _,h=>simp at h
theorem C_held_by (hf:Facts g) (hK:g.K=KK g.w.params) {fr:Bool} {d:Nat} {sc:Scope} {Γ:Cx0} {es:List PySem.Expr} {m0:M AV} {p pos:Pos} (hd:1≤d) (hk:sc.names.lookup (Str.ofString "held_by")=some .globalImplicit) (ha:REs g fr d sc Γ es [m0]):RE g fr d sc Γ (.Call (.Name (Str.ofString "held_by") p) es [] pos) (bd m0 λ v0=>f_held_by v0):=by
 have h:=RE_callN (p:=p) (pos:=pos) (N_held_by hK hk) (.K (by rw [hK];kernel_rfl)) (S_held_by hf hK) hd ha
 rw [evs1] at h
 exact h
local macro_rules | `(tactic| walk_at "m-re")=> `(tactic| ((with_reducible refine C_held_by (by assumption) (by assumption) ?_ ?_ ?_);(focus decide);(focus kernel_rfl);(focus walk_at "m-res")))
def FF_empty_out:List AV→M AV:=λ as=>match as with | [v0]=>f_empty_out v0 | _=>fl
def MB_empty_out:List AV→M (Fl Unit):=λ as=>match as with | [v0]=>f_empty_out_b v0 | _=>fl
theorem S_empty_out (hf:Facts g) (hK:g.K=KK g.w.params):Fn g 1 (.ref 234) FF_empty_out:=by
 refine' Fn_def (d:=0) (f:=234) hf ?ho ?hcd [] [] 1 MB_empty_out ?hdv ?hb1 ?h1 ?h2 ?h3 ?h4 ?h5 ?h6 ?h7 ?hb2 ?hF
 case ho=>rw [hK];rfl
 case hcd=>rw [hK];kernel_rfl
 case hdv=>exact λ _ _=> .nil
 case h1=>rfl
 case h2=>decide
 case h3=>decide +kernel
 case h4=>decide +kernel
 case h5=>rfl
 case h6=>rfl
 case h7=>rfl
 case hb1 =>
  intro s vs X h
  match vs,h with
  | [_],_=>exact BindsTo.of_eq rfl
  | [],h=>simp at h
  | _ :: _ :: _,h=>simp at h
 case hF =>
  intro as b μ μ' e
  match as,e with
  | [_],e=>exact ⟨rfl,e⟩
  | [],e=>cases e
  | _ :: _ :: _,e=>cases e
 case hb2 =>
  intro as h
  match as,h with
  | [v0],_ =>
   show RS g false 0 _ [some v0,none,none,none,none,none] _ _ _ (f_empty_out_b v0)
   unfold f_empty_out_b
   walk_at "m-rs"
  | [],h=>simp at h
  | _ :: _ :: _,h=>simp at h
theorem C_empty_out (hf:Facts g) (hK:g.K=KK g.w.params) {fr:Bool} {d:Nat} {sc:Scope} {Γ:Cx0} {es:List PySem.Expr} {m0:M AV} {p pos:Pos} (hd:1≤d) (hk:sc.names.lookup (Str.ofString "empty_out")=some .globalImplicit) (ha:REs g fr d sc Γ es [m0]):RE g fr d sc Γ (.Call (.Name (Str.ofString "empty_out") p) es [] pos) (bd m0 λ v0=>f_empty_out v0):=by
 have h:=RE_callN (p:=p) (pos:=pos) (N_empty_out hK hk) (.K (by rw [hK];kernel_rfl)) (S_empty_out hf hK) hd ha
 rw [evs1] at h
 exact h
local macro_rules | `(tactic| walk_at "m-re")=> `(tactic| ((with_reducible refine C_empty_out (by assumption) (by assumption) ?_ ?_ ?_);(focus decide);(focus kernel_rfl);(focus walk_at "m-res")))
def FF_in_order:List AV→M AV:=λ as=>match as with | [v0]=>f_in_order v0 | _=>fl
def MB_in_order:List AV→M (Fl Unit):=λ as=>match as with | [v0]=>f_in_order_b v0 | _=>fl
theorem S_in_order (hf:Facts g) (hK:g.K=KK g.w.params):Fn g 1 (.ref 239) FF_in_order:=by
 refine' Fn_def (d:=0) (f:=239) hf ?ho ?hcd [] [] 1 MB_in_order ?hdv ?hb1 ?h1 ?h2 ?h3 ?h4 ?h5 ?h6 ?h7 ?hb2 ?hF
 case ho=>rw [hK];rfl
 case hcd=>rw [hK];kernel_rfl
 case hdv=>exact λ _ _=> .nil
 case h1=>rfl
 case h2=>decide
 case h3=>decide +kernel
 case h4=>decide +kernel
 case h5=>rfl
 case h6=>rfl
 case h7=>rfl
 case hb1 =>
  intro s vs X h
  match vs,h with
  | [_],_=>exact BindsTo.of_eq rfl
  | [],h=>simp at h
  | _ :: _ :: _,h=>simp at h
 case hF =>
  intro as b μ μ' e
  match as,e with
  | [_],e=>exact ⟨rfl,e⟩
  | [],e=>cases e
  | _ :: _ :: _,e=>cases e
 case hb2 =>
  intro as h
  match as,h with
  | [v0],_ =>
   show RS g false 0 _ [some v0,none,none,none] _ _ _ (f_in_order_b v0)
   unfold f_in_order_b
   walk_at "m-rs"
  | [],h=>simp at h
  | _ :: _ :: _,h=>simp at h
theorem C_in_order (hf:Facts g) (hK:g.K=KK g.w.params) {fr:Bool} {d:Nat} {sc:Scope} {Γ:Cx0} {es:List PySem.Expr} {m0:M AV} {p pos:Pos} (hd:1≤d) (hk:sc.names.lookup (Str.ofString "in_order")=some .globalImplicit) (ha:REs g fr d sc Γ es [m0]):RE g fr d sc Γ (.Call (.Name (Str.ofString "in_order") p) es [] pos) (bd m0 λ v0=>f_in_order v0):=by
 have h:=RE_callN (p:=p) (pos:=pos) (N_in_order hK hk) (.K (by rw [hK];kernel_rfl)) (S_in_order hf hK) hd ha
 rw [evs1] at h
 exact h
local macro_rules | `(tactic| walk_at "m-re")=> `(tactic| ((with_reducible refine C_in_order (by assumption) (by assumption) ?_ ?_ ?_);(focus decide);(focus kernel_rfl);(focus walk_at "m-res")))
def FF_Counter_init:List AV→M AV:=λ as=>match as with | [v0,v1,v2]=>f_Counter_init v0 v1 v2 | _=>fl
def MB_Counter_init:List AV→M (Fl Unit):=λ as=>match as with | [v0,v1,v2]=>f_Counter_init_b v0 v1 v2 | _=>fl
theorem S_Counter_init (hf:Facts g) (hK:g.K=KK g.w.params):Fn g 1 (.ref 253) FF_Counter_init:=by
 refine' Fn_def (d:=0) (f:=253) hf ?ho ?hcd [] [] 3 MB_Counter_init ?hdv ?hb1 ?h1 ?h2 ?h3 ?h4 ?h5 ?h6 ?h7 ?hb2 ?hF
 case ho=>rw [hK];rfl
 case hcd=>rw [hK];kernel_rfl
 case hdv=>exact λ _ _=> .nil
 case h1=>rfl
 case h2=>decide
 case h3=>decide +kernel
 case h4=>decide +kernel
 case h5=>rfl
 case h6=>rfl
 case h7=>rfl
 case hb1 =>
  intro s vs X h
  match vs,h with
  | [_,_,_],_=>exact BindsTo.of_eq rfl
  | [],h=>simp at h
  | [_],h=>simp at h
  | [_,_],h=>simp at h
  | _ :: _ :: _ :: _ :: _,h=>simp at h
 case hF =>
  intro as b μ μ' e
  match as,e with
  | [_,_,_],e=>exact ⟨rfl,e⟩
  | [],e=>cases e
  | [_],e=>cases e
  | [_,_],e=>cases e
  | _ :: _ :: _ :: _ :: _,e=>cases e
 case hb2 =>
  intro as h
  match as,h with
  | [v0,v1,v2],_ =>
   show RS g false 0 _ [some v0,some v1,some v2] _ _ _ (f_Counter_init_b v0 v1 v2)
   unfold f_Counter_init_b
   walk_at "m-rs"
  | [],h=>simp at h
  | [_],h=>simp at h
  | [_,_],h=>simp at h
  | _ :: _ :: _ :: _ :: _,h=>simp at h
theorem K_Counter (hK:g.K=KK g.w.params):ClsIs g .counter 253:=⟨by rw [hK];kernel_rfl,by rw [hK];kernel_rfl,by rw [hK];kernel_rfl, .K (by rw [hK];kernel_rfl)⟩
theorem C_Counter_init (hf:Facts g) (hK:g.K=KK g.w.params) {fr:Bool} {d:Nat} {sc:Scope} {Γ:Cx0} {es:List PySem.Expr} {m0 m1:M AV} {p pos:Pos} (hd:2≤d) (hk:sc.names.lookup (Str.ofString "Counter")=some .globalImplicit) (ha:REs g fr d sc Γ es [m0,m1]):RE g fr d sc Γ (.Call (.Name (Str.ofString "Counter") p) es [] pos) (bd m0 λ v1=>bd m1 λ v2=>new .counter λ v0=>f_Counter_init v0 v1 v2):=by
 have h:=RE_callN (p:=p) (pos:=pos) (N_Counter hK hk) (K_Counter hK).a4 (new_Fn (K_Counter hK) (S_Counter_init hf hK)) hd ha
 rw [evs2] at h
 exact h
local macro_rules | `(tactic| walk_at "m-re")=> `(tactic| ((with_reducible refine C_Counter_init (by assumption) (by assumption) ?_ ?_ ?_);(focus decide);(focus kernel_rfl);(focus walk_at "m-res")))
def FF_Counter_hold:List AV→M AV:=λ as=>match as with | [v0,v1]=>f_Counter_hold v0 v1 | _=>fl
def MB_Counter_hold:List AV→M (Fl Unit):=λ as=>match as with | [v0,v1]=>f_Counter_hold_b v0 v1 | _=>fl
theorem S_Counter_hold (hf:Facts g) (hK:g.K=KK g.w.params):Fn g 1 (.ref 260) FF_Counter_hold:=by
 refine' Fn_def (d:=0) (f:=260) hf ?ho ?hcd [] [] 2 MB_Counter_hold ?hdv ?hb1 ?h1 ?h2 ?h3 ?h4 ?h5 ?h6 ?h7 ?hb2 ?hF
 case ho=>rw [hK];rfl
 case hcd=>rw [hK];kernel_rfl
 case hdv=>exact λ _ _=> .nil
 case h1=>rfl
 case h2=>decide
 case h3=>decide +kernel
 case h4=>decide +kernel
 case h5=>rfl
 case h6=>rfl
 case h7=>rfl
 case hb1 =>
  intro s vs X h
  match vs,h with
  | [_,_],_=>exact BindsTo.of_eq rfl
  | [],h=>simp at h
  | [_],h=>simp at h
  | _ :: _ :: _ :: _,h=>simp at h
 case hF =>
  intro as b μ μ' e
  match as,e with
  | [_,_],e=>exact ⟨rfl,e⟩
  | [],e=>cases e
  | [_],e=>cases e
  | _ :: _ :: _ :: _,e=>cases e
 case hb2 =>
  intro as h
  match as,h with
  | [v0,v1],_ =>
   show RS g false 0 _ [some v0,some v1] _ _ _ (f_Counter_hold_b v0 v1)
   unfold f_Counter_hold_b
   walk_at "m-rs"
  | [],h=>simp at h
  | [_],h=>simp at h
  | _ :: _ :: _ :: _,h=>simp at h
theorem M_Counter_hold (hK:g.K=KK g.w.params):MethIs g .counter "hold" 260:=⟨by rw [hK];kernel_rfl,by rw [hK];kernel_rfl,by rw [hK];kernel_rfl,by decide, .K (by rw [hK];kernel_rfl)⟩
theorem C_Counter_hold (hf:Facts g) (hK:g.K=KK g.w.params) {fr:Bool} {d:Nat} {sc:Scope} {Γ:Cx0} {es:List PySem.Expr} {m0:M AV} {mo:M AV} {o:PySem.Expr} {ap pos:Pos} (hd:1≤d) (ho:RE g fr d sc Γ o mo) (ha:REs g fr d sc Γ es [m0]) (he:MethEval o "hold" ap pos es):RE g fr d sc Γ (.Call (.Attribute o (Str.ofString "hold") ap) es [] pos) (bd mo λ v0=>bd (chk v0 .counter) λ _=>bd m0 λ v1=>f_Counter_hold v0 v1):=by
 have h:=RE_meth (M_Counter_hold hK) (S_Counter_hold hf hK) hd ho ha he
 simp only [evs1] at h
 exact h
local macro_rules | `(tactic| walk_at "m-re")=> `(tactic| ((with_reducible refine C_Counter_hold (by assumption) (by assumption) ?_ ?_ ?_ ?_);(focus decide);(focus walk_at "m-re");(focus walk_at "m-res");(focus intro _;exact ⟨_,rfl⟩)))
def FF_Counter_let_go:List AV→M AV:=λ as=>match as with | [v0,v1]=>f_Counter_let_go v0 v1 | _=>fl
def MB_Counter_let_go:List AV→M (Fl Unit):=λ as=>match as with | [v0,v1]=>f_Counter_let_go_b v0 v1 | _=>fl
theorem S_Counter_let_go (hf:Facts g) (hK:g.K=KK g.w.params):Fn g 1 (.ref 267) FF_Counter_let_go:=by
 refine' Fn_def (d:=0) (f:=267) hf ?ho ?hcd [] [] 2 MB_Counter_let_go ?hdv ?hb1 ?h1 ?h2 ?h3 ?h4 ?h5 ?h6 ?h7 ?hb2 ?hF
 case ho=>rw [hK];rfl
 case hcd=>rw [hK];kernel_rfl
 case hdv=>exact λ _ _=> .nil
 case h1=>rfl
 case h2=>decide
 case h3=>decide +kernel
 case h4=>decide +kernel
 case h5=>rfl
 case h6=>rfl
 case h7=>rfl
 case hb1 =>
  intro s vs X h
  match vs,h with
  | [_,_],_=>exact BindsTo.of_eq rfl
  | [],h=>simp at h
  | [_],h=>simp at h
  | _ :: _ :: _ :: _,h=>simp at h
 case hF =>
  intro as b μ μ' e
  match as,e with
  | [_,_],e=>exact ⟨rfl,e⟩
  | [],e=>cases e
  | [_],e=>cases e
  | _ :: _ :: _ :: _,e=>cases e
 case hb2 =>
  intro as h
  match as,h with
  | [v0,v1],_ =>
   show RS g false 0 _ [some v0,some v1] _ _ _ (f_Counter_let_go_b v0 v1)
   unfold f_Counter_let_go_b
   walk_at "m-rs"
  | [],h=>simp at h
  | [_],h=>simp at h
  | _ :: _ :: _ :: _,h=>simp at h
theorem M_Counter_let_go (hK:g.K=KK g.w.params):MethIs g .counter "let_go" 267:=⟨by rw [hK];kernel_rfl,by rw [hK];kernel_rfl,by rw [hK];kernel_rfl,by decide, .K (by rw [hK];kernel_rfl)⟩
theorem C_Counter_let_go (hf:Facts g) (hK:g.K=KK g.w.params) {fr:Bool} {d:Nat} {sc:Scope} {Γ:Cx0} {es:List PySem.Expr} {m0:M AV} {mo:M AV} {o:PySem.Expr} {ap pos:Pos} (hd:1≤d) (ho:RE g fr d sc Γ o mo) (ha:REs g fr d sc Γ es [m0]) (he:MethEval o "let_go" ap pos es):RE g fr d sc Γ (.Call (.Attribute o (Str.ofString "let_go") ap) es [] pos) (bd mo λ v0=>bd (chk v0 .counter) λ _=>bd m0 λ v1=>f_Counter_let_go v0 v1):=by
 have h:=RE_meth (M_Counter_let_go hK) (S_Counter_let_go hf hK) hd ho ha he
 simp only [evs1] at h
 exact h
local macro_rules | `(tactic| walk_at "m-re")=> `(tactic| ((with_reducible refine C_Counter_let_go (by assumption) (by assumption) ?_ ?_ ?_ ?_);(focus decide);(focus walk_at "m-re");(focus walk_at "m-res");(focus intro _;exact ⟨_,rfl⟩)))
def FF_Counter_note:List AV→M AV:=λ as=>match as with | [v0,v1]=>f_Counter_note v0 v1 | _=>fl
def MB_Counter_note:List AV→M (Fl Unit):=λ as=>match as with | [v0,v1]=>f_Counter_note_b v0 v1 | _=>fl
theorem S_Counter_note (hf:Facts g) (hK:g.K=KK g.w.params):Fn g 1 (.ref 274) FF_Counter_note:=by
 refine' Fn_def (d:=0) (f:=274) hf ?ho ?hcd [] [] 2 MB_Counter_note ?hdv ?hb1 ?h1 ?h2 ?h3 ?h4 ?h5 ?h6 ?h7 ?hb2 ?hF
 case ho=>rw [hK];rfl
 case hcd=>rw [hK];kernel_rfl
 case hdv=>exact λ _ _=> .nil
 case h1=>rfl
 case h2=>decide
 case h3=>decide +kernel
 case h4=>decide +kernel
 case h5=>rfl
 case h6=>rfl
 case h7=>rfl
 case hb1 =>
  intro s vs X h
  match vs,h with
  | [_,_],_=>exact BindsTo.of_eq rfl
  | [],h=>simp at h
  | [_],h=>simp at h
  | _ :: _ :: _ :: _,h=>simp at h
 case hF =>
  intro as b μ μ' e
  match as,e with
  | [_,_],e=>exact ⟨rfl,e⟩
  | [],e=>cases e
  | [_],e=>cases e
  | _ :: _ :: _ :: _,e=>cases e
 case hb2 =>
  intro as h
  match as,h with
  | [v0,v1],_ =>
   show RS g false 0 _ [some v0,some v1] _ _ _ (f_Counter_note_b v0 v1)
   unfold f_Counter_note_b
   walk_at "m-rs"
  | [],h=>simp at h
  | [_],h=>simp at h
  | _ :: _ :: _ :: _,h=>simp at h
theorem M_Counter_note (hK:g.K=KK g.w.params):MethIs g .counter "note" 274:=⟨by rw [hK];kernel_rfl,by rw [hK];kernel_rfl,by rw [hK];kernel_rfl,by decide, .K (by rw [hK];kernel_rfl)⟩
theorem C_Counter_note (hf:Facts g) (hK:g.K=KK g.w.params) {fr:Bool} {d:Nat} {sc:Scope} {Γ:Cx0} {es:List PySem.Expr} {m0:M AV} {mo:M AV} {o:PySem.Expr} {ap pos:Pos} (hd:1≤d) (ho:RE g fr d sc Γ o mo) (ha:REs g fr d sc Γ es [m0]) (he:MethEval o "note" ap pos es):RE g fr d sc Γ (.Call (.Attribute o (Str.ofString "note") ap) es [] pos) (bd mo λ v0=>bd (chk v0 .counter) λ _=>bd m0 λ v1=>f_Counter_note v0 v1):=by
 have h:=RE_meth (M_Counter_note hK) (S_Counter_note hf hK) hd ho ha he
 simp only [evs1] at h
 exact h
local macro_rules | `(tactic| walk_at "m-re")=> `(tactic| ((with_reducible refine C_Counter_note (by assumption) (by assumption) ?_ ?_ ?_ ?_);(focus decide);(focus walk_at "m-re");(focus walk_at "m-res");(focus intro _;exact ⟨_,rfl⟩)))
def FF_Counter_take:List AV→M AV:=λ as=>match as with | [v0,v1]=>f_Counter_take v0 v1 | _=>fl
def MB_Counter_take:List AV→M (Fl Unit):=λ as=>match as with | [v0,v1]=>f_Counter_take_b v0 v1 | _=>fl
theorem S_Counter_take (hf:Facts g) (hK:g.K=KK g.w.params):Fn g 3 (.ref 281) FF_Counter_take:=by
 refine' Fn_def (d:=2) (f:=281) hf ?ho ?hcd [] [] 2 MB_Counter_take ?hdv ?hb1 ?h1 ?h2 ?h3 ?h4 ?h5 ?h6 ?h7 ?hb2 ?hF
 case ho=>rw [hK];rfl
 case hcd=>rw [hK];kernel_rfl
 case hdv=>exact λ _ _=> .nil
 case h1=>rfl
 case h2=>decide
 case h3=>decide +kernel
 case h4=>decide +kernel
 case h5=>rfl
 case h6=>rfl
 case h7=>rfl
 case hb1 =>
  intro s vs X h
  match vs,h with
  | [_,_],_=>exact BindsTo.of_eq rfl
  | [],h=>simp at h
  | [_],h=>simp at h
  | _ :: _ :: _ :: _,h=>simp at h
 case hF =>
  intro as b μ μ' e
  match as,e with
  | [_,_],e=>exact ⟨rfl,e⟩
  | [],e=>cases e
  | [_],e=>cases e
  | _ :: _ :: _ :: _,e=>cases e
 case hb2 =>
  intro as h
  match as,h with
  | [v0,v1],_ =>
   show RS g false 2 _ [some v0,some v1,none,none] _ _ _ (f_Counter_take_b v0 v1)
   unfold f_Counter_take_b
   walk_at "m-rs"
  | [],h=>simp at h
  | [_],h=>simp at h
  | _ :: _ :: _ :: _,h=>simp at h
theorem M_Counter_take (hK:g.K=KK g.w.params):MethIs g .counter "take" 281:=⟨by rw [hK];kernel_rfl,by rw [hK];kernel_rfl,by rw [hK];kernel_rfl,by decide, .K (by rw [hK];kernel_rfl)⟩
theorem C_Counter_take (hf:Facts g) (hK:g.K=KK g.w.params) {fr:Bool} {d:Nat} {sc:Scope} {Γ:Cx0} {es:List PySem.Expr} {m0:M AV} {mo:M AV} {o:PySem.Expr} {ap pos:Pos} (hd:3≤d) (ho:RE g fr d sc Γ o mo) (ha:REs g fr d sc Γ es [m0]) (he:MethEval o "take" ap pos es):RE g fr d sc Γ (.Call (.Attribute o (Str.ofString "take") ap) es [] pos) (bd mo λ v0=>bd (chk v0 .counter) λ _=>bd m0 λ v1=>f_Counter_take v0 v1):=by
 have h:=RE_meth (M_Counter_take hK) (S_Counter_take hf hK) hd ho ha he
 simp only [evs1] at h
 exact h
local macro_rules | `(tactic| walk_at "m-re")=> `(tactic| ((with_reducible refine C_Counter_take (by assumption) (by assumption) ?_ ?_ ?_ ?_);(focus decide);(focus walk_at "m-re");(focus walk_at "m-res");(focus intro _;exact ⟨_,rfl⟩)))
def FF_Counter_put_off:List AV→M AV:=λ as=>match as with | [v0,v1,v2]=>f_Counter_put_off v0 v1 v2 | _=>fl
def MB_Counter_put_off:List AV→M (Fl Unit):=λ as=>match as with | [v0,v1,v2]=>f_Counter_put_off_b v0 v1 v2 | _=>fl
theorem S_Counter_put_off (hf:Facts g) (hK:g.K=KK g.w.params):Fn g 2 (.ref 286) FF_Counter_put_off:=by
 refine' Fn_def (d:=1) (f:=286) hf ?ho ?hcd [] [] 3 MB_Counter_put_off ?hdv ?hb1 ?h1 ?h2 ?h3 ?h4 ?h5 ?h6 ?h7 ?hb2 ?hF
 case ho=>rw [hK];rfl
 case hcd=>rw [hK];kernel_rfl
 case hdv=>exact λ _ _=> .nil
 case h1=>rfl
 case h2=>decide
 case h3=>decide +kernel
 case h4=>decide +kernel
 case h5=>rfl
 case h6=>rfl
 case h7=>rfl
 case hb1 =>
  intro s vs X h
  match vs,h with
  | [_,_,_],_=>exact BindsTo.of_eq rfl
  | [],h=>simp at h
  | [_],h=>simp at h
  | [_,_],h=>simp at h
  | _ :: _ :: _ :: _ :: _,h=>simp at h
 case hF =>
  intro as b μ μ' e
  match as,e with
  | [_,_,_],e=>exact ⟨rfl,e⟩
  | [],e=>cases e
  | [_],e=>cases e
  | [_,_],e=>cases e
  | _ :: _ :: _ :: _ :: _,e=>cases e
 case hb2 =>
  intro as h
  match as,h with
  | [v0,v1,v2],_ =>
   show RS g false 1 _ [some v0,some v1,some v2,none,none] _ _ _ (f_Counter_put_off_b v0 v1 v2)
   unfold f_Counter_put_off_b
   walk_at "m-rs"
  | [],h=>simp at h
  | [_],h=>simp at h
  | [_,_],h=>simp at h
  | _ :: _ :: _ :: _ :: _,h=>simp at h
theorem M_Counter_put_off (hK:g.K=KK g.w.params):MethIs g .counter "put_off" 286:=⟨by rw [hK];kernel_rfl,by rw [hK];kernel_rfl,by rw [hK];kernel_rfl,by decide, .K (by rw [hK];kernel_rfl)⟩
theorem C_Counter_put_off (hf:Facts g) (hK:g.K=KK g.w.params) {fr:Bool} {d:Nat} {sc:Scope} {Γ:Cx0} {es:List PySem.Expr} {m0 m1:M AV} {mo:M AV} {o:PySem.Expr} {ap pos:Pos} (hd:2≤d) (ho:RE g fr d sc Γ o mo) (ha:REs g fr d sc Γ es [m0,m1]) (he:MethEval o "put_off" ap pos es):RE g fr d sc Γ (.Call (.Attribute o (Str.ofString "put_off") ap) es [] pos) (bd mo λ v0=>bd (chk v0 .counter) λ _=>bd m0 λ v1=>bd m1 λ v2=>f_Counter_put_off v0 v1 v2):=by
 have h:=RE_meth (M_Counter_put_off hK) (S_Counter_put_off hf hK) hd ho ha he
 simp only [evs2] at h
 exact h
local macro_rules | `(tactic| walk_at "m-re")=> `(tactic| ((with_reducible refine C_Counter_put_off (by assumption) (by assumption) ?_ ?_ ?_ ?_);(focus decide);(focus walk_at "m-re");(focus walk_at "m-res");(focus intro _;exact ⟨_,rfl⟩)))
def FF_Counter_store:List AV→M AV:=λ as=>match as with | [v0,v1,v2]=>f_Counter_store v0 v1 v2 | _=>fl
def MB_Counter_store:List AV→M (Fl Unit):=λ as=>match as with | [v0,v1,v2]=>f_Counter_store_b v0 v1 v2 | _=>fl
theorem S_Counter_store (hf:Facts g) (hK:g.K=KK g.w.params):Fn g 4 (.ref 293) FF_Counter_store:=by
 refine' Fn_def (d:=3) (f:=293) hf ?ho ?hcd [] [] 3 MB_Counter_store ?hdv ?hb1 ?h1 ?h2 ?h3 ?h4 ?h5 ?h6 ?h7 ?hb2 ?hF
 case ho=>rw [hK];rfl
 case hcd=>rw [hK];kernel_rfl
 case hdv=>exact λ _ _=> .nil
 case h1=>rfl
 case h2=>decide
 case h3=>decide +kernel
 case h4=>decide +kernel
 case h5=>rfl
 case h6=>rfl
 case h7=>rfl
 case hb1 =>
  intro s vs X h
  match vs,h with
  | [_,_,_],_=>exact BindsTo.of_eq rfl
  | [],h=>simp at h
  | [_],h=>simp at h
  | [_,_],h=>simp at h
  | _ :: _ :: _ :: _ :: _,h=>simp at h
 case hF =>
  intro as b μ μ' e
  match as,e with
  | [_,_,_],e=>exact ⟨rfl,e⟩
  | [],e=>cases e
  | [_],e=>cases e
  | [_,_],e=>cases e
  | _ :: _ :: _ :: _ :: _,e=>cases e
 case hb2 =>
  intro as h
  match as,h with
  | [v0,v1,v2],_ =>
   show RS g false 3 _ [some v0,some v1,some v2,none] _ _ _ (f_Counter_store_b v0 v1 v2)
   unfold f_Counter_store_b
   walk_at "m-rs"
  | [],h=>simp at h
  | [_],h=>simp at h
  | [_,_],h=>simp at h
  | _ :: _ :: _ :: _ :: _,h=>simp at h
theorem M_Counter_store (hK:g.K=KK g.w.params):MethIs g .counter "store" 293:=⟨by rw [hK];kernel_rfl,by rw [hK];kernel_rfl,by rw [hK];kernel_rfl,by decide, .K (by rw [hK];kernel_rfl)⟩
theorem C_Counter_store (hf:Facts g) (hK:g.K=KK g.w.params) {fr:Bool} {d:Nat} {sc:Scope} {Γ:Cx0} {es:List PySem.Expr} {m0 m1:M AV} {mo:M AV} {o:PySem.Expr} {ap pos:Pos} (hd:4≤d) (ho:RE g fr d sc Γ o mo) (ha:REs g fr d sc Γ es [m0,m1]) (he:MethEval o "store" ap pos es):RE g fr d sc Γ (.Call (.Attribute o (Str.ofString "store") ap) es [] pos) (bd mo λ v0=>bd (chk v0 .counter) λ _=>bd m0 λ v1=>bd m1 λ v2=>f_Counter_store v0 v1 v2):=by
 have h:=RE_meth (M_Counter_store hK) (S_Counter_store hf hK) hd ho ha he
 simp only [evs2] at h
 exact h
local macro_rules | `(tactic| walk_at "m-re")=> `(tactic| ((with_reducible refine C_Counter_store (by assumption) (by assumption) ?_ ?_ ?_ ?_);(focus decide);(focus walk_at "m-re");(focus walk_at "m-res");(focus intro _;exact ⟨_,rfl⟩)))
def FF_Counter_fresh:List AV→M AV:=λ as=>match as with | [v0,v1]=>f_Counter_fresh v0 v1 | _=>fl
def MB_Counter_fresh:List AV→M (Fl Unit):=λ as=>match as with | [v0,v1]=>f_Counter_fresh_b v0 v1 | _=>fl
theorem S_Counter_fresh (hf:Facts g) (hK:g.K=KK g.w.params):Fn g 5 (.ref 300) FF_Counter_fresh:=by
 refine' Fn_def (d:=4) (f:=300) hf ?ho ?hcd [] [] 2 MB_Counter_fresh ?hdv ?hb1 ?h1 ?h2 ?h3 ?h4 ?h5 ?h6 ?h7 ?hb2 ?hF
 case ho=>rw [hK];rfl
 case hcd=>rw [hK];kernel_rfl
 case hdv=>exact λ _ _=> .nil
 case h1=>rfl
 case h2=>decide
 case h3=>decide +kernel
 case h4=>decide +kernel
 case h5=>rfl
 case h6=>rfl
 case h7=>rfl
 case hb1 =>
  intro s vs X h
  match vs,h with
  | [_,_],_=>exact BindsTo.of_eq rfl
  | [],h=>simp at h
  | [_],h=>simp at h
  | _ :: _ :: _ :: _,h=>simp at h
 case hF =>
  intro as b μ μ' e
  match as,e with
  | [_,_],e=>exact ⟨rfl,e⟩
  | [],e=>cases e
  | [_],e=>cases e
  | _ :: _ :: _ :: _,e=>cases e
 case hb2 =>
  intro as h
  match as,h with
  | [v0,v1],_ =>
   show RS g false 4 _ [some v0,some v1,none] _ _ _ (f_Counter_fresh_b v0 v1)
   unfold f_Counter_fresh_b
   walk_at "m-rs"
  | [],h=>simp at h
  | [_],h=>simp at h
  | _ :: _ :: _ :: _,h=>simp at h
theorem M_Counter_fresh (hK:g.K=KK g.w.params):MethIs g .counter "fresh" 300:=⟨by rw [hK];kernel_rfl,by rw [hK];kernel_rfl,by rw [hK];kernel_rfl,by decide, .K (by rw [hK];kernel_rfl)⟩
theorem C_Counter_fresh (hf:Facts g) (hK:g.K=KK g.w.params) {fr:Bool} {d:Nat} {sc:Scope} {Γ:Cx0} {es:List PySem.Expr} {m0:M AV} {mo:M AV} {o:PySem.Expr} {ap pos:Pos} (hd:5≤d) (ho:RE g fr d sc Γ o mo) (ha:REs g fr d sc Γ es [m0]) (he:MethEval o "fresh" ap pos es):RE g fr d sc Γ (.Call (.Attribute o (Str.ofString "fresh") ap) es [] pos) (bd mo λ v0=>bd (chk v0 .counter) λ _=>bd m0 λ v1=>f_Counter_fresh v0 v1):=by
 have h:=RE_meth (M_Counter_fresh hK) (S_Counter_fresh hf hK) hd ho ha he
 simp only [evs1] at h
 exact h
local macro_rules | `(tactic| walk_at "m-re")=> `(tactic| ((with_reducible refine C_Counter_fresh (by assumption) (by assumption) ?_ ?_ ?_ ?_);(focus decide);(focus walk_at "m-re");(focus walk_at "m-res");(focus intro _;exact ⟨_,rfl⟩)))
def FF_Counter_drop:List AV→M AV:=λ as=>match as with | [v0,v1]=>f_Counter_drop v0 v1 | _=>fl
def MB_Counter_drop:List AV→M (Fl Unit):=λ as=>match as with | [v0,v1]=>f_Counter_drop_b v0 v1 | _=>fl
theorem S_Counter_drop (hf:Facts g) (hK:g.K=KK g.w.params):Fn g 2 (.ref 307) FF_Counter_drop:=by
 refine' Fn_def (d:=1) (f:=307) hf ?ho ?hcd [] [] 2 MB_Counter_drop ?hdv ?hb1 ?h1 ?h2 ?h3 ?h4 ?h5 ?h6 ?h7 ?hb2 ?hF
 case ho=>rw [hK];rfl
 case hcd=>rw [hK];kernel_rfl
 case hdv=>exact λ _ _=> .nil
 case h1=>rfl
 case h2=>decide
 case h3=>decide +kernel
 case h4=>decide +kernel
 case h5=>rfl
 case h6=>rfl
 case h7=>rfl
 case hb1 =>
  intro s vs X h
  match vs,h with
  | [_,_],_=>exact BindsTo.of_eq rfl
  | [],h=>simp at h
  | [_],h=>simp at h
  | _ :: _ :: _ :: _,h=>simp at h
 case hF =>
  intro as b μ μ' e
  match as,e with
  | [_,_],e=>exact ⟨rfl,e⟩
  | [],e=>cases e
  | [_],e=>cases e
  | _ :: _ :: _ :: _,e=>cases e
 case hb2 =>
  intro as h
  match as,h with
  | [v0,v1],_ =>
   show RS g false 1 _ [some v0,some v1] _ _ _ (f_Counter_drop_b v0 v1)
   unfold f_Counter_drop_b
   walk_at "m-rs"
  | [],h=>simp at h
  | [_],h=>simp at h
  | _ :: _ :: _ :: _,h=>simp at h
theorem M_Counter_drop (hK:g.K=KK g.w.params):MethIs g .counter "drop" 307:=⟨by rw [hK];kernel_rfl,by rw [hK];kernel_rfl,by rw [hK];kernel_rfl,by decide, .K (by rw [hK];kernel_rfl)⟩
theorem C_Counter_drop (hf:Facts g) (hK:g.K=KK g.w.params) {fr:Bool} {d:Nat} {sc:Scope} {Γ:Cx0} {es:List PySem.Expr} {m0:M AV} {mo:M AV} {o:PySem.Expr} {ap pos:Pos} (hd:2≤d) (ho:RE g fr d sc Γ o mo) (ha:REs g fr d sc Γ es [m0]) (he:MethEval o "drop" ap pos es):RE g fr d sc Γ (.Call (.Attribute o (Str.ofString "drop") ap) es [] pos) (bd mo λ v0=>bd (chk v0 .counter) λ _=>bd m0 λ v1=>f_Counter_drop v0 v1):=by
 have h:=RE_meth (M_Counter_drop hK) (S_Counter_drop hf hK) hd ho ha he
 simp only [evs1] at h
 exact h
local macro_rules | `(tactic| walk_at "m-re")=> `(tactic| ((with_reducible refine C_Counter_drop (by assumption) (by assumption) ?_ ?_ ?_ ?_);(focus decide);(focus walk_at "m-re");(focus walk_at "m-res");(focus intro _;exact ⟨_,rfl⟩)))
def FF_weaken_scalar:List AV→M AV:=λ as=>match as with | [v0,v1]=>f_weaken_scalar v0 v1 | _=>fl
def MB_weaken_scalar:List AV→M (Fl Unit):=λ as=>match as with | [v0,v1]=>f_weaken_scalar_b v0 v1 | _=>fl
theorem S_weaken_scalar (hf:Facts g) (hK:g.K=KK g.w.params):Fn g 3 (.ref 342) FF_weaken_scalar:=by
 refine' Fn_def (d:=2) (f:=342) hf ?ho ?hcd [] [] 2 MB_weaken_scalar ?hdv ?hb1 ?h1 ?h2 ?h3 ?h4 ?h5 ?h6 ?h7 ?hb2 ?hF
 case ho=>rw [hK];rfl
 case hcd=>rw [hK];kernel_rfl
 case hdv=>exact λ _ _=> .nil
 case h1=>rfl
 case h2=>decide
 case h3=>decide +kernel
 case h4=>decide +kernel
 case h5=>rfl
 case h6=>rfl
 case h7=>rfl
 case hb1 =>
  intro s vs X h
  match vs,h with
  | [_,_],_=>exact BindsTo.of_eq rfl
  | [],h=>simp at h
  | [_],h=>simp at h
  | _ :: _ :: _ :: _,h=>simp at h
 case hF =>
  intro as b μ μ' e
  match as,e with
  | [_,_],e=>exact ⟨rfl,e⟩
  | [],e=>cases e
  | [_],e=>cases e
  | _ :: _ :: _ :: _,e=>cases e
 case hb2 =>
  intro as h
  match as,h with
  | [v0,v1],_ =>
   show RS g false 2 _ [some v0,some v1,none,none,none] _ _ _ (f_weaken_scalar_b v0 v1)
   unfold f_weaken_scalar_b
   walk_at "m-rs"
  | [],h=>simp at h
  | [_],h=>simp at h
  | _ :: _ :: _ :: _,h=>simp at h
theorem C_weaken_scalar (hf:Facts g) (hK:g.K=KK g.w.params) {fr:Bool} {d:Nat} {sc:Scope} {Γ:Cx0} {es:List PySem.Expr} {m0 m1:M AV} {p pos:Pos} (hd:3≤d) (hk:sc.names.lookup (Str.ofString "weaken_scalar")=some .globalImplicit) (ha:REs g fr d sc Γ es [m0,m1]):RE g fr d sc Γ (.Call (.Name (Str.ofString "weaken_scalar") p) es [] pos) (bd m0 λ v0=>bd m1 λ v1=>f_weaken_scalar v0 v1):=by
 have h:=RE_callN (p:=p) (pos:=pos) (N_weaken_scalar hK hk) (.K (by rw [hK];kernel_rfl)) (S_weaken_scalar hf hK) hd ha
 rw [evs2] at h
 exact h
local macro_rules | `(tactic| walk_at "m-re")=> `(tactic| ((with_reducible refine C_weaken_scalar (by assumption) (by assumption) ?_ ?_ ?_);(focus decide);(focus kernel_rfl);(focus walk_at "m-res")))
def FF_bless_thing:List AV→M AV:=λ as=>match as with | [v0,v1]=>f_bless_thing v0 v1 | _=>fl
def MB_bless_thing:List AV→M (Fl Unit):=λ as=>match as with | [v0,v1]=>f_bless_thing_b v0 v1 | _=>fl
theorem S_bless_thing (hf:Facts g) (hK:g.K=KK g.w.params):Fn g 1 (.ref 349) FF_bless_thing:=by
 refine' Fn_def (d:=0) (f:=349) hf ?ho ?hcd [] [] 2 MB_bless_thing ?hdv ?hb1 ?h1 ?h2 ?h3 ?h4 ?h5 ?h6 ?h7 ?hb2 ?hF
 case ho=>rw [hK];rfl
 case hcd=>rw [hK];kernel_rfl
 case hdv=>exact λ _ _=> .nil
 case h1=>rfl
 case h2=>decide
 case h3=>decide +kernel
 case h4=>decide +kernel
 case h5=>rfl
 case h6=>rfl
 case h7=>rfl
 case hb1 =>
  intro s vs X h
  match vs,h with
  | [_,_],_=>exact BindsTo.of_eq rfl
  | [],h=>simp at h
  | [_],h=>simp at h
  | _ :: _ :: _ :: _,h=>simp at h
 case hF =>
  intro as b μ μ' e
  match as,e with
  | [_,_],e=>exact ⟨rfl,e⟩
  | [],e=>cases e
  | [_],e=>cases e
  | _ :: _ :: _ :: _,e=>cases e
 case hb2 =>
  intro as h
  match as,h with
  | [v0,v1],_ =>
   show RS g false 0 _ [some v0,some v1] _ _ _ (f_bless_thing_b v0 v1)
   unfold f_bless_thing_b
   walk_at "m-rs"
  | [],h=>simp at h
  | [_],h=>simp at h
  | _ :: _ :: _ :: _,h=>simp at h
theorem C_bless_thing (hf:Facts g) (hK:g.K=KK g.w.params) {fr:Bool} {d:Nat} {sc:Scope} {Γ:Cx0} {es:List PySem.Expr} {m0 m1:M AV} {p pos:Pos} (hd:1≤d) (hk:sc.names.lookup (Str.ofString "bless_thing")=some .globalImplicit) (ha:REs g fr d sc Γ es [m0,m1]):RE g fr d sc Γ (.Call (.Name (Str.ofString "bless_thing") p) es [] pos) (bd m0 λ v0=>bd m1 λ v1=>f_bless_thing v0 v1):=by
 have h:=RE_callN (p:=p) (pos:=pos) (N_bless_thing hK hk) (.K (by rw [hK];kernel_rfl)) (S_bless_thing hf hK) hd ha
 rw [evs2] at h
 exact h
local macro_rules | `(tactic| walk_at "m-re")=> `(tactic| ((with_reducible refine C_bless_thing (by assumption) (by assumption) ?_ ?_ ?_);(focus decide);(focus kernel_rfl);(focus walk_at "m-res")))
def FF_Limits_init1:List AV→M AV:=λ as=>match as with | [v0]=>f_Limits_init v0 (.int 64) (.int 50) (.int 1000000) (.int 100000) (.int 10000) | _=>fl
def MB_Limits_init1:List AV→M (Fl Unit):=λ as=>match as with | [v0,v1,v2,v3,v4,v5]=>f_Limits_init_b v0 v1 v2 v3 v4 v5 | _=>fl
theorem S_Limits_init1 (hf:Facts g) (hK:g.K=KK g.w.params):Fn g 1 (.ref 364) FF_Limits_init1:=by
 refine' Fn_def (d:=0) (f:=364) hf ?ho ?hcd [.int 64 657, .int 50 658, .int 1000000 661, .int 100000 664, .int 10000 667] [.int 64, .int 50, .int 1000000, .int 100000, .int 10000] 1 MB_Limits_init1 ?hdv ?hb1 ?h1 ?h2 ?h3 ?h4 ?h5 ?h6 ?h7 ?hb2 ?hF
 case ho=>rw [hK];rfl
 case hcd=>rw [hK];kernel_rfl
 case hdv=>exact λ _ _=> .cons (by constructor) (.cons (by constructor) (.cons (by constructor) (.cons (by constructor) (.cons (by constructor) (.nil)))))
 case h1=>rfl
 case h2=>decide
 case h3=>decide +kernel
 case h4=>decide +kernel
 case h5=>rfl
 case h6=>rfl
 case h7=>rfl
 case hb1 =>
  intro s vs X h
  match vs,h with
  | [_],_=>exact binds_K (T:=357) (K:=KK g.w.params) (hK ▸ X) rfl (by rfl) (by rfl) rfl rfl
  | [],h=>simp at h
  | _ :: _ :: _,h=>simp at h
 case hF =>
  intro as b μ μ' e
  match as,e with
  | [_],e=>exact ⟨rfl,e⟩
  | [],e=>cases e
  | _ :: _ :: _,e=>cases e
 case hb2 =>
  intro as h
  match as,h with
  | [v0,v1,v2,v3,v4,v5],_ =>
   show RS g false 0 _ [some v0,some v1,some v2,some v3,some v4,some v5] _ _ _ (f_Limits_init_b v0 v1 v2 v3 v4 v5)
   unfold f_Limits_init_b
   walk_at "m-rs"
  | [],h=>simp at h
  | [_],h=>simp at h
  | [_,_],h=>simp at h
  | [_,_,_],h=>simp at h
  | [_,_,_,_],h=>simp at h
  | [_,_,_,_,_],h=>simp at h
  | _ :: _ :: _ :: _ :: _ :: _ :: _ :: _,h=>simp at h
theorem K_Limits (hK:g.K=KK g.w.params):ClsIs g .limits 364:=⟨by rw [hK];kernel_rfl,by rw [hK];kernel_rfl,by rw [hK];kernel_rfl, .K (by rw [hK];kernel_rfl)⟩
theorem C_Limits_init1 (hf:Facts g) (hK:g.K=KK g.w.params) {fr:Bool} {d:Nat} {sc:Scope} {Γ:Cx0} {es:List PySem.Expr} {p pos:Pos} (hd:2≤d) (hk:sc.names.lookup (Str.ofString "Limits")=some .globalImplicit) (ha:REs g fr d sc Γ es []):RE g fr d sc Γ (.Call (.Name (Str.ofString "Limits") p) es [] pos) (new .limits λ v0=>f_Limits_init v0 (.int 64) (.int 50) (.int 1000000) (.int 100000) (.int 10000)):=by
 have h:=RE_callN (p:=p) (pos:=pos) (N_Limits hK hk) (K_Limits hK).a4 (new_Fn (K_Limits hK) (S_Limits_init1 hf hK)) hd ha
 rw [evs0] at h
 exact h
local macro_rules | `(tactic| walk_at "m-re")=> `(tactic| ((with_reducible refine C_Limits_init1 (by assumption) (by assumption) ?_ ?_ ?_);(focus decide);(focus kernel_rfl);(focus walk_at "m-res")))
def DD (g:Gd) (cv:CV):Prop:= ∃ nm qual params bd' scope ns avs,g.co=Clo nm qual params bd' scope ns avs∧ ∀ (x:Cx) (Γ:Cx0),x.Ok g 5→ ∀ v w a μ adr s,St g x Γ μ adr s→VR x.fd adr v .dstr→VR x.fd adr w a→Does g x Γ (VR x.fd) (call v [w]) (f_destroy cv a) μ adr s
theorem RE_dstr (hf:Facts g) (hK:g.K=KK g.w.params) {cv:CV} (hdd:DD g cv) {fr:Bool} {sc:Scope} {Γ:Cx0} {o e:PySem.Expr} {ap pos:Pos} {mo m:M AV} (ho:RE g fr 5 sc Γ o mo) (h1:RE g fr 5 sc Γ e m) (he:MethEval o "destroy" ap pos [e]) (hst: ∀ env,starEach [e] env=[(false,eval e env)]):RE g fr 5 sc Γ (.Call (.Attribute o (Str.ofString "destroy") ap) [e] [] pos) (bd mo λ o=>bd (getA o "destroy") λ dd=>bd m λ a=>callD cv dd a):=by
 obtain ⟨nm,qual,params,bd',scope,ns,avs,hco,hD⟩:=hdd
 refine RE_attrcall hf hco (name:="destroy") (F:=callD cv) (λ c h=> ?_) (λ dd a μ r e=> ?_) hD ho h1 he hst
 ·cases c <;> first | (exact absurd h (by decide)) | (rw [hK];kernel_rfl)
 ·cases dd <;> first | rfl | cases e
local macro_rules | `(tactic| walk_at "m-re")=> `(tactic| ((with_reducible refine RE_dstr (by assumption) (by assumption) (by assumption) ?_ ?_ ?_ ?_);(focus walk_at "m-re");(focus walk_at "m-re");(focus intro _;exact ⟨_,rfl⟩);(focus intro _;rfl)))
def FF_Counter_finish (cv:CV):List AV→M AV:=λ as=>match as with | [v0,v1]=>f_Counter_finish cv v0 v1 | _=>fl
def MB_Counter_finish (cv:CV):List AV→M (Fl Unit):=λ as=>match as with | [v0,v1]=>f_Counter_finish_b cv v0 v1 | _=>fl
theorem S_Counter_finish (hf:Facts g) (hK:g.K=KK g.w.params) {cv:CV} (hdd:DD g cv):Fn g 6 (.ref 321) (FF_Counter_finish cv):=by
 refine' Fn_def (d:=5) (f:=321) hf ?ho ?hcd [] [] 2 (MB_Counter_finish cv) ?hdv ?hb1 ?h1 ?h2 ?h3 ?h4 ?h5 ?h6 ?h7 ?hb2 ?hF
 case ho=>rw [hK];rfl
 case hcd=>rw [hK];kernel_rfl
 case hdv=>exact λ _ _=> .nil
 case h1=>rfl
 case h2=>decide
 case h3=>decide +kernel
 case h4=>decide +kernel
 case h5=>rfl
 case h6=>rfl
 case h7=>rfl
 case hb1 =>
  intro s vs X h
  match vs,h with
  | [_,_],_=>exact BindsTo.of_eq rfl
  | [],h=>simp at h
  | [_],h=>simp at h
  | _ :: _ :: _ :: _,h=>simp at h
 case hF =>
  intro as b μ μ' e
  match as,e with
  | [_,_],e=>exact ⟨rfl,e⟩
  | [],e=>cases e
  | [_],e=>cases e
  | _ :: _ :: _ :: _,e=>cases e
 case hb2 =>
  intro as h
  match as,h with
  | [v0,v1],_ =>
   show RS g false 5 _ [some v0,some v1] _ _ _ (f_Counter_finish_b cv v0 v1)
   unfold f_Counter_finish_b
   walk_at "m-rs"
  | [],h=>simp at h
  | [_],h=>simp at h
  | _ :: _ :: _ :: _,h=>simp at h
theorem M_Counter_finish (hK:g.K=KK g.w.params):MethIs g .counter "finish" 321:=⟨by rw [hK];kernel_rfl,by rw [hK];kernel_rfl,by rw [hK];kernel_rfl,by decide, .K (by rw [hK];kernel_rfl)⟩
theorem C_Counter_finish (hf:Facts g) (hK:g.K=KK g.w.params) {cv:CV} (hdd:DD g cv) {fr:Bool} {d:Nat} {sc:Scope} {Γ:Cx0} {es:List PySem.Expr} {m0:M AV} {mo:M AV} {o:PySem.Expr} {ap pos:Pos} (hd:6≤d) (ho:RE g fr d sc Γ o mo) (ha:REs g fr d sc Γ es [m0]) (he:MethEval o "finish" ap pos es):RE g fr d sc Γ (.Call (.Attribute o (Str.ofString "finish") ap) es [] pos) (bd mo λ v0=>bd (chk v0 .counter) λ _=>bd m0 λ v1=>f_Counter_finish cv v0 v1):=by
 have h:=RE_meth (M_Counter_finish hK) (S_Counter_finish hf hK hdd) hd ho ha he
 simp only [evs1] at h
 exact h
local macro_rules | `(tactic| walk_at "m-re")=> `(tactic| ((with_reducible refine C_Counter_finish (by assumption) (by assumption) (by assumption) ?_ ?_ ?_ ?_);(focus decide);(focus walk_at "m-re");(focus walk_at "m-res");(focus intro _;exact ⟨_,rfl⟩)))
def FF_Counter_free:List AV→M AV:=λ as=>match as with | [v0,v1]=>f_Counter_free v0 v1 | _=>fl
def MB_Counter_free:List AV→M (Fl Unit):=λ as=>match as with | [v0,v1]=>f_Counter_free_b v0 v1 | _=>fl
theorem S_Counter_free (hf:Facts g) (hK:g.K=KK g.w.params):Fn g 3 (.ref 328) FF_Counter_free:=by
 refine' Fn_def (d:=2) (f:=328) hf ?ho ?hcd [] [] 2 MB_Counter_free ?hdv ?hb1 ?h1 ?h2 ?h3 ?h4 ?h5 ?h6 ?h7 ?hb2 ?hF
 case ho=>rw [hK];rfl
 case hcd=>rw [hK];kernel_rfl
 case hdv=>exact λ _ _=> .nil
 case h1=>rfl
 case h2=>decide
 case h3=>decide +kernel
 case h4=>decide +kernel
 case h5=>rfl
 case h6=>rfl
 case h7=>rfl
 case hb1 =>
  intro s vs X h
  match vs,h with
  | [_,_],_=>exact BindsTo.of_eq rfl
  | [],h=>simp at h
  | [_],h=>simp at h
  | _ :: _ :: _ :: _,h=>simp at h
 case hF =>
  intro as b μ μ' e
  match as,e with
  | [_,_],e=>exact ⟨rfl,e⟩
  | [],e=>cases e
  | [_],e=>cases e
  | _ :: _ :: _ :: _,e=>cases e
 case hb2 =>
  intro as h
  match as,h with
  | [v0,v1],_ =>
   show RS g false 2 _ [some v0,some v1,none,none,none,none,none,none,none,none] _ _ _ (f_Counter_free_b v0 v1)
   unfold f_Counter_free_b
   walk_at "m-rs"
  | [],h=>simp at h
  | [_],h=>simp at h
  | _ :: _ :: _ :: _,h=>simp at h
theorem M_Counter_free (hK:g.K=KK g.w.params):MethIs g .counter "free" 328:=⟨by rw [hK];kernel_rfl,by rw [hK];kernel_rfl,by rw [hK];kernel_rfl,by decide, .K (by rw [hK];kernel_rfl)⟩
theorem C_Counter_free (hf:Facts g) (hK:g.K=KK g.w.params) {fr:Bool} {d:Nat} {sc:Scope} {Γ:Cx0} {es:List PySem.Expr} {m0:M AV} {mo:M AV} {o:PySem.Expr} {ap pos:Pos} (hd:3≤d) (ho:RE g fr d sc Γ o mo) (ha:REs g fr d sc Γ es [m0]) (he:MethEval o "free" ap pos es):RE g fr d sc Γ (.Call (.Attribute o (Str.ofString "free") ap) es [] pos) (bd mo λ v0=>bd (chk v0 .counter) λ _=>bd m0 λ v1=>f_Counter_free v0 v1):=by
 have h:=RE_meth (M_Counter_free hK) (S_Counter_free hf hK) hd ho ha he
 simp only [evs1] at h
 exact h
local macro_rules | `(tactic| walk_at "m-re")=> `(tactic| ((with_reducible refine C_Counter_free (by assumption) (by assumption) ?_ ?_ ?_ ?_);(focus decide);(focus walk_at "m-re");(focus walk_at "m-res");(focus intro _;exact ⟨_,rfl⟩)))
def FF_Counter_settle (cv:CV):List AV→M AV:=λ as=>match as with | [v0,v1]=>f_Counter_settle cv v0 v1 | _=>fl
def MB_Counter_settle (cv:CV):List AV→M (Fl Unit):=λ as=>match as with | [v0,v1]=>f_Counter_settle_b cv v0 v1 | _=>fl
theorem S_Counter_settle (hf:Facts g) (hK:g.K=KK g.w.params) {cv:CV} (hdd:DD g cv):Fn g 7 (.ref 314) (FF_Counter_settle cv):=by
 refine' Fn_def (d:=6) (f:=314) hf ?ho ?hcd [] [] 2 (MB_Counter_settle cv) ?hdv ?hb1 ?h1 ?h2 ?h3 ?h4 ?h5 ?h6 ?h7 ?hb2 ?hF
 case ho=>rw [hK];rfl
 case hcd=>rw [hK];kernel_rfl
 case hdv=>exact λ _ _=> .nil
 case h1=>rfl
 case h2=>decide
 case h3=>decide +kernel
 case h4=>decide +kernel
 case h5=>rfl
 case h6=>rfl
 case h7=>rfl
 case hb1 =>
  intro s vs X h
  match vs,h with
  | [_,_],_=>exact BindsTo.of_eq rfl
  | [],h=>simp at h
  | [_],h=>simp at h
  | _ :: _ :: _ :: _,h=>simp at h
 case hF =>
  intro as b μ μ' e
  match as,e with
  | [_,_],e=>exact ⟨rfl,e⟩
  | [],e=>cases e
  | [_],e=>cases e
  | _ :: _ :: _ :: _,e=>cases e
 case hb2 =>
  intro as h
  match as,h with
  | [v0,v1],_ =>
   show RS g false 6 _ [some v0,some v1,none,none,none,none] _ _ _ (f_Counter_settle_b cv v0 v1)
   unfold f_Counter_settle_b
   walk_at "m-rs"
  | [],h=>simp at h
  | [_],h=>simp at h
  | _ :: _ :: _ :: _,h=>simp at h
theorem M_Counter_settle (hK:g.K=KK g.w.params):MethIs g .counter "settle" 314:=⟨by rw [hK];kernel_rfl,by rw [hK];kernel_rfl,by rw [hK];kernel_rfl,by decide, .K (by rw [hK];kernel_rfl)⟩
theorem C_Counter_settle (hf:Facts g) (hK:g.K=KK g.w.params) {cv:CV} (hdd:DD g cv) {fr:Bool} {d:Nat} {sc:Scope} {Γ:Cx0} {es:List PySem.Expr} {m0:M AV} {mo:M AV} {o:PySem.Expr} {ap pos:Pos} (hd:7≤d) (ho:RE g fr d sc Γ o mo) (ha:REs g fr d sc Γ es [m0]) (he:MethEval o "settle" ap pos es):RE g fr d sc Γ (.Call (.Attribute o (Str.ofString "settle") ap) es [] pos) (bd mo λ v0=>bd (chk v0 .counter) λ _=>bd m0 λ v1=>f_Counter_settle cv v0 v1):=by
 have h:=RE_meth (M_Counter_settle hK) (S_Counter_settle hf hK hdd) hd ho ha he
 simp only [evs1] at h
 exact h
local macro_rules | `(tactic| walk_at "m-re")=> `(tactic| ((with_reducible refine C_Counter_settle (by assumption) (by assumption) (by assumption) ?_ ?_ ?_ ?_);(focus decide);(focus walk_at "m-re");(focus walk_at "m-res");(focus intro _;exact ⟨_,rfl⟩)))
def FF_law_degrees:List AV→M AV:=λ as=>match as with | [v0,v1]=>f_law_degrees v0 v1 | _=>fl
def MB_law_degrees:List AV→M (Fl Unit):=λ as=>match as with | [v0,v1]=>f_law_degrees_b v0 v1 | _=>fl
theorem S_law_degrees (hf:Facts g) (hK:g.K=KK g.w.params):Fn g 1 (.ref 376) FF_law_degrees:=by
 refine' Fn_def (d:=0) (f:=376) hf ?ho ?hcd [] [] 2 MB_law_degrees ?hdv ?hb1 ?h1 ?h2 ?h3 ?h4 ?h5 ?h6 ?h7 ?hb2 ?hF
 case ho=>rw [hK];rfl
 case hcd=>rw [hK];kernel_rfl
 case hdv=>exact λ _ _=> .nil
 case h1=>rfl
 case h2=>decide
 case h3=>decide +kernel
 case h4=>decide +kernel
 case h5=>rfl
 case h6=>rfl
 case h7=>rfl
 case hb1 =>
  intro s vs X h
  match vs,h with
  | [_,_],_=>exact BindsTo.of_eq rfl
  | [],h=>simp at h
  | [_],h=>simp at h
  | _ :: _ :: _ :: _,h=>simp at h
 case hF =>
  intro as b μ μ' e
  match as,e with
  | [_,_],e=>exact ⟨rfl,e⟩
  | [],e=>cases e
  | [_],e=>cases e
  | _ :: _ :: _ :: _,e=>cases e
 case hb2 =>
  intro as h
  match as,h with
  | [v0,v1],_ =>
   show RS g false 0 _ [some v0,some v1,none,none,none,none,none,none,none,none] _ _ _ (f_law_degrees_b v0 v1)
   unfold f_law_degrees_b
   walk_at "m-rs"
  | [],h=>simp at h
  | [_],h=>simp at h
  | _ :: _ :: _ :: _,h=>simp at h
theorem C_law_degrees (hf:Facts g) (hK:g.K=KK g.w.params) {fr:Bool} {d:Nat} {sc:Scope} {Γ:Cx0} {es:List PySem.Expr} {m0 m1:M AV} {p pos:Pos} (hd:1≤d) (hk:sc.names.lookup (Str.ofString "_law_degrees")=some .globalImplicit) (ha:REs g fr d sc Γ es [m0,m1]):RE g fr d sc Γ (.Call (.Name (Str.ofString "_law_degrees") p) es [] pos) (bd m0 λ v0=>bd m1 λ v1=>f_law_degrees v0 v1):=by
 have h:=RE_callN (p:=p) (pos:=pos) (N_law_degrees hK hk) (.K (by rw [hK];kernel_rfl)) (S_law_degrees hf hK) hd ha
 rw [evs2] at h
 exact h
local macro_rules | `(tactic| walk_at "m-re")=> `(tactic| ((with_reducible refine C_law_degrees (by assumption) (by assumption) ?_ ?_ ?_);(focus decide);(focus kernel_rfl);(focus walk_at "m-res")))
def FF_law_settled:List AV→M AV:=λ as=>match as with | [v0,v1,v2,v3]=>f_law_settled v0 v1 v2 v3 | _=>fl
def MB_law_settled:List AV→M (Fl Unit):=λ as=>match as with | [v0,v1,v2,v3]=>f_law_settled_b v0 v1 v2 v3 | _=>fl
theorem S_law_settled (hf:Facts g) (hK:g.K=KK g.w.params):Fn g 2 (.ref 381) FF_law_settled:=by
 refine' Fn_def (d:=1) (f:=381) hf ?ho ?hcd [] [] 4 MB_law_settled ?hdv ?hb1 ?h1 ?h2 ?h3 ?h4 ?h5 ?h6 ?h7 ?hb2 ?hF
 case ho=>rw [hK];rfl
 case hcd=>rw [hK];kernel_rfl
 case hdv=>exact λ _ _=> .nil
 case h1=>rfl
 case h2=>decide
 case h3=>decide +kernel
 case h4=>decide +kernel
 case h5=>rfl
 case h6=>rfl
 case h7=>rfl
 case hb1 =>
  intro s vs X h
  match vs,h with
  | [_,_,_,_],_=>exact BindsTo.of_eq rfl
  | [],h=>simp at h
  | [_],h=>simp at h
  | [_,_],h=>simp at h
  | [_,_,_],h=>simp at h
  | _ :: _ :: _ :: _ :: _ :: _,h=>simp at h
 case hF =>
  intro as b μ μ' e
  match as,e with
  | [_,_,_,_],e=>exact ⟨rfl,e⟩
  | [],e=>cases e
  | [_],e=>cases e
  | [_,_],e=>cases e
  | [_,_,_],e=>cases e
  | _ :: _ :: _ :: _ :: _ :: _,e=>cases e
 case hb2 =>
  intro as h
  match as,h with
  | [v0,v1,v2,v3],_ =>
   show RS g false 1 _ [some v0,some v1,some v2,some v3,none,none,none,none,none,none] _ _ _ (f_law_settled_b v0 v1 v2 v3)
   unfold f_law_settled_b
   walk_at "m-rs"
  | [],h=>simp at h
  | [_],h=>simp at h
  | [_,_],h=>simp at h
  | [_,_,_],h=>simp at h
  | _ :: _ :: _ :: _ :: _ :: _,h=>simp at h
theorem C_law_settled (hf:Facts g) (hK:g.K=KK g.w.params) {fr:Bool} {d:Nat} {sc:Scope} {Γ:Cx0} {es:List PySem.Expr} {m0 m1 m2 m3:M AV} {p pos:Pos} (hd:2≤d) (hk:sc.names.lookup (Str.ofString "_law_settled")=some .globalImplicit) (ha:REs g fr d sc Γ es [m0,m1,m2,m3]):RE g fr d sc Γ (.Call (.Name (Str.ofString "_law_settled") p) es [] pos) (bd m0 λ v0=>bd m1 λ v1=>bd m2 λ v2=>bd m3 λ v3=>f_law_settled v0 v1 v2 v3):=by
 have h:=RE_callN (p:=p) (pos:=pos) (N_law_settled hK hk) (.K (by rw [hK];kernel_rfl)) (S_law_settled hf hK) hd ha
 rw [evs4] at h
 exact h
local macro_rules | `(tactic| walk_at "m-re")=> `(tactic| ((with_reducible refine C_law_settled (by assumption) (by assumption) ?_ ?_ ?_);(focus decide);(focus kernel_rfl);(focus walk_at "m-res")))
def FF_law_value:List AV→M AV:=λ as=>match as with | [v0]=>f_law_value v0 | _=>fl
def MB_law_value:List AV→M (Fl Unit):=λ as=>match as with | [v0]=>f_law_value_b v0 | _=>fl
theorem S_law_value (hf:Facts g) (hK:g.K=KK g.w.params):Fn g 1 (.ref 388) FF_law_value:=by
 refine' Fn_def (d:=0) (f:=388) hf ?ho ?hcd [] [] 1 MB_law_value ?hdv ?hb1 ?h1 ?h2 ?h3 ?h4 ?h5 ?h6 ?h7 ?hb2 ?hF
 case ho=>rw [hK];rfl
 case hcd=>rw [hK];kernel_rfl
 case hdv=>exact λ _ _=> .nil
 case h1=>rfl
 case h2=>decide
 case h3=>decide +kernel
 case h4=>decide +kernel
 case h5=>rfl
 case h6=>rfl
 case h7=>rfl
 case hb1 =>
  intro s vs X h
  match vs,h with
  | [_],_=>exact BindsTo.of_eq rfl
  | [],h=>simp at h
  | _ :: _ :: _,h=>simp at h
 case hF =>
  intro as b μ μ' e
  match as,e with
  | [_],e=>exact ⟨rfl,e⟩
  | [],e=>cases e
  | _ :: _ :: _,e=>cases e
 case hb2 =>
  intro as h
  match as,h with
  | [v0],_ =>
   show RS g false 0 _ [some v0,none,none] _ _ _ (f_law_value_b v0)
   unfold f_law_value_b
   walk_at "m-rs"
  | [],h=>simp at h
  | _ :: _ :: _,h=>simp at h
theorem C_law_value (hf:Facts g) (hK:g.K=KK g.w.params) {fr:Bool} {d:Nat} {sc:Scope} {Γ:Cx0} {es:List PySem.Expr} {m0:M AV} {p pos:Pos} (hd:1≤d) (hk:sc.names.lookup (Str.ofString "_law_value")=some .globalImplicit) (ha:REs g fr d sc Γ es [m0]):RE g fr d sc Γ (.Call (.Name (Str.ofString "_law_value") p) es [] pos) (bd m0 λ v0=>f_law_value v0):=by
 have h:=RE_callN (p:=p) (pos:=pos) (N_law_value hK hk) (.K (by rw [hK];kernel_rfl)) (S_law_value hf hK) hd ha
 rw [evs1] at h
 exact h
local macro_rules | `(tactic| walk_at "m-re")=> `(tactic| ((with_reducible refine C_law_value (by assumption) (by assumption) ?_ ?_ ?_);(focus decide);(focus kernel_rfl);(focus walk_at "m-res")))
def FF_law_same:List AV→M AV:=λ as=>match as with | [v0,v1,v2]=>f_law_same v0 v1 v2 | _=>fl
def MB_law_same:List AV→M (Fl Unit):=λ as=>match as with | [v0,v1,v2]=>f_law_same_b v0 v1 v2 | _=>fl
theorem S_law_same (hf:Facts g) (hK:g.K=KK g.w.params):Fn g 2 (.ref 393) FF_law_same:=by
 refine' Fn_def (d:=1) (f:=393) hf ?ho ?hcd [] [] 3 MB_law_same ?hdv ?hb1 ?h1 ?h2 ?h3 ?h4 ?h5 ?h6 ?h7 ?hb2 ?hF
 case ho=>rw [hK];rfl
 case hcd=>rw [hK];kernel_rfl
 case hdv=>exact λ _ _=> .nil
 case h1=>rfl
 case h2=>decide
 case h3=>decide +kernel
 case h4=>decide +kernel
 case h5=>rfl
 case h6=>rfl
 case h7=>rfl
 case hb1 =>
  intro s vs X h
  match vs,h with
  | [_,_,_],_=>exact BindsTo.of_eq rfl
  | [],h=>simp at h
  | [_],h=>simp at h
  | [_,_],h=>simp at h
  | _ :: _ :: _ :: _ :: _,h=>simp at h
 case hF =>
  intro as b μ μ' e
  match as,e with
  | [_,_,_],e=>exact ⟨rfl,e⟩
  | [],e=>cases e
  | [_],e=>cases e
  | [_,_],e=>cases e
  | _ :: _ :: _ :: _ :: _,e=>cases e
 case hb2 =>
  intro as h
  match as,h with
  | [v0,v1,v2],_ =>
   show RS g false 1 _ [some v0,some v1,some v2,none,none,none,none,none,none,none] _ _ _ (f_law_same_b v0 v1 v2)
   unfold f_law_same_b
   walk_at "m-rs"
  | [],h=>simp at h
  | [_],h=>simp at h
  | [_,_],h=>simp at h
  | _ :: _ :: _ :: _ :: _,h=>simp at h
theorem C_law_same (hf:Facts g) (hK:g.K=KK g.w.params) {fr:Bool} {d:Nat} {sc:Scope} {Γ:Cx0} {es:List PySem.Expr} {m0 m1 m2:M AV} {p pos:Pos} (hd:2≤d) (hk:sc.names.lookup (Str.ofString "_law_same")=some .globalImplicit) (ha:REs g fr d sc Γ es [m0,m1,m2]):RE g fr d sc Γ (.Call (.Name (Str.ofString "_law_same") p) es [] pos) (bd m0 λ v0=>bd m1 λ v1=>bd m2 λ v2=>f_law_same v0 v1 v2):=by
 have h:=RE_callN (p:=p) (pos:=pos) (N_law_same hK hk) (.K (by rw [hK];kernel_rfl)) (S_law_same hf hK) hd ha
 rw [evs3] at h
 exact h
local macro_rules | `(tactic| walk_at "m-re")=> `(tactic| ((with_reducible refine C_law_same (by assumption) (by assumption) ?_ ?_ ?_);(focus decide);(focus kernel_rfl);(focus walk_at "m-res")))
def FF_law_place:List AV→M AV:=λ as=>match as with | [v0,v1,v2]=>f_law_place v0 v1 v2 | _=>fl
def MB_law_place:List AV→M (Fl Unit):=λ as=>match as with | [v0,v1,v2]=>f_law_place_b v0 v1 v2 | _=>fl
theorem S_law_place (hf:Facts g) (hK:g.K=KK g.w.params):Fn g 1 (.ref 400) FF_law_place:=by
 refine' Fn_def (d:=0) (f:=400) hf ?ho ?hcd [] [] 3 MB_law_place ?hdv ?hb1 ?h1 ?h2 ?h3 ?h4 ?h5 ?h6 ?h7 ?hb2 ?hF
 case ho=>rw [hK];rfl
 case hcd=>rw [hK];kernel_rfl
 case hdv=>exact λ _ _=> .nil
 case h1=>rfl
 case h2=>decide
 case h3=>decide +kernel
 case h4=>decide +kernel
 case h5=>rfl
 case h6=>rfl
 case h7=>rfl
 case hb1 =>
  intro s vs X h
  match vs,h with
  | [_,_,_],_=>exact BindsTo.of_eq rfl
  | [],h=>simp at h
  | [_],h=>simp at h
  | [_,_],h=>simp at h
  | _ :: _ :: _ :: _ :: _,h=>simp at h
 case hF =>
  intro as b μ μ' e
  match as,e with
  | [_,_,_],e=>exact ⟨rfl,e⟩
  | [],e=>cases e
  | [_],e=>cases e
  | [_,_],e=>cases e
  | _ :: _ :: _ :: _ :: _,e=>cases e
 case hb2 =>
  intro as h
  match as,h with
  | [v0,v1,v2],_ =>
   show RS g false 0 _ [some v0,some v1,some v2,none,none,none,none,none,none,none,none] _ _ _ (f_law_place_b v0 v1 v2)
   unfold f_law_place_b
   walk_at "m-rs"
  | [],h=>simp at h
  | [_],h=>simp at h
  | [_,_],h=>simp at h
  | _ :: _ :: _ :: _ :: _,h=>simp at h
theorem C_law_place (hf:Facts g) (hK:g.K=KK g.w.params) {fr:Bool} {d:Nat} {sc:Scope} {Γ:Cx0} {es:List PySem.Expr} {m0 m1 m2:M AV} {p pos:Pos} (hd:1≤d) (hk:sc.names.lookup (Str.ofString "_law_place")=some .globalImplicit) (ha:REs g fr d sc Γ es [m0,m1,m2]):RE g fr d sc Γ (.Call (.Name (Str.ofString "_law_place") p) es [] pos) (bd m0 λ v0=>bd m1 λ v1=>bd m2 λ v2=>f_law_place v0 v1 v2):=by
 have h:=RE_callN (p:=p) (pos:=pos) (N_law_place hK hk) (.K (by rw [hK];kernel_rfl)) (S_law_place hf hK) hd ha
 rw [evs3] at h
 exact h
local macro_rules | `(tactic| walk_at "m-re")=> `(tactic| ((with_reducible refine C_law_place (by assumption) (by assumption) ?_ ?_ ?_);(focus decide);(focus kernel_rfl);(focus walk_at "m-res")))
def FF_law_strong:List AV→M AV:=λ as=>match as with | [v0]=>f_law_strong v0 | _=>fl
def MB_law_strong:List AV→M (Fl Unit):=λ as=>match as with | [v0]=>f_law_strong_b v0 | _=>fl
theorem S_law_strong (hf:Facts g) (hK:g.K=KK g.w.params):Fn g 1 (.ref 407) FF_law_strong:=by
 refine' Fn_def (d:=0) (f:=407) hf ?ho ?hcd [] [] 1 MB_law_strong ?hdv ?hb1 ?h1 ?h2 ?h3 ?h4 ?h5 ?h6 ?h7 ?hb2 ?hF
 case ho=>rw [hK];rfl
 case hcd=>rw [hK];kernel_rfl
 case hdv=>exact λ _ _=> .nil
 case h1=>rfl
 case h2=>decide
 case h3=>decide +kernel
 case h4=>decide +kernel
 case h5=>rfl
 case h6=>rfl
 case h7=>rfl
 case hb1 =>
  intro s vs X h
  match vs,h with
  | [_],_=>exact BindsTo.of_eq rfl
  | [],h=>simp at h
  | _ :: _ :: _,h=>simp at h
 case hF =>
  intro as b μ μ' e
  match as,e with
  | [_],e=>exact ⟨rfl,e⟩
  | [],e=>cases e
  | _ :: _ :: _,e=>cases e
 case hb2 =>
  intro as h
  match as,h with
  | [v0],_ =>
   show RS g false 0 _ [some v0,none,none] _ _ _ (f_law_strong_b v0)
   unfold f_law_strong_b
   walk_at "m-rs"
  | [],h=>simp at h
  | _ :: _ :: _,h=>simp at h
theorem C_law_strong (hf:Facts g) (hK:g.K=KK g.w.params) {fr:Bool} {d:Nat} {sc:Scope} {Γ:Cx0} {es:List PySem.Expr} {m0:M AV} {p pos:Pos} (hd:1≤d) (hk:sc.names.lookup (Str.ofString "_law_strong")=some .globalImplicit) (ha:REs g fr d sc Γ es [m0]):RE g fr d sc Γ (.Call (.Name (Str.ofString "_law_strong") p) es [] pos) (bd m0 λ v0=>f_law_strong v0):=by
 have h:=RE_callN (p:=p) (pos:=pos) (N_law_strong hK hk) (.K (by rw [hK];kernel_rfl)) (S_law_strong hf hK) hd ha
 rw [evs1] at h
 exact h
local macro_rules | `(tactic| walk_at "m-re")=> `(tactic| ((with_reducible refine C_law_strong (by assumption) (by assumption) ?_ ?_ ?_);(focus decide);(focus kernel_rfl);(focus walk_at "m-res")))
def FF_law_new:List AV→M AV:=λ as=>match as with | [v0,v1,v2,v3,v4,v5]=>f_law_new v0 v1 v2 v3 v4 v5 | _=>fl
def MB_law_new:List AV→M (Fl Unit):=λ as=>match as with | [v0,v1,v2,v3,v4,v5]=>f_law_new_b v0 v1 v2 v3 v4 v5 | _=>fl
theorem S_law_new (hf:Facts g) (hK:g.K=KK g.w.params):Fn g 5 (.ref 414) FF_law_new:=by
 refine' Fn_def (d:=4) (f:=414) hf ?ho ?hcd [] [] 6 MB_law_new ?hdv ?hb1 ?h1 ?h2 ?h3 ?h4 ?h5 ?h6 ?h7 ?hb2 ?hF
 case ho=>rw [hK];rfl
 case hcd=>rw [hK];kernel_rfl
 case hdv=>exact λ _ _=> .nil
 case h1=>rfl
 case h2=>decide
 case h3=>decide +kernel
 case h4=>decide +kernel
 case h5=>rfl
 case h6=>rfl
 case h7=>rfl
 case hb1 =>
  intro s vs X h
  match vs,h with
  | [_,_,_,_,_,_],_=>exact BindsTo.of_eq rfl
  | [],h=>simp at h
  | [_],h=>simp at h
  | [_,_],h=>simp at h
  | [_,_,_],h=>simp at h
  | [_,_,_,_],h=>simp at h
  | [_,_,_,_,_],h=>simp at h
  | _ :: _ :: _ :: _ :: _ :: _ :: _ :: _,h=>simp at h
 case hF =>
  intro as b μ μ' e
  match as,e with
  | [_,_,_,_,_,_],e=>exact ⟨rfl,e⟩
  | [],e=>cases e
  | [_],e=>cases e
  | [_,_],e=>cases e
  | [_,_,_],e=>cases e
  | [_,_,_,_],e=>cases e
  | [_,_,_,_,_],e=>cases e
  | _ :: _ :: _ :: _ :: _ :: _ :: _ :: _,e=>cases e
 case hb2 =>
  intro as h
  match as,h with
  | [v0,v1,v2,v3,v4,v5],_ =>
   show RS g false 4 _ [some v0,some v1,some v2,some v3,some v4,some v5,none,none,none,none] _ _ _ (f_law_new_b v0 v1 v2 v3 v4 v5)
   unfold f_law_new_b
   walk_at "m-rs"
  | [],h=>simp at h
  | [_],h=>simp at h
  | [_,_],h=>simp at h
  | [_,_,_],h=>simp at h
  | [_,_,_,_],h=>simp at h
  | [_,_,_,_,_],h=>simp at h
  | _ :: _ :: _ :: _ :: _ :: _ :: _ :: _,h=>simp at h
theorem C_law_new (hf:Facts g) (hK:g.K=KK g.w.params) {fr:Bool} {d:Nat} {sc:Scope} {Γ:Cx0} {es:List PySem.Expr} {m0 m1 m2 m3 m4 m5:M AV} {p pos:Pos} (hd:5≤d) (hk:sc.names.lookup (Str.ofString "_law_new")=some .globalImplicit) (ha:REs g fr d sc Γ es [m0,m1,m2,m3,m4,m5]):RE g fr d sc Γ (.Call (.Name (Str.ofString "_law_new") p) es [] pos) (bd m0 λ v0=>bd m1 λ v1=>bd m2 λ v2=>bd m3 λ v3=>bd m4 λ v4=>bd m5 λ v5=>f_law_new v0 v1 v2 v3 v4 v5):=by
 have h:=RE_callN (p:=p) (pos:=pos) (N_law_new hK hk) (.K (by rw [hK];kernel_rfl)) (S_law_new hf hK) hd ha
 rw [evs6] at h
 exact h
local macro_rules | `(tactic| walk_at "m-re")=> `(tactic| ((with_reducible refine C_law_new (by assumption) (by assumption) ?_ ?_ ?_);(focus decide);(focus kernel_rfl);(focus walk_at "m-res")))
def FF_law_put:List AV→M AV:=λ as=>match as with | [v0,v1,v2,v3,v4,v5]=>f_law_put v0 v1 v2 v3 v4 v5 | _=>fl
def MB_law_put:List AV→M (Fl Unit):=λ as=>match as with | [v0,v1,v2,v3,v4,v5]=>f_law_put_b v0 v1 v2 v3 v4 v5 | _=>fl
theorem S_law_put (hf:Facts g) (hK:g.K=KK g.w.params):Fn g 6 (.ref 419) FF_law_put:=by
 refine' Fn_def (d:=5) (f:=419) hf ?ho ?hcd [] [] 6 MB_law_put ?hdv ?hb1 ?h1 ?h2 ?h3 ?h4 ?h5 ?h6 ?h7 ?hb2 ?hF
 case ho=>rw [hK];rfl
 case hcd=>rw [hK];kernel_rfl
 case hdv=>exact λ _ _=> .nil
 case h1=>rfl
 case h2=>decide
 case h3=>decide +kernel
 case h4=>decide +kernel
 case h5=>rfl
 case h6=>rfl
 case h7=>rfl
 case hb1 =>
  intro s vs X h
  match vs,h with
  | [_,_,_,_,_,_],_=>exact BindsTo.of_eq rfl
  | [],h=>simp at h
  | [_],h=>simp at h
  | [_,_],h=>simp at h
  | [_,_,_],h=>simp at h
  | [_,_,_,_],h=>simp at h
  | [_,_,_,_,_],h=>simp at h
  | _ :: _ :: _ :: _ :: _ :: _ :: _ :: _,h=>simp at h
 case hF =>
  intro as b μ μ' e
  match as,e with
  | [_,_,_,_,_,_],e=>exact ⟨rfl,e⟩
  | [],e=>cases e
  | [_],e=>cases e
  | [_,_],e=>cases e
  | [_,_,_],e=>cases e
  | [_,_,_,_],e=>cases e
  | [_,_,_,_,_],e=>cases e
  | _ :: _ :: _ :: _ :: _ :: _ :: _ :: _,e=>cases e
 case hb2 =>
  intro as h
  match as,h with
  | [v0,v1,v2,v3,v4,v5],_ =>
   show RS g false 5 _ [some v0,some v1,some v2,some v3,some v4,some v5,none,none,none,none,none,none,none,none,none,none] _ _ _ (f_law_put_b v0 v1 v2 v3 v4 v5)
   unfold f_law_put_b
   walk_at "m-rs"
  | [],h=>simp at h
  | [_],h=>simp at h
  | [_,_],h=>simp at h
  | [_,_,_],h=>simp at h
  | [_,_,_,_],h=>simp at h
  | [_,_,_,_,_],h=>simp at h
  | _ :: _ :: _ :: _ :: _ :: _ :: _ :: _,h=>simp at h
theorem C_law_put (hf:Facts g) (hK:g.K=KK g.w.params) {fr:Bool} {d:Nat} {sc:Scope} {Γ:Cx0} {es:List PySem.Expr} {m0 m1 m2 m3 m4 m5:M AV} {p pos:Pos} (hd:6≤d) (hk:sc.names.lookup (Str.ofString "_law_put")=some .globalImplicit) (ha:REs g fr d sc Γ es [m0,m1,m2,m3,m4,m5]):RE g fr d sc Γ (.Call (.Name (Str.ofString "_law_put") p) es [] pos) (bd m0 λ v0=>bd m1 λ v1=>bd m2 λ v2=>bd m3 λ v3=>bd m4 λ v4=>bd m5 λ v5=>f_law_put v0 v1 v2 v3 v4 v5):=by
 have h:=RE_callN (p:=p) (pos:=pos) (N_law_put hK hk) (.K (by rw [hK];kernel_rfl)) (S_law_put hf hK) hd ha
 rw [evs6] at h
 exact h
local macro_rules | `(tactic| walk_at "m-re")=> `(tactic| ((with_reducible refine C_law_put (by assumption) (by assumption) ?_ ?_ ?_);(focus decide);(focus kernel_rfl);(focus walk_at "m-res")))
def FF_law_taken:List AV→M AV:=λ as=>match as with | [v0,v1,v2,v3]=>f_law_taken v0 v1 v2 v3 | _=>fl
def MB_law_taken:List AV→M (Fl Unit):=λ as=>match as with | [v0,v1,v2,v3]=>f_law_taken_b v0 v1 v2 v3 | _=>fl
theorem S_law_taken (hf:Facts g) (hK:g.K=KK g.w.params):Fn g 3 (.ref 426) FF_law_taken:=by
 refine' Fn_def (d:=2) (f:=426) hf ?ho ?hcd [] [] 4 MB_law_taken ?hdv ?hb1 ?h1 ?h2 ?h3 ?h4 ?h5 ?h6 ?h7 ?hb2 ?hF
 case ho=>rw [hK];rfl
 case hcd=>rw [hK];kernel_rfl
 case hdv=>exact λ _ _=> .nil
 case h1=>rfl
 case h2=>decide
 case h3=>decide +kernel
 case h4=>decide +kernel
 case h5=>rfl
 case h6=>rfl
 case h7=>rfl
 case hb1 =>
  intro s vs X h
  match vs,h with
  | [_,_,_,_],_=>exact BindsTo.of_eq rfl
  | [],h=>simp at h
  | [_],h=>simp at h
  | [_,_],h=>simp at h
  | [_,_,_],h=>simp at h
  | _ :: _ :: _ :: _ :: _ :: _,h=>simp at h
 case hF =>
  intro as b μ μ' e
  match as,e with
  | [_,_,_,_],e=>exact ⟨rfl,e⟩
  | [],e=>cases e
  | [_],e=>cases e
  | [_,_],e=>cases e
  | [_,_,_],e=>cases e
  | _ :: _ :: _ :: _ :: _ :: _,e=>cases e
 case hb2 =>
  intro as h
  match as,h with
  | [v0,v1,v2,v3],_ =>
   show RS g false 2 _ [some v0,some v1,some v2,some v3,none,none,none,none,none,none] _ _ _ (f_law_taken_b v0 v1 v2 v3)
   unfold f_law_taken_b
   walk_at "m-rs"
  | [],h=>simp at h
  | [_],h=>simp at h
  | [_,_],h=>simp at h
  | [_,_,_],h=>simp at h
  | _ :: _ :: _ :: _ :: _ :: _,h=>simp at h
theorem C_law_taken (hf:Facts g) (hK:g.K=KK g.w.params) {fr:Bool} {d:Nat} {sc:Scope} {Γ:Cx0} {es:List PySem.Expr} {m0 m1 m2 m3:M AV} {p pos:Pos} (hd:3≤d) (hk:sc.names.lookup (Str.ofString "_law_taken")=some .globalImplicit) (ha:REs g fr d sc Γ es [m0,m1,m2,m3]):RE g fr d sc Γ (.Call (.Name (Str.ofString "_law_taken") p) es [] pos) (bd m0 λ v0=>bd m1 λ v1=>bd m2 λ v2=>bd m3 λ v3=>f_law_taken v0 v1 v2 v3):=by
 have h:=RE_callN (p:=p) (pos:=pos) (N_law_taken hK hk) (.K (by rw [hK];kernel_rfl)) (S_law_taken hf hK) hd ha
 rw [evs4] at h
 exact h
local macro_rules | `(tactic| walk_at "m-re")=> `(tactic| ((with_reducible refine C_law_taken (by assumption) (by assumption) ?_ ?_ ?_);(focus decide);(focus kernel_rfl);(focus walk_at "m-res")))
def FF_law_deed:List AV→M AV:=λ as=>match as with | [v0,v1,v2,v3,v4]=>f_law_deed v0 v1 v2 v3 v4 | _=>fl
def MB_law_deed:List AV→M (Fl Unit):=λ as=>match as with | [v0,v1,v2,v3,v4]=>f_law_deed_b v0 v1 v2 v3 v4 | _=>fl
theorem S_law_deed (hf:Facts g) (hK:g.K=KK g.w.params):Fn g 7 (.ref 433) FF_law_deed:=by
 refine' Fn_def (d:=6) (f:=433) hf ?ho ?hcd [] [] 5 MB_law_deed ?hdv ?hb1 ?h1 ?h2 ?h3 ?h4 ?h5 ?h6 ?h7 ?hb2 ?hF
 case ho=>rw [hK];rfl
 case hcd=>rw [hK];kernel_rfl
 case hdv=>exact λ _ _=> .nil
 case h1=>rfl
 case h2=>decide
 case h3=>decide +kernel
 case h4=>decide +kernel
 case h5=>rfl
 case h6=>rfl
 case h7=>rfl
 case hb1 =>
  intro s vs X h
  match vs,h with
  | [_,_,_,_,_],_=>exact BindsTo.of_eq rfl
  | [],h=>simp at h
  | [_],h=>simp at h
  | [_,_],h=>simp at h
  | [_,_,_],h=>simp at h
  | [_,_,_,_],h=>simp at h
  | _ :: _ :: _ :: _ :: _ :: _ :: _,h=>simp at h
 case hF =>
  intro as b μ μ' e
  match as,e with
  | [_,_,_,_,_],e=>exact ⟨rfl,e⟩
  | [],e=>cases e
  | [_],e=>cases e
  | [_,_],e=>cases e
  | [_,_,_],e=>cases e
  | [_,_,_,_],e=>cases e
  | _ :: _ :: _ :: _ :: _ :: _ :: _,e=>cases e
 case hb2 =>
  intro as h
  match as,h with
  | [v0,v1,v2,v3,v4],_ =>
   show RS g false 6 _ [some v0,some v1,some v2,some v3,some v4,none,none,none,none,none,none,none,none,none,none,none,none,none] _ _ _ (f_law_deed_b v0 v1 v2 v3 v4)
   unfold f_law_deed_b
   walk_at "m-rs"
  | [],h=>simp at h
  | [_],h=>simp at h
  | [_,_],h=>simp at h
  | [_,_,_],h=>simp at h
  | [_,_,_,_],h=>simp at h
  | _ :: _ :: _ :: _ :: _ :: _ :: _,h=>simp at h
theorem C_law_deed (hf:Facts g) (hK:g.K=KK g.w.params) {fr:Bool} {d:Nat} {sc:Scope} {Γ:Cx0} {es:List PySem.Expr} {m0 m1 m2 m3 m4:M AV} {p pos:Pos} (hd:7≤d) (hk:sc.names.lookup (Str.ofString "_law_deed")=some .globalImplicit) (ha:REs g fr d sc Γ es [m0,m1,m2,m3,m4]):RE g fr d sc Γ (.Call (.Name (Str.ofString "_law_deed") p) es [] pos) (bd m0 λ v0=>bd m1 λ v1=>bd m2 λ v2=>bd m3 λ v3=>bd m4 λ v4=>f_law_deed v0 v1 v2 v3 v4):=by
 have h:=RE_callN (p:=p) (pos:=pos) (N_law_deed hK hk) (.K (by rw [hK];kernel_rfl)) (S_law_deed hf hK) hd ha
 rw [evs5] at h
 exact h
local macro_rules | `(tactic| walk_at "m-re")=> `(tactic| ((with_reducible refine C_law_deed (by assumption) (by assumption) ?_ ?_ ?_);(focus decide);(focus kernel_rfl);(focus walk_at "m-res")))
local macro_rules | `(tactic| walk_at "m-rs")=> `(tactic| ((with_reducible refine' RS_tup6 (ms:=[]) ?h ?hn1 ?hn2 ?hn3 ?hn4 ?hn5 ?hn6 ?hk ?hs ?hw);(case h=>walk_at "m-res");(case hn1=>walk_at "m-st");(case hn2=>walk_at "m-st");(case hn3=>walk_at "m-st");(case hn4=>walk_at "m-st");(case hn5=>walk_at "m-st");(case hn6=>walk_at "m-st");(case hs=>(intro _;rfl));(case hw=>(intro _;rfl));(case hk=>(intro _ _ _ _ _ _;walk_at "m-rs"))))
def lawGa:Cx0:=[some .dstr,none,none,none,none,none,none,none,none,none,none,none,none,none,none,none,none,none,none,none,none,none,none]
def lawG0 (v:AV):Cx0:=[some v,none,none,none,none,none,none,none,none,none,none,none,none,none,none,none,none,none,none,none,none,none,none]
def lawG1 (r:LT):Cx0:=[some r.script,none,some r.heap,some r.log,some r.world,none,none,none,none,none,some r.cv.box,some r.cv.heard,some r.cv.real,some r.cv.rescue,some r.cv.roots,none,none,none,none,none,none,none,none]
def lawG2 (r:LT):Cx0:=[some r.script,none,some r.heap,some r.log,some r.world,some .dstr,none,none,none,none,some r.cv.box,some r.cv.heard,some r.cv.real,some r.cv.rescue,some r.cv.roots,none,none,none,none,none,none,none,none]
def cvL (cv:CV):List AV:=[cv.box,cv.heard,cv.real,cv.rescue,cv.roots]
def SrcOk (g:Gd) (xs:List AV):Prop:=xs.length≤big∧ ∀ need fact fd,g.co need fact fd→ ∃ a o vs n,fd=some a∧(a,o)∈need∧o.cls= .type "list" ∧o.data= .seq (List.toArray vs) n∧ ∀ fd adr,F2 (VR fd adr) vs xs
theorem RE_src {fr:Bool} {d:Nat} {sc:Scope} {Γ:Cx0} {xs:List AV} {a:PySem.Expr} {k:Nat} {cp p q:Pos} (h:SrcOk g xs) (ha:RE g fr d sc Γ a (rt .dstr)) :
  RE g fr d sc Γ (.Subscript a (.Slice none (some (.Constant (.int 24) k cp)) none p) q) (al (.list (xs.take 24))):=by
 intro x hx hsc hfr μ adr s S c μ' e
 obtain ⟨rfl,rfl⟩:=al_inv e
 refine Subscript_ (wpAny_mono (ha x hx hsc hfr μ adr s S .dstr μ rfl) (λ vo s₁ z=> ?_) λ _ _ z=>z)
 obtain ⟨adr₁,p1,S1,r1⟩:=z
 refine wpAny_Slice (wpAny_pure (wpAny_mono (RE_int (g:=g) (fr:=fr) (d:=d) (sc:=sc) (Γ:=Γ) (i:=24) (k:=k) (p:=cp) x hx hsc hfr μ adr₁ s₁ S1 (.int 24) μ rfl) (λ vk s₂ z=> ?_) λ _ _ z=>z))
 obtain ⟨adr₂,p2,S2,r2⟩:=z
 refine wpAny_pure ?_
 cases r2 with
 | int _ t =>
 cases r1 with
 | @dstr f hfd =>
 obtain ⟨f',o,vs,n,e1,e2,e3,e4,e5⟩:=h.2 _ _ _ hx.co
 have ef:f=f':=by rw [hfd] at e1;exact Option.some.inj e1
 rw [← ef] at e2
 obtain ⟨cs,pl,m,S2⟩:=S2
 have L1:s₂.heap.IsList f vs.toArray:=⟨o,need_get S2 e2,e3,n,e4⟩
 have hl:=(e5 none []).len
 refine tail_any (T:="list") (Heap.IsList.typeIs (s:= {s₂ with heap:=s₂.heap.push {cls:= .type "slice",data:= .fields #[.none, .int 24 t, .none]}}) (L1.push _)) list_getitem_lookup
  (wpAny_getItem_list_slice (lo:=none) (hi:=some 24) (L1.push _) (Heap.IsSliceOf.new ..) .none (.int _ _) .none (by simp) ?_ (by simp only [List.size_toArray];rw [hl,sizeLine_eq];have:=h.1;unfold big at this;omega)) rfl
 have N1:=News.push (S2.F.push {cls:= .type "slice",data:= .fields #[.none, .int 24 t, .none]}) (S2.N.grown λ _ _ e=>Heap.get?_push_of_some _ e) {cls:= .type "list",data:= .seq (slicePick vs.toArray none (some 24) none)}
 have hC: ∀ A:Addr,CR g x.fd (adr₂ ++ [A]) [(A, {cls:= .type "list",data:= .seq (slicePick vs.toArray none (some 24) none)})] (.list (xs.take 24)):=λ A=>by
  have e:(slicePick vs.toArray none (some 24) none)=(slicePick vs.toArray none (some 24) none).toList.toArray:=by simp
  rw [e]
  refine .list (n:=0) ?_ (by rw [List.length_take];have:=h.1;omega)
  rw [pick_upto _ _ (by decide)]
  exact (e5 _ _).take_ _
 obtain ⟨adr₃,p3,S3,r3⟩:=St.new1 hx S2 (s':= {s₂ with heap:=(s₂.heap.push {cls:= .type "slice",data:= .fields #[.none, .int 24 t, .none]}).push {cls:= .type "list",data:= .seq (slicePick vs.toArray none (some 24) none)}}) (hC _) ((S2.F.push _).push _) N1 (λ p hp=>by rw [Heap.size_push];exact Nat.lt_succ_of_lt (S2.lt p hp))
 exact ⟨adr₃,(p1.trans p2).trans p3,S3,r3⟩
local macro_rules | `(tactic| walk_at "m-re")=> `(tactic| (with_reducible refine RE_src (by assumption) ?_;(focus walk_at "m-re")))
def nsL:List Str:=[Str.ofString "box",Str.ofString "heard",Str.ofString "real",Str.ofString "rescue",Str.ofString "roots"]
structure LawFacts (scope:Scope) (dn:Str) (dparams:Arguments) (dbody:List Stmt) (dscope:Scope):Prop where
 n0:scope.names[0]? =some (Str.ofString "script", .local)
 nd:(scope.names.map (·.1)).Nodup
 kd:scope.kind= .function
 n5:scope.names[5]? =some (dn, .local)
 d0:dparams.defaults=[]
 k0:dparams.kw_defaults=[]
 an: ∀ env,annTrees dparams none env=[]
 dns:dscope.names=(Str.ofString "thing", .local) :: (nsL.map λ n=>(n, .free)) ++ [(Str.ofString "Ref", .globalImplicit)]
 dnd:(dscope.names.map (·.1)).Nodup
 dkd:dscope.kind= .function
 dco:dscope.isCoroutine=false
 dge:dscope.isGenerator=false
 bind: ∀ qual cl doc pm c' ctv v,bindArgs (fnX dn qual dparams dbody dscope cl .none .none doc pm none (.ref c') ctv) ⟨[v],[]⟩=pure [(Str.ofString "thing",v)]
 clo: ∀ L:Addr,∃ clos,(∀ env:Env,env.cells=cellsFrom (L+1) scope.names []→closureFor dscope env=pure clos)∧ ∀ i nm,nsL[i]? =some nm→ ∃ c,scope.names[10+i]? =some (nm, .cell)∧scope.names.lookup nm=some .cell∧clos.lookup nm=some c∧(cellsFrom (L+1) scope.names []).lookup nm=some c
theorem law_parts (P:Params): ∃ oc od osl name qual params dV kV doc pm an cdv ct s1 s2 s3 s4 dn dparams dbody dscope dpos rest scope,
  (KK P).lookup 438=some ⟨oc,od, .func (fnOf name qual params (s1 :: s2 :: s3 :: s4 :: .FunctionDef dn dparams dbody [] none [] dscope none dn dpos :: rest) scope dV kV doc pm an cdv ct),osl⟩ ∧
  LawFacts scope dn dparams dbody dscope∧ ∀ g:Gd,Facts g→g.K=KK g.w.params→(∀ xs,SrcOk g xs→RS g false 7 scope lawGa [] lawG0 [s1] (f_law0 xs))∧(∀ v,RS g false 7 scope (lawG0 v) [] lawG1 [s2,s3,s4] (f_law1 v))∧(∀ cv a,RS g false 4 dscope (some a :: (cvL cv).map some ++ List.replicate 1 none) [] (λ _=>[]) dbody (f_destroy_b cv a))∧(∀ r:LT,DD g r.cv→RS g true 7 scope (lawG2 r) [] (λ _=>[]) rest (f_law2 r)):=by
 refine' ⟨_,_,_,_,_,_,_,_,_,_,_,_,_,_,_,_,_,_,_,_,_,_,_,_,?h,?f,?k⟩
 case h=>rfl
 case f =>
  refine ⟨rfl,by decide +kernel,rfl,rfl,rfl,rfl,λ _=>rfl,rfl,by decide +kernel,rfl,rfl,rfl,λ _ _ _ _ _ _ _=>rfl,λ L=>⟨_,λ env h=>by cases env;cases h;rfl,λ i nm e=> ?_⟩⟩
  match i,e with
  | 0,e=>cases e;exact ⟨_,rfl,rfl,rfl,rfl⟩
  | 1,e=>cases e;exact ⟨_,rfl,rfl,rfl,rfl⟩
  | 2,e=>cases e;exact ⟨_,rfl,rfl,rfl,rfl⟩
  | 3,e=>cases e;exact ⟨_,rfl,rfl,rfl,rfl⟩
  | 4,e=>cases e;exact ⟨_,rfl,rfl,rfl,rfl⟩
  | i+5,e=>simp [nsL] at e
 case k =>
  intro g hf hK
  refine ⟨λ xs hsrc=> ?_,λ v=> ?_,λ cv a=> ?_,λ r hdd=> ?_⟩
  ·unfold lawGa lawG0 f_law0
   walk_at "m-rs"
  ·unfold lawG0 lawG1 f_law1
   walk_at "m-rs"
  ·unfold f_destroy_b cvL
   simp only [List.map_cons,List.map_nil,List.replicate,List.cons_append,List.nil_append]
   walk_at "m-rs"
  ·unfold lawG2 f_law2
   walk_at "m-rs"
end Mine
end
section
open PySem PySem.W PySem.Calls PyProof.Rows
namespace Mine
theorem execs_append_wp {M:Model} {A:Around} {env:Env} {Q:Flow→Shared→Prop} {E:Value→Shared→Prop} {rest:List Stmt} :
  ∀ (l:List Stmt) (s:Shared),wpAny M A (execs l env) (λ f s'=>match f with | .next=>wpAny M A (execs rest env) Q E s' | f=>Q f s') E s→wpAny M A (execs (l ++ rest) env) Q E s:=by
 intro l
 have key: ∀ (l:List Stmt) (Γ:Ctx) (hΓ:Γ.In A) (s:Shared) p,Sem.wp M Γ (execs l env) (λ f _ s'=>match f with | .next=>wpAny M A (execs rest env) Q E s' | f=>Q f s') (λ e _ s'=>E e s') p s→Sem.wp M Γ (execs (l ++ rest) env) (λ a _ s'=>Q a s') (λ e _ s'=>E e s') p s:=by
  intro l Γ hΓ
  induction l with
  | nil=>intro s p h;exact (show wpAny M A (execs rest env) Q E s from h) Γ p hΓ
  | cons st l ih =>
   intro s p h
   rw [execs_cons,Sem.wp_bind'] at h
   rw [List.cons_append,execs_cons,Sem.wp_bind']
   refine Sem.wp_mono M Γ _ (λ f p' s' h'=> ?_) (λ _ _ _ h'=>h') _ _ h
   cases f with
   | next=>exact ih s' p' h'
   | _=>exact h'
 exact λ s h Γ p hΓ=>key l Γ hΓ s p (h Γ p hΓ)
theorem VR.none_any {fd:Option Addr} {adr:List Addr} {v:Value} {a:AV} (h:VR Option.none adr v a):VR fd adr v a:=by
 cases h with
 | obj h=>exact .obj h
 | dstr h=>cases h
 | _=>constructor
theorem CR.none_any {g g₁:Gd} (e1:g₁.prog=g.prog) (e2:g₁.w=g.w) {fd:Option Addr} {adr:List Addr} {c:Led} {o:AO} (h:CR g Option.none adr c o):CR g₁ fd adr c o:=by
 cases h with
 | inst h1 h2 h3=>exact .inst (h1.mono λ _ _ h=>⟨h.1,h.2.none_any⟩) h2 h3
 | list h1 h2=>exact .list (h1.mono λ _ _ h=>h.none_any) h2
 | tup h1 h2=>exact .tup (h1.mono λ _ _ h=>h.none_any) h2
 | dI h1 h2 h3 h4=>exact .dI (by rw [e1,e2];exact h1) (h2.mono λ _ _ h=>⟨h.1,h.2.none_any⟩) h3 h4
 | dS h1 h2 h3 h4=>exact .dS (by rw [e1,e2];exact h1) (h2.mono λ _ _ h=>⟨h.1,h.2.none_any⟩) h3 h4
def withCo (g:Gd) (co:Led→(List Addr→Prop)→Option Addr→Prop):Gd:= {g with co:=co}
section
variable {g:Gd} {x:Cx} {Γ:Cx0} {d:Nat} {sc:Scope}
def Bears (x:Cx) (Γ:Cx0) (clos:List (Str × Addr)) (ns:List Str) (avs:List AV):Prop :=
 ∀ (i:Nat) (nm:Str) (av:AV),ns[i]? =some nm→avs[i]? =some av→ ∃ (j:Nat) (c:Addr),x.env.scope.names[j]? =some (nm,NameKind.cell)∧x.env.scope.names.lookup nm=some NameKind.cell∧Γ[j]? =some (some av)∧clos.lookup nm=some c∧x.env.cells.lookup nm=some c
theorem bears_get {clos:List (Str × Addr)} {ns:List Str} {avs:List AV} (B:Bears x Γ clos ns avs) {μ:Mem} {adr:List Addr} {s:Shared} {cs:List Led} {pl:Led} {m:Str→Option Value} (S:StE g x Γ μ adr s cs pl m) :
  ∃ es:Led,(∀ p∈es,p∈pl∧ ∃ v,p.2.data= .cell v)∧ ∀ (i:Nat) nm av,ns[i]? =some nm→avs[i]? =some av→ ∃ c o v,clos.lookup nm=some c∧(c,o)∈es∧o.data= .cell (some v)∧VR x.fd adr v av:=by
 refine ⟨pl.filter λ p=>match p.2.data with | .cell _=>true | _=>false,λ p hp=> ?_,λ i nm av e1 e2=> ?_⟩
 ·rw [List.mem_filter] at hp
  refine ⟨hp.1,?_⟩
  have:=hp.2
  split at this
  ·exact ⟨_,by assumption⟩
  ·cases this
 ·obtain ⟨j,c,a1,a1',a2,a3,a4⟩:=B i nm av e1 e2
  obtain ⟨n,k,v,b1,b2,b3⟩:=S.V j av a2
  rw [a1] at b1
  cases b1
  cases b2 with
  | cell c1 c2 c3 =>
   rw [a4] at c1
   cases c1
   obtain ⟨o',v₀,d1,d2⟩:=S.cl _ _ a1' a4
   rename_i o
   have hoo:o=o':=by
    have h1:=(S.N _ (List.mem_append_right _ d1)).1
    have h1':s.heap.get? c=some o':=h1
    rcases c2 with q | q
    ·have:=S.F.keep _ _ q
     rw [h1'] at this
     cases this;rfl
    ·have h2:s.heap.get? c=some o:=(S.N _ (List.mem_append_right _ q)).1
     rw [h1'] at h2
     cases h2;rfl
   subst hoo
   refine ⟨c,o,v,a3,List.mem_filter.mpr ⟨d1,?_⟩,c3,b3⟩
   show (match o.data with | .cell _=>true | _=>false)=true
   rw [c3]
theorem def_step {name:Str} {params:Arguments} {body rest:List Stmt} {scope:Scope} {pos:Pos} {ns:List Str} {avs:List AV} {clos:List (Str × Addr)} {cn:Str} {L a c P:Addr} {ccd:Value} {cl:List (Str × Addr)} {i:Nat}
  {Q:Flow→Shared→Prop} {E:Value→Shared→Prop}
  (hx:x.Ok g d) (hfd:x.fd=none) (hfr:x.env=x.fenv) (henv:x.env=envX cn sc L a ccd cl) (hcd:ccd= .ref c) (C:CodeHd x.h₀ c P) (hP:(P,tabObj #[])∈x.need) (hP0:x.h₀.get? P=Option.none)
  (hd0:params.defaults=[]) (hk0:params.kw_defaults=[]) (ha:annTrees params Option.none x.env=[]) (hcl:closureFor scope x.env=pure clos) (B:Bears x Γ clos ns avs) (hn:sc.names[i]? =some (name, .local))
  {μ:Mem} {adr:List Addr} {s:Shared} (S:St g x Γ μ adr s)
  (K: ∀ x₁:Cx,x₁.Ok (withCo g (Clo name (qualnameIn x.env name name) params body scope ns avs)) d→x₁.env=x.env→x₁.fenv=x.fenv→x₁.fz=true→x₁.h₀=x.h₀→x₁.L=x.L→x₁.A=x.A→x₁.s0=x.s0→(∃ ps,(P,tabObj ps)∈x₁.need) →
   ∀ s₁,St (withCo g (Clo name (qualnameIn x.env name name) params body scope ns avs)) x₁ (Γ.set i (some .dstr)) μ adr s₁→wpAny (model g.prog g.w) x.A (execs rest x.env) Q E s₁) :
  wpAny (model g.prog g.w) x.A (execs (.FunctionDef name params body [] none [] scope none name pos :: rest) x.env) Q E s:=by
 obtain ⟨cs,pl,m,S⟩:=S
 refine wpAny_execs_cons (nestDef_K hd0 hk0 ha ?_)
 have hPpl:(P,tabObj #[])∈pl:=(S.ex _ hP).resolve_left (by rw [hP0];simp)
 obtain ⟨pa,pb,hpl⟩:=List.append_of_mem hPpl
 have hnd:=S.nd
 have hN:=S.N
 rw [hpl,← List.append_assoc] at hnd hN
 have hL:x.env.frame=some L:=by rw [henv]
 have hL':x.L=L:=by have:=hx.ef;rw [hL] at this;cases this;rfl
 have cells:=bears_get B S
 obtain ⟨es,hes,hbe⟩:=cells
 rw [henv] at hcl ⊢
 rw [hL'] at hN
 refine nest_K (by rw [← hL'];exact S.F) hN hx.top C hcd (updF_nd hnd) (by exact True.intro) (by rfl) hcl λ f c' oc vs t ctv doc h' tk F' N' d1 d2 l1 l2=> ?_
 rw [← henv] at hcl d2 N' ⊢
 let need₁:Led:=(f,fnMade name (qualnameIn x.env name name) params body scope clos doc ((g.mg "__name__").getD .none) c' ctv) :: (c',oc) :: (P,tabObj (#[] ++ #[rawInt pos.line,rawInt pos.col, .ref c'])) :: es
 let co₁:=Clo name (qualnameIn x.env name name) params body scope ns avs
 let x₁:Cx:= {x with fd:=some f,need:=need₁,fact:=λ adr'=>adr <+: adr',lks:=[],fz:=true,km:=Option.none}
 have hsub: ∀ p∈es,p∈(cs.flatten ++ pa) ++ (P,tabObj (#[] ++ #[rawInt pos.line,rawInt pos.col, .ref c'])) :: pb:=λ p hp=>by
  obtain ⟨h1,v,h2⟩:=hes p hp
  rw [hpl,List.mem_append,List.mem_cons] at h1
  rcases h1 with h1 | rfl | h1
  ·exact List.mem_append_left _ (List.mem_append_right _ h1)
  ·cases h2
  ·exact List.mem_append_right _ (.tail _ h1)
 have hok:x₁.Ok (withCo g co₁) d:=by
  refine ⟨hx.below,hx.kin,hx.top,hx.frames,hx.hnd,hx.fL,hx.floc,hx.fk,hx.eg,hx.ek,hx.eb,hx.ef,hx.nd,hx.dep,hx.un,λ a b p h=>h.trans p,λ _=>rfl,hx.ci,hx.cs,?_,λ h=>by cases h⟩
  refine ⟨f,doc,_,c',ctv,oc,vs,t,clos,rfl, .head _, .tail _ (.head _),d1,d2,λ i nm av e1 e2=> ?_⟩
  obtain ⟨c₁,o₁,v₁,b1,b2,b3,b4⟩:=hbe i nm av e1 e2
  exact ⟨c₁,o₁,v₁,b1, .tail _ (.tail _ (.tail _ b2)),b3,λ adr' p=>by rw [hfd] at b4;exact (b4.none_any).pre p⟩
 have keysP:((cs.flatten ++ pa) ++ (P,tabObj (#[] ++ #[rawInt pos.line,rawInt pos.col, .ref c'])) :: pb).map (·.1)=((cs.flatten ++ pa) ++ (P,tabObj #[]) :: pb).map (·.1):=by simp
 have S₁:St (withCo g co₁) x₁ Γ μ adr {s with heap:=h',toks:=tk}:=by
  refine ⟨cs,(f,fnMade name (qualnameIn x.env name name) params body scope clos doc ((g.mg "__name__").getD .none) c' ctv) :: (c',oc) :: (pa ++ (P,tabObj (#[] ++ #[rawInt pos.line,rawInt pos.col, .ref c'])) :: pb),m,?_⟩
  refine ⟨by rw [← hL'] at F';exact F',?_,?_,S.ha,?_,?_,S.gens,S.drawn,S.os,?_,List.prefix_refl _,λ p hp=>(by cases hp),?_,λ m₀ h=>by cases h⟩
  ·intro p hp
   rw [show x₁.L=L from hL']
   refine N' p ?_
   simp only [List.mem_append,List.mem_cons] at hp ⊢
   rcases hp with h | h | h | h | h | h
   ·exact .inr (.inr (.inl (.inl h)))
   ·exact .inl h
   ·exact .inr (.inl h)
   ·exact .inr (.inr (.inl (.inr h)))
   ·exact .inr (.inr (.inr (.inl h)))
   ·exact .inr (.inr (.inr (.inr h)))
  ·have h1:((f,fnMade name (qualnameIn x.env name name) params body scope clos doc ((g.mg "__name__").getD .none) c' ctv) :: (c',oc) :: ((cs.flatten ++ pa) ++ (P,tabObj (#[] ++ #[rawInt pos.line,rawInt pos.col, .ref c'])) :: pb)).map (·.1) |>.Nodup:=by
    simp only [List.map_cons,List.nodup_cons,List.mem_cons,not_or]
    have lt: ∀ k∈((cs.flatten ++ pa) ++ (P,tabObj (#[] ++ #[rawInt pos.line,rawInt pos.col, .ref c'])) :: pb).map (·.1),k < c':=λ k hk=>by
     rw [keysP,List.mem_map] at hk
     obtain ⟨q,hq,rfl⟩:=hk
     exact l1 q hq
    refine ⟨⟨Nat.ne_of_gt l2,λ q=>Nat.lt_asymm l2 (lt _ q)⟩,λ q=>Nat.lt_irrefl _ (lt _ q),by rw [keysP];exact hnd⟩
   refine (List.Perm.nodup_iff (List.Perm.map _ ?_)).mp h1
   rw [List.append_assoc]
   refine (List.Perm.trans ?_ List.perm_middle.symm)
   refine List.Perm.cons _ ?_
   exact (List.perm_middle (l₁:=cs.flatten)).symm
  ·have hC:=S.C
   rw [hfd] at hC
   exact hC.mono λ _ _ h=>CR.none_any (g:=g) (g₁:=withCo g co₁) rfl rfl h
  ·intro i av e
   obtain ⟨n,k,v,a1,a2,a3⟩:=S.V i av e
   have mem': ∀ q∈pl,q.1≠P→q∈(f,fnMade name (qualnameIn x.env name name) params body scope clos doc ((g.mg "__name__").getD .none) c' ctv) :: (c',oc) :: (pa ++ (P,tabObj (#[] ++ #[rawInt pos.line,rawInt pos.col, .ref c'])) :: pb):=λ q hq hne=>by
    rw [hpl,List.mem_append,List.mem_cons] at hq
    simp only [List.mem_append,List.mem_cons]
    rcases hq with h | h | h
    ·exact .inr (.inr (.inl h))
    ·rw [h] at hne;exact (hne rfl).elim
    ·exact .inr (.inr (.inr (.inr h)))
   have neP: ∀ (c:Addr) (o:Obj) v,(c,o)∈pl→o.data= .cell v→c≠P:=λ c o v hm hd e=>by
    subst e
    have h1:s.heap.get? c=some o:=(S.N _ (List.mem_append_right _ hm)).1
    have h2:s.heap.get? c=some (tabObj #[]):=(S.N _ (List.mem_append_right _ hPpl)).1
    rw [h1] at h2;cases h2;cases hd
   refine ⟨n,k,v,a1,?_,by rw [hfd] at a3;exact a3.none_any⟩
   cases a2 with
   | loc b1 b2=>exact .loc b1 b2
   | cloc b1 b2 b3 b4 =>
    refine .cloc (mem' _ b1 ?_) b2 b3 b4
    intro e
    have h1:=(S.N _ (List.mem_append_right _ b1)).1
    have h2:s.heap.get? P=some (tabObj #[]):=(S.N _ (List.mem_append_right _ hPpl)).1
    rw [e,h2] at h1;cases h1;cases b2
   | cell b1 b2 b3=>exact .cell b1 (b2.imp id λ h=>mem' _ h (neP _ _ _ h b3)) b3
   | free b1 b2 b3=>exact .free b1 (b2.imp id λ h=>mem' _ h (neP _ _ _ h b3)) b3
  ·intro p hp
   right
   simp only [need₁,x₁,List.mem_cons] at hp
   rcases hp with h | h | h | h
   ·exact List.mem_cons.mpr (.inl h)
   ·exact .tail _ (List.mem_cons.mpr (.inl h))
   ·exact .tail _ (.tail _ (List.mem_append_right _ (List.mem_cons.mpr (.inl h))))
   ·obtain ⟨h1,v,h2⟩:=hes p h
    rw [hpl,List.mem_append,List.mem_cons] at h1
    rcases h1 with h1 | rfl | h1
    ·exact .tail _ (.tail _ (List.mem_append_left _ h1))
    ·cases h2
    ·exact .tail _ (.tail _ (List.mem_append_right _ (.tail _ h1)))
  ·intro n c hc1 hc2
   obtain ⟨o,v₀,h1,h2⟩:=S.cl n c hc1 hc2
   refine ⟨o,v₀,?_,h2⟩
   rw [hpl,List.mem_append,List.mem_cons] at h1
   rcases h1 with h1 | h1 | h1
   ·exact .tail _ (.tail _ (List.mem_append_left _ h1))
   ·cases h1;cases h2
   ·exact .tail _ (.tail _ (List.mem_append_right _ (.tail _ h1)))
 have hsc:x₁.env.scope=sc:=by show x.env.scope=sc;rw [henv]
 refine wpAny_mono (store_name (g:=withCo g co₁) (x:=x₁) (z:=true) (v:= .ref f) (av:= .dstr) hok hsc hfr rfl (.inl hn) S₁ (.dstr rfl)) (λ _ s₂ S₂=> ?_) λ _ _ z=>z.elim
 exact K x₁ hok rfl rfl rfl rfl rfl rfl rfl ⟨_, .tail _ (.tail _ (.head _))⟩ s₂ S₂
end
noncomputable def gd0 (prog:Program) (w:World) (p:Program) (loose:List Str) (mean:ExcName→Option Value) (mg mb:Str→Option Value) (co:Led→(List Addr→Prop)→Option Addr→Prop):Gd :=
 {prog:=prog,w:=w,K:=KK w.params,p:=p,loose:=loose,mean:=mean,mg:=mg,mb:=mb,co:=co}
def lawCx (E:Env) (gh:Heap) (L:Addr) (fd:Option Addr) (s:Shared) (need:Led):Cx :=
 {A:=callerA.deeper E,env:=E,fenv:=E,outer:=[],A₀:=callerA,base:=gh,h₀:=gh,L:=L,fd:=fd,s0:=s,need:=need,fact:=λ _=>True,lks:=[],fz:=false,km:=none}
section
variable {prog:Program} {w:World} {p:Program} {loose:List Str} {mean:ExcName→Option Value} {mg mb:Str→Option Value} {gh:Heap} {L fa:Addr} {qual:Str} {scope:Scope}
theorem lawCx_ok {co:Led→(List Addr→Prop)→Option Addr→Prop} {fd:Option Addr} {need:Led} {s:Shared} (X:(KK w.params).In gh) (T:Top p loose mean mg mb gh) (B:Below callerA gh [] gh) (nd:(scope.names.map (·.1)).Nodup) (kd:scope.kind= .function)
  (hco:co need (λ _=>True) fd) (hn: ∀ q∈need,q.1 < L) :
  (lawCx (envX qual scope L fa (.ref 437) (cellsFrom (L+1) scope.names [])) gh L fd s need).Ok (gd0 prog w p loose mean mg mb co) 7:=by
 obtain ⟨ca1,ca2⟩:=cellsFrom_addr scope.names (L+1) [] (by simp) (by simp)
 refine ⟨B,X,T,rfl,rfl,rfl,rfl,kd,rfl,kd,rfl,rfl,nd,by show callerA.depth+1+7 < _;decide +kernel,by show callerA.units+3+16 * 7+100 < _;decide +kernel,λ _ _ _ _=>trivial,λ _=>rfl,λ n n' c _=>lookup_inj ca1 n n' c,λ n hn=> ?_,hco,λ _ q hq n c _ hc e=> ?_⟩
 ·exact Option.isSome_iff_exists.mp (cellsFrom_some scope.names (L+1) [] (.inl hn))
 ·have h1:L+1≤c:=(ca2 _ (mem_of_lookup hc)).elim (λ h=>by simp at h) id
  have h2:=hn q hq
  rw [e] at h2
  exact Nat.lt_irrefl L (Nat.lt_trans (Nat.lt_of_succ_le h1) h2)
theorem ints_R {vs:List Value} {is:List Int} (h:IntsAre vs is) (fd:Option Addr) (adr:List Addr):F2 (VR fd adr) vs (is.map AV.int):=by
 induction h with
 | nil=>exact .nil
 | cons n t _ ih=>exact .cons (.int n t) ih
def IntsOnly (μ:Mem):Prop:= ∀ o∈μ,∃ is:List Int,o= .list (is.map AV.int)
theorem F2.of_ints {fd fd':Option Addr} {adr:List Addr}: ∀ {vs:List Value} {is:List Int},F2 (VR fd adr) vs (is.map AV.int)→F2 (VR fd' adr) vs (is.map AV.int)
 | _,[], .nil=> .nil
 | _,i :: is, .cons h r=> .cons (by cases h;exact .int _ _) (F2.of_ints r)
theorem CR.of_ints {g g':Gd} {fd fd':Option Addr} {adr:List Addr} {cs:List Led} {μ:Mem} (hμ:IntsOnly μ) (h:F2 (CR g fd adr) cs μ):F2 (CR g' fd' adr) cs μ:=by
 induction h with
 | nil=>exact .nil
 | cons h1 _ ih =>
  refine .cons ?_ (ih λ o ho=>hμ o (by simp [ho]))
  obtain ⟨is,rfl⟩:=hμ _ (List.mem_cons_self)
  cases h1 with
  | list q1 q2=>exact .list q1.of_ints q2
theorem law_run {cm m:Str→Option Value} {cells:Led} {s:Shared} {a:Addr} {vs:List Value} {is:List Int} {oc:Value} {od:Option Addr} {osl:Array (Option Value)} {name qual':Str} {params:Arguments} {body:List Stmt} {dV kV doc pm cdv ct:Value} {an:Option Addr}
  (hlook:(KK w.params).lookup 438=some ⟨oc,od, .func (fnOf name qual' params body scope dV kV doc pm an cdv ct),osl⟩)
  (X:(KK w.params).In gh) (T:Top p loose mean mg mb gh) (B:Below callerA gh [] gh) (F:Fr gh L s.heap m) (hm:m (Str.ofString "script")=some (.ref a)) (N:News gh L s.heap (cells ++ [(435,tabObj #[])])) (CA:CellsAre cm (cellsFrom (L+1) scope.names []) cells)
  (C:CodeHd gh 437 435) (hl:435 < L) (hlst:gh.IsList a vs.toArray) (hvs:IntsAre vs is) (hlen:is.length≤63) (hg:s.gens= #[])
  {μ₀ μ₁ μ':Mem} {v₀:AV} {r:LT} (h0:f_law0 (is.map AV.int) []=some (.nxt v₀,μ₀)) (hint:IntsOnly μ₀) (hv₀: ∃ i,v₀= .obj i) (h1:f_law1 v₀ μ₀=some (.nxt r,μ₁)) (h2:fin (f_law2 r) μ₁=some (.bool true,μ')) :
  wpAny (model prog w) (callerA.deeper (envX qual scope L fa (.ref 437) (cellsFrom (L+1) scope.names []))) (execs body (envX qual scope L fa (.ref 437) (cellsFrom (L+1) scope.names [])))
   (λ f s'=>f= .ret (.bool true)∧(∃ m',Fr gh L s'.heap m')∧GrownAt 435 s'.heap∧s'.os=s.os∧s'.gens= #[]) nof s:=by
 obtain ⟨_,_,_,_,_,_,_,_,_,_,_,_,_,s1,s2,s3,s4,dn,dparams,dbody,dscope,dpos,rest,scope',hl',LF,hparts⟩:=law_parts w.params
 rw [hlook] at hl'
 have hb:body=s1 :: s2 :: s3 :: s4 :: .FunctionDef dn dparams dbody [] none [] dscope none dn dpos :: rest∧scope=scope':=by
  injection hl' with hl'
  injection hl' with _ _ hl' _
  injection hl' with hl'
  injection hl' with _ _ _ hb hs _ _ _ _ _ _ _ _ _ _
  injection hb with hb
  exact ⟨hb,hs⟩
 clear hl'
 obtain ⟨rfl,rfl⟩:=hb
 obtain ⟨o,ho,hcls,n,hdat⟩:=hlst
 have hal:a < L:=Nat.lt_of_lt_of_le (Heap.lt_size ho) F.above
 obtain ⟨ca1,ca2⟩:=cellsFrom_addr scope.names (L+1) [] (by simp) (by simp)
 have cell_lo: ∀ p∈cells,L+1≤p.1:=λ p hp=>by
  have:p.1∈cells.map (·.1):=List.mem_map_of_mem hp
  rw [CellsAre.keys CA] at this
  obtain ⟨q,hq,e⟩:=List.mem_map.mp this
  exact e ▸ (ca2 q hq).elim (λ h=>by simp at h) id
 have hP0:gh.get? 435=none:=(N (435,tabObj #[]) (by simp)).2.2
 let co₀:Led→(List Addr→Prop)→Option Addr→Prop:=λ need _ fd=>fd=some a∧(a,o)∈need
 have hf₀:Facts (gd0 prog w p loose mean mg mb co₀):=facts_of _ rfl λ n n' f fd hs h=>⟨h.1,hs _ h.2⟩
 have hsrc:SrcOk (gd0 prog w p loose mean mg mb co₀) (is.map AV.int):=⟨by rw [List.length_map];unfold big;omega,λ need fact fd h=>⟨a,o,vs,n,h.1,h.2,hcls,hdat,ints_R hvs⟩⟩
 let E:=envX qual scope L fa (.ref 437) (cellsFrom (L+1) scope.names [])
 have ok₀:(lawCx E gh L (some a) s [(a,o),(435,tabObj #[])]).Ok (gd0 prog w p loose mean mg mb co₀) 7:=lawCx_ok X T B LF.nd LF.kd ⟨rfl,by simp⟩ (λ q hq=>by
  rcases List.mem_cons.mp hq with rfl | hq
  ·exact hal
  ·rcases List.mem_singleton.mp hq with rfl
   exact hl)
 have hcl: ∀ n c,scope.names.lookup n=some .cell→E.cells.lookup n=some c→ ∃ o v₀,(c,o)∈cells ++ [(435,tabObj #[])]∧o.data= .cell v₀:=λ n c _ hc=>by
  obtain ⟨o,h1,h2⟩:=CellsAre.get CA hc
  exact ⟨o,_,List.mem_append_left _ h1,h2⟩
 have S₀:St (gd0 prog w p loose mean mg mb co₀) (lawCx E gh L (some a) s [(a,o),(435,tabObj #[])]) lawGa [] [] s:=by
  refine ⟨[],cells ++ [(435,tabObj #[])],m,F,(λ q hq=>N q (by simpa using hq)),?_,rfl, .nil,?_,rfl,rfl,rfl,?_,trivial,λ q hq=>(by cases hq),hcl,λ m₀ h=>by cases h⟩
  ·simp only [List.flatten_nil,List.nil_append,List.map_append,List.map_cons,List.map_nil]
   rw [List.nodup_append]
   refine ⟨by rw [CellsAre.keys CA];exact ca1,by simp,λ x hx y hy e=> ?_⟩
   rcases List.mem_singleton.mp hy with rfl
   obtain ⟨q,hq,rfl⟩:=List.mem_map.mp hx
   have:=cell_lo q hq
   rw [e] at this
   exact Nat.lt_irrefl L (Nat.lt_of_succ_le (Nat.le_trans this (Nat.le_of_lt hl)))
  ·intro i av e
   match i,e with
   | 0,e=>cases e;exact ⟨_,_, .ref a,LF.n0, .loc rfl hm, .dstr rfl⟩
   | i+1,e =>
    exfalso
    have:lawGa[i+1]? =some (some av):=e
    match i,this with
    | 0,q | 1,q | 2,q | 3,q | 4,q | 5,q | 6,q | 7,q | 8,q | 9,q | 10,q | 11,q | 12,q | 13,q | 14,q | 15,q | 16,q | 17,q | 18,q | 19,q | 20,q | 21,q=>cases q
    | i+22,q=>simp [lawGa] at q
  ·intro q hq
   rcases List.mem_cons.mp hq with rfl | hq
   ·exact .inl ho
   ·rcases List.mem_singleton.mp hq with rfl
    exact .inr (by simp)
 obtain ⟨p0,_,_,_⟩:=(hparts _ hf₀ rfl)
 refine execs_append_wp [s1] s ?_
 refine wpAny_mono (p0 _ hsrc _ ok₀ rfl rfl rfl _ _ _ S₀ _ _ h0) (λ fl s₁ z=> ?_) λ _ _ z=>z
 obtain ⟨adr₁,_,rfl,S₁⟩:=z
 dsimp only
 let co₁:Led→(List Addr→Prop)→Option Addr→Prop:=λ _ _ _=>True
 have hf₁:Facts (gd0 prog w p loose mean mg mb co₁):=facts_of _ rfl λ _ _ _ _ _ _=>trivial
 have ok₁:(lawCx E gh L none s [(435,tabObj #[])]).Ok (gd0 prog w p loose mean mg mb co₁) 7:=lawCx_ok X T B LF.nd LF.kd trivial (λ q hq=>by
  rcases List.mem_singleton.mp hq with rfl
  exact hl)
 have S₁':St (gd0 prog w p loose mean mg mb co₁) (lawCx E gh L none s [(435,tabObj #[])]) (lawG0 v₀) μ₀ adr₁ s₁:=by
  obtain ⟨cs,pl,m₁,Z⟩:=S₁
  refine ⟨cs,pl,m₁,Z.F,Z.N,Z.nd,Z.ha,CR.of_ints hint Z.C,λ i av e=> ?_,Z.gens,Z.drawn,Z.os,λ q hq=>Z.ex q (List.mem_cons_of_mem _ hq),trivial,λ q hq=>(by cases hq),Z.cl,λ m₀ h=>by cases h⟩
  obtain ⟨n,k,v,a1,a2,a3⟩:=Z.V i av e
  refine ⟨n,k,v,a1,VarV.move (x:=lawCx E gh L (some a) s [(a,o),(435,tabObj #[])]) rfl rfl rfl a2,?_⟩
  have:av=v₀:=by
   match i,e with
   | 0,e=>cases e;rfl
   | i+1,e =>
    exfalso
    have:(lawG0 v₀)[i+1]? =some (some av):=e
    match i,this with
    | 0,q | 1,q | 2,q | 3,q | 4,q | 5,q | 6,q | 7,q | 8,q | 9,q | 10,q | 11,q | 12,q | 13,q | 14,q | 15,q | 16,q | 17,q | 18,q | 19,q | 20,q | 21,q=>cases q
    | i+22,q=>simp [lawG0] at q
  obtain ⟨j,hj⟩:=hv₀
  rw [this,hj] at a3 ⊢
  cases a3 with
  | obj h=>exact .obj h
 obtain ⟨_,p1,_,_⟩:=(hparts _ hf₁ rfl)
 refine execs_append_wp [s2,s3,s4] s₁ ?_
 refine wpAny_mono (p1 _ _ ok₁ rfl rfl rfl _ _ _ S₁' _ _ h1) (λ fl s₂ z=> ?_) λ _ _ z=>z
 obtain ⟨adr₂,_,rfl,S₂⟩:=z
 dsimp only
 obtain ⟨clos,hc1,hc2⟩:=LF.clo L
 refine def_step (g:=gd0 prog w p loose mean mg mb co₁) (x:=lawCx E gh L none s [(435,tabObj #[])]) (Γ:=lawG1 r) (sc:=scope) (ns:=nsL) (avs:=cvL r.cv) (clos:=clos) (L:=L) (a:=fa) (c:=437) (P:=435) (cl:=cellsFrom (L+1) scope.names []) (i:=5) ok₁ rfl rfl rfl rfl C (by exact List.mem_singleton.mpr rfl) hP0 LF.d0 LF.k0 (LF.an _) (hc1 _ rfl) ?_ LF.n5 S₂ ?_
 ·intro i nm av e1 e2
  obtain ⟨c,b1,b2,b3,b4⟩:=hc2 i nm e1
  refine ⟨10+i,c,b1,b2,?_,b3,b4⟩
  match i,e2 with
  | 0,e2 | 1,e2 | 2,e2 | 3,e2 | 4,e2=>cases e2;rfl
  | i+5,e2=>simp [cvL] at e2
 ·intro x₁ hok he hfe hz hh hL hA hs0 hP s₃ S₃
  obtain ⟨ps,hps⟩:=hP
  have hf₂:Facts (withCo (gd0 prog w p loose mean mg mb co₁) (Clo dn (qualnameIn E dn dn) dparams dbody dscope nsL (cvL r.cv))):=facts_of _ rfl λ _ _ _ _ hs h=>Clo.mono _ _ _ _ hs h
  obtain ⟨_,_,p2,p3⟩:=(hparts _ hf₂ rfl)
  have hdd:DD (withCo (gd0 prog w p loose mean mg mb co₁) (Clo dn (qualnameIn E dn dn) dparams dbody dscope nsL (cvL r.cv))) r.cv:=by
   refine ⟨dn,qualnameIn E dn dn,dparams,dbody,dscope,nsL,cvL r.cv,rfl,λ x Γ hx v w a μ adr s S r1 r2=> ?_⟩
   exact clo_call hf₂ (pn:=Str.ofString "thing") (rk:=[(Str.ofString "Ref", .globalImplicit)]) rfl LF.dns (λ y hy=>by rcases List.mem_singleton.mp hy with rfl;rfl) rfl LF.dnd LF.dkd LF.dco LF.dge (LF.bind _) (p2 r.cv) hx S r1 r2
  have hb: ∃ b,f_law2 r μ₁=some (.ret b,μ')∧b= .bool true:=by
   rcases fin_some h2 with ⟨_,_,q⟩ | q
   ·cases q
   ·exact ⟨_,q,rfl⟩
  obtain ⟨b,hb1,rfl⟩:=hb
  rw [show (lawCx E gh L none s [(435,tabObj #[])]).env=x₁.env from he.symm,show (lawCx E gh L none s [(435,tabObj #[])]).A=x₁.A from hA.symm]
  refine wpAny_mono (p3 r hdd x₁ hok (by rw [he];rfl) (by rw [he,hfe];rfl) hz _ _ _ S₃ _ _ hb1) (λ fl s₄ z=> ?_) λ _ _ z=>z
  obtain ⟨adr₄,_,vv,rfl,hv,cs,pl,m₄,Z⟩:=z
  cases hv
  refine ⟨rfl,⟨m₄,?_⟩,⟨ps,?_⟩,?_,?_⟩
  ·have:=Z.F;rw [hh,hL] at this;exact this
  ·exact need_get Z hps
  ·rw [Z.os,hs0];rfl
  ·rw [Z.gens,hs0];exact hg
end
def LawTrue:Prop:= ∀ is:List Int,is.length≤63→ ∃ μ₀ μ₁ μ' v₀ r,f_law0 (is.map AV.int) []=some (.nxt v₀,μ₀)∧IntsOnly μ₀∧(∃ i,v₀= .obj i)∧f_law1 v₀ μ₀=some (.nxt r,μ₁)∧fin (f_law2 r) μ₁=some (.bool true,μ')
theorem LawTrue.get (H:LawTrue) {vs:List Value} {is:List Int} (h:IntsAre vs is) (hc: ¬ ((63:Nat):Int) < (is.length:Int)):is.length≤63∧ ∃ μ₀ μ₁ μ' v₀ r,f_law0 (is.map AV.int) []=some (.nxt v₀,μ₀)∧IntsOnly μ₀∧(∃ i,v₀= .obj i)∧f_law1 v₀ μ₀=some (.nxt r,μ₁)∧fin (f_law2 r) μ₁=some (.bool true,μ'):=⟨by omega,H is (by omega)⟩
theorem holds_of (H:LawTrue):PySem.Challenge.rw_nz0184_01.Holds:=by
 apply hd
 k_go0
 rename News _ _ _ _=>N
 rename Fr _ _ _ _=>F
 rename CellsAre _ _ _=>CA
 rename Frag.In _ _=>X
 rename Below _ _ _ _=>B
 rename Top topProg _ _ _ _ _=>T
 rename CodeHd _ _ _=>C
 rename IntsAre _ _=>hI
 rename (ghostOf _ _).IsList _ _=>hl
 rename ¬(_ < (_:Int))=>hc
 rename (435:Nat) < _=>l0
 rename (_:Shared).gens=_=>hg
 obtain ⟨hlen,μ₀,μ₁,μ',v₀,r,h0,h1,h2,h3,h4⟩:=H.get hI hc
 refine wpAny_mono (law_run (CA:=CA) (hlook:=rfl) X T B F rfl N C l0 hl hI hlen hg h0 h1 h2 h3 h4) (λ f s' z=> ?_) (λ _ _ z=>z.elim)
 obtain ⟨rfl,⟨m',F'⟩,hG,hos,hgs⟩:=z
 exact ⟨goodW_bool F' hgs (λ _=>rfl) (postW_of rfl (w_eq_bool (w_res rfl) w_lit) rfl) hos,hG,trivial⟩
end Mine
end
namespace Mine
open Mine.Pl in
theorem law_true:LawTrue:=λ is hl=>by
 have hlen:(scriptOf is).length≤24:=by simp only [scriptOf,List.length_map,List.length_take];omega
 obtain ⟨f,μ',e,hf⟩:=law2_run (o0:= .list ((is.take 24).map AV.int)) (q:=rescueOf (scriptOf is)) hlen
 refine ⟨_,_,μ',_,lt0 (rescueOf (scriptOf is)),law0_eq is,?_,⟨1,rfl⟩,law1_eq,?_⟩
 ·intro o ho
  simp only [List.mem_cons,List.not_mem_nil,or_false] at ho
  rcases ho with rfl | rfl
  ·exact ⟨_,rfl⟩
  ·exact ⟨(scriptOf is).map λ n:Nat=>(n:Int),by simp [nums,List.map_map]⟩
 ·unfold fin
  rw [Pl.bd_some e,hf]
  rfl
theorem holds:PySem.Challenge.rw_nz0184_01.Holds:=holds_of law_true
end Mine
theorem PySem.Challenge.cw_nz0184_01_holds : PySem.Challenge.rw_nz0184_01.Holds :=
  Mine.holds
