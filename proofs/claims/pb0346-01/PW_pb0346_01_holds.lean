import PyProof.Rows.All
import Wide.All
import OpenK.AllK
import Wide.FinOn
import KE.KDictSum
import KE.KPop
import PyProof.CompFree
import PyProof.Rows.SetFrom
import PyProof.Rows.KernelRfl
import Lean
import PySem.Challenge.RW_pb0346_01

set_option Elab.async false
set_option linter.unusedVariables false
set_option linter.unusedSimpArgs false
set_option linter.unusedSectionVars false
set_option genSizeOf false
set_option bootstrap.genMatcherCode false
local macro_rules | `(tactic| omega) => `(tactic| lia)

section
open PySem
namespace LY.Internal
set_option genInjectivity false
set_option genCtorIdx false
mutual
inductive Cl | grammar | recognised
inductive COp | eq | ne | lt | le | gt | ge | isin | notin
end
noncomputable def Cl.ctorIdx (x:Cl):Nat:=x.casesOn 0 1
noncomputable def COp.ctorIdx (x:COp):Nat:=x.casesOn 0 1 2 3 4 5 6 7
mutual
inductive Fn
  | token_of | is_token | merge | gInit | nullable | first | predict | may_be_empty | empty_rules | first_of
  | first_rows | follow_rows | add_follows | parts | shared | conflicts | find_conflicts | add_alternatives
  | rInit | token_at | chosen | expanded | recognise | is_leaf | leaves | ends_of | derives
  | l_stock | l_pick | l_tree | l_derived | l_ends | l_kids | l_sound | l_reached | law
inductive BOp | add | sub | mul | mod | fdiv
end
inductive MT | one (i:Nat) | two (i j:Nat)
mutual
inductive ME
  | none | bool (b:Bool) | int (i:Int) | str (s:Str) | var (i:Nat) | gEnd | gClose
  | tup (l:MEs) | lstD (l:MEs) | lstF (l:MEs) | dS | dI | d1 (k v:ME)
  | bin (o:BOp) (a b:ME) | cmp (o:COp) (a b:ME) | isNone (a:ME)
  | and (a b:ME) | or (a b:ME) | not (a:ME) | ite (c a b:ME)
  | sub (a i:ME) | sliceTo (a b:ME) | sliceFrom (a b:ME) | attr (a:ME) (f:Str)
  | call (f:Fn) (l:MEs) | new (c:Cl) (l:MEs) | meth (f:Fn) (o:ME) (l:MEs)
  | append (a b:ME) | pop (a:ME) | extend (a b:ME) | extendRev (a b:ME) | reverse (a:ME)
  | len (a:ME) | sorted (a:ME) | sortedSet (a:ME) | list (a:ME) | listRev (a:ME) | dict (a:ME)
  | sum (a:ME) | max (a b:ME) | strOf (a:ME) | tuple (a:ME) | isInt (a:ME)
  | comp (elt:ME) (i:Nat) (src:ME) (cond:ME) | compIn (i j:Nat)
inductive MEs
  | nil | cons (e:ME) (l:MEs)
end
mutual
inductive MS
  | assign (i:Nat) (e:ME) | assignComp (i:Nat) (e:ME) | setAttr (o:ME) (f:Str) (e:ME)
  | setSub (o i e:ME) | unpack (i j:Nat) (e:ME) | augVar (i:Nat) (e:ME)
  | augSub (o i e:ME) | augList (i:Nat) (e:ME) | expr (e:ME)
  | ifs (c:ME) (a b:MSs) | while (c:ME) (b:MSs) | for (t:MT) (src:ME) (b:MSs)
  | forRev (t:MT) (src:ME) (b:MSs) | forRange (t:MT) (n:ME) (b:MSs)
  | merge (i src tgt:Nat) | ret (e:ME) | retNone | raise
inductive MSs
  | nil | cons (s:MS) (l:MSs)
end
inductive AV
  | none | bool (b:Bool) | int (i:Int) | str (s:Str) | tup (l:List AV) | lst (l:List AV)
  | ref (k:Nat) | obj (c:Cl) (k:Nat)
noncomputable def AV.ctorIdx (x:AV):Nat:=x.casesOn 0 (fun _=>1) (fun _=>2) (fun _=>3) (fun _=>4) (fun _=>5) (fun _=>6) (fun _ _=>7)
inductive AO | list (l:List AV) | dS (l:List (Str × AV)) | dI (l:List (Int × AV)) | ins (l:List (Str × AV))
noncomputable def AO.ctorIdx (x:AO):Nat:=x.casesOn (fun _=>0) (fun _=>1) (fun _=>2) (fun _=>3)
abbrev Hp:=Nat→Option AO
noncomputable def Hp.set (H:Hp) (k:Nat) (o:AO):Hp:=fun j=>if j=k then some o else H j
noncomputable def Hp.le (H H':Hp):Prop:=∀ k o,H k=some o→H' k=some o
theorem Hp.set_self (H:Hp) (k:Nat) (o:AO):H.set k o k=some o:=if_pos rfl
theorem Hp.set_ne (H:Hp) {k j:Nat} (o:AO) (h:j≠k):H.set k o j=H j:=if_neg h
theorem Hp.le_refl (H:Hp):H.le H:=fun _ _ h=>h
theorem Hp.le_trans {H H' H'':Hp} (h:H.le H') (h':H'.le H''):H.le H'':=fun k o e=>h' k o (h k o e)
theorem Hp.set_eq {H:Hp} {k:Nat} {o:AO} (h:H k=some o):H.set k o=H:=by
  funext j;unfold Hp.set;split
  · next e=>rw [e,h]
  · rfl
theorem Hp.set_set (H:Hp) (k:Nat) (o o':AO):(H.set k o).set k o'=H.set k o':=by
  funext j;unfold Hp.set;split <;> rfl
theorem Hp.le_set {H:Hp} {k:Nat} (o:AO) (h:H k=Option.none):H.le (H.set k o):=by
  intro j o' e
  rw [Hp.set_ne]
  · exact e
  · intro x;rw [x,h] at e;cases e
abbrev Lo:=List (Option AV)
noncomputable def Lo.at (m:Lo) (i:Nat):Option AV:=(m[i]?).getD Option.none
theorem Lo.at_set {m:Lo} {i:Nat} {v:AV} (hi:i<m.length):Lo.at (m.set i (some v)) i=some v:=congrArg (Option.getD · Option.none) (List.getElem?_set_self hi)
theorem Lo.at_set_ne {m:Lo} {i j:Nat} {v:Option AV} (h:i≠j):Lo.at (m.set i v) j=m.at j:=congrArg (Option.getD · Option.none) (List.getElem?_set_ne h)
inductive Fl | next | ret (v:AV)
noncomputable def Fl.ctorIdx (x:Fl):Nat:=x.casesOn 0 (fun _=>1)
noncomputable def getK {κ:Type} [DecidableEq κ]:List (κ × AV)→κ→Option AV
  | [],_=>Option.none
  | (k,v)::r,x=>if x=k then some v else getK r x
noncomputable def setK {κ:Type} [DecidableEq κ]:List (κ × AV)→κ→AV→List (κ × AV)
  | [],x,w=>[(x,w)]
  | (k,v)::r,x,w=>if x=k then (k,w)::r else (k,v)::setK r x w
theorem getK_cons {κ:Type} [DecidableEq κ] {k x:κ} {v:AV} {l:List (κ × AV)}:getK ((k,v)::l) x=if x=k then some v else getK l x:=rfl
theorem setK_cons {κ:Type} [DecidableEq κ] {k x:κ} {v w:AV} {l:List (κ × AV)}:setK ((k,v)::l) x w=if x=k then (k,w)::l else (k,v)::setK l x w:=rfl
theorem setK_len {κ:Type} [DecidableEq κ] {k:κ} {v:AV}:∀ l:List (κ × AV),(setK l k v).length≤l.length+1
  | []=>Nat.le_refl _
  | (a,b)::l=>by
    rw [setK_cons]
    by_cases h:k=a
    · rw [if_pos h];exact Nat.le_succ _
    · rw [if_neg h];exact Nat.succ_le_succ (setK_len l)
noncomputable def cap:Nat:=1000000
noncomputable def seqOf (H:Hp):AV→Option (List AV)
  | .tup l=>some l
  | .lst l=>some l
  | .ref k=>match H k with | some (.list l)=>some l | _=>Option.none
  | _=>Option.none
noncomputable def listOf (H:Hp):AV→Option (List AV)
  | .lst l=>some l
  | .ref k=>match H k with | some (.list l)=>some l | _=>Option.none
  | _=>Option.none
noncomputable def iterOf (H:Hp):AV→Option (List AV)
  | .tup l=>some l
  | .lst l=>some l
  | .ref k=>match H k with
    | some (.list l)=>some l
    | some (.dS l)=>some (l.map fun x=>.str x.1)
    | some (.dI l)=>some (l.map fun x=>.int x.1)
    | _=>Option.none
  | _=>Option.none
noncomputable def srcOf (H:Hp):AV→Option (List AV)
  | .tup _=>Option.none
  | x=>iterOf H x
noncomputable def Live (H₀:Hp) (a:AV) (H:Hp):Prop:=match a with | .ref k=>H k=H₀ k | _=>True
noncomputable def intsOf:List AV→Option (List Int)
  | []=>some []
  | .int i::r=>(intsOf r).map (i::·)
  | _=>Option.none
noncomputable def strsOf:List AV→Option (List Str)
  | []=>some []
  | .str i::r=>(strsOf r).map (i::·)
  | _=>Option.none
noncomputable def eqL (H:Hp) (x y:AV):Option Bool :=
  match listOf H x,listOf H y with
    | some l,some l' =>
      if l.length≠l'.length then some false
      else match intsOf l,intsOf l' with
        | some u,some v=>some (decide (u=v))
        | _,_=>match strsOf l,strsOf l' with
          | some u,some v=>some (decide (u=v))
          | _,_=>Option.none
    | _,_=>Option.none
noncomputable def pairOf:List AV→Option (Str × AV)
  | [a,x]=>match a with | .str a=>some (a,x) | _=>Option.none
  | _=>Option.none
noncomputable def endsEq (z:Bool) (x y:AV):Option Bool :=
  match y with
  | .str y=>match x with | .str x=>some (z && decide (x=y)) | .tup _=>some false | _=>Option.none
  | _=>Option.none
noncomputable def eqAV (H:Hp) (x y:AV):Option Bool :=
  match x with
  | .int a=>match y with | .int b=>some (decide (a=b)) | _=>Option.none
  | .str a=>match y with | .str b=>some (decide (a=b)) | _=>Option.none
  | .bool a=>match y with | .bool b=>some (decide (a=b)) | _=>Option.none
  | .tup l=>match y with | .tup l'=>(pairOf l).bind fun p=>(pairOf l').bind fun q=>endsEq (decide (p.1=q.1)) p.2 q.2 | _=>Option.none
  | x=>eqL H x y
noncomputable def boolIn (b:Bool):List AV→Option Bool
  | []=>some false
  | .bool c::r=>(boolIn b r).map fun x=>(b == c) || x
  | _=>Option.none
noncomputable def inAV (H:Hp) (x y:AV):Option Bool :=
  match x with
  | .str s=>match y with
    | .ref k=>match H k with | some (.dS l)=>some (decide (s∈l.map (·.1))) | _=>Option.none
    | .tup l=>match strsOf l with | some u=>some (decide (s∈u)) | _=>Option.none
    | _=>Option.none
  | .int i=>match y with
    | .ref k=>match H k with | some (.dI l)=>some (decide (i∈l.map (·.1))) | _=>Option.none
    | .lst l=>match intsOf l with | some u=>some (decide (i∈u)) | _=>Option.none
    | _=>Option.none
  | .bool b=>match y with | .lst l=>boolIn b l | _=>Option.none
  | _=>Option.none
noncomputable def cmpAV (H:Hp) (o:COp) (x y:AV):Option Bool :=
  match o with
  | .eq=>eqAV H x y
  | .ne=>(eqAV H x y).map (!·)
  | .isin=>inAV H x y
  | .notin=>(inAV H x y).map (!·)
  | .lt=>match x,y with | .int a,.int b=>some (decide (a<b)) | _,_=>Option.none
  | .le=>match x,y with | .int a,.int b=>some (decide (a≤b)) | _,_=>Option.none
  | .gt=>match x,y with | .int a,.int b=>some (decide (a > b)) | _,_=>Option.none
  | .ge=>match x,y with | .int a,.int b=>some (decide (a ≥ b)) | _,_=>Option.none
noncomputable def intBin (a b:Int):BOp→Option AV
  | .add=>some (.int (a+b))
  | .sub=>some (.int (a-b))
  | .mul=>if a.natAbs≤cap∧b.natAbs≤cap then some (.int (a * b)) else Option.none
  | .mod=>if b=0 then Option.none else some (.int (a.fmod b))
  | .fdiv=>if b≠0∧b.natAbs≤cap then some (.int (a.fdiv b)) else Option.none
noncomputable def isAdd:BOp→Bool | .add=>true | _=>false
noncomputable def binAV (o:BOp) (x y:AV):Option AV :=
  match x with
  | .int a=>match y with | .int b=>intBin a b o | _=>Option.none
  | .str a=>match y with | .str b=>bif isAdd o then (if a.length+b.length≤cap then some (.str (a++b)) else Option.none) else Option.none | _=>Option.none
  | .lst a=>match y with | .lst b=>bif isAdd o then (if a.length+b.length≤cap then some (.lst (a++b)) else Option.none) else Option.none | _=>Option.none
  | _=>Option.none
noncomputable def spotOf (n:Nat) (i:Int):Option Nat :=
  if 0≤i then (if i<n then some i.toNat else Option.none)
  else if 0≤i+n then some (i+n).toNat else Option.none
noncomputable def strAt (s:Str) (i:Int):Option AV :=
  if s.length≤cap then (match spotOf s.length i with | some j=>(s.cps[j]?).map fun c=>.str ⟨#[c]⟩ | _=>Option.none) else Option.none
noncomputable def subAV (H:Hp) (a i:AV):Option AV :=
  match i with
  | .int i=>match a with
    | .str s=>strAt s i
    | a=>match seqOf H a with
      | some l=>match spotOf l.length i with | some j=>l[j]? | _=>Option.none
      | _=>Option.none
  | .str s=>match a with
    | .ref k=>match H k with | some (.dS l)=>getK l s | _=>Option.none
    | _=>Option.none
  | _=>Option.none
noncomputable def lenAV (H:Hp):AV→Option Nat
  | .tup l=>some l.length
  | .lst l=>some l.length
  | .ref k=>match H k with
    | some (.list l)=>some l.length
    | some (.dS l)=>some l.length
    | some (.dI l)=>some l.length
    | _=>Option.none
  | _=>Option.none
noncomputable def attrAV (H:Hp) (a:AV) (f:Str):Option AV :=
  match a with
  | .obj _ k=>match H k with | some (.ins l)=>getK l f | _=>Option.none
  | _=>Option.none
noncomputable def isNoneAV:AV→Bool | .none=>true | _=>false
noncomputable def clsOf:Fn→Option Cl
  | .nullable=>some .grammar
  | .first=>some .grammar
  | .predict=>some .grammar
  | _=>Option.none
noncomputable def methName:Fn→Str
  | .nullable => "nullable"
  | .first => "first"
  | .predict => "predict"
  | _ => ""
noncomputable def initOf:Cl→Fn
  | .grammar=>.gInit
  | .recognised=>.rInit
noncomputable def pair2:AV→Option (AV × AV)
  | .tup l=>(match l with | [a,b]=>some (a,b) | _=>Option.none)
  | _=>Option.none
noncomputable def bindT (t:MT) (v:AV) (m:Lo):Option Lo :=
  match t with
  | .one i=>if i<m.length then some (m.set i (some v)) else Option.none
  | .two i j=>match pair2 v with
    | some p=>if i<m.length∧j<m.length then some ((m.set i (some p.1)).set j (some p.2)) else Option.none
    | Option.none=>Option.none
noncomputable def digit (i:Int):Str:=⟨#[48+i.toNat]⟩
noncomputable def END:AV:=.str "eof"
noncomputable def CLOSE : AV := .tup [.str "close", .str ""]
abbrev CallP:=Fn→List AV→Hp→(AV→Hp→Prop)→Prop
abbrev QV:=AV→Hp→Prop
abbrev QF:=Fl→Lo→Hp→Prop
noncomputable def compL (c e:Lo→Hp→QV→Prop) (i:Nat) (m:Lo):List AV→List AV→Hp→(List AV→Hp→Prop)→Prop
  | [],acc,H,Q=>Q acc H
  | v::vs,acc,H,Q=>c (m.set i (some v)) H fun b H' =>
      (b=.bool true∧e (m.set i (some v)) H' fun w H''=>acc.length<cap∧compL c e i m vs (acc++[w]) H'' Q)
      ∨ (b=.bool false∧compL c e i m vs acc H' Q)
noncomputable def frozOf:AV→Option (List AV)
  | .tup l=>some l
  | .lst l=>some l
  | _=>Option.none
noncomputable def mergeK (l:List (Str × AV)) (ks:List Str):List (Str × AV):=ks.foldl (fun l k=>setK l k (.bool true)) l
mutual
noncomputable def vcE (C:CallP):ME→Lo→Hp→QV→Prop
  | .none=>fun _ H Q=>Q .none H
  | .bool b=>fun _ H Q=>Q (.bool b) H
  | .int i=>fun _ H Q=>Q (.int i) H
  | .str s=>fun _ H Q=>Q (.str s) H
  | .var i=>fun m H Q=>∃ v,m.at i=some v∧Q v H
  | .gEnd=>fun _ H Q=>Q END H
  | .gClose=>fun _ H Q=>Q CLOSE H
  | .tup l=>fun m H Q=>vcEs C l m H fun vs H1=>Q (.tup vs) H1
  | .lstD l=>fun m H Q=>vcEs C l m H fun vs H1=>∀ k,H1 k=Option.none→Q (.ref k) (H1.set k (.list vs))
  | .lstF l=>fun m H Q=>vcEs C l m H fun vs H1=>Q (.lst vs) H1
  | .dS=>fun _ H Q=>∀ k,H k=Option.none→Q (.ref k) (H.set k (.dS []))
  | .dI=>fun _ H Q=>∀ k,H k=Option.none→Q (.ref k) (H.set k (.dI []))
  | .d1 a b=>fun m H Q=>vcE C a m H fun x H1=>vcE C b m H1 fun y H2 =>
      ∃ s,x=.str s∧∀ k,H2 k=Option.none→Q (.ref k) (H2.set k (.dS [(s,y)]))
  | .bin o a b=>fun m H Q=>vcE C a m H fun x H1=>vcE C b m H1 fun y H2=>∃ z,binAV o x y=some z∧Q z H2
  | .cmp o a b=>fun m H Q=>vcE C a m H fun x H1=>vcE C b m H1 fun y H2=>∃ z,cmpAV H2 o x y=some z∧Q (.bool z) H2
  | .isNone a=>fun m H Q=>vcE C a m H fun x H1=>Q (.bool (isNoneAV x)) H1
  | .and a b=>fun m H Q=>vcE C a m H fun x H1=>(x=.bool false∧Q (.bool false) H1)∨(x=.bool true∧vcE C b m H1 fun y H2=>(∃ z,y=.bool z)∧Q y H2)
  | .or a b=>fun m H Q=>vcE C a m H fun x H1=>(x=.bool true∧Q (.bool true) H1)∨(x=.bool false∧vcE C b m H1 fun y H2=>(∃ z,y=.bool z)∧Q y H2)
  | .not a=>fun m H Q=>vcE C a m H fun x H1=>∃ b,x=.bool b∧Q (.bool (!b)) H1
  | .ite c a b=>fun m H Q=>vcE C c m H fun x H1=>(x=.bool true∧vcE C a m H1 Q)∨(x=.bool false∧vcE C b m H1 Q)
  | .sub a i=>fun m H Q=>vcE C a m H fun x H1=>vcE C i m H1 fun y H2=>∃ z,subAV H2 x y=some z∧Q z H2
  | .sliceTo a b=>fun m H Q=>vcE C a m H fun x H1=>vcE C b m H1 fun y H2 =>
      ∃ l i,listOf H2 x=some l∧y=.int i∧0≤i∧Q (.lst (l.take i.toNat)) H2
  | .sliceFrom a b=>fun m H Q=>vcE C a m H fun x H1=>vcE C b m H1 fun y H2 =>
      ∃ l i,listOf H2 x=some l∧y=.int i∧0≤i∧Q (.lst (l.drop i.toNat)) H2
  | .attr a f=>fun m H Q=>vcE C a m H fun x H1=>∃ z,attrAV H1 x f=some z∧Q z H1
  | .call f l=>fun m H Q=>vcEs C l m H fun vs H1=>C f vs H1 Q
  | .new c l=>fun m H Q=>vcEs C l m H fun vs H1=>∀ k,H1 k=Option.none →
      C (initOf c) (.obj c k::vs) (H1.set k (.ins [])) fun v H2=>v=.none∧Q (.obj c k) H2
  | .meth f o l=>fun m H Q=>vcE C o m H fun x H1=>(∃ c k l,clsOf f=some c∧x=.obj c k∧H1 k=some (.ins l)∧getK l (methName f)=Option.none) ∧
      vcEs C l m H1 fun vs H2=>C f (x::vs) H2 Q
  | .append a b=>fun m H Q=>vcE C a m H fun x H1=>(∃ k l,x=.ref k∧H1 k=some (.list l))∧vcE C b m H1 fun y H2 =>
      ∃ k l,x=.ref k∧H2 k=some (.list l)∧l.length<cap∧Q .none (H2.set k (.list (l++[y])))
  | .pop a=>fun m H Q=>vcE C a m H fun x H1 =>
      ∃ k l v,x=.ref k∧H1 k=some (.list (l++[v]))∧Q v (H1.set k (.list l))
  | .extend a b=>fun m H Q=>vcE C a m H fun x H1=>(∃ k l,x=.ref k∧H1 k=some (.list l))∧vcE C b m H1 fun y H2 =>
      ∃ k l l',x=.ref k∧H2 k=some (.list l)∧y=.lst l'∧l.length+l'.length≤cap∧Q .none (H2.set k (.list (l++l')))
  | .extendRev a b=>fun m H Q=>vcE C a m H fun x H1=>(∃ k l,x=.ref k∧H1 k=some (.list l))∧vcE C b m H1 fun y H2 =>
      ∃ k l l',x=.ref k∧H2 k=some (.list l)∧y=.tup l'∧l.length+l'.length≤cap∧Q .none (H2.set k (.list (l++l'.reverse)))
  | .reverse a=>fun m H Q=>vcE C a m H fun x H1 =>
      ∃ k l,x=.ref k∧H1 k=some (.list l)∧Q .none (H1.set k (.list l.reverse))
  | .len a=>fun m H Q=>vcE C a m H fun x H1=>∃ n,lenAV H1 x=some n∧Q (.int n) H1
  | .sorted a=>fun m H Q=>vcE C a m H fun x H1=>∃ l,srcOf H1 x=some l∧l.length<64 ∧
      ((∃ u,intsOf l=some u∧∀ w:List Int,w.Perm u→Q (.lst (w.map .int)) H1)
       ∨ (∃ u,strsOf l=some u∧∀ w:List Str,w.Perm u→Q (.lst (w.map .str)) H1))
  | .sortedSet a=>fun m H Q=>vcE C a m H fun x H1=>∃ l u,x=.lst l∧l.length<4000∧intsOf l=some u ∧
      ∀ w:List Int,w.Nodup→(∀ i,i∈w ↔ i∈u)→w.length<64∧Q (.lst (w.map .int)) H1
  | .list a=>fun m H Q=>vcE C a m H fun x H1=>∃ l,x=.lst l∧Q (.lst l) H1
  | .listRev a=>fun m H Q=>vcE C a m H fun x H1=>∃ l,x=.tup l∧Q (.lst l.reverse) H1
  | .dict a=>fun m H Q=>vcE C a m H fun x H1=>∃ j l,x=.ref j∧H1 j=some (.dS l) ∧
      ∀ k,H1 k=Option.none→Q (.ref k) (H1.set k (.dS l))
  | .sum a=>fun m H Q=>vcE C a m H fun x H1=>∃ l u,listOf H1 x=some l∧intsOf l=some u∧Q (.int u.sum) H1
  | .max a b=>fun m H Q=>vcE C a m H fun x H1=>vcE C b m H1 fun y H2 =>
      ∃ i j,x=.int i∧y=.int j∧Q (.int (if j > i then j else i)) H2
  | .strOf a=>fun m H Q=>vcE C a m H fun x H1=>∃ i,x=.int i∧0≤i∧i≤9∧Q (.str (digit i)) H1
  | .tuple a=>fun m H Q=>vcE C a m H fun x H1=>∃ l,listOf H1 x=some l∧Q (.tup l) H1
  | .isInt a=>fun m H Q=>vcE C a m H fun x H1=>((∃ i,x=.int i)∧Q (.bool true) H1)∨((∃ l,x=.tup l)∧Q (.bool false) H1)
  | .comp elt i src cond=>fun m H Q=>vcE C src m H fun x H1=>i<m.length∧∃ l,frozOf x=some l∧l.length≤cap ∧
      compL (vcE C cond) (vcE C elt) i m l [] H1 fun acc H2=>Q (.lst acc) H2
  | .compIn i j=>fun m H Q=>∃ a b l l',m.at i=some (.ref a)∧m.at j=some (.ref b)∧H a=some (.dS l)∧H b=some (.dS l') ∧
      Q (.lst (((l.map (·.1)).filter fun x=>decide (x∈l'.map (·.1))).map .str)) H
noncomputable def vcEs (C:CallP):MEs→Lo→Hp→(List AV→Hp→Prop)→Prop
  | .nil=>fun _ H Q=>Q [] H
  | .cons e l=>fun m H Q=>vcE C e m H fun v H1=>vcEs C l m H1 fun vs H2=>Q (v::vs) H2
end
noncomputable abbrev kont (b:Lo→Hp→QF→Prop) (Q:QF):QF:=fun fl m H=>fl.casesOn (b m H Q) fun v=>Q (.ret v) m H
noncomputable abbrev stepK (P:Lo→Hp→Prop) (Q:QF):QF:=fun fl m H=>fl.casesOn (P m H) fun v=>Q (.ret v) m H
noncomputable abbrev retK (Q:QV):QF:=fun fl _ H'=>∃ H'':Hp,H''.le H'∧fl.casesOn (Q .none H'') fun v=>Q v H''
noncomputable def whileN (c:Lo→Hp→QV→Prop) (b:Lo→Hp→QF→Prop):Nat→Lo→Hp→QF→Prop
  | 0,_,_,_=>False
  | n+1,m,H,Q=>c m H fun x H' =>
      (x=.bool true∧b m H' (kont (whileN c b n) Q))
      ∨ (x=.bool false∧Q .next m H')
noncomputable def forL (b:Lo→Hp→QF→Prop) (live:Hp→Prop) (t:MT):List AV→Lo→Hp→QF→Prop
  | [],m,H,Q=>live H∧Q .next m H
  | v::vs,m,H,Q=>live H∧∃ m',bindT t v m=some m'∧b m' H (kont (forL b live t vs) Q)
noncomputable def rangeL (n:Int):List AV:=(List.range n.toNat).map fun i=>.int (Int.ofNat i)
mutual
noncomputable def vcS (C:CallP):MS→Lo→Hp→QF→Prop
  | .assign i e=>fun m H Q=>vcE C e m H fun v H1=>i<m.length∧Q .next (m.set i (some v)) H1
  | .assignComp i e=>fun m H Q=>vcE C e m H fun v H1=>i<m.length∧Q .next (m.set i (some v)) H1
  | .setAttr o f e=>fun m H Q=>vcE C e m H fun v H1=>vcE C o m H1 fun x H2 =>
      ∃ c k l,x=.obj c k∧H2 k=some (.ins l)∧l.length<500∧Q .next m (H2.set k (.ins (setK l f v)))
  | .setSub o i e=>fun m H Q=>vcE C e m H fun v H1=>vcE C o m H1 fun x H2=>vcE C i m H2 fun y H3 =>
      ∃ k,x=.ref k ∧
        ((∃ l s,H3 k=some (.dS l)∧y=.str s∧l.length<cap∧Q .next m (H3.set k (.dS (setK l s v))))
        ∨ (∃ l j,H3 k=some (.dI l)∧y=.int j∧l.length<cap∧Q .next m (H3.set k (.dI (setK l j v))))
        ∨ (∃ l n,H3 k=some (.list l)∧y=.int (Int.ofNat n)∧n<l.length∧Q .next m (H3.set k (.list (l.set n v)))))
  | .unpack i j e=>fun m H Q=>vcE C e m H fun v H1=>i<m.length∧j<m.length∧∃ a b,v=.tup [a,b]∧Q .next ((m.set i (some a)).set j (some b)) H1
  | .augVar i e=>fun m H Q=>∃ a,m.at i=some (.int a)∧vcE C e m H fun y H1=>∃ b,y=.int b∧i<m.length∧Q .next (m.set i (some (.int (a-b)))) H1
  | .augSub o i e=>fun m H Q=>vcE C o m H fun x H1=>vcE C i m H1 fun y H2=>∃ w a,subAV H2 x y=some w∧w=.int a∧vcE C e m H2 fun v H3 =>
      ∃ k l n b,x=.ref k∧y=.int (Int.ofNat n)∧H3 k=some (.list l)∧n<l.length∧v=.int b
        ∧ Q .next m (H3.set k (.list (l.set n (.int (a-b)))))
  | .augList i e=>fun m H Q=>∃ k,m.at i=some (.ref k)∧vcE C e m H fun y H1=>∃ l l',H1 k=some (.list l)∧listOf H1 y=some l'∧l.length+l'.length≤cap∧i<m.length ∧
      Q .next m (H1.set k (.list (l++l')))
  | .expr e=>fun m H Q=>vcE C e m H fun _ H1=>Q .next m H1
  | .ifs c a b=>fun m H Q=>vcE C c m H fun x H1=>(x=.bool true∧vcSs C a m H1 Q)∨(x=.bool false∧vcSs C b m H1 Q)
  | .while c b=>fun m H Q=>∃ n,whileN (vcE C c) (vcSs C b) n m H Q
  | .merge i sr tg=>fun m H Q=>∃ j k l l',m.at sr=some (.ref j)∧m.at tg=some (.ref k)∧i≠tg∧i<m.length∧j≠k∧H j=some (.dS l')∧H k=some (.dS l)∧l.length+l'.length≤cap ∧
      ∀ m':Lo,m'.length=m.length→(∀ q,q≠i→m'.at q=m.at q)→Q .next m' (H.set k (.dS (mergeK l (l'.map (·.1)))))
  | .for t src b=>fun m H Q=>vcE C src m H fun x H1=>∃ l,seqOf H1 x=some l∧forL (vcSs C b) (Live H1 x) t l m H1 Q
  | .forRev t src b=>fun m H Q=>vcE C src m H fun x H1=>∃ l,x=.tup l∧forL (vcSs C b) (fun _=>True) t l.reverse m H1 Q
  | .forRange t n b=>fun m H Q=>vcE C n m H fun x H1=>∃ i,x=.int i∧0≤i∧i≤cap∧forL (vcSs C b) (fun _=>True) t (rangeL i) m H1 Q
  | .ret e=>fun m H Q=>vcE C e m H fun v H1=>Q (.ret v) m H1
  | .retNone=>fun m H Q=>Q (.ret .none) m H
  | .raise=>fun _ _ _=>False
noncomputable def vcSs (C:CallP):MSs→Lo→Hp→QF→Prop
  | .nil=>fun m H Q=>Q .next m H
  | .cons s l=>fun m H Q=>vcS C s m H (kont (vcSs C l) Q)
end
structure FD where
  np:Nat
  nl:Nat
  body:MSs
noncomputable def initLo (vs:List AV) (n:Nat):Lo:=vs.map some++List.replicate (n-vs.length) Option.none
noncomputable def callN (fd:Fn→FD):Nat→CallP
  | 0=>fun _ _ _ _=>False
  | n+1=>fun f vs H Q=>vs.length=(fd f).np∧vcSs (callN fd n) (fd f).body (initLo vs (fd f).nl) H (retK Q)
noncomputable def MonoC (C:CallP):Prop:=∀ f vs H (Q Q':QV),(∀ v H',Q v H'→Q' v H')→C f vs H Q→C f vs H Q'
end LY.Internal
end

section
open PySem
namespace LY.Internal
noncomputable def MonoE (b:Lo→Hp→QV→Prop):Prop:=∀ m H (Q Q':QV),(∀ v H',Q v H'→Q' v H')→b m H Q→b m H Q'
noncomputable def MonoEs (b:Lo→Hp→(List AV→Hp→Prop)→Prop):Prop:=∀ m H (Q Q':List AV→Hp→Prop),(∀ v H',Q v H'→Q' v H')→b m H Q→b m H Q'
noncomputable def MonoF (b:Lo→Hp→QF→Prop):Prop:=∀ m H (Q Q':QF),(∀ g m' H',Q g m' H'→Q' g m' H')→b m H Q→b m H Q'
theorem kont_mono {b:Lo→Hp→QF→Prop} (hb:MonoF b) {Q Q':QF} (h:∀ g m' H',Q g m' H'→Q' g m' H'):∀ g m' H',kont b Q g m' H'→kont b Q' g m' H'
  | .next=>fun _ _=>hb _ _ _ _ h
  | .ret _=>h _
theorem compL_mono {c e:Lo→Hp→QV→Prop} (hc:MonoE c) (he:MonoE e) {i:Nat} {m:Lo}:∀ (l acc:List AV) (H:Hp) (Q Q':List AV→Hp→Prop),(∀ v H',Q v H'→Q' v H')→compL c e i m l acc H Q→compL c e i m l acc H Q'
  | []=>fun _ _ _ _ h=>h _ _
  | v::vs=>fun _ _ _ _ h=>hc _ _ _ _ fun b H'=>Or.imp (And.imp_right (he _ _ _ _ fun w H''=>And.imp_right (compL_mono hc he vs _ _ _ _ h))) (And.imp_right (compL_mono hc he vs _ _ _ _ h))
theorem forL_mono {b:Lo→Hp→QF→Prop} (hb:MonoF b) {live:Hp→Prop} {t:MT}:∀ (l:List AV),MonoF (forL b live t l)
  | []=>fun _ _ _ _ h=>And.imp_right (h _ _ _)
  | _::vs=>fun _ _ _ _ h=>And.imp_right (Exists.imp fun _=>And.imp_right (hb _ _ _ _ (kont_mono (forL_mono hb vs) h)))
theorem whileN_mono {c:Lo→Hp→QV→Prop} {b:Lo→Hp→QF→Prop} (hc:MonoE c) (hb:MonoF b):∀ n,MonoF (whileN c b n)
  | 0=>fun _ _ _ _ _ p=>p.elim
  | n+1=>fun _ _ _ _ h=>hc _ _ _ _ fun _ _=>Or.imp (And.imp_right (hb _ _ _ _ (kont_mono (whileN_mono hc hb n) h))) (And.imp_right (h _ _ _))
variable {C:CallP}
mutual
theorem vcE_mono (hC:MonoC C):∀ e,MonoE (vcE C e)
  | .none=>fun _ _ _ _ h=>h _ _
  | .bool _=>fun _ _ _ _ h=>h _ _
  | .int _=>fun _ _ _ _ h=>h _ _
  | .str _=>fun _ _ _ _ h=>h _ _
  | .var _=>fun _ _ _ _ h=>Exists.imp fun _=>And.imp_right (h _ _)
  | .gEnd=>fun _ _ _ _ h=>h _ _
  | .gClose=>fun _ _ _ _ h=>h _ _
  | .tup l=>fun _ _ _ _ h=>vcEs_mono hC l _ _ _ _ fun _ _=>h _ _
  | .lstD l=>fun _ _ _ _ h=>vcEs_mono hC l _ _ _ _ fun _ _ p k hk=>h _ _ (p k hk)
  | .lstF l=>fun _ _ _ _ h=>vcEs_mono hC l _ _ _ _ fun _ _=>h _ _
  | .dS=>fun _ _ _ _ h p k hk=>h _ _ (p k hk)
  | .dI=>fun _ _ _ _ h p k hk=>h _ _ (p k hk)
  | .d1 a b=>fun _ _ _ _ h=>vcE_mono hC a _ _ _ _ fun _ _=>vcE_mono hC b _ _ _ _ fun _ _=>Exists.imp fun _=>And.imp_right fun p k hk=>h _ _ (p k hk)
  | .bin _ a b=>fun _ _ _ _ h=>vcE_mono hC a _ _ _ _ fun _ _=>vcE_mono hC b _ _ _ _ fun _ _=>Exists.imp fun _=>And.imp_right (h _ _)
  | .cmp _ a b=>fun _ _ _ _ h=>vcE_mono hC a _ _ _ _ fun _ _=>vcE_mono hC b _ _ _ _ fun _ _=>Exists.imp fun _=>And.imp_right (h _ _)
  | .isNone a=>fun _ _ _ _ h=>vcE_mono hC a _ _ _ _ fun _ _=>h _ _
  | .and a b=>fun _ _ _ _ h=>vcE_mono hC a _ _ _ _ fun _ _=>Or.imp (And.imp_right (h _ _)) (And.imp_right (vcE_mono hC b _ _ _ _ fun _ _=>And.imp_right (h _ _)))
  | .or a b=>fun _ _ _ _ h=>vcE_mono hC a _ _ _ _ fun _ _=>Or.imp (And.imp_right (h _ _)) (And.imp_right (vcE_mono hC b _ _ _ _ fun _ _=>And.imp_right (h _ _)))
  | .not a=>fun _ _ _ _ h=>vcE_mono hC a _ _ _ _ fun _ _=>Exists.imp fun _=>And.imp_right (h _ _)
  | .ite c a b=>fun _ _ _ _ h=>vcE_mono hC c _ _ _ _ fun _ _=>Or.imp (And.imp_right (vcE_mono hC a _ _ _ _ h)) (And.imp_right (vcE_mono hC b _ _ _ _ h))
  | .sub a b=>fun _ _ _ _ h=>vcE_mono hC a _ _ _ _ fun _ _=>vcE_mono hC b _ _ _ _ fun _ _=>Exists.imp fun _=>And.imp_right (h _ _)
  | .sliceTo a b=>fun _ _ _ _ h=>vcE_mono hC a _ _ _ _ fun _ _=>vcE_mono hC b _ _ _ _ fun _ _=>Exists.imp fun _=>Exists.imp fun _=>And.imp_right (And.imp_right (And.imp_right (h _ _)))
  | .sliceFrom a b=>fun _ _ _ _ h=>vcE_mono hC a _ _ _ _ fun _ _=>vcE_mono hC b _ _ _ _ fun _ _=>Exists.imp fun _=>Exists.imp fun _=>And.imp_right (And.imp_right (And.imp_right (h _ _)))
  | .attr a _=>fun _ _ _ _ h=>vcE_mono hC a _ _ _ _ fun _ _=>Exists.imp fun _=>And.imp_right (h _ _)
  | .call _ l=>fun _ _ _ _ h=>vcEs_mono hC l _ _ _ _ fun _ _=>hC _ _ _ _ _ h
  | .new _ l=>fun _ _ _ _ h=>vcEs_mono hC l _ _ _ _ fun _ _ p k hk=>hC _ _ _ _ _ (fun _ _=>And.imp_right (h _ _)) (p k hk)
  | .meth _ o l=>fun _ _ _ _ h=>vcE_mono hC o _ _ _ _ fun _ _=>And.imp_right (vcEs_mono hC l _ _ _ _ fun _ _=>hC _ _ _ _ _ h)
  | .append a b=>fun _ _ _ _ h=>vcE_mono hC a _ _ _ _ fun _ _=>And.imp_right (vcE_mono hC b _ _ _ _ fun _ _=>Exists.imp fun _=>Exists.imp fun _=>And.imp_right (And.imp_right (And.imp_right (h _ _))))
  | .pop a=>fun _ _ _ _ h=>vcE_mono hC a _ _ _ _ fun _ _=>Exists.imp fun _=>Exists.imp fun _=>Exists.imp fun _=>And.imp_right (And.imp_right (h _ _))
  | .extend a b=>fun _ _ _ _ h=>vcE_mono hC a _ _ _ _ fun _ _=>And.imp_right (vcE_mono hC b _ _ _ _ fun _ _=>Exists.imp fun _=>Exists.imp fun _=>Exists.imp fun _=>And.imp_right (And.imp_right (And.imp_right (And.imp_right (h _ _)))))
  | .extendRev a b=>fun _ _ _ _ h=>vcE_mono hC a _ _ _ _ fun _ _=>And.imp_right (vcE_mono hC b _ _ _ _ fun _ _=>Exists.imp fun _=>Exists.imp fun _=>Exists.imp fun _=>And.imp_right (And.imp_right (And.imp_right (And.imp_right (h _ _)))))
  | .reverse a=>fun _ _ _ _ h=>vcE_mono hC a _ _ _ _ fun _ _=>Exists.imp fun _=>Exists.imp fun _=>And.imp_right (And.imp_right (h _ _))
  | .len a=>fun _ _ _ _ h=>vcE_mono hC a _ _ _ _ fun _ _=>Exists.imp fun _=>And.imp_right (h _ _)
  | .sorted a=>fun _ _ _ _ h=>vcE_mono hC a _ _ _ _ fun _ _=>Exists.imp fun _=>And.imp_right (And.imp_right (Or.imp (Exists.imp fun _=>And.imp_right fun p w hw=>h _ _ (p w hw)) (Exists.imp fun _=>And.imp_right fun p w hw=>h _ _ (p w hw))))
  | .sortedSet a=>fun _ _ _ _ h=>vcE_mono hC a _ _ _ _ fun _ _=>Exists.imp fun _=>Exists.imp fun _=>And.imp_right (And.imp_right (And.imp_right fun p w h1 h2=>And.imp_right (h _ _) (p w h1 h2)))
  | .list a=>fun _ _ _ _ h=>vcE_mono hC a _ _ _ _ fun _ _=>Exists.imp fun _=>And.imp_right (h _ _)
  | .listRev a=>fun _ _ _ _ h=>vcE_mono hC a _ _ _ _ fun _ _=>Exists.imp fun _=>And.imp_right (h _ _)
  | .dict a=>fun _ _ _ _ h=>vcE_mono hC a _ _ _ _ fun _ _=>Exists.imp fun _=>Exists.imp fun _=>And.imp_right (And.imp_right fun p k hk=>h _ _ (p k hk))
  | .sum a=>fun _ _ _ _ h=>vcE_mono hC a _ _ _ _ fun _ _=>Exists.imp fun _=>Exists.imp fun _=>And.imp_right (And.imp_right (h _ _))
  | .max a b=>fun _ _ _ _ h=>vcE_mono hC a _ _ _ _ fun _ _=>vcE_mono hC b _ _ _ _ fun _ _=>Exists.imp fun _=>Exists.imp fun _=>And.imp_right (And.imp_right (h _ _))
  | .strOf a=>fun _ _ _ _ h=>vcE_mono hC a _ _ _ _ fun _ _=>Exists.imp fun _=>And.imp_right (And.imp_right (And.imp_right (h _ _)))
  | .tuple a=>fun _ _ _ _ h=>vcE_mono hC a _ _ _ _ fun _ _=>Exists.imp fun _=>And.imp_right (h _ _)
  | .isInt a=>fun _ _ _ _ h=>vcE_mono hC a _ _ _ _ fun _ _=>Or.imp (And.imp_right (h _ _)) (And.imp_right (h _ _))
  | .comp elt _ src cond=>fun _ _ _ _ h=>vcE_mono hC src _ _ _ _ fun _ _=>And.imp_right (Exists.imp fun _=>And.imp_right (And.imp_right (compL_mono (vcE_mono hC cond) (vcE_mono hC elt) _ _ _ _ _ fun _ _=>h _ _)))
  | .compIn _ _=>fun _ _ _ _ h=>Exists.imp fun _=>Exists.imp fun _=>Exists.imp fun _=>Exists.imp fun _=>And.imp_right (And.imp_right (And.imp_right (And.imp_right (h _ _))))
theorem vcEs_mono (hC:MonoC C):∀ l,MonoEs (vcEs C l)
  | .nil=>fun _ _ _ _ h=>h _ _
  | .cons e l=>fun _ _ _ _ h=>vcE_mono hC e _ _ _ _ fun _ _=>vcEs_mono hC l _ _ _ _ fun _ _=>h _ _
end
mutual
theorem vcS_mono (hC:MonoC C):∀ s,MonoF (vcS C s)
  | .assign _ e=>fun _ _ _ _ h=>vcE_mono hC e _ _ _ _ fun _ _=>And.imp_right (h _ _ _)
  | .assignComp _ e=>fun _ _ _ _ h=>vcE_mono hC e _ _ _ _ fun _ _=>And.imp_right (h _ _ _)
  | .setAttr o _ e=>fun _ _ _ _ h=>vcE_mono hC e _ _ _ _ fun _ _=>vcE_mono hC o _ _ _ _ fun _ _=>Exists.imp fun _=>Exists.imp fun _=>Exists.imp fun _=>And.imp_right (And.imp_right (And.imp_right (h _ _ _)))
  | .setSub o i e=>fun _ _ _ _ h=>vcE_mono hC e _ _ _ _ fun _ _=>vcE_mono hC o _ _ _ _ fun _ _=>vcE_mono hC i _ _ _ _ fun _ _=>Exists.imp fun _=>And.imp_right (Or.imp
      (Exists.imp fun _=>Exists.imp fun _=>And.imp_right (And.imp_right (And.imp_right (h _ _ _)))) (Or.imp (Exists.imp fun _=>Exists.imp fun _=>And.imp_right (And.imp_right (And.imp_right (h _ _ _))))
      (Exists.imp fun _=>Exists.imp fun _=>And.imp_right (And.imp_right (And.imp_right (h _ _ _))))))
  | .unpack _ _ e=>fun _ _ _ _ h=>vcE_mono hC e _ _ _ _ fun _ _=>And.imp_right (And.imp_right (Exists.imp fun _=>Exists.imp fun _=>And.imp_right (h _ _ _)))
  | .augVar _ e=>fun _ _ _ _ h=>Exists.imp fun _=>And.imp_right (vcE_mono hC e _ _ _ _ fun _ _=>Exists.imp fun _=>And.imp_right (And.imp_right (h _ _ _)))
  | .augSub o i e=>fun _ _ _ _ h=>vcE_mono hC o _ _ _ _ fun _ _=>vcE_mono hC i _ _ _ _ fun _ _=>Exists.imp fun _=>Exists.imp fun _=>And.imp_right (And.imp_right (vcE_mono hC e _ _ _ _ fun _ _ =>
      Exists.imp fun _=>Exists.imp fun _=>Exists.imp fun _=>Exists.imp fun _=>And.imp_right (And.imp_right (And.imp_right (And.imp_right (And.imp_right (h _ _ _)))))))
  | .augList _ e=>fun _ _ _ _ h=>Exists.imp fun _=>And.imp_right (vcE_mono hC e _ _ _ _ fun _ _=>Exists.imp fun _=>Exists.imp fun _=>And.imp_right (And.imp_right (And.imp_right (And.imp_right (h _ _ _)))))
  | .expr e=>fun _ _ _ _ h=>vcE_mono hC e _ _ _ _ fun _ _=>h _ _ _
  | .ifs c a b=>fun _ _ _ _ h=>vcE_mono hC c _ _ _ _ fun _ _=>Or.imp (And.imp_right (vcSs_mono hC a _ _ _ _ h)) (And.imp_right (vcSs_mono hC b _ _ _ _ h))
  | .while c b=>fun _ _ _ _ h=>Exists.imp fun n=>whileN_mono (vcE_mono hC c) (vcSs_mono hC b) n _ _ _ _ h
  | .merge _ _ _=>fun _ _ _ _ h=>Exists.imp fun _=>Exists.imp fun _=>Exists.imp fun _=>Exists.imp fun _=>And.imp_right (And.imp_right (And.imp_right (And.imp_right (And.imp_right (And.imp_right (And.imp_right (And.imp_right fun p m' h1 h2=>h _ _ _ (p m' h1 h2))))))))
  | .for _ src b=>fun _ _ _ _ h=>vcE_mono hC src _ _ _ _ fun _ _=>Exists.imp fun _=>And.imp_right (forL_mono (vcSs_mono hC b) _ _ _ _ _ h)
  | .forRev _ src b=>fun _ _ _ _ h=>vcE_mono hC src _ _ _ _ fun _ _=>Exists.imp fun _=>And.imp_right (forL_mono (vcSs_mono hC b) _ _ _ _ _ h)
  | .forRange _ n b=>fun _ _ _ _ h=>vcE_mono hC n _ _ _ _ fun _ _=>Exists.imp fun _=>And.imp_right (And.imp_right (And.imp_right (forL_mono (vcSs_mono hC b) _ _ _ _ _ h)))
  | .ret e=>fun _ _ _ _ h=>vcE_mono hC e _ _ _ _ fun _ _=>h _ _ _
  | .retNone=>fun _ _ _ _ h=>h _ _ _
  | .raise=>fun _ _ _ _ _ p=>p.elim
theorem vcSs_mono (hC:MonoC C):∀ l,MonoF (vcSs C l)
  | .nil=>fun _ _ _ _ h=>h _ _ _
  | .cons s l=>fun _ _ _ _ h=>vcS_mono hC s _ _ _ _ (kont_mono (vcSs_mono hC l) h)
end
theorem retK_mono {Q Q':QV} (h:∀ v H',Q v H'→Q' v H'):∀ g (m:Lo) H',retK Q g m H'→retK Q' g m H'
  | .next=>fun _ _=>Exists.imp fun _=>And.imp_right (h _ _)
  | .ret _=>fun _ _=>Exists.imp fun _=>And.imp_right (h _ _)
theorem callN_mono (fd:Fn→FD):∀ n,MonoC (callN fd n)
  | 0=>fun _ _ _ _ _ _ p=>p.elim
  | n+1=>fun f _ _ _ _ h=>And.imp_right (vcSs_mono (callN_mono fd n) _ _ _ _ _ (retK_mono h))
end LY.Internal
end

section
open PySem
namespace LY.Internal
noncomputable def b_token_of:MSs :=
  .cons (.ifs (.cmp .eq (.sub (.var 0) (.int 0)) (.str "text")) (.cons (.ret (.sub (.var 0) (.int 1)))
  .nil) .nil)
  (.cons (.ifs (.and (.cmp .eq (.sub (.var 0) (.int 0)) (.str "name")) (.cmp .notin (.sub (.var 0) (.int 1)) (.var 1))) (.cons (.ret (.sub (.var 0) (.int 1)))
  .nil) .nil)
  (.cons (.ret (.str ""))
  .nil))
noncomputable def b_is_token:MSs :=
  .cons (.ret (.or (.cmp .eq (.sub (.var 0) (.int 0)) (.str "text")) (.and (.cmp .eq (.sub (.var 0) (.int 0)) (.str "name")) (.cmp .notin (.sub (.var 0) (.int 1)) (.var 1)))))
  .nil
noncomputable def b_merge:MSs :=
  .cons (.assign 2 (.len (.var 0)))
  (.cons (.merge 3 1 0)
  (.cons (.ret (.cmp .gt (.len (.var 0)) (.var 2)))
  .nil))
noncomputable def b_gInit:MSs :=
  .cons (.setAttr (.var 0) "start" (.var 2))
  (.cons (.setAttr (.var 0) "order" (.lstD .nil))
  (.cons (.setAttr (.var 0) "table" .dS)
  (.cons (.for (.two 3 4) (.var 1) (.cons (.ifs (.cmp .notin (.var 3) (.attr (.var 0) "table")) (.cons (.expr (.append (.attr (.var 0) "order") (.var 3)))
  (.cons (.setSub (.attr (.var 0) "table") (.var 3) (.var 4))
  .nil)) .nil)
  .nil))
  (.cons (.setAttr (.var 0) "empty" (.call .empty_rules (.cons (.attr (.var 0) "table") (.cons (.attr (.var 0) "order") .nil))))
  (.cons (.setAttr (.var 0) "firsts" (.call .first_rows (.cons (.attr (.var 0) "table") (.cons (.attr (.var 0) "order") (.cons (.attr (.var 0) "empty") .nil)))))
  (.cons (.setAttr (.var 0) "follows" (.call .follow_rows (.cons (.var 0) .nil)))
  .nil))))))
noncomputable def b_nullable:MSs :=
  .cons (.ret (.call .may_be_empty (.cons (.var 1) (.cons (.attr (.var 0) "table") (.cons (.attr (.var 0) "empty") .nil)))))
  .nil
noncomputable def b_first:MSs :=
  .cons (.ret (.call .first_of (.cons (.var 1) (.cons (.attr (.var 0) "table") (.cons (.attr (.var 0) "empty") (.cons (.attr (.var 0) "firsts") .nil))))))
  .nil
noncomputable def b_predict:MSs :=
  .cons (.assign 3 (.dict (.meth .first (.var 0) (.cons (.var 1) .nil))))
  (.cons (.ifs (.meth .nullable (.var 0) (.cons (.var 1) .nil)) (.cons (.expr (.call .merge (.cons (.var 3) (.cons (.var 2) .nil))))
  .nil) .nil)
  (.cons (.ret (.var 3))
  .nil))
noncomputable def b_may_be_empty:MSs :=
  .cons (.assign 3 (.sub (.var 0) (.int 0)))
  (.cons (.ifs (.or (.cmp .eq (.var 3) (.str "opt")) (.cmp .eq (.var 3) (.str "rep"))) (.cons (.ret (.bool true))
  .nil) .nil)
  (.cons (.ifs (.cmp .eq (.var 3) (.str "seq")) (.cons (.for (.one 4) (.sub (.var 0) (.int 1)) (.cons (.ifs (.not (.call .may_be_empty (.cons (.var 4) (.cons (.var 1) (.cons (.var 2) .nil))))) (.cons (.ret (.bool false))
  .nil) .nil)
  .nil))
  (.cons (.ret (.bool true))
  .nil)) .nil)
  (.cons (.ifs (.cmp .eq (.var 3) (.str "alt")) (.cons (.for (.one 4) (.sub (.var 0) (.int 1)) (.cons (.ifs (.call .may_be_empty (.cons (.var 4) (.cons (.var 1) (.cons (.var 2) .nil)))) (.cons (.ret (.bool true))
  .nil) .nil)
  .nil))
  (.cons (.ret (.bool false))
  .nil)) .nil)
  (.cons (.ret (.and (.cmp .eq (.var 3) (.str "name")) (.cmp .isin (.sub (.var 0) (.int 1)) (.var 2))))
  .nil))))
noncomputable def b_empty_rules:MSs :=
  .cons (.assign 2 .dS)
  (.cons (.assign 3 (.bool true))
  (.cons (.while (.var 3) (.cons (.assign 3 (.bool false))
  (.cons (.for (.one 4) (.var 1) (.cons (.ifs (.and (.cmp .notin (.var 4) (.var 2)) (.call .may_be_empty (.cons (.sub (.var 0) (.var 4)) (.cons (.var 0) (.cons (.var 2) .nil))))) (.cons (.setSub (.var 2) (.var 4) (.bool true))
  (.cons (.assign 3 (.bool true))
  .nil)) .nil)
  .nil))
  .nil)))
  (.cons (.ret (.var 2))
  .nil)))
noncomputable def b_first_of:MSs :=
  .cons (.ifs (.call .is_token (.cons (.var 0) (.cons (.var 1) .nil))) (.cons (.ret (.d1 (.call .token_of (.cons (.var 0) (.cons (.var 1) .nil))) (.bool true)))
  .nil) .nil)
  (.cons (.assign 4 (.sub (.var 0) (.int 0)))
  (.cons (.ifs (.cmp .eq (.var 4) (.str "name")) (.cons (.ret (.sub (.var 3) (.sub (.var 0) (.int 1))))
  .nil) .nil)
  (.cons (.ifs (.or (.cmp .eq (.var 4) (.str "opt")) (.cmp .eq (.var 4) (.str "rep"))) (.cons (.ret (.call .first_of (.cons (.sub (.var 0) (.int 1)) (.cons (.var 1) (.cons (.var 2) (.cons (.var 3) .nil))))))
  .nil) .nil)
  (.cons (.assign 5 .dS)
  (.cons (.for (.one 6) (.sub (.var 0) (.int 1)) (.cons (.expr (.call .merge (.cons (.var 5) (.cons (.call .first_of (.cons (.var 6) (.cons (.var 1) (.cons (.var 2) (.cons (.var 3) .nil))))) .nil))))
  (.cons (.ifs (.and (.cmp .eq (.var 4) (.str "seq")) (.not (.call .may_be_empty (.cons (.var 6) (.cons (.var 1) (.cons (.var 2) .nil)))))) (.cons (.ret (.var 5))
  .nil) .nil)
  .nil)))
  (.cons (.ret (.var 5))
  .nil))))))
noncomputable def b_first_rows:MSs :=
  .cons (.assign 3 .dS)
  (.cons (.for (.one 4) (.var 1) (.cons (.setSub (.var 3) (.var 4) .dS)
  .nil))
  (.cons (.assign 5 (.bool true))
  (.cons (.while (.var 5) (.cons (.assign 5 (.bool false))
  (.cons (.for (.one 4) (.var 1) (.cons (.ifs (.call .merge (.cons (.sub (.var 3) (.var 4)) (.cons (.call .first_of (.cons (.sub (.var 0) (.var 4)) (.cons (.var 0) (.cons (.var 2) (.cons (.var 3) .nil))))) .nil))) (.cons (.assign 5 (.bool true))
  .nil) .nil)
  .nil))
  .nil)))
  (.cons (.ret (.var 3))
  .nil))))
noncomputable def b_follow_rows:MSs :=
  .cons (.assign 1 .dS)
  (.cons (.for (.one 2) (.attr (.var 0) "order") (.cons (.setSub (.var 1) (.var 2) .dS)
  .nil))
  (.cons (.ifs (.cmp .isin (.attr (.var 0) "start") (.var 1)) (.cons (.setSub (.sub (.var 1) (.attr (.var 0) "start")) .gEnd (.bool true))
  .nil) .nil)
  (.cons (.assign 3 (.bool true))
  (.cons (.while (.var 3) (.cons (.assign 3 (.bool false))
  (.cons (.for (.one 2) (.attr (.var 0) "order") (.cons (.ifs (.call .add_follows (.cons (.var 0) (.cons (.sub (.attr (.var 0) "table") (.var 2)) (.cons (.sub (.var 1) (.var 2)) (.cons (.var 1) .nil))))) (.cons (.assign 3 (.bool true))
  .nil) .nil)
  .nil))
  .nil)))
  (.cons (.ret (.var 1))
  .nil)))))
noncomputable def b_add_follows:MSs :=
  .cons (.assign 4 (.sub (.var 1) (.int 0)))
  (.cons (.ifs (.cmp .eq (.var 4) (.str "name")) (.cons (.ifs (.cmp .isin (.sub (.var 1) (.int 1)) (.var 3)) (.cons (.ret (.call .merge (.cons (.sub (.var 3) (.sub (.var 1) (.int 1))) (.cons (.var 2) .nil))))
  .nil) .nil)
  (.cons (.ret (.bool false))
  .nil)) .nil)
  (.cons (.ifs (.cmp .eq (.var 4) (.str "text")) (.cons (.ret (.bool false))
  .nil) .nil)
  (.cons (.ifs (.cmp .eq (.var 4) (.str "opt")) (.cons (.ret (.call .add_follows (.cons (.var 0) (.cons (.sub (.var 1) (.int 1)) (.cons (.var 2) (.cons (.var 3) .nil))))))
  .nil) .nil)
  (.cons (.ifs (.cmp .eq (.var 4) (.str "rep")) (.cons (.ret (.call .add_follows (.cons (.var 0) (.cons (.sub (.var 1) (.int 1)) (.cons (.meth .predict (.var 0) (.cons (.var 1) (.cons (.var 2) .nil))) (.cons (.var 3) .nil))))))
  .nil) .nil)
  (.cons (.assign 5 (.bool false))
  (.cons (.for (.two 6 7) (.call .parts (.cons (.var 0) (.cons (.var 1) (.cons (.var 2) .nil)))) (.cons (.ifs (.call .add_follows (.cons (.var 0) (.cons (.var 6) (.cons (.var 7) (.cons (.var 3) .nil))))) (.cons (.assign 5 (.bool true))
  .nil) .nil)
  .nil))
  (.cons (.ret (.var 5))
  .nil)))))))
noncomputable def b_parts:MSs :=
  .cons (.assign 3 (.lstD .nil))
  (.cons (.assign 4 (.var 2))
  (.cons (.forRev (.one 5) (.sub (.var 1) (.int 1)) (.cons (.expr (.append (.var 3) (.tup (.cons (.var 5) (.cons (.var 4) .nil)))))
  (.cons (.ifs (.cmp .eq (.sub (.var 1) (.int 0)) (.str "seq")) (.cons (.assign 4 (.meth .predict (.var 0) (.cons (.var 5) (.cons (.var 4) .nil))))
  .nil) .nil)
  .nil)))
  (.cons (.expr (.reverse (.var 3)))
  (.cons (.ret (.var 3))
  .nil))))
noncomputable def b_shared:MSs :=
  .cons (.ret (.sorted (.compIn 0 1)))
  .nil
noncomputable def b_conflicts:MSs :=
  .cons (.assign 1 (.lstD .nil))
  (.cons (.for (.one 2) (.attr (.var 0) "order") (.cons (.expr (.call .find_conflicts (.cons (.var 0) (.cons (.var 2) (.cons (.sub (.attr (.var 0) "table") (.var 2)) (.cons (.sub (.attr (.var 0) "follows") (.var 2)) (.cons (.var 1) .nil)))))))
  .nil))
  (.cons (.ret (.var 1))
  .nil))
noncomputable def b_find_conflicts:MSs :=
  .cons (.assign 5 (.sub (.var 2) (.int 0)))
  (.cons (.ifs (.or (.cmp .eq (.var 5) (.str "name")) (.cmp .eq (.var 5) (.str "text"))) (.cons .retNone
  .nil) .nil)
  (.cons (.ifs (.or (.cmp .eq (.var 5) (.str "opt")) (.cmp .eq (.var 5) (.str "rep"))) (.cons (.assign 6 (.sub (.var 2) (.int 1)))
  (.cons (.assign 7 (.ite (.cmp .eq (.var 5) (.str "opt")) (.str "option") (.str "repetition")))
  (.cons (.ifs (.meth .nullable (.var 0) (.cons (.var 6) .nil)) (.cons (.expr (.append (.var 4) (.tup (.cons (.var 1) (.cons (.str "empty") (.cons (.lstF .nil) .nil))))))
  .nil) .nil)
  (.cons (.assign 8 (.call .shared (.cons (.meth .first (.var 0) (.cons (.var 6) .nil)) (.cons (.var 3) .nil))))
  (.cons (.ifs (.cmp .gt (.len (.var 8)) (.int 0)) (.cons (.expr (.append (.var 4) (.tup (.cons (.var 1) (.cons (.var 7) (.cons (.var 8) .nil))))))
  .nil) .nil)
  (.cons (.assign 9 (.var 3))
  (.cons (.ifs (.cmp .eq (.var 5) (.str "rep")) (.cons (.assign 9 (.meth .predict (.var 0) (.cons (.var 2) (.cons (.var 3) .nil))))
  .nil) .nil)
  (.cons (.expr (.call .find_conflicts (.cons (.var 0) (.cons (.var 1) (.cons (.var 6) (.cons (.var 9) (.cons (.var 4) .nil)))))))
  (.cons .retNone
  .nil))))))))) .nil)
  (.cons (.ifs (.cmp .eq (.var 5) (.str "alt")) (.cons (.expr (.call .add_alternatives (.cons (.var 0) (.cons (.var 1) (.cons (.var 2) (.cons (.var 3) (.cons (.var 4) .nil)))))))
  .nil) .nil)
  (.cons (.for (.two 10 9) (.call .parts (.cons (.var 0) (.cons (.var 2) (.cons (.var 3) .nil)))) (.cons (.expr (.call .find_conflicts (.cons (.var 0) (.cons (.var 1) (.cons (.var 10) (.cons (.var 9) (.cons (.var 4) .nil)))))))
  .nil))
  .nil))))
noncomputable def b_add_alternatives:MSs :=
  .cons (.assignComp 5 (.comp (.meth .predict (.var 0) (.cons (.var 9) (.cons (.var 3) .nil))) 9 (.sub (.var 2) (.int 1)) (.bool true)))
  (.cons (.forRange (.one 6) (.len (.var 5)) (.cons (.forRange (.one 7) (.var 6) (.cons (.assign 8 (.call .shared (.cons (.sub (.var 5) (.var 7)) (.cons (.sub (.var 5) (.var 6)) .nil))))
  (.cons (.ifs (.cmp .gt (.len (.var 8)) (.int 0)) (.cons (.expr (.append (.var 4) (.tup (.cons (.var 1) (.cons (.str "alternatives") (.cons (.var 8) .nil))))))
  .nil) .nil)
  .nil)))
  .nil))
  .nil)
noncomputable def b_rInit:MSs :=
  .cons (.setAttr (.var 0) "tree" (.var 1))
  (.cons (.setAttr (.var 0) "place" (.var 2))
  (.cons (.setAttr (.var 0) "wanted" (.var 3))
  .nil))
noncomputable def b_token_at:MSs :=
  .cons (.ifs (.cmp .lt (.var 1) (.len (.var 0))) (.cons (.ret (.sub (.var 0) (.var 1)))
  .nil) .nil)
  (.cons (.ret .gEnd)
  .nil)
noncomputable def b_chosen:MSs :=
  .cons (.for (.one 3) (.sub (.var 1) (.int 1)) (.cons (.ifs (.cmp .isin (.var 2) (.meth .first (.var 0) (.cons (.var 3) .nil))) (.cons (.ret (.var 3))
  .nil) .nil)
  .nil))
  (.cons (.for (.one 3) (.sub (.var 1) (.int 1)) (.cons (.ifs (.meth .nullable (.var 0) (.cons (.var 3) .nil)) (.cons (.ret (.var 3))
  .nil) .nil)
  .nil))
  (.cons (.ret .none)
  .nil))
noncomputable def b_expanded:MSs :=
  .cons (.assign 3 (.sub (.var 1) (.int 0)))
  (.cons (.ifs (.cmp .eq (.var 3) (.str "seq")) (.cons (.ret (.listRev (.sub (.var 1) (.int 1))))
  .nil) .nil)
  (.cons (.ifs (.cmp .eq (.var 3) (.str "alt")) (.cons (.assign 4 (.call .chosen (.cons (.var 0) (.cons (.var 1) (.cons (.var 2) .nil)))))
  (.cons (.ret (.ite (.isNone (.var 4)) .none (.lstF (.cons (.var 4) .nil))))
  .nil)) .nil)
  (.cons (.ifs (.cmp .notin (.var 2) (.meth .first (.var 0) (.cons (.sub (.var 1) (.int 1)) .nil))) (.cons (.ret (.lstF .nil))
  .nil) .nil)
  (.cons (.ifs (.cmp .eq (.var 3) (.str "rep")) (.cons (.ret (.lstF (.cons (.var 1) (.cons (.sub (.var 1) (.int 1)) .nil))))
  .nil) .nil)
  (.cons (.ret (.lstF (.cons (.sub (.var 1) (.int 1)) .nil)))
  .nil)))))
noncomputable def b_recognise:MSs :=
  .cons (.assign 3 (.lstD (.cons (.tup (.cons (.str "name") (.cons (.attr (.var 0) "start") .nil))) .nil)))
  (.cons (.assign 4 (.lstD (.cons (.tup (.cons (.str "") (.cons (.lstD .nil) .nil))) .nil)))
  (.cons (.assign 5 (.int 0))
  (.cons (.assign 6 (.int 0))
  (.cons (.while (.cmp .gt (.len (.var 3)) (.int 0)) (.cons (.assign 6 (.bin .add (.var 6) (.int 1)))
  (.cons (.ifs (.cmp .gt (.var 6) (.var 2)) (.cons .raise
  .nil) .nil)
  (.cons (.assign 7 (.pop (.var 3)))
  (.cons (.assign 8 (.call .token_at (.cons (.var 1) (.cons (.var 5) .nil))))
  (.cons (.ifs (.cmp .eq (.var 7) .gClose) (.cons (.unpack 9 10 (.pop (.var 4)))
  (.cons (.expr (.append (.sub (.sub (.var 4) (.int (-1))) (.int 1)) (.tup (.cons (.var 9) (.cons (.tuple (.var 10)) .nil)))))
  .nil)) (.cons (.ifs (.call .is_token (.cons (.var 7) (.cons (.attr (.var 0) "table") .nil))) (.cons (.ifs (.cmp .ne (.var 8) (.call .token_of (.cons (.var 7) (.cons (.attr (.var 0) "table") .nil)))) (.cons (.ret (.new .recognised (.cons .none (.cons (.var 5) (.cons (.lstF (.cons (.call .token_of (.cons (.var 7) (.cons (.attr (.var 0) "table") .nil))) .nil)) .nil)))))
  .nil) .nil)
  (.cons (.expr (.append (.sub (.sub (.var 4) (.int (-1))) (.int 1)) (.tup (.cons (.var 8) (.cons (.var 5) .nil)))))
  (.cons (.assign 5 (.bin .add (.var 5) (.int 1)))
  .nil))) (.cons (.ifs (.cmp .eq (.sub (.var 7) (.int 0)) (.str "name")) (.cons (.expr (.append (.var 4) (.tup (.cons (.sub (.var 7) (.int 1)) (.cons (.lstD .nil) .nil)))))
  (.cons (.expr (.append (.var 3) .gClose))
  (.cons (.expr (.append (.var 3) (.sub (.attr (.var 0) "table") (.sub (.var 7) (.int 1)))))
  .nil))) (.cons (.assign 11 (.call .expanded (.cons (.var 0) (.cons (.var 7) (.cons (.var 8) .nil)))))
  (.cons (.ifs (.isNone (.var 11)) (.cons (.ret (.new .recognised (.cons .none (.cons (.var 5) (.cons (.sorted (.meth .first (.var 0) (.cons (.var 7) .nil))) .nil)))))
  .nil) .nil)
  (.cons (.expr (.extend (.var 3) (.var 11)))
  .nil))))
  .nil))
  .nil))
  .nil))))))
  (.cons (.ifs (.cmp .lt (.var 5) (.len (.var 1))) (.cons (.ret (.new .recognised (.cons .none (.cons (.var 5) (.cons (.lstF (.cons .gEnd .nil)) .nil)))))
  .nil) .nil)
  (.cons (.ret (.new .recognised (.cons (.sub (.sub (.sub (.var 4) (.int 0)) (.int 1)) (.int 0)) (.cons (.var 5) (.cons (.lstF .nil) .nil)))))
  .nil))))))
noncomputable def b_is_leaf:MSs :=
  .cons (.ret (.isInt (.sub (.var 0) (.int 1))))
  .nil
noncomputable def b_leaves:MSs :=
  .cons (.assign 1 (.lstD .nil))
  (.cons (.assign 2 (.lstD (.cons (.var 0) .nil)))
  (.cons (.while (.cmp .gt (.len (.var 2)) (.int 0)) (.cons (.assign 3 (.pop (.var 2)))
  (.cons (.ifs (.call .is_leaf (.cons (.var 3) .nil)) (.cons (.expr (.append (.var 1) (.sub (.var 3) (.int 0))))
  .nil) (.cons (.expr (.extendRev (.var 2) (.sub (.var 3) (.int 1))))
  .nil))
  .nil)))
  (.cons (.ret (.var 1))
  .nil)))
noncomputable def b_ends_of:MSs :=
  .cons (.assign 4 (.sub (.var 1) (.int 0)))
  (.cons (.ifs (.or (.cmp .eq (.var 4) (.str "name")) (.cmp .eq (.var 4) (.str "text"))) (.cons (.assign 5 (.sub (.var 1) (.int 1)))
  (.cons (.assign 6 (.call .is_token (.cons (.var 1) (.cons (.attr (.var 0) "table") .nil))))
  (.cons (.ret (.comp (.bin .add (.var 11) (.int 1)) 11 (.var 3) (.and (.cmp .lt (.var 11) (.len (.var 2))) (.and (.cmp .eq (.sub (.sub (.var 2) (.var 11)) (.int 0)) (.var 5)) (.cmp .eq (.call .is_leaf (.cons (.sub (.var 2) (.var 11)) .nil)) (.var 6))))))
  .nil))) .nil)
  (.cons (.ifs (.cmp .eq (.var 4) (.str "seq")) (.cons (.for (.one 7) (.sub (.var 1) (.int 1)) (.cons (.assign 3 (.call .ends_of (.cons (.var 0) (.cons (.var 7) (.cons (.var 2) (.cons (.var 3) .nil))))))
  .nil))
  (.cons (.ret (.var 3))
  .nil)) .nil)
  (.cons (.assign 8 .dI)
  (.cons (.ifs (.cmp .eq (.var 4) (.str "alt")) (.cons (.for (.one 7) (.sub (.var 1) (.int 1)) (.cons (.for (.one 9) (.call .ends_of (.cons (.var 0) (.cons (.var 7) (.cons (.var 2) (.cons (.var 3) .nil))))) (.cons (.setSub (.var 8) (.var 9) (.bool true))
  .nil))
  .nil))
  (.cons (.ret (.sorted (.var 8)))
  .nil)) .nil)
  (.cons (.assign 10 (.var 3))
  (.cons (.while (.cmp .gt (.len (.var 10)) (.int 0)) (.cons (.for (.one 9) (.var 10) (.cons (.setSub (.var 8) (.var 9) (.bool true))
  .nil))
  (.cons (.ifs (.and (.cmp .eq (.var 4) (.str "opt")) (.cmp .ne (.var 10) (.var 3))) (.cons (.ret (.sorted (.var 8)))
  .nil) .nil)
  (.cons (.assignComp 10 (.comp (.var 12) 12 (.call .ends_of (.cons (.var 0) (.cons (.sub (.var 1) (.int 1)) (.cons (.var 2) (.cons (.var 10) .nil))))) (.cmp .notin (.var 12) (.var 8))))
  .nil))))
  (.cons (.ret (.sorted (.var 8)))
  .nil)))))))
noncomputable def b_derives:MSs :=
  .cons (.assign 2 (.lstD (.cons (.var 1) .nil)))
  (.cons (.while (.cmp .gt (.len (.var 2)) (.int 0)) (.cons (.unpack 3 4 (.pop (.var 2)))
  (.cons (.ifs (.cmp .notin (.var 3) (.attr (.var 0) "table")) (.cons (.ret (.bool false))
  .nil) .nil)
  (.cons (.ifs (.cmp .notin (.len (.var 4)) (.call .ends_of (.cons (.var 0) (.cons (.sub (.attr (.var 0) "table") (.var 3)) (.cons (.var 4) (.cons (.lstF (.cons (.int 0) .nil)) .nil)))))) (.cons (.ret (.bool false))
  .nil) .nil)
  (.cons (.for (.one 5) (.var 4) (.cons (.ifs (.not (.call .is_leaf (.cons (.var 5) .nil))) (.cons (.expr (.append (.var 2) (.var 5)))
  .nil) .nil)
  .nil))
  .nil)))))
  (.cons (.ret (.bool true))
  .nil))
noncomputable def b_l_stock:MSs :=
  .cons (.assign 1 (.lstD .nil))
  (.cons (.for (.one 2) (.sliceTo (.var 0) (.int 50)) (.cons (.assign 3 (.ite (.cmp .ge (.var 2) (.int 0)) (.var 2) (.bin .sub (.int 1) (.var 2))))
  (.cons (.expr (.append (.var 1) (.bin .mod (.var 3) (.int 1000))))
  (.cons (.assign 3 (.bin .fdiv (.var 3) (.int 1000)))
  (.cons (.while (.and (.cmp .gt (.var 3) (.int 0)) (.cmp .lt (.len (.var 1)) (.int 300))) (.cons (.expr (.append (.var 1) (.bin .mod (.var 3) (.int 1000))))
  (.cons (.assign 3 (.bin .fdiv (.var 3) (.int 1000)))
  .nil)))
  .nil)))))
  (.cons (.assign 4 (.int 0))
  (.cons (.ifs (.cmp .gt (.len (.var 0)) (.int 2)) (.cons (.assign 4 (.bin .add (.int 1) (.bin .mod (.sum (.var 1)) (.int 990))))
  .nil) .nil)
  (.cons (.expr (.reverse (.var 1)))
  (.cons (.ret (.lstD (.cons (.var 1) (.cons (.var 4) .nil))))
  .nil)))))
noncomputable def b_l_pick:MSs :=
  .cons (.ifs (.cmp .ne (.sub (.var 0) (.int 0)) (.lstF .nil)) (.cons (.ret (.bin .mod (.pop (.sub (.var 0) (.int 0))) (.var 1)))
  .nil) .nil)
  (.cons (.ifs (.cmp .gt (.sub (.var 0) (.int 1)) (.int 0)) (.cons (.setSub (.var 0) (.int 1) (.max (.bin .mod (.bin .add (.bin .mul (.sub (.var 0) (.int 1)) (.int 29)) (.int 7)) (.int 997)) (.int 1)))
  .nil) .nil)
  (.cons (.ret (.bin .mod (.sub (.var 0) (.int 1)) (.var 1)))
  .nil))
noncomputable def b_l_tree:MSs :=
  .cons (.augSub (.var 1) (.int 0) (.int 1))
  (.cons (.assign 5 (.call .l_pick (.cons (.var 0) (.cons (.ite (.and (.cmp .lt (.var 2) (.int 3)) (.cmp .gt (.sub (.var 1) (.int 0)) (.int 0))) (.int 9) (.int 4)) .nil))))
  (.cons (.ifs (.cmp .lt (.var 5) (.int 2)) (.cons (.ret (.tup (.cons (.str "text") (.cons (.sub (.str "pqrs") (.call .l_pick (.cons (.var 0) (.cons (.int 4) .nil)))) .nil))))
  .nil) .nil)
  (.cons (.ifs (.cmp .eq (.var 5) (.int 2)) (.cons (.ret (.ite (.cmp .lt (.bin .add (.var 3) (.int 1)) (.var 4)) (.tup (.cons (.str "name") (.cons (.bin .add (.str "R") (.strOf (.bin .add (.bin .add (.var 3) (.int 1)) (.call .l_pick (.cons (.var 0) (.cons (.int 3) .nil)))))) .nil))) (.tup (.cons (.str "text") (.cons (.str "p") .nil)))))
  .nil) .nil)
  (.cons (.ifs (.cmp .eq (.var 5) (.int 3)) (.cons (.ret (.tup (.cons (.str "seq") (.cons (.tup .nil) .nil))))
  .nil) .nil)
  (.cons (.ifs (.cmp .lt (.var 5) (.int 6)) (.cons (.ret (.tup (.cons (.str "seq") (.cons (.tup (.cons (.call .l_tree (.cons (.var 0) (.cons (.var 1) (.cons (.bin .add (.var 2) (.int 1)) (.cons (.var 3) (.cons (.var 4) .nil)))))) (.cons (.call .l_tree (.cons (.var 0) (.cons (.var 1) (.cons (.bin .add (.var 2) (.int 1)) (.cons (.var 3) (.cons (.var 4) .nil)))))) .nil))) .nil))))
  .nil) .nil)
  (.cons (.ifs (.cmp .lt (.var 5) (.int 8)) (.cons (.ret (.tup (.cons (.sub (.lstF (.cons (.str "rep") (.cons (.str "opt") .nil))) (.bin .sub (.var 5) (.int 6))) (.cons (.call .l_tree (.cons (.var 0) (.cons (.var 1) (.cons (.bin .add (.var 2) (.int 1)) (.cons (.var 3) (.cons (.var 4) .nil)))))) .nil))))
  .nil) .nil)
  (.cons (.ret (.tup (.cons (.str "alt") (.cons (.tup (.cons (.call .l_tree (.cons (.var 0) (.cons (.var 1) (.cons (.bin .add (.var 2) (.int 1)) (.cons (.var 3) (.cons (.var 4) .nil)))))) (.cons (.call .l_tree (.cons (.var 0) (.cons (.var 1) (.cons (.bin .add (.var 2) (.int 1)) (.cons (.var 3) (.cons (.var 4) .nil)))))) .nil))) .nil))))
  .nil)))))))
noncomputable def b_l_derived:MSs :=
  .cons (.unpack 5 6 (.var 1))
  (.cons (.ifs (.or (.cmp .eq (.var 5) (.str "text")) (.and (.cmp .eq (.var 5) (.str "name")) (.cmp .notin (.var 6) (.var 2)))) (.cons (.expr (.append (.var 3) (.var 6)))
  .nil) (.cons (.ifs (.cmp .eq (.var 5) (.str "name")) (.cons (.expr (.call .l_derived (.cons (.var 0) (.cons (.sub (.var 2) (.var 6)) (.cons (.var 2) (.cons (.var 3) (.cons (.var 4) .nil)))))))
  .nil) (.cons (.ifs (.cmp .eq (.var 5) (.str "seq")) (.cons (.for (.one 7) (.var 6) (.cons (.expr (.call .l_derived (.cons (.var 0) (.cons (.var 7) (.cons (.var 2) (.cons (.var 3) (.cons (.var 4) .nil)))))))
  .nil))
  .nil) (.cons (.ifs (.cmp .eq (.var 5) (.str "alt")) (.cons (.expr (.call .l_derived (.cons (.var 0) (.cons (.sub (.var 6) (.call .l_pick (.cons (.var 0) (.cons (.int 2) .nil)))) (.cons (.var 2) (.cons (.var 3) (.cons (.var 4) .nil)))))))
  .nil) (.cons (.assign 8 (.call .l_pick (.cons (.var 0) (.cons (.ite (.cmp .eq (.var 5) (.str "opt")) (.int 2) (.int 4)) .nil))))
  (.cons (.while (.and (.cmp .gt (.var 8) (.int 0)) (.cmp .gt (.sub (.var 4) (.int 0)) (.int 0))) (.cons (.augVar 8 (.int 1))
  (.cons (.augSub (.var 4) (.int 0) (.int 1))
  (.cons (.expr (.call .l_derived (.cons (.var 0) (.cons (.var 6) (.cons (.var 2) (.cons (.var 3) (.cons (.var 4) .nil)))))))
  .nil))))
  .nil)))
  .nil))
  .nil))
  .nil))
  .nil)
noncomputable def b_l_ends:MSs :=
  .cons (.unpack 4 5 (.var 0))
  (.cons (.ifs (.or (.cmp .eq (.var 4) (.str "text")) (.and (.cmp .eq (.var 4) (.str "name")) (.cmp .notin (.var 5) (.var 1)))) (.cons (.ret (.comp (.bin .add (.var 9) (.int 1)) 9 (.var 3) (.and (.cmp .lt (.var 9) (.len (.var 2))) (.cmp .eq (.sub (.var 2) (.var 9)) (.var 5)))))
  .nil) .nil)
  (.cons (.ifs (.cmp .eq (.var 4) (.str "name")) (.cons (.ret (.call .l_ends (.cons (.sub (.var 1) (.var 5)) (.cons (.var 1) (.cons (.var 2) (.cons (.var 3) .nil))))))
  .nil) .nil)
  (.cons (.ifs (.cmp .eq (.var 4) (.str "alt")) (.cons (.ret (.sortedSet (.bin .add (.call .l_ends (.cons (.sub (.var 5) (.int 0)) (.cons (.var 1) (.cons (.var 2) (.cons (.var 3) .nil))))) (.call .l_ends (.cons (.sub (.var 5) (.int 1)) (.cons (.var 1) (.cons (.var 2) (.cons (.var 3) .nil))))))))
  .nil) .nil)
  (.cons (.ifs (.cmp .eq (.var 4) (.str "seq")) (.cons (.for (.one 6) (.var 5) (.cons (.assign 3 (.call .l_ends (.cons (.var 6) (.cons (.var 1) (.cons (.var 2) (.cons (.var 3) .nil))))))
  .nil))
  (.cons (.ret (.var 3))
  .nil)) .nil)
  (.cons (.assign 7 (.list (.var 3)))
  (.cons (.forRange (.one 8) (.ite (.cmp .eq (.var 4) (.str "opt")) (.int 1) (.bin .add (.len (.var 2)) (.int 1))) (.cons (.assign 7 (.sortedSet (.bin .add (.var 7) (.call .l_ends (.cons (.var 5) (.cons (.var 1) (.cons (.var 2) (.cons (.ite (.cmp .eq (.var 4) (.str "rep")) (.var 7) (.var 3)) .nil))))))))
  .nil))
  (.cons (.ret (.var 7))
  .nil)))))))
noncomputable def b_l_kids:MSs :=
  .cons (.unpack 3 4 (.var 0))
  (.cons (.ifs (.cmp .isin (.var 3) (.tup (.cons (.str "text") (.cons (.str "name") .nil)))) (.cons (.ret (.comp (.bin .add (.var 8) (.int 1)) 8 (.var 2) (.and (.cmp .lt (.var 8) (.len (.var 1))) (.cmp .eq (.sub (.sub (.var 1) (.var 8)) (.int 0)) (.var 4)))))
  .nil) .nil)
  (.cons (.ifs (.cmp .eq (.var 3) (.str "alt")) (.cons (.ret (.sortedSet (.bin .add (.call .l_kids (.cons (.sub (.var 4) (.int 0)) (.cons (.var 1) (.cons (.var 2) .nil)))) (.call .l_kids (.cons (.sub (.var 4) (.int 1)) (.cons (.var 1) (.cons (.var 2) .nil)))))))
  .nil) .nil)
  (.cons (.ifs (.cmp .eq (.var 3) (.str "seq")) (.cons (.for (.one 5) (.var 4) (.cons (.assign 2 (.call .l_kids (.cons (.var 5) (.cons (.var 1) (.cons (.var 2) .nil)))))
  .nil))
  (.cons (.ret (.var 2))
  .nil)) .nil)
  (.cons (.assign 6 (.list (.var 2)))
  (.cons (.forRange (.one 7) (.ite (.cmp .eq (.var 3) (.str "opt")) (.int 1) (.bin .add (.len (.var 1)) (.int 1))) (.cons (.assign 6 (.sortedSet (.bin .add (.var 6) (.call .l_kids (.cons (.var 4) (.cons (.var 1) (.cons (.ite (.cmp .eq (.var 3) (.str "rep")) (.var 6) (.var 2)) .nil)))))))
  .nil))
  (.cons (.ret (.var 6))
  .nil))))))
noncomputable def b_l_sound:MSs :=
  .cons (.unpack 2 3 (.var 0))
  (.cons (.ifs (.cmp .notin (.len (.var 3)) (.call .l_kids (.cons (.sub (.var 1) (.var 2)) (.cons (.var 3) (.cons (.lstF (.cons (.int 0) .nil)) .nil))))) (.cons (.ret (.bool false))
  .nil) .nil)
  (.cons (.ret (.cmp .notin (.bool false) (.comp (.call .l_sound (.cons (.var 4) (.cons (.var 1) .nil))) 4 (.var 3) (.cmp .isin (.sub (.var 4) (.int 0)) (.var 1)))))
  .nil))
noncomputable def b_l_reached:MSs :=
  .cons (.ifs (.isInt (.sub (.var 0) (.int 1))) (.cons (.ret (.lstF (.cons (.sub (.var 0) (.int 0)) .nil)))
  .nil) .nil)
  (.cons (.assign 1 (.lstD .nil))
  (.cons (.for (.one 2) (.sub (.var 0) (.int 1)) (.cons (.augList 1 (.call .l_reached (.cons (.var 2) .nil)))
  .nil))
  (.cons (.ret (.var 1))
  .nil)))
noncomputable def b_law:MSs :=
  .cons (.assign 1 (.call .l_stock (.cons (.var 0) .nil)))
  (.cons (.assign 2 (.bin .add (.int 1) (.call .l_pick (.cons (.var 1) (.cons (.int 4) .nil)))))
  (.cons (.assign 3 .dS)
  (.cons (.assign 4 (.lstD .nil))
  (.cons (.forRange (.one 5) (.var 2) (.cons (.assign 6 (.call .l_tree (.cons (.var 1) (.cons (.lstD (.cons (.int 5) .nil)) (.cons (.int 0) (.cons (.var 5) (.cons (.var 2) .nil)))))))
  (.cons (.setSub (.var 3) (.bin .add (.str "R") (.strOf (.var 5))) (.var 6))
  (.cons (.expr (.append (.var 4) (.tup (.cons (.bin .add (.str "R") (.strOf (.var 5))) (.cons (.var 6) .nil)))))
  .nil))))
  (.cons (.assign 7 (.lstD .nil))
  (.cons (.expr (.call .l_derived (.cons (.var 1) (.cons (.tup (.cons (.str "name") (.cons (.str "R0") .nil))) (.cons (.var 3) (.cons (.var 7) (.cons (.lstD (.cons (.int 8) .nil)) .nil)))))))
  (.cons (.assign 7 (.sliceTo (.var 7) (.int 12)))
  (.cons (.assign 8 (.call .l_pick (.cons (.var 1) (.cons (.int 4) .nil))))
  (.cons (.ifs (.and (.cmp .gt (.var 8) (.int 0)) (.cmp .ne (.var 7) (.lstF .nil))) (.cons (.assign 9 (.call .l_pick (.cons (.var 1) (.cons (.len (.var 7)) .nil))))
  (.cons (.assign 7 (.bin .add (.bin .add (.sliceTo (.var 7) (.var 9)) (.sub (.lstF (.cons (.lstF .nil) (.cons (.lstF (.cons (.str "q") .nil)) (.cons (.lstF (.cons (.str "r") (.cons (.sub (.var 7) (.var 9)) .nil))) .nil)))) (.bin .sub (.var 8) (.int 1)))) (.sliceFrom (.var 7) (.bin .add (.var 9) (.int 1)))))
  .nil)) .nil)
  (.cons (.assign 10 (.new .grammar (.cons (.var 4) (.cons (.str "R0") .nil))))
  (.cons (.assign 11 (.call .recognise (.cons (.var 10) (.cons (.var 7) (.cons (.int 5000) .nil)))))
  (.cons (.assign 12 (.cmp .isin (.len (.var 7)) (.call .l_ends (.cons (.tup (.cons (.str "name") (.cons (.str "R0") .nil))) (.cons (.var 3) (.cons (.var 7) (.cons (.lstF (.cons (.int 0) .nil)) .nil)))))))
  (.cons (.ifs (.isNone (.attr (.var 11) "tree")) (.cons (.ifs (.and (.cmp .eq (.call .conflicts (.cons (.var 10) .nil)) (.lstF .nil)) (.var 12)) (.cons (.ret (.bool false))
  .nil) .nil)
  (.cons (.ret (.and (.cmp .le (.int 0) (.attr (.var 11) "place")) (.cmp .le (.attr (.var 11) "place") (.len (.var 7)))))
  .nil)) .nil)
  (.cons (.ifs (.or (.not (.var 12)) (.or (.cmp .ne (.call .leaves (.cons (.attr (.var 11) "tree") .nil)) (.var 7)) (.cmp .ne (.call .l_reached (.cons (.attr (.var 11) "tree") .nil)) (.var 7)))) (.cons (.ret (.bool false))
  .nil) .nil)
  (.cons (.ret (.and (.call .derives (.cons (.var 10) (.cons (.attr (.var 11) "tree") .nil))) (.and (.call .l_sound (.cons (.attr (.var 11) "tree") (.cons (.var 3) .nil))) (.cmp .eq (.sub (.attr (.var 11) "tree") (.int 0)) (.str "R0")))))
  .nil)))))))))))))))
noncomputable def fdt:Fn→FD
  | .token_of=>⟨2,2,b_token_of⟩
  | .is_token=>⟨2,2,b_is_token⟩
  | .merge=>⟨2,4,b_merge⟩
  | .gInit=>⟨3,5,b_gInit⟩
  | .nullable=>⟨2,2,b_nullable⟩
  | .first=>⟨2,2,b_first⟩
  | .predict=>⟨3,4,b_predict⟩
  | .may_be_empty=>⟨3,5,b_may_be_empty⟩
  | .empty_rules=>⟨2,5,b_empty_rules⟩
  | .first_of=>⟨4,7,b_first_of⟩
  | .first_rows=>⟨3,6,b_first_rows⟩
  | .follow_rows=>⟨1,4,b_follow_rows⟩
  | .add_follows=>⟨4,8,b_add_follows⟩
  | .parts=>⟨3,6,b_parts⟩
  | .shared=>⟨2,2,b_shared⟩
  | .conflicts=>⟨1,3,b_conflicts⟩
  | .find_conflicts=>⟨5,11,b_find_conflicts⟩
  | .add_alternatives=>⟨5,10,b_add_alternatives⟩
  | .rInit=>⟨4,4,b_rInit⟩
  | .token_at=>⟨2,2,b_token_at⟩
  | .chosen=>⟨3,4,b_chosen⟩
  | .expanded=>⟨3,5,b_expanded⟩
  | .recognise=>⟨3,12,b_recognise⟩
  | .is_leaf=>⟨1,1,b_is_leaf⟩
  | .leaves=>⟨1,4,b_leaves⟩
  | .ends_of=>⟨4,13,b_ends_of⟩
  | .derives=>⟨2,6,b_derives⟩
  | .l_stock=>⟨1,5,b_l_stock⟩
  | .l_pick=>⟨2,2,b_l_pick⟩
  | .l_tree=>⟨5,6,b_l_tree⟩
  | .l_derived=>⟨5,9,b_l_derived⟩
  | .l_ends=>⟨4,10,b_l_ends⟩
  | .l_kids=>⟨3,9,b_l_kids⟩
  | .l_sound=>⟨2,5,b_l_sound⟩
  | .l_reached=>⟨1,3,b_l_reached⟩
  | .law=>⟨1,13,b_law⟩
end LY.Internal
end

section
open PySem
set_option genInjectivity false
namespace LY.Internal
noncomputable def boolOf:AV→Option Bool | .bool b=>some b | _=>Option.none
noncomputable def intOf:AV→Option Int | .int i=>some i | _=>Option.none
noncomputable def natOf:AV→Option Int | .int i=>if 0≤i then some i else Option.none | _=>Option.none
noncomputable def lstOf:AV→Option (List AV) | .lst l=>some l | _=>Option.none
noncomputable def tupOf:AV→Option (List AV) | .tup l=>some l | _=>Option.none
noncomputable def isIntOf:AV→Option Bool | .int _=>some true | .tup _=>some false | _=>Option.none
mutual
noncomputable def evE:ME→Lo→Hp→Option AV
  | .none=>fun _ _=>some .none
  | .bool b=>fun _ _=>some (.bool b)
  | .int i=>fun _ _=>some (.int i)
  | .str s=>fun _ _=>some (.str s)
  | .var i=>fun m _=>m.at i
  | .gEnd=>fun _ _=>some END
  | .gClose=>fun _ _=>some CLOSE
  | .tup l=>fun m H=>(evEs l m H).map .tup
  | .lstF l=>fun m H=>(evEs l m H).map .lst
  | .bin o a b=>fun m H=>(evE a m H).bind fun x=>(evE b m H).bind fun y=>binAV o x y
  | .cmp o a b=>fun m H=>(evE a m H).bind fun x=>(evE b m H).bind fun y=>(cmpAV H o x y).map .bool
  | .isNone a=>fun m H=>(evE a m H).map fun x=>.bool (isNoneAV x)
  | .and a b=>fun m H=>((evE a m H).bind boolOf).bind fun z=>cond z (((evE b m H).bind boolOf).map .bool) (some (.bool false))
  | .or a b=>fun m H=>((evE a m H).bind boolOf).bind fun z=>cond z (some (.bool true)) (((evE b m H).bind boolOf).map .bool)
  | .not a=>fun m H=>((evE a m H).bind boolOf).map fun z=>.bool (!z)
  | .ite c a b=>fun m H=>((evE c m H).bind boolOf).bind fun z=>cond z (evE a m H) (evE b m H)
  | .sub a i=>fun m H=>(evE a m H).bind fun x=>(evE i m H).bind fun y=>subAV H x y
  | .sliceTo a b=>fun m H=>((evE a m H).bind (listOf H)).bind fun l=>((evE b m H).bind natOf).map fun i=>.lst (l.take i.toNat)
  | .sliceFrom a b=>fun m H=>((evE a m H).bind (listOf H)).bind fun l=>((evE b m H).bind natOf).map fun i=>.lst (l.drop i.toNat)
  | .attr a f=>fun m H=>(evE a m H).bind fun x=>attrAV H x f
  | .len a=>fun m H=>((evE a m H).bind (lenAV H)).map fun n:Nat=>AV.int (n:Int)
  | .list a=>fun m H=>((evE a m H).bind lstOf).map .lst
  | .listRev a=>fun m H=>((evE a m H).bind tupOf).map fun l=>.lst l.reverse
  | .sum a=>fun m H=>((evE a m H).bind (listOf H)).bind fun l=>(intsOf l).map fun u=>.int u.sum
  | .max a b=>fun m H=>((evE a m H).bind intOf).bind fun i=>((evE b m H).bind intOf).map fun j=>.int (if j > i then j else i)
  | .strOf a=>fun m H=>((evE a m H).bind natOf).bind fun i=>if i≤9 then some (.str (digit i)) else Option.none
  | .tuple a=>fun m H=>((evE a m H).bind (listOf H)).map .tup
  | .isInt a=>fun m H=>((evE a m H).bind isIntOf).map .bool
  | .lstD _=>fun _ _=>Option.none
  | .dS=>fun _ _=>Option.none
  | .dI=>fun _ _=>Option.none
  | .d1 _ _=>fun _ _=>Option.none
  | .call _ _=>fun _ _=>Option.none
  | .new _ _=>fun _ _=>Option.none
  | .meth _ _ _=>fun _ _=>Option.none
  | .append _ _=>fun _ _=>Option.none
  | .pop _=>fun _ _=>Option.none
  | .extend _ _=>fun _ _=>Option.none
  | .extendRev _ _=>fun _ _=>Option.none
  | .reverse _=>fun _ _=>Option.none
  | .sorted _=>fun _ _=>Option.none
  | .sortedSet _=>fun _ _=>Option.none
  | .dict _=>fun _ _=>Option.none
  | .comp _ _ _ _=>fun _ _=>Option.none
  | .compIn _ _=>fun _ _=>Option.none
noncomputable def evEs:MEs→Lo→Hp→Option (List AV)
  | .nil=>fun _ _=>some []
  | .cons e l=>fun m H=>(evE e m H).bind fun v=>(evEs l m H).map fun vs=>v::vs
end
variable {C:CallP} {m:Lo} {H:Hp}
theorem nope {α:Type} {v:α} {P:Prop} (e:Option.none=some v):P:=nomatch e
theorem so {α:Type} {v w:α} {P:α→Prop} (e:some v=some w) (q:P w):P v:=Option.some.inj e▸q
theorem sb {α:Type} {v w:α} {P:α→Prop} (e:v=w) (q:P w):P v:=e▸q
theorem bnd {α β:Type} {o:Option α} {f:α→Option β} {b:β} {P:Prop} (e:o.bind f=some b) (k:∀ a,o=some a→f a=some b→P):P :=
  Exists.elim (Option.bind_eq_some_iff.mp e) fun a h=>k a h.1 h.2
theorem mpd {α β:Type} {o:Option α} {f:α→β} {b:β} {P:Prop} (e:o.map f=some b) (k:∀ a,o=some a→f a=b→P):P :=
  Exists.elim (Option.map_eq_some_iff.mp e) fun a h=>k a h.1 h.2
theorem bl {o:Option AV} {z:Bool} (e:o.bind boolOf=some z):o=some (.bool z) :=
  bnd e fun x h e=>h.trans (congrArg some (by cases x <;> first | exact nope e | exact congrArg AV.bool (Option.some.inj e)))
theorem nt {o:Option AV} {i:Int} (e:o.bind natOf=some i):o=some (.int i)∧0≤i :=
  bnd e fun x h e=>by
    cases x <;> first
      | exact nope e
      | (rename_i j;by_cases hj:0≤j
         · have e:some j=some i:=(if_pos hj).symm.trans e
           exact ⟨h.trans (congrArg (some ∘ AV.int) (Option.some.inj e)),Option.some.inj e▸hj⟩
         · exact nope ((if_neg hj).symm.trans e))
theorem it {o:Option AV} {i:Int} (e:o.bind intOf=some i):o=some (.int i) :=
  bnd e fun x h e=>h.trans (congrArg some (by cases x <;> first | exact nope e | exact congrArg AV.int (Option.some.inj e)))
theorem lt' {o:Option AV} {l:List AV} (e:o.bind lstOf=some l):o=some (.lst l) :=
  bnd e fun x h e=>h.trans (congrArg some (by cases x <;> first | exact nope e | exact congrArg AV.lst (Option.some.inj e)))
theorem tt' {o:Option AV} {l:List AV} (e:o.bind tupOf=some l):o=some (.tup l) :=
  bnd e fun x h e=>h.trans (congrArg some (by cases x <;> first | exact nope e | exact congrArg AV.tup (Option.some.inj e)))
mutual
theorem evE_ok':∀ (e:ME) (v:AV) (Q:QV),evE e m H=some v→Q v H→vcE C e m H Q
  | .none=>fun _ Q e q=>so (P:=fun x=>Q x H) e q
  | .bool b=>fun _ Q e q=>so (P:=fun x=>Q x H) e q
  | .int i=>fun _ Q e q=>so (P:=fun x=>Q x H) e q
  | .str s=>fun _ Q e q=>so (P:=fun x=>Q x H) e q
  | .var i=>fun _ _ e q=>⟨_,e,q⟩
  | .gEnd=>fun _ Q e q=>so (P:=fun x=>Q x H) e q
  | .gClose=>fun _ Q e q=>so (P:=fun x=>Q x H) e q
  | .tup l=>fun _ Q e q=>mpd e fun _ h e=>evEs_ok' l _ _ h (sb (P:=fun x=>Q x H) e q)
  | .lstF l=>fun _ Q e q=>mpd e fun _ h e=>evEs_ok' l _ _ h (sb (P:=fun x=>Q x H) e q)
  | .bin o a b=>fun _ _ e q=>bnd e fun _ h e=>bnd e fun _ h2 e=>evE_ok' a _ _ h (evE_ok' b _ _ h2 ⟨_,e,q⟩)
  | .cmp o a b=>fun _ Q e q=>bnd e fun _ h e=>bnd e fun _ h2 e=>mpd e fun _ h3 e=>evE_ok' a _ _ h (evE_ok' b _ _ h2 ⟨_,h3,sb (P:=fun x=>Q x H) e q⟩)
  | .isNone a=>fun _ Q e q=>mpd e fun _ h e=>evE_ok' a _ _ h (sb (P:=fun x=>Q x H) e q)
  | .and a b=>fun _ Q e q=>bnd e fun z h e=>evE_ok' a _ _ (bl h) (by
      cases z
      · exact Or.inl ⟨rfl,so (P:=fun x=>Q x H) e q⟩
      · exact Or.inr ⟨rfl,mpd e fun _ h e=>evE_ok' b _ _ (bl h) ⟨⟨_,rfl⟩,sb (P:=fun x=>Q x H) e q⟩⟩)
  | .or a b=>fun _ Q e q=>bnd e fun z h e=>evE_ok' a _ _ (bl h) (by
      cases z
      · exact Or.inr ⟨rfl,mpd e fun _ h e=>evE_ok' b _ _ (bl h) ⟨⟨_,rfl⟩,sb (P:=fun x=>Q x H) e q⟩⟩
      · exact Or.inl ⟨rfl,so (P:=fun x=>Q x H) e q⟩)
  | .not a=>fun _ Q e q=>mpd e fun _ h e=>evE_ok' a _ _ (bl h) ⟨_,rfl,sb (P:=fun x=>Q x H) e q⟩
  | .ite c a b=>fun _ _ e q=>bnd e fun z h e=>evE_ok' c _ _ (bl h) (by
      cases z
      · exact Or.inr ⟨rfl,evE_ok' b _ _ e q⟩
      · exact Or.inl ⟨rfl,evE_ok' a _ _ e q⟩)
  | .sub a i=>fun _ _ e q=>bnd e fun _ h e=>bnd e fun _ h2 e=>evE_ok' a _ _ h (evE_ok' i _ _ h2 ⟨_,e,q⟩)
  | .sliceTo a b=>fun _ Q e q=>bnd e fun l h e=>bnd h fun _ h hl=>mpd e fun i h2 e=>evE_ok' a _ _ h (evE_ok' b _ _ (nt h2).1 ⟨l,i,hl,rfl,(nt h2).2,sb (P:=fun x=>Q x H) e q⟩)
  | .sliceFrom a b=>fun _ Q e q=>bnd e fun l h e=>bnd h fun _ h hl=>mpd e fun i h2 e=>evE_ok' a _ _ h (evE_ok' b _ _ (nt h2).1 ⟨l,i,hl,rfl,(nt h2).2,sb (P:=fun x=>Q x H) e q⟩)
  | .attr a f=>fun _ _ e q=>bnd e fun _ h e=>evE_ok' a _ _ h ⟨_,e,q⟩
  | .len a=>fun _ Q e q=>mpd e fun _ h e=>bnd h fun _ h hl=>evE_ok' a _ _ h ⟨_,hl,sb (P:=fun x=>Q x H) e q⟩
  | .list a=>fun _ Q e q=>mpd e fun _ h e=>evE_ok' a _ _ (lt' h) ⟨_,rfl,sb (P:=fun x=>Q x H) e q⟩
  | .listRev a=>fun _ Q e q=>mpd e fun _ h e=>evE_ok' a _ _ (tt' h) ⟨_,rfl,sb (P:=fun x=>Q x H) e q⟩
  | .sum a=>fun _ Q e q=>bnd e fun _ h e=>bnd h fun _ h hl=>mpd e fun _ h2 e=>evE_ok' a _ _ h ⟨_,_,hl,h2,sb (P:=fun x=>Q x H) e q⟩
  | .max a b=>fun _ Q e q=>bnd e fun _ h e=>mpd e fun _ h2 e=>evE_ok' a _ _ (it h) (evE_ok' b _ _ (it h2) ⟨_,_,rfl,rfl,sb (P:=fun x=>Q x H) e q⟩)
  | .strOf a=>fun _ Q e q=>bnd e fun i h e=>evE_ok' a _ _ (nt h).1 ⟨i,rfl,(nt h).2,by
      by_cases hi:i≤9
      · exact ⟨hi,so (P:=fun x=>Q x H) ((if_pos hi).symm.trans e) q⟩
      · exact nope ((if_neg hi).symm.trans e)⟩
  | .tuple a=>fun _ Q e q=>mpd e fun _ h e=>bnd h fun _ h hl=>evE_ok' a _ _ h ⟨_,hl,sb (P:=fun x=>Q x H) e q⟩
  | .isInt a=>fun _ Q e q=>mpd e fun _ h e=>bnd h fun x h hl=>evE_ok' a _ _ h (by
      cases x <;> first
        | exact nope hl
        | exact Or.inl ⟨⟨_,rfl⟩,sb (P:=fun x=>Q x H) ((congrArg AV.bool (Option.some.inj hl)).trans e) q⟩
        | exact Or.inr ⟨⟨_,rfl⟩,sb (P:=fun x=>Q x H) ((congrArg AV.bool (Option.some.inj hl)).trans e) q⟩)
  | .lstD _=>fun _ _ e _=>nope e
  | .dS=>fun _ _ e _=>nope e
  | .dI=>fun _ _ e _=>nope e
  | .d1 _ _=>fun _ _ e _=>nope e
  | .call _ _=>fun _ _ e _=>nope e
  | .new _ _=>fun _ _ e _=>nope e
  | .meth _ _ _=>fun _ _ e _=>nope e
  | .append _ _=>fun _ _ e _=>nope e
  | .pop _=>fun _ _ e _=>nope e
  | .extend _ _=>fun _ _ e _=>nope e
  | .extendRev _ _=>fun _ _ e _=>nope e
  | .reverse _=>fun _ _ e _=>nope e
  | .sorted _=>fun _ _ e _=>nope e
  | .sortedSet _=>fun _ _ e _=>nope e
  | .dict _=>fun _ _ e _=>nope e
  | .comp _ _ _ _=>fun _ _ e _=>nope e
  | .compIn _ _=>fun _ _ e _=>nope e
theorem evEs_ok':∀ (l:MEs) (vs:List AV) (Q:List AV→Hp→Prop),evEs l m H=some vs→Q vs H→vcEs C l m H Q
  | .nil=>fun _ Q e q=>so (P:=fun x=>Q x H) e q
  | .cons a l=>fun _ Q e q=>bnd e fun _ h e=>mpd e fun _ h2 e=>evE_ok' a _ _ h (evEs_ok' l _ _ h2 (sb (P:=fun x=>Q x H) e q))
end
theorem evE_ok (e:ME) {v:AV} {Q:QV}:evE e m H=some v→Q v H→vcE C e m H Q:=evE_ok' e v Q
theorem evEs_ok (l:MEs) {vs:List AV} {Q:List AV→Hp→Prop}:evEs l m H=some vs→Q vs H→vcEs C l m H Q:=evEs_ok' l vs Q
theorem bndI {α β:Type} {o:Option α} {f:α→Option β} {a:α} {r:Option β} (h:o=some a) (k:f a=r):o.bind f=r:=h▸k
theorem mpI {α β:Type} {o:Option α} {f:α→β} {a:α} {b:β} (h:o=some a) (k:f a=b):o.map f=some b:=h▸congrArg some k
theorem v_bin {o:BOp} {a b:ME} {x y z:AV} (ha:evE a m H=some x) (hb:evE b m H=some y) (h:binAV o x y=some z):evE (.bin o a b) m H=some z:=bndI ha (bndI hb h)
theorem v_cmp {o:COp} {a b:ME} {x y:AV} {z:Bool} (ha:evE a m H=some x) (hb:evE b m H=some y) (h:cmpAV H o x y=some z):evE (.cmp o a b) m H=some (.bool z):=bndI ha (bndI hb (mpI h rfl))
theorem v_sub {a b:ME} {x y z:AV} (ha:evE a m H=some x) (hb:evE b m H=some y) (h:subAV H x y=some z):evE (.sub a b) m H=some z:=bndI ha (bndI hb h)
theorem v_attr {a:ME} {f:Str} {x z:AV} (ha:evE a m H=some x) (h:attrAV H x f=some z):evE (.attr a f) m H=some z:=bndI ha h
theorem v_len {a:ME} {x:AV} {n:Nat} (ha:evE a m H=some x) (h:lenAV H x=some n):evE (.len a) m H=some (.int (n:Int)):=mpI (bndI ha h) rfl
theorem v_not {a:ME} {z:Bool} (ha:evE a m H=some (.bool z)):evE (.not a) m H=some (.bool (!z)):=mpI (bndI ha rfl) rfl
theorem v_andT {a b:ME} {z:Bool} (ha:evE a m H=some (.bool true)) (hb:evE b m H=some (.bool z)):evE (.and a b) m H=some (.bool z):=bndI (bndI ha rfl) (mpI (bndI hb rfl) rfl)
theorem v_andF {a b:ME} (ha:evE a m H=some (.bool false)):evE (.and a b) m H=some (.bool false):=bndI (bndI ha rfl) rfl
theorem v_orF {a b:ME} {z:Bool} (ha:evE a m H=some (.bool false)) (hb:evE b m H=some (.bool z)):evE (.or a b) m H=some (.bool z):=bndI (bndI ha rfl) (mpI (bndI hb rfl) rfl)
theorem v_iteT {c a b:ME} {v:AV} (hc:evE c m H=some (.bool true)) (ha:evE a m H=some v):evE (.ite c a b) m H=some v:=bndI (bndI hc rfl) ha
theorem v_iteF {c a b:ME} {v:AV} (hc:evE c m H=some (.bool false)) (hb:evE b m H=some v):evE (.ite c a b) m H=some v:=bndI (bndI hc rfl) hb
theorem v_isNone {a:ME} {x:AV} {z:Bool} (ha:evE a m H=some x) (h:isNoneAV x=z):evE (.isNone a) m H=some (.bool z):=mpI ha (congrArg AV.bool h)
theorem v_tup {l:MEs} {vs:List AV} (h:evEs l m H=some vs):evE (.tup l) m H=some (.tup vs):=mpI h rfl
theorem v_lstF {l:MEs} {vs:List AV} (h:evEs l m H=some vs):evE (.lstF l) m H=some (.lst vs):=mpI h rfl
theorem v_sliceTo {a b:ME} {x:AV} {l:List AV} {i:Nat} (ha:evE a m H=some x) (hl:listOf H x=some l) (hb:evE b m H=some (.int (i:Int))):evE (.sliceTo a b) m H=some (.lst (l.take i)) :=
  bndI (bndI ha hl) (mpI (a:=(i:Int)) (bndI hb (if_pos (e:=Option.none) (Int.natCast_nonneg i))) rfl)
theorem v_sliceFrom {a b:ME} {x:AV} {l:List AV} {i:Nat} (ha:evE a m H=some x) (hl:listOf H x=some l) (hb:evE b m H=some (.int (i:Int))):evE (.sliceFrom a b) m H=some (.lst (l.drop i)) :=
  bndI (bndI ha hl) (mpI (a:=(i:Int)) (bndI hb (if_pos (e:=Option.none) (Int.natCast_nonneg i))) rfl)
theorem v_sum {a:ME} {x:AV} {l:List AV} {u:List Int} (ha:evE a m H=some x) (hl:listOf H x=some l) (hu:intsOf l=some u):evE (.sum a) m H=some (.int u.sum):=bndI (bndI ha hl) (mpI hu rfl)
theorem v_strOf {a:ME} {i:Int} (ha:evE a m H=some (.int i)) (h0:0≤i) (h9:i≤9):evE (.strOf a) m H=some (.str (digit i)):=bndI (bndI ha (if_pos h0)) (if_pos h9)
theorem evp_cons {e:ME} {l:MEs} {v:AV} {vs:List AV} (h:evE e m H=some v) (h2:evEs l m H=some vs):evEs (.cons e l) m H=some (v::vs):=bndI h (mpI h2 rfl)
theorem yes {p:Prop} [Decidable p] (h:p):some (decide p)=some true:=congrArg some (decide_eq_true h)
theorem no {p:Prop} [Decidable p] (h:¬ p):some (decide p)=some false:=congrArg some (decide_eq_false h)
theorem same {p q:Prop} [Decidable p] [Decidable q] (h:p ↔ q):some (decide p)=some (decide q):=congrArg some (decide_eq_decide.mpr h)
theorem yes' {p:Prop} [Decidable p] (h:p):(some (decide p)).map (!·)=some false:=congrArg (fun b=>some (!b)) (decide_eq_true h)
theorem no' {p:Prop} [Decidable p] (h:¬ p):(some (decide p)).map (!·)=some true:=congrArg (fun b=>some (!b)) (decide_eq_false h)
theorem at_dS {k:Nat} {s:Str} {l:List (Str × AV)} {r:Option AV} (h:H k=some (.dS l)) (g:getK l s=r):subAV H (.ref k) (.str s)=r:=(congrArg (fun o:Option AO=>match o with | some (.dS l)=>getK l s | _=>Option.none) h).trans g
theorem at_obj {c:Cl} {k:Nat} {f:Str} {l:List (Str × AV)} {r:Option AV} (h:H k=some (.ins l)) (g:getK l f=r):attrAV H (.obj c k) f=r:=(congrArg (fun o:Option AO=>match o with | some (.ins l)=>getK l f | _=>Option.none) h).trans g
theorem in_dS {k:Nat} {s:Str} {l:List (Str × AV)} (h:H k=some (.dS l)):inAV H (.str s) (.ref k)=some (decide (s∈l.map (·.1))):=congrArg (fun o:Option AO=>match o with | some (.dS l)=>some (decide (s∈l.map fun x:Str × AV=>x.1)) | _=>Option.none) h
theorem v_inT {a b:ME} {s:Str} {k:Nat} {l:List (Str × AV)} (ha:evE a m H=some (.str s)) (hb:evE b m H=some (.ref k)) (h:H k=some (.dS l)) (g:s∈l.map (·.1)):evE (.cmp .isin a b) m H=some (.bool true):=v_cmp ha hb ((in_dS h).trans (yes g))
theorem v_inF {a b:ME} {s:Str} {k:Nat} {l:List (Str × AV)} (ha:evE a m H=some (.str s)) (hb:evE b m H=some (.ref k)) (h:H k=some (.dS l)) (g:s ∉ l.map (·.1)):evE (.cmp .isin a b) m H=some (.bool false):=v_cmp ha hb ((in_dS h).trans (no g))
theorem v_outF {a b:ME} {s:Str} {k:Nat} {l:List (Str × AV)} (ha:evE a m H=some (.str s)) (hb:evE b m H=some (.ref k)) (h:H k=some (.dS l)) (g:s∈l.map (·.1)):evE (.cmp .notin a b) m H=some (.bool false):=v_cmp ha hb (congrArg (Option.map (!·)) ((in_dS h).trans (yes g)))
theorem v_outT {a b:ME} {s:Str} {k:Nat} {l:List (Str × AV)} (ha:evE a m H=some (.str s)) (hb:evE b m H=some (.ref k)) (h:H k=some (.dS l)) (g:s ∉ l.map (·.1)):evE (.cmp .notin a b) m H=some (.bool true):=v_cmp ha hb (congrArg (Option.map (!·)) ((in_dS h).trans (no g)))
theorem seq_of {k:Nat} {l:List AV} (h:H k=some (.list l)):seqOf H (.ref k)=some l:=congrArg (fun o:Option AO=>match o with | some (.list l)=>some l | _=>Option.none) h
theorem list_of {k:Nat} {l:List AV} (h:H k=some (.list l)):listOf H (.ref k)=some l:=congrArg (fun o:Option AO=>match o with | some (.list l)=>some l | _=>Option.none) h
theorem len_list {k:Nat} {l:List AV} (h:H k=some (.list l)):lenAV H (.ref k)=some l.length:=congrArg (fun o:Option AO=>match o with | some (.list l)=>some l.length | some (.dS l)=>some l.length | some (.dI l)=>some l.length | _=>Option.none) h
theorem len_dS {k:Nat} {l:List (Str × AV)} (h:H k=some (.dS l)):lenAV H (.ref k)=some l.length:=congrArg (fun o:Option AO=>match o with | some (.list l)=>some l.length | some (.dS l)=>some l.length | some (.dI l)=>some l.length | _=>Option.none) h
theorem spot_at {n i:Nat} (h:i<n):spotOf n (i:Int)=some i:=by
  unfold spotOf;rw [if_pos (Int.natCast_nonneg i),if_pos (Int.ofNat_lt.mpr h)];rfl
theorem at_seq {x:AV} {l:List AV} {i:Nat} {v:AV} (hs:seqOf H x=some l) (h:l[i]? = some v):subAV H x (.int (i:Int))=some v:=by
  have e:(match seqOf H x with | some l=>(match spotOf l.length (i:Int) with | some j=>l[j]? | _=>Option.none) | _=>Option.none)=some v:=by
    rw [hs];show (match spotOf l.length (i:Int) with | some j=>l[j]? | _=>Option.none)=some v
    rw [spot_at (List.getElem?_eq_some_iff.mp h).1];exact h
  cases x <;> first | exact e | exact nope hs
variable {Q:QF} {ms:MSs}
theorem s_assign {i:Nat} {e:ME} {v:AV} (h:evE e m H=some v) (hi:Nat.blt i m.length=true) (q:vcSs C ms (m.set i (some v)) H Q):vcSs C (.cons (.assign i e) ms) m H Q :=
  evE_ok (C:=C) e h ⟨Nat.le_of_ble_eq_true hi,q⟩
theorem s_ret {e:ME} {v:AV} (h:evE e m H=some v) (q:Q (.ret v) m H):vcSs C (.cons (.ret e) ms) m H Q:=evE_ok (C:=C) e h q
theorem orB {z:Bool} {P R:Prop} (ht:z=true→P) (hf:z=false→R):(AV.bool z=.bool true∧P)∨(AV.bool z=.bool false∧R):=by
  cases z
  · exact Or.inr ⟨rfl,hf rfl⟩
  · exact Or.inl ⟨rfl,ht rfl⟩
theorem s_if {c:ME} {a b:MSs} {z:Bool} (h:evE c m H=some (.bool z)) (ht:z=true→vcSs C a m H (kont (vcSs C ms) Q)) (hf:z=false→vcSs C b m H (kont (vcSs C ms) Q)):vcSs C (.cons (.ifs c a b) ms) m H Q :=
  evE_ok (C:=C) c h (orB ht hf)
theorem s_nil (q:Q .next m H):vcSs C .nil m H Q:=q
theorem s_ifT {c:ME} {a b:MSs} (h:evE c m H=some (.bool true)) (q:vcSs C a m H (kont (vcSs C ms) Q)):vcSs C (.cons (.ifs c a b) ms) m H Q:=evE_ok (C:=C) c h (Or.inl ⟨rfl,q⟩)
theorem s_ifF {c:ME} {a b:MSs} (h:evE c m H=some (.bool false)) (q:vcSs C b m H (kont (vcSs C ms) Q)):vcSs C (.cons (.ifs c a b) ms) m H Q:=evE_ok (C:=C) c h (Or.inr ⟨rfl,q⟩)
theorem s_no {c:ME} {a:MSs} (h:evE c m H=some (.bool false)) (q:vcSs C ms m H Q):vcSs C (.cons (.ifs c a .nil) ms) m H Q:=s_ifF h q
theorem s_when {c:ME} {a:MSs} {z:Bool} (h:evE c m H=some (.bool z)) (ht:z=true→vcSs C a m H (kont (vcSs C ms) Q))
    (hf:z=false→vcSs C ms m H Q):vcSs C (.cons (.ifs c a .nil) ms) m H Q:=s_if h ht hf
set_option genCtorIdx false
inductive Ex
  | text (s:Str) | name (j:Nat) | eps | seq (a b:Ex) | alt (a b:Ex) | opt (a:Ex) | rep (a:Ex)
noncomputable def Ex.ctorIdx (x:Ex):Nat:=x.casesOn (fun _=>0) (fun _=>1) 2 (fun _ _=>3) (fun _ _=>4) (fun _=>5) (fun _=>6)
noncomputable def rn (j:Nat):Str:=("R":Str) ++ digit j
noncomputable def Ex.av:Ex→AV
  | .text s => .tup [.str "text",.str s]
  | .name j => .tup [.str "name",.str (rn j)]
  | .eps => .tup [.str "seq",.tup []]
  | .seq a b => .tup [.str "seq",.tup [a.av,b.av]]
  | .alt a b => .tup [.str "alt",.tup [a.av,b.av]]
  | .opt a => .tup [.str "opt",a.av]
  | .rep a => .tup [.str "rep",a.av]
noncomputable def Ex.size:Ex→Nat
  | .text _=>1 | .name _=>1 | .eps=>1
  | .seq a b=>1+a.size+b.size | .alt a b=>1+a.size+b.size | .opt a=>1+a.size | .rep a=>1+a.size
theorem zs {a b:Ex}:(Ex.seq a b).size=1+a.size+b.size:=rfl
theorem za {a b:Ex}:(Ex.alt a b).size=1+a.size+b.size:=rfl
theorem zo {a:Ex}:(Ex.opt a).size=1+a.size:=rfl
theorem zr {a:Ex}:(Ex.rep a).size=1+a.size:=rfl
noncomputable def tabAV (ts:List Ex):List (Str × AV):=(List.range ts.length).map fun i=>(rn i,((ts[i]?).getD .eps).av)
theorem e_call {f:Fn} {l:MEs} {vs:List AV} {Q:QV} (h:evEs l m H=some vs) (q:C f vs H Q):vcE C (.call f l) m H Q:=evEs_ok (C:=C) l h q
theorem e_meth {f:Fn} {o:ME} {l:MEs} {x:AV} {vs:List AV} {Q:QV} {c:Cl} {k:Nat} {fs:List (Str × AV)} (h1:evE o m H=some x) (h2:clsOf f=some c∧x=.obj c k∧H k=some (.ins fs)∧getK fs (methName f)=none) (h:evEs l m H=some vs) (q:C f (x::vs) H Q) :
    vcE C (.meth f o l) m H Q:=evE_ok (C:=C) o h1 ⟨⟨c,k,fs,h2⟩,evEs_ok (C:=C) l h q⟩
theorem e_not {e:ME} {Q:QV} (h:vcE C e m H fun x H1=>∃ b,x=.bool b∧Q (.bool (!b)) H1):vcE C (.not e) m H Q:=h
theorem s_ifE {c:ME} {a b:MSs} (h:vcE C c m H fun x H1=>∃ z,x=.bool z∧(z=true→vcSs C a m H1 (kont (vcSs C ms) Q)) ∧
    (z=false→vcSs C b m H1 (kont (vcSs C ms) Q))) (hm:MonoE (vcE C c)):vcSs C (.cons (.ifs c a b) ms) m H Q:=by
  refine hm _ _ _ _ (fun x H1 q=>?_) h
  obtain ⟨z,rfl,ht,hf⟩:=q
  cases z
  · exact Or.inr ⟨rfl,hf rfl⟩
  · exact Or.inl ⟨rfl,ht rfl⟩
theorem s_assignE {i:Nat} {e:ME} (h:vcE C e m H fun v H1=>i<m.length∧vcSs C ms (m.set i (some v)) H1 Q):vcSs C (.cons (.assign i e) ms) m H Q:=h
theorem s_retE {e:ME} (h:vcE C e m H fun v H1=>Q (.ret v) m H1):vcSs C (.cons (.ret e) ms) m H Q:=h
theorem s_exprE {e:ME} (h:vcE C e m H fun _ H1=>vcSs C ms m H1 Q):vcSs C (.cons (.expr e) ms) m H Q:=h
theorem s_for {t:MT} {src:ME} {b:MSs} {x:AV} {l:List AV} (h:evE src m H=some x) (hl:seqOf H x=some l)
    (q:forL (vcSs C b) (Live H x) t l m H (kont (vcSs C ms) Q)):vcSs C (.cons (.for t src b) ms) m H Q:=evE_ok (C:=C) src h ⟨l,hl,q⟩
theorem callI {n:Nat} {f:Fn} {vs:List AV} {Q:QV} (hl:vs.length=(fdt f).np) (h:vcSs (callN fdt n) (fdt f).body (initLo vs (fdt f).nl) H (retK Q)) :
    callN fdt (n+1) f vs H Q:=⟨hl,h⟩
theorem callS {n:Nat} {f:Fn} {vs:List AV} {Q:QV} (hn:0<n) (hl:vs.length=(fdt f).np) (h:∀ k,n=k+1→vcSs (callN fdt k) (fdt f).body (initLo vs (fdt f).nl) H (retK Q)):callN fdt n f vs H Q:=by
  cases n with
  | zero=>exact absurd hn (Nat.lt_irrefl 0)
  | succ k=>exact ⟨hl,h k rfl⟩
theorem retI {Q:QV} {v:AV} (q:Q v H):∃ H'':Hp,H''.le H∧Q v H'':=⟨H,Hp.le_refl H,q⟩
theorem dropI {Q:QV} {v:AV} {H':Hp} (l:H'.le H) (q:Q v H'):∃ H'':Hp,H''.le H∧Q v H'':=⟨H',l,q⟩
theorem cm (n:Nat):MonoC (callN fdt n):=callN_mono fdt n
noncomputable def nul (em:List Str):Ex→Bool
  | .text _=>false
  | .name j=>decide (rn j∈em)
  | .eps=>true
  | .seq a b=>nul em a && nul em b
  | .alt a b=>nul em a || nul em b
  | .opt _=>true
  | .rep _=>true
theorem nulS {em:List Str} {a b:Ex}:nul em (.seq a b)=(nul em a && nul em b):=rfl
theorem nulA {em:List Str} {a b:Ex}:nul em (.alt a b)=(nul em a || nul em b):=rfl
end LY.Internal
end

section
open PySem
namespace LY.Internal
variable {C:CallP} {m:Lo} {H:Hp}
theorem may_ok {kt ke:Nat} {em:List (Str × AV)} {H:Hp} (he:H ke=some (.dS em)):∀ (e:Ex) {n:Nat} {Q:QV},e.size<n→Q (.bool (nul (em.map (·.1)) e)) H→callN fdt n .may_be_empty [e.av,.ref kt,.ref ke] H Q:=by
  intro e
  induction e with
  | text s =>
    intro n Q hn q
    refine callS (by omega) rfl fun n en=>?_
    refine s_assign rfl rfl ?_
    refine s_no (by kernel_rfl!) ?_
    refine s_no (by kernel_rfl!) ?_
    refine s_no (by kernel_rfl!) ?_
    exact s_ret (v:=.bool (nul (em.map (·.1)) (.text s))) (by kernel_rfl!) (retI q)
  | name j =>
    intro n Q hn q
    refine callS (by omega) rfl fun n en=>?_
    refine s_assign rfl rfl ?_
    refine s_no (by kernel_rfl!) ?_
    refine s_no (by kernel_rfl!) ?_
    refine s_no (by kernel_rfl!) ?_
    exact s_ret (v_andT (by kernel_rfl!) (v_cmp rfl rfl (in_dS he))) (retI q)
  | eps =>
    intro n Q hn q
    refine callS (by omega) rfl fun n en=>?_
    refine s_assign rfl rfl ?_
    refine s_no (by kernel_rfl!) ?_
    refine s_ifT (by kernel_rfl!) ?_
    refine s_for rfl rfl ⟨trivial,?_⟩
    exact s_ret rfl (retI q)
  | seq a b iha ihb =>
    intro n Q hn q
    dsimp only [zs] at hn
    refine callS (by omega) rfl fun n en=>?_
    refine s_assign rfl rfl ?_
    refine s_no (by kernel_rfl!) ?_
    refine s_ifT (by kernel_rfl!) ?_
    refine s_for rfl rfl ⟨trivial,_,rfl,?_⟩
    refine s_ifE (e_not (e_call rfl (iha (by omega) ⟨_,rfl,_,rfl,fun h=>?_,fun h=>?_⟩))) (vcE_mono (cm n) _)
    · refine s_ret rfl (retI ?_)
      rw [nulS,show nul (em.map (·.1)) a=false by simpa using h] at q
      exact q
    · refine s_nil ⟨trivial,_,rfl,?_⟩
      have ha:nul (em.map (·.1)) a=true:=by simpa using h
      rw [nulS,ha,Bool.true_and] at q
      refine s_ifE (e_not (e_call rfl (ihb (by omega) ⟨_,rfl,_,rfl,fun h=>?_,fun h=>?_⟩))) (vcE_mono (cm n) _)
      · refine s_ret rfl (retI ?_)
        rw [show nul (em.map (·.1)) b=false by simpa using h] at q
        exact q
      · refine s_nil ⟨trivial,s_ret rfl (retI ?_)⟩
        rw [show nul (em.map (·.1)) b=true by simpa using h] at q
        exact q
  | alt a b iha ihb =>
    intro n Q hn q
    dsimp only [za] at hn
    refine callS (by omega) rfl fun n en=>?_
    refine s_assign rfl rfl ?_
    refine s_no (by kernel_rfl!) ?_
    refine s_no (by kernel_rfl!) ?_
    refine s_ifT (by kernel_rfl!) ?_
    refine s_for rfl rfl ⟨trivial,_,rfl,?_⟩
    refine s_ifE (e_call rfl (iha (by omega) ⟨_,rfl,fun h=>?_,fun h=>?_⟩)) (vcE_mono (cm n) _)
    · refine s_ret rfl (retI ?_)
      rw [nulA,h] at q
      exact q
    · refine s_nil ⟨trivial,_,rfl,?_⟩
      rw [nulA,h,Bool.false_or] at q
      refine s_ifE (e_call rfl (ihb (by omega) ⟨_,rfl,fun h=>?_,fun h=>?_⟩)) (vcE_mono (cm n) _)
      · refine s_ret rfl (retI ?_)
        rw [h] at q
        exact q
      · refine s_nil ⟨trivial,s_ret rfl (retI ?_)⟩
        rw [h] at q
        exact q
  | opt a ih =>
    intro n Q hn q
    refine callS (by omega) rfl fun n en=>?_
    refine s_assign rfl rfl ?_
    refine s_ifT (by kernel_rfl!) ?_
    exact s_ret rfl (retI q)
  | rep a ih =>
    intro n Q hn q
    refine callS (by omega) rfl fun n en=>?_
    refine s_assign rfl rfl ?_
    refine s_ifT (by kernel_rfl!) ?_
    exact s_ret rfl (retI q)
noncomputable def ks (l:List (Str × AV)):List Str:=l.map (·.1)
noncomputable def Keys (l:List (Str × AV)) (S:Str→Prop):Prop:=(ks l).Nodup∧∀ x,x∈ks l ↔ S x
theorem fst_setK {κ:Type} [DecidableEq κ] (k:κ) (v:AV):∀ l:List (κ × AV),(setK l k v).map (·.1)=if k∈l.map (·.1) then l.map (·.1) else l.map (·.1)++[k]
  | []=>rfl
  | (k1,v1)::l=>by
    rw [setK_cons]
    by_cases h:k=k1
    · rw [if_pos h,h];exact (if_pos List.mem_cons_self).symm
    · rw [if_neg h]
      refine (congrArg (k1::·) (fst_setK k v l)).trans ?_
      by_cases h2:k∈l.map (·.1)
      · rw [if_pos h2];exact (if_pos (List.mem_cons_of_mem _ h2)).symm
      · rw [if_neg h2];exact (if_neg fun q=>(List.mem_cons.mp q).elim h h2).symm
theorem ks_setK (l:List (Str × AV)) (k:Str) (v:AV):ks (setK l k v)=if k∈ks l then ks l else ks l++[k]:=fst_setK k v l
theorem keys_setK {l:List (Str × AV)} {S:Str→Prop} (h:Keys l S) (k:Str) (v:AV):Keys (setK l k v) (fun x=>S x∨x=k):=by
  unfold Keys at *
  rw [ks_setK]
  split
  · rename_i hk
    exact ⟨h.1,fun x=>⟨fun hx=>Or.inl ((h.2 x).mp hx),fun hx=>hx.elim (h.2 x).mpr fun e=>e▸hk⟩⟩
  · rename_i hk
    refine ⟨List.nodup_append.mpr ⟨h.1,by simp,by rintro a ha b hb rfl;rw [List.mem_singleton.mp hb] at ha;exact hk ha⟩,fun x=>?_⟩
    rw [List.mem_append,List.mem_singleton,h.2 x]
theorem keys_mergeK:∀ (kk:List Str) {l:List (Str × AV)} {S:Str→Prop},Keys l S→Keys (mergeK l kk) (fun x=>S x∨x∈kk)
  | [],l,S,h=>⟨h.1,fun x=>(h.2 x).trans ⟨Or.inl,fun q=>q.elim id nofun⟩⟩
  | k::kk,l,S,h=>by
    have:=keys_mergeK kk (keys_setK h k (.bool true))
    refine ⟨this.1,fun x=>?_⟩
    rw [show mergeK l (k::kk)=mergeK (setK l k (.bool true)) kk from rfl,this.2 x]
    show ((S x∨x=k)∨x∈kk) ↔ (S x∨x∈k::kk)
    rw [List.mem_cons]
    constructor
    · rintro ((a | a) | a)
      · exact Or.inl a
      · exact Or.inr (Or.inl a)
      · exact Or.inr (Or.inr a)
    · rintro (a | a | a)
      · exact Or.inl (Or.inl a)
      · exact Or.inl (Or.inr a)
      · exact Or.inr a
theorem ks_len (l:List (Str × AV)):(ks l).length=l.length:=List.length_map _
theorem setK_ge (l:List (Str × AV)) (k:Str) (v:AV):l.length≤(setK l k v).length:=by
  rw [← ks_len l,← ks_len (setK l k v),ks_setK]
  by_cases h:k∈ks l
  · rw [if_pos h];exact Nat.le_refl _
  · rw [if_neg h];simp
theorem mergeK_ge:∀ (kk:List Str) (l:List (Str × AV)),l.length≤(mergeK l kk).length
  | [],_=>Nat.le_refl _
  | k::kk,l=>Nat.le_trans (setK_ge l k _) (mergeK_ge kk (setK l k (.bool true)))
theorem setK_same {l:List (Str × AV)} {k:Str} {v:AV} (h:(setK l k v).length=l.length):k∈ks l:=by
  rw [← ks_len l,← ks_len (setK l k v),ks_setK] at h
  by_cases hk:k∈ks l
  · exact hk
  · rw [if_neg hk] at h;simp at h
theorem mergeK_same:∀ {kk:List Str} {l:List (Str × AV)},¬ l.length<(mergeK l kk).length→∀ k∈kk,k∈ks l
  | k::kk,l,h,x,hx=>by
    have h1:=setK_ge l k (.bool true)
    have h2:=mergeK_ge kk (setK l k (.bool true))
    have h3:(mergeK l (k::kk)).length=(mergeK (setK l k (.bool true)) kk).length:=rfl
    have hk:k∈ks l:=setK_same (v:=.bool true) (by omega)
    rcases List.mem_cons.mp hx with rfl | hx
    · exact hk
    · have:=mergeK_same (l:=setK l k (.bool true)) (by omega) x hx
      rw [ks_setK,if_pos hk] at this
      exact this
noncomputable def U : List Str := ["p", "q", "r", "s", rn 1, rn 2, rn 3, rn 4, rn 5, rn 6, "eof"]
theorem len_le_of_sub {α:Type} [DecidableEq α]:∀ {l u:List α},l.Nodup→(∀ x∈l,x∈u)→l.length≤u.length
  | [],_,_,_=>Nat.zero_le _
  | a::l,u,hn,h=>by
    rw [List.nodup_cons] at hn
    have:=len_le_of_sub (l:=l) (u:=u.erase a) hn.2 fun x hx=>(List.mem_erase_of_ne (fun e:x=a=>hn.1 (e▸hx))).mpr (h x (List.mem_cons_of_mem _ hx))
    rw [List.length_erase_of_mem (h a (List.mem_cons_self ..))] at this
    have h2:0<u.length:=List.length_pos_of_mem (h a (List.mem_cons_self ..))
    simp only [List.length_cons]
    omega
theorem keys_len {l:List (Str × AV)} {S:Str→Prop} (h:Keys l S) (hu:∀ x,S x→x∈U):l.length≤11:=by
  have:=len_le_of_sub h.1 fun x hx=>hu x ((h.2 x).mp hx)
  rw [show (ks l).length=l.length from List.length_map _] at this;exact this
theorem le_set_of {H:Hp} {k:Nat} {o:AO} (h:H k=none):H.le (H.set k o):=Hp.le_set o h
theorem merge_ok {kt ks':Nat} {l l':List (Str × AV)} {H:Hp} {n:Nat} {Q:QV} (hn:0<n) (hne:ks'≠kt) (ht:H kt=some (.dS l)) (hs:H ks'=some (.dS l')) (hc:l.length+l'.length≤cap)
    (q:Q (.bool (decide (l.length<(mergeK l (ks l')).length))) (H.set kt (.dS (mergeK l (ks l'))))):callN fdt n .merge [.ref kt,.ref ks'] H Q:=by
  refine callS (by omega) rfl fun n en=>?_
  refine s_assign (v:=.int l.length) (v_len rfl (len_dS ht)) rfl ?_
  refine ⟨ks',kt,l,l',rfl,rfl,by decide,Nat.le_of_ble_eq_true rfl,hne,hs,ht,hc,fun m' hm hat=>?_⟩
  exact s_ret (v_cmp (v_len (hat 0 (by decide)) (len_dS (Hp.set_self ..))) (hat 2 (by decide)) (same Int.ofNat_lt)) (retI q)
theorem rn_inj {a b:Nat} (h:rn a=rn b):a=b:=by
  have h1:=congrArg Str.cps h
  have e:∀ j:Nat,(rn j).cps=#[82,48+j]:=fun j=>by
    show (Str.cps ("R":Str)) ++ #[48 + (j:Int).toNat] = _
    rw [show Str.cps ("R":Str) = #[82] by decide +kernel]
    simp
  rw [e,e] at h1
  simpa using h1
noncomputable def T (ts:List Ex) (j:Nat):Ex:=(ts[j]?).getD .eps
theorem tab_get {ts:List Ex} {j:Nat} (h:j<ts.length):getK (tabAV ts) (rn j)=some (T ts j).av:=by
  have:∀ (l:List Nat),j∈l→getK (l.map fun i=>(rn i,((ts[i]?).getD .eps).av)) (rn j)=some (T ts j).av:=by
    intro l
    induction l with
    | nil=>intro hm;cases hm
    | cons i l ih =>
      intro hm
      rw [List.map_cons,getK_cons]
      by_cases hi:rn j=rn i
      · rw [if_pos hi,rn_inj hi];rfl
      · rw [if_neg hi]
        rcases List.mem_cons.mp hm with rfl | hm
        · exact absurd rfl hi
        · exact ih hm
  exact this _ (List.mem_range.mpr h)
theorem tab_ks (ts:List Ex):ks (tabAV ts)=(List.range ts.length).map rn:=List.map_map
theorem tab_mem {ts:List Ex} {j:Nat}:rn j∈ks (tabAV ts) ↔ j<ts.length:=by
  rw [tab_ks,List.mem_map]
  constructor
  · rintro ⟨i,hi,e⟩
    rw [rn_inj e] at hi
    exact List.mem_range.mp hi
  · intro h
    exact ⟨j,List.mem_range.mpr h,rfl⟩
noncomputable def isTok (len:Nat):Ex→Bool
  | .text _=>true
  | .name j=>!decide (j<len)
  | _=>false
noncomputable def tokS:Ex→Str
  | .text s=>s
  | .name j=>rn j
  | _ => ""
theorem isTok_inv {len:Nat} {e:Ex} (h:isTok len e=true):(∃ s,e=.text s)∨∃ j,e=.name j∧¬ j<len:=by
  cases e with
  | text s=>exact Or.inl ⟨s,rfl⟩
  | name j=>exact Or.inr ⟨j,rfl,fun hj=>Bool.false_ne_true ((congrArg (!·) (decide_eq_true hj)).symm.trans h)⟩
  | _=>exact (Bool.false_ne_true h).elim
theorem in_tab {ts:List Ex} {j kt:Nat} (ht:H kt=some (.dS (tabAV ts))):inAV H (.str (rn j)) (.ref kt)=some (decide (j<ts.length)):=by
  exact (in_dS ht).trans (same tab_mem)
theorem is_token_ok {kt n:Nat} {ts:List Ex} {Q:QV} {e:Ex} (hn:0<n) (ht:H kt=some (.dS (tabAV ts))) (q:Q (.bool (isTok ts.length e)) H):callN fdt n .is_token [e.av,.ref kt] H Q:=by
  refine callS (by omega) rfl fun n en=>?_
  refine s_ret (v:=.bool (isTok ts.length e)) ?_ (retI q)
  cases e with
  | name j=>exact v_orF (by kernel_rfl!) (v_andT (by kernel_rfl!) (v_cmp rfl rfl (congrArg (Option.map (!·)) (in_tab ht))))
  | _=>kernel_rfl!
theorem token_of_ok {kt n:Nat} {ts:List Ex} {Q:QV} {e:Ex} (hn:0<n) (ht:H kt=some (.dS (tabAV ts))) (hi:isTok ts.length e=true) (q:Q (.str (tokS e)) H):callN fdt n .token_of [e.av,.ref kt] H Q:=by
  refine callS (by omega) rfl fun n en=>?_
  rcases isTok_inv hi with ⟨s,rfl⟩ | ⟨j,rfl,hj⟩
  · refine s_ifT (by kernel_rfl!) ?_
    exact s_ret rfl (retI q)
  · refine s_no (by kernel_rfl!) ?_
    exact s_ifT (v_andT (by kernel_rfl!) (v_cmp rfl rfl (congrArg (Option.map (!·)) ((in_tab ht).trans (no hj))))) (s_ret rfl (retI q))
end LY.Internal
end

section
open PySem
namespace LY.Internal
variable {C:CallP} {m:Lo} {H:Hp}
theorem es_cons {e:ME} {l:MEs} {Q:List AV→Hp→Prop} (h:vcE C e m H fun v H1=>vcEs C l m H1 fun vs H2=>Q (v::vs) H2):vcEs C (.cons e l) m H Q:=h
theorem es_nil {Q:List AV→Hp→Prop} (h:Q [] H):vcEs C .nil m H Q:=h
theorem e_callE {f:Fn} {l:MEs} {Q:QV} (h:vcEs C l m H fun vs H1=>C f vs H1 Q):vcE C (.call f l) m H Q:=h
theorem e_andT {a b:ME} {Q:QV} (h:evE a m H=some (.bool true)) (q:vcE C b m H fun y H2=>(∃ z,y=.bool z)∧Q y H2):vcE C (.and a b) m H Q:=evE_ok (C:=C) a h (Or.inr ⟨rfl,q⟩)
theorem e_andF {a b:ME} {Q:QV} (h:evE a m H=some (.bool false)) (q:Q (.bool false) H):vcE C (.and a b) m H Q:=evE_ok (C:=C) a h (Or.inl ⟨rfl,q⟩)
theorem s_ifR {c:ME} {a b:MSs} {ms:MSs} {Q:QF} (h:vcE C c m H fun x H1=>(x=.bool true∧vcSs C a m H1 (kont (vcSs C ms) Q)) ∨
    (x=.bool false∧vcSs C b m H1 (kont (vcSs C ms) Q))):vcSs C (.cons (.ifs c a b) ms) m H Q:=h
theorem le_set_ne {H H2:Hp} {k:Nat} {o:AO} (h:H.le H2) (hk:H k=none):H.le (H2.set k o):=fun j o' e=>by
  rw [Hp.set_ne _ _ (fun q=>by rw [q,hk] at e;cases e)]
  exact h j o' e
noncomputable def fst (len:Nat) (em:List Str) (Fi:Nat→Str→Prop):Ex→Str→Prop
  | .text s=>fun x=>x=s
  | .name j=>fun x=>if j<len then Fi j x else x=rn j
  | .eps=>fun _=>False
  | .seq a b=>fun x=>fst len em Fi a x∨(nul em a=true∧fst len em Fi b x)
  | .alt a b=>fun x=>fst len em Fi a x∨fst len em Fi b x
  | .opt a=>fst len em Fi a
  | .rep a=>fst len em Fi a
noncomputable def WfE:Ex→Prop
  | .text s => s ∈ [("p" : Str), "q", "r", "s"]
  | .name j=>1≤j∧j≤6
  | .eps=>True
  | .seq a b=>WfE a∧WfE b
  | .alt a b=>WfE a∧WfE b
  | .opt a=>WfE a
  | .rep a=>WfE a
theorem tok_in_U {e:Ex} (h:WfE e) (len:Nat) (ht:isTok len e=true):tokS e∈U:=by
  have h1 : ∀ s ∈ [("p" : Str), "q", "r", "s"], s ∈ U := by decide +kernel
  have h2:∀ j,j<7→1≤j→rn j∈U:=by decide +kernel
  cases e with
  | text s=>exact h1 s h
  | name j=>exact h2 j (Nat.lt_succ_of_le h.2) h.1
  | _=>cases ht
theorem fst_U {len:Nat} {em:List Str} {Fi:Nat→Str→Prop} (hF:∀ j x,j<len→Fi j x→x∈U):∀ (e:Ex),WfE e→∀ x,fst len em Fi e x→x∈U
  | .text s,h,x,hx=>by rw [show x=s from hx];exact tok_in_U (len:=0) h rfl
  | .name j,h,x,hx=>by
    by_cases hj:j<len
    · exact hF j x hj ((iff_of_eq (if_pos hj)).mp hx)
    · rw [(iff_of_eq (if_neg hj)).mp hx];exact tok_in_U (e:=.name j) (len:=len) h (congrArg (!·) (decide_eq_false hj))
  | .eps,_,x,hx=>hx.elim
  | .seq a b,h,x,hx=>hx.elim (fst_U hF a h.1 x) fun q=>fst_U hF b h.2 x q.2
  | .alt a b,h,x,hx=>hx.elim (fst_U hF a h.1 x) (fst_U hF b h.2 x)
  | .opt a,h,x,hx=>fst_U hF a h x hx
  | .rep a,h,x,hx=>fst_U hF a h x hx
structure Gh (ts:List Ex) (em:List (Str × AV)) (kt ke kf:Nat) (fr:Nat→Nat) (Fi:Nat→Str→Prop) (H:Hp):Prop where
  ht:H kt=some (.dS (tabAV ts))
  he:H ke=some (.dS em)
  hf:∃ fa,H kf=some (.dS fa)∧∀ j,j<ts.length→getK fa (rn j)=some (.ref (fr j))
  hr:∀ j,j<ts.length→∃ l,H (fr j)=some (.dS l)∧Keys l (Fi j)
  hU:∀ j x,j<ts.length→Fi j x→x∈U
variable {ts:List Ex} {em:List (Str × AV)} {kt ke kf:Nat} {fr:Nat→Nat} {Fi:Nat→Str→Prop}
theorem Gh.le {H H':Hp} (g:Gh ts em kt ke kf fr Fi H) (l:H.le H'):Gh ts em kt ke kf fr Fi H' :=
  ⟨l _ _ g.ht,l _ _ g.he,(by obtain ⟨fa,h1,h2⟩:=g.hf;exact ⟨fa,l _ _ h1,h2⟩),fun j hj=>(by obtain ⟨x,h1,h2⟩:=g.hr j hj;exact ⟨x,l _ _ h1,h2⟩),g.hU⟩
abbrev Gh.fst (ts:List Ex) (em:List (Str × AV)) (Fi:Nat→Str→Prop) (e:Ex):Str→Prop:=LY.Internal.fst ts.length (ks em) Fi e
theorem keys_congr {l:List (Str × AV)} {S S':Str→Prop} (h:Keys l S) (e:∀ x,S x ↔ S' x):Keys l S':=⟨h.1,fun x=>(h.2 x).trans (e x)⟩
theorem keys1 (x:Str) (v:AV):Keys [(x,v)] (fun y=>y=x):=⟨List.nodup_cons.mpr ⟨List.not_mem_nil,List.nodup_nil⟩,fun _=>List.mem_singleton⟩
theorem keys0:Keys [] (fun _=>False):=⟨List.nodup_nil,fun _=>⟨(fun h=>nomatch h),False.elim⟩⟩
noncomputable def top:Ex→Option Nat
  | .name j=>some j
  | .opt a=>top a
  | .rep a=>top a
  | _=>none
theorem first_step {n:Nat} {it:Ex} {H Hc:Hp} {k0:Nat} {l0:List (Str × AV)} {S:Str→Prop} {Q:QV} (g:Gh ts em kt ke kf fr Fi H) (hn:0<n) (hw:WfE it) (hS:∀ x,S x→x∈U)
    (ih:∀ {Q:QV},Gh ts em kt ke kf fr Fi Hc→(∀ k H' l,Hc.le H'→H' k=some (.dS l)→(Hc k=none∨∃ j,j<ts.length∧k=fr j∧top it=some j)→Keys l (Gh.fst ts em Fi it)→Q (.ref k) H')→callN fdt n .first_of [it.av,.ref kt,.ref ke,.ref kf] Hc Q)
    (hl:H.le Hc) (h0:H k0=none) (hk:Hc k0=some (.dS l0)) (hl0:Keys l0 S)
    (q:∀ v H' l1,H.le H'→H' k0=some (.dS l1)→Keys l1 (fun x=>S x∨Gh.fst ts em Fi it x)→Q v H') :
    callN fdt n .first_of [it.av,.ref kt,.ref ke,.ref kf] Hc fun v H1=>callN fdt n .merge [.ref k0,v] H1 Q:=by
  refine ih (g.le hl) fun k H' l hle hk' hor hkeys=>?_
  have hne:k≠k0:=by
    rintro rfl
    rcases hor with hor | ⟨j,hj,rfl,_⟩
    · rw [hk] at hor;cases hor
    · obtain ⟨l,e,_⟩:=g.hr j hj
      rw [h0] at e;cases e
  have hk0:=hle _ _ hk
  have hlen:=keys_len hl0 hS
  have hlen2:=keys_len hkeys (fst_U g.hU it hw)
  refine merge_ok hn hne hk0 hk' (by have:cap=1000000:=rfl;omega) (q _ _ _ (le_set_ne (Hp.le_trans hl hle) h0) (Hp.set_self ..) ?_)
  refine keys_congr (keys_mergeK (ks l) hl0) fun x=>?_
  rw [hkeys.2 x]
theorem first_ok:∀ (e:Ex) {H:Hp} {n:Nat} {Q:QV},e.size+2<n→WfE e→Gh ts em kt ke kf fr Fi H →
    (∀ k H' l,H.le H'→H' k=some (.dS l)→(H k=none∨∃ j,j<ts.length∧k=fr j∧top e=some j)→Keys l (Gh.fst ts em Fi e)→Q (.ref k) H')→callN fdt n .first_of [e.av,.ref kt,.ref ke,.ref kf] H Q:=by
  intro e
  induction e with
  | text s =>
    intro H n Q hn hw g q
    refine callS (by omega) rfl fun n en=>(s_ifR (e_call rfl (is_token_ok (e:=.text s) (by omega) g.ht (Or.inl ⟨rfl,?_⟩))))
    refine s_retE (e_call rfl (token_of_ok (e:=.text s) (ts:=ts) (by omega) g.ht rfl ⟨_,rfl,fun k hk=>retI (q k _ [(s,.bool true)] (le_set_of hk) (Hp.set_self ..) (Or.inl hk) (keys1 _ _))⟩))
  | name j =>
    intro H n Q hn hw g q
    by_cases hj:j<ts.length
    · refine callS (by omega) rfl fun n en=>(s_ifR (e_call rfl (is_token_ok (e:=.name j) (by omega) g.ht (Or.inr ⟨congrArg (fun b=>AV.bool !b) (decide_eq_true hj),?_⟩))))
      refine s_nil (s_assign rfl rfl ?_)
      refine s_ifT (by kernel_rfl!) ?_
      obtain ⟨fa,hfa,hfr⟩:=g.hf
      obtain ⟨l,hl,hk⟩:=g.hr j hj
      refine s_ret (v:=.ref (fr j)) (v_sub rfl rfl (at_dS hfa (hfr j hj))) (retI (q _ _ l (Hp.le_refl H) hl (Or.inr ⟨j,hj,rfl,rfl⟩) (keys_congr hk fun x=>(iff_of_eq (if_pos hj)).symm)))
    · refine callS (by omega) rfl fun n en=>(s_ifR (e_call rfl (is_token_ok (e:=.name j) (by omega) g.ht (Or.inl ⟨congrArg (fun b=>AV.bool !b) (decide_eq_false hj),?_⟩))))
      refine s_retE (e_call rfl (token_of_ok (e:=.name j) (ts:=ts) (by omega) g.ht (congrArg (!·) (decide_eq_false hj)) ⟨_,rfl,fun k hk=>retI (q k _ [(rn j,.bool true)] (le_set_of hk) (Hp.set_self ..) (Or.inl hk) (keys_congr (keys1 _ _) fun x=>(iff_of_eq (if_neg hj)).symm))⟩))
  | eps =>
    intro H n Q hn hw g q
    refine callS (by omega) rfl fun n en=>(s_ifR (e_call rfl (is_token_ok (e:=.eps) (by omega) g.ht (Or.inr ⟨rfl,?_⟩))))
    refine s_nil (s_assign rfl rfl ?_)
    refine s_no (by kernel_rfl!) ?_
    refine s_no (by kernel_rfl!) ?_
    refine s_assignE fun k hk=>⟨Nat.le_of_ble_eq_true rfl,?_⟩
    refine s_for rfl rfl ⟨trivial,?_⟩
    exact s_ret rfl (retI (q k _ [] (le_set_of hk) (Hp.set_self ..) (Or.inl hk) keys0))
  | seq a b iha ihb =>
    intro H n Q hn hw g q
    dsimp only [zs] at hn
    refine callS (by omega) rfl fun n en=>(s_ifR (e_call rfl (is_token_ok (e:=.seq a b) (by omega) g.ht (Or.inr ⟨rfl,?_⟩))))
    refine s_nil (s_assign rfl rfl ?_)
    refine s_no (by kernel_rfl!) ?_
    refine s_no (by kernel_rfl!) ?_
    refine s_assignE fun k hk=>⟨Nat.le_of_ble_eq_true rfl,?_⟩
    refine s_for rfl rfl ⟨trivial,_,rfl,?_⟩
    refine s_exprE (e_callE (es_cons ⟨_,rfl,es_cons (e_call rfl ?_)⟩))
    refine first_step (S:=fun _=>False) (l0:=[]) g (by omega) hw.1 (fun _ x=>x.elim) (fun g' q'=>iha (by omega) hw.1 g' q') (le_set_of hk) hk (Hp.set_self ..) keys0 fun v H1 l1 hle h1 hk1=>?_
    refine s_ifR (e_andT (by kernel_rfl!) (e_not (e_call rfl (may_ok (he:=(g.le hle).he) a (by omega) ⟨_,rfl,⟨_,rfl⟩,?_⟩))))
    by_cases hnul:nul (ks em) a=true
    · refine Or.inr ⟨by rw [show nul (em.map (·.1)) a=true from hnul];rfl,s_nil (s_nil ⟨trivial,_,rfl,?_⟩)⟩
      refine s_exprE (e_callE (es_cons ⟨_,rfl,es_cons (e_call rfl ?_)⟩))
      refine first_step (S:=fun x=>False∨Gh.fst ts em Fi a x) (l0:=l1) g (by omega) hw.2 (fun x hx=>hx.elim False.elim (fst_U g.hU a hw.1 x)) (fun g' q'=>ihb (by omega) hw.2 g' q') hle hk h1 hk1 fun v H2 l2 hle2 h2 hk2=>?_
      refine s_ifR (e_andT (by kernel_rfl!) (e_not (e_call rfl (may_ok (he:=(g.le hle2).he) b (by omega) ⟨_,rfl,⟨_,rfl⟩,?_⟩))))
      have fin:Q (.ref k) H2:=q k H2 l2 hle2 h2 (Or.inl hk) (keys_congr hk2 fun x=>⟨Or.imp (fun h=>h.elim False.elim id) (And.intro hnul),Or.imp Or.inr And.right⟩)
      cases hb:nul (em.map (·.1)) b
      · exact Or.inl ⟨rfl,s_ret rfl (retI fin)⟩
      · exact Or.inr ⟨rfl,s_nil (s_nil ⟨trivial,s_ret rfl (retI fin)⟩)⟩
    · have hnul':nul (em.map (·.1)) a=false:=by simpa [ks] using hnul
      refine Or.inl ⟨by rw [hnul'];rfl,s_ret rfl (retI (q k H1 l1 hle h1 (Or.inl hk) (keys_congr hk1 fun x=>⟨fun h=>h.elim False.elim Or.inl,fun h=>h.elim Or.inr fun h=>absurd h.1 hnul⟩)))⟩
  | alt a b iha ihb =>
    intro H n Q hn hw g q
    dsimp only [za] at hn
    refine callS (by omega) rfl fun n en=>(s_ifR (e_call rfl (is_token_ok (e:=.alt a b) (by omega) g.ht (Or.inr ⟨rfl,?_⟩))))
    refine s_nil (s_assign rfl rfl ?_)
    refine s_no (by kernel_rfl!) ?_
    refine s_no (by kernel_rfl!) ?_
    refine s_assignE fun k hk=>⟨Nat.le_of_ble_eq_true rfl,?_⟩
    refine s_for rfl rfl ⟨trivial,_,rfl,?_⟩
    refine s_exprE (e_callE (es_cons ⟨_,rfl,es_cons (e_call rfl ?_)⟩))
    refine first_step (S:=fun _=>False) (l0:=[]) g (by omega) hw.1 (fun _ x=>x.elim) (fun g' q'=>iha (by omega) hw.1 g' q') (le_set_of hk) hk (Hp.set_self ..) keys0 fun v H1 l1 hle h1 hk1=>?_
    refine s_ifR (e_andF (by kernel_rfl!) (Or.inr ⟨rfl,s_nil (s_nil ⟨trivial,_,rfl,?_⟩)⟩))
    refine s_exprE (e_callE (es_cons ⟨_,rfl,es_cons (e_call rfl ?_)⟩))
    refine first_step (S:=fun x=>False∨Gh.fst ts em Fi a x) (l0:=l1) g (by omega) hw.2 (fun x hx=>hx.elim False.elim (fst_U g.hU a hw.1 x)) (fun g' q'=>ihb (by omega) hw.2 g' q') hle hk h1 hk1 fun v H2 l2 hle2 h2 hk2=>?_
    refine s_ifR (e_andF (by kernel_rfl!) (Or.inr ⟨rfl,s_nil (s_nil ⟨trivial,s_ret rfl (retI ?_)⟩)⟩))
    exact q k H2 l2 hle2 h2 (Or.inl hk) (keys_congr hk2 fun x=>⟨Or.imp (fun h=>h.elim False.elim id) id,Or.imp Or.inr id⟩)
  | opt a ih =>
    intro H n Q hn hw g q
    dsimp only [zo] at hn
    refine callS (by omega) rfl fun n en=>(s_ifR (e_call rfl (is_token_ok (e:=.opt a) (by omega) g.ht (Or.inr ⟨rfl,?_⟩))))
    refine s_nil (s_assign rfl rfl ?_)
    refine s_no (by kernel_rfl!) ?_
    refine s_ifT (by kernel_rfl!) ?_
    exact s_retE (e_call rfl (ih (by omega) hw g fun k H' l h1 h2 h3 h4=>retI (q k H' l h1 h2 h3 h4)))
  | rep a ih =>
    intro H n Q hn hw g q
    dsimp only [zr] at hn
    refine callS (by omega) rfl fun n en=>(s_ifR (e_call rfl (is_token_ok (e:=.rep a) (by omega) g.ht (Or.inr ⟨rfl,?_⟩))))
    refine s_nil (s_assign rfl rfl ?_)
    refine s_no (by kernel_rfl!) ?_
    refine s_ifT (by kernel_rfl!) ?_
    exact s_retE (e_call rfl (ih (by omega) hw g fun k H' l h1 h2 h3 h4=>retI (q k H' l h1 h2 h3 h4)))
end LY.Internal
end

section
open PySem
namespace LY.Internal
variable {C:CallP} {m:Lo} {H:Hp} {ts:List Ex} {em:List (Str × AV)} {kt ke kf ko kM:Nat} {fr:Nat→Nat} {Fi:Nat→Str→Prop}
theorem whileN_more {c:Lo→Hp→QV→Prop} {b:Lo→Hp→QF→Prop} (hc:MonoE c) (hb:MonoF b):∀ {n k:Nat} {m:Lo} {H:Hp} {Q:QF},n≤k→whileN c b n m H Q→whileN c b k m H Q
  | 0,_,_,_,_,_,p=>p.elim
  | n+1,0,_,_,_,h,_=>absurd h (Nat.not_succ_le_zero n)
  | n+1,k+1,m,H,Q,h,p=>hc _ _ _ _ (fun x H' q=>by
      exact q.imp (And.imp_right (hb _ _ _ _ fun g m' H'' q=>by
        cases g with
        | next=>exact whileN_more hc hb (Nat.le_of_succ_le_succ h) q
        | ret v=>exact q)) id) p
theorem while_rule {c:Lo→Hp→QV→Prop} {b:Lo→Hp→QF→Prop} {Q:QF} (hc:MonoE c) (hb:MonoF b) (I:Nat→Lo→Hp→Prop)
    (step:∀ k m H,I k m H→c m H fun x H'=>(x=.bool true∧b m H' (stepK (fun m' H''=>∃ k',k'<k∧I k' m' H'') Q))∨(x=.bool false∧Q .next m H')) :
    ∀ k m H,I k m H→whileN c b (k+1) m H Q:=by
  intro k
  induction k using Nat.strongRecOn with
  | _ k ih =>
    intro m H hI
    refine hc _ _ _ _ (fun x H' q=>?_) (step k m H hI)
    refine q.imp (And.imp_right (hb _ _ _ _ fun g m' H'' q=>?_)) id
    cases g with
    | next=>exact q.elim fun k' q=>whileN_more hc hb q.1 (ih k' q.1 m' H'' q.2)
    | ret v=>exact q
theorem s_while {c:ME} {b:MSs} {ms:MSs} {Q:QF} {n:Nat} {k:Nat} (I:Nat→Lo→Hp→Prop)
    (step:∀ k m H,I k m H→vcE (callN fdt n) c m H fun x H'=>(x=.bool true∧vcSs (callN fdt n) b m H' (stepK (fun m' H''=>∃ k',k'<k∧I k' m' H'') Q)) ∨
      (x=.bool false∧vcSs (callN fdt n) ms m H' Q)) (h:I k m H):vcSs (callN fdt n) (.cons (.while c b) ms) m H Q :=
  ⟨k+1,while_rule (vcE_mono (cm n) c) (vcSs_mono (cm n) b) I step k m H h⟩
theorem set_same {m:Lo} {i:Nat} {v:Option AV} (h:m[i]? = some v):m.set i v=m:=by
  obtain ⟨hi,e⟩:=List.getElem?_eq_some_iff.mp h
  rw [← e];exact List.set_getElem_self hi
theorem if_grown {n i:Nat} {c:ME} {K:QF} {g0:Bool} (hm:m[i]? = some (some (.bool g0))) (h:vcE (callN fdt n) c m H fun x H1=>∃ g,x=.bool g∧K .next (m.set i (some (.bool (g0 || g)))) H1) :
    vcSs (callN fdt n) (.cons (.ifs c (.cons (.assign i (.bool true)) .nil) .nil) .nil) m H K:=by
  refine vcE_mono (cm n) c _ _ _ _ (fun x H1 q=>?_) h
  obtain ⟨g,rfl,q⟩:=q
  cases g
  · rw [Bool.or_false,set_same hm] at q;exact Or.inr ⟨rfl,q⟩
  · rw [Bool.or_true] at q;exact Or.inl ⟨rfl,(List.getElem?_eq_some_iff.mp hm).1,q⟩
theorem s_setS {o i e:ME} {ms:MSs} {Q:QF} {v:AV} {k:Nat} {x:Str} {l:List (Str × AV)} (he:evE e m H=some v) (ho:evE o m H=some (.ref k)) (hi:evE i m H=some (.str x)) (hk:H k=some (.dS l)) (hc:l.length<cap)
    (q:vcSs C ms m (H.set k (.dS (setK l x v))) Q):vcSs C (.cons (.setSub o i e) ms) m H Q :=
  evE_ok (C:=C) e he (evE_ok (C:=C) o ho (evE_ok (C:=C) i hi ⟨k,rfl,Or.inl ⟨l,x,hk,rfl,hc,q⟩⟩))
noncomputable def nmF (i len:Nat):List AV:=(List.range' i (len-i)).map fun j=>.str (rn j)
theorem nmF_cons {i len:Nat} (h:i<len):nmF i len=.str (rn i)::nmF (i+1) len:=by
  unfold nmF
  rw [show len-i=(len-(i+1))+1 by omega,List.range'_succ,List.map_cons]
theorem nmF_nil (len:Nat):nmF len len=[]:=by delta nmF;rw [Nat.sub_self];rfl
theorem nmF_len {i len:Nat}:(nmF i len).length=len-i:=by delta nmF;rw [List.length_map,List.length_range']
theorem for_names {b:Lo→Hp→QF→Prop} {live:Hp→Prop} {vi len:Nat} {Q:QF} (hb:MonoF b) (J:Nat→Lo→Hp→Prop) (hl:∀ i m H,J i m H→live H)
    (step:∀ i m H,i<len→J i m H→vi<m.length∧b (m.set vi (some (.str (rn i)))) H (stepK (J (i+1)) Q))
    (done:∀ m H,J len m H→Q .next m H):∀ (k i:Nat) (m:Lo) (H:Hp),len-i=k→i≤len→J i m H→forL b live (.one vi) (nmF i len) m H Q
  | 0,i,m,H,hk,hi,h=>by
    have e:i=len:=by omega
    subst e
    rw [nmF_nil]
    exact ⟨hl _ _ _ h,done m H h⟩
  | k+1,i,m,H,hk,hi,h=>by
    have hlt:i<len:=by omega
    rw [nmF_cons hlt]
    obtain ⟨h1,h2⟩:=step i m H hlt h
    refine ⟨hl _ _ _ h,m.set vi (some (.str (rn i))),if_pos h1,hb _ _ _ _ (fun g m' H' q=>?_) h2⟩
    cases g with
    | next=>exact for_names hb J hl step done k (i+1) m' H' (by omega) hlt q
    | ret v=>exact q
theorem s_forNames {src:ME} {b:MSs} {ms:MSs} {Q:QF} {n vi len ko:Nat} (h:evE src m H=some (.ref ko)) (hl:H ko=some (.list (nmF 0 len))) (J:Nat→Lo→Hp→Prop) (hlv:∀ i m H',J i m H'→H' ko=some (.list (nmF 0 len)))
    (step:∀ i m H,i<len→J i m H→vi<m.length∧vcSs (callN fdt n) b (m.set vi (some (.str (rn i)))) H (stepK (J (i+1)) Q))
    (h0:J 0 m H) (done:∀ m H,J len m H→vcSs (callN fdt n) ms m H Q):vcSs (callN fdt n) (.cons (.for (.one vi) src b) ms) m H Q:=by
  refine s_for h (l:=nmF 0 len) (seq_of hl) ?_
  exact for_names (Q:=kont (vcSs (callN fdt n) ms) Q) (vcSs_mono (cm n) b) J (fun i m H' h=>(hlv i m H' h).trans hl.symm) step done len 0 m H (by omega) (Nat.zero_le _) h0
theorem nul_mono {E E':List Str} (h:∀ x∈E,x∈E'):∀ {e:Ex},nul E e=true→nul E' e=true
  | .text _,q=>q
  | .name j,q=>decide_eq_true (h _ (of_decide_eq_true q))
  | .eps,_=>rfl
  | .seq a b,q=>Bool.and_eq_true_iff.mpr ((Bool.and_eq_true_iff.mp q).imp (nul_mono h) (nul_mono h))
  | .alt a b,q=>Bool.or_eq_true_iff.mpr ((Bool.or_eq_true_iff.mp q).imp (nul_mono h) (nul_mono h))
  | .opt _,_=>rfl
  | .rep _,_=>rfl
structure EmW (ts:List Ex) (em:List (Str × AV)):Prop where
  nodup:(ks em).Nodup
  sub:∀ x∈ks em,∃ j,j<ts.length∧x=rn j
  snd:∀ j,j<ts.length→rn j∈ks em→nul (ks em) (T ts j)=true
noncomputable def EmC (ts:List Ex) (em:List (Str × AV)):Prop:=∀ j,j<ts.length→nul (ks em) (T ts j)=true→rn j∈ks em
theorem EmW.len {ts:List Ex} {em:List (Str × AV)} (h:EmW ts em):(ks em).length≤ts.length:=by
  have:=len_le_of_sub (u:=(List.range ts.length).map rn) h.nodup fun x hx=>by
    obtain ⟨j,hj,rfl⟩:=h.sub x hx
    exact List.mem_map.mpr ⟨j,List.mem_range.mpr hj,rfl⟩
  simpa using this
theorem EmW.add {ts:List Ex} {em:List (Str × AV)} (h:EmW ts em) {j:Nat} (hj:j<ts.length) (hn:rn j ∉ ks em) (hu:nul (ks em) (T ts j)=true):EmW ts (setK em (rn j) (.bool true))∧(ks (setK em (rn j) (.bool true))).length=(ks em).length+1:=by
  have e:ks (setK em (rn j) (.bool true))=ks em++[rn j]:=by rw [ks_setK,if_neg hn]
  refine ⟨⟨?_,fun x hx=>?_,fun i hi hx=>?_⟩,by rw [e];simp⟩
  · rw [e]
    exact List.nodup_append.mpr ⟨h.nodup,by simp,by rintro a ha b hb rfl;rw [List.mem_singleton.mp hb] at ha;exact hn ha⟩
  · rw [e] at hx
    rcases List.mem_append.mp hx with hx | hx
    · exact h.sub x hx
    · exact ⟨j,hj,List.mem_singleton.mp hx⟩
  · rw [e] at hx ⊢
    have hm:∀ x∈ks em,x∈ks em++[rn j]:=fun x hx=>List.mem_append_left _ hx
    rcases List.mem_append.mp hx with hx | hx
    · exact nul_mono hm (h.snd i hi hx)
    · rw [rn_inj (List.mem_singleton.mp hx)];exact nul_mono hm hu
inductive EmI (ts:List Ex) (kt ko k:Nat) (H:Hp) (kk:Nat):Lo→Hp→Prop
  | go {em v4} (hW:EmW ts em) (hm:ts.length+1≤kk+(ks em).length):EmI ts kt ko k H kk [some (.ref kt),some (.ref ko),some (.ref k),some (.bool true),v4] (H.set k (.dS em))
  | done {em v4} (hW:EmW ts em) (hC:EmC ts em):EmI ts kt ko k H kk [some (.ref kt),some (.ref ko),some (.ref k),some (.bool false),v4] (H.set k (.dS em))
inductive EmJ (ts:List Ex) (kt ko k:Nat) (H:Hp) (em:List (Str × AV)) (i:Nat):Lo→Hp→Prop
  | mk {em' g' v4} (hW:EmW ts em') (hg:g'=true→(ks em).length<(ks em').length) (hg':g'=false→em'=em∧∀ j,j<i→nul (ks em) (T ts j)=true→rn j∈ks em) :
    EmJ ts kt ko k H em i [some (.ref kt),some (.ref ko),some (.ref k),some (.bool g'),v4] (H.set k (.dS em'))
theorem empty_rules_ok {n:Nat} {Q:QV} (hn:∀ j,j<ts.length→(T ts j).size+1<n) (ht:H kt=some (.dS (tabAV ts))) (ho:H ko=some (.list (nmF 0 ts.length))) (h9:ts.length≤9)
    (q:∀ k em,H k=none→EmW ts em→EmC ts em→Q (.ref k) (H.set k (.dS em))) (hn0:0<n):callN fdt n .empty_rules [.ref kt,.ref ko] H Q:=by
  refine callS hn0 rfl fun n en=>s_assignE fun k hk=>⟨Nat.le_of_ble_eq_true rfl,s_assign rfl rfl ?_⟩
  have hkt:kt≠k:=fun e=>by rw [e,hk] at ht;cases ht
  have hO:∀ em,(H.set k (.dS em)) ko=some (.list (nmF 0 ts.length)):=fun em=>(Hp.set_ne _ _ fun e=>by rw [e,hk] at ho;cases ho).trans ho
  refine s_while (k:=ts.length+1) (EmI ts kt ko k H) ?_ (.go ⟨List.nodup_nil,(fun x hx=>nomatch hx),fun j _ hx=>nomatch hx⟩ (Nat.le_refl _))
  rintro kk _ _ hI
  cases hI with
  | done hW hC=>exact evE_ok (C:=callN fdt n) (.var 3) rfl (Or.inr ⟨rfl,s_ret (v:=.ref k) rfl (retI (q k _ hk hW hC))⟩)
  | @go em v4 hW hm =>
    have hlen:=hW.len
    refine evE_ok (C:=callN fdt n) (.var 3) rfl (Or.inl ⟨rfl,s_assign rfl rfl (s_forNames (ko:=ko) (len:=ts.length) rfl (hO em) (EmJ ts kt ko k H em) ?_ ?_ (.mk hW nofun fun _=>⟨rfl,fun j hj=>absurd hj (Nat.not_lt_zero _)⟩) ?_)⟩)
    · rintro i m _ ⟨⟩
      exact hO _
    · rintro i _ _ hi @⟨em',g',v4,hW',hg,hg'⟩
      have hself:(H.set k (.dS em')) k=some (.dS em'):=Hp.set_self ..
      have stay:(rn i∈ks em∨nul (ks em) (T ts i)=false)→g'=false→em'=em∧∀ j,j<i+1→nul (ks em) (T ts j)=true→rn j∈ks em:=fun h e=>⟨(hg' e).1,fun j hj hu=>by
        by_cases hji:j=i
        · subst hji;exact h.elim id fun h=>by rw [h] at hu;cases hu
        · exact (hg' e).2 j (by omega) hu⟩
      refine ⟨Nat.le_of_ble_eq_true rfl,?_⟩
      by_cases hin:rn i∈ks em'
      · exact s_ifR (e_andF (v_outF rfl rfl hself hin) (Or.inr ⟨rfl,s_nil (s_nil (.mk hW' hg fun e=>stay (Or.inl ((hg' e).1▸hin)) e))⟩))
      · refine s_ifR (e_andT (v_outT rfl rfl hself hin) (e_call (vs:=[(T ts i).av,.ref kt,.ref k]) (evp_cons (v_sub rfl rfl (at_dS ((Hp.set_ne _ _ hkt).trans ht) (tab_get hi))) (evp_cons rfl (evp_cons rfl rfl)))
          (may_ok (em:=em') hself (T ts i) (by have:=hn i hi;omega) ⟨⟨_,rfl⟩,?_⟩)))
        cases hu:nul (em'.map (·.1)) (T ts i) with
        | false=>exact Or.inr ⟨rfl,s_nil (s_nil (.mk hW' hg fun e=>stay (Or.inr ((hg' e).1▸hu)) e))⟩
        | true =>
          obtain ⟨hW2,hlen2⟩:=hW'.add hi hin hu
          have hlt:=hW'.len
          -- empty[name]=True
          refine Or.inl ⟨rfl,s_setS (v:=.bool true) rfl rfl rfl hself (by rw [ks_len] at hlt;have:cap=1000000:=rfl;omega) (s_assign rfl rfl (s_nil (s_nil ?_)))⟩
          rw [Hp.set_set]
          refine .mk hW2 (fun _=>?_) nofun
          rw [hlen2]
          cases g' with
          | true=>exact Nat.lt_succ_of_lt (hg rfl)
          | false=>rw [(hg' rfl).1];exact Nat.lt_succ_self _
    · rintro _ _ @⟨em',g',v4,hW',hg,hg'⟩
      cases g' with
      | true=>exact s_nil ⟨kk-1,by omega,.go hW' (by have:=hg rfl;omega)⟩
      | false =>
        obtain ⟨rfl,hh⟩:=hg' rfl
        exact s_nil ⟨0,by omega,.done hW' hh⟩
end LY.Internal
end

section
open PySem
namespace LY.Internal
variable {C:CallP} {m:Lo} {H:Hp} {ts:List Ex} {em:List (Str × AV)} {kt ke kf ko kM:Nat} {fr:Nat→Nat} {fa:List (Str × AV)} {Fi:Nat→Str→Prop}
theorem fst_mono {len:Nat} {em:List Str} {Fi Fi':Nat→Str→Prop} (h:∀ j x,j<len→Fi j x→Fi' j x):∀ {e:Ex} {x:Str},fst len em Fi e x→fst len em Fi' e x
  | .text _,_,q=>q
  | .name j,x,q=>by
    by_cases hj:j<len
    · exact (iff_of_eq (if_pos hj)).mpr (h j x hj ((iff_of_eq (if_pos hj)).mp q))
    · exact (iff_of_eq (if_neg hj)).mpr ((iff_of_eq (if_neg hj)).mp q)
  | .eps,_,q=>q
  | .seq a b,_,q=>q.elim (fun q=>Or.inl (fst_mono h q)) (fun q=>Or.inr ⟨q.1,fst_mono h q.2⟩)
  | .alt a b,_,q=>q.elim (fun q=>Or.inl (fst_mono h q)) (fun q=>Or.inr (fst_mono h q))
  | .opt a,_,q=>fst_mono (e:=a) h q
  | .rep a,_,q=>fst_mono (e:=a) h q
structure FRows (len:Nat) (H0:Hp) (kf:Nat) (fr:Nat→Nat) (fa:List (Str × AV)) (ls:Nat→List (Str × AV)) (H:Hp):Prop where
  le:H0.le H
  kf0:H0 kf=none
  fresh:∀ j,j<len→H0 (fr j)=none
  ne:∀ j,j<len→fr j≠kf
  inj:∀ i j,i<len→j<len→fr i=fr j→i=j
  hfa:H kf=some (.dS fa)
  hfl:fa.length≤len
  hfr:∀ j,j<len→getK fa (rn j)=some (.ref (fr j))
  hfx:∀ x∈ks fa,∃ j,j<len∧x=rn j
  hr:∀ j,j<len→H (fr j)=some (.dS (ls j))
  nd:∀ j,j<len→(ks (ls j)).Nodup
  hU:∀ j x,j<len→x∈ks (ls j)→x∈U
noncomputable def updL (ls:Nat→List (Str × AV)) (j:Nat) (l:List (Str × AV)):Nat→List (Str × AV):=fun i=>if i=j then l else ls i
noncomputable def tot:Nat→(Nat→List (Str × AV))→Nat
  | 0,_=>0
  | n+1,ls=>tot n ls+(ls n).length
theorem updL_ind {P:List (Str × AV)→Prop} {ls:Nat→List (Str × AV)} {j i:Nat} {l:List (Str × AV)} (h0:i=j→P l) (h:i≠j→P (ls i)):P (updL ls j l i):=by
  by_cases e:i=j
  · rw [show updL ls j l i=l from if_pos e];exact h0 e
  · rw [show updL ls j l i=ls i from if_neg e];exact h e
theorem updL_same {ls:Nat→List (Str × AV)} {j:Nat} {l:List (Str × AV)}:updL ls j l j=l:=if_pos rfl
theorem tot_congr:∀ {n:Nat} {ls ls':Nat→List (Str × AV)},(∀ j,j<n→ls j=ls' j)→tot n ls=tot n ls'
  | 0,_,_,_=>rfl
  | n+1,ls,ls',h=>show tot n ls+(ls n).length=tot n ls'+(ls' n).length from congr (congrArg HAdd.hAdd (tot_congr fun j hj=>h j (Nat.lt_succ_of_lt hj))) (congrArg List.length (h n (Nat.lt_succ_self n)))
theorem tot_upd:∀ {n:Nat} {ls:Nat→List (Str × AV)} {j:Nat} {l:List (Str × AV)},j<n→tot n (updL ls j l)+(ls j).length=tot n ls+l.length
  | 0,_,_,_,h=>absurd h (Nat.not_lt_zero _)
  | n+1,ls,j,l,h=>by
    show tot n (updL ls j l)+(updL ls j l n).length+_=tot n ls+(ls n).length+_
    by_cases e:j=n
    · subst e
      rw [tot_congr (ls:=updL ls j l) (ls':=ls) (fun i hi=>if_neg (Nat.ne_of_lt hi)),updL_same]
      exact Nat.add_right_comm ..
    · have h1:=tot_upd (n:=n) (ls:=ls) (j:=j) (l:=l) (by omega)
      rw [show updL ls j l n=ls n from if_neg (fun x=>e x.symm),Nat.add_right_comm,h1,Nat.add_right_comm]
theorem FRows.len {len:Nat} {H0 H:Hp} {ls:Nat→List (Str × AV)} (F:FRows len H0 kf fr fa ls H) {j:Nat} (hj:j<len):(ls j).length≤11 :=
  keys_len (S:=fun x=>x∈ks (ls j)) ⟨F.nd j hj,fun _=>Iff.rfl⟩ (fun x hx=>F.hU j x hj hx)
theorem tot_le:∀ {n:Nat} {ls:Nat→List (Str × AV)},(∀ j,j<n→(ls j).length≤11)→tot n ls≤11 * n
  | 0,_,_=>Nat.zero_le _
  | n+1,ls,h=>Nat.add_le_add (tot_le fun j hj=>h j (Nat.lt_succ_of_lt hj)) (h n (Nat.lt_succ_self n))
theorem FRows.grow {len:Nat} {H0 H H':Hp} {ls:Nat→List (Str × AV)} (F:FRows len H0 kf fr fa ls H) (l:H.le H'):FRows len H0 kf fr fa ls H' :=
  ⟨Hp.le_trans F.le l,F.kf0,F.fresh,F.ne,F.inj,l _ _ F.hfa,F.hfl,F.hfr,F.hfx,fun j hj=>l _ _ (F.hr j hj),F.nd,F.hU⟩
theorem FRows.upd {len:Nat} {H0 H:Hp} {ls:Nat→List (Str × AV)} (F:FRows len H0 kf fr fa ls H) {j:Nat} (hj:j<len) {kk:List Str} (hk:∀ x∈kk,x∈U) :
    FRows len H0 kf fr fa (updL ls j (mergeK (ls j) kk)) (H.set (fr j) (.dS (mergeK (ls j) kk))):=by
  have hK:=keys_mergeK kk (l:=ls j) (S:=fun x=>x∈ks (ls j)) ⟨F.nd j hj,fun _=>Iff.rfl⟩
  exact ⟨le_set_ne F.le (F.fresh j hj),F.kf0,F.fresh,F.ne,F.inj,(Hp.set_ne _ _ fun e=>F.ne j hj e.symm).trans F.hfa,F.hfl,F.hfr,F.hfx,
    fun i hi=>updL_ind (P:=fun l=>(H.set (fr j) (.dS (mergeK (ls j) kk))) (fr i)=some (.dS l)) (fun e=>e▸Hp.set_self ..) fun e=>(Hp.set_ne _ _ fun q=>e (F.inj _ _ hi hj q)).trans (F.hr i hi),
    fun i hi=>updL_ind (P:=fun l=>(ks l).Nodup) (fun _=>hK.1) fun _=>F.nd i hi,
    fun i x hi=>updL_ind (P:=fun l=>x∈ks l→x∈U) (fun e hx=>((hK.2 x).mp hx).elim (F.hU j x hj) (hk x)) fun _=>F.hU i x hi⟩
theorem FRows.gh {H0 H:Hp} {ls:Nat→List (Str × AV)} (F:FRows ts.length H0 kf fr fa ls H) (ht:H0 kt=some (.dS (tabAV ts))) (he:H0 ke=some (.dS em)) :
    Gh ts em kt ke kf fr (fun j x=>x∈ks (ls j)) H :=
  ⟨F.le _ _ ht,F.le _ _ he,⟨fa,F.hfa,F.hfr⟩,fun j hj=>⟨ls j,F.hr j hj,F.nd j hj,fun _=>Iff.rfl⟩,fun j x hj hx=>F.hU j x hj hx⟩
theorem getK_setK_same {l:List (Str × AV)} {k:Str} {v:AV}:getK (setK l k v) k=some v:=by
  induction l with
  | nil=>exact if_pos rfl
  | cons p l ih =>
    obtain ⟨a,b⟩:=p
    rw [setK_cons]
    by_cases h:k=a
    · rw [if_pos h,getK_cons,if_pos h]
    · rw [if_neg h,getK_cons,if_neg h];exact ih
theorem getK_setK_ne {l:List (Str × AV)} {k x:Str} {v:AV} (hx:x≠k):getK (setK l k v) x=getK l x:=by
  induction l with
  | nil=>exact if_neg hx
  | cons p l ih =>
    obtain ⟨a,b⟩:=p
    rw [setK_cons]
    by_cases h:k=a
    · subst h;rw [if_pos rfl,getK_cons,getK_cons,if_neg hx,if_neg hx]
    · rw [if_neg h,getK_cons,getK_cons,ih]
theorem getK_none_of {l:List (Str × AV)} {k:Str} (h:k ∉ ks l):getK l k=none:=by
  induction l with
  | nil=>rfl
  | cons p l ih =>
    obtain ⟨a,b⟩:=p
    have h1:k≠a∧k ∉ ks l:=⟨fun e=>h (e▸List.mem_cons_self),fun q=>h (List.mem_cons_of_mem _ q)⟩
    exact (if_neg h1.1).trans (ih h1.2)
theorem in_keys {l:List (Str × AV)} {k:Str} {v:AV} (h:getK l k=some v):k∈l.map (·.1):=by
  by_cases h':k∈ks l
  · exact h'
  · rw [getK_none_of h'] at h;cases h
theorem allU {α:Type} {i:Nat} {k:α} {f:Nat→α} {P:Nat→α→Prop} (h0:P i k) (h:∀ j,j<i→P j (f j)):∀ j,j<i+1→P j (if j=i then k else f j):=fun j hj=>by
  by_cases e:j=i
  · rw [if_pos e,e];exact h0
  · rw [if_neg e];exact h j (Nat.lt_of_le_of_ne (Nat.le_of_lt_succ hj) e)
structure RowI (kf vi:Nat) (m:Lo) (H0:Hp) (i:Nat) (fr:Nat→Nat) (fa:List (Str × AV)) (m':Lo) (Hc:Hp):Prop where
  hm:∃ v,m'=m.set vi v
  hle:H0.le Hc
  h1:∀ j,j<i→H0 (fr j)=none
  h2:∀ j,j<i→fr j≠kf
  h3:∀ j,j<i→∀ j',j'<i→fr j=fr j'→j=j'
  h4:Hc kf=some (.dS fa)
  h5:fa.length≤i
  h6:∀ j,j<i→getK fa (rn j)=some (.ref (fr j))
  h7:∀ j,j<i→Hc (fr j)=some (.dS [])
  h8:∀ x∈ks fa,∃ j,j<i∧x=rn j
noncomputable def RowJ (kf vi:Nat) (m:Lo) (H0:Hp) (i:Nat) (m':Lo) (Hc:Hp):Prop:=∃ fr fa,RowI kf vi m H0 i fr fa m' Hc
theorem rows_init {n:Nat} {Q:QF} {src:ME} {ms:MSs} {vi vf:Nat} {H0:Hp} (hv:vf≠vi) (hvi:vi<m.length) (hsrc:evE src m (H0.set kf (.dS []))=some (.ref ko)) (hm:m.at vf=some (.ref kf))
    (ho:H0 ko=some (.list (nmF 0 ts.length))) (h9:ts.length≤9) (hkf:H0 kf=none)
    (q:∀ m' H fr fa,(∃ v,m'=m.set vi v)→FRows ts.length H0 kf fr fa (fun _=>[]) H→vcSs (callN fdt n) ms m' H Q) :
    vcSs (callN fdt n) (.cons (.for (.one vi) src (.cons (.setSub (.var vf) (.var vi) .dS) .nil)) ms) m (H0.set kf (.dS [])) Q:=by
  have hko:ko≠kf:=fun e=>by rw [e,hkf] at ho;cases ho
  refine s_forNames (ko:=ko) (len:=ts.length) hsrc ((Hp.set_ne _ _ hko).trans ho) (RowJ kf vi m H0) (fun i m' Hc ⟨_,_,J⟩=>J.hle _ _ ho) ?_ ?_ ?_
  · rintro i m' Hc hi ⟨fr,fa,J⟩
    obtain ⟨v,rfl⟩:=J.hm
    refine ⟨by simpa using hvi,fun k hk=>?_⟩
    have hkf':k≠kf:=fun e=>by rw [e,J.h4] at hk;cases hk
    have hk0:H0 k=none:=by
      cases e:H0 k with
      | none=>rfl
      | some o=>rw [J.hle _ _ e] at hk;cases hk
    have hnew:∀ j,j<i→fr j≠k:=fun j hj e=>by have:=J.h7 j hj;rw [e,hk] at this;cases this
    refine ⟨_,by rw [List.set_set,Lo.at_set_ne (fun e=>hv e.symm)];exact hm,_,by rw [List.set_set,Lo.at_set hvi],kf,rfl,Or.inl ⟨fa,rn i,(Hp.set_ne _ _ fun e=>hkf' e.symm).trans J.h4,rfl,by have:=J.h5;have:cap=1000000:=rfl;omega,?_⟩⟩
    refine s_nil ⟨fun j=>if j=i then k else fr j,setK fa (rn i) (.ref k),⟨_,List.set_set ..⟩,le_set_ne (le_set_ne J.hle hk0) hkf,allU (P:=fun _ a=>H0 a=none) hk0 J.h1,allU (P:=fun _ a=>a≠kf) hkf' J.h2,
      allU (P:=fun j a=>∀ j',j'<i+1→a=(if j'=i then k else fr j')→j=j') (allU (P:=fun j' a=>k=a→i=j') (fun _=>rfl) fun j' hj' e=>absurd e.symm (hnew j' hj'))
        (fun j hj=>allU (P:=fun j' a=>fr j=a→j=j') (fun e=>absurd e (hnew j hj)) fun j' hj'=>J.h3 j hj j' hj'),
      Hp.set_self ..,Nat.le_trans (setK_len _) (Nat.succ_le_succ J.h5),allU (P:=fun j a=>getK (setK fa (rn i) (.ref k)) (rn j)=some (.ref a)) getK_setK_same fun j hj=>(getK_setK_ne fun q=>Nat.ne_of_lt hj (rn_inj q)).trans (J.h6 j hj),
      allU (P:=fun _ a=>((Hc.set k (.dS [])).set kf (.dS (setK fa (rn i) (.ref k)))) a=some (.dS [])) ((Hp.set_ne _ _ hkf').trans (Hp.set_self ..)) fun j hj=>(Hp.set_ne _ _ (J.h2 j hj)).trans ((Hp.set_ne _ _ (hnew j hj)).trans (J.h7 j hj)),fun x hx=>?_⟩
    rw [ks_setK] at hx
    have old:x∈ks fa→∃ j,j<i+1∧x=rn j:=fun hx=>(J.h8 x hx).imp fun j=>And.imp_left Nat.lt_succ_of_lt
    by_cases hin:rn i∈ks fa
    · rw [if_pos hin] at hx;exact old hx
    · rw [if_neg hin] at hx
      exact (List.mem_append.mp hx).elim old fun hx=>⟨i,Nat.lt_succ_self i,List.mem_singleton.mp hx⟩
  · exact ⟨fun _=>0,[],⟨m[vi]'hvi,(List.set_getElem_self hvi).symm⟩,Hp.le_set _ hkf,(fun j hj=>absurd hj (Nat.not_lt_zero j)),(fun j hj=>absurd hj (Nat.not_lt_zero j)),(fun j hj=>absurd hj (Nat.not_lt_zero j)),Hp.set_self ..,Nat.zero_le _,
      (fun j hj=>absurd hj (Nat.not_lt_zero j)),(fun j hj=>absurd hj (Nat.not_lt_zero j)),fun x hx=>nomatch hx⟩
  · rintro m' Hc ⟨fr,fa,J⟩
    exact q m' Hc fr fa J.hm ⟨J.hle,hkf,J.h1,J.h2,fun i j hi hj=>J.h3 i hi j hj,J.h4,J.h5,J.h6,J.h8,J.h7,fun _ _=>List.nodup_nil,fun _ _ _ h=>nomatch h⟩
theorem fst_tokens {H0:Hp} {ls:Nat→List (Str × AV)} {H:Hp} (F:FRows ts.length H0 kf fr fa ls H) {e:Ex} (hw:WfE e) {x:Str} (h:Gh.fst ts em (fun j x=>x∈ks (ls j)) e x):x∈U :=
  fst_U (fun j x hj hx=>F.hU j x hj hx) e hw x h
noncomputable def SubF (ts:List Ex) (em:List (Str × AV)) (ls:Nat→List (Str × AV)):Prop:=∀ j x,j<ts.length→x∈ks (ls j)→Gh.fst ts em (fun j x=>x∈ks (ls j)) (T ts j) x
noncomputable def SupF (ts:List Ex) (em:List (Str × AV)) (ls:Nat→List (Str × AV)) (i:Nat):Prop:=∀ j x,j<i→Gh.fst ts em (fun j x=>x∈ks (ls j)) (T ts j) x→x∈ks (ls j)
inductive FrI (ts:List Ex) (em:List (Str × AV)) (kt ko ke k:Nat) (fr:Nat→Nat) (fa:List (Str × AV)) (H:Hp) (kk:Nat):Lo→Hp→Prop
  | go {ls v4 Hc} (F:FRows ts.length H k fr fa ls Hc) (hS:SubF ts em ls) (hm:11 * ts.length+1≤kk+tot ts.length ls):FrI ts em kt ko ke k fr fa H kk [some (.ref kt),some (.ref ko),some (.ref ke),some (.ref k),v4,some (.bool true)] Hc
  | done {ls v4 Hc} (F:FRows ts.length H k fr fa ls Hc) (hS:SubF ts em ls) (hC:SupF ts em ls ts.length):FrI ts em kt ko ke k fr fa H kk [some (.ref kt),some (.ref ko),some (.ref ke),some (.ref k),v4,some (.bool false)] Hc
inductive FrJ (ts:List Ex) (em:List (Str × AV)) (kt ko ke k:Nat) (fr:Nat→Nat) (fa:List (Str × AV)) (H:Hp) (t i:Nat):Lo→Hp→Prop
  | mk {ls g v4 Hc} (F:FRows ts.length H k fr fa ls Hc) (hS:SubF ts em ls) (hle:t≤tot ts.length ls) (hg:g=true→t<tot ts.length ls) (hg':g=false→SupF ts em ls i) :
    FrJ ts em kt ko ke k fr fa H t i [some (.ref kt),some (.ref ko),some (.ref ke),some (.ref k),v4,some (.bool g)] Hc
theorem first_rows_ok {n:Nat} {Q:QV} (hn:∀ j,j<ts.length→(T ts j).size+2<n) (hw:∀ j,j<ts.length→WfE (T ts j)) (hgt:∀ i,i<ts.length→∀ j,top (T ts i)=some j→i<j) (ht:H kt=some (.dS (tabAV ts))) (ho:H ko=some (.list (nmF 0 ts.length))) (he:H ke=some (.dS em)) (h9:ts.length≤9)
    (q:∀ k fr fa ls H',FRows ts.length H k fr fa ls H'→(∀ j x,j<ts.length→(x∈ks (ls j) ↔ Gh.fst ts em (fun j x=>x∈ks (ls j)) (T ts j) x))→Q (.ref k) H') (hn0:0<n):callN fdt (n+1) .first_rows [.ref kt,.ref ko,.ref ke] H Q:=by
  refine callI rfl (s_assignE fun k hk=>⟨Nat.le_of_ble_eq_true rfl,?_⟩)
  refine rows_init (vi:=4) (vf:=3) (kf:=k) (ko:=ko) (by decide) (Nat.le_of_ble_eq_true rfl) rfl rfl ho h9 hk ?_
  rintro _ H1 fr fa ⟨v4,rfl⟩ F0
  refine s_assign rfl rfl (s_while (k:=11 * ts.length+1) (FrI ts em kt ko ke k fr fa H) ?_ (.go F0 (fun j x _ hx=>nomatch hx) (Nat.le_add_right ..)))
  rintro kk _ _ hI
  cases hI with
  | done F hS hC=>exact evE_ok (C:=callN fdt n) (.var 5) rfl (Or.inr ⟨rfl,s_ret (v:=.ref k) rfl (retI (q k fr fa _ _ F fun j x hj=>⟨hS j x hj,hC j x hj⟩))⟩)
  | @go ls v4 Hc F hS hm =>
    refine evE_ok (C:=callN fdt n) (.var 5) rfl (Or.inl ⟨rfl,s_assign rfl rfl (s_forNames (ko:=ko) (len:=ts.length) rfl (F.le _ _ ho) (FrJ ts em kt ko ke k fr fa H (tot ts.length ls)) ?_ ?_
      (.mk F hS (Nat.le_refl _) nofun fun _ j x hj=>absurd hj (Nat.not_lt_zero _)) ?_)⟩)
    · rintro i m _ ⟨F',_⟩
      exact F'.le _ _ ho
    · rintro i _ _ hi @⟨ls',g',v4,Hc,F',hS',hle,hg,hg'⟩
      refine ⟨Nat.le_of_ble_eq_true rfl,?_⟩
      have G:=F'.gh ht he
      refine s_ifR (e_callE (es_cons (evE_ok (C:=callN fdt n) _ (v:=.ref (fr i)) (v_sub rfl rfl (at_dS F'.hfa (F'.hfr i hi))) (es_cons (e_call (vs:=[(T ts i).av,.ref kt,.ref ke,.ref k])
        (evp_cons (v_sub rfl rfl (at_dS G.ht (tab_get hi))) (evp_cons rfl (evp_cons rfl (evp_cons rfl rfl)))) ?_)))))
      refine first_ok (T ts i) (by have:=hn i hi;omega) (hw i hi) G fun kr H2 l2 hle2 hk2 hor hkeys=>es_nil ?_
      have F2:=F'.grow hle2
      have hUl:∀ x∈ks l2,x∈U:=fun x hx=>fst_tokens F' (hw i hi) ((hkeys.2 x).mp hx)
      have hl2:=keys_len hkeys (fun x hx=>fst_tokens F' (hw i hi) hx)
      have hli:=F'.len hi
      have hself:kr≠fr i:=by
        rintro rfl
        rcases hor with hor | ⟨j,hj,e,ht'⟩
        · have:=F'.hr i hi;rw [hor] at this;cases this
        · exact absurd (hgt i hi j ht') (F'.inj _ _ hi hj e▸Nat.lt_irrefl _)
      have hnew:∀ x,x∈ks (mergeK (ls' i) (ks l2)) ↔ x∈ks (ls' i)∨x∈ks l2:=fun x=>(keys_mergeK (ks l2) (l:=ls' i) (S:=fun x=>x∈ks (ls' i)) ⟨F'.nd i hi,fun _=>Iff.rfl⟩).2 x
      have hin:∀ j x,j<ts.length→x∈ks (ls' j)→x∈ks (updL ls' i (mergeK (ls' i) (ks l2)) j):=fun j x _ hx=>updL_ind (P:=fun l=>x∈ks l) (fun e=>(hnew x).mpr (Or.inl (e▸hx))) fun _=>hx
      have F3:=F2.upd hi hUl
      have ht3:=tot_upd (ls:=ls') (l:=mergeK (ls' i) (ks l2)) hi
      have hge:=mergeK_ge (ks l2) (ls' i)
      have hS3:SubF ts em (updL ls' i (mergeK (ls' i) (ks l2))):=fun j x hj hx=>by
        refine fst_mono (fun j x hj hx=>hin j x hj hx) ?_
        revert hx
        refine updL_ind (P:=fun l=>x∈ks l→_) (fun e hx=>?_) fun _=>hS' j x hj
        subst e
        exact ((hnew x).mp hx).elim (hS' j x hj) (hkeys.2 x).mp
      refine merge_ok (by omega) hself (F2.hr i hi) hk2 (by have:cap=1000000:=rfl;omega) ?_
      by_cases hgrow:(ls' i).length<(mergeK (ls' i) (ks l2)).length
      · exact Or.inl ⟨congrArg AV.bool (decide_eq_true hgrow),s_assign rfl rfl (s_nil (s_nil (.mk F3 hS3 (by omega) (fun _=>by omega) nofun)))⟩
      · refine Or.inr ⟨congrArg AV.bool (decide_eq_false hgrow),s_nil (s_nil (.mk F3 hS3 (by omega) (fun e=>by have:=hg e;omega) fun e j x hj hx=>?_))⟩
        have hsame:=mergeK_same hgrow
        have hx':=fst_mono (fun j x _=>updL_ind (ls:=ls') (j:=i) (i:=j) (P:=fun l=>x∈ks l→x∈ks (ls' j)) (fun e hx=>by rw [e];exact ((hnew x).mp hx).elim id (hsame x)) fun _=>id) hx
        by_cases e':j=i
        · subst e'
          exact hin j x hi (hsame x ((hkeys.2 x).mpr hx'))
        · exact hin j x (by omega) (hg' e j x (by omega) hx')
    · rintro _ _ @⟨ls',g',v4,Hc,F',hS',hle,hg,hg'⟩
      cases g' with
      | true =>
        have:=tot_le (n:=ts.length) (ls:=ls') fun j hj=>F'.len hj
        exact s_nil ⟨kk-1,by have:=hg rfl;omega,.go F' hS' (by have:=hg rfl;omega)⟩
      | false =>
        have:=tot_le (n:=ts.length) (ls:=ls) fun j hj=>F.len hj
        exact s_nil ⟨0,by omega,.done F' hS' (hg' rfl)⟩
end LY.Internal
end

section
open PySem
namespace LY.Internal
variable {C:CallP} {m:Lo} {H:Hp} {ts:List Ex} {em:List (Str × AV)} {kt ke kf ko kg:Nat} {gs:List (Str × AV)} {fr:Nat→Nat} {Fi:Nat→Str→Prop}
theorem none_of_le {H H':Hp} (l:H.le H') {k:Nat} (h:H' k=none):H k=none:=by
  cases e:H k with
  | none=>rfl
  | some o=>rw [l _ _ e] at h;cases h
theorem ne_of_some {k j:Nat} {o:AO} (hk:H k=some o) (hj:H j=none):k≠j:=fun e=>by rw [e,hj] at hk;cases hk
structure GC (ts:List Ex) (em:List (Str × AV)) (kt ke kf ko kg:Nat) (gs:List (Str × AV)) (fr:Nat→Nat) (Fi:Nat→Str→Prop) (H:Hp):Prop where
  g:Gh ts em kt ke kf fr Fi H
  ho:H ko=some (.list (nmF 0 ts.length))
  h:H kg=some (.ins gs)
  start:getK gs "start" = some (.str (rn 0))
  order:getK gs "order" = some (.ref ko)
  table:getK gs "table" = some (.ref kt)
  empty:getK gs "empty" = some (.ref ke)
  firsts:getK gs "firsts" = some (.ref kf)
  nul0:getK gs "nullable" = none
  fst0:getK gs "first" = none
  pred0:getK gs "predict" = none
theorem GC.le {H H':Hp} (G:GC ts em kt ke kf ko kg gs fr Fi H) (l:H.le H'):GC ts em kt ke kf ko kg gs fr Fi H' :=
  ⟨G.g.le l,l _ _ G.ho,l _ _ G.h,G.start,G.order,G.table,G.empty,G.firsts,G.nul0,G.fst0,G.pred0⟩
theorem GC.at {a:ME} {f:Str} {v:AV} (G:GC ts em kt ke kf ko kg gs fr Fi H) (ha:evE a m H=some (.obj .grammar kg)) (h:getK gs f=some v):evE (.attr a f) m H=some v:=v_attr ha (at_obj G.h h)
theorem nullable_ok {n:Nat} {Q:QV} {e:Ex} (G:GC ts em kt ke kf ko kg gs fr Fi H) (hn:e.size+1<n) (q:Q (.bool (nul (ks em) e)) H):callN fdt n .nullable [.obj .grammar kg,e.av] H Q :=
  callS (by omega) rfl fun n en=>s_retE (e_call (vs:=[e.av,.ref kt,.ref ke]) (evp_cons rfl (evp_cons (G.at rfl G.table) (evp_cons (G.at rfl G.empty) rfl))) (may_ok G.g.he e (by omega) (retI q)))
theorem firstm_ok {n:Nat} {Q:QV} {e:Ex} (G:GC ts em kt ke kf ko kg gs fr Fi H) (hn:e.size+3<n) (hw:WfE e)
    (q:∀ k H' l,H.le H'→H' k=some (.dS l)→(H k=none∨∃ j,j<ts.length∧k=fr j∧top e=some j)→Keys l (Gh.fst ts em Fi e)→Q (.ref k) H'):callN fdt n .first [.obj .grammar kg,e.av] H Q :=
  callS (by omega) rfl fun n en=>s_retE (e_call (vs:=[e.av,.ref kt,.ref ke,.ref kf]) (evp_cons rfl (evp_cons (G.at rfl G.table) (evp_cons (G.at rfl G.empty) (evp_cons (G.at rfl G.firsts) rfl)))) (first_ok e (by omega) hw G.g fun k H' l a b c d=>retI (q k H' l a b c d)))
noncomputable def pred (len:Nat) (em:List Str) (Fi:Nat→Str→Prop) (e:Ex) (S:Str→Prop) (x:Str):Prop:=fst len em Fi e x∨(nul em e=true∧S x)
theorem predict_ok {n ka:Nat} {Q:QV} {e:Ex} {la:List (Str × AV)} {S:Str→Prop} (G:GC ts em kt ke kf ko kg gs fr Fi H) (hn:e.size+4<n) (hw:WfE e) (ha:H ka=some (.dS la)) (hS:Keys la S) (hU:∀ x,S x→x∈U)
    (q:∀ k H' l,H.le H'→H k=none→H' k=some (.dS l)→Keys l (pred ts.length (ks em) Fi e S)→Q (.ref k) H'):callN fdt n .predict [.obj .grammar kg,e.av,.ref ka] H Q:=by
  refine callS (by omega) rfl fun n en=>(s_assignE (e_meth (c:=.grammar) (k:=kg) (fs:=gs) (x:=.obj .grammar kg) (vs:=[e.av]) rfl ⟨rfl,rfl,G.h,G.fst0⟩ rfl ?_))
  refine firstm_ok G (by omega) hw fun k1 H1 l1 hle hk1 _ hK=>⟨k1,l1,rfl,hk1,fun k hk=>⟨Nat.le_of_ble_eq_true rfl,?_⟩⟩
  have hk0:H k=none:=none_of_le hle hk
  have hle2:H.le (H1.set k (.dS l1)):=Hp.le_trans hle (Hp.le_set _ hk)
  refine s_ifR (e_meth (c:=.grammar) (k:=kg) (fs:=gs) (x:=.obj .grammar kg) (vs:=[e.av]) rfl ⟨rfl,rfl,hle2 _ _ G.h,G.nul0⟩ rfl (nullable_ok (G.le hle2) (by omega) ?_))
  have hl1:=keys_len hK (fun x hx=>fst_U G.g.hU e hw x hx)
  have hla:=keys_len hS hU
  by_cases hnul:nul (ks em) e=true
  · exact Or.inl ⟨congrArg AV.bool hnul,s_exprE (e_call (vs:=[.ref k,.ref ka]) rfl (merge_ok (by omega) (ne_of_some ha hk0) (Hp.set_self ..) (hle2 _ _ ha) (by have:cap=1000000:=rfl;omega)
      (s_nil (s_ret (v:=.ref k) rfl (retI (q k _ _ (le_set_ne hle2 hk0) hk0 (Hp.set_self ..) (keys_congr (keys_mergeK _ hK) fun x=>⟨Or.imp id fun h=>⟨hnul,(hS.2 x).mp h⟩,Or.imp id fun h=>(hS.2 x).mpr h.2⟩)))))))⟩
  · exact Or.inr ⟨congrArg AV.bool (Bool.not_eq_true _▸hnul),s_nil (s_ret (v:=.ref k) rfl (retI (q k _ _ hle2 hk0 (Hp.set_self ..) (keys_congr hK fun x=>⟨Or.inl,fun h=>h.elim id fun h=>absurd h.1 hnul⟩))))⟩
theorem pred_U {e:Ex} {S:Str→Prop} {H:Hp} (g:Gh ts em kt ke kf fr Fi H) (hw:WfE e) (hU:∀ x,S x→x∈U) {x:Str} (h:pred ts.length (ks em) Fi e S x):x∈U :=
  h.elim (fst_U g.hU e hw x) fun q=>hU x q.2
theorem e_append {a b:ME} {k:Nat} {l:List AV} {v:AV} {Q:QV} (ha:evE a m H=some (.ref k)) (hk:H k=some (.list l)) (hb:evE b m H=some v) (hc:l.length<cap) (q:Q .none (H.set k (.list (l++[v])))):vcE C (.append a b) m H Q :=
  evE_ok (C:=C) a ha ⟨⟨k,l,rfl,hk⟩,evE_ok (C:=C) b hb ⟨k,l,rfl,hk,hc,q⟩⟩
theorem e_reverse {a:ME} {k:Nat} {l:List AV} {Q:QV} (ha:evE a m H=some (.ref k)) (hk:H k=some (.list l)) (q:Q .none (H.set k (.list l.reverse))):vcE C (.reverse a) m H Q :=
  evE_ok (C:=C) a ha ⟨k,l,rfl,hk,q⟩
theorem lt_cap {n:Nat} (h:n≤1000):n<cap:=Nat.lt_of_le_of_lt h (by decide)
theorem parts_eps {n ka:Nat} {Q:QV} (hn:0<n) (q:∀ kl H',H.le H'→H kl=none→H' kl=some (.list [])→Q (.ref kl) H'):callN fdt n .parts [.obj .grammar kg,Ex.eps.av,.ref ka] H Q:=by
  refine callS (by omega) rfl fun n en=>(s_assignE fun kl hkl=>⟨Nat.le_of_ble_eq_true rfl,?_⟩)
  refine s_assign rfl rfl ?_
  refine evE_ok (C:=callN fdt n) (.sub (.var 1) (.int 1)) (v:=.tup []) rfl ⟨[],rfl,trivial,?_⟩
  refine s_exprE (e_reverse (k:=kl) (l:=[]) rfl (Hp.set_self ..) ?_)
  refine s_ret (v:=.ref kl) rfl (retI (q kl _ ?_ hkl (Hp.set_self ..)))
  exact le_set_ne (Hp.le_set _ hkl) hkl
theorem parts_alt {n ka:Nat} {Q:QV} {a b:Ex} (hn:0<n) (q:∀ kl H',H.le H'→H kl=none→H' kl=some (.list [.tup [a.av,.ref ka],.tup [b.av,.ref ka]])→Q (.ref kl) H'):callN fdt n .parts [.obj .grammar kg,(Ex.alt a b).av,.ref ka] H Q:=by
  refine callS (by omega) rfl fun n en=>(s_assignE fun kl hkl=>⟨Nat.le_of_ble_eq_true rfl,?_⟩)
  refine s_assign rfl rfl ?_
  refine evE_ok (C:=callN fdt n) (.sub (.var 1) (.int 1)) (v:=.tup [a.av,b.av]) rfl ⟨_,rfl,trivial,_,rfl,?_⟩
  refine s_exprE (e_append (k:=kl) (l:=[]) rfl (Hp.set_self ..) rfl (lt_cap (Nat.zero_le _)) ?_)
  refine s_no (by kernel_rfl!) (s_nil ⟨trivial,_,rfl,?_⟩)
  refine s_exprE (e_append (k:=kl) rfl (Hp.set_self ..) rfl (lt_cap (Nat.le_of_ble_eq_true rfl)) ?_)
  refine s_no (by kernel_rfl!) (s_nil ⟨trivial,?_⟩)
  refine s_exprE (e_reverse (k:=kl) rfl (Hp.set_self ..) ?_)
  refine s_ret (v:=.ref kl) rfl (retI (q kl _ ?_ hkl (Hp.set_self ..)))
  exact le_set_ne (le_set_ne (le_set_ne (Hp.le_set _ hkl) hkl) hkl) hkl
theorem parts_seq {n ka:Nat} {Q:QV} {a b:Ex} {la:List (Str × AV)} {S:Str→Prop} (G:GC ts em kt ke kf ko kg gs fr Fi H) (hn:a.size+b.size+5<n) (hwa:WfE a) (hwb:WfE b) (ha:H ka=some (.dS la)) (hS:Keys la S) (hU:∀ x,S x→x∈U)
    (q:∀ kl k1 l1 H',H.le H'→H kl=none→H k1=none→H' k1=some (.dS l1)→Keys l1 (pred ts.length (ks em) Fi b S)→H' kl=some (.list [.tup [a.av,.ref k1],.tup [b.av,.ref ka]])→Q (.ref kl) H') :
    callN fdt n .parts [.obj .grammar kg,(Ex.seq a b).av,.ref ka] H Q:=by
  refine callS (by omega) rfl fun n en=>(s_assignE fun kl hkl=>⟨Nat.le_of_ble_eq_true rfl,?_⟩)
  refine s_assign rfl rfl ?_
  have hle1:H.le (H.set kl (.list [])):=Hp.le_set _ hkl
  refine evE_ok (C:=callN fdt n) (.sub (.var 1) (.int 1)) (v:=.tup [a.av,b.av]) rfl ⟨_,rfl,trivial,_,rfl,?_⟩
  refine s_exprE (e_append (k:=kl) (l:=[]) rfl (Hp.set_self ..) rfl (lt_cap (Nat.zero_le _)) ?_)
  have hle2:H.le ((H.set kl (.list [])).set kl (.list ([]++[.tup [b.av,.ref ka]]))):=le_set_ne hle1 hkl
  refine s_ifT (by kernel_rfl!) (s_assignE (e_meth (c:=.grammar) (k:=kg) (fs:=gs) (x:=.obj .grammar kg) (vs:=[b.av,.ref ka]) rfl ⟨rfl,rfl,hle2 _ _ G.h,G.pred0⟩ rfl ?_))
  refine predict_ok (G.le hle2) (by omega) hwb (hle2 _ _ ha) hS hU fun k1 H1 l1 hle hk1 hk1' hK1=>⟨Nat.le_of_ble_eq_true rfl,?_⟩
  refine s_nil (s_nil ⟨trivial,_,rfl,?_⟩)
  have hkl1:=hle _ _ (Hp.set_self (H.set kl (.list [])) kl (.list ([]++[.tup [b.av,.ref ka]])))
  refine s_exprE (e_append (k:=kl) rfl hkl1 rfl (lt_cap (Nat.le_of_ble_eq_true rfl)) ?_)
  have hle3:=le_set_ne (o:=.list ([]++[.tup [b.av,.ref ka]]++[.tup [a.av,.ref k1]])) (Hp.le_trans hle2 hle) hkl
  have hne:k1≠kl:=fun e=>by rw [e] at hk1;rw [Hp.set_self] at hk1;cases hk1
  refine s_ifT (by kernel_rfl!) (s_assignE (e_meth (c:=.grammar) (k:=kg) (fs:=gs) (x:=.obj .grammar kg) (vs:=[a.av,.ref k1]) rfl ⟨rfl,rfl,hle3 _ _ G.h,G.pred0⟩ rfl ?_))
  refine predict_ok (G.le hle3) (by omega) hwa ((Hp.set_ne _ _ hne).trans hk1') hK1 (fun x hx=>pred_U G.g hwb hU hx) fun k2 H2 l2 hle4 hk2 hk2' hK2=>⟨Nat.le_of_ble_eq_true rfl,?_⟩
  refine s_nil (s_nil ⟨trivial,?_⟩)
  have hkl2:=hle4 _ _ (Hp.set_self H1 kl (.list ([]++[.tup [b.av,.ref ka]]++[.tup [a.av,.ref k1]])))
  refine s_exprE (e_reverse (k:=kl) rfl hkl2 ?_)
  refine s_ret (v:=.ref kl) rfl (retI (q kl k1 l1 _ (le_set_ne (Hp.le_trans hle3 hle4) hkl) hkl (none_of_le hle2 hk1) ?_ hK1 (Hp.set_self ..)))
  exact (Hp.set_ne _ _ hne).trans (hle4 _ _ ((Hp.set_ne _ _ hne).trans hk1'))
end LY.Internal
end

section
open PySem
namespace LY.Internal
variable {C:CallP} {m:Lo} {H:Hp} {ts:List Ex} {em:List (Str × AV)} {kt ke kf ko kg:Nat} {gs fa wa:List (Str × AV)} {fr:Nat→Nat} {Fi:Nat→Str→Prop}
noncomputable def NameIn (j:Nat):Ex→Prop
  | .text _=>False
  | .name i=>i=j
  | .eps=>False
  | .seq a b=>NameIn j a∨NameIn j b
  | .alt a b=>NameIn j a∨NameIn j b
  | .opt a=>NameIn j a
  | .rep a=>NameIn j a
theorem top_in:∀ {e:Ex} {j:Nat},top e=some j→NameIn j e
  | .name i,j,h=>by cases h;rfl
  | .opt a,j,h=>top_in (e:=a) h
  | .rep a,j,h=>top_in (e:=a) h
noncomputable def FC (len:Nat) (em:List Str) (Fi:Nat→Str→Prop) (W:Nat→Str→Prop):Ex→(Str→Prop)→Prop
  | .text _,_=>True
  | .name j,S=>j<len→∀ x,S x→W j x
  | .eps,_=>True
  | .seq a b,S=>FC len em Fi W a (pred len em Fi b S)∧FC len em Fi W b S
  | .alt a b,S=>FC len em Fi W a S∧FC len em Fi W b S
  | .opt a,S=>FC len em Fi W a S
  | .rep a,S=>FC len em Fi W a (pred len em Fi (.rep a) S)
theorem pred_mono {len:Nat} {em:List Str} {Fi:Nat→Str→Prop} {e:Ex} {S S':Str→Prop} (h:∀ x,S x→S' x) {x:Str} (q:pred len em Fi e S x):pred len em Fi e S' x :=
  q.elim Or.inl fun q=>Or.inr ⟨q.1,h x q.2⟩
theorem FC_mono {len:Nat} {em:List Str} {Fi W W':Nat→Str→Prop} (hW:∀ j x,j<len→W j x→W' j x):∀ {e:Ex} {S S':Str→Prop},(∀ x,S' x→S x)→FC len em Fi W e S→FC len em Fi W' e S'
  | .text _,_,_,_,_=>trivial
  | .name j,_,_,h,q=>fun hj x hx=>hW j x hj (q hj x (h x hx))
  | .eps,_,_,_,_=>trivial
  | .seq a b,_,_,h,q=>⟨FC_mono hW (fun x hx=>pred_mono h hx) q.1,FC_mono hW h q.2⟩
  | .alt a b,_,_,h,q=>⟨FC_mono hW h q.1,FC_mono hW h q.2⟩
  | .opt a,_,_,h,q=>FC_mono (e:=a) hW h q
  | .rep a,_,_,h,q=>FC_mono (e:=a) hW (fun x hx=>pred_mono h hx) q
abbrev Wf (ls:Nat→List (Str × AV)):Nat→Str→Prop:=fun j x=>x∈ks (ls j)
structure AddPost (len:Nat) (em:List Str) (Fi:Nat→Str→Prop) (fw:Nat→Nat) (e:Ex) (S:Str→Prop) (ls ls':Nat→List (Str × AV)) (g:Bool) (H H':Hp):Prop where
  keep:∀ k o,H k=some o→(∀ j,j<len→NameIn j e→k≠fw j)→H' k=some o
  grow:∀ j x,j<len→x∈ks (ls j)→x∈ks (ls' j)
  tot:tot len ls≤tot len ls'
  yes:g=true→LY.Internal.tot len ls<LY.Internal.tot len ls'
  no:g=false→(∀ j x,j<len→x∈ks (ls' j)→x∈ks (ls j))∧FC len em Fi (Wf ls) e S
theorem AddPost.skip {len:Nat} {em:List Str} {fw:Nat→Nat} {e:Ex} {S:Str→Prop} {ls:Nat→List (Str × AV)} (h:FC len em Fi (Wf ls) e S):AddPost len em Fi fw e S ls ls false H H :=
  ⟨fun _ _ e _=>e,fun _ _ _ h=>h,Nat.le_refl _,nofun,fun _=>⟨fun _ _ _ h=>h,h⟩⟩
theorem AddPost.both {len:Nat} {em:List Str} {fw:Nat→Nat} {e a b:Ex} {S Sa Sb:Str→Prop} {ls ls1 ls2:Nat→List (Str × AV)} {g1 g2:Bool} {H H1 H2 H3:Hp} (hle:H.le H1) (P1:AddPost len em Fi fw a Sa ls ls1 g1 H1 H2) (P2:AddPost len em Fi fw b Sb ls1 ls2 g2 H2 H3)
    (hn:∀ j,NameIn j a∨NameIn j b→NameIn j e) (hF:FC len em Fi (Wf ls) a Sa→FC len em Fi (Wf ls) b Sb→FC len em Fi (Wf ls) e S):AddPost len em Fi fw e S ls ls2 (g1 || g2) H H3:=by
  have t1:=P1.tot
  have t2:=P2.tot
  refine ⟨fun k o hk hkn=>P2.keep k o (P1.keep k o (hle k o hk) fun j hj hin=>hkn j hj (hn j (Or.inl hin))) fun j hj hin=>hkn j hj (hn j (Or.inr hin)),fun j x hj hx=>P2.grow j x hj (P1.grow j x hj hx),Nat.le_trans t1 t2,fun e=>?_,fun e=>?_⟩
  · exact (Bool.or_eq_true_iff.mp e).elim (fun e=>Nat.lt_of_lt_of_le (P1.yes e) t2) fun e=>Nat.lt_of_le_of_lt t1 (P2.yes e)
  · obtain ⟨e1,e2⟩:=Bool.or_eq_false_iff.mp e
    have n1:=P1.no e1
    have n2:=P2.no e2
    exact ⟨fun j x hj hx=>n1.1 j x hj (n2.1 j x hj hx),hF n1.2 (FC_mono (fun j x hj hx=>n1.1 j x hj hx) (fun _ h=>h) n2.2)⟩
theorem add_two {n kl k1 ka kw:Nat} {H0 H1:Hp} {fw:Nat→Nat} {ev tag:AV} {v6 v7:Option AV} {a b:Ex} {Sa Sb:Str→Prop} {ls:Nat→List (Str × AV)} {o:AO} {Q:QV} (hkl:H1 kl=some o) (hne:∀ j,j<ts.length→kl≠fw j)
    (ca:∀ {Q:QV},(∀ g ls' H',FRows ts.length H0 kw fw wa ls' H'→AddPost ts.length (ks em) Fi fw a Sa ls ls' g H1 H'→Q (.bool g) H')→callN fdt n .add_follows [.obj .grammar kg,a.av,.ref k1,.ref kw] H1 Q)
    (cb:∀ {g ls1 H2} {Q:QV},FRows ts.length H0 kw fw wa ls1 H2→AddPost ts.length (ks em) Fi fw a Sa ls ls1 g H1 H2→(∀ g ls' H',FRows ts.length H0 kw fw wa ls' H'→AddPost ts.length (ks em) Fi fw b Sb ls1 ls' g H2 H'→Q (.bool g) H')→callN fdt n .add_follows [.obj .grammar kg,b.av,.ref ka,.ref kw] H2 Q)
    (q:∀ g1 g2 ls1 ls2 H2 H3,FRows ts.length H0 kw fw wa ls2 H3→AddPost ts.length (ks em) Fi fw a Sa ls ls1 g1 H1 H2→AddPost ts.length (ks em) Fi fw b Sb ls1 ls2 g2 H2 H3→Q (.bool (g1 || g2)) H3) :
    forL (vcSs (callN fdt n) (.cons (.ifs (.call .add_follows (.cons (.var 0) (.cons (.var 6) (.cons (.var 7) (.cons (.var 3) .nil))))) (.cons (.assign 5 (.bool true)) .nil) .nil) .nil)) (Live H1 (.ref kl)) (.two 6 7) [.tup [a.av,.ref k1],.tup [b.av,.ref ka]]
      [some (.obj .grammar kg),some ev,some (.ref ka),some (.ref kw),some tag,some (.bool false),v6,v7] H1 (kont (vcSs (callN fdt n) (.cons (.ret (.var 5)) .nil)) (retK Q)):=by
  refine ⟨rfl,_,rfl,if_grown rfl (e_call (vs:=[.obj .grammar kg,a.av,.ref k1,.ref kw]) rfl (ca fun g1 ls1 H2 F2 P1=>⟨g1,rfl,?_⟩))⟩
  have h2:=P1.keep _ _ hkl fun j hj _=>hne j hj
  refine ⟨h2.trans hkl.symm,_,rfl,if_grown (g0:=g1) rfl (e_call (vs:=[.obj .grammar kg,b.av,.ref ka,.ref kw]) rfl (cb F2 P1 fun g2 ls2 H3 F3 P2=>⟨g2,rfl,(P2.keep _ _ h2 fun j hj _=>hne j hj).trans hkl.symm,?_⟩))⟩
  exact s_ret (v:=.bool (g1 || g2)) rfl (retI (q g1 g2 ls1 ls2 H2 H3 F3 P1 P2))
theorem add_ok {H0:Hp} {kw:Nat} {fw:Nat→Nat} (G:GC ts em kt ke kf ko kg gs fr Fi H0):∀ (e:Ex) {H:Hp} {n ka:Nat} {la:List (Str × AV)} {S:Str→Prop} {ls:Nat→List (Str × AV)} {Q:QV},e.size+6<n→WfE e →
    FRows ts.length H0 kw fw wa ls H→H ka=some (.dS la)→Keys la S→(∀ x,S x→x∈U)→(∀ j,j<ts.length→NameIn j e→ka≠fw j) →
    (∀ g ls' H',FRows ts.length H0 kw fw wa ls' H'→AddPost ts.length (ks em) Fi fw e S ls ls' g H H'→Q (.bool g) H')→callN fdt n .add_follows [.obj .grammar kg,e.av,.ref ka,.ref kw] H Q:=by
  intro e
  induction e with
  | text s =>
    intro H n ka la S ls Q hn hw F ha hS hU hne q
    exact callS (by omega) rfl fun n en=>s_assign rfl rfl (s_no (by kernel_rfl!) (s_ifT (by kernel_rfl!) (s_ret rfl (retI (q false ls H F (.skip trivial))))))
  | name j =>
    intro H n ka la S ls Q hn hw F ha hS hU hne q
    refine callS (by omega) rfl fun n en=>s_assign rfl rfl (s_ifT (by kernel_rfl!) ?_)
    by_cases hj:j<ts.length
    · refine s_ifT (v_inT rfl rfl F.hfa (in_keys (F.hfr j hj))) (s_retE (e_call (vs:=[.ref (fw j),.ref ka]) (evp_cons (v_sub rfl rfl (at_dS F.hfa (F.hfr j hj))) (evp_cons rfl rfl)) ?_))
      have hl:=F.len hj
      have hla:=keys_len hS hU
      refine merge_ok (by omega) (hne j hj rfl) (F.hr j hj) ha (by have:cap=1000000:=rfl;omega) (retI ?_)
      have hnew:∀ x,x∈ks (mergeK (ls j) (ks la)) ↔ x∈ks (ls j)∨x∈ks la:=fun x=>(keys_mergeK (ks la) (l:=ls j) (S:=fun x=>x∈ks (ls j)) ⟨F.nd j hj,fun _=>Iff.rfl⟩).2 x
      have ht3:=tot_upd (ls:=ls) (l:=mergeK (ls j) (ks la)) hj
      have hge:=mergeK_ge (ks la) (ls j)
      refine q _ _ _ (F.upd hj (kk:=ks la) fun x hx=>hU x ((hS.2 x).mp hx)) ⟨fun k o hk hkn=>(Hp.set_ne _ _ (hkn j hj rfl)).trans hk,fun i x hi hx=>updL_ind (P:=fun l=>x∈ks l) (fun e=>(hnew x).mpr (Or.inl (e▸hx))) fun _=>hx,by omega,fun e=>?_,fun e=>?_⟩
      · have:=of_decide_eq_true e;omega
      · have hsame:=mergeK_same (of_decide_eq_false e)
        exact ⟨fun i x hi=>updL_ind (ls:=ls) (j:=j) (i:=i) (P:=fun l=>x∈ks l→x∈ks (ls i)) (fun e hx=>by rw [e];exact ((hnew x).mp hx).elim id (hsame x)) fun _=>id,fun _ x hx=>hsame x ((hS.2 x).mpr hx)⟩
    · -- a name that is no rule: a token
      exact s_no (v_inF rfl rfl F.hfa fun hin=>hj (by obtain ⟨i,hi,e⟩:=F.hfx _ hin;rw [rn_inj e];exact hi)) (s_ret rfl (retI (q false ls H F (.skip (fun h=>absurd h hj)))))
  | eps =>
    intro H n ka la S ls Q hn hw F ha hS hU hne q
    refine callS (by omega) rfl fun n en=>s_assign rfl rfl (s_no (by kernel_rfl!) (s_no (by kernel_rfl!) (s_no (by kernel_rfl!) (s_no (by kernel_rfl!) (s_assign rfl rfl ?_)))))
    refine e_call (C:=callN fdt n) (vs:=[.obj .grammar kg,Ex.eps.av,.ref ka]) rfl (parts_eps (by omega) fun kl H1 hle hkl hkl'=>⟨[],seq_of hkl',rfl,s_ret rfl (retI (q false ls H1 (F.grow hle) ?_))⟩)
    exact ⟨fun k o e _=>hle k o e,fun _ _ _ h=>h,Nat.le_refl _,nofun,fun _=>⟨fun _ _ _ h=>h,trivial⟩⟩
  | seq a b iha ihb =>
    intro H n ka la S ls Q hn hw F ha hS hU hne q
    dsimp only [zs] at hn
    refine callS (by omega) rfl fun n en=>s_assign rfl rfl (s_no (by kernel_rfl!) (s_no (by kernel_rfl!) (s_no (by kernel_rfl!) (s_no (by kernel_rfl!) (s_assign rfl rfl ?_)))))
    have GH:=G.le F.le
    have hrow:∀ k,H k=none→∀ j,j<ts.length→k≠fw j:=fun k hk j hj e=>by rw [e,F.hr j hj] at hk;cases hk
    refine e_call (C:=callN fdt n) (vs:=[.obj .grammar kg,(Ex.seq a b).av,.ref ka]) rfl (parts_seq GH (by omega) hw.1 hw.2 ha hS hU fun kl k1 l1 H1 hle hkl hk1 hk1' hK1 hkl'=>⟨_,seq_of hkl',?_⟩)
    exact add_two (Q:=Q) hkl' (hrow kl hkl) (fun q=>iha (by omega) hw.1 (F.grow hle) hk1' hK1 (fun x hx=>pred_U GH.g hw.2 hU hx) (fun j hj _=>hrow k1 hk1 j hj) q)
      (fun F2 P1 q=>ihb (by omega) hw.2 F2 (P1.keep _ _ (hle _ _ ha) fun j hj hin=>hne j hj (Or.inl hin)) hS hU (fun j hj hin=>hne j hj (Or.inr hin)) q)
      fun g1 g2 ls1 ls2 H2 H3 F3 P1 P2=>q _ _ _ F3 (P1.both hle P2 (fun _ h=>h) fun a b=>⟨a,b⟩)
  | alt a b iha ihb =>
    intro H n ka la S ls Q hn hw F ha hS hU hne q
    dsimp only [za] at hn
    refine callS (by omega) rfl fun n en=>s_assign rfl rfl (s_no (by kernel_rfl!) (s_no (by kernel_rfl!) (s_no (by kernel_rfl!) (s_no (by kernel_rfl!) (s_assign rfl rfl ?_)))))
    refine e_call (C:=callN fdt n) (vs:=[.obj .grammar kg,(Ex.alt a b).av,.ref ka]) rfl (parts_alt (by omega) fun kl H1 hle hkl hkl'=>⟨_,seq_of hkl',?_⟩)
    exact add_two (Q:=Q) hkl' (fun j hj e=>by rw [e,F.hr j hj] at hkl;cases hkl) (fun q=>iha (by omega) hw.1 (F.grow hle) (hle _ _ ha) hS hU (fun j hj hin=>hne j hj (Or.inl hin)) q)
      (fun F2 P1 q=>ihb (by omega) hw.2 F2 (P1.keep _ _ (hle _ _ ha) fun j hj hin=>hne j hj (Or.inl hin)) hS hU (fun j hj hin=>hne j hj (Or.inr hin)) q)
      fun g1 g2 ls1 ls2 H2 H3 F3 P1 P2=>q _ _ _ F3 (P1.both hle P2 (fun _ h=>h) fun a b=>⟨a,b⟩)
  | opt a ih =>
    intro H n ka la S ls Q hn hw F ha hS hU hne q
    dsimp only [zo] at hn
    exact callS (by omega) rfl fun n en=>s_assign rfl rfl (s_no (by kernel_rfl!) (s_no (by kernel_rfl!) (s_ifT (by kernel_rfl!) (s_retE (e_call (vs:=[.obj .grammar kg,a.av,.ref ka,.ref kw]) rfl (ih (by omega) hw F ha hS hU hne fun g ls' H' F' P=>retI (q g ls' H' F' ⟨P.keep,P.grow,P.tot,P.yes,P.no⟩)))))))
  | rep a ih =>
    intro H n ka la S ls Q hn hw F ha hS hU hne q
    dsimp only [zr] at hn
    refine callS (by omega) rfl fun n en=>s_assign rfl rfl (s_no (by kernel_rfl!) (s_no (by kernel_rfl!) (s_no (by kernel_rfl!) (s_ifT (by kernel_rfl!) ?_))))
    have GH:=G.le F.le
    refine s_retE (e_callE (es_cons (evE_ok (C:=callN fdt n) (.var 0) (v:=.obj .grammar kg) rfl (es_cons (evE_ok (C:=callN fdt n) (.sub (.var 1) (.int 1)) (v:=a.av) rfl (es_cons (e_meth (c:=.grammar) (k:=kg) (fs:=gs) (x:=.obj .grammar kg) (vs:=[(Ex.rep a).av,.ref ka]) rfl ⟨rfl,rfl,GH.h,GH.pred0⟩ rfl ?_)))))))
    refine predict_ok GH (by dsimp only [zr];omega) hw ha hS hU fun k1 H1 l1 hle hk1 hk1' hK1=>es_cons (evE_ok (C:=callN fdt n) (.var 3) (v:=.ref kw) rfl (es_nil ?_))
    exact ih (by omega) hw (F.grow hle) hk1' hK1 (fun x hx=>pred_U GH.g (e:=.rep a) hw hU hx) (fun j hj _ e=>by rw [e,F.hr j hj] at hk1;cases hk1) fun g ls' H' F' P=>retI (q g ls' H' F' ⟨fun k o hk hkn=>P.keep k o (hle k o hk) hkn,P.grow,P.tot,P.yes,P.no⟩)
end LY.Internal
end

section
open PySem
namespace LY.Internal
variable {C:CallP} {m:Lo} {H:Hp} {ts:List Ex} {em:List (Str × AV)} {kt ke kf ko kg kw:Nat} {gs fa wa:List (Str × AV)} {fr fw:Nat→Nat} {Fi:Nat→Str→Prop}
theorem eof_U:("eof":Str) ∈ U:=by decide +kernel
noncomputable def inn:Ex→Nat
  | .text _=>0
  | .name _=>0
  | .eps=>0
  | .seq a b=>1+inn a+inn b
  | .alt a b=>1+inn a+inn b
  | .opt a=>1+inn a
  | .rep a=>1+inn a
structure WfT (ts:List Ex):Prop where
  pos:0<ts.length
  four:ts.length≤4
  wf:∀ j,j<ts.length→WfE (T ts j)
  size:∀ j,j<ts.length→(T ts j).size≤7
  inn:∀ j,j<ts.length→inn (T ts j)≤3
  gt:∀ i,i<ts.length→∀ j,NameIn j (T ts i)→i<j
noncomputable def FolC (ts:List Ex) (em:List (Str × AV)) (Fi:Nat→Str→Prop) (ls:Nat→List (Str × AV)) (i:Nat):Prop:=∀ j,j<i→FC ts.length (ks em) Fi (Wf ls) (T ts j) (Wf ls j)
inductive FoI (ts:List Ex) (em:List (Str × AV)) (Fi:Nat→Str→Prop) (kg k:Nat) (fw:Nat→Nat) (wa:List (Str × AV)) (H:Hp) (kk:Nat):Lo→Hp→Prop
  | go {ls v2 Hc} (F:FRows ts.length H k fw wa ls Hc) (hE:("eof":Str) ∈ ks (ls 0)) (hm:11 * ts.length + 1 ≤ kk + tot ts.length ls):FoI ts em Fi kg k fw wa H kk [some (.obj .grammar kg),some (.ref k),v2,some (.bool true)] Hc
  | done {ls v2 Hc} (F:FRows ts.length H k fw wa ls Hc) (hE:("eof":Str) ∈ ks (ls 0)) (hC:FolC ts em Fi ls ts.length):FoI ts em Fi kg k fw wa H kk [some (.obj .grammar kg),some (.ref k),v2,some (.bool false)] Hc
inductive FoJ (ts:List Ex) (em:List (Str × AV)) (Fi:Nat→Str→Prop) (kg k:Nat) (fw:Nat→Nat) (wa:List (Str × AV)) (H:Hp) (t i:Nat):Lo→Hp→Prop
  | mk {ls g v2 Hc} (F:FRows ts.length H k fw wa ls Hc) (hE:("eof":Str) ∈ ks (ls 0)) (hle:t ≤ tot ts.length ls) (hg:g = true → t < tot ts.length ls) (hg':g = false → FolC ts em Fi ls i) :
    FoJ ts em Fi kg k fw wa H t i [some (.obj .grammar kg),some (.ref k),v2,some (.bool g)] Hc
theorem follow_rows_ok {n:Nat} {Q:QV} (W:WfT ts) (G:GC ts em kt ke kf ko kg gs fr Fi H) (hn:14<n)
    (q:∀ k fw wa ls H',FRows ts.length H k fw wa ls H' → ("eof":Str) ∈ ks (ls 0) → (∀ i,i < ts.length → FC ts.length (ks em) Fi (Wf ls) (T ts i) (Wf ls i)) → Q (.ref k) H'):callN fdt n .follow_rows [.obj .grammar kg] H Q:=by
  have h4:=W.four
  have hpos:=W.pos
  refine callS (by omega) rfl fun n en=>s_assignE fun k hk=>⟨Nat.le_of_ble_eq_true rfl,?_⟩
  refine rows_init (vi:=2) (vf:=1) (kf:=k) (ko:=ko) (by decide) (Nat.le_of_ble_eq_true rfl) ((G.le (Hp.le_set _ hk)).at rfl G.order) rfl G.ho (by omega) hk ?_
  rintro _ H1 fw wa ⟨v2,rfl⟩ F0
  have G0:=G.le F0.le
  have hst:∀ {m:Lo},m.at 0 = some (.obj .grammar kg) → evE (.attr (.var 0) "start") m H1 = some (.str (rn 0)):=fun h => G0.at h G.start
  refine s_ifT (C:=callN fdt n) (v_inT (hst rfl) rfl F0.hfa (in_keys (F0.hfr 0 hpos))) ?_
  refine s_setS (v:=.bool true) (k:=fw 0) (x:="eof") (l:=[]) rfl (v_sub rfl (hst rfl) (at_dS F0.hfa (F0.hfr 0 hpos))) rfl (F0.hr 0 hpos) (lt_cap (Nat.zero_le _)) ?_
  have F1:=F0.upd hpos (kk:=["eof"]) (fun x hx => by rw [List.mem_singleton.mp hx]; exact eof_U)
  refine s_nil (s_assign rfl rfl (s_while (k:=11 * ts.length+1) (FoI ts em Fi kg k fw wa H) ?_ (.go F1 (by rw [updL_same];exact List.mem_singleton.mpr rfl) (Nat.le_add_right ..))))
  rintro kk _ _ hI
  cases hI with
  | done F hE hC=>exact evE_ok (C:=callN fdt n) (.var 3) rfl (Or.inr ⟨rfl,s_ret (v:=.ref k) rfl (retI (q k fw wa _ _ F hE hC))⟩)
  | @go ls v2 Hc F hE hm =>
    refine evE_ok (C:=callN fdt n) (.var 3) rfl (Or.inl ⟨rfl,s_assign rfl rfl (s_forNames (ko:=ko) (len:=ts.length) ((G.le F.le).at rfl G.order) (F.le _ _ G.ho) (FoJ ts em Fi kg k fw wa H (tot ts.length ls)) ?_ ?_
      (.mk F hE (Nat.le_refl _) nofun fun _ j hj=>absurd hj (Nat.not_lt_zero _)) ?_)⟩)
    · rintro i m _ ⟨F',_⟩
      exact F'.le _ _ G.ho
    · rintro i _ _ hi @⟨ls',g',v2,Hc,F',hE',hle,hg,hg'⟩
      have G':=G.le F'.le
      refine ⟨Nat.le_of_ble_eq_true rfl,if_grown (g0:=g') rfl (e_call (vs:=[.obj .grammar kg,(T ts i).av,.ref (fw i),.ref k])
        (evp_cons rfl (evp_cons (v_sub (G'.at rfl G.table) rfl (at_dS G'.g.ht (tab_get hi))) (evp_cons (v_sub rfl rfl (at_dS F'.hfa (F'.hfr i hi))) (evp_cons rfl rfl)))) ?_)⟩
      refine add_ok G (T ts i) (by have:=W.size i hi;omega) (W.wf i hi) F' (F'.hr i hi) (S:=Wf ls' i) ⟨F'.nd i hi,fun _=>Iff.rfl⟩ (fun x hx=>F'.hU i x hi hx) (fun j hj hin e=>absurd (W.gt i hi j hin) (F'.inj _ _ hi hj e▸Nat.lt_irrefl _)) fun g2 ls2 H2 F2 P=>⟨g2,rfl,?_⟩
      have t2:=P.tot
      refine .mk (g:=g' || g2) F2 (P.grow 0 _ hpos hE') (Nat.le_trans hle t2) (fun e=>(Bool.or_eq_true_iff.mp e).elim (fun e=>Nat.lt_of_lt_of_le (hg e) t2) fun e=>Nat.lt_of_le_of_lt hle (P.yes e)) fun e j hj=>?_
      obtain ⟨e1,e2⟩:=Bool.or_eq_false_iff.mp e
      obtain ⟨n1,f1⟩:=P.no e2
      by_cases hji:j=i
      · subst hji
        exact FC_mono P.grow (fun x hx=>n1 j x hi hx) f1
      · exact FC_mono P.grow (fun x hx=>n1 j x (by omega) hx) (hg' e1 j (by omega))
    · rintro _ _ @⟨ls',g',v2,Hc,F',hE',hle,hg,hg'⟩
      cases g' with
      | true =>
        have:=tot_le (n:=ts.length) (ls:=ls') fun j hj=>F'.len hj
        exact s_nil ⟨kk-1,by have:=hg rfl;omega,.go F' hE' (by have:=hg rfl;omega)⟩
      | false =>
        have:=tot_le (n:=ts.length) (ls:=ls) fun j hj=>F.len hj
        exact s_nil ⟨0,by omega,.done F' hE' (hg' rfl)⟩
end LY.Internal
end

section
open PySem
namespace LY.Internal
variable {C:CallP} {m:Lo} {H:Hp} {ts:List Ex} {em:List (Str × AV)} {kt ke kf ko kg kw:Nat} {gs fa wa:List (Str × AV)} {fr fw:Nat→Nat} {Fi:Nat→Str→Prop}
structure Made (ts:List Ex) (em:List (Str × AV)) (kt ke kf ko kg:Nat) (gs:List (Str × AV)) (kw:Nat) (fr fw:Nat→Nat) (wa:List (Str × AV)) (lf lw:Nat→List (Str × AV)) (H0 H:Hp):Prop where
  G:GC ts em kt ke kf ko kg gs fr (Wf lf) H
  hw:getK gs "follows" = some (.ref kw)
  F:FRows ts.length H0 kw fw wa lw H
  ew:EmW ts em
  ec:EmC ts em
  fi:∀ j x,j<ts.length→(x∈ks (lf j) ↔ fst ts.length (ks em) (Wf lf) (T ts j) x)
  eof:("eof":Str) ∈ ks (lw 0)
  fc:∀ i,i<ts.length→FC ts.length (ks em) (Wf lf) (Wf lw) (T ts i) (Wf lw i)
theorem Made.grow {lf lw:Nat→List (Str × AV)} {H0 H H':Hp} (M:Made ts em kt ke kf ko kg gs kw fr fw wa lf lw H0 H) (l:H.le H'):Made ts em kt ke kf ko kg gs kw fr fw wa lf lw H0 H' :=
  ⟨M.G.le l,M.hw,M.F.grow l,M.ew,M.ec,M.fi,M.eof,M.fc⟩
noncomputable def tabN (ts:List Ex) (i:Nat):List (Str × AV):=(List.range i).map fun i=>(rn i,(T ts i).av)
theorem tabN_all (ts:List Ex):tabN ts ts.length=tabAV ts:=rfl
theorem setK_new {l:List (Str × AV)} {k:Str} {v:AV} (h:k ∉ ks l):setK l k v=l++[(k,v)]:=by
  induction l with
  | nil=>rfl
  | cons p l ih =>
    obtain ⟨a,b⟩:=p
    have h1:k≠a∧k ∉ ks l:=⟨fun e=>h (e▸List.mem_cons_self),fun q=>h (List.mem_cons_of_mem _ q)⟩
    exact (if_neg h1.1).trans (congrArg ((a,b)::·) (ih h1.2))
theorem tabN_ks (ts:List Ex) (i:Nat):ks (tabN ts i)=(List.range i).map rn:=List.map_map
theorem rn_notin_tabN (ts:List Ex) (i:Nat):rn i ∉ ks (tabN ts i):=by
  rw [tabN_ks,List.mem_map]
  rintro ⟨j,hj,e⟩
  rw [rn_inj e] at hj
  exact absurd (List.mem_range.mp hj) (Nat.lt_irrefl _)
theorem tabN_succ (ts:List Ex) (i:Nat):setK (tabN ts i) (rn i) (T ts i).av=tabN ts (i+1):=by
  rw [setK_new (rn_notin_tabN ts i)]
  unfold tabN
  rw [List.range_succ,List.map_append];rfl
theorem nmF_succ (i:Nat):nmF 0 i++[.str (rn i)]=nmF 0 (i+1):=by
  unfold nmF;rw [Nat.sub_zero,Nat.sub_zero,List.range'_1_concat,List.map_append,Nat.zero_add];rfl
noncomputable def rowsF (ts:List Ex) (i:Nat):List AV:=(List.range' i (ts.length-i)).map fun j=>.tup [.str (rn j),(T ts j).av]
theorem rowsF_cons {i:Nat} (h:i<ts.length):rowsF ts i=.tup [.str (rn i),(T ts i).av]::rowsF ts (i+1):=by
  unfold rowsF
  rw [show ts.length-i=(ts.length-(i+1))+1 by omega,List.range'_succ,List.map_cons]
theorem rowsF_nil:rowsF ts ts.length=[]:=by delta rowsF;rw [Nat.sub_self];rfl
theorem e_setAttr {o:ME} {f:Str} {ms:MSs} {Q:QF} {c:Cl} {k:Nat} {l:List (Str × AV)} {v:AV} {H1:Hp} (ho:evE o m H1=some (.obj c k)) (hk:H1 k=some (.ins l)) (hl:l.length<500) (q:vcSs C ms m (H1.set k (.ins (setK l f v))) Q) :
    vcE C o m H1 fun x H2=>∃ c k l,x=.obj c k∧H2 k=some (.ins l)∧l.length<500∧vcSs C ms m (H2.set k (.ins (setK l f v))) Q :=
  evE_ok (C:=C) o ho ⟨c,k,l,rfl,hk,hl,q⟩
theorem s_setAttrE {o e:ME} {f:Str} {ms:MSs} {Q:QF} (h:vcE C e m H fun v H1=>vcE C o m H1 fun x H2=>∃ c k l,x=.obj c k∧H2 k=some (.ins l)∧l.length<500∧vcSs C ms m (H2.set k (.ins (setK l f v))) Q):vcSs C (.cons (.setAttr o f e) ms) m H Q:=h
theorem Hp.set_keep {H:Hp} {k j:Nat} {f:List (Str × AV)} {o p:AO} (hk:H k=some (.ins f)) (hj:H j=some o) (hne:∀ f,o≠.ins f):(H.set k p) j=some o:=by
  rw [Hp.set_ne _ _ (fun e=>by rw [e,hk] at hj;cases hj;exact hne _ rfl)];exact hj
theorem Gh.setIns {H:Hp} {f:List (Str × AV)} {p:AO} (g:Gh ts em kt ke kf fr Fi H) (hk:H kg=some (.ins f)):Gh ts em kt ke kf fr Fi (H.set kg p) :=
  ⟨Hp.set_keep hk g.ht nofun,Hp.set_keep hk g.he nofun,(by obtain ⟨fa,h1,h2⟩:=g.hf;exact ⟨fa,Hp.set_keep hk h1 nofun,h2⟩),
    fun j hj=>(by obtain ⟨x,h1,h2⟩:=g.hr j hj;exact ⟨x,Hp.set_keep hk h1 nofun,h2⟩),g.hU⟩
theorem FRows.setIns {len:Nat} {H0 H:Hp} {f:List (Str × AV)} {p:AO} {ls:Nat→List (Str × AV)} (F:FRows len H0 kf fr fa ls H) (hk:H kg=some (.ins f)) (h0:H0 kg=none):FRows len H0 kf fr fa ls (H.set kg p) :=
  ⟨le_set_ne F.le h0,F.kf0,F.fresh,F.ne,F.inj,Hp.set_keep hk F.hfa nofun,F.hfl,F.hfr,F.hfx,fun j hj=>Hp.set_keep hk (F.hr j hj) nofun,F.nd,F.hU⟩
theorem FRows.base {len:Nat} {H0 H1 H:Hp} {ls:Nat→List (Str × AV)} (F:FRows len H1 kf fr fa ls H) (l:H0.le H1):FRows len H0 kf fr fa ls H :=
  ⟨Hp.le_trans l F.le,none_of_le l F.kf0,fun j hj=>none_of_le l (F.fresh j hj),F.ne,F.inj,F.hfa,F.hfl,F.hfr,F.hfx,F.hr,F.nd,F.hU⟩
noncomputable def gf1:List (Str × AV):=setK [] "start" (.str (rn 0))
noncomputable def gf2 (ko:Nat):List (Str × AV):=setK gf1 "order" (.ref ko)
noncomputable def gf3 (ko kt:Nat):List (Str × AV):=setK (gf2 ko) "table" (.ref kt)
noncomputable def gf4 (ko kt ke:Nat):List (Str × AV):=setK (gf3 ko kt) "empty" (.ref ke)
noncomputable def gf5 (ko kt ke kf:Nat):List (Str × AV):=setK (gf4 ko kt ke) "firsts" (.ref kf)
noncomputable def gf6 (ko kt ke kf kw:Nat):List (Str × AV):=setK (gf5 ko kt ke kf) "follows" (.ref kw)
structure GI (ts:List Ex) (H0:Hp) (kg ko kt i:Nat) (H1:Hp):Prop where
  le:H0.le H1
  g:H1 kg=some (.ins (gf3 ko kt))
  o:H1 ko=some (.list (nmF 0 i))
  t:H1 kt=some (.dS (tabN ts i))
theorem gInit_loop {n kr:Nat} {H0 Hc:Hp} (h7:ts.length≤4) (hr:H0 kr=some (.list (rowsF ts 0))) (hc:H0.le Hc) (hog:ko≠kg) (htg:kt≠kg) (hto:kt≠ko) (hko0:H0 ko=none) (hkt0:H0 kt=none) :
    ∀ (d i:Nat) {v3 v4:Option AV} {H1:Hp} {QQ:QF},d+i=ts.length→GI ts H0 kg ko kt i H1→(∀ v3 v4 H2,GI ts H0 kg ko kt ts.length H2→QQ .next [some (.obj .grammar kg),some (.ref kr),some (.str (rn 0)),v3,v4] H2) →
    forL (vcSs (callN fdt n) (.cons (.ifs (.cmp .notin (.var 3) (.attr (.var 0) "table")) (.cons (.expr (.append (.attr (.var 0) "order") (.var 3))) (.cons (.setSub (.attr (.var 0) "table") (.var 3) (.var 4)) .nil)) .nil) .nil))
      (Live Hc (.ref kr)) (.two 3 4) (rowsF ts i) [some (.obj .grammar kg),some (.ref kr),some (.str (rn 0)),v3,v4] H1 QQ
  | 0,i,_,_,_,_,hi,I,fin=>by
    have:i=ts.length:=by omega
    subst this
    rw [rowsF_nil]
    exact ⟨(I.le _ _ hr).trans (hc _ _ hr).symm,fin _ _ _ I⟩
  | d+1,i,_,_,H1,_,hi,I,fin=>by
    rw [rowsF_cons (by omega)]
    refine ⟨(I.le _ _ hr).trans (hc _ _ hr).symm,_,rfl,s_ifT (C:=callN fdt n) (v_outT rfl (v_attr rfl (at_obj I.g (by kernel_rfl!))) I.t (rn_notin_tabN ts i)) ?_⟩
    refine s_exprE (e_append (k:=ko) (l:=nmF 0 i) (v:=.str (rn i)) (v_attr rfl (at_obj I.g (by kernel_rfl!))) I.o rfl (lt_cap (by rw [nmF_len];omega)) ?_)
    rw [nmF_succ]
    refine s_setS (v:=(T ts i).av) (k:=kt) (x:=rn i) (l:=tabN ts i) rfl (v_attr rfl (at_obj ((Hp.set_ne _ _ fun e=>hog e.symm).trans I.g) (by kernel_rfl!))) rfl ((Hp.set_ne _ _ hto).trans I.t) (lt_cap (by rw [show (tabN ts i).length=i from (List.length_map _).trans List.length_range];omega)) (s_nil (s_nil ?_))
    rw [tabN_succ]
    exact gInit_loop h7 hr hc hog htg hto hko0 hkt0 d (i+1) (by omega) ⟨le_set_ne (le_set_ne I.le hko0) hkt0,(Hp.set_ne _ _ fun e=>htg e.symm).trans ((Hp.set_ne _ _ fun e=>hog e.symm).trans I.g),(Hp.set_ne _ _ fun e=>hto e.symm).trans (Hp.set_self ..),Hp.set_self ..⟩ fin
theorem gInit_ok {n kr:Nat} {Q:QV} {H0:Hp} (W:WfT ts) (hn:17<n) (hkg:H0 kg=none) (hr:H0 kr=some (.list (rowsF ts 0)))
    (q:∀ em kt ke kf ko gs kw fr fw wa lf lw H',H0.le H'→Made ts em kt ke kf ko kg gs kw fr fw wa lf lw H0 H'→Q .none H'):callN fdt n .gInit [.obj .grammar kg,.ref kr,.str (rn 0)] (H0.set kg (.ins [])) Q:=by
  have h4:=W.four
  have hpos:=W.pos
  -- start
  refine callS (by omega) rfl fun n en=>s_setAttrE (evE_ok (C:=callN fdt n) (.var 2) (v:=.str (rn 0)) rfl <| e_setAttr (c:=.grammar) (k:=kg) (l:=[]) rfl (Hp.set_self ..) (Nat.le_of_ble_eq_true rfl) ?_)
  rw [Hp.set_set]
  -- order
  refine s_setAttrE fun ko hko=>?_
  have hog:ko≠kg:=fun e=>by rw [e,Hp.set_self] at hko;cases hko
  have hko0:H0 ko=none:=(Hp.set_ne _ _ hog).symm.trans hko
  refine e_setAttr (c:=.grammar) (k:=kg) (l:=gf1) rfl ((Hp.set_ne _ _ fun e=>hog e.symm).trans (Hp.set_self ..)) (Nat.le_of_ble_eq_true rfl) ?_
  -- table
  refine s_setAttrE fun kt hkt=>?_
  have htg:kt≠kg:=fun e=>by rw [e,Hp.set_self] at hkt;cases hkt
  have hkt1:=(Hp.set_ne _ _ htg).symm.trans hkt
  have hto:kt≠ko:=fun e=>by rw [e,Hp.set_self] at hkt1;cases hkt1
  have hkt0:H0 kt=none:=(Hp.set_ne _ _ htg).symm.trans ((Hp.set_ne _ _ hto).symm.trans hkt1)
  refine e_setAttr (c:=.grammar) (k:=kg) (l:=gf2 ko) rfl ((Hp.set_ne _ _ fun e=>htg e.symm).trans (Hp.set_self ..)) (Nat.le_of_ble_eq_true (by kernel_rfl!)) ?_
  -- the loop
  have hle0:∀ {H1:Hp} {p:AO},H0.le H1→H0.le (H1.set kg p):=fun h=>le_set_ne h hkg
  have c1:=hle0 (p:=.ins (gf3 ko kt)) (le_set_ne (o:=.dS []) (hle0 (p:=.ins (gf2 ko)) (le_set_ne (o:=.list []) (hle0 (p:=.ins gf1) (Hp.le_refl _)) hko0)) hkt0)
  refine s_for (x:=.ref kr) (l:=rowsF ts 0) rfl (seq_of (c1 _ _ hr)) (gInit_loop h4 hr c1 hog htg hto hko0 hkt0 ts.length 0 rfl
    ⟨c1,Hp.set_self ..,(Hp.set_ne _ _ hog).trans ((Hp.set_ne _ _ fun e=>hto e.symm).trans ((Hp.set_ne _ _ hog).trans (Hp.set_self ..))),(Hp.set_ne _ _ htg).trans (Hp.set_self ..)⟩ fun v3 v4 H2 J=>?_)
  -- empty
  have jt:H2 kt=some (.dS (tabAV ts)):=J.t
  refine s_setAttrE <| e_call (C:=callN fdt n) (vs:=[.ref kt,.ref ko]) (evp_cons (v_attr rfl (at_obj J.g (by kernel_rfl!))) (evp_cons (v_attr rfl (at_obj J.g (by kernel_rfl!))) rfl)) (empty_rules_ok (fun j hj=>by have:=W.size j hj;omega) jt J.o (by omega) (fun ke em hke ew ec=>?_) (by omega))
  have k1:H2.le (H2.set ke (.dS em)):=Hp.le_set _ hke
  refine e_setAttr (c:=.grammar) (k:=kg) (l:=gf3 ko kt) rfl (k1 _ _ J.g) (Nat.le_of_ble_eq_true (by kernel_rfl!)) ?_
  have hg3:=k1 _ _ J.g
  generalize hH3:(H2.set ke (.dS em)).set kg (.ins (gf4 ko kt ke))=H3
  have l1:H0.le H3:=hH3▸hle0 (Hp.le_trans J.le k1)
  have l2:H3 kg=some (.ins (gf4 ko kt ke)):=hH3▸Hp.set_self ..
  have l3:H3 ko=some (.list (nmF 0 ts.length)):=hH3▸Hp.set_keep hg3 (k1 _ _ J.o) nofun
  have l4:H3 kt=some (.dS (tabAV ts)):=hH3▸Hp.set_keep hg3 (k1 _ _ jt) nofun
  have l5:H3 ke=some (.dS em):=hH3▸Hp.set_keep hg3 (Hp.set_self ..) nofun
  rw [show (H2.set ke (.dS em)).set kg (.ins (setK (gf3 ko kt) "empty" (.ref ke))) = H3 from hH3]
  clear hH3
  -- firsts
  refine s_setAttrE <| e_call (C:=callN fdt n) (vs:=[.ref kt,.ref ko,.ref ke]) (evp_cons (v_attr rfl (at_obj l2 (by kernel_rfl!))) (evp_cons (v_attr rfl (at_obj l2 (by kernel_rfl!))) (evp_cons (v_attr rfl (at_obj l2 (by kernel_rfl!))) rfl))) ?_
  obtain ⟨n,rfl⟩:∃ n',n=n'+1:=⟨n-1,by omega⟩
  refine first_rows_ok (fun j hj=>by have:=W.size j hj;omega) W.wf (fun i hi j h=>W.gt i hi j (top_in h)) l4 l3 l5 (by omega) (fun kf fr fa lf H4 F4 hfi=>?_) (by omega)
  have l6:=F4.le _ _ l2
  refine e_setAttr (c:=.grammar) (k:=kg) (l:=gf4 ko kt ke) rfl l6 (Nat.le_of_ble_eq_true (by kernel_rfl!)) ?_
  have GC5:GC ts em kt ke kf ko kg (gf5 ko kt ke kf) fr (Wf lf) (H4.set kg (.ins (gf5 ko kt ke kf))) :=
    ⟨(F4.gh l4 l5).setIns l6,Hp.set_keep l6 (F4.le _ _ l3) nofun,Hp.set_self ..,by kernel_rfl!,by kernel_rfl!,by kernel_rfl!,by kernel_rfl!,by kernel_rfl!,by kernel_rfl!,by kernel_rfl!,by kernel_rfl!⟩
  have m1:H0.le (H4.set kg (.ins (gf5 ko kt ke kf))):=hle0 (Hp.le_trans l1 F4.le)
  -- follows
  refine s_setAttrE <| e_call (C:=callN fdt (n+1)) (vs:=[.obj .grammar kg]) rfl (follow_rows_ok W GC5 (by omega) fun kw fw wa lw H5 F5 heof hfc=>?_)
  have n2:H5 kg=some (.ins (gf5 ko kt ke kf)):=F5.le _ _ (Hp.set_self ..)
  have GC6:=GC5.le F5.le
  exact e_setAttr (c:=.grammar) (k:=kg) (l:=gf5 ko kt ke kf) rfl n2 (Nat.le_of_ble_eq_true (by kernel_rfl!)) (s_nil (retI (q em kt ke kf ko (gf6 ko kt ke kf kw) kw fr fw wa lf lw _ (hle0 (Hp.le_trans m1 F5.le))
    ⟨⟨GC6.g.setIns n2,Hp.set_keep n2 GC6.ho nofun,Hp.set_self ..,by kernel_rfl!,by kernel_rfl!,by kernel_rfl!,by kernel_rfl!,by kernel_rfl!,by kernel_rfl!,by kernel_rfl!,by kernel_rfl!⟩,by kernel_rfl!,(F5.base m1).setIns n2 hkg,ew,ec,hfi,heof,hfc⟩)))
end LY.Internal
end

section
open PySem
namespace LY.Internal
variable {C:CallP} {m:Lo} {H:Hp} {ts:List Ex} {em:List (Str × AV)} {kt ke kf ko kg kw:Nat} {gs:List (Str × AV)} {fr fw:Nat→Nat} {Fi:Nat→Str→Prop}
noncomputable def LL1 (len:Nat) (em:List Str) (Fi:Nat→Str→Prop):Ex→(Str→Prop)→Prop
  | .text _,_=>True
  | .name _,_=>True
  | .eps,_=>True
  | .seq a b,S=>LL1 len em Fi a (pred len em Fi b S)∧LL1 len em Fi b S
  | .alt a b,S=>(∀ x,pred len em Fi a S x→¬ pred len em Fi b S x)∧LL1 len em Fi a S∧LL1 len em Fi b S
  | .opt a,S=>nul em a=false∧(∀ x,fst len em Fi a x→¬ S x)∧LL1 len em Fi a S
  | .rep a,S=>nul em a=false∧(∀ x,fst len em Fi a x→¬ S x)∧LL1 len em Fi a (pred len em Fi (.rep a) S)
theorem strsOf_mapP (u:List Str):strsOf (u.map .str)=some u:=by induction u with | nil=>rfl | cons i u ih=>exact congrArg (Option.map (i::·)) ih
theorem shared_ok {n ka kb:Nat} {la lb:List (Str × AV)} {S S':Str→Prop} {Q:QV} (hn:0<n) (ha:H ka=some (.dS la)) (hb:H kb=some (.dS lb)) (hS:Keys la S) (hS':Keys lb S') (hl:la.length≤11)
    (q:∀ r:List AV,(r.length=0→∀ x,S x→¬ S' x)→Q (.lst r) H):callN fdt n .shared [.ref ka,.ref kb] H Q:=by
  refine callS (by omega) rfl fun n en=>(s_retE ?_)
  refine ⟨ka,kb,la,lb,rfl,rfl,ha,hb,_,rfl,?_,Or.inr ⟨_,strsOf_mapP _,fun w hw=>retI (q _ fun h0 x hx hx'=>?_)⟩⟩
  · rw [List.length_map]
    have:=List.length_filter_le (fun x=>decide (x∈lb.map (·.1))) (la.map (·.1))
    rw [List.length_map] at this
    omega
  · have hin:x∈(la.map (·.1)).filter fun x=>decide (x∈lb.map (·.1)):=List.mem_filter.mpr ⟨(hS.2 x).mpr hx,decide_eq_true ((hS'.2 x).mpr hx')⟩
    have:=hw.length_eq
    rw [List.length_map] at h0
    rw [h0] at this
    rw [List.eq_nil_of_length_eq_zero this.symm] at hin
    cases hin
structure Fnd (kd:Nat) (l l':List AV) (c:Nat) (P:Prop) (H H':Hp):Prop where
  keep:∀ k o,k≠kd→H k=some o→H' k=some o
  at':H' kd=some (.list l')
  ge:l.length≤l'.length
  le:l'.length≤l.length+c
  ok:l'.length=l.length→P
theorem Fnd.base {kd:Nat} {l l':List AV} {c:Nat} {P:Prop} {H0 H H':Hp} (f:Fnd kd l l' c P H H') (h0:H0 kd=none) (h:H0.le H):H0.le H':=fun k o e=>f.keep k o (ne_of_some e h0) (h k o e)
theorem Fnd.push {kd:Nat} {l:List AV} {v:AV} {H H':Hp} {P:Prop} (h:H.le H'):Fnd kd l (l++[v]) 1 P H (H'.set kd (.list (l++[v]))) :=
  ⟨fun k o hk e=>(Hp.set_ne _ _ hk).trans (h k o e),Hp.set_self ..,by rw [List.length_append];exact Nat.le_add_right ..,Nat.le_of_eq List.length_append,fun e=>absurd (e.symm.trans List.length_append) (Nat.ne_of_lt (Nat.lt_succ_self _))⟩
theorem s_forRange {t:MT} {e:ME} {b:MSs} {ms:MSs} {Q:QF} {i:Int} (h:evE e m H=some (.int i)) (h0:0≤i) (hi:i≤999)
    (q:forL (vcSs C b) (fun _=>True) t (rangeL i) m H (kont (vcSs C ms) Q)):vcSs C (.cons (.forRange t e b) ms) m H Q :=
  evE_ok (C:=C) e h ⟨i,rfl,h0,by have:(cap:Int)=1000000:=rfl;omega,q⟩
theorem add_alt_ok {H0:Hp} {n ka kd:Nat} {a b:Ex} {la:List (Str × AV)} {S:Str→Prop} {l:List AV} {nm:AV} {Q:QV} (G:GC ts em kt ke kf ko kg gs fr Fi H0) (hd0:H0 kd=none) (hn:a.size+b.size+5<n) (hwa:WfE a) (hwb:WfE b)
    (hle:H0.le H) (ha:H ka=some (.dS la)) (hS:Keys la S) (hU:∀ x,S x→x∈U) (hd:H kd=some (.list l)) (hc:l.length≤999)
    (q:∀ v l' H',Fnd kd l l' 1 (∀ x,pred ts.length (ks em) Fi a S x→¬ pred ts.length (ks em) Fi b S x) H H'→Q v H'):callN fdt n .add_alternatives [.obj .grammar kg,nm,(Ex.alt a b).av,.ref ka,.ref kd] H Q:=by
  refine callS (by omega) rfl fun n en=>evE_ok (C:=callN fdt n) (.sub (.var 2) (.int 1)) (v:=.tup [a.av,b.av]) rfl ⟨Nat.le_of_ble_eq_true rfl,_,rfl,Nat.le_of_ble_eq_true rfl,?_⟩
  refine Or.inl ⟨rfl,e_meth (C:=callN fdt n) (c:=.grammar) (k:=kg) (fs:=gs) (x:=.obj .grammar kg) (vs:=[a.av,.ref ka]) rfl ⟨rfl,rfl,hle _ _ G.h,G.pred0⟩ rfl ?_⟩
  refine predict_ok (G.le hle) (by omega) hwa ha hS hU fun k1 H1 l1 hle1 hk1 hk1' hK1=>⟨Nat.le_of_ble_eq_true rfl,?_⟩
  have hleA:=Hp.le_trans hle hle1
  refine Or.inl ⟨rfl,e_meth (C:=callN fdt n) (c:=.grammar) (k:=kg) (fs:=gs) (x:=.obj .grammar kg) (vs:=[b.av,.ref ka]) rfl ⟨rfl,rfl,hleA _ _ G.h,G.pred0⟩ rfl ?_⟩
  refine predict_ok (G.le hleA) (by omega) hwb (hle1 _ _ ha) hS hU fun k2 H2 l2 hle2 hk2 hk2' hK2=>⟨Nat.le_of_ble_eq_true rfl,?_⟩
  have hle12:=Hp.le_trans hle1 hle2
  have hk1'':=hle2 _ _ hk1'
  refine ⟨Nat.le_of_ble_eq_true rfl,?_⟩
  refine s_forRange (i:=2) rfl (by decide) (by decide) ⟨trivial,_,rfl,?_⟩
  refine s_forRange (i:=0) rfl (by decide) (by decide) ⟨trivial,s_nil ⟨trivial,_,rfl,?_⟩⟩
  refine s_forRange (i:=1) rfl (by decide) (by decide) ⟨trivial,_,rfl,?_⟩
  refine s_assignE (e_call (C:=callN fdt n) (vs:=[.ref k1,.ref k2]) rfl (shared_ok (by omega) hk1'' hk2' hK1 hK2 (keys_len hK1 fun x hx=>pred_U (G.le hle).g hwa hU hx) fun r hr=>⟨Nat.le_of_ble_eq_true rfl,?_⟩))
  by_cases hlen:r.length=0
  · refine s_no (C:=callN fdt n) (v_cmp (v_len rfl rfl) rfl (no (by omega))) (s_nil ⟨trivial,s_nil ⟨trivial,retI (q _ l H2 ⟨fun k o _ e=>hle12 _ _ e,hle12 _ _ hd,Nat.le_refl _,by omega,fun _=>hr hlen⟩)⟩⟩)
  · refine s_ifT (C:=callN fdt n) (v_cmp (v_len rfl rfl) rfl (yes (by omega))) ?_
    refine s_exprE (e_append (k:=kd) (l:=l) rfl (hle12 _ _ hd) rfl (lt_cap (by omega)) (s_nil (s_nil ⟨trivial,s_nil ⟨trivial,retI (q _ _ _ (.push hle12))⟩⟩)))
theorem Fnd.trans {kd:Nat} {l l1 l2:List AV} {c1 c2:Nat} {P1 P2 P:Prop} {H H1 H2:Hp} (f1:Fnd kd l l1 c1 P1 H H1) (f2:Fnd kd l1 l2 c2 P2 H1 H2) (p:P1→P2→P):Fnd kd l l2 (c1+c2) P H H2:=by
  have a1:=f1.ge
  have a2:=f2.ge
  have a3:=f1.le
  have a4:=f2.le
  exact ⟨fun k o hk e=>f2.keep k o hk (f1.keep k o hk e),f2.at',by omega,by omega,fun e=>p (f1.ok (by omega)) (f2.ok (by omega))⟩
theorem Fnd.more {kd:Nat} {l l':List AV} {c c':Nat} {P:Prop} {H H':Hp} (f:Fnd kd l l' c P H H') (h:c≤c'):Fnd kd l l' c' P H H':=⟨f.keep,f.at',f.ge,by have:=f.le;omega,f.ok⟩
theorem Fnd.le' {kd:Nat} {l:List AV} {H H':Hp} {P:Prop} (hd:H kd=some (.list l)) (h:H.le H') (p:P):Fnd kd l l 0 P H H':=⟨fun k o _ e=>h k o e,h _ _ hd,Nat.le_refl _,Nat.le_refl _,fun _=>p⟩
end LY.Internal
end

section
open PySem
namespace LY.Internal
variable {C:CallP} {m:Lo} {H:Hp} {ts:List Ex} {em:List (Str × AV)} {kt ke kf ko kg kw:Nat} {gs fa wa:List (Str × AV)} {fr fw:Nat→Nat} {Fi:Nat→Str→Prop}
noncomputable def orp (r:Bool) (a:Ex):Ex:=if r=true then .rep a else .opt a
noncomputable def orpS (len:Nat) (em:List Str) (Fi:Nat→Str→Prop) (r:Bool) (a:Ex) (S:Str→Prop):Str→Prop:=if r=true then pred len em Fi (.rep a) S else S
theorem orp_LL1 {len:Nat} {em:List Str} {r:Bool} {a:Ex} {S:Str→Prop} (h1:nul em a=false) (h2:∀ x,fst len em Fi a x→¬ S x) (h3:LL1 len em Fi a (orpS len em Fi r a S)):LL1 len em Fi (orp r a) S:=by
  cases r
  · exact ⟨h1,h2,h3⟩
  · exact ⟨h1,h2,h3⟩
theorem find_orp {H0:Hp} {kd:Nat} (G:GC ts em kt ke kf ko kg gs fr Fi H0) (hd0:H0 kd=none) (r:Bool) (a:Ex) {H:Hp} {n ka:Nat} {la:List (Str × AV)} {S:Str→Prop} {l:List AV} {nm:AV} {Q:QV} (hn:a.size+7<n) (hw:WfE a) (hle:H0.le H) (ha:H ka=some (.dS la)) (hS:Keys la S) (hU:∀ x,S x→x∈U)
    (hd:H kd=some (.list l)) (hc:l.length+(2 * a.size+2)≤900)
    (ih:∀ {H:Hp} {n ka:Nat} {la:List (Str × AV)} {S:Str→Prop} {l:List AV} {Q:QV},a.size+6<n→H0.le H→H ka=some (.dS la)→Keys la S→(∀ x,S x→x∈U)→H kd=some (.list l)→l.length+2 * a.size≤900 →
      (∀ v l' H',Fnd kd l l' (2 * a.size) (LL1 ts.length (ks em) Fi a S) H H'→Q v H')→callN fdt n .find_conflicts [.obj .grammar kg,nm,a.av,.ref ka,.ref kd] H Q)
    (q:∀ v l' H',Fnd kd l l' (2 * a.size+2) (LL1 ts.length (ks em) Fi (orp r a) S) H H'→Q v H'):callN fdt n .find_conflicts [.obj .grammar kg,nm,(orp r a).av,.ref ka,.ref kd] H Q:=by
  have hav:(orp r a).av = .tup [.str (if r = true then "rep" else "opt"),a.av]:=by cases r <;> rfl
  rw [hav]
  refine callS (by omega) rfl fun n en=>(s_assign rfl rfl ?_)
  refine s_no (C:=callN fdt n) (by cases r <;> kernel_rfl!) ?_
  refine s_ifT (C:=callN fdt n) (by cases r <;> kernel_rfl!) ?_
  refine s_assign rfl rfl (s_assign (v:=.str (if r = true then "repetition" else "option")) (by cases r <;> kernel_rfl!) rfl ?_)
  refine s_ifR (e_meth (c:=.grammar) (k:=kg) (fs:=gs) (x:=.obj .grammar kg) (vs:=[a.av]) rfl ⟨rfl,rfl,hle _ _ G.h,G.nul0⟩ rfl (nullable_ok (G.le hle) (by omega) ?_))
  have hka:ka≠kd:=fun e=>by rw [e,hd] at ha;cases ha
  have step:∀ (H1:Hp) (l1:List AV),Fnd kd l l1 1 (nul (ks em) a=false) H H1→vcSs (callN fdt n)
      (.cons (.assign 8 (.call .shared (.cons (.meth .first (.var 0) (.cons (.var 6) .nil)) (.cons (.var 3) .nil))))
      (.cons (.ifs (.cmp .gt (.len (.var 8)) (.int 0)) (.cons (.expr (.append (.var 4) (.tup (.cons (.var 1) (.cons (.var 7) (.cons (.var 8) .nil)))))) .nil) .nil)
      (.cons (.assign 9 (.var 3))
      (.cons (.ifs (.cmp .eq (.var 5) (.str "rep")) (.cons (.assign 9 (.meth .predict (.var 0) (.cons (.var 2) (.cons (.var 3) .nil)))) .nil) .nil)
      (.cons (.expr (.call .find_conflicts (.cons (.var 0) (.cons (.var 1) (.cons (.var 6) (.cons (.var 9) (.cons (.var 4) .nil)))))))
      (.cons .retNone .nil))))))
      [some (.obj .grammar kg), some nm, some (.tup [.str (if r = true then "rep" else "opt"), a.av]), some (.ref ka), some (.ref kd), some (.str (if r = true then "rep" else "opt")), some a.av, some (.str (if r = true then "repetition" else "option")), none, none, none] H1
      (kont (vcSs (callN fdt n) .nil) (retK Q)):=by
    intro H1 l1 f1
    have hle1:=f1.base hd0 hle
    have a1:=f1.ge
    have a2:=f1.le
    refine s_assignE (e_callE (es_cons (e_meth (c:=.grammar) (k:=kg) (fs:=gs) (x:=.obj .grammar kg) (vs:=[a.av]) rfl ⟨rfl,rfl,hle1 _ _ G.h,G.fst0⟩ rfl ?_)))
    refine firstm_ok (G.le hle1) (by omega) hw fun k2 H2 l2 hle2 hk2 _ hK2=>es_cons (evE_ok (C:=callN fdt n) (.var 3) (v:=.ref ka) rfl (es_nil ?_))
    have f2:Fnd kd l1 l1 0 True H1 H2:=Fnd.le' f1.at' hle2 trivial
    refine shared_ok (by omega) hk2 (hle2 _ _ (f1.keep _ _ hka ha)) hK2 hS (keys_len hK2 fun x hx=>fst_U G.g.hU a hw x hx) fun rr hr=>⟨Nat.le_of_ble_eq_true rfl,?_⟩
    have tail:∀ (H3:Hp) (l3:List AV),Fnd kd l1 l3 1 (∀ x,fst ts.length (ks em) Fi a x→¬ S x) H2 H3→vcSs (callN fdt n)
        (.cons (.assign 9 (.var 3))
        (.cons (.ifs (.cmp .eq (.var 5) (.str "rep")) (.cons (.assign 9 (.meth .predict (.var 0) (.cons (.var 2) (.cons (.var 3) .nil)))) .nil) .nil)
        (.cons (.expr (.call .find_conflicts (.cons (.var 0) (.cons (.var 1) (.cons (.var 6) (.cons (.var 9) (.cons (.var 4) .nil)))))))
        (.cons .retNone .nil))))
        [some (.obj .grammar kg), some nm, some (.tup [.str (if r = true then "rep" else "opt"), a.av]), some (.ref ka), some (.ref kd), some (.str (if r = true then "rep" else "opt")), some a.av, some (.str (if r = true then "repetition" else "option")), some (.lst rr), none, none] H3
        (kont (vcSs (callN fdt n) .nil) (retK Q)):=by
      intro H3 l3 f3
      have hle3:=f3.base hd0 (f2.base hd0 hle1)
      have ha3:H3 ka=some (.dS la):=f3.keep _ _ hka (f2.keep _ _ hka (f1.keep _ _ hka ha))
      have b1:=f3.ge
      have b2:=f3.le
      refine s_assign rfl rfl ?_
      have fin:∀ (H4:Hp) (v8:Option AV) (kb:Nat) (lb:List (Str × AV)),H3.le H4→H4 kb=some (.dS lb)→Keys lb (orpS ts.length (ks em) Fi r a S)→vcSs (callN fdt n)
          (.cons (.expr (.call .find_conflicts (.cons (.var 0) (.cons (.var 1) (.cons (.var 6) (.cons (.var 9) (.cons (.var 4) .nil)))))))
          (.cons .retNone .nil))
          [some (.obj .grammar kg), some nm, some (.tup [.str (if r = true then "rep" else "opt"), a.av]), some (.ref ka), some (.ref kd), some (.str (if r = true then "rep" else "opt")), some a.av, some (.str (if r = true then "repetition" else "option")), v8, some (.ref kb), none] H4
          (kont (vcSs (callN fdt n) .nil) (retK Q)):=by
        intro H4 v8 kb lb hle4 hkb hKb
        have f4:Fnd kd l3 l3 0 True H3 H4:=Fnd.le' f3.at' hle4 trivial
        refine s_exprE (e_call (C:=callN fdt n) (vs:=[.obj .grammar kg,nm,a.av,.ref kb,.ref kd]) rfl ?_)
        refine ih (by omega) (f4.base hd0 hle3) hkb hKb (fun x hx=>?_) f4.at' (by omega) fun v l5 H5 f5=>?_
        · cases r
          · exact hU x hx
          · exact pred_U G.g (e:=.rep a) hw hU hx
        · refine retI (Q:=Q) (q _ l5 H5 ?_)
          have:=((((f1.trans f2 (P:=nul (ks em) a=false) (fun p _=>p)).trans f3 (P:=nul (ks em) a=false∧∀ x,fst ts.length (ks em) Fi a x→¬ S x) (fun p q=>⟨p,q⟩)).trans f4 (fun p _=>p)).trans f5 (P:=LL1 ts.length (ks em) Fi (orp r a) S) (fun p q=>orp_LL1 p.1 p.2 q))
          exact this.more (by omega)
      cases r
      · exact s_no (C:=callN fdt n) (by kernel_rfl!) (fin H3 _ ka la (Hp.le_refl _) ha3 hS)
      · refine s_ifT (C:=callN fdt n) (by kernel_rfl!) (s_assignE (e_meth (C:=callN fdt n) (c:=.grammar) (k:=kg) (fs:=gs) (x:=.obj .grammar kg) (vs:=[(Ex.rep a).av,.ref ka]) rfl ⟨rfl,rfl,hle3 _ _ G.h,G.pred0⟩ rfl ?_))
        refine predict_ok (e:=.rep a) (G.le hle3) (by dsimp only [zr];omega) hw ha3 hS hU fun k4 H4 l4 hle4 hk4 hk4' hK4=>⟨Nat.le_of_ble_eq_true rfl,s_nil (fin H4 _ k4 l4 hle4 hk4' hK4)⟩
    by_cases hlen:rr.length=0
    · refine s_no (C:=callN fdt n) (v_cmp (v_len rfl rfl) rfl (no (by omega))) (tail H2 l1 ((Fnd.le' f2.at' (Hp.le_refl _) (hr hlen)).more (by omega)))
    · refine s_ifT (C:=callN fdt n) (v_cmp (v_len rfl rfl) rfl (yes (by omega))) ?_
      exact s_exprE (e_append (k:=kd) (l:=l1) (v:=.tup [nm,.str (if r = true then "repetition" else "option"),.lst rr]) rfl f2.at' rfl (lt_cap (by omega)) (s_nil (tail _ _ (Fnd.push (Hp.le_refl _)))))
  cases hnul:nul (ks em) a with
  | true => exact Or.inl ⟨rfl,s_exprE (e_append (C:=callN fdt n) (k:=kd) (l:=l) (v:=.tup [nm,.str "empty",.lst []]) rfl hd rfl (lt_cap (by omega)) (s_nil (step _ _ (Fnd.push (Hp.le_refl _)))))⟩
  | false=>exact Or.inr ⟨rfl,s_nil (step H l ((Fnd.le' hd (Hp.le_refl _) hnul).more (by omega)))⟩
end LY.Internal
end

section
open PySem
namespace LY.Internal
variable {C:CallP} {m:Lo} {H:Hp} {ts:List Ex} {em:List (Str × AV)} {kt ke kf ko kg kw:Nat} {gs fa wa:List (Str × AV)} {fr fw:Nat→Nat} {Fi:Nat→Str→Prop}
theorem find_ok {H0:Hp} {kd:Nat} {nm:AV} (G:GC ts em kt ke kf ko kg gs fr Fi H0) (hd0:H0 kd=none):∀ (e:Ex) {H:Hp} {n ka:Nat} {la:List (Str × AV)} {S:Str→Prop} {l:List AV} {Q:QV},e.size+6<n→WfE e→H0.le H→H ka=some (.dS la)→Keys la S→(∀ x,S x→x∈U) →
    H kd=some (.list l)→l.length+2 * e.size≤900→(∀ v l' H',Fnd kd l l' (2 * e.size) (LL1 ts.length (ks em) Fi e S) H H'→Q v H')→callN fdt n .find_conflicts [.obj .grammar kg,nm,e.av,.ref ka,.ref kd] H Q:=by
  intro e
  induction e with
  | text s =>
    intro H n ka la S l Q hn hw hle ha hS hU hd hc q
    refine callS (by omega) rfl fun n en=>(s_assign rfl rfl (s_ifT (by kernel_rfl!) ?_))
    exact retI (Q:=Q) (q _ l H ((Fnd.le' hd (Hp.le_refl _) trivial).more (by omega)))
  | name j =>
    intro H n ka la S l Q hn hw hle ha hS hU hd hc q
    refine callS (by omega) rfl fun n en=>(s_assign rfl rfl (s_ifT (by kernel_rfl!) ?_))
    exact retI (Q:=Q) (q _ l H ((Fnd.le' hd (Hp.le_refl _) trivial).more (by omega)))
  | eps =>
    intro H n ka la S l Q hn hw hle ha hS hU hd hc q
    refine callS (by omega) rfl fun n en=>(s_assign rfl rfl (s_no (by kernel_rfl!) (s_no (by kernel_rfl!) (s_no (by kernel_rfl!) ?_))))
    refine e_call (C:=callN fdt n) (vs:=[.obj .grammar kg,Ex.eps.av,.ref ka]) rfl (parts_eps (by omega) fun kl H1 hle1 hkl hkl'=>⟨[],seq_of hkl',rfl,s_nil (retI (Q:=Q) (q _ l H1 ((Fnd.le' hd hle1 trivial).more (by omega))))⟩)
  | seq a b iha ihb =>
    intro H n ka la S l Q hn hw hle ha hS hU hd hc q
    dsimp only [zs] at hn hc
    refine callS (by omega) rfl fun n en=>(s_assign rfl rfl (s_no (by kernel_rfl!) (s_no (by kernel_rfl!) (s_no (by kernel_rfl!) ?_))))
    have GH:=G.le hle
    refine e_call (C:=callN fdt n) (vs:=[.obj .grammar kg,(Ex.seq a b).av,.ref ka]) rfl (parts_seq GH (by omega) hw.1 hw.2 ha hS hU fun kl k1 l1 H1 hle1 hkl hk1 hk1' hK1 hkl'=>⟨[.tup [a.av,.ref k1],.tup [b.av,.ref ka]],seq_of hkl',rfl,_,rfl,?_⟩)
    have f1:Fnd kd l l 0 True H H1:=Fnd.le' hd hle1 trivial
    have hka:ka≠kd:=fun e=>by rw [e,hd] at ha;cases ha
    have hkld:kl≠kd:=fun e=>by rw [e,hd] at hkl;cases hkl
    refine s_exprE (e_call (vs:=[.obj .grammar kg,nm,a.av,.ref k1,.ref kd]) rfl (iha (by omega) hw.1 (f1.base hd0 hle) hk1' hK1 (fun x hx=>pred_U GH.g hw.2 hU hx) f1.at' (by omega) fun v l2 H2 f2=>?_))
    have c1:=f2.le
    have h12:=f2.base hd0 (f1.base hd0 hle)
    refine s_nil ⟨(f2.keep _ _ hkld hkl').trans hkl'.symm,_,rfl,?_⟩
    refine s_exprE (e_call (vs:=[.obj .grammar kg,nm,b.av,.ref ka,.ref kd]) rfl (ihb (by omega) hw.2 h12 (f2.keep _ _ hka (hle1 _ _ ha)) hS hU f2.at' (by omega) fun v l3 H3 f3=>?_))
    refine s_nil ⟨(f3.keep _ _ hkld (f2.keep _ _ hkld hkl')).trans hkl'.symm,s_nil (retI (Q:=Q) (q _ l3 H3 ?_))⟩
    exact ((f1.trans f2 (fun _ p=>p)).trans f3 (P:=LL1 ts.length (ks em) Fi (.seq a b) S) (fun p q=>⟨p,q⟩)).more (by dsimp only [zs];omega)
  | alt a b iha ihb =>
    intro H n ka la S l Q hn hw hle ha hS hU hd hc q
    dsimp only [za] at hn hc
    refine callS (by omega) rfl fun n en=>(s_assign rfl rfl (s_no (by kernel_rfl!) (s_no (by kernel_rfl!) (s_ifT (by kernel_rfl!) ?_))))
    refine s_exprE (e_call (C:=callN fdt n) (vs:=[.obj .grammar kg,nm,(Ex.alt a b).av,.ref ka,.ref kd]) rfl (add_alt_ok G hd0 (by omega) hw.1 hw.2 hle ha hS hU hd (by omega) fun v l1 H1 f1=>s_nil ?_))
    have hka:ka≠kd:=fun e=>by rw [e,hd] at ha;cases ha
    have d1:=f1.le
    refine e_call (C:=callN fdt n) (vs:=[.obj .grammar kg,(Ex.alt a b).av,.ref ka]) rfl (parts_alt (by omega) fun kl H2 hle2 hkl hkl'=>⟨[.tup [a.av,.ref ka],.tup [b.av,.ref ka]],seq_of hkl',rfl,_,rfl,?_⟩)
    have f2:Fnd kd l1 l1 0 True H1 H2:=Fnd.le' f1.at' hle2 trivial
    have hkld:kl≠kd:=fun e=>by rw [e,f1.at'] at hkl;cases hkl
    have hb2:=f2.base hd0 (f1.base hd0 hle)
    have ha2:=f2.keep _ _ hka (f1.keep _ _ hka ha)
    refine s_exprE (e_call (vs:=[.obj .grammar kg,nm,a.av,.ref ka,.ref kd]) rfl (iha (by omega) hw.1 hb2 ha2 hS hU f2.at' (by omega) fun v l3 H3 f3=>?_))
    have c1:=f3.le
    refine s_nil ⟨(f3.keep _ _ hkld hkl').trans hkl'.symm,_,rfl,?_⟩
    refine s_exprE (e_call (vs:=[.obj .grammar kg,nm,b.av,.ref ka,.ref kd]) rfl (ihb (by omega) hw.2 (f3.base hd0 hb2) (f3.keep _ _ hka ha2) hS hU f3.at' (by omega) fun v l4 H4 f4=>?_))
    refine s_nil ⟨(f4.keep _ _ hkld (f3.keep _ _ hkld hkl')).trans hkl'.symm,s_nil (retI (Q:=Q) (q _ l4 H4 ?_))⟩
    exact (((f1.trans f2 (fun p _=>p)).trans f3 (fun p q=>And.intro p q)).trans f4 (P:=LL1 ts.length (ks em) Fi (.alt a b) S) (fun p q=>⟨p.1,p.2,q⟩)).more (by dsimp only [za];omega)
  | opt a ih =>
    intro H n ka la S l Q hn hw hle ha hS hU hd hc q
    dsimp only [zo] at hn hc
    exact find_orp G hd0 false a (by omega) hw hle ha hS hU hd (by omega) (fun h1 h2 h3 h4 h5 h6 h7 q=>ih h1 hw h2 h3 h4 h5 h6 h7 q) fun v l' H' f=>q v l' H' (f.more (by dsimp only [zo];omega))
  | rep a ih =>
    intro H n ka la S l Q hn hw hle ha hS hU hd hc q
    dsimp only [zr] at hn hc
    exact find_orp G hd0 true a (by omega) hw hle ha hS hU hd (by omega) (fun h1 h2 h3 h4 h5 h6 h7 q=>ih h1 hw h2 h3 h4 h5 h6 h7 q) fun v l' H' f=>q v l' H' (f.more (by dsimp only [zr];omega))
inductive CfJ (ts:List Ex) (em:List (Str × AV)) (kg k:Nat) (lf lw:Nat→List (Str × AV)) (H:Hp) (i:Nat):Lo→Hp→Prop
  | mk {l v2 Hc} (hle:H.le Hc) (hd:Hc k=some (.list l)) (hlen:l.length≤14 * i) (hll:l=[]→∀ j,j<i→LL1 ts.length (ks em) (Wf lf) (T ts j) (Wf lw j)):CfJ ts em kg k lf lw H i [some (.obj .grammar kg),some (.ref k),v2] Hc
theorem conflicts_ok {n:Nat} {lf lw:Nat→List (Str × AV)} {H0:Hp} {Q:QV} (W:WfT ts) (M:Made ts em kt ke kf ko kg gs kw fr fw wa lf lw H0 H) (hn:14<n)
    (q:∀ k l H',H.le H'→H' k=some (.list l)→(l=[]→∀ i,i<ts.length→LL1 ts.length (ks em) (Wf lf) (T ts i) (Wf lw i))→Q (.ref k) H'):callN fdt n .conflicts [.obj .grammar kg] H Q:=by
  have h4:=W.four
  refine callS (by omega) rfl fun n en=>(s_assignE fun k hk=>⟨Nat.le_of_ble_eq_true rfl,?_⟩)
  have hle0:=Hp.le_set (.list []) hk
  refine s_forNames (ko:=ko) (len:=ts.length) ((M.G.le hle0).at rfl M.G.order) (hle0 _ _ M.G.ho) (CfJ ts em kg k lf lw H) ?_ ?_ (.mk hle0 (Hp.set_self ..) (Nat.le_refl _) fun _ j hj=>absurd hj (Nat.not_lt_zero _)) ?_
  · rintro i m _ ⟨hle⟩
    exact hle _ _ M.G.ho
  · rintro i _ _ hi @⟨l,v2,Hc,hle,hd,hlen,hll⟩
    have hsz:=W.size i hi
    have G':=M.G.le hle
    refine ⟨Nat.le_of_ble_eq_true rfl,s_exprE (e_call (vs:=[.obj .grammar kg,.str (rn i),(T ts i).av,.ref (fw i),.ref k])
      (evp_cons rfl (evp_cons rfl (evp_cons (v_sub (G'.at rfl G'.table) rfl (at_dS G'.g.ht (tab_get hi))) (evp_cons (v_sub (G'.at rfl M.hw) rfl (at_dS (hle _ _ M.F.hfa) (M.F.hfr i hi))) (evp_cons rfl rfl))))) ?_)⟩
    refine find_ok (H0:=H) M.G hk (T ts i) (by omega) (W.wf i hi) hle (hle _ _ (M.F.hr i hi)) (S:=Wf lw i) ⟨M.F.nd i hi,fun _=>Iff.rfl⟩ (fun x hx=>M.F.hU i x hi hx) hd (by omega) fun v l' H' f=>s_nil ?_
    refine .mk (f.base hk hle) f.at' (by have:=f.le;omega) fun e j hj=>?_
    subst e
    have:l=[]:=List.eq_nil_of_length_eq_zero (Nat.le_zero.mp f.ge)
    subst this
    by_cases hji:j=i
    · subst hji;exact f.ok rfl
    · exact hll rfl j (by omega)
  · rintro _ _ @⟨l,v2,Hc,hle,hd,hlen,hll⟩
    exact s_ret (v:=.ref k) rfl (retI (q k l _ hle hd hll))
end LY.Internal
end

section
open PySem
set_option genInjectivity false
namespace LY.Internal
set_option genCtorIdx false
inductive Kd | leaf (t:Str) (p:Nat) | node (j:Nat) (l:List Kd)
noncomputable def Kd.ctorIdx (x:Kd):Nat:=x.casesOn (fun _ _=>0) (fun _ _=>1)
mutual
noncomputable def Kd.av:Kd→AV
  | .leaf t p=>.tup [.str t,.int p]
  | .node j l=>.tup [.str (rn j),.tup (Kd.avs l)]
noncomputable def Kd.avs:List Kd→List AV
  | []=>[]
  | k::l=>k.av::Kd.avs l
end
mutual
noncomputable def Kd.toks:Kd→List Str
  | .leaf t _=>[t]
  | .node _ l=>Kd.tokss l
noncomputable def Kd.tokss:List Kd→List Str
  | []=>[]
  | k::l=>k.toks++Kd.tokss l
end
mutual
noncomputable def Kd.sz:Kd→Nat
  | .leaf _ _=>1
  | .node _ l=>1+Kd.szs l
noncomputable def Kd.szs:List Kd→Nat
  | []=>0
  | k::l=>k.sz+Kd.szs l
end
noncomputable def Kd.nm:Kd→Str
  | .leaf t _=>t
  | .node j _=>rn j
noncomputable def Kd.isLeaf:Kd→Bool
  | .leaf _ _=>true
  | .node _ _=>false
theorem avs_map:∀ l,Kd.avs l=l.map Kd.av
  | []=>rfl
  | k::l=>congrArg (k.av::·) (avs_map l)
theorem tokss_app:∀ l l',Kd.tokss (l++l')=Kd.tokss l++Kd.tokss l'
  | [],_=>rfl
  | k::l,l'=>(congrArg (k.toks++·) (tokss_app l l')).trans (List.append_assoc ..).symm
theorem szs_app:∀ l l',Kd.szs (l++l')=Kd.szs l+Kd.szs l'
  | [],_=>(Nat.zero_add _).symm
  | k::l,l'=>(congrArg (k.sz+·) (szs_app l l')).trans (Nat.add_assoc ..).symm
inductive Out | ok (l:List Kd) (p:Nat) | bad (p:Nat)
noncomputable def Out.ctorIdx (x:Out):Nat:=x.casesOn (fun _ _=>0) (fun _=>1)
noncomputable def Out.pos:Out→Nat
  | .ok _ p=>p
  | .bad p=>p
theorem po {l:List Kd} {p:Nat}:(Out.ok l p).pos=p:=rfl
theorem pb {p:Nat}:(Out.bad p).pos=p:=rfl
noncomputable def Out.pre (l:List Kd):Out→Out
  | .ok l' p=>.ok (l++l') p
  | .bad p=>.bad p
noncomputable def Out.nd (j:Nat):Out→Out
  | .ok l p=>.ok [.node j l] p
  | .bad p=>.bad p
theorem Out.pre_pos (l:List Kd) (o:Out):(o.pre l).pos=o.pos:=by cases o <;> rfl
theorem Out.nd_pos (j:Nat) (o:Out):(o.nd j).pos=o.pos:=by cases o <;> rfl
noncomputable def tk (row:List Str) (p:Nat):Str:=(row[p]?).getD "eof"
section
variable (ts:List Ex) (em:List Str) (Fi:Nat→Str→Prop) (row:List Str)
noncomputable def pickA (a b:Ex) (t:Str):Prop:=fst ts.length em Fi a t∨(¬ fst ts.length em Fi b t∧nul em a=true)
noncomputable def pickB (a b:Ex) (t:Str):Prop:=¬ fst ts.length em Fi a t∧(fst ts.length em Fi b t∨(nul em a=false∧nul em b=true))
inductive Run:Ex→Nat→Out→Nat→Prop
  | tok {e p}:isTok ts.length e=true→tk row p=tokS e→Run e p (.ok [.leaf (tokS e) p] (p+1)) 1
  | tokBad {e p}:isTok ts.length e=true→tk row p≠tokS e→Run e p (.bad p) 1
  | name {j p o c}:j<ts.length→Run (T ts j) p o c→Run (.name j) p (o.nd j) (c+2)
  | eps {p}:Run .eps p (.ok [] p) 1
  | seq {a b p la q ca o cb}:Run a p (.ok la q) ca→Run b q o cb→Run (.seq a b) p (o.pre la) (1+ca+cb)
  | seqBad {a b p q ca}:Run a p (.bad q) ca→Run (.seq a b) p (.bad q) (1+ca)
  | altA {a b p o c}:pickA ts em Fi a b (tk row p)→Run a p o c→Run (.alt a b) p o (1+c)
  | altB {a b p o c}:pickB ts em Fi a b (tk row p)→Run b p o c→Run (.alt a b) p o (1+c)
  | altBad {a b p}:¬ fst ts.length em Fi a (tk row p)→¬ fst ts.length em Fi b (tk row p)→nul em a=false→nul em b=false→Run (.alt a b) p (.bad p) 1
  | opt1 {a p o c}:fst ts.length em Fi a (tk row p)→Run a p o c→Run (.opt a) p o (1+c)
  | opt0 {a p}:¬ fst ts.length em Fi a (tk row p)→Run (.opt a) p (.ok [] p) 1
  | rep1 {a p la q ca o cb}:fst ts.length em Fi a (tk row p)→Run a p (.ok la q) ca→Run (.rep a) q o cb→Run (.rep a) p (o.pre la) (1+ca+cb)
  | repBad {a p q ca}:fst ts.length em Fi a (tk row p)→Run a p (.bad q) ca→Run (.rep a) p (.bad q) (1+ca)
  | rep0 {a p}:¬ fst ts.length em Fi a (tk row p)→Run (.rep a) p (.ok [] p) 1
end
structure Lang (ts:List Ex) (em:List Str) (Fi:Nat→Str→Prop):Prop where
  W:WfT ts
  em1:∀ j,rn j∈em→j<ts.length
  em2:∀ j,j<ts.length→(rn j∈em ↔ nul em (T ts j)=true)
  fi:∀ j x,j<ts.length→(Fi j x ↔ fst ts.length em Fi (T ts j) x)
theorem ex_ind {ts:List Ex} (W:WfT ts) {P:Ex→Prop} (text:∀ s,P (.text s)) (tokn:∀ j,¬ j<ts.length→P (.name j)) (name:∀ j,j<ts.length→P (T ts j)→P (.name j)) (eps:P .eps)
    (seq:∀ a b,P a→P b→P (.seq a b)) (alt:∀ a b,P a→P b→P (.alt a b)) (opt:∀ a,P a→P (.opt a)) (rep:∀ a,P a→P (.rep a)):∀ e,P e:=by
  have body:∀ r,(∀ j,j<ts.length→r≤j→P (T ts j))→∀ e,(∀ j,NameIn j e→r≤j)→P e:=by
    intro r hr e
    induction e with
    | text s=>exact fun _=>text s
    | name j =>
      intro h
      by_cases hj:j<ts.length
      · exact name j hj (hr j hj (h j rfl))
      · exact tokn j hj
    | eps=>exact fun _=>eps
    | seq a b iha ihb=>exact fun h=>seq a b (iha fun j hj=>h j (Or.inl hj)) (ihb fun j hj=>h j (Or.inr hj))
    | alt a b iha ihb=>exact fun h=>alt a b (iha fun j hj=>h j (Or.inl hj)) (ihb fun j hj=>h j (Or.inr hj))
    | opt a ih=>exact fun h=>opt a (ih h)
    | rep a ih=>exact fun h=>rep a (ih h)
  have key:∀ d r,ts.length≤r+d→∀ j,j<ts.length→r≤j→P (T ts j):=fun d=>by
    induction d with
    | zero=>exact fun _ hd _ hj hr=>absurd (Nat.lt_of_lt_of_le hj hd) (Nat.not_lt.mpr hr)
    | succ d ih=>exact fun r hd j hj hr=>body (r+1) (ih (r+1) (Nat.le_trans hd (Nat.le_of_eq (Nat.add_right_comm r d 1)))) _ fun i hi=>Nat.lt_of_le_of_lt hr (W.gt j hj i hi)
  exact fun e=>body 0 (key ts.length 0 (Nat.le_of_eq (Nat.zero_add _).symm)) e fun _ _=>Nat.zero_le _
section
variable {ts:List Ex} {em:List Str} {Fi:Nat→Str→Prop} {row:List Str}
theorem tokN {len j:Nat} (h:isTok len (.name j)=true):¬ j<len:=fun hj=>by
  rw [show isTok len (.name j) = !decide (j<len) from rfl,decide_eq_true hj] at h;cases h
theorem tokI {len j:Nat} (h:¬ j<len):isTok len (.name j)=true:=congrArg (!·) (decide_eq_false h)
theorem fst_tok (e:Ex) (h:isTok ts.length e=true) (x:Str):fst ts.length em Fi e x ↔ x=tokS e:=by
  cases e with
  | text s=>exact Iff.rfl
  | name j=>exact iff_of_eq (if_neg (tokN h))
  | _=>cases h
theorem nul_tok (L:Lang ts em Fi) (e:Ex) (h:isTok ts.length e=true):nul em e=false:=by
  cases e with
  | text s=>rfl
  | name j=>exact decide_eq_false fun hm=>tokN h (L.em1 j hm)
  | _=>cases h
theorem run_move (L:Lang ts em Fi) {e:Ex} {p:Nat} {o:Out} {c:Nat} (r:Run ts em Fi row e p o c) :
    p≤o.pos∧(fst ts.length em Fi e (tk row p)→p<o.pos)∧(¬ fst ts.length em Fi e (tk row p)→o.pos=p∧(nul em e=true→∃ l,o=.ok l p)∧(nul em e=false→o=.bad p)):=by
  induction r with
  | tok h1 h2=>exact ⟨Nat.le_succ _,fun _=>Nat.lt_succ_self _,fun h=>absurd ((fst_tok _ h1 _).mpr h2) h⟩
  | tokBad h1 h2=>exact ⟨Nat.le_refl _,fun h=>absurd ((fst_tok _ h1 _).mp h) h2,fun _=>⟨rfl,(fun h=>by rw [nul_tok L _ h1] at h;cases h),fun _=>rfl⟩⟩
  | @name j p o c hj _ ih =>
    obtain ⟨i1,i2,i3⟩:=ih
    have hf:fst ts.length em Fi (.name j) (tk row p) ↔ fst ts.length em Fi (T ts j) (tk row p):=by
      rw [← L.fi j _ hj];exact iff_of_eq (if_pos hj)
    have hn:nul em (.name j)=nul em (T ts j):=by
      rw [Bool.eq_iff_iff,← L.em2 j hj];exact decide_eq_true_iff
    rw [Out.nd_pos,hf,hn]
    refine ⟨i1,i2,fun h=>⟨(i3 h).1,fun h'=>?_,fun h'=>?_⟩⟩
    · obtain ⟨l,rfl⟩:=(i3 h).2.1 h'
      exact ⟨_,rfl⟩
    · rw [(i3 h).2.2 h'];rfl
  | eps=>exact ⟨Nat.le_refl _,fun h=>h.elim,fun _=>⟨rfl,(fun _=>⟨_,rfl⟩),nofun⟩⟩
  | @seq a b p la q ca o cb _ _ iha ihb =>
    obtain ⟨a1,a2,a3⟩:=iha
    obtain ⟨b1,b2,b3⟩:=ihb
    dsimp only [po,pb] at a1 a2 a3
    rw [Out.pre_pos]
    refine ⟨by omega,fun h=>?_,fun h=>?_⟩
    · rcases h with h | ⟨hn,h⟩
      · have:=a2 h;omega
      · by_cases h':fst ts.length em Fi a (tk row p)
        · have:=a2 h';omega
        · have e:=(a3 h').1
          rw [e] at b2
          have:=b2 h
          omega
    · have ha:¬ fst ts.length em Fi a (tk row p):=fun x=>h (Or.inl x)
      have e:=(a3 ha).1
      subst e
      cases hna:nul em a with
      | true =>
        have hb:¬ fst ts.length em Fi b (tk row q):=fun x=>h (Or.inr ⟨hna,x⟩)
        refine ⟨(b3 hb).1,fun hn=>?_,fun hn=>?_⟩
        · obtain ⟨l,rfl⟩:=(b3 hb).2.1 (Bool.and_eq_true_iff.mp hn).2
          exact ⟨_,rfl⟩
        · rw [(b3 hb).2.2 (by rw [show nul em (.seq a b)=(nul em a && nul em b) from rfl,hna] at hn;exact hn)];rfl
      | false =>
        have:=(a3 ha).2.2 hna
        cases this
  | @seqBad a b p q ca _ iha =>
    obtain ⟨a1,a2,a3⟩:=iha
    dsimp only [po,pb] at a1 a2 a3 ⊢
    refine ⟨a1,fun h=>?_,fun h=>?_⟩
    · rcases h with h | ⟨hn,h⟩
      · exact a2 h
      · by_cases h':fst ts.length em Fi a (tk row p)
        · exact a2 h'
        · obtain ⟨l,e⟩:=(a3 h').2.1 hn
          cases e
    · have ha:¬ fst ts.length em Fi a (tk row p):=fun x=>h (Or.inl x)
      refine ⟨(a3 ha).1,(fun hn=>?_),fun _=>by rw [(a3 ha).1]⟩
      obtain ⟨l,e⟩:=(a3 ha).2.1 (Bool.and_eq_true_iff.mp hn).1
      cases e
  | @altA a b p o c hp _ ih =>
    obtain ⟨a1,a2,a3⟩:=ih
    refine ⟨a1,fun h=>?_,fun h=>?_⟩
    · rcases hp with hp | hp
      · exact a2 hp
      · rcases h with h | h
        · exact a2 h
        · exact absurd h hp.1
    · rcases hp with hp | hp
      · exact absurd (Or.inl hp) h
      · have:=a3 fun x=>h (Or.inl x)
        exact ⟨this.1,(fun _=>this.2.1 hp.2),fun hn=>nomatch hp.2.symm.trans (Bool.or_eq_false_iff.mp hn).1⟩
  | @altB a b p o c hp _ ih =>
    obtain ⟨a1,a2,a3⟩:=ih
    refine ⟨a1,fun h=>?_,fun h=>?_⟩
    · rcases h with h | h
      · exact absurd h hp.1
      · exact a2 h
    · have hb:¬ fst ts.length em Fi b (tk row p):=fun x=>h (Or.inr x)
      have:=a3 hb
      rcases hp.2 with hp | hp
      · exact absurd hp hb
      · exact ⟨this.1,(fun _=>this.2.1 hp.2),fun hn=>nomatch hp.2.symm.trans (Bool.or_eq_false_iff.mp hn).2⟩
  | altBad h1 h2 h3 h4=>exact ⟨Nat.le_refl _,fun h=>h.elim (fun h=>absurd h h1) (fun h=>absurd h h2),fun _=>⟨rfl,(fun h=>(Bool.or_eq_true_iff.mp h).elim (fun h=>nomatch h3.symm.trans h) fun h=>nomatch h4.symm.trans h),fun _=>rfl⟩⟩
  | opt1 h _ ih=>exact ⟨ih.1,fun _=>ih.2.1 h,fun h'=>absurd h h'⟩
  | opt0 h=>exact ⟨Nat.le_refl _,fun h'=>absurd h' h,fun _=>⟨rfl,(fun _=>⟨_,rfl⟩),nofun⟩⟩
  | @rep1 a p la q ca o cb h _ _ iha ihb =>
    have h1:=iha.2.1 h
    have h2:=ihb.1
    dsimp only [po,pb] at h1
    rw [Out.pre_pos]
    exact ⟨by omega,fun _=>by omega,fun h'=>absurd h h'⟩
  | repBad h _ ih=>exact ⟨ih.1,fun _=>ih.2.1 h,fun h'=>absurd h h'⟩
  | rep0 h=>exact ⟨Nat.le_refl _,fun h'=>absurd h' h,fun _=>⟨rfl,(fun _=>⟨_,rfl⟩),nofun⟩⟩
theorem tk_in {p : Nat} (hr : ∀ x ∈ row, x ≠ ("eof" : Str)) : tk row p ≠ "eof" ↔ p < row.length := by
  unfold tk
  constructor
  · intro h
    by_cases hp:p<row.length
    · exact hp
    · rw [List.getElem?_eq_none (by omega)] at h;exact absurd rfl h
  · intro h
    rw [List.getElem?_eq_getElem h]
    exact hr _ (List.getElem_mem h)
theorem tok_ne_eof {e:Ex} (hw:WfE e) (h:isTok ts.length e = true):tokS e ≠ ("eof":Str):=by
  have h1 : ∀ s ∈ [("p" : Str), "q", "r", "s"], s ≠ "eof" := by decide +kernel
  have h2:∀ j,j < 7 → rn j ≠ "eof":=by decide +kernel
  cases e with
  | text s=>exact h1 s hw
  | name j=>exact h2 j (Nat.lt_succ_of_le hw.2)
  | _=>cases h
theorem run_end (L:Lang ts em Fi) (hr:∀ x ∈ row,x ≠ ("eof":Str)) {e:Ex} {p:Nat} {o:Out} {c:Nat} (r:Run ts em Fi row e p o c):WfE e → p ≤ row.length → o.pos ≤ row.length:=by
  induction r with
  | @tok e p h1 h2 =>
    intro hw hp
    have:=(tk_in (p:=p) hr).mp (by rw [h2];exact tok_ne_eof hw h1)
    exact this
  | tokBad h1 h2=>exact fun _ h=>h
  | @name j p o c hj _ ih=>exact fun hw hp=>by rw [Out.nd_pos];exact ih (L.W.wf j hj) hp
  | eps=>exact fun _ h=>h
  | seq _ _ iha ihb=>exact fun hw hp=>by rw [Out.pre_pos];exact ihb hw.2 (iha hw.1 hp)
  | seqBad _ iha=>exact fun hw hp=>iha hw.1 hp
  | altA _ _ ih=>exact fun hw hp=>ih hw.1 hp
  | altB _ _ ih=>exact fun hw hp=>ih hw.2 hp
  | altBad=>exact fun _ h=>h
  | opt1 _ _ ih=>exact fun hw hp=>ih hw hp
  | opt0=>exact fun _ h=>h
  | rep1 _ _ _ iha ihb=>exact fun hw hp=>by rw [Out.pre_pos];exact ihb hw (iha hw hp)
  | repBad _ _ ih=>exact fun hw hp=>ih hw hp
  | rep0=>exact fun _ h=>h
theorem fst_lt (L:Lang ts em Fi) (hr:∀ x ∈ row,x ≠ ("eof":Str)):∀ {e:Ex},WfE e → ∀ {p:Nat},fst ts.length em Fi e (tk row p) → p < row.length:=by
  have key:∀ e:Ex,WfE e→∀ p,fst ts.length em Fi e (tk row p)→p<row.length:=by
    refine ex_ind L.W ?_ ?_ ?_ ?_ ?_ ?_ ?_ ?_
    · intro s hw p h
      exact (tk_in hr).mp (by rw [show tk row p=s from h];exact tok_ne_eof (ts:=ts) (e:=.text s) hw rfl)
    · intro j hj hw p h
      have ht:isTok ts.length (.name j)=true:=tokI hj
      exact (tk_in hr).mp (by rw [(fst_tok _ ht _).mp h];exact tok_ne_eof (ts:=ts) (e:=.name j) hw ht)
    · intro j hj ih hw p h
      exact ih (L.W.wf j hj) p ((L.fi j _ hj).mp ((iff_of_eq (if_pos hj)).mp h))
    · intro _ p h;exact h.elim
    · intro a b iha ihb hw p h
      exact h.elim (iha hw.1 p) fun h=>ihb hw.2 p h.2
    · intro a b iha ihb hw p h
      exact h.elim (iha hw.1 p) (ihb hw.2 p)
    · intro a ih hw p h;exact ih hw p h
    · intro a ih hw p h;exact ih hw p h
  exact fun {e} hw {p} h=>key e hw p h
theorem run_total (L:Lang ts em Fi) (hr:∀ x ∈ row,x ≠ ("eof":Str)):∀ e:Ex,WfE e → ∀ p,∃ o c,Run ts em Fi row e p o c:=by
  refine ex_ind L.W ?_ ?_ ?_ ?_ ?_ ?_ ?_ ?_
  · intro s hw p
    by_cases h:tk row p=tokS (.text s)
    · exact ⟨_,_,.tok rfl h⟩
    · exact ⟨_,_,.tokBad rfl h⟩
  · intro j hj hw p
    have ht:isTok ts.length (.name j)=true:=tokI hj
    by_cases h:tk row p=tokS (.name j)
    · exact ⟨_,_,.tok ht h⟩
    · exact ⟨_,_,.tokBad ht h⟩
  · intro j hj ih hw p
    obtain ⟨o,c,r⟩:=ih (L.W.wf j hj) p
    exact ⟨_,_,.name hj r⟩
  · intro _ p;exact ⟨_,_,.eps⟩
  · intro a b iha ihb hw p
    obtain ⟨o,c,r⟩:=iha hw.1 p
    cases o with
    | ok l q =>
      obtain ⟨o2,c2,r2⟩:=ihb hw.2 q
      exact ⟨_,_,.seq r r2⟩
    | bad q=>exact ⟨_,_,.seqBad r⟩
  · intro a b iha ihb hw p
    by_cases h1:fst ts.length em Fi a (tk row p)
    · obtain ⟨o,c,r⟩:=iha hw.1 p
      exact ⟨_,_,.altA (Or.inl h1) r⟩
    by_cases h2:fst ts.length em Fi b (tk row p)
    · obtain ⟨o,c,r⟩:=ihb hw.2 p
      exact ⟨_,_,.altB ⟨h1,Or.inl h2⟩ r⟩
    cases h3:nul em a with
    | true =>
      obtain ⟨o,c,r⟩:=iha hw.1 p
      exact ⟨_,_,.altA (Or.inr ⟨h2,h3⟩) r⟩
    | false =>
      cases h4:nul em b with
      | true =>
        obtain ⟨o,c,r⟩:=ihb hw.2 p
        exact ⟨_,_,.altB ⟨h1,Or.inr ⟨h3,h4⟩⟩ r⟩
      | false=>exact ⟨_,_,.altBad h1 h2 h3 h4⟩
  · intro a ih hw p
    by_cases h1:fst ts.length em Fi a (tk row p)
    · obtain ⟨o,c,r⟩:=ih hw p
      exact ⟨_,_,.opt1 h1 r⟩
    · exact ⟨_,_,.opt0 h1⟩
  · intro a ih hw
    have key:∀ (k p:Nat),row.length-p=k→∃ o c,Run ts em Fi row (.rep a) p o c:=by
      intro k
      induction k using Nat.strongRecOn with
      | _ k ihk =>
        intro p hk
        by_cases h1:fst ts.length em Fi a (tk row p)
        · obtain ⟨o,c,r⟩:=ih hw p
          have hm:=(run_move L r).2.1 h1
          have hp:=fst_lt L hr (e:=a) hw h1
          cases o with
          | ok l q =>
            dsimp only [po,pb] at hm
            obtain ⟨o2,c2,r2⟩:=ihk (row.length-q) (by omega) q rfl
            exact ⟨_,_,.rep1 h1 r r2⟩
          | bad q=>exact ⟨_,_,.repBad h1 r⟩
        · exact ⟨_,_,.rep0 h1⟩
    exact fun p=>key _ p rfl
end
end LY.Internal
end

section
open PySem
namespace LY.Internal
noncomputable def wt (len:Nat) (E:Nat→Nat):Ex→Nat
  | .text _=>1
  | .name j=>if j<len then E j else 1
  | .eps=>1
  | .seq a b=>1+wt len E a+wt len E b
  | .alt a b=>1+max (wt len E a) (wt len E b)
  | .opt a=>1+wt len E a
  | .rep a=>2+wt len E a
noncomputable def sl (len:Nat) (E S:Nat→Nat):Ex→Nat
  | .text _=>0
  | .name j=>if j<len then S j else 0
  | .eps=>0
  | .seq a b=>max (sl len E S a) (sl len E S b)
  | .alt a b=>max (sl len E S a) (sl len E S b)
  | .opt a=>sl len E S a
  | .rep a=>max (1+wt len E a) (sl len E S a)
theorem lin1 {ca cb wa wb A B K:Nat} (h1:ca≤wa+A) (h2:cb≤wb+B) (h3:A+B≤K):1+ca+cb≤1+wa+wb+K:=by omega
theorem lin2 {ca cb wa A:Nat} (h1:ca≤wa+A) (h2:cb≤1):1+ca+cb≤2+wa+A:=by omega
theorem lin3 {ca cb wa A B s:Nat} (h1:ca≤wa+A) (h2:cb≤2+wa+B) (h3:1+wa≤s):1+ca+cb≤2+wa+(A+B+s):=by omega
theorem up1 {c w X:Nat} (h:c≤w+X):1+c≤1+w+X:=by omega
theorem up2 {c w X:Nat} (h:c≤w+X):1+c≤2+w+X:=by omega
theorem up3 {c w v X:Nat} (h:c≤w+X):1+c≤1+w+v+X:=by omega
theorem up4 {c w E X:Nat} (h:c≤w+X) (h2:w+2≤E):c+2≤E+X:=by omega
theorem lin5 {w i M K:Nat} (h:w≤i+K) (h1:1≤M):2+w≤i+1+(K+M):=by omega
theorem gap {p q r:Nat} (h:p≤q) (h2:q≤r):q-p+(r-q)=r-p:=by
  rw [Nat.add_comm];exact Nat.sub_add_sub_cancel h2 h
theorem mulL {k s s':Nat} (h:s≤s'):k * s≤k * s':=Nat.mul_le_mul_left _ h
theorem cost_up {w w' k s s' c:Nat} (h:c≤w+(k-1) * s) (hw:w≤w') (hs:s≤s'):c≤w'+(k-1) * s':=Nat.le_trans h (Nat.add_le_add hw (mulL hs))
theorem cost_seq {wa wb sa sb ka kb ca cb:Nat} (h1:ca≤wa+(ka-1) * sa) (h2:cb≤wb+(kb-1) * sb):1+ca+cb≤1+wa+wb+(ka+kb-1) * max sa sb :=
  lin1 (cost_up h1 (Nat.le_refl _) (Nat.le_max_left ..)) (cost_up h2 (Nat.le_refl _) (Nat.le_max_right ..)) (by rw [← Nat.add_mul];exact Nat.mul_le_mul_right _ (by omega))
theorem cost_rep {wa sa ka kb ca cb s:Nat} (hs:s=max (1+wa) sa) (hka:1≤ka) (h1:ca≤wa+(ka-1) * sa) (h2:cb≤2+wa+(kb-1) * s) (h3:kb=0→cb≤1):1+ca+cb≤2+wa+(ka+kb-1) * s:=by
  have h1:=cost_up h1 (Nat.le_refl _) (show sa≤s from hs▸Nat.le_max_right ..)
  by_cases hk:kb=0
  · have:=h3 hk
    subst hk
    exact lin2 h1 this
  · rw [show ka+kb-1=(ka-1)+(kb-1)+1 by omega,Nat.add_mul,Nat.add_mul,Nat.one_mul]
    exact lin3 h1 h2 (hs▸Nat.le_max_left ..)
section
variable {ts:List Ex} {em:List Str} {Fi:Nat→Str→Prop} {row:List Str} {E S:Nat→Nat}
theorem run_cost (L:Lang ts em Fi) (hE:∀ j,j<ts.length→wt ts.length E (T ts j)+2≤E j) (hS:∀ j,j<ts.length→sl ts.length E S (T ts j)≤S j) {e:Ex} {p:Nat} {o:Out} {c:Nat} (r:Run ts em Fi row e p o c) :
    c≤wt ts.length E e+(o.pos-p-1) * sl ts.length E S e∧(∀ a,e=.rep a→o.pos=p→c≤1):=by
  have htok:∀ e:Ex,isTok ts.length e=true→1≤wt ts.length E e∧∀ a,e≠.rep a:=by
    intro e h
    cases e with
    | text s=>exact ⟨Nat.le_refl _,nofun⟩
    | name j=>exact ⟨Nat.le_of_eq (if_neg (tokN h)).symm,nofun⟩
    | _=>cases h
  induction r with
  | tok h1 h2=>have:=htok _ h1;exact ⟨Nat.le_trans this.1 (Nat.le_add_right ..),fun a e=>absurd e (this.2 a)⟩
  | tokBad h1 h2=>have:=htok _ h1;exact ⟨Nat.le_trans this.1 (Nat.le_add_right ..),fun a e=>absurd e (this.2 a)⟩
  | @name j p o c hj _ ih =>
    rw [Out.nd_pos,show wt ts.length E (.name j)=E j from if_pos hj,show sl ts.length E S (.name j)=S j from if_pos hj]
    exact ⟨up4 (cost_up ih.1 (Nat.le_refl _) (hS j hj)) (hE j hj),nofun⟩
  | eps=>exact ⟨Nat.le_add_right _ _,nofun⟩
  | @seq a b p la q ca o cb ra rb iha ihb =>
    refine ⟨?_,nofun⟩
    rw [Out.pre_pos]
    have m1:p≤q:=(run_move L ra).1
    have m2:=(run_move L rb).1
    have:=cost_seq iha.1 ihb.1
    rwa [show (Out.ok la q).pos=q from rfl,gap m1 m2] at this
  | @seqBad a b p q ca ra iha=>exact ⟨up3 (cost_up iha.1 (Nat.le_refl _) (Nat.le_max_left ..)),nofun⟩
  | @altA a b p o c _ _ ih=>exact ⟨up1 (cost_up ih.1 (Nat.le_max_left ..) (Nat.le_max_left ..)),nofun⟩
  | @altB a b p o c _ _ ih=>exact ⟨up1 (cost_up ih.1 (Nat.le_max_right ..) (Nat.le_max_right ..)),nofun⟩
  | altBad=>exact ⟨Nat.le_trans (Nat.le_add_right 1 _) (Nat.le_add_right ..),nofun⟩
  | opt1 _ _ ih=>exact ⟨up1 ih.1,nofun⟩
  | opt0=>exact ⟨Nat.le_trans (Nat.le_add_right 1 _) (Nat.le_add_right ..),nofun⟩
  | @rep1 a p la q ca o cb h ra rb iha ihb =>
    have m1:p<q:=(run_move L ra).2.1 h
    have m2:=(run_move L rb).1
    rw [Out.pre_pos]
    refine ⟨?_,fun a' e h'=>by omega⟩
    have:=cost_rep (s:=sl ts.length E S (.rep a)) rfl (Nat.sub_pos_of_lt m1) iha.1 ihb.1 (fun e=>ihb.2 a rfl (by omega))
    rwa [gap (Nat.le_of_lt m1) m2] at this
  | @repBad a p q ca h ra iha =>
    have m1:p<q:=(run_move L ra).2.1 h
    exact ⟨up2 (cost_up iha.1 (Nat.le_refl _) (Nat.le_max_right ..)),fun a' e h'=>absurd (show q=p from h') (Nat.ne_of_gt m1)⟩
  | rep0=>exact ⟨Nat.le_trans (Nat.le_of_lt (Nat.lt_of_lt_of_le (Nat.lt_succ_self 1) (Nat.le_add_right 2 _))) (Nat.le_add_right ..),fun _ _ _=>Nat.le_refl _⟩
end
theorem big {i i' M w:Nat} (h:w≤i+(i+1) * M) (hi:i≤i'):w≤i'+(i'+1) * M:=Nat.le_trans h (Nat.add_le_add hi (Nat.mul_le_mul_right _ (Nat.succ_le_succ hi)))
theorem big1 {i M w:Nat} (h:w≤i+(i+1) * M):1+w≤1+i+(1+i+1) * M:=by
  rw [Nat.add_assoc];exact Nat.add_le_add_left (Nat.le_trans h (Nat.add_le_add_left (Nat.mul_le_mul_right _ (Nat.add_le_add_right (Nat.le_add_left i 1) 1)) _)) 1
theorem wt_le {len M:Nat} {E:Nat→Nat} (h1:1≤M):∀ {e:Ex},(∀ j,NameIn j e→j<len→E j≤M)→wt len E e≤inn e+(inn e+1) * M
  | .text _,_=>Nat.le_trans h1 (by show M≤0+(0+1) * M;rw [Nat.zero_add,Nat.one_mul];exact Nat.le_refl _)
  | .name j,h=>by
    show wt len E (.name j)≤0+(0+1) * M
    rw [Nat.zero_add,Nat.one_mul]
    by_cases hj:j<len
    · exact Nat.le_trans (Nat.le_of_eq (if_pos hj)) (h j rfl hj)
    · exact Nat.le_trans (Nat.le_of_eq (if_neg hj)) h1
  | .eps,_=>Nat.le_trans h1 (by show M≤0+(0+1) * M;rw [Nat.zero_add,Nat.one_mul];exact Nat.le_refl _)
  | .seq a b,h=>by
    have i1:=wt_le (e:=a) h1 fun j hj=>h j (Or.inl hj)
    have i2:=wt_le (e:=b) h1 fun j hj=>h j (Or.inr hj)
    exact lin1 i1 i2 (by rw [← Nat.add_mul];exact Nat.mul_le_mul_right _ (Nat.le_of_eq (by show _=1+inn a+inn b+1;omega)))
  | .alt a b,h=>by
    have i1:=wt_le (e:=a) h1 fun j hj=>h j (Or.inl hj)
    have i2:=wt_le (e:=b) h1 fun j hj=>h j (Or.inr hj)
    show 1+max (wt len E a) (wt len E b)≤1+inn a+inn b+(1+inn a+inn b+1) * M
    rw [Nat.add_assoc 1 (inn a)]
    exact big1 (Nat.max_le.mpr ⟨big i1 (Nat.le_add_right ..),big i2 (Nat.le_add_left ..)⟩)
  | .opt a,h=>big1 (wt_le (e:=a) h1 h)
  | .rep a,h=>by
    have i1:=wt_le (e:=a) h1 h
    show 2+wt len E a≤1+inn a+(1+inn a+1) * M
    rw [Nat.succ_mul (1+inn a),Nat.add_comm 1 (inn a)]
    exact lin5 i1 h1
theorem mx {R x y z:Nat} (h:z≤max R x) (m:x≤y):z≤max R y:=Nat.le_trans h (Nat.max_le.mpr ⟨Nat.le_max_left ..,Nat.le_trans m (Nat.le_max_right ..)⟩)
theorem sl_le {len M R:Nat} {E S:Nat→Nat} (h1:1≤M):∀ {e:Ex},(∀ j,NameIn j e→j<len→E j≤M)→(∀ j,NameIn j e→j<len→S j≤R)→sl len E S e≤max R (inn e * (1+M))
  | .text _,_,_=>Nat.zero_le _
  | .name j,_,h=>by
    by_cases hj:j<len
    · exact Nat.le_trans (Nat.le_of_eq (if_pos hj)) (Nat.le_trans (h j rfl hj) (Nat.le_max_left ..))
    · exact Nat.le_trans (Nat.le_of_eq (if_neg hj)) (Nat.zero_le _)
  | .eps,_,_=>Nat.zero_le _
  | .seq a b,h,h'=>Nat.max_le.mpr ⟨mx (sl_le (e:=a) h1 (fun j hj=>h j (Or.inl hj)) fun j hj=>h' j (Or.inl hj)) (Nat.mul_le_mul_right _ (Nat.le_trans (Nat.le_add_left ..) (Nat.le_add_right (1+inn a) (inn b)))),
      mx (sl_le (e:=b) h1 (fun j hj=>h j (Or.inr hj)) fun j hj=>h' j (Or.inr hj)) (Nat.mul_le_mul_right _ (Nat.le_add_left (inn b) (1+inn a)))⟩
  | .alt a b,h,h'=>Nat.max_le.mpr ⟨mx (sl_le (e:=a) h1 (fun j hj=>h j (Or.inl hj)) fun j hj=>h' j (Or.inl hj)) (Nat.mul_le_mul_right _ (Nat.le_trans (Nat.le_add_left ..) (Nat.le_add_right (1+inn a) (inn b)))),
      mx (sl_le (e:=b) h1 (fun j hj=>h j (Or.inr hj)) fun j hj=>h' j (Or.inr hj)) (Nat.mul_le_mul_right _ (Nat.le_add_left (inn b) (1+inn a)))⟩
  | .opt a,h,h'=>mx (sl_le (e:=a) h1 h h') (Nat.mul_le_mul_right _ (Nat.le_add_left (inn a) 1))
  | .rep a,h,h'=>Nat.max_le.mpr ⟨Nat.le_trans (Nat.add_le_add_left (wt_le (e:=a) h1 h) 1) (Nat.le_trans (Nat.le_of_eq (by show _=(1+inn a) * (1+M);rw [Nat.mul_add,Nat.mul_one,Nat.add_assoc,Nat.add_comm 1 (inn a)])) (Nat.le_max_right ..)),
      mx (sl_le (e:=a) h1 h h') (Nat.mul_le_mul_right _ (Nat.le_add_left (inn a) 1))⟩
noncomputable def EE:Nat→Nat | 0=>681 | 1=>169 | 2=>41 | 3=>9 | _=>1
noncomputable def SS:Nat→Nat | 0=>510 | 1=>126 | 2=>30 | 3=>6 | _=>0
theorem EE_step:∀ n,EE (n+1)≤EE n
  | 0=>Nat.le_of_ble_eq_true rfl | 1=>Nat.le_of_ble_eq_true rfl | 2=>Nat.le_of_ble_eq_true rfl | 3=>Nat.le_of_ble_eq_true rfl | _+4=>Nat.le_refl 1
theorem SS_step:∀ n,SS (n+1)≤SS n
  | 0=>Nat.le_of_ble_eq_true rfl | 1=>Nat.le_of_ble_eq_true rfl | 2=>Nat.le_of_ble_eq_true rfl | 3=>Nat.le_of_ble_eq_true rfl | _+4=>Nat.le_refl 0
theorem EE_anti {i j:Nat} (h:i≤j):EE j≤EE i:=by
  induction h with
  | refl=>exact Nat.le_refl _
  | step _ ih=>exact Nat.le_trans (EE_step _) ih
theorem SS_anti {i j:Nat} (h:i≤j):SS j≤SS i:=by
  induction h with
  | refl=>exact Nat.le_refl _
  | step _ ih=>exact Nat.le_trans (SS_step _) ih
theorem EE_pos:∀ j,1≤EE j
  | 0=>Nat.le_of_ble_eq_true rfl | 1=>Nat.le_of_ble_eq_true rfl | 2=>Nat.le_of_ble_eq_true rfl | 3=>Nat.le_of_ble_eq_true rfl | _+4=>Nat.le_refl 1
theorem EE_v:EE 0=681∧EE 1=169∧EE 2=41∧EE 3=9∧EE 4=1:=⟨rfl,rfl,rfl,rfl,rfl⟩
theorem SS_v:SS 0=510∧SS 1=126∧SS 2=30∧SS 3=6∧SS 4=0:=⟨rfl,rfl,rfl,rfl,rfl⟩
theorem EE_rec:∀ j,j<4→3+4 * EE (j+1)+2≤EE j:=by decide +kernel
theorem SS_rec:∀ j,j<4→3 * (1+EE (j+1))≤SS j:=by decide +kernel
theorem EE_ok {ts:List Ex} (W:WfT ts) {j:Nat} (hj:j<ts.length):wt ts.length EE (T ts j)+2≤EE j :=
  Nat.le_trans (Nat.add_le_add_right (big (wt_le (len:=ts.length) (E:=EE) (EE_pos (j+1)) (e:=T ts j) fun i hi _=>EE_anti (W.gt j hj i hi)) (W.inn j hj)) 2) (EE_rec j (Nat.lt_of_lt_of_le hj W.four))
theorem SS_ok {ts:List Ex} (W:WfT ts) {j:Nat} (hj:j<ts.length):sl ts.length EE SS (T ts j)≤SS j :=
  Nat.le_trans (mx (sl_le (len:=ts.length) (E:=EE) (S:=SS) (EE_pos (j+1)) (R:=SS (j+1)) (e:=T ts j) (fun i hi _=>EE_anti (W.gt j hj i hi)) (fun i hi _=>SS_anti (W.gt j hj i hi))) (Nat.mul_le_mul_right _ (W.inn j hj)))
    (Nat.max_le.mpr ⟨SS_step j,SS_rec j (Nat.lt_of_lt_of_le hj W.four)⟩)
end LY.Internal
end

section
open PySem
namespace LY.Internal
section
variable {ts:List Ex} {em:List Str} {Fi:Nat→Str→Prop} {row:List Str}
inductive SeqI (a b:Ex) (p:Nat):Out→Nat→Prop
  | ok {la q ca lb r cb}:Run ts em Fi row a p (.ok la q) ca→Run ts em Fi row b q (.ok lb r) cb→SeqI a b p (.ok (la++lb) r) (1+ca+cb)
  | bad2 {la q ca r cb}:Run ts em Fi row a p (.ok la q) ca→Run ts em Fi row b q (.bad r) cb→SeqI a b p (.bad r) (1+ca+cb)
  | bad1 {q ca}:Run ts em Fi row a p (.bad q) ca→SeqI a b p (.bad q) (1+ca)
noncomputable def RInv (ts:List Ex) (em:List Str) (Fi:Nat→Str→Prop) (row:List Str) (p:Nat) (o:Out) (c:Nat):Ex→Prop
  | .seq a b=>SeqI (ts:=ts) (em:=em) (Fi:=Fi) (row:=row) a b p o c
  | .name j=>j<ts.length→∃ o' c',Run ts em Fi row (T ts j) p o' c'∧o=o'.nd j∧c=c'+2
  | _=>True
theorem rinv_tok {p:Nat} {o:Out} {c:Nat}:∀ {e:Ex},isTok ts.length e=true→RInv ts em Fi row p o c e
  | .text _,_=>trivial
  | .name _,h=>fun hj=>absurd hj (tokN h)
theorem rinv {e:Ex} {p:Nat} {o:Out} {c:Nat} (r:Run ts em Fi row e p o c):RInv ts em Fi row p o c e:=by
  cases r with
  | tok h1 h2=>exact rinv_tok h1
  | tokBad h1 h2=>exact rinv_tok h1
  | name hj h=>exact fun _=>⟨_,_,h,rfl,rfl⟩
  | @seq a b _ la q ca o cb h1 h2 =>
    cases o with
    | ok=>exact .ok h1 h2
    | bad=>exact .bad2 h1 h2
  | seqBad h=>exact .bad1 h
  | _=>trivial
noncomputable def Three (X:Ex):Prop:=X=.seq (.seq (.name 1) (.name 1)) (.name 1)∨X=.seq (.name 1) (.seq (.name 1) (.name 1))
theorem three_fst {X:Ex} (h:Three X) {t:Str} (q:fst ts.length em Fi X t):fst ts.length em Fi (.name 1) t:=by
  rcases h with rfl | rfl
  · exact q.elim (fun q=>q.elim id And.right) And.right
  · exact q.elim id fun q=>q.2.elim id And.right
inductive Tri (p:Nat):Out→Nat→Prop
  | one {q c1 c}:Run ts em Fi row (.name 1) p (.bad q) c1→c≤2+c1→Tri p (.bad q) c
  | two {l q c1 q2 c2 c}:Run ts em Fi row (.name 1) p (.ok l q) c1→Run ts em Fi row (.name 1) q (.bad q2) c2→c≤2+c1+c2→Tri p (.bad q2) c
  | bad {l q c1 l2 q2 c2 q3 c3 c}:Run ts em Fi row (.name 1) p (.ok l q) c1→Run ts em Fi row (.name 1) q (.ok l2 q2) c2→Run ts em Fi row (.name 1) q2 (.bad q3) c3→c≤2+c1+c2+c3→Tri p (.bad q3) c
  | ok {l q c1 l2 q2 c2 l3 q3 c3 l4 c}:Run ts em Fi row (.name 1) p (.ok l q) c1→Run ts em Fi row (.name 1) q (.ok l2 q2) c2→Run ts em Fi row (.name 1) q2 (.ok l3 q3) c3→c≤2+c1+c2+c3→Tri p (.ok l4 q3) c
theorem three_run {X:Ex} (h:Three X) {p:Nat} {o:Out} {c:Nat} (r:Run ts em Fi row X p o c):Tri (ts:=ts) (em:=em) (Fi:=Fi) (row:=row) p o c:=by
  rcases h with rfl | rfl
  · cases (rinv r:SeqI (.seq (.name 1) (.name 1)) (.name 1) p o c) with
    | ok h1 h2=>cases (rinv h1:SeqI (.name 1) (.name 1) p _ _) with | ok h3 h4=>exact .ok h3 h4 h2 (by omega)
    | bad2 h1 h2=>cases (rinv h1:SeqI (.name 1) (.name 1) p _ _) with | ok h3 h4=>exact .bad h3 h4 h2 (by omega)
    | bad1 h1 =>
      cases (rinv h1:SeqI (.name 1) (.name 1) p _ _) with
      | bad2 h3 h4=>exact .two h3 h4 (by omega)
      | bad1 h3=>exact .one h3 (by omega)
  · cases (rinv r:SeqI (.name 1) (.seq (.name 1) (.name 1)) p o c) with
    | ok h1 h2=>cases (rinv h2:SeqI (.name 1) (.name 1) _ _ _) with | ok h3 h4=>exact .ok h1 h3 h4 (by omega)
    | bad2 h1 h2 =>
      cases (rinv h2:SeqI (.name 1) (.name 1) _ _ _) with
      | bad2 h3 h4=>exact .bad h1 h3 h4 (by omega)
      | bad1 h3=>exact .two h1 h3 (by omega)
    | bad1 h1=>exact .one h1 (by omega)
theorem one_cost (L:Lang ts em Fi) (h1:1<ts.length) {p:Nat} {o:Out} {c:Nat} (r:Run ts em Fi row (.name 1) p o c) {d:Nat} (hd:o.pos=p+d):c≤169+(d-1) * 126:=by
  have h:=(run_cost L (fun j hj=>EE_ok L.W hj) (fun j hj=>SS_ok L.W hj) r).1
  rw [show wt ts.length EE (.name 1)=169 from if_pos h1,show sl ts.length EE SS (.name 1)=126 from if_pos h1,hd,Nat.add_sub_cancel_left] at h
  exact h
theorem one_step (L:Lang ts em Fi) (h1:1<ts.length) {p:Nat} {o:Out} {c:Nat} (r:Run ts em Fi row (.name 1) p o c) :
    (∃ d,o.pos=p+(d+1)∧c≤169+d * 126∧fst ts.length em Fi (.name 1) (tk row p))∨(o.pos=p∧c≤169∧¬ fst ts.length em Fi (.name 1) (tk row p)):=by
  by_cases hf:fst ts.length em Fi (.name 1) (tk row p)
  · obtain ⟨d,e⟩:=Nat.exists_eq_add_of_lt ((run_move L r).2.1 hf)
    exact Or.inl ⟨d,e,one_cost L h1 r (d:=d+1) e,hf⟩
  · have e:=((run_move L r).2.2 hf).1
    exact Or.inr ⟨e,one_cost L h1 r (d:=0) e,hf⟩
theorem tri3 {p q q2 q3 c c1 c2 c3 D:Nat} {F:Nat→Prop} (hc:c≤2+c1+c2+c3) (hD:q3=p+D) (hf:F p) (s1:(∃ d,q=p+(d+1)∧c1≤169+d * 126∧F p)∨(q=p∧c1≤169∧¬ F p))
    (s2:(∃ d,q2=q+(d+1)∧c2≤169+d * 126∧F q)∨(q2=q∧c2≤169∧¬ F q)) (s3:(∃ d,q3=q2+(d+1)∧c3≤169+d * 126∧F q2)∨(q3=q2∧c3≤169∧¬ F q2)) :
    c+1≤172 * D∨(c+1≤172 * D+338∧¬ F q3):=by
  rcases s1 with ⟨d1,rfl,k1,_⟩ | ⟨_,_,h⟩
  · rcases s3 with ⟨d3,e3,k3,f3⟩ | ⟨rfl,k3,f3⟩
    · rcases s2 with ⟨d2,rfl,k2,_⟩ | ⟨rfl,k2,f2⟩
      · exact Or.inl (by omega)
      · exact absurd f3 f2
    · rcases s2 with ⟨d2,e2,k2,_⟩ | ⟨e2,k2,f2⟩
      · exact Or.inr ⟨by omega,f3⟩
      · exact Or.inr ⟨by omega,f3⟩
  · exact absurd hf h
theorem three_cost (L:Lang ts em Fi) (h1:1<ts.length) {X:Ex} (h:Three X) {p:Nat} {o:Out} {c:Nat} (r:Run ts em Fi row X p o c) (hf:fst ts.length em Fi (.name 1) (tk row p)) {D:Nat} (hD:o.pos=p+D) :
    c+1≤172 * D∨(c+1≤172 * D+338∧∀ l q,o=.ok l q→¬ fst ts.length em Fi (.name 1) (tk row q)):=by
  cases three_run h r with
  | one r1 hc =>
    rcases one_step L h1 r1 with ⟨d,e,k,_⟩ | ⟨_,_,h⟩
    · exact Or.inr ⟨by have:=hD.symm.trans e;omega,nofun⟩
    · exact absurd hf h
  | two r1 r2 hc =>
    rcases one_step L h1 r1 with ⟨d,e,k,_⟩ | ⟨_,_,h⟩
    · have e:_=_:=e
      rcases one_step L h1 r2 with ⟨d2,e2,k2,_⟩ | ⟨e2,k2,_⟩
      · exact Or.inr ⟨by have:=hD.symm.trans e2;dsimp only [po,pb] at e;omega,nofun⟩
      · exact Or.inr ⟨by have:=hD.symm.trans e2;dsimp only [po,pb] at e;omega,nofun⟩
    · exact absurd hf h
  | bad r1 r2 r3 hc=>exact (tri3 (F:=fun p=>fst ts.length em Fi (.name 1) (tk row p)) hc hD hf (one_step L h1 r1) (one_step L h1 r2) (one_step L h1 r3)).imp id fun h=>⟨h.1,nofun⟩
  | @ok l q c1 l2 q2 c2 l3 q3 c3 l4 _ r1 r2 r3 hc=>exact (tri3 (q:=q) (q2:=q2) (q3:=q3) (F:=fun p=>fst ts.length em Fi (.name 1) (tk row p)) hc hD hf (one_step L h1 r1) (one_step L h1 r2) (one_step L h1 r3)).imp id fun h=>⟨h.1,fun l q e=>by cases e;exact h.2⟩
theorem three_rep (L:Lang ts em Fi) (h1:1<ts.length) {X:Ex} (h:Three X) {e:Ex} {p:Nat} {o:Out} {c:Nat} (r:Run ts em Fi row e p o c):e=.rep X→∀ {D},o.pos=p+D→c≤339+172 * D:=by
  induction r with
  | tok h1 _=>intro e;subst e;cases h1
  | tokBad h1 _=>intro e;subst e;cases h1
  | @rep1 a p la q ca o cb hf ra rb iha ihb =>
    intro e D hD
    cases e
    obtain ⟨D1,e1⟩:=Nat.exists_eq_add_of_le (run_move L ra).1
    obtain ⟨D2,e2⟩:=Nat.exists_eq_add_of_le (run_move L rb).1
    rw [Out.pre_pos,e2] at hD
    have e1:q=p+D1:=e1
    subst e1
    rw [Nat.add_assoc] at hD
    have hD:=Nat.add_left_cancel hD
    subst hD
    rw [Nat.mul_add]
    rcases three_cost L h1 h ra (three_fst h hf) (D:=D1) rfl with k | ⟨k,hn⟩
    · have i2:=ihb rfl e2;omega
    · have hnf:¬ fst ts.length em Fi (.rep X) (tk row (p+D1)):=fun x=>hn la _ rfl (three_fst h x)
      have:=(run_cost L (fun j hj=>EE_ok L.W hj) (fun j hj=>SS_ok L.W hj) rb).2 X rfl ((run_move L rb).2.2 hnf).1
      omega
  | @repBad a p q ca hf ra iha =>
    intro e D hD
    cases e
    rcases three_cost L h1 h ra (three_fst h hf) hD with k | ⟨k,hn⟩
    · omega
    · omega
  | rep0=>intro _ _ _;omega
  | _=>exact nofun
theorem no2 {a b:Nat} {P:Prop} (h:1+a+b=0):P:=by omega
theorem no1 {a:Nat} {P:Prop} (h:1+a=0):P:=by omega
theorem z2 {a b:Nat} (h:1+a+b=1):a=0∧b=0:=by omega
theorem z1 {a:Nat} (h:1+a=1):a=0:=by omega
theorem leaf_wt {e:Ex} (h:inn e=0) (hg:∀ j,NameIn j e→1≤j):wt ts.length EE e≤169∧(41<wt ts.length EE e→e=.name 1∧1<ts.length):=by
  cases e with
  | text _=>exact ⟨(by decide:1≤169),fun h=>absurd h (by decide:¬ 41<1)⟩
  | eps=>exact ⟨(by decide:1≤169),fun h=>absurd h (by decide:¬ 41<1)⟩
  | name j =>
    have hj:=hg j rfl
    by_cases hl:j<ts.length
    · rw [show wt ts.length EE (.name j)=EE j from if_pos hl]
      have h1:=EE_anti hj
      rw [EE_v.2.1] at h1
      refine ⟨h1,fun h=>?_⟩
      obtain rfl:j=1:=by
        by_cases h2:2≤j
        · have:=EE_anti h2;rw [EE_v.2.2.1] at this;omega
        · omega
      exact ⟨rfl,hl⟩
    · rw [show wt ts.length EE (.name j)=1 from if_neg hl]
      exact ⟨by decide,fun h=>absurd h (by decide:¬ 41<1)⟩
  | seq=>exact no2 h
  | alt=>exact no2 h
  | opt=>exact no1 h
  | rep=>exact no1 h
theorem max_171 {x y:Nat} (h1:x≤169) (h2:y≤169):1+max x y≤171:=by omega
theorem one_wt {e:Ex} (h:inn e=1) (hg:∀ j,NameIn j e→1≤j):wt ts.length EE e≤171∨∃ x y,e=.seq x y∧inn x=0∧inn y=0:=by
  cases e with
  | text _=>exact absurd h (by decide:¬ 0=1)
  | eps=>exact absurd h (by decide:¬ 0=1)
  | name _=>exact absurd h (by decide:¬ 0=1)
  | seq a b=>exact Or.inr ⟨_,_,rfl,z2 h⟩
  | alt a b=>exact Or.inl (max_171 (leaf_wt (z2 h).1 fun j hj=>hg j (Or.inl hj)).1 (leaf_wt (z2 h).2 fun j hj=>hg j (Or.inr hj)).1)
  | opt a=>exact Or.inl (Nat.le_trans (Nat.add_le_add_left (leaf_wt (z1 h) hg).1 1) (by decide))
  | rep a=>exact Or.inl (Nat.add_le_add_left (leaf_wt (z1 h) hg).1 2)
theorem gen_wt {e:Ex} (hg:∀ j,NameIn j e→1≤j):wt ts.length EE e≤inn e+(inn e+1) * 169 :=
  wt_le (by omega) fun j hj _=>by have:=EE_anti (hg j hj);rw [EE_v.2.1] at this;exact this
theorem gen_sl {e:Ex} (hg:∀ j,NameIn j e→1≤j):sl ts.length EE SS e≤max 126 (inn e * 170) :=
  sl_le (M:=169) (R:=126) (by omega) (fun j hj _=>by have:=EE_anti (hg j hj);rw [EE_v.2.1] at this;exact this) (fun j hj _=>by have:=SS_anti (hg j hj);rw [SS_v.2.1] at this;exact this)
theorem w381 {i w:Nat} (h:w≤i+(i+1) * 169) (hi:i≤1):2+w≤381:=by
  have m:(i+1) * 169≤2 * 169:=Nat.mul_le_mul_right _ (Nat.succ_le_succ hi)
  omega
theorem three_wt {x y z i:Nat} {P Q R:Prop} (hx:x≤169∧(41<x→P)) (hy:y≤169∧(41<y→Q)) (hz:z≤169∧(41<z→R)) (e:i=2+(x+y+z)):i≤381∨P∧Q∧R:=by
  by_cases hb:i≤381
  · exact Or.inl hb
  · exact Or.inr ⟨hx.2 (by omega),hy.2 (by omega),hz.2 (by omega)⟩
theorem w5 {w l:Nat} (h:w≤171) (hl:l≤169):1+w+l≤381∧1+l+w≤381:=by omega
theorem i2 {a b:Nat} (h:1+a+b=2):(a=1∧b=0)∨(a=0∧b=1):=by omega
theorem i1 {a:Nat} (h:1+a=2):a≤1:=by omega
theorem m381 {x y:Nat} (h:2+x≤381) (h':2+y≤381):1+max x y≤381:=by omega
theorem body_wt {X:Ex} (h:inn X≤2) (hg:∀ j,NameIn j X→1≤j):wt ts.length EE X≤381∨(Three X∧1<ts.length):=by
  by_cases h2:inn X≤1
  · exact Or.inl (Nat.le_trans (Nat.le_add_left ..) (w381 (gen_wt (ts:=ts) hg) h2))
  have h3:inn X=2:=Nat.le_antisymm h (Nat.lt_of_not_le h2)
  clear h h2
  cases X with
  | text _=>exact absurd h3 (by decide:¬ 0=2)
  | eps=>exact absurd h3 (by decide:¬ 0=2)
  | name _=>exact absurd h3 (by decide:¬ 0=2)
  | seq P Q =>
    have gP:∀ j,NameIn j P→1≤j:=fun j hj=>hg j (Or.inl hj)
    have gQ:∀ j,NameIn j Q→1≤j:=fun j hj=>hg j (Or.inr hj)
    rcases i2 h3 with ⟨hP,hQ⟩ | ⟨hP,hQ⟩
    · have lQ:=leaf_wt (ts:=ts) hQ gQ
      rcases one_wt (ts:=ts) hP gP with h | ⟨x,y,rfl,hx,hy⟩
      · exact Or.inl (w5 h lQ.1).1
      · refine (three_wt (leaf_wt (ts:=ts) hx fun j hj=>gP j (Or.inl hj)) (leaf_wt (ts:=ts) hy fun j hj=>gP j (Or.inr hj)) lQ (show 1+(1+_+_)+_=_ by omega)).imp id ?_
        rintro ⟨⟨rfl,h1⟩,⟨rfl,_⟩,rfl,_⟩
        exact ⟨Or.inl rfl,h1⟩
    · have lP:=leaf_wt (ts:=ts) hP gP
      rcases one_wt (ts:=ts) hQ gQ with h | ⟨x,y,rfl,hx,hy⟩
      · exact Or.inl (w5 h lP.1).2
      · refine (three_wt (leaf_wt (ts:=ts) hx fun j hj=>gQ j (Or.inl hj)) (leaf_wt (ts:=ts) hy fun j hj=>gQ j (Or.inr hj)) lP (show 1+_+(1+_+_)=_ by omega)).imp id ?_
        rintro ⟨⟨rfl,h1⟩,⟨rfl,_⟩,rfl,_⟩
        exact ⟨Or.inr rfl,h1⟩
  | alt P Q=>exact Or.inl (m381 (w381 (gen_wt (ts:=ts) fun j hj=>hg j (Or.inl hj)) ((i2 h3).elim (fun h=>Nat.le_of_eq h.1) fun h=>h.1▸Nat.zero_le _)) (w381 (gen_wt (ts:=ts) fun j hj=>hg j (Or.inr hj)) ((i2 h3).elim (fun h=>h.2▸Nat.zero_le _) fun h=>Nat.le_of_eq h.2)))
  | opt P=>exact Or.inl (Nat.le_trans (Nat.add_le_add_right (by decide:1≤2) _) (w381 (gen_wt (ts:=ts) (e:=P) hg) (i1 h3)))
  | rep P=>exact Or.inl (w381 (gen_wt (ts:=ts) (e:=P) hg) (i1 h3))
theorem i3 {a b:Nat} (h:1+a+b≤3):a+b≤2:=by omega
theorem i4 {a:Nat} (h:1+a≤3):a≤2:=by omega
theorem run_steps (L:Lang ts em Fi) {o:Out} {c:Nat} (r:Run ts em Fi row (.name 0) 0 o c) (ho:o.pos≤13):c≤4969:=by
  obtain ⟨o',c',r',rfl,rfl⟩:=rinv r L.W.pos
  rw [Out.nd_pos] at ho
  have hi:=L.W.inn 0 L.W.pos
  have hg:∀ j,NameIn j (T ts 0)→1≤j:=L.W.gt 0 L.W.pos
  have hc:=(run_cost L (fun j hj=>EE_ok L.W hj) (fun j hj=>SS_ok L.W hj) r').1
  generalize hT:T ts 0=e0 at *
  have fin:∀ w s:Nat,wt ts.length EE e0≤w→sl ts.length EE SS e0≤s→w+12 * s≤4967→c'+2≤4969:=by
    intro w s hw hs h
    have h1:=cost_up hc hw hs
    have h2:(o'.pos-0-1) * s≤12 * s:=Nat.mul_le_mul_right _ (by omega)
    omega
  have small:inn e0≤2→c'+2≤4969:=by
    intro h
    have a1:=gen_wt (ts:=ts) hg
    have a2:=gen_sl (ts:=ts) hg
    have m1:(inn e0+1) * 169≤3 * 169:=Nat.mul_le_mul_right _ (by omega)
    have m2:inn e0 * 170≤2 * 170:=Nat.mul_le_mul_right _ (by omega)
    exact fin 509 340 (by omega) (by omega) (by omega)
  have two:∀ P Q:Ex,(∀ j,NameIn j P→1≤j)→(∀ j,NameIn j Q→1≤j)→inn P+inn Q≤2→sl ts.length EE SS e0=max (sl ts.length EE SS P) (sl ts.length EE SS Q)→c'+2≤4969:=by
    intro P Q gP gQ h e
    have a1:=gen_wt (ts:=ts) hg
    have a2:=gen_sl (ts:=ts) gP
    have a3:=gen_sl (ts:=ts) gQ
    have m1:(inn e0+1) * 169≤4 * 169:=Nat.mul_le_mul_right _ (by omega)
    have m2:inn P * 170≤2 * 170:=Nat.mul_le_mul_right _ (by omega)
    have m3:inn Q * 170≤2 * 170:=Nat.mul_le_mul_right _ (by omega)
    exact fin 679 340 (by omega) (by omega) (by omega)
  cases e0 with
  | text s=>exact small (Nat.zero_le _)
  | name j=>exact small (Nat.zero_le _)
  | eps=>exact small (Nat.zero_le _)
  | seq P Q=>exact two P Q (fun j hj=>hg j (Or.inl hj)) (fun j hj=>hg j (Or.inr hj)) (i3 hi) rfl
  | alt P Q=>exact two P Q (fun j hj=>hg j (Or.inl hj)) (fun j hj=>hg j (Or.inr hj)) (i3 hi) rfl
  | opt P=>exact two P .eps hg (fun j hj=>hj.elim) (i4 hi) (Nat.max_zero _).symm
  | rep X =>
    rcases body_wt (ts:=ts) (X:=X) (i4 hi) hg with h | ⟨h3,h1⟩
    · have a3:=gen_sl (ts:=ts) (e:=X) hg
      have m3:inn X * 170≤2 * 170:=Nat.mul_le_mul_right _ (i4 hi)
      exact fin (2+381) 382 (Nat.add_le_add_left h 2) (Nat.max_le.mpr ⟨Nat.add_le_add_left h 1,Nat.le_trans a3 (Nat.max_le.mpr ⟨by decide,Nat.le_trans m3 (by decide)⟩)⟩) (by decide)
    · have:=three_rep L h1 h3 r' rfl (Nat.zero_add _).symm
      omega
end
end LY.Internal
end

section
open PySem
namespace LY.Internal
inductive Dg (at':Ex→Nat→Prop) (sub:Nat→Option Ex):Ex→Nat→Nat→Prop
  | atom {e p}:at' e p→Dg at' sub e p (p+1)
  | name {j e p q}:sub j=some e→Dg at' sub e p q→Dg at' sub (.name j) p q
  | eps {p}:Dg at' sub .eps p p
  | seq {a b p q r}:Dg at' sub a p q→Dg at' sub b q r→Dg at' sub (.seq a b) p r
  | altL {a b p q}:Dg at' sub a p q→Dg at' sub (.alt a b) p q
  | altR {a b p q}:Dg at' sub b p q→Dg at' sub (.alt a b) p q
  | opt0 {a p}:Dg at' sub (.opt a) p p
  | opt1 {a p q}:Dg at' sub a p q→Dg at' sub (.opt a) p q
  | rep0 {a p}:Dg at' sub (.rep a) p p
  | rep1 {a p q r}:Dg at' sub a p q→p<q→Dg at' sub (.rep a) q r→Dg at' sub (.rep a) p r
noncomputable def rowAt (ts:List Ex) (row:List Str) (e:Ex) (p:Nat):Prop:=isTok ts.length e=true∧row[p]? = some (tokS e)
noncomputable def rowSub (ts:List Ex) (j:Nat):Option Ex:=if j<ts.length then some (T ts j) else none
noncomputable def isSym:Ex→Bool
  | .text _=>true
  | .name _=>true
  | _=>false
noncomputable def kidAt (len:Nat) (kids:List Kd) (e:Ex) (p:Nat):Prop:=isSym e=true∧∃ k,kids[p]? = some k∧k.nm=tokS e∧k.isLeaf=isTok len e
noncomputable def noSub (_:Nat):Option Ex:=none
theorem isTok_sym {len:Nat} {e:Ex} (h:isTok len e=true):isSym e=true:=by
  rcases isTok_inv h with ⟨s,rfl⟩ | ⟨j,rfl,_⟩ <;> rfl
noncomputable def kw:Ex→Nat
  | .text _=>1
  | .name _=>1
  | .eps=>0
  | .seq a b=>kw a+kw b
  | .alt a b=>max (kw a) (kw b)
  | .opt a=>kw a
  | .rep a=>kw a
noncomputable def kl:Ex→Nat
  | .text _=>0
  | .name _=>0
  | .eps=>0
  | .seq a b=>max (kl a) (kl b)
  | .alt a b=>max (kl a) (kl b)
  | .opt a=>kl a
  | .rep a=>max (kw a) (kl a)
theorem kin1 {a b x y:Nat} (h:a≤x+1) (h':b≤y+1):a+b≤1+x+y+1:=by omega
theorem kin2 {a b x y:Nat} (h:a≤x+1) (h':b≤y+1):max a b≤1+x+y+1:=by omega
theorem kin3 {a x:Nat} (h:a≤x+1):a≤1+x+1:=by omega
theorem kin4 {a b x y:Nat} (h:a≤x) (h':b≤y):max a b≤1+x+y:=by omega
theorem kw_le:∀ e:Ex,kw e≤inn e+1
  | .text _=>Nat.le_refl _
  | .name _=>Nat.le_refl _
  | .eps=>Nat.zero_le _
  | .seq a b=>kin1 (kw_le a) (kw_le b)
  | .alt a b=>kin2 (kw_le a) (kw_le b)
  | .opt a=>kin3 (kw_le a)
  | .rep a=>kin3 (kw_le a)
theorem kl_le:∀ e:Ex,kl e≤inn e
  | .text _=>Nat.le_refl _
  | .name _=>Nat.le_refl _
  | .eps=>Nat.zero_le _
  | .seq a b=>kin4 (kl_le a) (kl_le b)
  | .alt a b=>kin4 (kl_le a) (kl_le b)
  | .opt a=>Nat.le_trans (kl_le a) (Nat.le_add_left ..)
  | .rep a=>Nat.max_le.mpr ⟨Nat.le_trans (kw_le a) (Nat.le_of_eq (Nat.add_comm ..)),Nat.le_trans (kl_le a) (Nat.le_add_left ..)⟩
theorem cnt_seq {wa wb sa sb ka kb ca cb:Nat} (h1:ca≤wa+(ka-1) * sa) (h2:cb≤wb+(kb-1) * sb):ca+cb≤wa+wb+(ka+kb-1) * max sa sb:=by
  have:=cost_seq h1 h2
  omega
theorem cnt_rep {wa sa ka kb ca cb s:Nat} (hs:s=max wa sa) (hka:1≤ka) (h1:ca≤wa+(ka-1) * sa) (h2:cb≤wa+(kb-1) * s) (h3:kb=0→cb=0):ca+cb≤wa+(ka+kb-1) * s:=by
  have m1:(ka-1) * sa≤(ka-1) * s:=Nat.mul_le_mul_left _ (hs▸Nat.le_max_right ..)
  by_cases hk:kb=0
  · have:=h3 hk
    subst hk
    simp only [Nat.add_zero]
    omega
  · have e:(ka+kb-1) * s=(ka-1) * s+(kb-1) * s+s:=by
      rw [show ka+kb-1=(ka-1)+(kb-1)+1 by omega,Nat.add_mul,Nat.add_mul,Nat.one_mul]
    have:wa≤s:=hs▸Nat.le_max_left ..
    omega
theorem drop_take_add {α:Type} {l:List α} {p q r:Nat} (h1:p≤q) (h2:q≤r):(l.drop p).take (q-p)++(l.drop q).take (r-q)=(l.drop p).take (r-p):=by
  rw [show r-p=(q-p)+(r-q) by omega,List.take_add,List.drop_drop,show p+(q-p)=q by omega]
noncomputable def OkO (P:List Kd→Nat→Prop):Out→Prop
  | .ok l q=>P l q
  | .bad _=>True
section
variable {ts:List Ex} {em:List Str} {Fi:Nat→Str→Prop} {row:List Str}
theorem sz_add {a b c d:Nat} (h:a≤c) (h':b≤d):a+b≤1+c+d:=by omega
theorem sz_nd {a c:Nat} (h:a≤c):1+a+0≤c+2:=by omega
theorem run_count (L:Lang ts em Fi) {e:Ex} {p:Nat} {o:Out} {c:Nat} (r:Run ts em Fi row e p o c) :
    OkO (fun l q=>l.length≤kw e+(q-p-1) * kl e∧(∀ a,e=.rep a→q=p→l.length=0)∧Kd.szs l≤c) o:=by
  have htok:∀ e:Ex,isTok ts.length e=true→1≤kw e∧∀ a,e≠.rep a:=by
    intro e h
    cases e with
    | text _=>exact ⟨Nat.le_refl _,nofun⟩
    | name _=>exact ⟨Nat.le_refl _,nofun⟩
    | _=>exact absurd h Bool.false_ne_true
  induction r with
  | tok h1 h2=>have:=htok _ h1;exact ⟨Nat.le_trans this.1 (Nat.le_add_right ..),fun a e=>absurd e (this.2 a),Nat.le_refl 1⟩
  | tokBad=>trivial
  | @name j p o c hj _ ih =>
    cases o with
    | ok l q =>
      exact ⟨Nat.le_add_right 1 _,nofun,sz_nd ih.2.2⟩
    | bad q=>trivial
  | eps=>exact ⟨Nat.zero_le _,nofun,Nat.zero_le _⟩
  | @seq a b p la q ca o cb ra rb iha ihb =>
    cases o with
    | ok l q' =>
      have m1:=(run_move L ra).1
      have m2:=(run_move L rb).1
      dsimp only [po,pb] at m1 m2
      have h:=cnt_seq iha.1 ihb.1
      rw [show q-p+(q'-q)=q'-p by omega] at h
      refine ⟨by rw [List.length_append];exact h,nofun,?_⟩
      have h1:Kd.szs la≤ca:=iha.2.2
      have h2:Kd.szs l≤cb:=ihb.2.2
      exact (szs_app ..).symm▸sz_add h1 h2
    | bad q=>trivial
  | seqBad=>trivial
  | @altA a b p o c _ _ ih =>
    cases o with
    | ok l q =>
      refine ⟨?_,nofun,?_⟩
      · exact cost_up ih.1 (Nat.le_max_left ..) (Nat.le_max_left ..)
      · have:Kd.szs l≤c:=ih.2.2
        omega
    | bad q=>trivial
  | @altB a b p o c _ _ ih =>
    cases o with
    | ok l q =>
      refine ⟨?_,nofun,?_⟩
      · exact cost_up ih.1 (Nat.le_max_right ..) (Nat.le_max_right ..)
      · have:Kd.szs l≤c:=ih.2.2
        omega
    | bad q=>trivial
  | altBad=>trivial
  | @opt1 a p o c _ _ ih =>
    cases o with
    | ok l q =>
      refine ⟨ih.1,nofun,?_⟩
      have:Kd.szs l≤c:=ih.2.2
      omega
    | bad q=>trivial
  | opt0=>exact ⟨Nat.zero_le _,nofun,Nat.zero_le _⟩
  | @rep1 a p la q ca o cb h ra rb iha ihb =>
    cases o with
    | ok l q' =>
      have m1:=(run_move L ra).2.1 h
      have m2:=(run_move L rb).1
      dsimp only [po,pb] at m1 m2
      have h:=cnt_rep (s:=kl (.rep a)) rfl (by omega) iha.1 ihb.1 (fun e=>ihb.2.1 a rfl (by omega))
      rw [show q-p+(q'-q)=q'-p by omega] at h
      refine ⟨by rw [List.length_append];exact h,fun _ _ e=>by omega,?_⟩
      have h1:Kd.szs la≤ca:=iha.2.2
      have h2:Kd.szs l≤cb:=ihb.2.2
      exact (szs_app ..).symm▸sz_add h1 h2
    | bad q=>trivial
  | repBad=>trivial
  | rep0=>exact ⟨Nat.zero_le _,fun _ _ _=>rfl,Nat.zero_le _⟩
theorem run_toks (L:Lang ts em Fi) (hr:∀ x ∈ row,x ≠ ("eof":Str)) {e:Ex} {p:Nat} {o:Out} {c:Nat} (r:Run ts em Fi row e p o c):WfE e → p ≤ row.length → OkO (fun l q => Kd.tokss l = (row.drop p).take (q - p)) o:=by
  induction r with
  | @tok e p h1 h2 =>
    intro hw hp
    have hlt:=(tk_in (p:=p) hr).mp (by rw [h2];exact tok_ne_eof hw h1)
    show Kd.tokss [.leaf (tokS e) p]=_
    rw [show p+1-p=1 by omega,List.drop_eq_getElem_cons hlt]
    show [tokS e]=[row[p]]
    rw [← h2];delta tk;rw [List.getElem?_eq_getElem hlt];rfl
  | tokBad=>exact fun _ _=>trivial
  | @name j p o c hj _ ih =>
    intro hw hp
    have:=ih (L.W.wf j hj) hp
    cases o with
    | ok l q=>show Kd.tokss [.node j l]=_;exact (List.append_nil _).trans this
    | bad q=>trivial
  | eps=>intro _ _;show ([]:List Str)=_;simp
  | @seq a b p la q ca o cb ra rb iha ihb =>
    intro hw hp
    have h1:Kd.tokss la=_:=iha hw.1 hp
    have h2:=ihb hw.2 (run_end L hr ra hw.1 hp)
    have m1:=(run_move L ra).1
    have m2:=(run_move L rb).1
    cases o with
    | ok l q' =>
      dsimp only [po,pb] at m1 m2
      show Kd.tokss (la++l)=_
      rw [tokss_app,h1,show Kd.tokss l=_ from h2,drop_take_add m1 m2]
    | bad q=>trivial
  | seqBad=>exact fun _ _=>trivial
  | altA _ _ ih=>exact fun hw hp=>ih hw.1 hp
  | altB _ _ ih=>exact fun hw hp=>ih hw.2 hp
  | altBad=>exact fun _ _=>trivial
  | opt1 _ _ ih=>exact fun hw hp=>ih hw hp
  | opt0=>intro _ _;show ([]:List Str)=_;simp
  | @rep1 a p la q ca o cb h ra rb iha ihb =>
    intro hw hp
    have h1:Kd.tokss la=_:=iha hw hp
    have h2:=ihb hw (run_end L hr ra hw hp)
    have m1:=(run_move L ra).1
    have m2:=(run_move L rb).1
    cases o with
    | ok l q' =>
      dsimp only [po,pb] at m1 m2
      show Kd.tokss (la++l)=_
      rw [tokss_app,h1,show Kd.tokss l=_ from h2,drop_take_add m1 m2]
    | bad q=>trivial
  | repBad=>exact fun _ _=>trivial
  | rep0=>intro _ _;show ([]:List Str)=_;simp
theorem tk_some {p : Nat} (hr : ∀ x ∈ row, x ≠ ("eof" : Str)) {x : Str} (h : tk row p = x) (hx : x ≠ "eof") : row[p]? = some x := by
  have hlt:=(tk_in (p:=p) hr).mp (by rw [h];exact hx)
  rw [← h];delta tk;rw [List.getElem?_eq_getElem hlt];rfl
theorem run_dg (L:Lang ts em Fi) (hr:∀ x ∈ row,x ≠ ("eof":Str)) {e:Ex} {p:Nat} {o:Out} {c:Nat} (r:Run ts em Fi row e p o c):WfE e → OkO (fun _ q => Dg (rowAt ts row) (rowSub ts) e p q) o:=by
  induction r with
  | @tok e p h1 h2=>exact fun hw=>.atom ⟨h1,tk_some hr h2 (tok_ne_eof hw h1)⟩
  | tokBad=>exact fun _=>trivial
  | @name j p o c hj _ ih =>
    intro hw
    have:=ih (L.W.wf j hj)
    cases o with
    | ok l q=>exact .name (if_pos hj) this
    | bad q=>trivial
  | eps=>exact fun _=>.eps
  | @seq a b p la q ca o cb ra rb iha ihb =>
    intro hw
    have h1:=iha hw.1
    have h2:=ihb hw.2
    cases o with
    | ok l q'=>exact .seq h1 h2
    | bad q=>trivial
  | seqBad=>exact fun _=>trivial
  | @altA a b p o c _ _ ih =>
    intro hw
    have:=ih hw.1
    cases o with
    | ok l q=>exact .altL this
    | bad q=>trivial
  | @altB a b p o c _ _ ih =>
    intro hw
    have:=ih hw.2
    cases o with
    | ok l q=>exact .altR this
    | bad q=>trivial
  | altBad=>exact fun _=>trivial
  | @opt1 a p o c _ _ ih =>
    intro hw
    have:=ih hw
    cases o with
    | ok l q=>exact .opt1 this
    | bad q=>trivial
  | opt0=>exact fun _=>.opt0
  | @rep1 a p la q ca o cb h ra rb iha ihb =>
    intro hw
    have h1:=iha hw
    have h2:=ihb hw
    have m1:=(run_move L ra).2.1 h
    cases o with
    | ok l q'=>exact .rep1 h1 m1 h2
    | bad q=>trivial
  | repBad=>exact fun _=>trivial
  | rep0=>exact fun _=>.rep0
theorem run_kids (L:Lang ts em Fi) (hr:∀ x ∈ row,x ≠ ("eof":Str)) {e:Ex} {p:Nat} {o:Out} {c:Nat} (r:Run ts em Fi row e p o c):WfE e → p ≤ row.length →
    OkO (fun l _=>∀ pre post,Dg (kidAt ts.length (pre++(l++post))) noSub e pre.length (pre.length+l.length)) o:=by
  induction r with
  | @tok e p h1 h2=>exact fun hw _ pre post=>.atom ⟨isTok_sym h1,.leaf (tokS e) p,by simp,rfl,h1.symm⟩
  | tokBad=>exact fun _ _=>trivial
  | @name j p o c hj _ ih =>
    intro hw _
    cases o with
    | ok l q=>exact fun pre post=>.atom ⟨rfl,.node j l,by simp,rfl,(congrArg (!·) (decide_eq_true hj)).symm⟩
    | bad q=>trivial
  | eps=>exact fun _ _ pre post=>.eps
  | @seq a b p la q ca o cb ra rb iha ihb =>
    intro hw hp
    have h1:=iha hw.1 hp
    have h2:=ihb hw.2 (run_end L hr ra hw.1 hp)
    cases o with
    | ok l q' =>
      intro pre post
      have a1:=h1 pre (l++post)
      have a2:=h2 (pre++la) post
      simp only [List.append_assoc,List.length_append,Nat.add_assoc] at a1 a2 ⊢
      exact .seq a1 a2
    | bad q=>trivial
  | seqBad=>exact fun _ _=>trivial
  | @altA a b p o c _ _ ih =>
    intro hw hp
    have:=ih hw.1 hp
    cases o with
    | ok l q=>exact fun pre post=>.altL (this pre post)
    | bad q=>trivial
  | @altB a b p o c _ _ ih =>
    intro hw hp
    have:=ih hw.2 hp
    cases o with
    | ok l q=>exact fun pre post=>.altR (this pre post)
    | bad q=>trivial
  | altBad=>exact fun _ _=>trivial
  | @opt1 a p o c _ _ ih =>
    intro hw hp
    have:=ih hw hp
    cases o with
    | ok l q=>exact fun pre post=>.opt1 (this pre post)
    | bad q=>trivial
  | opt0=>exact fun _ _ pre post=>.opt0
  | @rep1 a p la q ca o cb h ra rb iha ihb =>
    intro hw hp
    have h1:=iha hw hp
    have h2:=ihb hw (run_end L hr ra hw hp)
    have m1:=(run_move L ra).2.1 h
    have he:=run_end L hr ra hw hp
    have ht:Kd.tokss la=_:=run_toks L hr ra hw hp
    dsimp only [po,pb] at m1 he
    have hne:0<la.length:=by
      cases la with
      | nil =>
        have:=congrArg List.length ht
        rw [List.length_take,List.length_drop] at this
        exact absurd this (by show ¬ 0=_;omega)
      | cons=>simp
    cases o with
    | ok l q' =>
      intro pre post
      have a1:=h1 pre (l++post)
      have a2:=h2 (pre++la) post
      simp only [List.append_assoc,List.length_append,Nat.add_assoc] at a1 a2 ⊢
      exact .rep1 a1 (by omega) a2
    | bad q=>trivial
  | repBad=>exact fun _ _=>trivial
  | rep0=>exact fun _ _ pre post=>.rep0
mutual
noncomputable def Good (ts:List Ex):Nat→Kd→Prop
  | _,.leaf t _=>∀ j,j<ts.length→t≠rn j
  | r,.node j l=>r≤j∧j<ts.length∧Dg (kidAt ts.length l) noSub (T ts j) 0 l.length∧l.length≤40∧Goods ts (j+1) l
noncomputable def Goods (ts:List Ex):Nat→List Kd→Prop
  | _,[]=>True
  | r,k::l=>Good ts r k∧Goods ts r l
end
theorem goods_app {r:Nat}:∀ {l l':List Kd},Goods ts r l→Goods ts r l'→Goods ts r (l++l')
  | [],_,_,h=>h
  | _::_,_,h,h'=>⟨h.1,goods_app h.2 h'⟩
theorem tok_no_rule {e:Ex} (hw:WfE e) (h:isTok ts.length e=true) (h4:ts.length≤9):∀ j,j<ts.length→tokS e≠rn j:=by
  intro j hj
  rcases isTok_inv h with ⟨s,rfl⟩ | ⟨i,rfl,hi⟩
  · have hw : s ∈ [("p" : Str), "q", "r", "s"] := hw
    simp only [List.mem_cons,List.not_mem_nil,or_false] at hw
    intro h
    have h:=congrArg (fun s:Str=>s.cps.size) h
    have e:((rn j).cps).size=2:=by
      show ((Str.cps ("R":Str)) ++ #[48 + (j:Int).toNat]).size = _
      rw [show Str.cps ("R":Str) = #[82] by decide +kernel]
      simp
    simp only [e] at h
    rcases hw with rfl | rfl | rfl | rfl <;> revert h <;> decide +kernel
  · intro e
    exact hi (rn_inj e▸hj)
theorem run_good (L:Lang ts em Fi) (hr:∀ x ∈ row,x ≠ ("eof":Str)) (h13:row.length ≤ 13) {e:Ex} {p:Nat} {o:Out} {c:Nat} (r:Run ts em Fi row e p o c):WfE e → p ≤ row.length → ∀ k,(∀ j,NameIn j e → k ≤ j) → OkO (fun l _ => Goods ts k l) o:=by
  induction r with
  | @tok e p h1 h2=>exact fun hw _ k _=>⟨tok_no_rule hw h1 (by have:=L.W.four;omega),trivial⟩
  | tokBad=>exact fun _ _ _ _=>trivial
  | @name j p o c hj r ih =>
    intro hw hp k hk
    have i1:=ih (L.W.wf j hj) hp (j+1) (fun i hi=>L.W.gt j hj i hi)
    have i2:=run_kids L hr r (L.W.wf j hj) hp
    have i3:=run_count L r
    have i4:=run_end L hr r (L.W.wf j hj) hp
    cases o with
    | ok l q =>
      dsimp only [po,pb] at i4
      refine ⟨⟨hk j rfl,hj,?_,?_,i1⟩,trivial⟩
      · have:=i2 [] []
        simpa using this
      · have h1:=i3.1
        have h2:=kw_le (T ts j)
        have h3:=kl_le (T ts j)
        have h4:=L.W.inn j hj
        have h5:(q-p-1) * kl (T ts j)≤12 * 3:=Nat.mul_le_mul (by omega) (by omega)
        omega
    | bad q=>trivial
  | eps=>exact fun _ _ _ _=>trivial
  | @seq a b p la q ca o cb ra rb iha ihb =>
    intro hw hp k hk
    have h1:=iha hw.1 hp k fun j hj=>hk j (Or.inl hj)
    have h2:=ihb hw.2 (run_end L hr ra hw.1 hp) k fun j hj=>hk j (Or.inr hj)
    cases o with
    | ok l q'=>exact goods_app h1 h2
    | bad q=>trivial
  | seqBad=>exact fun _ _ _ _=>trivial
  | altA _ _ ih=>exact fun hw hp k hk=>ih hw.1 hp k fun j hj=>hk j (Or.inl hj)
  | altB _ _ ih=>exact fun hw hp k hk=>ih hw.2 hp k fun j hj=>hk j (Or.inr hj)
  | altBad=>exact fun _ _ _ _=>trivial
  | opt1 _ _ ih=>exact fun hw hp k hk=>ih hw hp k hk
  | opt0=>exact fun _ _ _ _=>trivial
  | @rep1 a p la q ca o cb h ra rb iha ihb =>
    intro hw hp k hk
    have h1:=iha hw hp k hk
    have h2:=ihb hw (run_end L hr ra hw hp) k hk
    cases o with
    | ok l q'=>exact goods_app h1 h2
    | bad q=>trivial
  | repBad=>exact fun _ _ _ _=>trivial
  | rep0=>exact fun _ _ _ _=>trivial
theorem dg_fst (L:Lang ts em Fi) {e:Ex} {p q:Nat} (d:Dg (rowAt ts row) (rowSub ts) e p q):p≤q∧(p<q→fst ts.length em Fi e (tk row p))∧(p=q→nul em e=true):=by
  induction d with
  | @atom e p h =>
    refine ⟨Nat.le_succ _,fun _=>(fst_tok e h.1 _).mpr ?_,fun h=>by omega⟩
    exact congrArg (·.getD "eof") h.2
  | @name j e p q h _ ih =>
    unfold rowSub at h
    by_cases hj:j<ts.length
    · rw [if_pos hj] at h
      cases h
      refine ⟨ih.1,fun h=>?_,fun h=>?_⟩
      · rw [show fst ts.length em Fi (.name j) (tk row p)=_ from if_pos hj];exact (L.fi j _ hj).mpr (ih.2.1 h)
      · exact decide_eq_true ((L.em2 j hj).mpr (ih.2.2 h))
    · rw [if_neg hj] at h;cases h
  | eps=>exact ⟨Nat.le_refl _,fun h=>absurd h (Nat.lt_irrefl _),fun _=>rfl⟩
  | @seq a b p q r _ _ iha ihb =>
    refine ⟨Nat.le_trans iha.1 ihb.1,fun h=>?_,fun h=>?_⟩
    · by_cases hpq:p<q
      · exact Or.inl (iha.2.1 hpq)
      · have e:p=q:=by have:=iha.1;omega
        subst e
        exact Or.inr ⟨iha.2.2 rfl,ihb.2.1 h⟩
    · have:=iha.1
      have:=ihb.1
      simp only [nulS,iha.2.2 (by omega),ihb.2.2 (by omega),Bool.and_self]
  | altL _ ih=>exact ⟨ih.1,fun h=>Or.inl (ih.2.1 h),fun h=>by simp only [nulA,ih.2.2 h,Bool.true_or]⟩
  | altR _ ih=>exact ⟨ih.1,fun h=>Or.inr (ih.2.1 h),fun h=>by simp only [nulA,ih.2.2 h,Bool.or_true]⟩
  | opt0=>exact ⟨Nat.le_refl _,fun h=>absurd h (Nat.lt_irrefl _),fun _=>rfl⟩
  | opt1 _ ih=>exact ⟨ih.1,fun h=>ih.2.1 h,fun _=>rfl⟩
  | rep0=>exact ⟨Nat.le_refl _,fun h=>absurd h (Nat.lt_irrefl _),fun _=>rfl⟩
  | @rep1 a p q r _ hpq _ iha ihb=>exact ⟨Nat.le_trans iha.1 ihb.1,fun _=>iha.2.1 hpq,fun _=>rfl⟩
theorem ll_run (L:Lang ts em Fi) {W:Nat→Str→Prop} (hL:∀ j,j<ts.length→LL1 ts.length em Fi (T ts j) (W j)) (hF:∀ j,j<ts.length→FC ts.length em Fi W (T ts j) (W j)) {e:Ex} {p q:Nat} (d:Dg (rowAt ts row) (rowSub ts) e p q) :
    ∀ S:Str→Prop,LL1 ts.length em Fi e S→FC ts.length em Fi W e S→S (tk row q)→∃ l c,Run ts em Fi row e p (.ok l q) c:=by
  induction d with
  | @atom e p h => exact fun S _ _ _ => ⟨_,_,.tok h.1 (congrArg (·.getD "eof") h.2)⟩
  | @name j e p q h _ ih =>
    unfold rowSub at h
    by_cases hj:j<ts.length
    · rw [if_pos hj] at h
      cases h
      intro S _ hf hs
      obtain ⟨l,c,r⟩:=ih (W j) (hL j hj) (hF j hj) (hf hj _ hs)
      exact ⟨_,_,.name hj r⟩
    · rw [if_neg hj] at h;cases h
  | eps=>exact fun S _ _ _=>⟨_,_,.eps⟩
  | @seq a b p q r da db iha ihb =>
    intro S hl hf hs
    have fb:=dg_fst L db
    obtain ⟨l1,c1,r1⟩:=iha _ hl.1 hf.1 (by
      by_cases h:q<r
      · exact Or.inl (fb.2.1 h)
      · have e:q=r:=by have:=fb.1;omega
        subst e
        exact Or.inr ⟨fb.2.2 rfl,hs⟩)
    obtain ⟨l2,c2,r2⟩:=ihb S hl.2 hf.2 hs
    exact ⟨_,_,.seq r1 r2⟩
  | @altL a b p q da ih =>
    intro S hl hf hs
    have fa:=dg_fst L da
    obtain ⟨l1,c1,r1⟩:=ih S hl.2.1 hf.1 hs
    refine ⟨_,_,.altA ?_ r1⟩
    by_cases h:p<q
    · exact Or.inl (fa.2.1 h)
    · have e:p=q:=by have:=fa.1;omega
      subst e
      have hn:=fa.2.2 rfl
      exact Or.inr ⟨fun hb=>hl.1 _ (Or.inr ⟨hn,hs⟩) (Or.inl hb),hn⟩
  | @altR a b p q db ih =>
    intro S hl hf hs
    have fb:=dg_fst L db
    obtain ⟨l1,c1,r1⟩:=ih S hl.2.2 hf.2 hs
    refine ⟨_,_,.altB ?_ r1⟩
    by_cases h:p<q
    · have h':=fb.2.1 h
      exact ⟨fun ha=>hl.1 _ (Or.inl ha) (Or.inl h'),Or.inl h'⟩
    · have e:p=q:=by have:=fb.1;omega
      subst e
      have hn:=fb.2.2 rfl
      refine ⟨fun ha=>hl.1 _ (Or.inl ha) (Or.inr ⟨hn,hs⟩),Or.inr ⟨?_,hn⟩⟩
      cases hna:nul em a with
      | false=>rfl
      | true=>exact absurd (Or.inr ⟨hn,hs⟩) (hl.1 (tk row p) (Or.inr ⟨hna,hs⟩))
  | @opt0 a p=>exact fun S hl _ hs=>⟨_,_,.opt0 fun h=>hl.2.1 _ h hs⟩
  | @opt1 a p q da ih =>
    intro S hl hf hs
    have fa:=dg_fst L da
    obtain ⟨l1,c1,r1⟩:=ih S hl.2.2 hf hs
    by_cases h:p<q
    · exact ⟨_,_,.opt1 (fa.2.1 h) r1⟩
    · have:=fa.2.2 (by have:=fa.1;omega)
      rw [hl.1] at this;cases this
  | @rep0 a p=>exact fun S hl _ hs=>⟨_,_,.rep0 fun h=>hl.2.1 _ h hs⟩
  | @rep1 a p q r da hpq db iha ihb =>
    intro S hl hf hs
    have fa:=dg_fst L da
    have fb:=dg_fst L db
    obtain ⟨l1,c1,r1⟩:=iha _ hl.2.2 hf (by
      by_cases h:q<r
      · exact Or.inl (fb.2.1 h)
      · have e:q=r:=by have:=fb.1;omega
        subst e
        exact Or.inr ⟨fb.2.2 rfl,hs⟩)
    obtain ⟨l2,c2,r2⟩:=ihb S hl hf hs
    exact ⟨_,_,.rep1 (fa.2.1 hpq) r1 r2⟩
end
end LY.Internal
end

section
open PySem
namespace LY.Internal
variable {C:CallP} {m:Lo} {H:Hp} {ts:List Ex} {em:List (Str × AV)} {kt ke kf ko kg kw':Nat} {gs:List (Str × AV)} {fr fw:Nat→Nat} {Fi:Nat→Str→Prop} {row:List Str}
theorem token_at_ok {n p:Nat} {Q:QV} (hn:0<n) (q:Q (.str (tk row p)) H):callN fdt n .token_at [.lst (row.map .str),.int (p:Int)] H Q:=by
  refine callS (by omega) rfl fun n en=>?_
  by_cases hp:p<row.length
  · refine s_ifT (C:=callN fdt n) (v_cmp rfl (v_len rfl (congrArg some (List.length_map _))) (yes (Int.ofNat_lt.mpr hp))) (s_ret (v_sub rfl rfl (at_seq (v:=.str row[p]) rfl (by rw [List.getElem?_map,List.getElem?_eq_getElem hp];rfl))) (retI ?_))
    rwa [show tk row p=row[p] by unfold tk;rw [List.getElem?_eq_getElem hp];rfl] at q
  · refine s_no (C:=callN fdt n) (v_cmp rfl (v_len rfl (congrArg some (List.length_map _))) (no fun h=>hp (Int.ofNat_lt.mp h))) (s_ret (v:=END) rfl (retI ?_))
    rwa [show tk row p = "eof" by unfold tk; rw [List.getElem?_eq_none (Nat.not_lt.mp hp)]; rfl] at q
theorem e_inFirst {n:Nat} {e:Ex} {t:Str} {Q:QV} {it tok:ME} (G:GC ts em kt ke kf ko kg gs fr Fi H) (hn:e.size+3<n) (hw:WfE e) (h0:m.at 0=some (.obj .grammar kg)) (hi:evE it m H=some e.av) (ht:∀ H',H.le H'→evE tok m H'=some (.str t))
    (qT:fst ts.length (ks em) Fi e t→∀ H',H.le H'→Q (.bool true) H') (qF:¬ fst ts.length (ks em) Fi e t→∀ H',H.le H'→Q (.bool false) H'):vcE (callN fdt n) (.cmp .isin tok (.meth .first (.var 0) (.cons it .nil))) m H Q:=by
  refine evE_ok (C:=callN fdt n) tok (ht H (Hp.le_refl H)) ?_
  refine e_meth (c:=.grammar) (k:=kg) (fs:=gs) (x:=.obj .grammar kg) (vs:=[e.av]) h0 ⟨rfl,rfl,G.h,G.fst0⟩ (evp_cons hi rfl) (firstm_ok G hn hw fun k H' l hle hk _ hK=>?_)
  by_cases hf:fst ts.length (ks em) Fi e t
  · exact ⟨true,(in_dS hk).trans (yes ((hK.2 t).mpr hf)),qT hf H' hle⟩
  · exact ⟨false,(in_dS hk).trans (no fun x=>hf ((hK.2 t).mp x)),qF hf H' hle⟩
theorem e_notinFirst {n:Nat} {e:Ex} {t:Str} {Q:QV} {it tok:ME} (G:GC ts em kt ke kf ko kg gs fr Fi H) (hn:e.size+3<n) (hw:WfE e) (h0:m.at 0=some (.obj .grammar kg)) (hi:evE it m H=some e.av) (ht:∀ H',H.le H'→evE tok m H'=some (.str t))
    (qT:fst ts.length (ks em) Fi e t→∀ H',H.le H'→Q (.bool false) H') (qF:¬ fst ts.length (ks em) Fi e t→∀ H',H.le H'→Q (.bool true) H'):vcE (callN fdt n) (.cmp .notin tok (.meth .first (.var 0) (.cons it .nil))) m H Q:=by
  refine evE_ok (C:=callN fdt n) tok (ht H (Hp.le_refl H)) ?_
  refine e_meth (c:=.grammar) (k:=kg) (fs:=gs) (x:=.obj .grammar kg) (vs:=[e.av]) h0 ⟨rfl,rfl,G.h,G.fst0⟩ (evp_cons hi rfl) (firstm_ok G hn hw fun k H' l hle hk _ hK=>?_)
  by_cases hf:fst ts.length (ks em) Fi e t
  · exact ⟨false,congrArg (Option.map (!·)) ((in_dS hk).trans (yes ((hK.2 t).mpr hf))),qT hf H' hle⟩
  · exact ⟨true,congrArg (Option.map (!·)) ((in_dS hk).trans (no fun x=>hf ((hK.2 t).mp x))),qF hf H' hle⟩
theorem s_forT {t:MT} {src:ME} {b:MSs} {ms:MSs} {Q:QF} {l:List AV} (h:evE src m H=some (.tup l))
    (q:forL (vcSs C b) (fun _=>True) t l m H (kont (vcSs C ms) Q)):vcSs C (.cons (.for t src b) ms) m H Q:=evE_ok (C:=C) src h ⟨l,rfl,q⟩
theorem e_nullable {n:Nat} {e:Ex} {Q:QV} {it:ME} (G:GC ts em kt ke kf ko kg gs fr Fi H) (hn:e.size+1<n) (h0:m.at 0=some (.obj .grammar kg)) (hi:evE it m H=some e.av) (q:Q (.bool (nul (ks em) e)) H) :
    vcE (callN fdt n) (.meth .nullable (.var 0) (.cons it .nil)) m H Q:=by
  exact e_meth (c:=.grammar) (k:=kg) (fs:=gs) (x:=.obj .grammar kg) (vs:=[e.av]) h0 ⟨rfl,rfl,G.h,G.nul0⟩ (evp_cons hi rfl) (nullable_ok G hn q)
theorem chosen_ok {n:Nat} {a b:Ex} {t:Str} {Q:QV} (G:GC ts em kt ke kf ko kg gs fr Fi H) (hn:a.size+b.size+4<n) (hwa:WfE a) (hwb:WfE b)
    (qA:pickA ts (ks em) Fi a b t→∀ H',H.le H'→Q a.av H') (qB:pickB ts (ks em) Fi a b t→∀ H',H.le H'→Q b.av H')
    (qN:¬ fst ts.length (ks em) Fi a t→¬ fst ts.length (ks em) Fi b t→nul (ks em) a=false→nul (ks em) b=false→∀ H',H.le H'→Q .none H') :
    callN fdt n .chosen [.obj .grammar kg,(Ex.alt a b).av,.str t] H Q:=by
  refine callS (by omega) rfl fun n en=>(s_forT (l:=[a.av,b.av]) rfl ⟨trivial,_,rfl,?_⟩)
  refine s_ifR (e_inFirst (e:=a) (t:=t) G (by omega) hwa rfl rfl (fun _ _=>rfl) (fun hf H' hle=>Or.inl ⟨rfl,s_ret (v:=a.av) rfl (retI (qA (Or.inl hf) H' hle))⟩) (fun hfa H1 hle1=>Or.inr ⟨rfl,s_nil (s_nil ⟨trivial,_,rfl,?_⟩)⟩))
  refine s_ifR (e_inFirst (e:=b) (t:=t) (G.le hle1) (by omega) hwb rfl rfl (fun _ _=>rfl) (fun hf H' hle=>Or.inl ⟨rfl,s_ret (v:=b.av) rfl (retI (qB ⟨hfa,Or.inl hf⟩ H' (Hp.le_trans hle1 hle)))⟩) (fun hfb H2 hle2=>Or.inr ⟨rfl,s_nil (s_nil ⟨trivial,?_⟩)⟩))
  have hle12:=Hp.le_trans hle1 hle2
  refine s_forT (l:=[a.av,b.av]) rfl ⟨trivial,_,rfl,?_⟩
  refine s_ifR (e_nullable (e:=a) (G.le hle12) (by omega) rfl rfl ?_)
  cases hna:nul (ks em) a with
  | true=>exact Or.inl ⟨rfl,s_ret (v:=a.av) rfl (retI (qA (Or.inr ⟨hfb,hna⟩) H2 hle12))⟩
  | false =>
    refine Or.inr ⟨rfl,s_nil (s_nil ⟨trivial,_,rfl,?_⟩)⟩
    refine s_ifR (e_nullable (e:=b) (G.le hle12) (by omega) rfl rfl ?_)
    cases hnb:nul (ks em) b with
    | true=>exact Or.inl ⟨rfl,s_ret (v:=b.av) rfl (retI (qB ⟨hfa,Or.inr ⟨hna,hnb⟩⟩ H2 hle12))⟩
    | false=>exact Or.inr ⟨rfl,s_nil (s_nil ⟨trivial,s_ret (v:=.none) rfl (retI (qN hfa hfb hna hnb H2 hle12))⟩)⟩
theorem expanded_eps {n:Nat} {t:Str} {Q:QV} (hn:0<n) (q:Q (.lst []) H):callN fdt n .expanded [.obj .grammar kg,Ex.eps.av,.str t] H Q:=by
  exact callS (by omega) rfl fun n en=>(s_assign rfl rfl (s_ifT (by kernel_rfl!) (s_ret (v:=.lst []) rfl (retI q))))
theorem expanded_seq {n:Nat} {a b:Ex} {t:Str} {Q:QV} (hn:0<n) (q:Q (.lst [b.av,a.av]) H):callN fdt n .expanded [.obj .grammar kg,(Ex.seq a b).av,.str t] H Q:=by
  exact callS (by omega) rfl fun n en=>(s_assign rfl rfl (s_ifT (by kernel_rfl!) (s_ret (v:=.lst [b.av,a.av]) rfl (retI q))))
theorem av_notNone (e:Ex):isNoneAV e.av=false:=by cases e <;> rfl
theorem expanded_alt {n:Nat} {a b:Ex} {t:Str} {Q:QV} (G:GC ts em kt ke kf ko kg gs fr Fi H) (hn:a.size+b.size+5<n) (hwa:WfE a) (hwb:WfE b)
    (qA:pickA ts (ks em) Fi a b t→Q (.lst [a.av]) H) (qB:pickB ts (ks em) Fi a b t→Q (.lst [b.av]) H)
    (qN:¬ fst ts.length (ks em) Fi a t→¬ fst ts.length (ks em) Fi b t→nul (ks em) a=false→nul (ks em) b=false→Q .none H) :
    callN fdt n .expanded [.obj .grammar kg,(Ex.alt a b).av,.str t] H Q:=by
  refine callS (by omega) rfl fun n en=>(s_assign rfl rfl (s_no (by kernel_rfl!) (s_ifT (by kernel_rfl!) ?_)))
  refine s_assignE (e_call (C:=callN fdt n) (vs:=[.obj .grammar kg,(Ex.alt a b).av,.str t]) rfl (chosen_ok G (by omega) hwa hwb ?_ ?_ ?_))
  · exact fun h H' hle=>⟨Nat.le_of_ble_eq_true rfl,s_ret (v:=.lst [a.av]) (v_iteF (v_isNone rfl (av_notNone _)) rfl) (dropI hle (qA h))⟩
  · exact fun h H' hle=>⟨Nat.le_of_ble_eq_true rfl,s_ret (v:=.lst [b.av]) (v_iteF (v_isNone rfl (av_notNone _)) rfl) (dropI hle (qB h))⟩
  · exact fun h1 h2 h3 h4 H' hle=>⟨Nat.le_of_ble_eq_true rfl,s_ret (v:=.none) rfl (dropI hle (qN h1 h2 h3 h4))⟩
theorem expanded_opt {n:Nat} {a:Ex} {t:Str} {Q:QV} (G:GC ts em kt ke kf ko kg gs fr Fi H) (hn:a.size+4<n) (hwa:WfE a) (qT:fst ts.length (ks em) Fi a t→Q (.lst [a.av]) H) (qF:¬ fst ts.length (ks em) Fi a t→Q (.lst []) H) :
    callN fdt n .expanded [.obj .grammar kg,(Ex.opt a).av,.str t] H Q:=by
  refine callS (by omega) rfl fun n en=>(s_assign rfl rfl (s_no (by kernel_rfl!) (s_no (by kernel_rfl!) ?_)))
  refine s_ifR (e_notinFirst (e:=a) (t:=t) G (by omega) hwa rfl rfl (fun _ _=>rfl) (fun hf H' hle=>Or.inr ⟨rfl,s_nil (s_no (by kernel_rfl!) (s_ret (v:=.lst [a.av]) rfl (dropI hle (qT hf))))⟩) (fun hf H' hle=>Or.inl ⟨rfl,s_ret (v:=.lst []) rfl (dropI hle (qF hf))⟩))
theorem expanded_rep {n:Nat} {a:Ex} {t:Str} {Q:QV} (G:GC ts em kt ke kf ko kg gs fr Fi H) (hn:a.size+4<n) (hwa:WfE a) (qT:fst ts.length (ks em) Fi a t→Q (.lst [(Ex.rep a).av,a.av]) H) (qF:¬ fst ts.length (ks em) Fi a t→Q (.lst []) H) :
    callN fdt n .expanded [.obj .grammar kg,(Ex.rep a).av,.str t] H Q:=by
  refine callS (by omega) rfl fun n en=>(s_assign rfl rfl (s_no (by kernel_rfl!) (s_no (by kernel_rfl!) ?_)))
  refine s_ifR (e_notinFirst (e:=a) (t:=t) G (by omega) hwa rfl rfl (fun _ _=>rfl) (fun hf H' hle=>Or.inr ⟨rfl,s_nil (s_ifT (by kernel_rfl!) (s_ret (v:=.lst [(Ex.rep a).av,a.av]) rfl (dropI hle (qT hf))))⟩) (fun hf H' hle=>Or.inl ⟨rfl,s_ret (v:=.lst []) rfl (dropI hle (qF hf))⟩))
noncomputable def Told (k:Nat) (tree place:AV) (H:Hp):Prop:=∃ fs,H k = some (.ins fs) ∧ getK fs "tree" = some tree ∧ getK fs "place" = some place
theorem rInit_ok {n k:Nat} {tr pl wa:AV} {Q:QV} {H0:Hp} (hn:0<n) (hk:H0 k=none) (q:∀ H',H0.le H'→Told k tr pl H'→Q .none H'):callN fdt n .rInit [.obj .recognised k,tr,pl,wa] (H0.set k (.ins [])) Q:=by
  refine callS (by omega) rfl fun n en=>?_
  refine s_setAttrE (evE_ok (C:=callN fdt n) (.var 1) (v:=tr) rfl <| e_setAttr (c:=.recognised) (k:=k) (l:=[]) rfl (Hp.set_self ..) (Nat.le_of_ble_eq_true rfl) ?_)
  refine s_setAttrE (evE_ok (C:=callN fdt n) (.var 2) (v:=pl) rfl <| e_setAttr (c:=.recognised) (k:=k) rfl (Hp.set_self ..) (Nat.le_of_ble_eq_true rfl) ?_)
  refine s_setAttrE (evE_ok (C:=callN fdt n) (.var 3) (v:=wa) rfl <| e_setAttr (c:=.recognised) (k:=k) rfl (Hp.set_self ..) (Nat.le_of_ble_eq_true (by kernel_rfl!)) ?_)
  refine s_nil (retI (q _ (le_set_ne (le_set_ne (le_set_ne (Hp.le_set _ hk) hk) hk) hk) ⟨_,Hp.set_self ..,by kernel_rfl!,by kernel_rfl!⟩))
end LY.Internal
end

section
open PySem
set_option genInjectivity false
namespace LY.Internal
variable {C:CallP} {m:Lo} {H:Hp} {ts:List Ex} {em:List (Str × AV)} {kt ke kf ko kg:Nat} {gs:List (Str × AV)} {fr fw:Nat→Nat} {Fi:Nat→Str→Prop} {row:List Str}
noncomputable def rcA:MSs:=.cons (.unpack 9 10 (.pop (.var 4)))
  (.cons (.expr (.append (.sub (.sub (.var 4) (.int (-1))) (.int 1)) (.tup (.cons (.var 9) (.cons (.tuple (.var 10)) .nil))))) .nil)
noncomputable def rcB:MSs:=.cons (.ifs (.cmp .ne (.var 8) (.call .token_of (.cons (.var 7) (.cons (.attr (.var 0) "table") .nil)))) (.cons (.ret (.new .recognised (.cons .none (.cons (.var 5) (.cons (.lstF (.cons (.call .token_of (.cons (.var 7) (.cons (.attr (.var 0) "table") .nil))) .nil)) .nil)))))
  .nil) .nil)
  (.cons (.expr (.append (.sub (.sub (.var 4) (.int (-1))) (.int 1)) (.tup (.cons (.var 8) (.cons (.var 5) .nil)))))
  (.cons (.assign 5 (.bin .add (.var 5) (.int 1)))
  .nil))
noncomputable def rcC:MSs:=.cons (.expr (.append (.var 4) (.tup (.cons (.sub (.var 7) (.int 1)) (.cons (.lstD .nil) .nil)))))
  (.cons (.expr (.append (.var 3) .gClose))
  (.cons (.expr (.append (.var 3) (.sub (.attr (.var 0) "table") (.sub (.var 7) (.int 1)))))
  .nil))
noncomputable def rcD:MSs:=.cons (.assign 11 (.call .expanded (.cons (.var 0) (.cons (.var 7) (.cons (.var 8) .nil)))))
  (.cons (.ifs (.isNone (.var 11)) (.cons (.ret (.new .recognised (.cons .none (.cons (.var 5) (.cons (.sorted (.meth .first (.var 0) (.cons (.var 7) .nil))) .nil)))))
  .nil) .nil)
  (.cons (.expr (.extend (.var 3) (.var 11)))
  .nil))
noncomputable def rcTail:MSs:=.cons (.ifs (.cmp .eq (.var 7) .gClose) rcA (.cons (.ifs (.call .is_token (.cons (.var 7) (.cons (.attr (.var 0) "table") .nil))) rcB (.cons (.ifs (.cmp .eq (.sub (.var 7) (.int 0)) (.str "name")) rcC rcD) .nil)) .nil)) .nil
noncomputable def rcCond:ME:=.cmp .gt (.len (.var 3)) (.int 0)
noncomputable def rcBody:MSs:=.cons (.assign 6 (.bin .add (.var 6) (.int 1)))
  (.cons (.ifs (.cmp .gt (.var 6) (.var 2)) (.cons .raise .nil) .nil)
  (.cons (.assign 7 (.pop (.var 3)))
  (.cons (.assign 8 (.call .token_at (.cons (.var 1) (.cons (.var 5) .nil)))) rcTail)))
noncomputable def rcEnd:MSs:=.cons (.ifs (.cmp .lt (.var 5) (.len (.var 1))) (.cons (.ret (.new .recognised (.cons .none (.cons (.var 5) (.cons (.lstF (.cons .gEnd .nil)) .nil)))))
  .nil) .nil)
  (.cons (.ret (.new .recognised (.cons (.sub (.sub (.sub (.var 4) (.int 0)) (.int 1)) (.int 0)) (.cons (.var 5) (.cons (.lstF .nil) .nil)))))
  .nil)
theorem b_rec_eq:b_recognise = .cons (.assign 3 (.lstD (.cons (.tup (.cons (.str "name") (.cons (.attr (.var 0) "start") .nil))) .nil)))
  (.cons (.assign 4 (.lstD (.cons (.tup (.cons (.str "") (.cons (.lstD .nil) .nil))) .nil)))
  (.cons (.assign 5 (.int 0)) (.cons (.assign 6 (.int 0)) (.cons (.while rcCond rcBody) rcEnd)))):=rfl
set_option genCtorIdx false
inductive It | e (x:Ex) | close
noncomputable def It.ctorIdx (x:It):Nat:=x.casesOn (fun _=>0) 1
noncomputable def It.av:It→AV
  | .e x=>x.av
  | .close=>CLOSE
abbrev NE:=Str × Nat × List Kd
noncomputable def neAV (x:NE):AV:=.tup [.str x.1,.ref x.2.1]
theorem mem_last {α:Type} {l:List α} {a:α}:a∈l++[a]:=List.mem_append_right _ (List.mem_singleton.mpr rfl)
structure RSt (H0:Hp) (kW kN:Nat) (W:List It) (N:List NE) (s:Nat) (H:Hp):Prop where
  le:H0.le H
  w0:H0 kW=none
  n0:H0 kN=none
  ne:kW≠kN
  hW:H kW=some (.list (W.map It.av))
  hN:H kN=some (.list (N.map neAV))
  hk:∀ x∈N,H x.2.1=some (.list (Kd.avs x.2.2))∧H0 x.2.1=none∧x.2.1≠kW∧x.2.1≠kN
  nd:(N.map (·.2.1)).Nodup
  wl:W.length≤2 * s+1
  nl:N.length≤s+1
  kl:∀ x∈N,x.2.2.length≤s
variable {H0:Hp} {kW kN:Nat}
theorem RSt.more {W:List It} {N:List NE} {s s':Nat} (R:RSt H0 kW kN W N s H) (h:s≤s'):RSt H0 kW kN W N s' H :=
  ⟨R.le,R.w0,R.n0,R.ne,R.hW,R.hN,R.hk,R.nd,by have:=R.wl;omega,by have:=R.nl;omega,fun x hx=>Nat.le_trans (R.kl x hx) h⟩
theorem RSt.setW {W W':List It} {N:List NE} {s:Nat} (R:RSt H0 kW kN W N s H) (h:W'.length≤2 * s+1):RSt H0 kW kN W' N s (H.set kW (.list (W'.map It.av))) :=
  ⟨le_set_ne R.le R.w0,R.w0,R.n0,R.ne,Hp.set_self ..,(Hp.set_ne _ _ R.ne.symm).trans R.hN,
    fun x hx=>(by obtain ⟨a,b,c,d⟩:=R.hk x hx;exact ⟨(Hp.set_ne _ _ c).trans a,b,c,d⟩),R.nd,h,R.nl,R.kl⟩
theorem RSt.popN {W:List It} {N:List NE} {x:NE} {s:Nat} (R:RSt H0 kW kN W (N++[x]) s H):RSt H0 kW kN W N s (H.set kN (.list (N.map neAV))) :=
  ⟨le_set_ne R.le R.n0,R.w0,R.n0,R.ne,(Hp.set_ne _ _ R.ne).trans R.hW,Hp.set_self ..,
    fun y hy=>(by obtain ⟨a,b,c,d⟩:=R.hk y (List.mem_append_left _ hy);exact ⟨(Hp.set_ne _ _ d).trans a,b,c,d⟩),
    by have:=R.nd;rw [List.map_append] at this;exact (List.nodup_append.mp this).1,R.wl,by have:=R.nl;simp only [List.length_append,List.length_cons,List.length_nil] at this;omega,fun y hy=>R.kl y (List.mem_append_left _ hy)⟩
theorem RSt.pushN {W:List It} {N:List NE} {nm:Str} {k2 s:Nat} (R:RSt H0 kW kN W N s H) (hk:H k2=none) (hl:N.length+1≤s+1) :
    RSt H0 kW kN W (N++[(nm,k2,[])]) s ((H.set k2 (.list [])).set kN (.list ((N++[(nm,k2,[])]).map neAV))):=by
  have h0:=none_of_le R.le hk
  have hw:k2≠kW:=fun e=>by rw [e,R.hW] at hk;cases hk
  have hn:k2≠kN:=fun e=>by rw [e,R.hN] at hk;cases hk
  refine ⟨le_set_ne (le_set_ne R.le h0) R.n0,R.w0,R.n0,R.ne,?_,Hp.set_self ..,fun x hx=>?_,?_,R.wl,?_,fun x hx=>?_⟩
  · rw [Hp.set_ne _ _ R.ne,Hp.set_ne _ _ hw.symm];exact R.hW
  · rcases List.mem_append.mp hx with hx | hx
    · obtain ⟨a,b,c,d⟩:=R.hk x hx
      refine ⟨?_,b,c,d⟩
      rw [Hp.set_ne _ _ d,Hp.set_ne _ _ (fun e=>by rw [e,hk] at a;cases a)];exact a
    · rw [List.mem_singleton.mp hx]
      refine ⟨?_,h0,hw,hn⟩
      rw [Hp.set_ne _ _ hn,Hp.set_self];rfl
  · rw [List.map_append]
    refine List.nodup_append.mpr ⟨R.nd,by simp,?_⟩
    intro a ha b hb e
    obtain ⟨x,hx,rfl⟩:=List.mem_map.mp ha
    have:b=k2:=by simpa using hb
    rw [this] at e
    have:=(R.hk x hx).1
    rw [e,hk] at this;cases this
  · simp only [List.length_append,List.length_cons,List.length_nil];omega
  · rcases List.mem_append.mp hx with hx | hx
    · exact R.kl x hx
    · rw [List.mem_singleton.mp hx];exact Nat.zero_le _
theorem RSt.addKid {W:List It} {N:List NE} {nm:Str} {k s:Nat} {l:List Kd} {x:Kd} (R:RSt H0 kW kN W (N++[(nm,k,l)]) s H) (hl:l.length+1≤s) :
    RSt H0 kW kN W (N++[(nm,k,l++[x])]) s (H.set k (.list (Kd.avs (l++[x])))):=by
  obtain ⟨a,b,c,d⟩:=R.hk (nm,k,l) mem_last
  have hnd:=R.nd
  rw [List.map_append] at hnd
  have hnk:∀ y∈N,y.2.1≠k:=fun y hy e=>(List.nodup_append.mp hnd).2.2 _ (List.mem_map.mpr ⟨y,hy,rfl⟩) k List.mem_cons_self e
  refine ⟨le_set_ne R.le b,R.w0,R.n0,R.ne,?_,?_,fun y hy=>?_,?_,R.wl,by have:=R.nl;rw [List.length_append] at this ⊢;exact this,fun y hy=>?_⟩
  · rw [Hp.set_ne _ _ c.symm];exact R.hW
  · rw [Hp.set_ne _ _ d.symm,R.hN,List.map_append,List.map_append];rfl
  · rcases List.mem_append.mp hy with hy | hy
    · obtain ⟨a',b',c',d'⟩:=R.hk y (List.mem_append_left _ hy)
      exact ⟨(Hp.set_ne _ _ (hnk y hy)).trans a',b',c',d'⟩
    · rw [List.mem_singleton.mp hy]
      exact ⟨Hp.set_self ..,b,c,d⟩
  · rw [List.map_append];exact hnd
  · rcases List.mem_append.mp hy with hy | hy
    · exact R.kl y (List.mem_append_left _ hy)
    · rw [List.mem_singleton.mp hy]
      simp only [List.length_append,List.length_cons,List.length_nil];omega
theorem e_pop {a:ME} {k:Nat} {l:List AV} {v:AV} {Q:QV} (ha:evE a m H=some (.ref k)) (hk:H k=some (.list (l++[v]))) (q:Q v (H.set k (.list l))):vcE C (.pop a) m H Q :=
  evE_ok (C:=C) a ha ⟨k,l,v,rfl,hk,q⟩
theorem av_tup (e:Ex):∃ l,e.av=.tup l:=by cases e <;> exact ⟨_,rfl⟩
theorem e_cmp {o:COp} {a b:ME} {x:AV} {Q:QV} (ha:evE a m H=some x) (hb:vcE C b m H fun y H2=>∃ z,cmpAV H2 o x y=some z∧Q (.bool z) H2):vcE C (.cmp o a b) m H Q:=evE_ok (C:=C) a ha hb
theorem e_lstF {l:MEs} {Q:QV} (h:vcEs C l m H fun vs H1=>Q (.lst vs) H1):vcE C (.lstF l) m H Q:=h
theorem e_tupE {l:MEs} {Q:QV} (h:vcEs C l m H fun vs H1=>Q (.tup vs) H1):vcE C (.tup l) m H Q:=h
theorem e_appendE {a b:ME} {k:Nat} {l:List AV} {Q:QV} (ha:evE a m H=some (.ref k)) (hk:H k=some (.list l)) (hb:vcE C b m H fun y H2=>∃ k' l',AV.ref k=.ref k'∧H2 k'=some (.list l')∧l'.length<cap∧Q .none (H2.set k' (.list (l'++[y])))):vcE C (.append a b) m H Q :=
  evE_ok (C:=C) a ha ⟨⟨k,l,rfl,hk⟩,hb⟩
theorem spot_last (n:Nat):spotOf (n+1) (-1)=some n:=by
  unfold spotOf
  rw [if_neg (by omega),if_pos (by omega)]
  congr 1
  omega
theorem sub_last {k:Nat} {l:List AV} {v:AV} (h:H k=some (.list (l++[v]))):subAV H (.ref k) (.int (-1))=some v:=by
  show (match seqOf H (.ref k) with | some l=>(match spotOf l.length (-1) with | some j=>l[j]? | _=>Option.none) | _=>Option.none)=_
  rw [seq_of h]
  show (match spotOf (l++[v]).length (-1) with | some j=>(l++[v])[j]? | _=>Option.none)=_
  rw [List.length_append,show [v].length=1 from rfl,spot_last]
  exact List.getElem?_concat_length
noncomputable abbrev recM (kg kW kN:Nat) (row:List Str) (p s:Nat) (v7 v8 v9 v10 v11:Option AV):Lo :=
  [some (.obj .grammar kg),some (.lst (row.map .str)),some (.int 5000),some (.ref kW),some (.ref kN),some (.int (p:Int)),some (.int (s:Int)),v7,v8,v9,v10,v11]
section
variable {nn:Nat} {QQ:QF}
abbrev LP (nn:Nat) (QQ:QF) (n:Nat) (m:Lo) (H:Hp):Prop:=whileN (vcE (callN fdt nn) rcCond) (vcSs (callN fdt nn) rcBody) n m H QQ
theorem rec_head {n p s:Nat} {v7 v8 v9 v10 v11:Option AV} {W:List It} {x:It} {N:List NE} (hn:0<nn) (R:RSt H0 kW kN (W++[x]) N s H) (hs:s<5000)
    (h:vcSs (callN fdt nn) rcTail (recM kg kW kN row p (s+1) (some x.av) (some (.str (tk row p))) v9 v10 v11) (H.set kW (.list (W.map It.av))) (stepK (LP nn QQ n) QQ)) :
    LP nn QQ (n+1) (recM kg kW kN row p s v7 v8 v9 v10 v11) H:=by
  have hW:=R.hW
  rw [List.map_append] at hW
  refine evE_ok (C:=callN fdt nn) rcCond (v:=.bool true) ?_ (Or.inl ⟨rfl,?_⟩)
  · exact v_cmp (v_len rfl (len_list hW)) rfl (yes (Int.ofNat_lt.mpr (by rw [List.length_append];exact Nat.succ_pos _)))
  refine s_assign (v:=.int ((s+1:Nat):Int)) (by kernel_rfl!) rfl ?_
  refine s_no (C:=callN fdt nn) (v_cmp rfl rfl (no (by omega))) ?_
  refine s_assignE ?_
  refine e_pop (C:=callN fdt nn) (k:=kW) (l:=W.map It.av) (v:=x.av) rfl (by rw [hW];rfl) ⟨Nat.le_of_ble_eq_true rfl,?_⟩
  refine s_assignE (e_call (C:=callN fdt nn) (vs:=[.lst (row.map .str),.int (p:Int)]) rfl (token_at_ok hn ⟨Nat.le_of_ble_eq_true rfl,?_⟩))
  exact h
theorem eq_close (e:Ex) (H:Hp):eqAV H e.av CLOSE=some false:=by
  cases e with
  | opt a => obtain ⟨l,hl⟩:=av_tup a; rw [show (Ex.opt a).av = .tup [.str "opt",a.av] from rfl,hl]; rfl
  | rep a => obtain ⟨l,hl⟩:=av_tup a; rw [show (Ex.rep a).av = .tup [.str "rep",a.av] from rfl,hl]; rfl
  | _=>kernel_rfl!
theorem e_new {l:MEs} {vs:List AV} {Q:QV} {n:Nat} {tr pl wa:AV} (hn:0<n) (hl:vcEs (callN fdt n) l m H fun vs H1=>vs=[tr,pl,wa]∧∀ k H',H1.le H'→Told k tr pl H'→Q (.obj .recognised k) H'):vcE (callN fdt n) (.new .recognised l) m H Q:=by
  refine vcEs_mono (cm n) l _ _ _ _ (fun vs H1 h=>?_) hl
  obtain ⟨rfl,h⟩:=h
  intro k hk
  exact rInit_ok hn hk fun H' hle ht=>⟨rfl,h k H' hle ht⟩
theorem rec_tok {n p s:Nat} {v7 v8 v9 v10 v11:Option AV} {W:List It} {e:Ex} {N:List NE} {nm:Str} {k:Nat} {l:List Kd} (hn:1<nn) (G:GC ts em kt ke kf ko kg gs fr Fi H0) (R:RSt H0 kW kN (W++[.e e]) (N++[(nm,k,l)]) s H) (hs:s<5000)
    (ht:isTok ts.length e=true) (he:tk row p=tokS e)
    (h:∀ H' v7 v8,RSt H0 kW kN W (N++[(nm,k,l++[.leaf (tokS e) p])]) (s+1) H'→LP nn QQ n (recM kg kW kN row (p+1) (s+1) v7 v8 v9 v10 v11) H'):LP nn QQ (n+1) (recM kg kW kN row p s v7 v8 v9 v10 v11) H:=by
  refine rec_head (by omega) R hs ?_
  have R1:=(R.setW (W':=W) (by have:=R.wl;simp only [List.length_append,List.length_cons,List.length_nil] at this;omega)).more (Nat.le_succ s)
  have hN:=R1.hN
  have G1:=G.le R1.le
  generalize H.set kW (.list (W.map It.av))=H1 at *
  have htabE:∀ v7:Option AV,evE (.attr (.var 0) "table") (recM kg kW kN row p (s + 1) v7 (some (.str (tk row p))) v9 v10 v11) H1 = some (.ref kt):=fun v7 => G1.at rfl G1.table
  refine s_ifF (v_cmp rfl rfl (eq_close e H1)) ?_
  refine s_ifR (e_call (vs:=[e.av,.ref kt]) (evp_cons rfl (evp_cons (htabE _) rfl)) (is_token_ok (n:=nn) (e:=e) (by omega) G1.g.ht ?_))
  refine Or.inl ⟨congrArg AV.bool ht,?_⟩
  refine s_ifR ?_
  refine e_cmp (C:=callN fdt nn) (x:=.str (tk row p)) rfl (e_call (vs:=[e.av,.ref kt]) (evp_cons rfl (evp_cons (htabE _) rfl)) (token_of_ok (n:=nn) (e:=e) (by omega) G1.g.ht ht ?_))
  refine ⟨false,yes' he,Or.inr ⟨rfl,s_nil ?_⟩⟩
  obtain ⟨a,b,c,d⟩:=R1.hk (nm,k,l) mem_last
  refine s_exprE (e_append (k:=k) (l:=Kd.avs l) (v:=.tup [.str (tk row p),.int (p:Int)]) ?_ a rfl ?_ ?_)
  · exact v_sub (v_sub rfl rfl (sub_last (l:=N.map neAV) (v:=.tup [.str nm,.ref k]) (by rw [hN,List.map_append];rfl))) rfl rfl
  · have:l.length≤s+1:=R1.kl (nm,k,l) mem_last
    rw [avs_map,List.length_map]
    have:cap=1000000:=rfl
    omega
  refine s_assign (v:=.int ((p+1:Nat):Int)) (by kernel_rfl!) rfl (s_nil (s_nil (s_nil ?_)))
  have:l.length≤s:=(R.kl (nm,k,l) mem_last)
  have hR:=R1.addKid (x:=.leaf (tokS e) p) (by omega)
  have e1:Kd.avs l++[.tup [.str (tk row p),.int (p:Int)]]=Kd.avs (l++[.leaf (tokS e) p]):=by rw [avs_map,avs_map,List.map_append,he];rfl
  rw [e1]
  exact h _ _ _ hR
theorem rec_bad {n p s:Nat} {v7 v8 v9 v10 v11:Option AV} {W:List It} {e:Ex} {N:List NE} (hn:1<nn) (G:GC ts em kt ke kf ko kg gs fr Fi H0) (R:RSt H0 kW kN (W++[.e e]) N s H) (hs:s<5000)
    (ht:isTok ts.length e=true) (he:tk row p≠tokS e)
    (h:∀ k' H' m',H0.le H'→Told k' .none (.int (p:Int)) H'→QQ (.ret (.obj .recognised k')) m' H'):LP nn QQ (n+1) (recM kg kW kN row p s v7 v8 v9 v10 v11) H:=by
  refine rec_head (by omega) R hs ?_
  have R1:=(R.setW (W':=W) (by have:=R.wl;simp only [List.length_append,List.length_cons,List.length_nil] at this;omega)).more (Nat.le_succ s)
  have G1:=G.le R1.le
  generalize H.set kW (.list (W.map It.av))=H1 at *
  have htabE:∀ v7:Option AV,evE (.attr (.var 0) "table") (recM kg kW kN row p (s + 1) v7 (some (.str (tk row p))) v9 v10 v11) H1 = some (.ref kt):=fun v7 => G1.at rfl G1.table
  refine s_ifF (v_cmp rfl rfl (eq_close e H1)) ?_
  refine s_ifR (e_call (vs:=[e.av,.ref kt]) (evp_cons rfl (evp_cons (htabE _) rfl)) (is_token_ok (n:=nn) (e:=e) (by omega) G1.g.ht ?_))
  refine Or.inl ⟨congrArg AV.bool ht,?_⟩
  refine s_ifR ?_
  refine e_cmp (C:=callN fdt nn) (x:=.str (tk row p)) rfl (e_call (vs:=[e.av,.ref kt]) (evp_cons rfl (evp_cons (htabE _) rfl)) (token_of_ok (n:=nn) (e:=e) (by omega) G1.g.ht ht ?_))
  refine ⟨true,no' he,Or.inl ⟨rfl,?_⟩⟩
  refine s_retE (e_new (vs:=[]) (tr:=.none) (pl:=.int (p:Int)) (wa:=.lst [.str (tokS e)]) (by omega) ?_)
  refine es_cons (evE_ok (C:=callN fdt nn) .none rfl (es_cons (evE_ok (C:=callN fdt nn) (.var 5) (v:=.int (p:Int)) rfl (es_cons ?_))))
  refine e_lstF (es_cons ?_)
  refine (e_call (vs:=[e.av,.ref kt]) (evp_cons rfl (evp_cons (htabE _) rfl)) (token_of_ok (n:=nn) (e:=e) (by omega) G1.g.ht ht ?_))
  refine es_nil (es_nil ⟨rfl,fun k' H' hle hT=>?_⟩)
  exact h k' H' _ (Hp.le_trans R1.le hle) hT
end
end LY.Internal
end

section
open PySem
namespace LY.Internal
variable {C:CallP} {m:Lo} {H:Hp} {ts:List Ex} {em:List (Str × AV)} {kt ke kf ko kg:Nat} {gs:List (Str × AV)} {fr fw:Nat→Nat} {Fi:Nat→Str→Prop} {row:List Str}
variable {H0:Hp} {kW kN:Nat} {nn:Nat} {QQ:QF}
theorem s_unpackE {i j:Nat} {e:ME} {ms:MSs} {Q:QF} (h:vcE C e m H fun v H1=>i<m.length∧j<m.length∧∃ a b,v=.tup [a,b]∧vcSs C ms ((m.set i (some a)).set j (some b)) H1 Q):vcSs C (.cons (.unpack i j e) ms) m H Q:=h
theorem e_newE {c:Cl} {l:MEs} {Q:QV} (h:vcEs C l m H fun vs H1=>∀ k,H1 k=Option.none→C (initOf c) (.obj c k::vs) (H1.set k (.ins [])) fun v H2=>v=.none∧Q (.obj c k) H2):vcE C (.new c l) m H Q:=h
theorem src_dS {k:Nat} {l:List (Str × AV)} (h:H k=some (.dS l)):srcOf H (.ref k)=some (l.map fun x=>.str x.1):=congrArg (fun o:Option AO=>match o with | some (.list l)=>some l | some (.dS l)=>some (l.map fun x:Str × AV=>AV.str x.1) | some (.dI l)=>some (l.map fun x:Int × AV=>AV.int x.1) | _=>Option.none) h
theorem rec_close {n p s:Nat} {v7 v8 v9 v10 v11:Option AV} {W:List It} {N:List NE} {nm:Str} {k:Nat} {l:List Kd} {j k2:Nat} {l2:List Kd} (hn:1<nn) (R:RSt H0 kW kN (W++[.close]) (N++[(nm,k,l)]++[(rn j,k2,l2)]) s H) (hs:s<5000)
    (h:∀ H' v7 v8 v9 v10,RSt H0 kW kN W (N++[(nm,k,l++[.node j l2])]) (s+1) H'→LP nn QQ n (recM kg kW kN row p (s+1) v7 v8 v9 v10 v11) H'):LP nn QQ (n+1) (recM kg kW kN row p s v7 v8 v9 v10 v11) H:=by
  refine rec_head (by omega) R hs ?_
  have R1:=(R.setW (W':=W) (by have:=R.wl;simp only [List.length_append,List.length_cons,List.length_nil] at this;omega)).more (Nat.le_succ s)
  have hl:l.length≤s:=R.kl (nm,k,l) (List.mem_append_left _ mem_last)
  generalize H.set kW (.list (W.map It.av))=H1 at *
  have hN:=R1.hN
  rw [List.map_append] at hN
  refine s_ifT (by kernel_rfl!) ?_
  refine s_unpackE <| e_pop (C:=callN fdt nn) (k:=kN) (l:=(N++[(nm,k,l)]).map neAV) (v:=.tup [.str (rn j),.ref k2]) rfl (by rw [hN];rfl) ⟨Nat.le_of_ble_eq_true rfl,Nat.le_of_ble_eq_true rfl,_,_,rfl,?_⟩
  have R2:=R1.popN
  obtain ⟨a2,b2,c2,d2⟩:=R1.hk (rn j,k2,l2) mem_last
  have a2':(H1.set kN (.list ((N++[(nm,k,l)]).map neAV))) k2=some (.list (Kd.avs l2)):=(Hp.set_ne _ _ d2).trans a2
  generalize H1.set kN (.list ((N++[(nm,k,l)]).map neAV))=H2 at *
  obtain ⟨a,b,c,d⟩:=R2.hk (nm,k,l) mem_last
  have hN2:=R2.hN
  rw [List.map_append] at hN2
  refine s_exprE (e_append (k:=k) (l:=Kd.avs l) (v:=.tup [.str (rn j),.tup (Kd.avs l2)]) ?_ a ?_ ?_ (s_nil (s_nil ?_)))
  · exact v_sub (v_sub rfl rfl (sub_last (l:=N.map neAV) (v:=.tup [.str nm,.ref k]) (by rw [hN2];rfl))) rfl rfl
  · exact v_tup (evp_cons rfl (evp_cons (mpI (bndI rfl (list_of a2')) rfl) rfl))
  · rw [avs_map,List.length_map]
    have:cap=1000000:=rfl
    omega
  · have hR:=R2.addKid (x:=.node j l2) (by omega)
    have e1:Kd.avs l++[.tup [.str (rn j),.tup (Kd.avs l2)]]=Kd.avs (l++[.node j l2]):=by rw [avs_map l,avs_map (l++[Kd.node j l2]),List.map_append];rfl
    rw [e1]
    exact h _ _ _ _ _ hR
noncomputable def isNm:Ex→Bool | .name _=>true | _=>false
theorem is_name_ev {H:Hp} (e:Ex) (b:Bool) (hb:isNm e=b) {x0 x1 x2 x3 x4 x5 x6:Option AV} {r:List (Option AV)} :
    evE (.cmp .eq (.sub (.var 7) (.int 0)) (.str "name")) (x0 :: x1 :: x2 :: x3 :: x4 :: x5 :: x6 :: some e.av :: r) H = some (.bool b):=by
  subst hb
  cases e <;> kernel_rfl!
theorem rec_name {n p s:Nat} {v7 v8 v9 v10 v11:Option AV} {W:List It} {N:List NE} {j:Nat} (hn:1<nn) (G:GC ts em kt ke kf ko kg gs fr Fi H0) (R:RSt H0 kW kN (W++[.e (.name j)]) N s H) (hs:s<5000) (hj:j<ts.length)
    (h:∀ H' k2 v7 v8,RSt H0 kW kN (W++[.close]++[.e (T ts j)]) (N++[(rn j,k2,[])]) (s+1) H'→LP nn QQ n (recM kg kW kN row p (s+1) v7 v8 v9 v10 v11) H'):LP nn QQ (n+1) (recM kg kW kN row p s v7 v8 v9 v10 v11) H:=by
  refine rec_head (by omega) R hs ?_
  have hwl:=R.wl
  simp only [List.length_append,List.length_cons,List.length_nil] at hwl
  have hnl:=R.nl
  have R1:=(R.setW (W':=W) (by omega)).more (Nat.le_succ s)
  have G1:=G.le R1.le
  generalize H.set kW (.list (W.map It.av))=H1 at *
  have htabE:evE (.attr (.var 0) "table") (recM kg kW kN row p (s + 1) (some (It.e (.name j)).av) (some (.str (tk row p))) v9 v10 v11) H1 = some (.ref kt):=G1.at rfl G1.table
  refine s_ifF (by kernel_rfl!) ?_
  refine s_ifR (e_call (vs:=[(Ex.name j).av,.ref kt]) (evp_cons rfl (evp_cons htabE rfl)) (is_token_ok (n:=nn) (e:=.name j) (by omega) G1.g.ht ?_))
  refine Or.inr ⟨congrArg (fun b=>AV.bool !b) (decide_eq_true hj),?_⟩
  refine s_ifT (is_name_ev (.name j) true rfl) ?_
  -- nodes.append((name,[]))
  refine s_exprE (e_appendE (k:=kN) (l:=N.map neAV) rfl R1.hN (e_tupE (es_cons (evE_ok (C:=callN fdt nn) (.sub (.var 7) (.int 1)) (v:=.str (rn j)) rfl (es_cons ?_)))))
  refine fun k2 hk2=>es_nil ?_
  refine ⟨kN,N.map neAV,rfl,(Hp.le_set _ hk2) _ _ R1.hN,?_,?_⟩
  · rw [List.length_map];have:cap=1000000:=rfl;omega
  have R2:=R1.pushN (nm:=rn j) hk2 (by omega)
  have e2:N.map neAV++[.tup [.str (rn j),.ref k2]]=(N++[(rn j,k2,[])]).map neAV:=by rw [List.map_append];rfl
  show vcSs _ _ _ (((H1.set k2 (.list [])).set kN (.list (N.map neAV++[.tup [.str (rn j),.ref k2]])))) _
  rw [e2]
  generalize (H1.set k2 (.list [])).set kN (.list ((N++[(rn j,k2,[])]).map neAV))=H2 at *
  -- waiting.append(CLOSE)
  refine s_exprE (e_append (k:=kW) (l:=W.map It.av) (v:=CLOSE) rfl R2.hW rfl (by rw [List.length_map];have:cap=1000000:=rfl;omega) ?_)
  have R3:=R2.setW (W':=W++[.close]) (by simp only [List.length_append,List.length_cons,List.length_nil];omega)
  have e3:W.map It.av++[CLOSE]=(W++[It.close]).map It.av:=by rw [List.map_append];rfl
  rw [e3]
  generalize H2.set kW (.list ((W++[It.close]).map It.av))=H3 at *
  have G3:=G.le R3.le
  refine s_exprE (e_append (k:=kW) (l:=(W++[It.close]).map It.av) (v:=(T ts j).av) rfl R3.hW ?_ (by simp only [List.length_map,List.length_append,List.length_cons,List.length_nil];have:cap=1000000:=rfl;omega) (s_nil (s_nil (s_nil (s_nil ?_)))))
  · exact v_sub (G3.at rfl G3.table) rfl (at_dS G3.g.ht (tab_get hj))
  have R4:=R3.setW (W':=W++[.close]++[.e (T ts j)]) (by simp only [List.length_append,List.length_cons,List.length_nil];omega)
  have e5:(W++[It.close]).map It.av++[(T ts j).av]=(W++[It.close]++[It.e (T ts j)]).map It.av:=by rw [List.map_append (l₁:=W++[It.close])];rfl
  rw [e5]
  exact h _ k2 _ _ R4
theorem isTok_false {e:Ex} (h:isSym e=false) (len:Nat):isTok len e=false:=by
  cases e <;> first | rfl | cases h
theorem sym_name {e:Ex} (h:isSym e=false):isNm e=false:=by cases e <;> first | rfl | cases h
theorem rst_nil {W:List It} {N:List NE} {nm:Str} {k s:Nat} {kids:List Kd} (R:RSt H0 kW kN (W++[]) (N++[(nm,k,kids)]) s H):RSt H0 kW kN W (N++[(nm,k,kids++[])]) s H:=by
  rw [List.append_nil] at R ⊢;exact R
theorem rst_two {W:List It} {N:List NE} {s:Nat} {x y:It} (R:RSt H0 kW kN (W++[x,y]) N s H):RSt H0 kW kN (W++[x]++[y]) N s H:=by
  rw [List.append_assoc];exact R
theorem rec_more {n p s:Nat} {v7 v8 v9 v10 v11:Option AV} {W:List It} {N:List NE} {e:Ex} {its:List It} (hn:1<nn) (G:GC ts em kt ke kf ko kg gs fr Fi H0) (R:RSt H0 kW kN (W++[.e e]) N s H) (hs:s<5000) (he:isSym e=false) (hi:its.length≤2)
    (hx:∀ (H':Hp) (Q:QV),H0.le H'→Q (.lst (its.map It.av)) H'→callN fdt nn .expanded [.obj .grammar kg,e.av,.str (tk row p)] H' Q)
    (h:∀ H' v7 v8 v11,RSt H0 kW kN (W++its) N (s+1) H'→LP nn QQ n (recM kg kW kN row p (s+1) v7 v8 v9 v10 v11) H'):LP nn QQ (n+1) (recM kg kW kN row p s v7 v8 v9 v10 v11) H:=by
  refine rec_head (by omega) R hs ?_
  have hwl:=R.wl
  simp only [List.length_append,List.length_cons,List.length_nil] at hwl
  have R1:=(R.setW (W':=W) (by omega)).more (Nat.le_succ s)
  have G1:=G.le R1.le
  generalize H.set kW (.list (W.map It.av))=H1 at *
  have htabE:evE (.attr (.var 0) "table") (recM kg kW kN row p (s + 1) (some (It.e e).av) (some (.str (tk row p))) v9 v10 v11) H1 = some (.ref kt):=G1.at rfl G1.table
  refine s_ifF (v_cmp rfl rfl (eq_close e H1)) ?_
  refine s_ifR (e_call (vs:=[e.av,.ref kt]) (evp_cons rfl (evp_cons htabE rfl)) (is_token_ok (n:=nn) (e:=e) (by omega) G1.g.ht ?_))
  refine Or.inr ⟨congrArg AV.bool (isTok_false he _),?_⟩
  refine s_ifF (is_name_ev e false (sym_name he)) ?_
  refine s_assignE (e_call (C:=callN fdt nn) (vs:=[.obj .grammar kg,e.av,.str (tk row p)]) rfl (hx _ _ R1.le ⟨Nat.le_of_ble_eq_true rfl,?_⟩))
  refine s_no rfl ?_
  refine s_exprE ?_
  refine evE_ok (C:=callN fdt nn) (.var 3) (v:=.ref kW) (Q:=fun x H1=>(∃ k l,x=.ref k∧H1 k=some (.list l))∧vcE (callN fdt nn) (.var 11) _ H1 fun y H2=>∃ k l l',x=.ref k∧H2 k=some (.list l)∧y=.lst l'∧l.length+l'.length≤cap∧vcSs (callN fdt nn) .nil _ (H2.set k (.list (l++l'))) _) rfl ⟨⟨kW,_,rfl,R1.hW⟩,?_⟩
  refine evE_ok (C:=callN fdt nn) (.var 11) (v:=.lst (its.map It.av)) rfl ⟨kW,_,_,rfl,R1.hW,rfl,?_,s_nil (s_nil (s_nil (s_nil ?_)))⟩
  · simp only [List.length_map];have:cap=1000000:=rfl;omega
  have R4:=R1.setW (W':=W++its) (by simp only [List.length_append];omega)
  rw [← List.map_append]
  exact h _ _ _ _ R4
theorem rec_none {n p s:Nat} {v7 v8 v9 v10 v11:Option AV} {W:List It} {N:List NE} {e:Ex} (hn:e.size+4<nn) (G:GC ts em kt ke kf ko kg gs fr Fi H0) (R:RSt H0 kW kN (W++[.e e]) N s H) (hs:s<5000) (he:isSym e=false) (hw:WfE e)
    (hx:∀ (H':Hp) (Q:QV),H0.le H'→Q .none H'→callN fdt nn .expanded [.obj .grammar kg,e.av,.str (tk row p)] H' Q)
    (h:∀ k' H' m',H0.le H'→Told k' .none (.int (p:Int)) H'→QQ (.ret (.obj .recognised k')) m' H'):LP nn QQ (n+1) (recM kg kW kN row p s v7 v8 v9 v10 v11) H:=by
  refine rec_head (by omega) R hs ?_
  have hwl:=R.wl
  simp only [List.length_append,List.length_cons,List.length_nil] at hwl
  have R1:=(R.setW (W':=W) (by omega)).more (Nat.le_succ s)
  have G1:=G.le R1.le
  generalize H.set kW (.list (W.map It.av))=H1 at *
  have htabE:evE (.attr (.var 0) "table") (recM kg kW kN row p (s + 1) (some (It.e e).av) (some (.str (tk row p))) v9 v10 v11) H1 = some (.ref kt):=G1.at rfl G1.table
  refine s_ifF (v_cmp rfl rfl (eq_close e H1)) ?_
  refine s_ifR (e_call (vs:=[e.av,.ref kt]) (evp_cons rfl (evp_cons htabE rfl)) (is_token_ok (n:=nn) (e:=e) (by omega) G1.g.ht ?_))
  refine Or.inr ⟨congrArg AV.bool (isTok_false he _),?_⟩
  refine s_ifF (is_name_ev e false (sym_name he)) ?_
  refine s_assignE (e_call (C:=callN fdt nn) (vs:=[.obj .grammar kg,e.av,.str (tk row p)]) rfl (hx _ _ R1.le ⟨Nat.le_of_ble_eq_true rfl,?_⟩))
  refine s_ifT rfl ?_
  have e_sorted:∀ {a:ME} {m:Lo} {H:Hp} {Q:QV},(vcE (callN fdt nn) a m H fun x H1=>∃ l,srcOf H1 x=some l∧l.length<64∧((∃ u,intsOf l=some u∧∀ w:List Int,w.Perm u→Q (.lst (w.map .int)) H1)∨(∃ u,strsOf l=some u∧∀ w:List Str,w.Perm u→Q (.lst (w.map .str)) H1)))→vcE (callN fdt nn) (.sorted a) m H Q:=fun h=>h
  have srt:∀ {Q:QV},(∀ wa H',H1.le H'→Q wa H')→vcE (callN fdt nn) (.sorted (.meth .first (.var 0) (.cons (.var 7) .nil))) (recM kg kW kN row p (s+1) (some (It.e e).av) (some (.str (tk row p))) v9 v10 (some .none)) H1 Q:=by
    intro Q hQ
    refine e_sorted (e_meth (c:=.grammar) (k:=kg) (fs:=gs) (x:=.obj .grammar kg) (vs:=[e.av]) rfl ⟨rfl,rfl,G1.h,G1.fst0⟩ rfl (firstm_ok G1 (by omega) hw fun k H' l hle hk _ hK=>?_))
    refine ⟨l.map (fun x=>.str x.1),src_dS hk,?_,Or.inr ⟨ks l,?_,fun w _=>hQ _ H' hle⟩⟩
    · rw [List.length_map]
      have:=keys_len hK fun x hx=>fst_U G1.g.hU e hw x hx
      omega
    · have:=strsOf_mapP (ks l)
      rw [show ks l=l.map (·.1) from rfl,List.map_map] at this
      exact this
  refine s_retE (e_newE ?_)
  refine es_cons (evE_ok (C:=callN fdt nn) .none rfl (es_cons (evE_ok (C:=callN fdt nn) (.var 5) (v:=.int (p:Int)) rfl (es_cons (srt fun wa H2 hle2=>es_nil ?_)))))
  intro k hk
  exact rInit_ok (by omega) hk fun H' hle hT=>⟨rfl,h k H' _ (Hp.le_trans R1.le (Hp.le_trans hle2 hle)) hT⟩
end LY.Internal
end

section
open PySem
namespace LY.Internal
variable {C:CallP} {m:Lo} {H:Hp} {ts:List Ex} {em:List (Str × AV)} {kt ke kf ko kg:Nat} {gs:List (Str × AV)} {fr fw:Nat→Nat} {Fi:Nat→Str→Prop} {row:List Str}
variable {H0:Hp} {kW kN:Nat} {nn:Nat} {QQ:QF}
noncomputable def SimG (H0:Hp) (kg kW kN nn:Nat) (QQ:QF) (row:List Str) (o:Out) (W:List It) (N:List NE) (nm:Str) (k:Nat) (kids:List Kd) (sc n:Nat):Prop :=
  match o with
  | .ok l q=>∀ s' H' v7 v8 v9 v10 v11,s'≤sc→RSt H0 kW kN W (N++[(nm,k,kids++l)]) s' H'→LP nn QQ n (recM kg kW kN row q s' v7 v8 v9 v10 v11) H'
  | .bad q=>∀ k' H' m',H0.le H'→Told k' .none (.int (q:Int)) H'→QQ (.ret (.obj .recognised k')) m' H'
theorem rec_sim (L:Lang ts (ks em) Fi) (hr:∀ x ∈ row,x ≠ ("eof":Str)) (G:GC ts em kt ke kf ko kg gs fr Fi H0) (hn:20 < nn) {e:Ex} {p:Nat} {o:Out} {c:Nat} (r:Run ts (ks em) Fi row e p o c) :
    WfE e→e.size≤7→∀ (W:List It) (N:List NE) (nm:Str) (k:Nat) (kids:List Kd) (s:Nat) (v7 v8 v9 v10 v11:Option AV) (H:Hp) (n:Nat),s+c≤5000→RSt H0 kW kN (W++[.e e]) (N++[(nm,k,kids)]) s H →
      SimG H0 kg kW kN nn QQ row o W N nm k kids (s+c) n→LP nn QQ (n+c) (recM kg kW kN row p s v7 v8 v9 v10 v11) H:=by
  induction r with
  | tok h1 h2 =>
    intro hw hs W N nm k kids s v7 v8 v9 v10 v11 H n hc R g
    exact rec_tok (by omega) G R (by omega) h1 h2 fun H' _ _ R'=>g _ _ _ _ _ _ _ (Nat.le_refl _) R'
  | tokBad h1 h2 =>
    intro hw hs W N nm k kids s v7 v8 v9 v10 v11 H n hc R g
    exact rec_bad (by omega) G R (by omega) h1 h2 fun k' H' m' hle hT=>g _ _ _ hle hT
  | @name j p o c hj _ ih =>
    intro hw hs W N nm k kids s v7 v8 v9 v10 v11 H n hc R g
    have:n+(c+2)=((n+1)+c)+1:=by omega
    rw [this]
    refine rec_name (by omega) G R (by omega) hj fun H' k2 v7 v8 R'=>?_
    refine ih (L.W.wf j hj) (L.W.size j hj) _ _ _ _ _ _ _ _ _ _ _ _ _ (by omega) R' ?_
    cases o with
    | ok l q =>
      intro s' H2 v7 v8 v9 v10 v11 hs' R2
      exact rec_close (by omega) R2 (by omega) fun H3 v7 v8 v9 v10 R3=>g _ _ _ _ _ _ _ (by omega) R3
    | bad q=>exact g
  | eps =>
    intro hw hs W N nm k kids s v7 v8 v9 v10 v11 H n hc R g
    refine rec_more (its:=[]) (by omega) G R (by omega) rfl (Nat.le_of_ble_eq_true rfl) (fun H' Q hle q=>expanded_eps (by omega) q) fun H' v7 v8 v11 R'=>?_
    exact g _ _ _ _ _ _ _ (Nat.le_refl _) (rst_nil R')
  | @seq a b p la q ca o cb _ _ iha ihb =>
    intro hw hs W N nm k kids s v7 v8 v9 v10 v11 H n hc R g
    dsimp only [zs] at hs
    have:n+(1+ca+cb)=((n+cb)+ca)+1:=by omega
    rw [this]
    refine rec_more (its:=[.e b,.e a]) (by omega) G R (by omega) rfl (Nat.le_of_ble_eq_true rfl) (fun H' Q hle q=>expanded_seq (by omega) q) fun H' v7 v8 v11 R'=>?_
    refine iha hw.1 (by omega) (W++[.e b]) _ _ _ _ _ _ _ _ _ _ _ _ (by omega) (rst_two R') ?_
    intro s' H2 v7 v8 v9 v10 v11 hs' R2
    refine ihb hw.2 (by omega) _ _ _ _ _ _ _ _ _ _ _ _ _ (by omega) R2 ?_
    cases o with
    | ok l q' =>
      intro s'' H3 v7 v8 v9 v10 v11 hs'' R3
      exact g _ _ _ _ _ _ _ (by omega) (by rw [List.append_assoc] at R3;exact R3)
    | bad q=>exact g
  | @seqBad a b p q ca _ iha =>
    intro hw hs W N nm k kids s v7 v8 v9 v10 v11 H n hc R g
    dsimp only [zs] at hs
    have:n+(1+ca)=(n+ca)+1:=by omega
    rw [this]
    refine rec_more (its:=[.e b,.e a]) (by omega) G R (by omega) rfl (Nat.le_of_ble_eq_true rfl) (fun H' Q hle q=>expanded_seq (by omega) q) fun H' v7 v8 v11 R'=>?_
    exact iha hw.1 (by omega) (W++[.e b]) _ _ _ _ _ _ _ _ _ _ _ _ (by omega) (rst_two R') g
  | @altA a b p o c hp _ ih =>
    intro hw hs W N nm k kids s v7 v8 v9 v10 v11 H n hc R g
    dsimp only [za] at hs
    have:n+(1+c)=(n+c)+1:=by omega
    rw [this]
    refine rec_more (its:=[.e a]) (by omega) G R (by omega) rfl (Nat.le_of_ble_eq_true rfl) (fun H' Q hle q=>expanded_alt (G.le hle) (by omega) hw.1 hw.2 (fun _=>q) (fun h=>?_) (fun h1 h2 h3 h4=>?_)) fun H' v7 v8 v11 R'=>?_
    · rcases hp with hp | hp
      · exact absurd hp h.1
      · rcases h.2 with h | h
        · exact absurd h hp.1
        · rw [hp.2] at h;cases h.1
    · rcases hp with hp | hp
      · exact absurd hp h1
      · rw [hp.2] at h3;cases h3
    · refine ih hw.1 (by omega) _ _ _ _ _ _ _ _ _ _ _ _ _ (by omega) R' ?_
      cases o with
      | ok l q=>intro s' H2 v7 v8 v9 v10 v11 hs' R2;exact g _ _ _ _ _ _ _ (by omega) R2
      | bad q=>exact g
  | @altB a b p o c hp _ ih =>
    intro hw hs W N nm k kids s v7 v8 v9 v10 v11 H n hc R g
    dsimp only [za] at hs
    have:n+(1+c)=(n+c)+1:=by omega
    rw [this]
    refine rec_more (its:=[.e b]) (by omega) G R (by omega) rfl (Nat.le_of_ble_eq_true rfl) (fun H' Q hle q=>expanded_alt (G.le hle) (by omega) hw.1 hw.2 (fun h=>?_) (fun _=>q) (fun h1 h2 h3 h4=>?_)) fun H' v7 v8 v11 R'=>?_
    · rcases h with h | h
      · exact absurd h hp.1
      · rcases hp.2 with hp | hp
        · exact absurd hp h.1
        · rw [hp.1] at h;cases h.2
    · rcases hp.2 with hp | hp
      · exact absurd hp h2
      · rw [hp.2] at h4;cases h4
    · refine ih hw.2 (by omega) _ _ _ _ _ _ _ _ _ _ _ _ _ (by omega) R' ?_
      cases o with
      | ok l q=>intro s' H2 v7 v8 v9 v10 v11 hs' R2;exact g _ _ _ _ _ _ _ (by omega) R2
      | bad q=>exact g
  | @altBad a b p h1 h2 h3 h4 =>
    intro hw hs W N nm k kids s v7 v8 v9 v10 v11 H n hc R g
    dsimp only [za] at hs
    refine rec_none (by dsimp only [za];omega) G R (by omega) rfl hw (fun H' Q hle q=>expanded_alt (G.le hle) (by omega) hw.1 hw.2 (fun h=>?_) (fun h=>?_) (fun _ _ _ _=>q)) fun k' H' m' hle hT=>g _ _ _ hle hT
    · rcases h with h | h
      · exact absurd h h1
      · rw [h.2] at h3;cases h3
    · rcases h.2 with h | h
      · exact absurd h h2
      · rw [h.2] at h4;cases h4
  | @opt1 a p o c hf _ ih =>
    intro hw hs W N nm k kids s v7 v8 v9 v10 v11 H n hc R g
    dsimp only [zo] at hs
    have:n+(1+c)=(n+c)+1:=by omega
    rw [this]
    refine rec_more (its:=[.e a]) (by omega) G R (by omega) rfl (Nat.le_of_ble_eq_true rfl) (fun H' Q hle q=>expanded_opt (G.le hle) (by omega) hw (fun _=>q) (fun h=>absurd hf h)) fun H' v7 v8 v11 R'=>?_
    refine ih hw (by omega) _ _ _ _ _ _ _ _ _ _ _ _ _ (by omega) R' ?_
    cases o with
    | ok l q=>intro s' H2 v7 v8 v9 v10 v11 hs' R2;exact g _ _ _ _ _ _ _ (by omega) R2
    | bad q=>exact g
  | @opt0 a p hf =>
    intro hw hs W N nm k kids s v7 v8 v9 v10 v11 H n hc R g
    dsimp only [zo] at hs
    refine rec_more (its:=[]) (by omega) G R (by omega) rfl (Nat.le_of_ble_eq_true rfl) (fun H' Q hle q=>expanded_opt (G.le hle) (by omega) hw (fun h=>absurd h hf) (fun _=>q)) fun H' v7 v8 v11 R'=>?_
    exact g _ _ _ _ _ _ _ (Nat.le_refl _) (rst_nil R')
  | @rep1 a p la q ca o cb hf _ _ iha ihb =>
    intro hw hs W N nm k kids s v7 v8 v9 v10 v11 H n hc R g
    have hs':=hs
    dsimp only [zr] at hs'
    have:n+(1+ca+cb)=((n+cb)+ca)+1:=by omega
    rw [this]
    refine rec_more (its:=[.e (.rep a),.e a]) (by omega) G R (by omega) rfl (Nat.le_of_ble_eq_true rfl) (fun H' Q hle q=>expanded_rep (G.le hle) (by omega) hw (fun _=>q) (fun h=>absurd hf h)) fun H' v7 v8 v11 R'=>?_
    refine iha hw (by omega) (W++[.e (.rep a)]) _ _ _ _ _ _ _ _ _ _ _ _ (by omega) (rst_two R') ?_
    intro s' H2 v7 v8 v9 v10 v11 hs' R2
    refine ihb hw hs _ _ _ _ _ _ _ _ _ _ _ _ _ (by omega) R2 ?_
    cases o with
    | ok l q' =>
      intro s'' H3 v7 v8 v9 v10 v11 hs'' R3
      exact g _ _ _ _ _ _ _ (by omega) (by rw [List.append_assoc] at R3;exact R3)
    | bad q=>exact g
  | @repBad a p q ca hf _ iha =>
    intro hw hs W N nm k kids s v7 v8 v9 v10 v11 H n hc R g
    dsimp only [zr] at hs
    have:n+(1+ca)=(n+ca)+1:=by omega
    rw [this]
    refine rec_more (its:=[.e (.rep a),.e a]) (by omega) G R (by omega) rfl (Nat.le_of_ble_eq_true rfl) (fun H' Q hle q=>expanded_rep (G.le hle) (by omega) hw (fun _=>q) (fun h=>absurd hf h)) fun H' v7 v8 v11 R'=>?_
    exact iha hw (by omega) (W++[.e (.rep a)]) _ _ _ _ _ _ _ _ _ _ _ _ (by omega) (rst_two R') g
  | @rep0 a p hf =>
    intro hw hs W N nm k kids s v7 v8 v9 v10 v11 H n hc R g
    dsimp only [zr] at hs
    refine rec_more (its:=[]) (by omega) G R (by omega) rfl (Nat.le_of_ble_eq_true rfl) (fun H' Q hle q=>expanded_rep (G.le hle) (by omega) hw (fun h=>absurd h hf) (fun _=>q)) fun H' v7 v8 v11 R'=>?_
    exact g _ _ _ _ _ _ _ (Nat.le_refl _) (rst_nil R')
theorem e_recognised {l:MEs} {Q:QV} {n:Nat} {tr pl wa:AV} (hn:0<n) (hl:vcEs (callN fdt n) l m H fun vs H1=>vs=[tr,pl,wa]∧∀ k H',H1.le H'→Told k tr pl H'→Q (.obj .recognised k) H'):vcE (callN fdt n) (.new .recognised l) m H Q:=e_new (vs:=[]) hn hl
theorem e_lstDE {l:MEs} {Q:QV} (h:vcEs C l m H fun vs H1=>∀ k,H1 k=Option.none→Q (.ref k) (H1.set k (.list vs))):vcE C (.lstD l) m H Q:=h
theorem recognise_ok {n:Nat} {Q:QV} {o:Out} {c:Nat} (L:Lang ts (ks em) Fi) (hr:∀ x ∈ row,x ≠ ("eof":Str)) (G:GC ts em kt ke kf ko kg gs fr Fi H) (hn:22 < n) (r:Run ts (ks em) Fi row (T ts 0) 0 o c) (hc:c + 2 ≤ 4999)
    (qBad:∀ k' H' q,q≤row.length→H.le H'→Told k' .none (.int (q:Int)) H'→(∀ l,o≠.ok l row.length)→Q (.obj .recognised k') H')
    (qOk:∀ k' H' l,H.le H'→o=.ok l row.length→Told k' (Kd.node 0 l).av (.int (row.length:Int)) H'→Q (.obj .recognised k') H') :
    callN fdt n .recognise [.obj .grammar kg,.lst (row.map .str),.int 5000] H Q:=by
  have hpos:=L.W.pos
  have hend:=run_end L hr r (L.W.wf 0 hpos) (Nat.zero_le _)
  refine callS (by omega) rfl fun n en=>?_
  show vcSs (callN fdt n) b_recognise _ _ _
  rw [b_rec_eq]
  -- waiting
  refine s_assignE (evEs_ok (C:=callN fdt n) _ (vs:=[(Ex.name 0).av]) ?_ ?_)
  · exact evp_cons (v_tup (evp_cons rfl (evp_cons (G.at rfl G.start) rfl))) rfl
  intro kW hkW
  refine ⟨Nat.le_of_ble_eq_true rfl,?_⟩
  -- nodes
  refine s_assignE (e_lstDE ?_)
  refine es_cons (C := callN fdt n) (l := .nil) (e_tupE (es_cons (evE_ok (C := callN fdt n) (.str "") (v := .str "") rfl (es_cons ?_))))
  intro k1 hk1
  refine es_nil (es_nil ?_)
  intro kN hkN
  refine ⟨Nat.le_of_ble_eq_true rfl,?_⟩
  refine s_assign rfl rfl (s_assign rfl rfl ?_)
  have hk10:H k1=none:=none_of_le (Hp.le_set _ hkW) hk1
  have hkN1:=none_of_le (Hp.le_set _ hk1) hkN
  have hkN0:H kN=none:=none_of_le (Hp.le_set _ hkW) hkN1
  have hW1:k1≠kW:=fun e=>by rw [e,Hp.set_self] at hk1;cases hk1
  have hNW:kN≠kW:=fun e=>by rw [e,Hp.set_self] at hkN1;cases hkN1
  have hN1:kN≠k1:=fun e=>by rw [e,Hp.set_self] at hkN;cases hkN
  have R : RSt H kW kN ([] ++ [.e (.name 0)]) ([] ++ [(("" : Str), k1, [])]) 0 (((H.set kW (.list [(Ex.name 0).av])).set k1 (.list [])).set kN (.list [.tup [.str "", .ref k1]])) := by
    refine ⟨le_set_ne (le_set_ne (Hp.le_set _ hkW) hk10) hkN0,hkW,hkN0,hNW.symm,?_,Hp.set_self ..,fun x hx=>?_,by simp,by simp,by simp,fun x hx=>?_⟩
    · exact (Hp.set_ne _ _ hNW.symm).trans ((Hp.set_ne _ _ hW1.symm).trans (Hp.set_self ..))
    · have:x = (("":Str),k1,[]):=List.mem_singleton.mp hx
      subst this
      exact ⟨(Hp.set_ne _ _ hN1.symm).trans (Hp.set_self ..),hk10,hW1,hN1.symm⟩
    · have:x = (("":Str),k1,[]):=List.mem_singleton.mp hx
      subst this
      exact Nat.le_refl _
  generalize (((H.set kW (.list [(Ex.name 0).av])).set k1 (.list [])).set kN (.list [.tup [.str "",.ref k1]])) = H1 at *
  refine ⟨((1+1)+c)+1,?_⟩
  show LP n _ (((1+1)+c)+1) (recM kg kW kN row 0 0 none none none none none) H1
  refine rec_name (by omega) G R (by omega) hpos fun H2 k2 v7 v8 R2=>?_
  refine rec_sim L hr G (by omega) r (L.W.wf 0 hpos) (L.W.size 0 hpos) _ _ _ _ _ _ _ _ _ _ _ _ _ (by omega) R2 ?_
  cases o with
  | bad q =>
    intro k' H' m' hle hT
    exact retI (Q:=Q) (qBad k' H' q hend hle hT fun l e=>by cases e)
  | ok l q =>
    dsimp only [po,pb] at hend
    intro s' H3 v7 v8 v9 v10 v11 hs' R3
    refine rec_close (by omega) R3 (by omega) fun H4 v7 v8 v9 v10 R4=>?_
    have hW4:=R4.hW
    have hN4:=R4.hN
    obtain ⟨a,_,_,_⟩:=R4.hk (("":Str),k1,[] ++ [.node 0 ([] ++ l)]) List.mem_cons_self
    refine evE_ok (C:=callN fdt n) rcCond (v:=.bool false) ?_ (Or.inr ⟨rfl,?_⟩)
    · exact v_cmp (v_len rfl (len_list hW4)) rfl (no (Int.lt_irrefl 0))
    show vcSs (callN fdt n) rcEnd _ _ _
    by_cases hq:q<row.length
    · refine s_ifT (C:=callN fdt n) (v_cmp rfl (v_len rfl (congrArg some (List.length_map _))) (yes (Int.ofNat_lt.mpr hq))) ?_
      refine s_retE (e_recognised (tr:=.none) (pl:=.int (q:Int)) (wa:=.lst [END]) (by omega) (evEs_ok (C:=callN fdt n) _ (vs:=[.none,.int (q:Int),.lst [END]]) rfl ⟨rfl,fun k' H' hle hT=>?_⟩))
      exact retI (Q:=Q) (qBad k' H' q (by omega) (Hp.le_trans R4.le hle) hT fun l' e=>by cases e;omega)
    · have:q=row.length:=by omega
      subst this
      refine s_no (C:=callN fdt n) (v_cmp rfl (v_len rfl (congrArg some (List.length_map _))) (no (Int.lt_irrefl _))) ?_
      refine s_retE (e_recognised (tr:=(Kd.node 0 l).av) (pl:=.int (row.length:Int)) (wa:=.lst []) (by omega) (evEs_ok (C:=callN fdt n) _ (vs:=[(Kd.node 0 l).av,.int (row.length:Int),.lst []]) ?_ ⟨rfl,fun k' H' hle hT=>?_⟩))
      · exact evp_cons (v_sub (v_sub (v_sub rfl rfl (at_seq (i:=0) (seq_of hN4) rfl)) rfl rfl) rfl (at_seq (i:=0) (seq_of a) rfl)) (evp_cons rfl (evp_cons rfl rfl))
      · exact retI (Q:=Q) (qOk k' H' l (Hp.le_trans R4.le hle) rfl hT)
end LY.Internal
end

section
open PySem
namespace LY.Internal
variable {C:CallP} {m:Lo} {H:Hp} {ts:List Ex}
theorem isLeaf_ok {n:Nat} {k:Kd} {Q:QV} (hn:0<n) (q:Q (.bool k.isLeaf) H):callN fdt n .is_leaf [k.av] H Q:=by
  refine callS (by omega) rfl fun n en=>(s_ret (v:=.bool k.isLeaf) ?_ (retI q))
  cases k <;> kernel_rfl!
mutual
theorem toks_len:∀ k:Kd,k.toks.length≤k.sz
  | .leaf _ _=>Nat.le_refl _
  | .node _ l=>Nat.le_trans (tokss_len l) (Nat.le_add_left _ 1)
theorem tokss_len:∀ l:List Kd,(Kd.tokss l).length≤Kd.szs l
  | []=>Nat.le_refl _
  | k::l=>Nat.le_trans (Nat.le_of_eq List.length_append) (Nat.add_le_add (toks_len k) (tokss_len l))
end
theorem sz_pos:∀ k:Kd,1≤k.sz
  | .leaf _ _=>Nat.le_refl _
  | .node _ _=>Nat.le_add_right ..
theorem len_szs:∀ l:List Kd,l.length≤Kd.szs l
  | []=>Nat.le_refl _
  | k::l=>Nat.le_trans (Nat.le_of_eq (Nat.add_comm _ 1)) (Nat.add_le_add (sz_pos k) (len_szs l))
theorem szs_reverse:∀ l:List Kd,Kd.szs l.reverse=Kd.szs l
  | []=>rfl
  | k::l=>by rw [List.reverse_cons,szs_app,szs_reverse l];exact Nat.add_comm _ k.sz
theorem e_extendRev {a b:ME} {k:Nat} {l l':List AV} {Q:QV} (ha:evE a m H=some (.ref k)) (hk:H k=some (.list l)) (hb:evE b m H=some (.tup l')) (hc:l.length+l'.length≤cap) (q:Q .none (H.set k (.list (l++l'.reverse)))):vcE C (.extendRev a b) m H Q :=
  evE_ok (C:=C) a ha ⟨⟨k,l,rfl,hk⟩,evE_ok (C:=C) b hb ⟨k,l,l',rfl,hk,rfl,hc,q⟩⟩
theorem lt_len {α:Type} {W:List α} {x:α} {o:List α} (h:W=o++[x]):0<W.length:=by rw [h,List.length_append];exact Nat.succ_pos _
inductive LvI (t:Kd) (k1 k2:Nat) (H:Hp) (kk:Nat):Lo→Hp→Prop
  | mk {W F v3 Hc} (hle:H.le Hc) (h1:Hc k1=some (.list (F.map .str))) (h2:Hc k2=some (.list (W.map Kd.av))) (hkk:kk=Kd.szs W) (hT:F++Kd.tokss W.reverse=t.toks) (hS:F.length+Kd.szs W≤9000) :
    LvI t k1 k2 H kk [some t.av,some (.ref k1),some (.ref k2),v3] Hc
theorem leaves_ok {n:Nat} {t:Kd} {Q:QV} (hn:1<n) (hsz:t.sz≤9000) (q:∀ k H',H.le H'→H' k=some (.list (t.toks.map .str))→Q (.ref k) H'):callN fdt n .leaves [t.av] H Q:=by
  refine callS (by omega) rfl fun n en=>s_assignE (e_lstDE (es_nil fun k1 hk1=>⟨Nat.le_of_ble_eq_true rfl,s_assignE (e_lstDE (es_cons (evE_ok (C:=callN fdt n) (.var 0) (v:=t.av) rfl (es_nil fun k2 hk2=>⟨Nat.le_of_ble_eq_true rfl,?_⟩))))⟩))
  have hk20:=none_of_le (Hp.le_set _ hk1) hk2
  have hne:k1≠k2:=fun e=>by rw [← e,Hp.set_self] at hk2;cases hk2
  refine s_while (k:=t.sz) (LvI t k1 k2 H) ?_ (.mk (W:=[t]) (F:=[]) (le_set_ne (Hp.le_set _ hk1) hk20) ((Hp.set_ne _ _ hne).trans (Hp.set_self ..)) (Hp.set_self ..) rfl (List.append_nil _) (by show 0+t.sz≤9000;omega))
  rintro kk _ Hc @⟨W,F,v3,_,hle,h1,h2,hkk,hT,hS⟩
  rcases List.eq_nil_or_concat W with rfl | ⟨W',k,rfl⟩
  · refine evE_ok (C:=callN fdt n) (.cmp .gt (.len (.var 2)) (.int 0)) (v_cmp (v_len rfl (len_list h2)) rfl (no (Int.lt_irrefl 0))) (Or.inr ⟨rfl,s_ret (v:=.ref k1) rfl (retI (q k1 Hc hle ?_))⟩)
    rw [h1,← hT];exact congrArg (fun l=>some (AO.list (l.map .str))) (List.append_nil F).symm
  · rw [List.concat_eq_append] at *
    refine evE_ok (C:=callN fdt n) (.cmp .gt (.len (.var 2)) (.int 0)) (v_cmp (v_len rfl (len_list h2)) rfl (yes (Int.ofNat_lt.mpr (lt_len List.map_append)))) (Or.inl ⟨rfl,?_⟩)
    have hlen:=len_szs W'
    rw [szs_app,show Kd.szs [k]=k.sz from Nat.add_zero _] at hkk hS
    have hkp:=sz_pos k
    refine s_assignE (e_pop (C:=callN fdt n) (k:=k2) (l:=W'.map Kd.av) (v:=k.av) rfl (by rw [h2,List.map_append];rfl) ⟨Nat.le_of_ble_eq_true rfl,?_⟩)
    have h1':(Hc.set k2 (.list (W'.map Kd.av))) k1=some (.list (F.map .str)):=(Hp.set_ne _ _ hne).trans h1
    have h2':(Hc.set k2 (.list (W'.map Kd.av))) k2=some (.list (W'.map Kd.av)):=Hp.set_self ..
    have hle':H.le (Hc.set k2 (.list (W'.map Kd.av))):=le_set_ne hle hk20
    generalize Hc.set k2 (.list (W'.map Kd.av))=H2 at *
    refine s_ifR (e_call (vs:=[k.av]) rfl (isLeaf_ok (k:=k) (by omega) ?_))
    rw [List.reverse_append,List.reverse_singleton,List.singleton_append] at hT
    have hc:cap=1000000:=rfl
    cases k with
    | leaf tt p =>
      exact Or.inl ⟨rfl,s_exprE (e_append (k:=k1) (v:=.str tt) rfl h1' rfl (by rw [List.length_map];omega) (s_nil (s_nil ⟨_,by omega,.mk (F:=F++[tt]) (le_set_ne hle' hk1) (by rw [Hp.set_self,List.map_append];rfl) ((Hp.set_ne _ _ hne.symm).trans h2') rfl
        ((List.append_assoc ..).trans hT) (by rw [List.length_append];show _+1+_≤_;omega)⟩)))⟩
    | node j l =>
      have hsz':(Kd.node j l).sz=1+Kd.szs l:=rfl
      have hll:=len_szs l
      exact Or.inr ⟨rfl,s_exprE (e_extendRev (k:=k2) (l':=Kd.avs l) rfl h2' rfl (by rw [avs_map,List.length_map,List.length_map];omega) (s_nil (s_nil ⟨_,by rw [szs_app,szs_reverse];omega,.mk (W:=W'++l.reverse) (le_set_ne hle' hk20) ((Hp.set_ne _ _ hne).trans h1') (by rw [Hp.set_self,avs_map,List.map_append,List.map_reverse]) rfl
        (by rw [List.reverse_append,List.reverse_reverse,tokss_app];exact hT) (by rw [szs_app,szs_reverse];omega)⟩)))⟩
theorem for_list {α:Type} {b:Lo→Hp→QF→Prop} {live:Hp→Prop} {vi:Nat} {f:α→AV} {Q:QF} (hb:MonoF b) (J:List α→List α→Lo→Hp→Prop) (hl:∀ p r m H,J p r m H→live H)
    (step:∀ p x r m H,J p (x::r) m H→vi<m.length∧b (m.set vi (some (f x))) H (stepK (J (p++[x]) r) Q)) :
    ∀ (r p:List α) (m:Lo) (H:Hp),(∀ m H,J (p++r) [] m H→Q .next m H)→J p r m H→forL b live (.one vi) (r.map f) m H Q
  | [],p,m,H,done,h=>⟨hl _ _ _ _ h,done m H (by rw [List.append_nil];exact h)⟩
  | x::r,p,m,H,done,h=>by
    obtain ⟨h1,h2⟩:=step p x r m H h
    refine ⟨hl _ _ _ _ h,m.set vi (some (f x)),if_pos h1,hb _ _ _ _ (fun g m' H' q=>?_) h2⟩
    cases g with
    | next=>exact for_list hb J hl step r (p++[x]) m' H' (fun m H h=>done m H (by rw [List.append_assoc] at h;exact h)) q
    | ret v=>exact q
theorem s_augList {i k:Nat} {e:ME} {ms:MSs} {Q:QF} (hi:i<m.length) (h0:m.at i=some (.ref k)) (h:vcE C e m H fun y H1=>∃ l l',H1 k=some (.list l)∧listOf H1 y=some l'∧l.length+l'.length≤cap∧vcSs C ms m (H1.set k (.list (l++l'))) Q) (hm:MonoC C) :
    vcSs C (.cons (.augList i e) ms) m H Q:=⟨k,h0,vcE_mono hm e _ _ _ _ (fun y H1=>Exists.imp fun l=>Exists.imp fun l'=>And.imp_right (And.imp_right (And.imp_right fun d=>⟨hi,d⟩))) h⟩
theorem good_mem {r:Nat}:∀ {l:List Kd},Goods ts r l→∀ k∈l,Good ts r k
  | k::l,g,k',h=>(List.mem_cons.mp h).elim (fun e=>e▸g.1) (good_mem g.2 k')
theorem sz_mem:∀ {l:List Kd} {k:Kd},k∈l→k.sz≤Kd.szs l
  | k::l,k',h=>(List.mem_cons.mp h).elim (fun e=>e▸Nat.le_add_right ..) fun h=>Nat.le_trans (sz_mem h) (Nat.le_add_left ..)
inductive RdJ (l:List Kd) (kv:AV) (k1:Nat) (H:Hp):List Kd→List Kd→Lo→Hp→Prop
  | mk {p r v2 Hc} (hp:p++r=l) (hle:H.le Hc) (hk:Hc k1=some (.list ((Kd.tokss p).map .str))):RdJ l kv k1 H p r [some kv,some (.ref k1),v2] Hc
theorem reached_ok (h4:ts.length≤4):∀ (d r:Nat),4-r≤d→∀ (k:Kd) {n:Nat} {H:Hp} {Q:QV},d+1<n→Good ts r k→k.sz≤9000→(∀ v H',H.le H'→listOf H' v=some (k.toks.map .str)→Q v H')→callN fdt n .l_reached [k.av] H Q:=by
  intro d
  induction d with
  | zero =>
    intro r hr k n H Q hn g hsz q
    cases k with
    | leaf t p=>exact callS (by omega) rfl fun n en=>s_ifT rfl (s_ret (v:=.lst [.str t]) rfl (retI (q _ _ (Hp.le_refl H) rfl)))
    | node j l=>have:=g.1;have:=g.2.1;omega
  | succ d ih =>
    intro r hr k n H Q hn g hsz q
    cases k with
    | leaf t p=>exact callS (by omega) rfl fun n en=>s_ifT rfl (s_ret (v:=.lst [.str t]) rfl (retI (q _ _ (Hp.le_refl H) rfl)))
    | node j l =>
      obtain ⟨g1,g2,g3,g4,g5⟩:=g
      have hsz:1+Kd.szs l≤9000:=hsz
      refine callS (by omega) rfl fun n en=>s_no rfl (s_assignE (e_lstDE (es_nil fun k1 hk1=>⟨Nat.le_of_ble_eq_true rfl,?_⟩)))
      refine s_forT (l:=l.map Kd.av) (by rw [← avs_map];rfl) (for_list (α:=Kd) (f:=Kd.av) (vcSs_mono (cm n) _) (RdJ l (Kd.node j l).av k1 H) (fun _ _ _ _ _=>trivial) ?_ l [] _ _ ?_ (.mk rfl (Hp.le_set _ hk1) (Hp.set_self ..)))
      · rintro p x r _ Hc @⟨v2,_,hp,hle,hk⟩
        have hx:x∈l:=hp▸List.mem_append_right p List.mem_cons_self
        have hxs:=sz_mem hx
        have hps:Kd.szs p+(x.sz+Kd.szs r)=Kd.szs l:=(szs_app p (x::r)).symm.trans (congrArg Kd.szs hp)
        have t1:=tokss_len p
        have t2:=toks_len x
        refine ⟨Nat.le_of_ble_eq_true rfl,s_augList (k:=k1) (Nat.le_of_ble_eq_true rfl) rfl (e_call (vs:=[x.av]) rfl (ih (j+1) (by omega) x (by omega) (good_mem g5 x hx) (by omega) fun v H2 hle2 hv=>⟨_,_,hle2 _ _ hk,hv,?_,s_nil (.mk ((List.append_assoc ..).trans hp) (le_set_ne (Hp.le_trans hle hle2) hk1) ?_)⟩)) (cm n)⟩
        · rw [List.length_map,List.length_map];have:cap=1000000:=rfl;omega
        · rw [Hp.set_self,tokss_app,List.map_append,show Kd.tokss [x]=x.toks from List.append_nil _]
      · rintro _ Hc @⟨v2,_,hp,hle,hk⟩
        have hp:l++[]=l:=hp
        exact s_ret (v:=.ref k1) rfl (retI (q _ Hc hle (list_of hk)))
end LY.Internal
end

section
open PySem
namespace LY.Internal
variable {C:CallP} {m:Lo} {H:Hp} {ts:List Ex}
noncomputable def nat' (i:Nat):AV:=.int (i:Int)
section
variable {at':Ex→Nat→Prop} {sub:Nat→Option Ex}
theorem dg_le {N:Nat} (hA:∀ e p,at' e p→isSym e=true∧p<N) {e:Ex} {p q:Nat} (d:Dg at' sub e p q):p≤q∧(p≤N→q≤N):=by
  induction d with
  | atom h=>exact ⟨Nat.le_succ _,fun _=>(hA _ _ h).2⟩
  | name _ _ ih=>exact ih
  | eps=>exact ⟨Nat.le_refl _,id⟩
  | seq _ _ iha ihb=>exact ⟨Nat.le_trans iha.1 ihb.1,fun h=>ihb.2 (iha.2 h)⟩
  | altL _ ih=>exact ih
  | altR _ ih=>exact ih
  | opt0=>exact ⟨Nat.le_refl _,id⟩
  | opt1 _ ih=>exact ih
  | rep0=>exact ⟨Nat.le_refl _,id⟩
  | rep1 _ _ _ iha ihb=>exact ⟨Nat.le_trans iha.1 ihb.1,fun h=>ihb.2 (iha.2 h)⟩
theorem dg_mono {at'':Ex→Nat→Prop} (h:∀ e p,at' e p→at'' e p) {e:Ex} {p q:Nat} (d:Dg at' sub e p q):Dg at'' sub e p q:=by
  induction d with
  | atom h'=>exact .atom (h _ _ h')
  | name h1 _ ih=>exact .name h1 ih
  | eps=>exact .eps
  | seq _ _ iha ihb=>exact .seq iha ihb
  | altL _ ih=>exact .altL ih
  | altR _ ih=>exact .altR ih
  | opt0=>exact .opt0
  | opt1 _ ih=>exact .opt1 ih
  | rep0=>exact .rep0
  | rep1 _ h _ iha ihb=>exact .rep1 iha h ihb
inductive Upto (R:Nat→Nat→Prop):Nat→Nat→Nat→Prop
  | zero {i}:Upto R 0 i i
  | keep {t i j}:Upto R t i j→Upto R (t+1) i j
  | snoc {t i k j}:Upto R t i k→R k j→Upto R (t+1) i j
theorem upto_cons {R:Nat→Nat→Prop} {i k j t:Nat} (h:R i k) (u:Upto R t k j):Upto R (t+1) i j:=by
  induction u with
  | zero=>exact .snoc .zero h
  | keep _ ih=>exact .keep (ih h)
  | snoc _ r ih=>exact .snoc (ih h) r
theorem upto_more {R:Nat→Nat→Prop} {i j t:Nat} (u:Upto R t i j):∀ d,Upto R (t+d) i j
  | 0=>u
  | d+1=>.keep (upto_more u d)
theorem upto_one {R:Nat→Nat→Prop} {i j:Nat}:Upto R 1 i j ↔ (i=j∨R i j):=by
  constructor
  · intro u
    cases u with
    | keep u=>cases u;exact Or.inl rfl
    | snoc u r=>cases u;exact Or.inr r
  · rintro (rfl | r)
    · exact .keep .zero
    · exact .snoc .zero r
theorem rep_snoc {N:Nat} (hA:∀ e p,at' e p→isSym e=true∧p<N) {a:Ex} {k j:Nat} (d2:Dg at' sub a k j) {e:Ex} {i:Nat} (d:Dg at' sub e i k):e=.rep a→Dg at' sub (.rep a) i j:=by
  have hkj:=(dg_le hA d2).1
  induction d with
  | atom h =>
    intro e
    subst e
    have:=(hA _ _ h).1
    cases this
  | @rep0 a' p =>
    intro e
    cases e
    by_cases h:p=j
    · subst h;exact .rep0
    · exact .rep1 d2 (by omega) .rep0
  | rep1 h1 h2 h3 _ ihb =>
    intro e
    cases e
    exact .rep1 h1 h2 (ihb d2 hkj rfl)
  | _=>exact nofun
theorem upto_dg {N:Nat} (hA:∀ e p,at' e p→isSym e=true∧p<N) {a:Ex} {t i j:Nat} (u:Upto (Dg at' sub a) t i j):Dg at' sub (.rep a) i j:=by
  induction u with
  | zero=>exact .rep0
  | keep _ ih=>exact ih
  | snoc _ r ih=>exact rep_snoc hA r ih rfl
theorem dg_upto {N:Nat} (hA:∀ e p,at' e p→isSym e=true∧p<N) {a e:Ex} {i j:Nat} (d:Dg at' sub e i j):e=.rep a→∃ t,t≤j-i∧Upto (Dg at' sub a) t i j:=by
  induction d with
  | atom h=>intro e;subst e;have:=(hA _ _ h).1;cases this
  | rep0=>intro _;exact ⟨0,Nat.zero_le _,.zero⟩
  | @rep1 a' p q r h1 h2 h3 _ ihb =>
    intro e
    cases e
    obtain ⟨t,ht,u⟩:=ihb rfl
    have:=(dg_le hA h3).1
    exact ⟨t+1,by omega,upto_cons h1 u⟩
  | _=>exact nofun
theorem rep_upto {N:Nat} (hA:∀ e p,at' e p→isSym e=true∧p<N) {a:Ex} {i j:Nat} (hi:i≤N):Upto (Dg at' sub a) (N+1) i j ↔ Dg at' sub (.rep a) i j:=by
  refine ⟨upto_dg hA,fun d=>?_⟩
  obtain ⟨t,ht,u⟩:=dg_upto hA d rfl
  have:=(dg_le hA d).2 hi
  have:=upto_more u (N+1-t)
  rw [show t+(N+1-t)=N+1 by omega] at this
  exact this
theorem opt_upto {N:Nat} (hA:∀ e p,at' e p→isSym e=true∧p<N) {a:Ex} {i j:Nat}:Upto (Dg at' sub a) 1 i j ↔ Dg at' sub (.opt a) i j:=by
  rw [upto_one]
  constructor
  · rintro (rfl | r)
    · exact .opt0
    · exact .opt1 r
  · intro d
    cases d with
    | atom h=>have:=(hA _ _ h).1;cases this
    | opt0=>exact Or.inl rfl
    | opt1 r=>exact Or.inr r
end
theorem ndm {α β:Type} {f:α→β} (hf:∀ a b,f a=f b→a=b):∀ {l:List α},(l.map f).Nodup ↔ l.Nodup
  | []=>by simp
  | a::l=>by
    rw [List.map_cons,List.nodup_cons,List.nodup_cons,ndm hf,List.mem_map]
    refine and_congr (not_congr ⟨?_,fun h=>⟨a,h,rfl⟩⟩) Iff.rfl
    rintro ⟨b,hb,e⟩
    rw [← hf _ _ e];exact hb
theorem nodup_len {N:Nat} {l:List Nat} (h:l.Nodup) (hb:∀ x∈l,x≤N):l.length≤N+1:=by
  have:=len_le_of_sub (u:=List.range (N+1)) h fun x hx=>List.mem_range.mpr (by have:=hb x hx;omega)
  simpa using this
theorem intsOf_nat (l:List Nat):intsOf (l.map nat')=some (l.map Int.ofNat):=by
  induction l with
  | nil=>rfl
  | cons a l ih=>exact congrArg (Option.map (Int.ofNat a::·)) ih
theorem to_nats:∀ {w:List Int},(∀ i∈w,0≤i)→∃ ws:List Nat,w=ws.map Int.ofNat
  | [],_=>⟨[],rfl⟩
  | i::w,h=>by
    obtain ⟨ws,e⟩:=to_nats (w:=w) fun j hj=>h j (List.mem_cons_of_mem _ hj)
    refine ⟨i.toNat::ws,?_⟩
    have:=h i (List.mem_cons_self ..)
    rw [List.map_cons,← e]
    congr 1
    simp [Int.toNat_of_nonneg this]
theorem ofNat_mem {l:List Nat} {i:Nat}:Int.ofNat i∈l.map Int.ofNat ↔ i∈l:=by
  rw [List.mem_map]
  exact ⟨fun ⟨j,hj,e⟩=>by cases e;exact hj,fun h=>⟨i,h,rfl⟩⟩
theorem in_nats {i:Nat} {l:List Nat}:inAV H (nat' i) (.lst (l.map nat'))=some (decide (i∈l)):=by
  have e:(match intsOf (l.map nat') with | some u=>some (decide ((i:Int)∈u)) | _=>none)=some (decide (i∈l)):=by rw [intsOf_nat];exact same ofNat_mem
  exact e
theorem map_nat (ws:List Nat):(ws.map Int.ofNat).map AV.int=ws.map nat':=by rw [List.map_map];rfl
theorem e_sset {N:Nat} {a:ME} {Q:QV} (hN:N≤60) (h:vcE C a m H fun x H1=>∃ u:List Nat,x=.lst (u.map nat')∧u.length≤3000∧(∀ x∈u,x≤N)∧∀ ws:List Nat,ws.Nodup→(∀ i,i∈ws ↔ i∈u)→Q (.lst (ws.map nat')) H1) (hm:MonoC C):vcE C (.sortedSet a) m H Q:=by
  refine vcE_mono hm a _ _ _ _ (fun x H1 h=>?_) h
  obtain ⟨u,rfl,hl,hb,q⟩:=h
  refine ⟨u.map nat',u.map Int.ofNat,rfl,by rw [List.length_map];omega,intsOf_nat u,fun w hw hwu=>?_⟩
  obtain ⟨ws,rfl⟩:=to_nats (w:=w) fun i hi=>by
    obtain ⟨j,_,rfl⟩:=List.mem_map.mp ((hwu i).mp hi)
    exact Int.natCast_nonneg j
  have hnd:ws.Nodup:=(ndm (fun a b e=>by cases e;rfl)).mp hw
  have hmem:∀ i,i∈ws ↔ i∈u:=fun i=>by rw [← ofNat_mem (l:=ws),hwu,ofNat_mem]
  have:=nodup_len hnd (N:=N) fun x hx=>hb x ((hmem x).mp hx)
  rw [map_nat]
  exact ⟨by rw [List.length_map];omega,q ws hnd hmem⟩
theorem comp_gen {α:Type} {φ g:α→AV} {f:α→Bool} {i:Nat} {cond elt:ME} {Q:List AV→Hp→Prop}:∀ {l:List α} {acc:List AV},(∀ x∈l,∀ Q:QV,Q (.bool (f x)) H→vcE C cond (m.set i (some (φ x))) H Q)→(∀ x∈l,f x=true→∀ Q:QV,Q (g x) H→vcE C elt (m.set i (some (φ x))) H Q) →
    acc.length+l.length≤3000→Q (acc++(l.filter f).map g) H→compL (vcE C cond) (vcE C elt) i m (l.map φ) acc H Q
  | [],acc,_,_,_,q=>by
    have q:Q (acc++[]) H:=q
    rw [List.append_nil] at q;exact q
  | x::l,acc,hc,he,hl,q=>by
    have hl:acc.length+(l.length+1)≤3000:=hl
    have hc':=fun y hy=>hc y (List.mem_cons_of_mem x hy)
    have he':=fun y hy=>he y (List.mem_cons_of_mem x hy)
    refine hc x (List.mem_cons_self ..) _ ?_
    cases hf:f x with
    | true =>
      refine Or.inl ⟨rfl,he x (List.mem_cons_self ..) hf _ ⟨by have:cap=1000000:=rfl;omega,comp_gen hc' he' (by rw [List.length_append];show _+1+_≤_;omega) ?_⟩⟩
      rw [List.filter_cons_of_pos hf] at q
      rw [List.append_assoc];exact q
    | false =>
      refine Or.inr ⟨rfl,comp_gen hc' he' (by omega) ?_⟩
      rw [List.filter_cons_of_neg (by rw [hf];exact Bool.false_ne_true)] at q
      exact q
theorem e_compG {α:Type} {φ g:α→AV} {f:α→Bool} {i:Nat} {cond elt src:ME} {Q:QV} {l:List α} {x:AV} (hs:evE src m H=some x) (hx:frozOf x=some (l.map φ)) (hi:i<m.length) (hl:l.length≤3000)
    (hc:∀ x∈l,∀ Q:QV,Q (.bool (f x)) H→vcE C cond (m.set i (some (φ x))) H Q) (he:∀ x∈l,f x=true→∀ Q:QV,Q (g x) H→vcE C elt (m.set i (some (φ x))) H Q) (q:Q (.lst ((l.filter f).map g)) H):vcE C (.comp elt i src cond) m H Q :=
  evE_ok (C:=C) src hs ⟨hi,_,hx,by rw [List.length_map];have:cap=1000000:=rfl;omega,comp_gen hc he (by show 0+_≤_;omega) q⟩
theorem e_comp {α:Type} {φ g:α→AV} {f:α→Bool} {i:Nat} {cond elt src:ME} {Q:QV} {l:List α} (hs:evE src m H=some (.lst (l.map φ))) (hi:i<m.length) (hl:l.length≤3000) (hc:∀ x∈l,evE cond (m.set i (some (φ x))) H=some (.bool (f x)))
    (he:∀ x∈l,f x=true→evE elt (m.set i (some (φ x))) H=some (g x)) (q:Q (.lst ((l.filter f).map g)) H):vcE C (.comp elt i src cond) m H Q :=
  e_compG hs rfl hi hl (fun x hx _=>evE_ok (C:=C) cond (hc x hx)) (fun x hx h _=>evE_ok (C:=C) elt (he x hx h)) q
structure EndsP (R:Nat→Nat→Prop) (ss r:List Nat):Prop where
  nd:r.Nodup
  mem:∀ j,j∈r ↔ ∃ i∈ss,R i j
theorem ends_atom {at':Nat→Bool} {R:Nat→Nat→Prop} {ss:List Nat} (hn:ss.Nodup) (hR:∀ i j,R i j ↔ (at' i=true∧j=i+1)):EndsP R ss ((ss.filter at').map (·+1)):=by
  refine ⟨(ndm (fun a b e=>Nat.succ.inj e)).mpr (hn.filter _),fun j=>?_⟩
  rw [List.mem_map]
  constructor
  · rintro ⟨i,hi,rfl⟩
    exact ⟨i,(List.mem_filter.mp hi).1,(hR _ _).mpr ⟨(List.mem_filter.mp hi).2,rfl⟩⟩
  · rintro ⟨i,hi,h⟩
    obtain ⟨h1,rfl⟩:=(hR _ _).mp h
    exact ⟨i,List.mem_filter.mpr ⟨hi,h1⟩,rfl⟩
theorem EndsP.imp {R R':Nat→Nat→Prop} {ss r:List Nat} (h:EndsP R ss r) (e:∀ i∈ss,∀ j,R i j ↔ R' i j):EndsP R' ss r :=
  ⟨h.nd,fun j=>(h.mem j).trans (exists_congr fun i=>and_congr_right fun hi=>e i hi j)⟩
theorem EndsP.le {N:Nat} {R:Nat→Nat→Prop} {ss r:List Nat} (h:EndsP R ss r) (hb:∀ x∈ss,x≤N) (hR:∀ i j,R i j→i≤N→j≤N):∀ x∈r,x≤N:=fun x hx =>
  ((h.mem x).mp hx).elim fun i q=>hR i x q.2 (hb i q.1)
theorem EndsP.self {ss:List Nat} (h:ss.Nodup):EndsP Eq ss ss:=⟨h,fun j=>⟨fun hj=>⟨j,hj,rfl⟩,fun ⟨_,hi,e⟩=>e▸hi⟩⟩
theorem EndsP.seq {R Ra Rb:Nat→Nat→Prop} {ss ra rb:List Nat} (ha:EndsP Ra ss ra) (hb:EndsP Rb ra rb) (h:∀ i j,R i j ↔ ∃ k,Ra i k∧Rb k j):EndsP R ss rb :=
  ⟨hb.nd,fun j=>(hb.mem j).trans ⟨fun x=>x.elim fun k hk=>((ha.mem k).mp hk.1).elim fun i hi=>⟨i,hi.1,(h i j).mpr ⟨k,hi.2,hk.2⟩⟩,
    fun x=>x.elim fun i hi=>((h i j).mp hi.2).elim fun k hk=>⟨k,(ha.mem k).mpr ⟨i,hi.1,hk.1⟩,hk.2⟩⟩⟩
theorem EndsP.alt {R Ra Rb:Nat→Nat→Prop} {ss ra rb ws:List Nat} (ha:EndsP Ra ss ra) (hb:EndsP Rb ss rb) (nd:ws.Nodup) (hm:∀ i,i∈ws ↔ i∈ra++rb) (h:∀ i j,R i j ↔ (Ra i j∨Rb i j)):EndsP R ss ws :=
  ⟨nd,fun j=>(hm j).trans (List.mem_append.trans ⟨fun x=>x.elim (fun x=>((ha.mem j).mp x).imp fun i=>And.imp_right fun r=>(h i j).mpr (Or.inl r)) fun x=>((hb.mem j).mp x).imp fun i=>And.imp_right fun r=>(h i j).mpr (Or.inr r),
    fun x=>x.elim fun i hi=>((h i j).mp hi.2).imp (fun r=>(ha.mem j).mpr ⟨i,hi.1,r⟩) fun r=>(hb.mem j).mpr ⟨i,hi.1,r⟩⟩)⟩
theorem upto_zero {R:Nat→Nat→Prop} {i j:Nat}:Upto R 0 i j ↔ i=j:=⟨fun u=>by cases u;rfl,fun e=>e▸.zero⟩
theorem upto_succ {R:Nat→Nat→Prop} {t i j:Nat}:Upto R (t+1) i j ↔ (Upto R t i j∨∃ k,Upto R t i k∧R k j):=by
  refine ⟨fun u=>?_,fun h=>h.elim .keep fun h=>h.elim fun k h=>.snoc h.1 h.2⟩
  cases u with
  | keep u=>exact Or.inl u
  | snoc u r=>exact Or.inr ⟨_,u,r⟩
theorem EndsP.step {R:Nat→Nat→Prop} {t:Nat} {ss fs ra ws:List Nat} (hf:EndsP (Upto R t) ss fs) (ha:EndsP R fs ra) (nd:ws.Nodup) (hm:∀ i,i∈ws ↔ i∈fs++ra):EndsP (Upto R (t+1)) ss ws :=
  hf.alt (hf.seq ha fun _ _=>Iff.rfl) nd hm fun _ _=>upto_succ
theorem bin_lists {N:Nat} {x y:List Nat} (h1:x.length≤N+1) (h2:y.length≤N+1) (hN:N≤40):binAV .add (.lst (x.map nat')) (.lst (y.map nat'))=some (.lst ((x++y).map nat')):=by
  refine (if_pos (by rw [List.length_map,List.length_map];have:cap=1000000:=rfl;omega)).trans ?_
  rw [List.map_append]
theorem e_uni {N:Nat} {a b:ME} {Q:QV} (hN:N≤40) (hm:MonoC C) (h:vcE C a m H fun x H1=>vcE C b m H1 fun y H2=>∃ u v:List Nat,x=.lst (u.map nat')∧y=.lst (v.map nat')∧u.Nodup∧v.Nodup∧(∀ x∈u,x≤N)∧(∀ x∈v,x≤N) ∧
    ∀ ws:List Nat,ws.Nodup→(∀ i,i∈ws ↔ i∈u++v)→Q (.lst (ws.map nat')) H2):vcE C (.sortedSet (.bin .add a b)) m H Q:=by
  refine e_sset (N:=N) (by omega) (vcE_mono hm a _ _ _ _ (fun x H1=>vcE_mono hm b _ _ _ _ fun y H2 h=>?_) h) hm
  obtain ⟨u,v,rfl,rfl,hu,hv,bu,bv,q⟩:=h
  have l1:=nodup_len hu bu
  have l2:=nodup_len hv bv
  exact ⟨_,bin_lists l1 l2 hN,u++v,rfl,by rw [List.length_append];omega,fun x hx=>(List.mem_append.mp hx).elim (bu x) (bv x),q⟩
theorem s_unp {i j:Nat} {e:ME} {ms:MSs} {Q:QF} {a b:AV} (h:evE e m H=some (.tup [a,b])) (hi:Nat.blt i m.length=true) (hj:Nat.blt j m.length=true) (q:vcSs C ms ((m.set i (some a)).set j (some b)) H Q):vcSs C (.cons (.unpack i j e) ms) m H Q :=
  evE_ok (C:=C) e h ⟨Nat.le_of_ble_eq_true hi,Nat.le_of_ble_eq_true hj,a,b,rfl,q⟩
theorem rangeL_nat (n:Nat):rangeL (n:Int)=(List.range n).map fun i=>AV.int (Int.ofNat i):=rfl
end LY.Internal
end

section
open PySem
namespace LY.Internal
variable {C:CallP} {m:Lo} {H:Hp} {ts:List Ex} {row:List Str} {kt:Nat}
section
variable {at':Ex→Nat→Prop} {sub:Nat→Option Ex}
theorem dg_eps {N:Nat} (hA:∀ e p,at' e p→isSym e=true∧p<N) {i j:Nat}:Dg at' sub .eps i j ↔ i=j:=by
  constructor
  · intro d
    cases d with
    | atom h=>have:=(hA _ _ h).1;cases this
    | eps=>rfl
  · rintro rfl;exact .eps
theorem dg_seq {N:Nat} (hA:∀ e p,at' e p→isSym e=true∧p<N) {a b:Ex} {i j:Nat}:Dg at' sub (.seq a b) i j ↔ ∃ k,Dg at' sub a i k∧Dg at' sub b k j:=by
  constructor
  · intro d
    cases d with
    | atom h=>have:=(hA _ _ h).1;cases this
    | seq h1 h2=>exact ⟨_,h1,h2⟩
  · rintro ⟨k,h1,h2⟩;exact .seq h1 h2
theorem dg_alt {N:Nat} (hA:∀ e p,at' e p→isSym e=true∧p<N) {a b:Ex} {i j:Nat}:Dg at' sub (.alt a b) i j ↔ (Dg at' sub a i j∨Dg at' sub b i j):=by
  constructor
  · intro d
    cases d with
    | atom h=>have:=(hA _ _ h).1;cases this
    | altL h=>exact Or.inl h
    | altR h=>exact Or.inr h
  · rintro (h | h)
    · exact .altL h
    · exact .altR h
end
theorem rowA:∀ e p,rowAt ts row e p→isSym e=true∧p<row.length:=fun e p h=>⟨isTok_sym h.1,by
  by_cases hp:p<row.length
  · exact hp
  · have:=h.2;rw [List.getElem?_eq_none (by omega)] at this;cases this⟩
theorem dg_tok {e:Ex} (he:isTok ts.length e=true) {i j:Nat}:Dg (rowAt ts row) (rowSub ts) e i j ↔ (row[i]? = some (tokS e)∧j=i+1):=by
  constructor
  · intro d
    cases d with
    | atom h=>exact ⟨h.2,rfl⟩
    | @name j' e' p q h _ =>
      exact nope ((if_neg (tokN he)).symm.trans h)
    | _=>cases he
  · rintro ⟨h,rfl⟩;exact .atom ⟨he,h⟩
theorem dg_rule {k i j:Nat} (hk:k<ts.length):Dg (rowAt ts row) (rowSub ts) (.name k) i j ↔ Dg (rowAt ts row) (rowSub ts) (T ts k) i j:=by
  constructor
  · intro d
    cases d with
    | atom h=>exact absurd hk (tokN h.1)
    | name h d =>
      exact Option.some.inj ((if_pos hk).symm.trans h)▸d
  · intro d;exact .name (if_pos hk) d
noncomputable def dp (len:Nat):Ex→Nat
  | .text _=>1
  | .name j=>if j<len then 1+8 * (4-j) else 1
  | .eps=>1
  | .seq a b=>1+max (dp len a) (dp len b)
  | .alt a b=>1+max (dp len a) (dp len b)
  | .opt a=>1+dp len a
  | .rep a=>1+dp len a
theorem dp_max {x y a b K:Nat} (h1:x≤a+K) (h2:y≤b+K):1+max x y≤1+a+b+K:=by
  rw [Nat.add_assoc,Nat.add_assoc]
  exact Nat.add_le_add_left (Nat.max_le.mpr ⟨Nat.le_trans h1 (Nat.add_le_add_left (Nat.le_add_left ..) _),Nat.le_trans h2 (Nat.le_add_left ..)⟩) 1
theorem dp_le {len r:Nat}:∀ {e:Ex},(∀ j,NameIn j e→r≤j)→dp len e≤e.size+8 * (4-r)
  | .text _,_=>Nat.le_add_right 1 _
  | .name j,h=>by
    by_cases hj:j<len
    · exact Nat.le_trans (Nat.le_of_eq (if_pos hj)) (Nat.add_le_add_left (Nat.mul_le_mul_left _ (Nat.sub_le_sub_left (h j rfl) 4)) 1)
    · exact Nat.le_trans (Nat.le_of_eq (if_neg hj)) (Nat.le_add_right 1 _)
  | .eps,_=>Nat.le_add_right 1 _
  | .seq a b,h=>dp_max (dp_le (e:=a) fun j hj=>h j (Or.inl hj)) (dp_le (e:=b) fun j hj=>h j (Or.inr hj))
  | .alt a b,h=>dp_max (dp_le (e:=a) fun j hj=>h j (Or.inl hj)) (dp_le (e:=b) fun j hj=>h j (Or.inr hj))
  | .opt a,h=>Nat.le_trans (Nat.add_le_add_left (dp_le (e:=a) h) 1) (Nat.le_of_eq (Nat.add_assoc 1 _ _).symm)
  | .rep a,h=>Nat.le_trans (Nat.add_le_add_left (dp_le (e:=a) h) 1) (Nat.le_of_eq (Nat.add_assoc 1 _ _).symm)
theorem dp_rule (W:WfT ts) {j:Nat} (hj:j<ts.length):dp ts.length (T ts j)<dp ts.length (.name j):=by
  have h1:=dp_le (len:=ts.length) (e:=T ts j) (W.gt j hj)
  have h2:=W.size j hj
  have h3:=W.four
  rw [show dp ts.length (.name j)=1+8 * (4-j) from if_pos hj]
  omega
theorem row_at {p:Nat} (hp:p<row.length):subAV H (.lst (row.map .str)) (.int (p:Int))=some (.str (row[p])):=by
  exact at_seq rfl (by rw [List.getElem?_map,List.getElem?_eq_getElem hp];rfl)
noncomputable def EndsOk (kt:Nat) (ts:List Ex) (row:List Str) (e:Ex):Prop:=∀ (n:Nat) (H:Hp) (Q:QV) (ss:List Nat),dp ts.length e<n→ss.Nodup→(∀ x∈ss,x≤row.length)→H kt=some (.dS (tabAV ts)) →
  (∀ r,EndsP (Dg (rowAt ts row) (rowSub ts) e) ss r→Q (.lst (r.map nat')) H)→callN fdt n .l_ends [e.av,.ref kt,.lst (row.map .str),.lst (ss.map nat')] H Q
theorem ends_tok {e:Ex} (hrow:row.length≤13) (he:isTok ts.length e=true):EndsOk kt ts row e:=by
  intro n H Q ss hn hnd hb ht q
  have hlen:=nodup_len hnd hb
  obtain ⟨tag,hav⟩:∃ tag:Str,e.av=.tup [.str tag,.str (tokS e)]:=by
    cases e <;> first | exact ⟨_,rfl⟩ | cases he
  have hcond:evE (.or (.cmp .eq (.var 4) (.str "text")) (.and (.cmp .eq (.var 4) (.str "name")) (.cmp .notin (.var 5) (.var 1)))) [some e.av,some (.ref kt),some (.lst (row.map .str)),some (.lst (ss.map nat')),some (.str tag),some (.str (tokS e)),none,none,none,none] H = some (.bool true):=by
    cases e with
    | text s=>cases hav;kernel_rfl!
    | name j=>cases hav;exact v_orF (by kernel_rfl!) (v_andT (by kernel_rfl!) (v_cmp rfl rfl (congrArg (Option.map (!·)) ((in_tab ht).trans (no (tokN he))))))
    | _=>cases he
  refine callS (by omega) rfl fun n en=>(s_unpackE (evE_ok (C:=callN fdt n) (.var 0) (v:=e.av) rfl ⟨Nat.le_of_ble_eq_true rfl,Nat.le_of_ble_eq_true rfl,.str tag,.str (tokS e),hav,?_⟩))
  refine s_ifT hcond ?_
  refine s_retE (e_comp (φ:=nat') (g:=fun x=>nat' (x+1)) (f:=fun x=>decide (row[x]? = some (tokS e))) rfl (Nat.le_of_ble_eq_true rfl) (by omega) (fun x hx=>?_) (fun x hx _=>?_) (retI (Q:=Q) ?_))
  · by_cases hp:x<row.length
    · have h1:row[x]? = some row[x]:=List.getElem?_eq_getElem hp
      exact v_andT (v_cmp rfl (v_len rfl (congrArg some (List.length_map _))) (yes (Int.ofNat_lt.mpr hp))) (v_cmp (v_sub rfl rfl (row_at hp)) rfl (same (by rw [h1,Option.some.injEq])))
    · have h1:row[x]? = none:=List.getElem?_eq_none (by omega)
      rw [show decide (row[x]? = some (tokS e))=false from decide_eq_false fun h=>by rw [h1] at h;cases h]
      exact v_andF (v_cmp rfl (v_len rfl (congrArg some (List.length_map _))) (no fun h=>hp (Int.ofNat_lt.mp h)))
  · kernel_rfl!
  · have:=q _ (ends_atom (at':=fun x=>decide (row[x]? = some (tokS e))) (R:=Dg (rowAt ts row) (rowSub ts) e) hnd fun i j=>by rw [dg_tok he,decide_eq_true_eq])
    rw [List.map_map] at this
    exact this
inductive EnJ (ts:List Ex) (row:List Str) (kt:Nat) (a:Ex) (ss:List Nat) (H:Hp) (p r:List Nat):Lo→Hp→Prop
  | mk {fs v8} (hp:p++r=List.range (row.length+1)) (hE:EndsP (Upto (Dg (rowAt ts row) (rowSub ts) a) p.length) ss fs) :
    EnJ ts row kt a ss H p r [some (Ex.rep a).av,some (.ref kt),some (.lst (row.map .str)),some (.lst (ss.map nat')),some (.str "rep"),some a.av,none,some (.lst (fs.map nat')),v8,none] H
theorem ends_ok (W:WfT ts) (hrow:row.length≤13):∀ e,EndsOk kt ts row e:=by
  have h40:row.length≤40:=Nat.le_trans hrow (by decide)
  have dgb:∀ e i j,Dg (rowAt ts row) (rowSub ts) e i j→i≤row.length→j≤row.length:=fun e i j h=>(dg_le rowA h).2
  refine ex_ind W (fun s=>ends_tok hrow rfl) (fun j hj=>ends_tok hrow (tokI hj)) ?_ ?_ ?_ ?_ ?_ ?_
  · intro j hj ih n H Q ss hn hnd hb ht q
    have hd:=dp_rule W hj
    exact callS (by omega) rfl fun n en=>s_unp rfl rfl rfl (s_no (v_orF (by kernel_rfl!) (v_andT (by kernel_rfl!) (v_cmp rfl rfl (congrArg (Option.map (!·)) ((in_tab ht).trans (yes hj)))))) (s_ifT (by kernel_rfl!)
      (s_retE (e_call (C:=callN fdt n) (vs:=[(T ts j).av,.ref kt,.lst (row.map .str),.lst (ss.map nat')]) (evp_cons (v_sub rfl rfl (at_dS ht (tab_get hj))) (evp_cons rfl (evp_cons rfl (evp_cons rfl rfl))))
        (ih n H _ ss (by omega) hnd hb ht fun r hr=>retI (Q:=Q) (q r (hr.imp fun i _ j=>(dg_rule hj).symm)))))))
  · intro n H Q ss hn hnd hb ht q
    exact callS (by omega) rfl fun n en => s_unp (a:=.str "seq") (b:=.tup []) rfl rfl rfl (s_no (by kernel_rfl!) (s_no (by kernel_rfl!) (s_no (by kernel_rfl!) (s_ifT (by kernel_rfl!) (s_forT (l:=[]) rfl ⟨trivial,s_ret (v:=.lst (ss.map nat')) rfl (retI (Q:=Q) (q ss ((EndsP.self hnd).imp fun i _ j => (dg_eps rowA).symm)))⟩)))))
  · intro a b iha ihb n H Q ss hn hnd hb ht q
    have hn:1+_<n:=hn
    exact callS (by omega) rfl fun n en => s_unp (a:=.str "seq") (b:=.tup [a.av,b.av]) rfl rfl rfl (s_no (by kernel_rfl!) (s_no (by kernel_rfl!) (s_no (by kernel_rfl!) (s_ifT (by kernel_rfl!) (s_forT (l:=[a.av,b.av]) rfl ⟨trivial,_,rfl,
      s_assignE (e_call (C:=callN fdt n) (vs:=[a.av,.ref kt,.lst (row.map .str),.lst (ss.map nat')]) rfl (iha n H _ ss (by omega) hnd hb ht fun ra hra=>⟨Nat.le_of_ble_eq_true rfl,s_nil ⟨trivial,_,rfl,
      s_assignE (e_call (C:=callN fdt n) (vs:=[b.av,.ref kt,.lst (row.map .str),.lst (ra.map nat')]) rfl (ihb n H _ ra (by omega) hra.nd (hra.le hb (dgb a)) ht fun rb hrb=>⟨Nat.le_of_ble_eq_true rfl,s_nil ⟨trivial,
      s_ret (v:=.lst (rb.map nat')) rfl (retI (Q:=Q) (q rb (hra.seq hrb fun i j=>dg_seq rowA)))⟩⟩))⟩⟩))⟩)))))
  · intro a b iha ihb n H Q ss hn hnd hb ht q
    have hn:1+_<n:=hn
    exact callS (by omega) rfl fun n en => s_unp (a:=.str "alt") (b:=.tup [a.av,b.av]) rfl rfl rfl (s_no (by kernel_rfl!) (s_no (by kernel_rfl!) (s_ifT (by kernel_rfl!) (s_retE (e_uni h40 (cm n)
      (e_call (C:=callN fdt n) (vs:=[a.av,.ref kt,.lst (row.map .str),.lst (ss.map nat')]) rfl (iha n H _ ss (by omega) hnd hb ht fun ra hra =>
      e_call (C:=callN fdt n) (vs:=[b.av,.ref kt,.lst (row.map .str),.lst (ss.map nat')]) rfl (ihb n H _ ss (by omega) hnd hb ht fun rb hrb =>
      ⟨ra,rb,rfl,rfl,hra.nd,hrb.nd,hra.le hb (dgb a),hrb.le hb (dgb b),fun ws hws hm=>retI (Q:=Q) (q ws (hra.alt hrb hws hm fun i j=>dg_alt rowA))⟩))))))))
  · intro a ih n H Q ss hn hnd hb ht q
    have hn:1+_<n:=hn
    exact callS (by omega) rfl fun n en => s_unp (a:=.str "opt") (b:=a.av) rfl rfl rfl (s_no (by kernel_rfl!) (s_no (by kernel_rfl!) (s_no (by kernel_rfl!) (s_no (by kernel_rfl!) (s_assign (v:=.lst (ss.map nat')) rfl rfl (s_forRange (i:=1) (by kernel_rfl!) (by decide) (by decide) ⟨trivial,_,rfl,
      s_assignE (e_uni h40 (cm n) (evE_ok (C:=callN fdt n) (.var 7) (v:=.lst (ss.map nat')) rfl (e_call (C:=callN fdt n) (vs:=[a.av,.ref kt,.lst (row.map .str),.lst (ss.map nat')]) (evp_cons rfl (evp_cons rfl (evp_cons rfl (evp_cons (by kernel_rfl!) rfl)))) (ih n H _ ss (by omega) hnd hb ht fun ra hra =>
      ⟨ss,ra,rfl,rfl,hnd,hra.nd,hb,hra.le hb (dgb a),fun ws hws hm=>⟨Nat.le_of_ble_eq_true rfl,s_nil ⟨trivial,s_ret (v:=.lst (ws.map nat')) rfl (retI (Q:=Q) (q ws ((EndsP.self hnd).alt hra hws hm fun i j=>(opt_upto rowA).symm.trans upto_one)))⟩⟩⟩))))⟩))))))
  · intro a ih n H Q ss hn hnd hb ht q
    have hn:1+_<n:=hn
    refine callS (by omega) rfl fun n en => s_unp (a:=.str "rep") (b:=a.av) rfl rfl rfl (s_no (by kernel_rfl!) (s_no (by kernel_rfl!) (s_no (by kernel_rfl!) (s_no (by kernel_rfl!) (s_assign (v:=.lst (ss.map nat')) rfl rfl ?_)))))
    refine s_forRange (i:=((row.length+1:Nat):Int)) (v_iteF (by kernel_rfl!) (v_bin (v_len rfl (congrArg some (List.length_map _))) rfl rfl)) (by omega) (by omega) ?_
    rw [rangeL_nat]
    refine for_list (α:=Nat) (f:=fun i=>AV.int (Int.ofNat i)) (vcSs_mono (cm n) _) (EnJ ts row kt a ss H) (fun _ _ _ _ _=>trivial) ?_ _ [] _ _ ?_ (.mk rfl ((EndsP.self hnd).imp fun i _ j=>upto_zero.symm))
    · rintro p x r _ Hc @⟨fs,v8,hp,hE⟩
      have hbf:=hE.le hb fun i j u=>(dg_le rowA (upto_dg rowA u)).2
      exact ⟨Nat.le_of_ble_eq_true rfl,s_assignE (e_uni h40 (cm n) (evE_ok (C:=callN fdt n) (.var 7) (v:=.lst (fs.map nat')) rfl (e_call (C:=callN fdt n) (vs:=[a.av,.ref kt,.lst (row.map .str),.lst (fs.map nat')]) (evp_cons rfl (evp_cons rfl (evp_cons rfl (evp_cons (by kernel_rfl!) rfl)))) (ih n H _ fs (by omega) hE.nd hbf ht fun ra hra =>
        ⟨fs,ra,rfl,rfl,hE.nd,hra.nd,hbf,hra.le hbf (dgb a),fun ws hws hm=>⟨Nat.le_of_ble_eq_true rfl,s_nil (.mk ((List.append_assoc ..).trans hp) (by rw [List.length_append];exact hE.step hra hws hm))⟩⟩))))⟩
    · rintro _ Hc @⟨fs,v8,hp,hE⟩
      refine s_ret (v:=.lst (fs.map nat')) rfl (retI (Q:=Q) (q fs (hE.imp fun i hi j=>?_)))
      rw [show (([]:List Nat)++List.range (row.length+1)).length=row.length+1 from List.length_range]
      exact rep_upto rowA (hb i hi)
end LY.Internal
end

section
open PySem
namespace LY.Internal
variable {C:CallP} {m:Lo} {H:Hp} {ts:List Ex} {l:List Kd}
noncomputable def kidW (l:List Kd) (e:Ex) (p:Nat):Prop:=isSym e=true∧∃ k,l[p]? = some k∧k.nm=tokS e
theorem kidWA:∀ e p,kidW l e p→isSym e=true∧p<l.length:=fun e p h=>⟨h.1,by
  obtain ⟨k,h,_⟩:=h.2
  by_cases hp:p<l.length
  · exact hp
  · rw [List.getElem?_eq_none (by omega)] at h;cases h⟩
theorem dg_sym {at':Ex→Nat→Prop} {e:Ex} (he:isSym e=true) {i j:Nat}:Dg at' noSub e i j ↔ (at' e i∧j=i+1):=by
  constructor
  · intro d
    cases d with
    | atom h=>exact ⟨h,rfl⟩
    | name h _=>cases h
    | _=>cases he
  · rintro ⟨h,rfl⟩;exact .atom h
theorem kid_at {p:Nat} (hp:p<l.length):subAV H (.tup (Kd.avs l)) (.int (p:Int))=some (l[p]).av:=by
  exact at_seq rfl (by rw [avs_map,List.getElem?_map,List.getElem?_eq_getElem hp];rfl)
theorem kid_nm (k:Kd):subAV H k.av (.int 0)=some (.str k.nm):=by cases k <;> rfl
theorem avs_len (l:List Kd):(Kd.avs l).length=l.length:=by rw [avs_map,List.length_map]
noncomputable def KidsOk (l:List Kd) (e:Ex):Prop:=∀ (n:Nat) (H:Hp) (Q:QV) (ss:List Nat),e.size<n→ss.Nodup→(∀ x∈ss,x≤l.length) →
  (∀ r,EndsP (Dg (kidW l) noSub e) ss r→Q (.lst (r.map nat')) H)→callN fdt n .l_kids [e.av,.tup (Kd.avs l),.lst (ss.map nat')] H Q
theorem kids_sym {e:Ex} (hl:l.length≤40) (he:isSym e=true):KidsOk l e:=by
  intro n H Q ss hn hnd hb q
  have hlen:=nodup_len hnd hb
  obtain ⟨tag,htag,hav⟩:∃ tag:Str,(tag = "text" ∨ tag = "name") ∧ e.av = .tup [.str tag,.str (tokS e)]:=by
    cases e <;> first | exact ⟨_,Or.inl rfl,rfl⟩ | exact ⟨_,Or.inr rfl,rfl⟩ | cases he
  refine callS (by omega) rfl fun n en=>(s_unpackE (evE_ok (C:=callN fdt n) (.var 0) (v:=e.av) rfl ⟨Nat.le_of_ble_eq_true rfl,Nat.le_of_ble_eq_true rfl,.str tag,.str (tokS e),hav,?_⟩))
  refine s_ifT (by rcases htag with rfl | rfl <;> kernel_rfl!) ?_
  refine s_retE (e_comp (φ:=nat') (g:=fun x=>nat' (x+1)) (f:=fun x=>decide (∃ k,l[x]? = some k∧k.nm=tokS e)) rfl (Nat.le_of_ble_eq_true rfl) (by omega) (fun x hx=>?_) (fun x hx _=>?_) (retI (Q:=Q) ?_))
  · by_cases hp:x<l.length
    · have h1:l[x]? = some l[x]:=List.getElem?_eq_getElem hp
      have h2:=kid_at (H:=H) hp
      exact v_andT (v_cmp rfl (v_len rfl (congrArg some (avs_len l))) (yes (Int.ofNat_lt.mpr hp))) (v_cmp (v_sub (v_sub rfl rfl h2) rfl (kid_nm _)) rfl (same ⟨fun h=>⟨_,h1,h⟩,fun ⟨k,h,e⟩=>by rw [h1] at h;cases h;exact e⟩))
    · have h1:l[x]? = none:=List.getElem?_eq_none (by omega)
      rw [show decide (∃ k,l[x]? = some k∧k.nm=tokS e)=false from decide_eq_false fun ⟨k,h,_⟩=>by rw [h1] at h;cases h]
      exact v_andF (v_cmp rfl (v_len rfl (congrArg some (avs_len l))) (no fun h=>hp (Int.ofNat_lt.mp h)))
  · kernel_rfl!
  · have:=q _ (ends_atom (at':=fun x=>decide (∃ k,l[x]? = some k∧k.nm=tokS e)) (R:=Dg (kidW l) noSub e) hnd fun i j=>by rw [dg_sym he,decide_eq_true_eq];exact and_congr ⟨And.right,And.intro he⟩ Iff.rfl)
    rw [List.map_map] at this
    exact this
inductive KdJ (l:List Kd) (a:Ex) (ss:List Nat) (H:Hp) (p r:List Nat):Lo→Hp→Prop
  | mk {fs v8} (hp:p++r=List.range (l.length+1)) (hE:EndsP (Upto (Dg (kidW l) noSub a) p.length) ss fs) :
    KdJ l a ss H p r [some (Ex.rep a).av,some (.tup (Kd.avs l)),some (.lst (ss.map nat')),some (.str "rep"),some a.av,none,some (.lst (fs.map nat')),v8,none] H
theorem kids_ok (hl:l.length≤40):∀ e,KidsOk l e:=by
  have dgb:∀ e i j,Dg (kidW l) noSub e i j→i≤l.length→j≤l.length:=fun e i j h=>(dg_le kidWA h).2
  intro e
  induction e with
  | text s=>exact kids_sym hl rfl
  | name j=>exact kids_sym hl rfl
  | eps =>
    intro n H Q ss hn hnd hb q
    exact callS (by omega) rfl fun n en => s_unp (a:=.str "seq") (b:=.tup []) rfl rfl rfl (s_no (by kernel_rfl!) (s_no (by kernel_rfl!) (s_ifT (by kernel_rfl!) (s_forT (l:=[]) rfl ⟨trivial,s_ret (v:=.lst (ss.map nat')) rfl (retI (Q:=Q) (q ss ((EndsP.self hnd).imp fun i _ j => (dg_eps kidWA).symm)))⟩))))
  | seq a b iha ihb =>
    intro n H Q ss hn hnd hb q
    have hn:1+a.size+b.size<n:=hn
    exact callS (by omega) rfl fun n en => s_unp (a:=.str "seq") (b:=.tup [a.av,b.av]) rfl rfl rfl (s_no (by kernel_rfl!) (s_no (by kernel_rfl!) (s_ifT (by kernel_rfl!) (s_forT (l:=[a.av,b.av]) rfl ⟨trivial,_,rfl,
      s_assignE (e_call (C:=callN fdt n) (vs:=[a.av,.tup (Kd.avs l),.lst (ss.map nat')]) rfl (iha n H _ ss (by omega) hnd hb fun ra hra=>⟨Nat.le_of_ble_eq_true rfl,s_nil ⟨trivial,_,rfl,
      s_assignE (e_call (C:=callN fdt n) (vs:=[b.av,.tup (Kd.avs l),.lst (ra.map nat')]) rfl (ihb n H _ ra (by omega) hra.nd (hra.le hb (dgb a)) fun rb hrb=>⟨Nat.le_of_ble_eq_true rfl,s_nil ⟨trivial,
      s_ret (v:=.lst (rb.map nat')) rfl (retI (Q:=Q) (q rb (hra.seq hrb fun i j=>dg_seq kidWA)))⟩⟩))⟩⟩))⟩))))
  | alt a b iha ihb =>
    intro n H Q ss hn hnd hb q
    have hn:1+a.size+b.size<n:=hn
    exact callS (by omega) rfl fun n en => s_unp (a:=.str "alt") (b:=.tup [a.av,b.av]) rfl rfl rfl (s_no (by kernel_rfl!) (s_ifT (by kernel_rfl!) (s_retE (e_uni hl (cm n)
      (e_call (C:=callN fdt n) (vs:=[a.av,.tup (Kd.avs l),.lst (ss.map nat')]) rfl (iha n H _ ss (by omega) hnd hb fun ra hra =>
      e_call (C:=callN fdt n) (vs:=[b.av,.tup (Kd.avs l),.lst (ss.map nat')]) rfl (ihb n H _ ss (by omega) hnd hb fun rb hrb =>
      ⟨ra,rb,rfl,rfl,hra.nd,hrb.nd,hra.le hb (dgb a),hrb.le hb (dgb b),fun ws hws hm=>retI (Q:=Q) (q ws (hra.alt hrb hws hm fun i j=>dg_alt kidWA))⟩)))))))
  | opt a ih =>
    intro n H Q ss hn hnd hb q
    have hn:1+a.size<n:=hn
    exact callS (by omega) rfl fun n en => s_unp (a:=.str "opt") (b:=a.av) rfl rfl rfl (s_no (by kernel_rfl!) (s_no (by kernel_rfl!) (s_no (by kernel_rfl!) (s_assign (v:=.lst (ss.map nat')) rfl rfl (s_forRange (i:=1) (by kernel_rfl!) (by decide) (by decide) ⟨trivial,_,rfl,
      s_assignE (e_uni hl (cm n) (evE_ok (C:=callN fdt n) (.var 6) (v:=.lst (ss.map nat')) rfl (e_call (C:=callN fdt n) (vs:=[a.av,.tup (Kd.avs l),.lst (ss.map nat')]) (evp_cons rfl (evp_cons rfl (evp_cons (by kernel_rfl!) rfl))) (ih n H _ ss (by omega) hnd hb fun ra hra =>
      ⟨ss,ra,rfl,rfl,hnd,hra.nd,hb,hra.le hb (dgb a),fun ws hws hm=>⟨Nat.le_of_ble_eq_true rfl,s_nil ⟨trivial,s_ret (v:=.lst (ws.map nat')) rfl (retI (Q:=Q) (q ws ((EndsP.self hnd).alt hra hws hm fun i j=>(opt_upto kidWA).symm.trans upto_one)))⟩⟩⟩))))⟩)))))
  | rep a ih =>
    intro n H Q ss hn hnd hb q
    have hn:1+a.size<n:=hn
    refine callS (by omega) rfl fun n en => s_unp (a:=.str "rep") (b:=a.av) rfl rfl rfl (s_no (by kernel_rfl!) (s_no (by kernel_rfl!) (s_no (by kernel_rfl!) (s_assign (v:=.lst (ss.map nat')) rfl rfl ?_))))
    refine s_forRange (i:=((l.length+1:Nat):Int)) (v_iteF (by kernel_rfl!) (v_bin (v_len rfl (congrArg some (avs_len l))) rfl rfl)) (by omega) (by omega) ?_
    rw [rangeL_nat]
    refine for_list (α:=Nat) (f:=fun i=>AV.int (Int.ofNat i)) (vcSs_mono (cm n) _) (KdJ l a ss H) (fun _ _ _ _ _=>trivial) ?_ _ [] _ _ ?_ (.mk rfl ((EndsP.self hnd).imp fun i _ j=>upto_zero.symm))
    · rintro p x r _ Hc @⟨fs,v8,hp,hE⟩
      have hbf:=hE.le hb fun i j u=>(dg_le kidWA (upto_dg kidWA u)).2
      exact ⟨Nat.le_of_ble_eq_true rfl,s_assignE (e_uni hl (cm n) (evE_ok (C:=callN fdt n) (.var 6) (v:=.lst (fs.map nat')) rfl (e_call (C:=callN fdt n) (vs:=[a.av,.tup (Kd.avs l),.lst (fs.map nat')]) (evp_cons rfl (evp_cons rfl (evp_cons (by kernel_rfl!) rfl))) (ih n H _ fs (by omega) hE.nd hbf fun ra hra =>
        ⟨fs,ra,rfl,rfl,hE.nd,hra.nd,hbf,hra.le hbf (dgb a),fun ws hws hm=>⟨Nat.le_of_ble_eq_true rfl,s_nil (.mk ((List.append_assoc ..).trans hp) (by rw [List.length_append];exact hE.step hra hws hm))⟩⟩))))⟩
    · rintro _ Hc @⟨fs,v8,hp,hE⟩
      refine s_ret (v:=.lst (fs.map nat')) rfl (retI (Q:=Q) (q fs (hE.imp fun i hi j=>?_)))
      rw [show (([]:List Nat)++List.range (l.length+1)).length=l.length+1 from List.length_range]
      exact rep_upto kidWA (hb i hi)
end LY.Internal
end

section
open PySem
namespace LY.Internal
variable {C:CallP} {m:Lo} {H:Hp} {ts:List Ex} {em:List (Str × AV)} {kt ke kf ko kg:Nat} {gs:List (Str × AV)} {fr:Nat→Nat} {Fi:Nat→Str→Prop}
theorem boolIn_all:∀ {l:List AV},(∀ v∈l,v=.bool true)→boolIn false l=some false
  | [],_=>rfl
  | v::l,h=>h v List.mem_cons_self▸congrArg (Option.map fun x=>(false == true) || x) (boolIn_all fun w hw=>h w (List.mem_cons_of_mem _ hw))
theorem kidAt_W {l:List Kd}:∀ e p,kidAt ts.length l e p→kidW l e p:=fun e p ⟨h1,k,h2,h3,_⟩=>⟨h1,k,h2,h3⟩
theorem sound_ok (W:WfT ts):∀ (d r:Nat),4-r≤d→∀ (j:Nat) (l:List Kd) {n:Nat} {Q:QV},d+9<n→Good ts r (.node j l)→H kt=some (.dS (tabAV ts))→Q (.bool true) H→callN fdt n .l_sound [(Kd.node j l).av,.ref kt] H Q:=by
  intro d
  induction d with
  | zero=>intro r hr j l n Q hn g;have:=g.1;have:=g.2.1;have:=W.four;omega
  | succ d ih =>
    intro r hr j l n Q hn g ht q
    obtain ⟨g1,hj,g3,g4,g5⟩:=g
    have hsz:=W.size j hj
    have h4:n ≥ 10:=by omega
    refine callS (by omega) rfl fun n en=>s_unp (a:=.str (rn j)) (b:=.tup (Kd.avs l)) rfl rfl rfl (s_ifR (e_cmp (v_len rfl (congrArg some (avs_len l))) (e_call (vs:=[(T ts j).av,.tup (Kd.avs l),.lst ([0].map nat')]) (evp_cons (v_sub rfl rfl (at_dS ht (tab_get hj))) (evp_cons rfl (evp_cons rfl rfl)))
      (kids_ok g4 (T ts j) n H _ [0] (by omega) (List.nodup_cons.mpr ⟨nofun,List.nodup_nil⟩) (fun x hx=>List.mem_singleton.mp hx▸Nat.zero_le _) fun rr hrr=>?_))))
    have hin:l.length∈rr:=(hrr.mem _).mpr ⟨0,List.mem_singleton_self 0,dg_mono kidAt_W g3⟩
    refine ⟨false,?_,Or.inr ⟨rfl,s_nil (s_retE (e_cmp (x:=.bool false) rfl (e_compG (φ:=Kd.av) (g:=fun _=>.bool true) (f:=fun k=>!k.isLeaf) (l:=l) (x:=.tup (Kd.avs l)) rfl (by rw [← avs_map];rfl) (Nat.le_of_ble_eq_true rfl) (by omega) (fun k hk Q' q'=>?_) (fun k hk hkl Q' q'=>?_) ?_)))⟩⟩
    · exact congrArg (Option.map (!·)) (in_nats.trans (yes hin))
    · have hg:=good_mem g5 k hk
      refine evE_ok (C:=callN fdt n) (.cmp .isin (.sub (.var 4) (.int 0)) (.var 1)) ?_ q'
      cases k with
      | leaf t p =>
        refine v_inF (v_sub rfl rfl (kid_nm _)) rfl ht fun h=>?_
        have h:t∈ks (tabAV ts):=h
        rw [tab_ks,List.mem_map] at h
        obtain ⟨i,hi,e⟩:=h
        exact hg i (List.mem_range.mp hi) e.symm
      | node i l'=>exact v_cmp (v_sub rfl rfl (kid_nm _)) rfl ((in_tab ht).trans (yes hg.2.1))
    · have hg:=good_mem g5 k hk
      cases k with
      | leaf t p=>cases hkl
      | node i l'=>exact e_call (vs:=[(Kd.node i l').av,.ref kt]) rfl (ih (j+1) (by omega) i l' (by omega) hg ht q')
    · exact ⟨true,congrArg (Option.map (!·)) (boolIn_all fun v hv=>(List.mem_map.mp hv).elim fun _ h=>h.2.symm),retI q⟩
noncomputable def KI (d:List (Int × AV)) (S:List Nat):Prop:=d.map (·.1)=S.map Int.ofNat
noncomputable def addN (S:List Nat) (x:Nat):List Nat:=if x∈S then S else S++[x]
theorem KI.add {d:List (Int × AV)} {S:List Nat} (h:KI d S) (x:Nat) (v:AV):KI (setK d (x:Int) v) (addN S x):=by
  have h:d.map (·.1)=S.map Int.ofNat:=h
  refine (fst_setK _ _ _).trans ?_
  rw [h]
  by_cases hx:x∈S
  · exact (if_pos (ofNat_mem.mpr hx)).trans (congrArg (List.map Int.ofNat) (if_pos hx).symm)
  · refine (if_neg fun q=>hx (ofNat_mem.mp q)).trans (Eq.trans ?_ (congrArg (List.map Int.ofNat) (if_neg hx).symm))
    rw [List.map_append];rfl
theorem addN_mem {S:List Nat} {x y:Nat}:y∈addN S x ↔ y∈S∨y=x:=by
  by_cases h:x∈S
  · rw [show addN S x=S from if_pos h];exact ⟨Or.inl,fun q=>q.elim id fun e=>e▸h⟩
  · rw [show addN S x=_ from if_neg h,List.mem_append,List.mem_singleton]
theorem addN_nd {S:List Nat} {x:Nat} (h:S.Nodup):(addN S x).Nodup:=by
  by_cases hx:x∈S
  · rw [show addN S x=S from if_pos hx];exact h
  · rw [show addN S x=_ from if_neg hx]
    exact List.nodup_append.mpr ⟨h,List.nodup_cons.mpr ⟨nofun,List.nodup_nil⟩,fun a ha b hb e=>hx (List.mem_singleton.mp hb▸e▸ha)⟩
theorem addN_len {S:List Nat} {x:Nat}:S.length≤(addN S x).length∧(addN S x).length≤S.length+1:=by
  by_cases hx:x∈S
  · rw [show addN S x=S from if_pos hx];exact ⟨Nat.le_refl _,Nat.le_succ _⟩
  · rw [show addN S x=_ from if_neg hx,List.length_append];exact ⟨Nat.le_succ _,Nat.le_refl _⟩
theorem KI.len {d:List (Int × AV)} {S:List Nat} (h:KI d S):d.length=S.length :=
  (List.length_map _).symm.trans ((congrArg List.length h).trans (List.length_map _))
noncomputable def addNs (S ns:List Nat):List Nat:=ns.foldl addN S
theorem addNs_mem:∀ {ns S:List Nat} {y:Nat},y∈addNs S ns ↔ y∈S∨y∈ns
  | [],S,y=>⟨Or.inl,fun h=>h.elim id nofun⟩
  | x::ns,S,y=>by
    rw [show addNs S (x::ns)=addNs (addN S x) ns from rfl,addNs_mem,addN_mem,List.mem_cons,or_assoc]
theorem addNs_nd:∀ {ns S:List Nat},S.Nodup→(addNs S ns).Nodup
  | [],_,h=>h
  | x::ns,S,h=>addNs_nd (ns:=ns) (addN_nd h)
theorem addNs_more {ns S:List Nat} {x:Nat} (hx:x∈ns) (hn:x ∉ S) (hS:S.Nodup):S.length<(addNs S ns).length:=by
  have:=len_le_of_sub (l:=x::S) (u:=addNs S ns) (List.nodup_cons.mpr ⟨hn,hS⟩) fun y hy=>by
    rcases List.mem_cons.mp hy with rfl | hy
    · exact addNs_mem.mpr (Or.inr hx)
    · exact addNs_mem.mpr (Or.inl hy)
  simp only [List.length_cons] at this
  omega
theorem s_setI {o i e:ME} {ms:MSs} {Q:QF} {v:AV} {k:Nat} {x:Int} {l:List (Int × AV)} (he:evE e m H=some v) (ho:evE o m H=some (.ref k)) (hi:evE i m H=some (.int x)) (hk:H k=some (.dI l)) (hc:l.length<cap)
    (q:vcSs C ms m (H.set k (.dI (setK l x v))) Q):vcSs C (.cons (.setSub o i e) ms) m H Q :=
  evE_ok (C:=C) e he (evE_ok (C:=C) o ho (evE_ok (C:=C) i hi ⟨k,rfl,Or.inr (Or.inl ⟨l,x,hk,rfl,hc,q⟩)⟩))
theorem for_add {k8:Nat} {live:Hp→Prop} {Q:QF} (hlive:∀ H,live H):∀ {ns S:List Nat} {d:List (Int × AV)} {m:Lo} {H:Hp},H k8=some (.dI d)→KI d S→S.length+ns.length≤3000→m.at 8=some (.ref k8)→9<m.length →
    (∀ v9 d',KI d' (addNs S ns)→Q .next (m.set 9 v9) (H.set k8 (.dI d')))→forL (vcSs C (.cons (.setSub (.var 8) (.var 9) (.bool true)) .nil)) live (.one 9) (ns.map nat') m H Q
  | [],S,d,m,H,hd,hK,hl,h8,h9,q=>⟨hlive H,by
      have:=q m[9] d hK
      rw [List.set_getElem_self,Hp.set_eq hd] at this
      exact this⟩
  | x::ns,S,d,m,H,hd,hK,hl,h8,h9,q=>by
    simp only [List.length_cons] at hl
    refine ⟨hlive H,m.set 9 (some (nat' x)),if_pos h9,?_⟩
    have hdl:=hK.len
    have h8':Lo.at (m.set 9 (some (nat' x))) 8=some (.ref k8):=by rw [Lo.at_set_ne (by decide)];exact h8
    refine s_setI (v:=.bool true) (k:=k8) (x:=(x:Int)) (l:=d) rfl h8' (Lo.at_set h9) hd (by have:cap=1000000:=rfl;omega) (s_nil ?_)
    have hal:=(addN_len (S:=S) (x:=x)).2
    refine for_add hlive (ns:=ns) (S:=addN S x) (d:=setK d (x:Int) (.bool true)) (Hp.set_self ..) (hK.add x _) (by omega) h8' (by simpa using h9) fun v9 d' hK'=>?_
    rw [List.set_set,Hp.set_set]
    exact q v9 d' hK'
theorem ret_sorted {k8 N:Nat} {d:List (Int × AV)} {S:List Nat} {Q:QF} {ms:MSs} (hN:N≤60) (hd:H k8=some (.dI d)) (hK:KI d S) (hS:S.Nodup) (hb:∀ x∈S,x≤N) (h8:m.at 8=some (.ref k8)) (q:∀ r:List Nat,r.length≤N+1→(∀ x,x∈r ↔ x∈S)→Q (.ret (.lst (r.map nat'))) m H) :
    vcSs C (.cons (.ret (.sorted (.var 8))) ms) m H Q:=by
  have hl:=nodup_len hS hb
  refine s_retE (evE_ok (C:=C) (.var 8) (v:=.ref k8) (Q:=fun x H1=>∃ l,srcOf H1 x=some l∧l.length<64∧((∃ u,intsOf l=some u∧∀ w:List Int,w.Perm u→Q (.ret (.lst (w.map .int))) m H1)∨(∃ u,strsOf l=some u∧∀ w:List Str,w.Perm u→Q (.ret (.lst (w.map .str))) m H1))) h8
    ⟨d.map (fun x=>.int x.1),congrArg (fun o:Option AO=>match o with | some (.list l)=>some l | some (.dS l)=>some (l.map fun x:Str × AV=>AV.str x.1) | some (.dI l)=>some (l.map fun x:Int × AV=>AV.int x.1) | _=>none) hd,by rw [List.length_map,hK.len];omega,Or.inl ⟨S.map Int.ofNat,?_,fun w hw=>?_⟩⟩)
  · rw [show d.map (fun x=>AV.int x.1)=(d.map (·.1)).map AV.int by rw [List.map_map];rfl,show d.map (·.1)=S.map Int.ofNat from hK,map_nat]
    exact intsOf_nat S
  · obtain ⟨ws,rfl⟩:=to_nats (w:=w) fun i hi=>by
      obtain ⟨j,_,rfl⟩:=List.mem_map.mp (hw.mem_iff.mp hi)
      exact Int.natCast_nonneg j
    rw [map_nat]
    have h1:=hw.length_eq
    rw [List.length_map,List.length_map] at h1
    exact q ws (by omega) fun x=>by rw [← ofNat_mem (l:=ws),hw.mem_iff,ofNat_mem]
noncomputable def EofOk (ts:List Ex) (em:List (Str × AV)) (kt ke kf ko kg:Nat) (gs:List (Str × AV)) (fr:Nat→Nat) (Fi:Nat→Str→Prop) (l:List Kd) (e:Ex):Prop:=∀ (n:Nat) (H:Hp) (Q:QV) (ss:List Nat),e.size+1<n→(∀ x∈ss,x≤l.length)→ss.length≤100→GC ts em kt ke kf ko kg gs fr Fi H →
  (∀ r:List Nat,(∀ i∈ss,∀ j,Dg (kidAt ts.length l) noSub e i j→j∈r)→(∀ x∈r,x≤l.length)→r.length≤100→Q (.lst (r.map nat')) H)→callN fdt n .ends_of [.obj .grammar kg,e.av,.tup (Kd.avs l),.lst (ss.map nat')] H Q
theorem kidAt_A {l:List Kd}:∀ e p,kidAt ts.length l e p→isSym e=true∧p<l.length:=fun e p h=>kidWA e p (kidAt_W e p h)
theorem eof_sym {l:List Kd} {e:Ex} (hl:l.length≤40) (he:isSym e=true):EofOk ts em kt ke kf ko kg gs fr Fi l e:=by
  intro n H Q ss hn hb hs G q
  obtain ⟨tag,htag,hav⟩:∃ tag:Str,(tag = "text" ∨ tag = "name") ∧ e.av = .tup [.str tag,.str (tokS e)]:=by
    cases e <;> first | exact ⟨_,Or.inl rfl,rfl⟩ | exact ⟨_,Or.inr rfl,rfl⟩ | cases he
  have hseq:=congrArg (seqOf H) hav
  refine callS (by omega) rfl fun n en=>s_assign (v:=.str tag) (v_sub rfl rfl (at_seq (i:=0) hseq rfl)) rfl ?_
  refine s_ifT (by rcases htag with rfl | rfl <;> kernel_rfl!) (s_assign (v:=.str (tokS e)) (v_sub rfl rfl (at_seq (i:=1) hseq rfl)) rfl
    (s_assignE (e_call (C:=callN fdt n) (vs:=[e.av,.ref kt]) (evp_cons rfl (evp_cons (G.at rfl G.table) rfl)) (is_token_ok (n:=n) (e:=e) (by omega) G.g.ht ⟨Nat.le_of_ble_eq_true rfl,
    s_retE (e_compG (φ:=nat') (g:=fun x=>nat' (x+1)) (f:=fun x=>decide (∃ k,l[x]? = some k∧k.nm=tokS e∧k.isLeaf=isTok ts.length e)) (x:=.lst (ss.map nat')) rfl rfl (Nat.le_of_ble_eq_true rfl) (by omega) (fun x hx Q' q'=>?_) (fun x hx _ _=>evE_ok (C:=callN fdt n) (.bin .add (.var 11) (.int 1)) ?_) (retI (Q:=Q) ?_))⟩))))
  · by_cases hp:x<l.length
    · have h1:l[x]? = some l[x]:=List.getElem?_eq_getElem hp
      have h2:=kid_at (H:=H) hp
      have hq:(∃ k,l[x]? = some k∧k.nm=tokS e∧k.isLeaf=isTok ts.length e) ↔ ((l[x]).nm=tokS e∧(l[x]).isLeaf=isTok ts.length e) :=
        ⟨fun ⟨k,h,e⟩=>Option.some.inj (h1.symm.trans h)▸e,fun e=>⟨_,h1,e⟩⟩
      have q':Q' (.bool (decide ((l[x]).nm=tokS e∧(l[x]).isLeaf=isTok ts.length e))) H:=decide_eq_decide.mpr hq▸q'
      refine e_andT (v_cmp rfl (v_len rfl (congrArg some (avs_len l))) (yes (Int.ofNat_lt.mpr hp))) ?_
      have hv:=v_cmp (H:=H) (o:=.eq) (m:=[some (.obj .grammar kg),some e.av,some (.tup (Kd.avs l)),some (.lst (ss.map nat')),some (.str tag),some (.str (tokS e)),some (.bool (isTok ts.length e)),none,none,none,none,some (nat' x)]) (v_sub (a:=.sub (.var 2) (.var 11)) (b:=.int 0) (v_sub rfl rfl h2) rfl (kid_nm _)) (b:=.var 5) rfl rfl
      by_cases hnm:(l[x]).nm=tokS e
      · rw [decide_eq_true hnm] at hv
        refine e_andT hv (e_call (vs:=[(l[x]).av]) (evp_cons (v_sub rfl rfl h2) rfl) (isLeaf_ok (k:=l[x]) (by omega) ?_))
        refine ⟨.bool (isTok ts.length e),rfl,decide ((l[x]).isLeaf=isTok ts.length e),rfl,⟨_,rfl⟩,⟨_,rfl⟩,?_⟩
        rw [decide_eq_decide.mpr (and_iff_right hnm)] at q'
        exact q'
      · rw [decide_eq_false hnm] at hv
        rw [decide_eq_false fun h=>hnm h.1] at q'
        exact e_andF hv ⟨⟨_,rfl⟩,q'⟩
    · rw [decide_eq_false fun ⟨k,h,_⟩=>hp (List.getElem?_eq_some_iff.mp h).1] at q'
      exact e_andF (v_cmp rfl (v_len rfl (congrArg some (avs_len l))) (no fun h=>hp (Int.ofNat_lt.mp h))) q'
  · kernel_rfl!
  · have hm:∀ x,x∈(ss.filter fun x=>decide (∃ k,l[x]? = some k∧k.nm=tokS e∧k.isLeaf=isTok ts.length e)).map (·+1) ↔ ∃ i∈ss,kidAt ts.length l e i∧x=i+1:=fun x=>by
      rw [List.mem_map]
      constructor
      · rintro ⟨i,hi,rfl⟩
        obtain ⟨h1,h2⟩:=List.mem_filter.mp hi
        exact ⟨i,h1,⟨he,of_decide_eq_true h2⟩,rfl⟩
      · rintro ⟨i,hi,h,rfl⟩
        exact ⟨i,List.mem_filter.mpr ⟨hi,decide_eq_true h.2⟩,rfl⟩
    have:=q _ (fun i hi j d=>(hm j).mpr ⟨i,hi,(dg_sym he).mp d⟩) (fun x hx=>by obtain ⟨i,_,h,rfl⟩:=(hm x).mp hx;exact (kidAt_A e i h).2) (by rw [List.length_map];exact Nat.le_trans (List.length_filter_le _ _) hs)
    rw [List.map_map] at this
    exact this
end LY.Internal
end

section
open PySem
namespace LY.Internal
variable {C:CallP} {m:Lo} {H:Hp} {ts:List Ex} {em:List (Str × AV)} {kt ke kf ko kg:Nat} {gs:List (Str × AV)} {fr:Nat→Nat} {Fi:Nat→Str→Prop}
theorem closed_rep {l:List Kd} {a:Ex} {S:List Nat} (hc:∀ x∈S,∀ y,Dg (kidAt ts.length l) noSub a x y→y∈S) {e:Ex} {i j:Nat} (d:Dg (kidAt ts.length l) noSub e i j):e=.rep a→i∈S→j∈S:=by
  induction d with
  | atom h=>intro e;subst e;have:=h.1;cases this
  | rep0=>exact fun _ h=>h
  | rep1 h1 _ _ _ ihb=>intro e h;cases e;exact ihb rfl (hc _ h _ h1)
  | _=>exact nofun
theorem nat_inj:∀ {a b:List Nat},a.map Int.ofNat=b.map Int.ofNat→a=b
  | [],[],_=>rfl
  | x::a,y::b,h=>by
    have h:Int.ofNat x::a.map Int.ofNat=Int.ofNat y::b.map Int.ofNat:=h
    injection h with h1 h2
    rw [nat_inj h2]
    injection h1 with h1
    rw [h1]
theorem ne_lists {a b:List Nat}:cmpAV H .ne (.lst (a.map nat')) (.lst (b.map nat'))=some (!decide (a=b)):=by
  have e:(if (a.map nat').length≠(b.map nat').length then some false else match intsOf (a.map nat'),intsOf (b.map nat') with
      | some u,some v=>some (decide (u=v))
      | _,_=>match strsOf (a.map nat'),strsOf (b.map nat') with | some u,some v=>some (decide (u=v)) | _,_=>Option.none)=some (decide (a=b)):=by
    rw [intsOf_nat,intsOf_nat]
    by_cases hl:(a.map nat').length=(b.map nat').length
    · exact (if_neg (not_not_intro hl)).trans (same ⟨nat_inj,congrArg _⟩)
    · exact (if_pos hl).trans (no fun e=>hl (congrArg (fun l=>(l.map nat').length) e)).symm
  exact congrArg (Option.map (!·)) e
noncomputable def tg (r:Bool):AV:=.str (if r = true then "rep" else "opt")
inductive EInv (ts:List Ex) (H:Hp) (k8 kg:Nat) (l:List Kd) (ss:List Nat) (r:Bool) (a:Ex) (kk:Nat):Lo→Hp→Prop
  | mk {S fresh d v9 v11 v12} (hK:KI d S) (hS:S.Nodup) (hSb:∀ x∈S,x≤l.length) (hfb:∀ x∈fresh,x≤l.length) (hfl:fresh.length≤100) (hfn:∀ x∈fresh,x ∉ S) (hkk:kk+S.length=l.length+1)
      (hfs:fresh=ss∨∀ x∈ss,x∈S) (hss:∀ x∈ss,x∈S∨x∈fresh) (hcl:∀ x∈S,∀ y,Dg (kidAt ts.length l) noSub a x y→y∈S∨y∈fresh) :
    EInv ts H k8 kg l ss r a kk [some (.obj .grammar kg),some (.tup [tg r,a.av]),some (.tup (Kd.avs l)),some (.lst (ss.map nat')),some (tg r),none,none,none,some (.ref k8),v9,some (.lst (fresh.map nat')),v11,v12] (H.set k8 (.dI d))
theorem in_dI {x:Nat} {k:Nat} {d:List (Int × AV)} {S:List Nat} (h:H k=some (.dI d)) (hK:KI d S):inAV H (nat' x) (.ref k)=some (decide (x∈S)):=by
  refine (congrArg (fun o:Option AO=>match o with | some (.dI l)=>some (decide ((x:Int)∈l.map fun x:Int × AV=>x.1)) | _=>Option.none) h).trans ?_
  show some (decide ((x:Int)∈d.map (·.1)))=_
  rw [show d.map (·.1)=_ from hK];exact same ofNat_mem
theorem eof_orp {l:List Kd} (hl:l.length≤40) (r:Bool) (a:Ex) (ih:EofOk ts em kt ke kf ko kg gs fr Fi l a):EofOk ts em kt ke kf ko kg gs fr Fi l (orp r a):=by
  intro n H Q ss hn hb hs G q
  have hn':1+a.size+1<n:=by cases r <;> exact hn
  have hav:(orp r a).av=.tup [tg r,a.av]:=by cases r <;> rfl
  rw [hav]
  have hq:∀ (r':List Nat),(∀ i∈ss,i∈r'∧∀ y,Dg (kidAt ts.length l) noSub a i y→y∈r')→(r=true→∀ x∈r',∀ y,Dg (kidAt ts.length l) noSub a x y→y∈r')→(∀ x∈r',x≤l.length)→r'.length≤100→Q (.lst (r'.map nat')) H:=by
    intro r' h1 h2 h3 h4
    refine q r' (fun i hi j d=>?_) h3 h4
    cases r with
    | true=>exact closed_rep (h2 rfl) d rfl (h1 i hi).1
    | false =>
      have d:Dg (kidAt ts.length l) noSub (.opt a) i j:=d
      cases d with
      | atom h=>have:=h.1;cases this
      | opt0=>exact (h1 i hi).1
      | opt1 d=>exact (h1 i hi).2 _ d
  clear q
  refine callS (by omega) rfl fun n en=>s_assign rfl rfl (s_no (C:=callN fdt n) (by cases r <;> kernel_rfl!) (s_no (C:=callN fdt n) (by cases r <;> kernel_rfl!) (s_assignE fun k8 hk8=>⟨Nat.le_of_ble_eq_true rfl,
    s_no (C:=callN fdt n) (by cases r <;> kernel_rfl!) (s_assign (v:=.lst (ss.map nat')) rfl rfl ?_)⟩)))
  refine s_while (k:=l.length+1) (EInv ts H k8 kg l ss r a) ?_ (.mk (S:=[]) (d:=[]) rfl List.nodup_nil nofun hb hs (fun _ _=>nofun) (Nat.add_zero _) (Or.inl rfl) (fun x hx=>Or.inr hx) nofun)
  rintro kk _ _ @⟨S,fresh,d,v9,v11,v12,hK,hS,hSb,hfb,hfl,hfn,hkk,hfs,hss,hcl⟩
  have hSl:=nodup_len hS hSb
  have hv:evE (.cmp .gt (.len (.var 10)) (.int 0)) [some (.obj .grammar kg),some (.tup [tg r,a.av]),some (.tup (Kd.avs l)),some (.lst (ss.map nat')),some (tg r),none,none,none,some (.ref k8),v9,some (.lst (fresh.map nat')),v11,v12] (H.set k8 (.dI d))=some (.bool (decide ((0:Int)<fresh.length))) :=
    v_cmp (v_len rfl (congrArg some (List.length_map _))) rfl rfl
  by_cases hf0:(0:Int)<fresh.length
  · rw [decide_eq_true hf0] at hv
    refine evE_ok (C:=callN fdt n) _ hv (Or.inl ⟨rfl,?_⟩)
    refine evE_ok (C:=callN fdt n) (.var 10) (v:=.lst (fresh.map nat')) (Q:=fun x H1=>∃ l,seqOf H1 x=some l∧forL _ (Live H1 x) (.one 9) l _ H1 _) rfl ⟨_,rfl,?_⟩
    refine for_add (k8:=k8) (S:=S) (d:=d) (fun _=>trivial) (Hp.set_self ..) hK (by omega) rfl (Nat.le_of_ble_eq_true rfl) fun v9 d' hK'=>?_
    rw [Hp.set_set]
    have hS':=addNs_nd (ns:=fresh) hS
    have hSb':∀ x∈addNs S fresh,x≤l.length:=fun x hx=>(addNs_mem.mp hx).elim (hSb x) (hfb x)
    have hSl':=nodup_len hS' hSb'
    have hgrow:S.length<(addNs S fresh).length:=by
      cases fresh with
      | nil=>exact absurd hf0 (Int.lt_irrefl 0)
      | cons x fr'=>exact addNs_more List.mem_cons_self (hfn x List.mem_cons_self) hS
    have next:∀ v9:Option AV,vcSs (callN fdt n) (.cons (.assignComp 10 (.comp (.var 12) 12 (.call .ends_of (.cons (.var 0) (.cons (.sub (.var 1) (.int 1)) (.cons (.var 2) (.cons (.var 10) .nil))))) (.cmp .notin (.var 12) (.var 8)))) .nil)
        [some (.obj .grammar kg),some (.tup [tg r,a.av]),some (.tup (Kd.avs l)),some (.lst (ss.map nat')),some (tg r),none,none,none,some (.ref k8),v9,some (.lst (fresh.map nat')),v11,v12] (H.set k8 (.dI d'))
        (stepK (fun m' H''=>∃ k',k'<kk∧EInv ts H k8 kg l ss r a k' m' H'') (retK Q)):=fun v9 =>
      e_call (C:=callN fdt n) (vs:=[.obj .grammar kg,a.av,.tup (Kd.avs l),.lst (fresh.map nat')]) rfl (ih n _ _ fresh (by omega) hfb hfl (G.le (Hp.le_set _ hk8)) fun r1 hr1 hr2 hr3=>⟨Nat.le_of_ble_eq_true rfl,_,rfl,by rw [List.length_map];have:cap=1000000:=rfl;omega,
        comp_gen (g:=nat') (f:=fun x=>!decide (x∈addNs S fresh)) (fun x hx _=>evE_ok (C:=callN fdt n) _ (v_cmp rfl rfl (congrArg (Option.map (!·)) (in_dI (Hp.set_self ..) hK')))) (fun x hx _ _ q=>⟨_,rfl,q⟩) (by show 0+_≤_;omega) ⟨Nat.le_of_ble_eq_true rfl,s_nil
        ⟨kk-((addNs S fresh).length-S.length),by omega,.mk hK' hS' hSb' (fun x hx=>hr2 x (List.mem_filter.mp hx).1) (Nat.le_trans (List.length_filter_le _ _) hr3) (fun x hx h=>by have:=(List.mem_filter.mp hx).2;rw [decide_eq_true h] at this;cases this) (by omega) (Or.inr fun x hx=>addNs_mem.mpr (hss x hx)) (fun x hx=>Or.inl (addNs_mem.mpr (hss x hx)))
          fun x hx y dy=>by
            by_cases hy:y∈addNs S fresh
            · exact Or.inl hy
            · exact Or.inr (List.mem_filter.mpr ⟨(addNs_mem.mp hx).elim (fun hx=>absurd (addNs_mem.mpr (hcl x hx y dy)) hy) (fun hx=>hr1 x hx y dy),by rw [decide_eq_false hy];rfl⟩)⟩⟩⟩)
    cases r with
    | true=>exact s_no (C:=callN fdt n) (by kernel_rfl!) (next _)
    | false =>
      refine s_when (C:=callN fdt n) (v_andT (by kernel_rfl!) (v_cmp rfl rfl ne_lists)) (fun hne=>?_) (fun _=>next _)
      have hall:∀ x∈ss,x∈S:=hfs.elim (fun e=>by rw [decide_eq_true e] at hne;cases hne) id
      exact ret_sorted (N:=l.length) (by omega) (Hp.set_self ..) hK' hS' hSb' rfl fun r' hr hm=>dropI (Hp.le_set _ hk8) (hq r' (fun i hi=>⟨(hm i).mpr (addNs_mem.mpr (Or.inl (hall i hi))),fun y dy=>(hm y).mpr (addNs_mem.mpr (hcl i (hall i hi) y dy))⟩) nofun (fun x hx=>hSb' x ((hm x).mp hx)) (by omega))
  · rw [decide_eq_false hf0] at hv
    cases fresh with
    | cons x fr'=>exact absurd (Int.ofNat_lt.mpr (Nat.succ_pos _)) hf0
    | nil =>
      have hcl':∀ i∈S,∀ y,Dg (kidAt ts.length l) noSub a i y→y∈S:=fun i hi y dy=>(hcl i hi y dy).elim id nofun
      exact evE_ok (C:=callN fdt n) _ hv (Or.inr ⟨rfl,ret_sorted (N:=l.length) (by omega) (Hp.set_self ..) hK hS hSb rfl fun r' hr hm=>dropI (Hp.le_set _ hk8) (hq r' (fun i hi=>have hi':i∈S:=(hss i hi).elim id nofun;⟨(hm i).mpr hi',fun y dy=>(hm y).mpr (hcl' i hi' y dy)⟩)
        (fun _ x hx y dy=>(hm y).mpr (hcl' x ((hm x).mp hx) y dy)) (fun x hx=>hSb x ((hm x).mp hx)) (by omega))⟩)
theorem eof_ok {l:List Kd} (hl:l.length≤40):∀ e,EofOk ts em kt ke kf ko kg gs fr Fi l e:=by
  intro e
  induction e with
  | text s=>exact eof_sym hl rfl
  | name j=>exact eof_sym hl rfl
  | eps =>
    intro n H Q ss hn hb hs G q
    refine callS (by omega) rfl fun n en=>(s_assign rfl rfl (s_no (by kernel_rfl!) (s_ifT (by kernel_rfl!) ?_)))
    refine s_forT (l:=[]) rfl ⟨trivial,s_ret (v:=.lst (ss.map nat')) rfl (retI (Q:=Q) (q ss (fun i hi j d=>?_) hb hs))⟩
    rw [← (dg_eps (kidAt_A (ts:=ts) (l:=l))).mp d];exact hi
  | seq a b iha ihb =>
    intro n H Q ss hn hb hs G q
    have hn:1+a.size+b.size+1<n:=hn
    refine callS (by omega) rfl fun n en=>(s_assign rfl rfl (s_no (by kernel_rfl!) (s_ifT (by kernel_rfl!) ?_)))
    refine s_forT (l:=[a.av,b.av]) rfl ⟨trivial,_,rfl,?_⟩
    refine s_assignE (e_call (C:=callN fdt n) (vs:=[.obj .grammar kg,a.av,.tup (Kd.avs l),.lst (ss.map nat')]) rfl (iha n H _ ss (by omega) hb hs G fun ra ha1 ha2 ha3=>⟨Nat.le_of_ble_eq_true rfl,s_nil ⟨trivial,_,rfl,?_⟩⟩))
    refine s_assignE (e_call (C:=callN fdt n) (vs:=[.obj .grammar kg,b.av,.tup (Kd.avs l),.lst (ra.map nat')]) rfl (ihb n H _ ra (by omega) ha2 ha3 G fun rb hb1 hb2 hb3=>⟨Nat.le_of_ble_eq_true rfl,s_nil ⟨trivial,s_ret (v:=.lst (rb.map nat')) rfl (retI (Q:=Q) (q rb (fun i hi j d=>?_) hb2 hb3))⟩⟩))
    obtain ⟨k,d1,d2⟩:=(dg_seq (kidAt_A (ts:=ts) (l:=l))).mp d
    exact hb1 k (ha1 i hi k d1) j d2
  | alt a b iha ihb =>
    intro n H Q ss hn hb hs G q
    have hn:1+a.size+b.size+1<n:=hn
    refine callS (by omega) rfl fun n en=>(s_assign rfl rfl (s_no (by kernel_rfl!) (s_no (by kernel_rfl!) ?_)))
    refine s_assignE fun k8 hk8=>⟨Nat.le_of_ble_eq_true rfl,?_⟩
    refine s_ifT (by kernel_rfl!) ?_
    refine s_forT (l:=[a.av,b.av]) rfl ⟨trivial,_,rfl,?_⟩
    refine e_call (C:=callN fdt n) (vs:=[.obj .grammar kg,a.av,.tup (Kd.avs l),.lst (ss.map nat')]) rfl (iha n _ _ ss (by omega) hb hs (G.le (Hp.le_set _ hk8)) fun ra ha1 ha2 ha3=>⟨_,rfl,?_⟩)
    refine for_add (k8:=k8) (S:=[]) (d:=[]) (fun _=>trivial) (Hp.set_self ..) rfl (by show 0+_≤_;omega) rfl (Nat.le_of_ble_eq_true rfl) fun v9 d' hK'=>s_nil ⟨trivial,_,rfl,?_⟩
    rw [Hp.set_set]
    have hS':=addNs_nd (ns:=ra) (S:=[]) List.nodup_nil
    have hSb':∀ x∈addNs [] ra,x≤l.length:=fun x hx=>(addNs_mem.mp hx).elim (nofun) (ha2 x)
    have hSl':=nodup_len hS' hSb'
    refine e_call (C:=callN fdt n) (vs:=[.obj .grammar kg,b.av,.tup (Kd.avs l),.lst (ss.map nat')]) rfl (ihb n _ _ ss (by omega) hb hs (G.le (Hp.le_set _ hk8)) fun rb hb1 hb2 hb3=>⟨_,rfl,?_⟩)
    refine for_add (k8:=k8) (S:=addNs [] ra) (d:=d') (fun _=>trivial) (Hp.set_self ..) hK' (by omega) rfl (Nat.le_of_ble_eq_true rfl) fun v9 d'' hK''=>s_nil ⟨trivial,?_⟩
    rw [Hp.set_set]
    have hSb'':∀ x∈addNs (addNs [] ra) rb,x≤l.length:=fun x hx=>(addNs_mem.mp hx).elim (hSb' x) (hb2 x)
    refine ret_sorted (N:=l.length) (by omega) (Hp.set_self ..) hK'' (addNs_nd hS') hSb'' rfl fun r' hr hm=>dropI (Hp.le_set _ hk8) (q r' (fun i hi j d=>(hm j).mpr ?_) (fun x hx=>hSb'' x ((hm x).mp hx)) (by omega))
    rcases (dg_alt (kidAt_A (ts:=ts) (l:=l))).mp d with d | d
    · exact addNs_mem.mpr (Or.inl (addNs_mem.mpr (Or.inr (ha1 i hi j d))))
    · exact addNs_mem.mpr (Or.inr (hb1 i hi j d))
  | opt a ih=>exact eof_orp hl false a ih
  | rep a ih=>exact eof_orp hl true a ih
end LY.Internal
end

section
open PySem
namespace LY.Internal
variable {C:CallP} {m:Lo} {H:Hp} {ts:List Ex} {em:List (Str × AV)} {kt ke kf ko kg:Nat} {gs:List (Str × AV)} {fr:Nat→Nat} {Fi:Nat→Str→Prop}
theorem good_weak {r r':Nat} (h:r'≤r):∀ {k:Kd},Good ts r k→Good ts r' k
  | .leaf _ _,g=>g
  | .node _ _,g=>⟨Nat.le_trans h g.1,g.2⟩
inductive DvW (ts:List Ex) (t:AV) (kg k2:Nat) (H:Hp) (kk:Nat):Lo→Hp→Prop
  | mk {Ws v3 v4 v5 Hc} (hle:H.le Hc) (h2:Hc k2=some (.list (Ws.map Kd.av))) (hkk:kk=Kd.szs Ws) (hS:Kd.szs Ws≤9000) (hW:∀ k∈Ws,Good ts 0 k∧k.isLeaf=false) :
    DvW ts t kg k2 H kk [some (.obj .grammar kg),some t,some (.ref k2),v3,v4,v5] Hc
inductive DvF (ts:List Ex) (t:AV) (kg k2 i:Nat) (l' W':List Kd) (H:Hp) (p r:List Kd):Lo→Hp→Prop
  | mk {Ws v5 Hc} (hp:p++r=l') (hle:H.le Hc) (h2:Hc k2=some (.list (Ws.map Kd.av))) (hS:Kd.szs Ws≤Kd.szs W'+Kd.szs p) (hW:∀ k∈Ws,Good ts 0 k∧k.isLeaf=false) :
    DvF ts t kg k2 i l' W' H p r [some (.obj .grammar kg),some t,some (.ref k2),some (.str (rn i)),some (.tup (Kd.avs l')),v5] Hc
theorem derives_ok {n:Nat} {j:Nat} {l:List Kd} {Q:QV} (W:WfT ts) (G:GC ts em kt ke kf ko kg gs fr Fi H) (hn:10<n) (hg:Good ts 0 (.node j l)) (hsz:(Kd.node j l).sz≤9000) (q:Q (.bool true) H) :
    callN fdt n .derives [.obj .grammar kg,(Kd.node j l).av] H Q:=by
  refine callS (by omega) rfl fun n en=>s_assignE (e_lstDE (es_cons (evE_ok (C:=callN fdt n) (.var 1) (v:=(Kd.node j l).av) rfl (es_nil fun k2 hk2=>⟨Nat.le_of_ble_eq_true rfl,?_⟩))))
  refine s_while (k:=(Kd.node j l).sz) (DvW ts (Kd.node j l).av kg k2 H) ?_ (.mk (Ws:=[.node j l]) (Hp.le_set _ hk2) (Hp.set_self ..) rfl hsz fun k hk=>List.mem_singleton.mp hk▸⟨hg,rfl⟩)
  generalize (Kd.node j l).av=t
  rintro kk _ Hc @⟨Ws,v3,v4,v5,_,hle,h2,hkk,hS,hW⟩
  rcases List.eq_nil_or_concat Ws with rfl | ⟨W',k,rfl⟩
  · exact evE_ok (C:=callN fdt n) (.cmp .gt (.len (.var 2)) (.int 0)) (v_cmp (v_len rfl (len_list h2)) rfl (no (Int.lt_irrefl 0))) (Or.inr ⟨rfl,s_ret (v:=.bool true) rfl (dropI hle q)⟩)
  · rw [List.concat_eq_append] at *
    refine evE_ok (C:=callN fdt n) (.cmp .gt (.len (.var 2)) (.int 0)) (v_cmp (v_len rfl (len_list h2)) rfl (yes (Int.ofNat_lt.mpr (lt_len List.map_append)))) (Or.inl ⟨rfl,?_⟩)
    rw [szs_app,show Kd.szs [k]=k.sz from Nat.add_zero _] at hkk hS
    obtain ⟨gk,lk⟩:=hW k (List.mem_append_right _ List.mem_cons_self)
    have hW1:=fun k hk=>hW k (List.mem_append_left _ hk)
    cases k with
    | leaf t p=>cases lk
    | node i l' =>
      obtain ⟨_,hi,g3,g4,g5⟩:=gk
      have hsz':(Kd.node i l').sz=1+Kd.szs l':=rfl
      rw [hsz'] at hkk hS
      refine s_unpackE (e_pop (C:=callN fdt n) (k:=k2) (l:=W'.map Kd.av) (v:=(Kd.node i l').av) rfl (by rw [h2,List.map_append];rfl) ⟨Nat.le_of_ble_eq_true rfl,Nat.le_of_ble_eq_true rfl,.str (rn i),.tup (Kd.avs l'),rfl,?_⟩)
      have h2':(Hc.set k2 (.list (W'.map Kd.av))) k2=some (.list (W'.map Kd.av)):=Hp.set_self ..
      have hle':H.le (Hc.set k2 (.list (W'.map Kd.av))):=le_set_ne hle hk2
      generalize Hc.set k2 (.list (W'.map Kd.av))=H2 at *
      have G2:=G.le hle'
      have hsi:=W.size i hi
      refine s_no (C:=callN fdt n) (v_cmp rfl (G2.at rfl G2.table) (congrArg (Option.map (!·)) ((in_tab G2.g.ht).trans (yes hi)))) (s_ifR (e_cmp (v_len rfl (congrArg some (avs_len l'))) (e_call (vs:=[.obj .grammar kg,(T ts i).av,.tup (Kd.avs l'),.lst ([0].map nat')]) (evp_cons rfl (evp_cons (v_sub (G2.at rfl G2.table) rfl (at_dS G2.g.ht (tab_get hi))) (evp_cons rfl (evp_cons rfl rfl))))
        (eof_ok g4 (T ts i) n H2 _ [0] (by omega) (fun x hx=>List.mem_singleton.mp hx▸Nat.zero_le _) (by show 1≤100;decide) G2 fun rr hr1 hr2 hr3=>⟨false,congrArg (Option.map (!·)) (in_nats.trans (yes (hr1 0 List.mem_cons_self _ g3))),Or.inr ⟨rfl,s_nil (s_forT (l:=l'.map Kd.av) (by rw [← avs_map];rfl) ?_)⟩⟩))))
      refine for_list (α:=Kd) (f:=Kd.av) (vcSs_mono (cm n) _) (DvF ts t kg k2 i l' W' H) (fun _ _ _ _ _=>trivial) ?_ l' [] _ _ ?_ (.mk rfl hle' h2' (Nat.le_refl _) hW1)
      · rintro p x r _ Hc @⟨Ws,v5,_,hp,hle3,h3,hS3,hW3⟩
        have hx:x∈l':=hp▸List.mem_append_right p List.mem_cons_self
        have hps:Kd.szs p+(x.sz+Kd.szs r)=Kd.szs l':=(szs_app p (x::r)).symm.trans (congrArg Kd.szs hp)
        have hp:=(List.append_assoc p [x] r).trans hp
        have hpx:Kd.szs (p++[x])=Kd.szs p+x.sz:=szs_app p [x]
        have hlen:=len_szs Ws
        refine ⟨Nat.le_of_ble_eq_true rfl,s_ifR (e_not (e_call (vs:=[x.av]) rfl (isLeaf_ok (k:=x) (by omega) ⟨x.isLeaf,rfl,?_⟩)))⟩
        cases hxl:x.isLeaf with
        | true=>exact Or.inr ⟨rfl,s_nil (s_nil (.mk hp hle3 h3 (by rw [hpx];omega) hW3))⟩
        | false =>
          refine Or.inl ⟨rfl,s_exprE (e_append (k:=k2) (v:=x.av) rfl h3 rfl (by rw [List.length_map];have:cap=1000000:=rfl;omega) (s_nil (s_nil (.mk (Ws:=Ws++[x]) hp (le_set_ne hle3 hk2) (by rw [Hp.set_self,List.map_append];rfl) (by rw [hpx,szs_app,show Kd.szs [x]=x.sz from Nat.add_zero _];omega) fun k hk=>?_))))⟩
          exact (List.mem_append.mp hk).elim (hW3 k) fun hk=>List.mem_singleton.mp hk▸⟨good_weak (Nat.zero_le _) (good_mem g5 x hx),hxl⟩
      · rintro _ Hc @⟨Ws,v5,_,hp,hle3,h3,hS3,hW3⟩
        have hS3:Kd.szs Ws≤Kd.szs W'+Kd.szs l':=hS3
        exact s_nil ⟨_,by omega,.mk hle3 h3 rfl (by omega) hW3⟩
end LY.Internal
end

section
open PySem
namespace LY.Internal
variable {C:CallP} {m:Lo} {H:Hp}
noncomputable def Pool (kp kq:Nat) (H:Hp):Prop:=∃ (is:List Int) (t:Int),H kp=some (.list [.ref kq,.int t])∧H kq=some (.list (is.map .int))∧0≤t∧t≤1000
theorem e_binE {C:CallP} {m:Lo} {o:BOp} {a b:ME} {Q:QV} (h:vcE C a m H fun x H1=>vcE C b m H1 fun y H2=>∃ z,binAV o x y=some z∧Q z H2):vcE C (.bin o a b) m H Q:=h
theorem intsOf_mapP:∀ u:List Int,intsOf (u.map .int)=some u
  | []=>rfl
  | i::u=>congrArg (Option.map (i::·)) (intsOf_mapP u)
theorem fdiv_small {i:Int} (h:0≤i):0≤i.fdiv 1000∧(0<i→i.fdiv 1000<i):=by
  rw [Int.fdiv_eq_ediv_of_nonneg _ (by decide)]
  exact ⟨Int.ediv_nonneg h (by decide),fun h=>Int.ediv_lt_self_of_pos_of_ne_one h (by decide)⟩
theorem abs_ev {x:Int} (h:evE (.var 2) m H=some (.int x)):∃ x0:Int,evE (.ite (.cmp .ge (.var 2) (.int 0)) (.var 2) (.bin .sub (.int 1) (.var 2))) m H=some (.int x0)∧0≤x0:=by
  by_cases hx:x ≥ 0
  · exact ⟨x,v_iteT (v_cmp h rfl (yes hx)) h,hx⟩
  · exact ⟨1-x,v_iteF (v_cmp h rfl (no hx)) (v_bin rfl h rfl),by omega⟩
theorem s_push {C:CallP} {ms:MSs} {Q:QF} {k:Nat} {ws:List Int} {a e:ME} {i:Int} (ha:evE a m (H.set k (.list (ws.map .int)))=some (.ref k)) (he:evE e m (H.set k (.list (ws.map .int)))=some (.int i)) (hl:ws.length≤400)
    (q:vcSs C ms m (H.set k (.list ((ws++[i]).map .int))) Q):vcSs C (.cons (.expr (.append a e)) ms) m (H.set k (.list (ws.map .int))) Q:=by
  refine s_exprE (e_append (k:=k) (l:=ws.map .int) (v:=.int i) ha (Hp.set_self ..) he (by rw [List.length_map];have:cap=1000000:=rfl;omega) ?_)
  rw [Hp.set_set]
  rw [List.map_append] at q
  exact q
inductive StF (ns:List Int) (k1:Nat) (H:Hp) (p r:List Int):Lo→Hp→Prop
  | mk {ws:List Int} {v2 v3} (hp:p++r=ns.take 50) (hl:ws.length≤300+p.length):StF ns k1 H p r [some (.lst (ns.map .int)),some (.ref k1),v2,v3,none] (H.set k1 (.list (ws.map .int)))
inductive StW (ns:List Int) (k1:Nat) (H:Hp) (x:AV) (b kk:Nat):Lo→Hp→Prop
  | mk {ws:List Int} {y:Int} (hl:ws.length≤b) (hy:0≤y) (hk:kk=y.toNat):StW ns k1 H x b kk [some (.lst (ns.map .int)),some (.ref k1),some x,some (.int y),none] (H.set k1 (.list (ws.map .int)))
theorem stock_ok {n:Nat} {ns:List Int} {Q:QV} (hn:0<n) (q:∀ kp kq H',H.le H'→kp≠kq→H kp=none→H kq=none→Pool kp kq H'→Q (.ref kp) H'):callN fdt n .l_stock [.lst (ns.map .int)] H Q:=by
  refine callS (by omega) rfl fun n en=>s_assignE (e_lstDE (es_nil fun k1 hk1=>⟨Nat.le_of_ble_eq_true rfl,s_for (x:=.lst ((ns.map .int).take 50)) (l:=(ns.take 50).map .int) (v_sliceTo (i:=50) rfl rfl rfl) (congrArg some List.map_take.symm) ?_⟩))
  refine for_list (α:=Int) (f:=AV.int) (vcSs_mono (cm n) _) (StF ns k1 H) (fun _ _ _ _ _=>trivial) ?_ (ns.take 50) [] _ _ ?_ (.mk (ws:=[]) rfl (Nat.zero_le _))
  · rintro p x r _ _ @⟨ws,v2,v3,hp,hl⟩
    have hp50:p.length+(x::r).length≤50:=by
      rw [← List.length_append,hp,List.length_take];exact Nat.min_le_left ..
    have hp50:p.length+(r.length+1)≤50:=hp50
    obtain ⟨x0,hx0,hx1⟩:=abs_ev (m:=[some (.lst (ns.map .int)),some (.ref k1),some (.int x),v3,none]) (H:=H.set k1 (.list (ws.map .int))) rfl
    refine ⟨Nat.le_of_ble_eq_true rfl,s_assign hx0 rfl (s_push (i:=x0.fmod 1000) rfl (by kernel_rfl!) (by omega) (s_assign (v:=.int (x0.fdiv 1000)) (by kernel_rfl!) rfl ?_))⟩
    refine s_while (k:=(x0.fdiv 1000).toNat) (StW ns k1 H (.int x) (300+p.length+1)) ?_ (.mk (by rw [List.length_append];exact Nat.succ_le_succ hl) (fdiv_small hx1).1 rfl)
    rintro kk _ _ @⟨ws',y,hl',hy,hkk⟩
    have hpx:(p++[x]).length=p.length+1:=List.length_append
    have stop:StF ns k1 H (p++[x]) r _ _:=.mk (v2:=some (.int x)) (v3:=some (.int y)) (ws:=ws') ((List.append_assoc ..).trans hp) (by omega)
    by_cases h1:y > 0
    · by_cases h2:((ws'.map AV.int).length:Int)<300
      · refine evE_ok (C:=callN fdt n) (.and (.cmp .gt (.var 3) (.int 0)) (.cmp .lt (.len (.var 1)) (.int 300))) (v_andT (v_cmp rfl rfl (yes h1)) (v_cmp (v_len rfl (len_list (Hp.set_self ..))) rfl (yes h2))) (Or.inl ⟨rfl,?_⟩)
        rw [List.length_map] at h2
        have hf:=fdiv_small hy
        have hf2:=hf.2 h1
        exact s_push (i:=y.fmod 1000) rfl (by kernel_rfl!) (by omega) (s_assign (v:=.int (y.fdiv 1000)) (by kernel_rfl!) rfl (s_nil ⟨_,by omega,.mk (by rw [List.length_append];show _+1≤_;omega) hf.1 rfl⟩))
      · exact evE_ok (C:=callN fdt n) (.and (.cmp .gt (.var 3) (.int 0)) (.cmp .lt (.len (.var 1)) (.int 300))) (v_andT (v_cmp rfl rfl (yes h1)) (v_cmp (v_len rfl (len_list (Hp.set_self ..))) rfl (no h2))) (Or.inr ⟨rfl,s_nil stop⟩)
    · exact evE_ok (C:=callN fdt n) (.and (.cmp .gt (.var 3) (.int 0)) (.cmp .lt (.len (.var 1)) (.int 300))) (v_andF (v_cmp rfl rfl (no h1))) (Or.inr ⟨rfl,s_nil stop⟩)
  · rintro _ _ @⟨ws,v2,v3,hp,hl⟩
    have h1:=Int.fmod_nonneg_of_pos ws.sum (b:=990) (by decide)
    have h2:=Int.fmod_lt_of_pos ws.sum (b:=990) (by decide)
    have fin:∀ t:Int,0≤t→t≤1000→vcSs (callN fdt n) (.cons (.expr (.reverse (.var 1))) (.cons (.ret (.lstD (.cons (.var 1) (.cons (.var 4) .nil)))) .nil)) [some (.lst (ns.map .int)),some (.ref k1),v2,v3,some (.int t)] (H.set k1 (.list (ws.map .int)))
        (retK Q):=by
      intro t h0 h1
      refine s_exprE (e_reverse (k:=k1) (l:=ws.map .int) rfl (Hp.set_self ..) ?_)
      rw [Hp.set_set]
      refine s_retE (e_lstDE (evEs_ok (C:=callN fdt n) _ (vs:=[.ref k1,.int t]) rfl fun kp hkp=>?_))
      have hne:kp≠k1:=fun e=>by rw [e,Hp.set_self] at hkp;cases hkp
      have hkp0:H kp=none:=none_of_le (Hp.le_set _ hk1) hkp
      exact retI (Q:=Q) (q kp k1 _ (le_set_ne (Hp.le_set _ hk1) hkp0) hne hkp0 hk1 ⟨ws.reverse,t,Hp.set_self ..,by rw [Hp.set_ne _ _ hne.symm,Hp.set_self,List.map_reverse],h0,h1⟩)
    exact s_assign (v:=.int 0) rfl rfl (s_when (v_cmp (v_len rfl rfl) rfl rfl) (fun _=>s_assign (v:=.int (1+ws.sum.fmod 990)) (v_bin rfl (v_bin (v_sum rfl (list_of (Hp.set_self ..)) (intsOf_mapP ws)) rfl rfl) rfl) rfl (s_nil (fin _ (by omega) (by omega)))) (fun _=>fin 0 (by decide) (by decide)))
theorem eq_nilG {x:AV} {l:List AV} (h:listOf H x=some l):eqAV H x (.lst [])=some (decide (l=[])):=by
  have key:(match listOf H x,listOf H (.lst []) with
    | some l,some l' =>
      if l.length≠l'.length then some false
      else match intsOf l,intsOf l' with
        | some u,some v=>some (decide (u=v))
        | _,_=>match strsOf l,strsOf l' with
          | some u,some v=>some (decide (u=v))
          | _,_=>Option.none
    | _,_=>Option.none)=some (decide (l=[])):=by
    rw [h]
    cases l with
    | nil=>rfl
    | cons a l=>exact (if_pos nofun).trans (no nofun).symm
  cases x <;> first | exact key | cases h
theorem ne_nilT {x:AV} {l:List AV} (h:listOf H x=some l) (hl:l≠[]):cmpAV H .ne x (.lst [])=some true:=congrArg (Option.map (!·)) ((eq_nilG h).trans (no hl))
theorem ne_nilF {x:AV} (h:listOf H x=some []):cmpAV H .ne x (.lst [])=some false:=congrArg (Option.map (!·)) (eq_nilG h)
theorem pick_ok {n kp kq:Nat} {w:Int} {Q:QV} (hn:0<n) (hne:kp≠kq) (hw:0<w) (hP:Pool kp kq H) (q:∀ v H',0≤v→v<w→Pool kp kq H'→(∀ k,k≠kp→k≠kq→H' k=H k)→Q (.int v) H'):callN fdt n .l_pick [.ref kp,.int w] H Q:=by
  obtain ⟨is,t,hp,hq,h0,h1⟩:=hP
  have hmod:∀ v:Int,0≤v.fmod w∧v.fmod w<w:=fun v=>⟨Int.fmod_nonneg_of_pos v hw,Int.fmod_lt_of_pos v hw⟩
  have hw0:w≠0:=Int.ne_of_gt hw
  have s0:subAV H (.ref kp) (.int 0)=some (.ref kq):=at_seq (i:=0) (seq_of hp) rfl
  refine callS (by omega) rfl fun n en=>?_
  rcases List.eq_nil_or_concat is with rfl | ⟨is',v,rfl⟩
  · have s1:subAV H (.ref kp) (.int 1)=some (.int t):=at_seq (i:=1) (seq_of hp) rfl
    refine s_no (C:=callN fdt n) (v_cmp (v_sub rfl rfl s0) rfl (ne_nilF (list_of hq))) (s_when (v_cmp (v_sub rfl rfl s1) rfl rfl) (fun _=>?_) (fun _=>s_ret (v:=.int (t.fmod w)) (v_bin (v_sub rfl rfl s1) rfl (if_neg hw0)) (retI (q _ _ (hmod t).1 (hmod t).2 ⟨[],t,hp,hq,h0,h1⟩ fun _ _ _=>rfl))))
    have hm1:=Int.fmod_nonneg_of_pos (t * 29+7) (b:=997) (by decide)
    have hm2:=Int.fmod_lt_of_pos (t * 29+7) (b:=997) (by decide)
    obtain ⟨t',ht',ht0,ht1⟩:∃ t':Int,(if 1 > (t * 29+7).fmod 997 then 1 else (t * 29+7).fmod 997)=t'∧0≤t'∧t'≤1000:=by
      by_cases h:1 > (t * 29+7).fmod 997
      · exact ⟨1,if_pos h,by decide,by decide⟩
      · exact ⟨_,if_neg h,hm1,by omega⟩
    have hcap:t.natAbs≤cap∧(29:Int).natAbs≤cap:=⟨by have:cap=1000000:=rfl;omega,by decide⟩
    have hp':(H.set kp (.list [.ref kq,.int t'])) kp=some (.list [.ref kq,.int t']):=Hp.set_self ..
    have hz:evE (.bin .mod (.bin .add (.bin .mul (.sub (.var 0) (.int 1)) (.int 29)) (.int 7)) (.int 997)) [some (.ref kp),some (.int w)] H=some (.int ((t * 29+7).fmod 997)):=v_bin (v_bin (v_bin (v_sub rfl rfl s1) rfl (if_pos hcap)) rfl rfl) rfl rfl
    refine evE_ok (C:=callN fdt n) _ (v:=.int t') (bndI (bndI hz rfl) (mpI (bndI rfl rfl) (congrArg AV.int ht'))) ?_
    refine (evE_ok (C:=callN fdt n) (.var 0) (v:=.ref kp) rfl (evE_ok (C:=callN fdt n) (.int 1) (v:=.int 1) rfl ?_))
    exact ⟨kp,rfl,Or.inr (Or.inr ⟨[.ref kq,.int t],1,hp,rfl,Nat.le_refl 2,
      s_nil (s_ret (v:=.int (t'.fmod w)) (v_bin (v_sub rfl rfl (at_seq (i:=1) (seq_of hp') rfl)) rfl (if_neg hw0)) (retI (q _ _ (hmod t').1 (hmod t').2 ⟨[],t',hp',(Hp.set_ne _ _ hne.symm).trans hq,ht0,ht1⟩ fun k a b=>Hp.set_ne _ _ a)))⟩)⟩
  · rw [List.concat_eq_append,List.map_append] at hq
    exact s_ifT (C:=callN fdt n) (v_cmp (v_sub rfl rfl s0) rfl (ne_nilT (list_of hq) (List.append_ne_nil_of_right_ne_nil _ nofun))) (s_retE (e_binE <| e_pop (C:=callN fdt n) (k:=kq) (l:=is'.map .int) (v:=.int v) (v_sub rfl rfl s0) hq (evE_ok (C:=callN fdt n) (.var 1) (v:=.int w) rfl ⟨.int (v.fmod w),if_neg hw0,retI (q _ _ (hmod v).1 (hmod v).2 ⟨is',t,(Hp.set_ne _ _ hne).trans hp,Hp.set_self ..,h0,h1⟩ fun k a b=>Hp.set_ne _ _ b)⟩)))
end LY.Internal
end

section
open PySem
namespace LY.Internal
variable {C:CallP} {m:Lo} {H:Hp}
structure TrP (deep:Nat) (s:Int) (e:Ex) (s':Int):Prop where
  out:s'=s-e.size
  sz1:inn e+1≤e.size
  sz2:e.size≤2 * inn e+1
  i1:1≤s→(inn e:Int)≤s-1
  i2:s≤1→inn e=0
  i3:5-(deep:Int)≤s→(inn e:Int)≤s-2
theorem TrP.leaf {deep:Nat} {s:Int} {e:Ex} (hd:deep≤3) (h1:inn e=0) (h2:e.size=1):TrP deep s e (s-1) :=
  ⟨by rw [h2];rfl,by omega,by omega,by omega,fun _=>h1,by omega⟩
theorem TrP.one {deep:Nat} {s s':Int} {a e:Ex} (h:TrP (deep+1) (s-1) a s') (hs:1<s) (h1:inn e=1+inn a) (h2:e.size=1+a.size):TrP deep s e s':=by
  obtain ⟨o,z1,z2,i1,i2,i3⟩:=h
  exact ⟨by rw [o,h2];push_cast;omega,by omega,by omega,by omega,by omega,fun h=>by have:=i3 (by push_cast;omega);omega⟩
theorem TrP.two {deep:Nat} {s s' s'':Int} {a b e:Ex} (h:TrP (deep+1) (s-1) a s') (h':TrP (deep+1) s' b s'') (hs:1<s) (h1:inn e=1+inn a+inn b) (h2:e.size=1+a.size+b.size):TrP deep s e s'':=by
  obtain ⟨o,z1,z2,i1,i2,i3⟩:=h
  obtain ⟨o',z1',z2',i1',i2',i3'⟩:=h'
  refine ⟨by rw [o',o,h2];push_cast;omega,by omega,by omega,fun h=>?_,by omega,fun h=>?_⟩
  · by_cases hs':1≤s'
    · have:=i1' hs';omega
    · have:=i2' (by omega);omega
  · have:=i3 (by push_cast;omega)
    by_cases hs':1≤s'
    · have:=i1' hs';omega
    · have:=i2' (by omega);omega
theorem pqrs_at {i : Int} (h0 : 0 ≤ i) (h4 : i < 4) : ∃ c : Str, c ∈ [("p" : Str), "q", "r", "s"] ∧ subAV H (.str "pqrs") (.int i) = some (.str c) := by
  have:i=0∨i=1∨i=2∨i=3:=by omega
  rcases this with rfl | rfl | rfl | rfl
  · exact ⟨"p",.head _,by kernel_rfl!⟩
  · exact ⟨"q",.tail _ (.head _),by kernel_rfl!⟩
  · exact ⟨"r",.tail _ (.tail _ (.head _)),by kernel_rfl!⟩
  · exact ⟨"s",.tail _ (.tail _ (.tail _ (.head _))),by kernel_rfl!⟩
theorem R_len (j:Nat):Str.length ("R":Str) + Str.length (digit j) ≤ cap:=by
  have h1:Str.length ("R":Str) = 1:=by decide +kernel
  have h2:Str.length (digit j)=1:=rfl
  rw [h1,h2]
  decide
theorem r_add (j : Nat) : binAV .add (.str "R") (.str (digit (j : Int))) = some (.str (rn j)) := if_pos (c := Str.length ("R" : Str) + Str.length (digit j) ≤ cap) (e := Option.none) (R_len j)
theorem name_ev {e:ME} {j:Nat} {H:Hp} {m:Lo} (hj:j ≤ 9) (h:evE e m H = some (.int (j:Int))):evE (.bin .add (.str "R") (.strOf e)) m H = some (.str (rn j)) :=
  v_bin rfl (v_strOf h (Int.natCast_nonneg j) (Int.ofNat_le.mpr hj)) (r_add j)
theorem e_ite {c a b:ME} {z:Bool} {Q:QV} (h:evE c m H=some (.bool z)) (ht:z=true→vcE C a m H Q) (hf:z=false→vcE C b m H Q):vcE C (.ite c a b) m H Q:=by
  refine evE_ok (C:=C) c h ?_
  cases z
  · exact Or.inr ⟨rfl,hf rfl⟩
  · exact Or.inl ⟨rfl,ht rfl⟩
theorem e_subE {a b:ME} {Q:QV} (h:vcE C a m H fun x H1=>vcE C b m H1 fun y H2=>∃ z,subAV H2 x y=some z∧Q z H2):vcE C (.sub a b) m H Q:=h
theorem e_strOfE {a:ME} {Q:QV} (h:vcE C a m H fun x H1=>∃ i,x=.int i∧0≤i∧i≤9∧Q (.str (digit i)) H1):vcE C (.strOf a) m H Q:=h
variable {kp kq ks':Nat} {step count:Nat}
noncomputable def TFr (kp kq ks':Nat) (H H':Hp):Prop:=∀ k,k≠kp→k≠kq→k≠ks'→H' k=H k
noncomputable def TreeOk (kp kq ks' step count d deep:Nat):Prop:=∀ (n:Nat) (H:Hp) (s:Int) (Q:QV),d+2<n→Pool kp kq H→H ks'=some (.list [.int s]) →
  (∀ e s' H',TrP deep s e s'→WfE e→(∀ j,NameIn j e→step<j)→Pool kp kq H'→H' ks'=some (.list [.int s'])→TFr kp kq ks' H H'→Q e.av H') →
  callN fdt n .l_tree [.ref kp,.ref ks',.int (deep:Int),.int (step:Int),.int (count:Int)] H Q
theorem s_augSub {o i e:ME} {ms:MSs} {Q:QF} {k n:Nat} {l:List AV} {a b:Int} (ho:evE o m H=some (.ref k)) (hi:evE i m H=some (.int (n:Int))) (hk:H k=some (.list l)) (hn:l[n]? = some (.int a)) (he:evE e m H=some (.int b))
    (q:vcSs C ms m (H.set k (.list (l.set n (.int (a-b))))) Q):vcSs C (.cons (.augSub o i e) ms) m H Q:=by
  have hlt:n<l.length:=(List.getElem?_eq_some_iff.mp hn).1
  exact evE_ok (C:=C) o ho (evE_ok (C:=C) i hi ⟨.int a,a,at_seq (seq_of hk) hn,rfl,evE_ok (C:=C) e he ⟨k,l,n,b,rfl,rfl,hk,hlt,rfl,q⟩⟩)
theorem Pool.keep {H':Hp} (h:Pool kp kq H) (h1:H' kp=H kp) (h2:H' kq=H kq):Pool kp kq H':=by
  obtain ⟨is,t,a,b,c⟩:=h
  exact ⟨is,t,by rw [h1];exact a,by rw [h2];exact b,c⟩
theorem wide_ev {H1:Hp} {s:Int} {deep:Nat} (h2:evE (.var 2) m H1=some (.int (deep:Int))) (hs:evE (.sub (.var 1) (.int 0)) m H1=some (.int (s-1))) :
    ∃ w:Int,evE (.ite (.and (.cmp .lt (.var 2) (.int 3)) (.cmp .gt (.sub (.var 1) (.int 0)) (.int 0))) (.int 9) (.int 4)) m H1=some (.int w)∧0<w∧∀ v,4≤v→v<w→deep<3∧1<s:=by
  by_cases h1:(deep:Int)<3
  · by_cases h3:s-1 > 0
    · exact ⟨9,v_iteT (v_andT (v_cmp h2 rfl (yes h1)) (v_cmp hs rfl (yes h3))) rfl,by decide,fun _ _ _=>⟨Int.ofNat_lt.mp h1,Int.lt_of_sub_pos h3⟩⟩
    · exact ⟨4,v_iteF (v_andT (v_cmp h2 rfl (yes h1)) (v_cmp hs rfl (no h3))) rfl,by decide,fun _ a b=>absurd a (Int.not_le.mpr b)⟩
  · exact ⟨4,v_iteF (v_andF (v_cmp h2 rfl (no h1))) rfl,by decide,fun _ a b=>absurd a (Int.not_le.mpr b)⟩
theorem tree_step (hne:kp≠kq) (hs1:ks'≠kp) (hs2:ks'≠kq) (hc:count≤4) (hsc:step<count) (d deep:Nat) (hd:deep+d=3) (ih:∀ d',d=d'+1→TreeOk kp kq ks' step count d' (deep+1)):TreeOk kp kq ks' step count d deep:=by
  intro n H s Q hn hP hs q
  have hd3:deep≤3:=by omega
  refine callS (by omega) rfl fun n en=>(s_augSub (k:=ks') (n:=0) (l:=[.int s]) (a:=s) (b:=1) rfl rfl hs rfl rfl ?_)
  have hs1':(H.set ks' (.list [.int (s-1)])) ks'=some (.list [.int (s-1)]):=Hp.set_self ..
  have hP1:Pool kp kq (H.set ks' (.list [.int (s-1)])):=hP.keep (Hp.set_ne _ _ hs1.symm) (Hp.set_ne _ _ hs2.symm)
  have hF1:TFr kp kq ks' H (H.set ks' (.list [.int (s-1)])):=fun k _ _ h=>Hp.set_ne _ _ h
  show vcSs (callN fdt n) _ [some (.ref kp),some (.ref ks'),some (.int (deep:Int)),some (.int (step:Int)),some (.int (count:Int)),none] (H.set ks' (.list [.int (s-1)])) _
  generalize H.set ks' (.list [.int (s-1)])=H1 at *
  obtain ⟨w,hw,hw0,inner⟩:=wide_ev (m:=[some (.ref kp),some (.ref ks'),some (.int (deep:Int)),some (.int (step:Int)),some (.int (count:Int)),none]) (H1:=H1) rfl (v_sub rfl rfl (at_seq (i:=0) (seq_of hs1') rfl))
  refine s_assignE (e_call (C:=callN fdt n) (vs:=[.ref kp,.int w]) (evp_cons rfl (evp_cons hw rfl)) (pick_ok (by omega) hne hw0 hP1 fun v H2 hv0 hv1 hP2 hfr2=>⟨Nat.le_of_ble_eq_true rfl,?_⟩))
  have inner:=fun h=>inner v h hv1
  have hs2':H2 ks'=some (.list [.int (s-1)]):=(hfr2 ks' hs1 hs2).trans hs1'
  have hF2:TFr kp kq ks' H H2:=fun k a b c=>(hfr2 k a b).trans (hF1 k a b c)
  clear hfr2 hF1 hP1 hs1' hP hs hw hv1 hw0
  show vcSs (callN fdt n) _ [some (.ref kp),some (.ref ks'),some (.int (deep:Int)),some (.int (step:Int)),some (.int (count:Int)),some (.int v)] H2 _
  have fin:∀ e s' H',TrP deep s e s'→WfE e→(∀ j,NameIn j e→step<j)→Pool kp kq H'→H' ks'=some (.list [.int s'])→TFr kp kq ks' H H'→∃ H'':Hp,H''.le H'∧Q e.av H'':=fun e s' H' a b c d e f=>retI (Q:=Q) (q _ s' H' a b c d e f)
  clear q
  have sub1:4≤v→∀ {H':Hp} {s0:Int} {Q':QV},Pool kp kq H'→H' ks'=some (.list [.int s0])→TFr kp kq ks' H H'→(∀ e s' H'',TrP (deep+1) s0 e s'→WfE e→(∀ j,NameIn j e→step<j)→Pool kp kq H''→H'' ks'=some (.list [.int s'])→TFr kp kq ks' H H''→Q' e.av H'') →
      vcE (callN fdt n) (.call .l_tree (.cons (.var 0) (.cons (.var 1) (.cons (.bin .add (.var 2) (.int 1)) (.cons (.var 3) (.cons (.var 4) .nil)))))) [some (.ref kp),some (.ref ks'),some (.int (deep:Int)),some (.int (step:Int)),some (.int (count:Int)),some (.int v)] H' Q':=by
    intro hv H' s0 Q' hP' hs' hF' q'
    have hi:=inner hv
    obtain ⟨d',rfl⟩:∃ d',d=d'+1:=⟨d-1,by omega⟩
    exact e_call (vs:=[.ref kp,.ref ks',.int ((deep+1:Nat):Int),.int (step:Int),.int (count:Int)]) (evp_cons rfl (evp_cons rfl (evp_cons (by kernel_rfl!) (evp_cons rfl (evp_cons rfl rfl)))))
      (ih d' rfl n H' s0 Q' (by omega) hP' hs' fun e s' H'' t1 t2 t3 t4 t5 t6=>q' e s' H'' t1 t2 t3 t4 t5 fun k a b c=>(t6 k a b c).trans (hF' k a b c))
  have leaf:∀ {e:Ex} {H':Hp},inn e=0→e.size=1→WfE e→(∀ j,NameIn j e→step<j)→Pool kp kq H'→(∀ k,k≠kp→k≠kq→H' k=H2 k)→∃ H'':Hp,H''.le H'∧Q e.av H'':=fun {e} H' i1 i2 w1 w2 hP3 hfr3 =>
    fin e (s-1) H' (.leaf hd3 i1 i2) w1 w2 hP3 ((hfr3 ks' hs1 hs2).trans hs2') fun k a b cc=>(hfr3 k a b).trans (hF2 k a b cc)
  by_cases c1:v<2
  · refine s_ifT (C := callN fdt n) (v_cmp rfl rfl (yes c1)) (s_retE (e_tupE (es_cons (evE_ok (C := callN fdt n) (.str "text") (v := .str "text") rfl (es_cons (e_subE (evE_ok (C := callN fdt n) (.str "pqrs") (v := .str "pqrs") rfl (e_call (C := callN fdt n) (vs := [.ref kp, .int 4]) rfl (pick_ok (by omega) hne (by decide) hP2 fun v4 H3 h0 h4 hP3 hfr3 => ?_)))))))))
    obtain ⟨c,hcm,hcs⟩:=pqrs_at (H:=H3) h0 h4
    exact ⟨_,hcs,es_nil (leaf (e:=.text c) rfl rfl hcm (fun _=>False.elim) hP3 hfr3)⟩
  refine s_no (C:=callN fdt n) (v_cmp rfl rfl (no c1)) ?_
  by_cases c2:v=2
  · refine s_ifT (C := callN fdt n) (v_cmp rfl rfl (yes c2)) (s_retE (e_ite (v_cmp (v_bin rfl rfl rfl) rfl rfl) (fun hz => ?_) (fun hz => evE_ok (C := callN fdt n) (.tup (.cons (.str "text") (.cons (.str "p") .nil))) (v := (Ex.text "p").av) rfl (leaf (e := .text "p") rfl rfl (.head _) (fun _ => False.elim) hP2 fun _ _ _ => rfl))))
    have hz:=of_decide_eq_true hz
    refine e_tupE (es_cons (evE_ok (C := callN fdt n) (.str "name") (v := .str "name") rfl (es_cons (e_binE (evE_ok (C := callN fdt n) (.str "R") (v := .str "R") rfl (e_strOfE (e_binE (evE_ok (C := callN fdt n) (.bin .add (.var 3) (.int 1)) (v := .int ((step : Int) + 1)) rfl
      (e_call (C:=callN fdt n) (vs:=[.ref kp,.int 3]) rfl (pick_ok (by omega) hne (by decide) hP2 fun v3 H3 h0 h3 hP3 hfr3=>?_))))))))))
    obtain ⟨j,rfl⟩:=Int.eq_ofNat_of_zero_le h0
    exact ⟨.int ((step:Int)+1+(j:Int)),rfl,((step+1+j:Nat):Int),rfl,Int.natCast_nonneg _,by omega,.str (rn (step+1+j)),r_add _,es_nil (leaf (e:=.name (step+1+j)) rfl rfl ⟨by omega,by omega⟩ (fun i h=>by have h:step+1+j=i:=h;omega) hP3 hfr3)⟩
  refine s_no (C:=callN fdt n) (v_cmp rfl rfl (no c2)) ?_
  by_cases c3:v=3
  · exact s_ifT (C:=callN fdt n) (v_cmp rfl rfl (yes c3)) (s_ret (v:=Ex.eps.av) rfl (leaf (e:=.eps) rfl rfl trivial (fun _=>False.elim) hP2 fun _ _ _=>rfl))
  refine s_no (C:=callN fdt n) (v_cmp rfl rfl (no c3)) ?_
  have hv4:4≤v:=by omega
  have hin:=inner hv4
  have sub1:=@sub1 hv4
  by_cases c4:v<6
  · exact s_ifT (C := callN fdt n) (v_cmp rfl rfl (yes c4)) (s_retE (e_tupE (es_cons (evE_ok (C := callN fdt n) (.str "seq") (v := .str "seq") rfl (es_cons (e_tupE (es_cons (sub1 hP2 hs2' hF2 fun a sa Ha a1 a2 a3 a4 a5 a6 => es_cons (sub1 a4 a5 a6 fun b sb Hb b1 b2 b3 b4 b5 b6 => es_nil (es_nil
      (fin (.seq a b) sb Hb (a1.two b1 hin.2 rfl rfl) ⟨a2,b2⟩ (fun j h=>h.elim (a3 j) (b3 j)) b4 b5 b6)))))))))))
  refine s_no (C:=callN fdt n) (v_cmp rfl rfl (no c4)) ?_
  by_cases c5:v<8
  · refine s_ifT (C:=callN fdt n) (v_cmp rfl rfl (yes c5)) ?_
    by_cases c6:v=6
    · subst c6
      exact s_retE (e_tupE (es_cons (evE_ok (C:=callN fdt n) _ (v:=.str "rep") (by kernel_rfl!) (es_cons (sub1 hP2 hs2' hF2 fun a sa Ha a1 a2 a3 a4 a5 a6 => es_nil
        (fin (.rep a) sa Ha (a1.one hin.2 rfl rfl) a2 a3 a4 a5 a6))))))
    · obtain rfl:v=7:=by omega
      exact s_retE (e_tupE (es_cons (evE_ok (C:=callN fdt n) _ (v:=.str "opt") (by kernel_rfl!) (es_cons (sub1 hP2 hs2' hF2 fun a sa Ha a1 a2 a3 a4 a5 a6 => es_nil
        (fin (.opt a) sa Ha (a1.one hin.2 rfl rfl) a2 a3 a4 a5 a6))))))
  exact s_no (C := callN fdt n) (v_cmp rfl rfl (no c5)) (s_retE (e_tupE (es_cons (evE_ok (C := callN fdt n) (.str "alt") (v := .str "alt") rfl (es_cons (e_tupE (es_cons (sub1 hP2 hs2' hF2 fun a sa Ha a1 a2 a3 a4 a5 a6 => es_cons (sub1 a4 a5 a6 fun b sb Hb b1 b2 b3 b4 b5 b6 => es_nil (es_nil
    (fin (.alt a b) sb Hb (a1.two b1 hin.2 rfl rfl) ⟨a2,b2⟩ (fun j h=>h.elim (a3 j) (b3 j)) b4 b5 b6)))))))))))
theorem tree_ok (hne:kp≠kq) (hs1:ks'≠kp) (hs2:ks'≠kq) (hc:count≤4) (hsc:step<count):∀ d deep:Nat,deep+d=3→TreeOk kp kq ks' step count d deep:=by
  intro d
  induction d with
  | zero=>exact fun deep hd=>tree_step hne hs1 hs2 hc hsc 0 deep hd fun d' e=>by omega
  | succ d ih=>exact fun deep hd=>tree_step hne hs1 hs2 hc hsc (d+1) deep hd fun d' e=>by cases e;exact ih (deep+1) (by omega)
end LY.Internal
end

section
open PySem
namespace LY.Internal
variable {C:CallP} {m:Lo} {H:Hp} {ts:List Ex}
noncomputable def AA:Nat→Nat
  | 0=>256 | 1=>64 | 2=>16 | 3=>4 | _+4=>1
theorem AA_pos:∀ j,1≤AA j
  | 0=>Nat.le_of_ble_eq_true rfl | 1=>Nat.le_of_ble_eq_true rfl | 2=>Nat.le_of_ble_eq_true rfl | 3=>Nat.le_of_ble_eq_true rfl | _+4=>Nat.le_refl _
theorem AA_step:∀ j,AA (j+1)≤AA j
  | 0=>Nat.le_of_ble_eq_true rfl | 1=>Nat.le_of_ble_eq_true rfl | 2=>Nat.le_of_ble_eq_true rfl | 3=>Nat.le_of_ble_eq_true rfl | _+4=>Nat.le_refl _
theorem AA_anti {i j:Nat} (h:i≤j):AA j≤AA i:=by
  induction h with
  | refl=>exact Nat.le_refl _
  | step _ ih=>exact Nat.le_trans (AA_step _) ih
theorem AA_four:∀ j,j<4→4 * AA (j+1)=AA j
  | 0,_=>rfl | 1,_=>rfl | 2,_=>rfl | 3,_=>rfl
noncomputable def al (len:Nat):Ex→Nat
  | .text _=>1
  | .name j=>if j<len then AA j else 1
  | .eps=>1
  | .seq a b=>al len a+al len b
  | .alt a b=>max (al len a) (al len b)
  | .opt a=>al len a
  | .rep a=>al len a
theorem al_one {i M x:Nat} (h:x≤(i+1) * M):x≤(1+i+1) * M:=Nat.le_trans h (Nat.mul_le_mul_right _ (Nat.succ_le_succ (Nat.le_add_left ..)))
theorem al_le {len M:Nat} (hM:1≤M):∀ {e:Ex},(∀ j,NameIn j e→AA j≤M)→al len e≤(inn e+1) * M
  | .text _,_=>Nat.le_trans hM (Nat.le_of_eq (Nat.one_mul M).symm)
  | .name j,h=>by
    refine Nat.le_trans ?_ (Nat.le_of_eq (Nat.one_mul M).symm)
    by_cases hj:j<len
    · exact Nat.le_trans (Nat.le_of_eq (if_pos hj)) (h j rfl)
    · exact Nat.le_trans (Nat.le_of_eq (if_neg hj)) hM
  | .eps,_=>Nat.le_trans hM (Nat.le_of_eq (Nat.one_mul M).symm)
  | .seq a b,h=>by
    refine Nat.le_trans (Nat.add_le_add (al_le (len:=len) hM (e:=a) fun j hj=>h j (Or.inl hj)) (al_le (len:=len) hM (e:=b) fun j hj=>h j (Or.inr hj))) ?_
    rw [← Nat.add_mul]
    exact Nat.mul_le_mul_right _ (by show _≤1+inn a+inn b+1;omega)
  | .alt a b,h=>Nat.max_le.mpr ⟨Nat.le_trans (al_le (len:=len) hM (e:=a) fun j hj=>h j (Or.inl hj)) (Nat.mul_le_mul_right _ (by show _≤1+inn a+inn b+1;omega)),
      Nat.le_trans (al_le (len:=len) hM (e:=b) fun j hj=>h j (Or.inr hj)) (Nat.mul_le_mul_right _ (by show _≤1+inn a+inn b+1;omega))⟩
  | .opt a,h=>al_one (al_le (len:=len) hM (e:=a) h)
  | .rep a,h=>al_one (al_le (len:=len) hM (e:=a) h)
theorem al_rule (W:WfT ts) {j:Nat} (hj:j<ts.length):al ts.length (T ts j)≤AA j :=
  Nat.le_trans (al_le (len:=ts.length) (AA_pos (j+1)) (e:=T ts j) fun i hi=>AA_anti (W.gt j hj i hi))
    (Nat.le_trans (Nat.mul_le_mul_right _ (by have:=W.inn j hj;omega)) (Nat.le_of_eq (AA_four j (Nat.lt_of_lt_of_le hj W.four))))
noncomputable def WfN:Ex→Prop
  | .text s => s ∈ [("p" : Str), "q", "r", "s"]
  | .name _=>True
  | .eps=>True
  | .seq a b=>WfN a∧WfN b
  | .alt a b=>WfN a∧WfN b
  | .opt a=>WfN a
  | .rep a=>WfN a
theorem wfn_of:∀ {e:Ex},WfE e→WfN e
  | .text _,h=>h
  | .name _,_=>trivial
  | .eps,_=>trivial
  | .seq _ _,h=>⟨wfn_of h.1,wfn_of h.2⟩
  | .alt _ _,h=>⟨wfn_of h.1,wfn_of h.2⟩
  | .opt a,h=>wfn_of (e:=a) h
  | .rep a,h=>wfn_of (e:=a) h
theorem rn_ne_eof (j:Nat):rn j ≠ ("eof":Str):=by
  intro h
  have e:((rn j).cps).size=2:=(Array.size_append ..).trans (by kernel_rfl!)
  rw [h] at e
  exact absurd (e:(Str.cps ("eof":Str)).size = 2) (by decide +kernel)
theorem tok_ne_eof' {e:Ex} (hw:WfN e) (h:isTok ts.length e = true):tokS e ≠ ("eof":Str):=by
  cases e with
  | text s=>exact tok_ne_eof (ts:=ts) (e:=.text _) hw rfl
  | name j=>exact rn_ne_eof _
  | _=>cases h
variable {kp kq ks' kr kt:Nat}
noncomputable def DFr (kp kq ks' kr:Nat) (H H':Hp):Prop:=∀ k,k≠kp→k≠kq→k≠ks'→k≠kr→H' k=H k
structure Dis (kp kq ks' kr kt:Nat):Prop where
  a:kp≠kq
  b:ks'≠kp
  c:ks'≠kq
  d:kr≠kp
  e:kr≠kq
  f:kr≠ks'
  g:kt≠kp
  h:kt≠kq
  i:kt≠ks'
  j:kt≠kr
structure DSt (kp kq ks' kr kt:Nat) (ts:List Ex) (rw':List Str) (s:Nat) (H:Hp):Prop where
  p:Pool kp kq H
  r:H kr=some (.list (rw'.map .str))
  s:H ks'=some (.list [.int (s:Int)])
  t:H kt=some (.dS (tabAV ts))
noncomputable def DerOk (kp kq ks' kr kt:Nat) (ts:List Ex) (e:Ex):Prop:=∀ (n:Nat) (H:Hp) (rw':List Str) (s:Nat) (Q:QV),dp ts.length e<n→WfN e→DSt kp kq ks' kr kt ts rw' s H→rw'.length+al ts.length e * (s+1)≤100000 →
  (∀ v w s' H',s' ≤ s → w.length ≤ al ts.length e * (s - s' + 1) → (∀ x ∈ w,x ≠ ("eof":Str)) → DSt kp kq ks' kr kt ts (rw' ++ w) s' H' → DFr kp kq ks' kr H H' → Q v H') →
  callN fdt n .l_derived [.ref kp,e.av,.ref kt,.ref kr,.ref ks'] H Q
theorem DFr.refl:DFr kp kq ks' kr H H:=fun _ _ _ _ _=>rfl
theorem DFr.trans {H H' H'':Hp} (h:DFr kp kq ks' kr H H') (h':DFr kp kq ks' kr H' H''):DFr kp kq ks' kr H H'':=fun k a b c d=>(h' k a b c d).trans (h k a b c d)
theorem DSt.pick {H':Hp} (D:Dis kp kq ks' kr kt) {rw':List Str} {s:Nat} (h:DSt kp kq ks' kr kt ts rw' s H) (hp:Pool kp kq H') (hf:∀ k,k≠kp→k≠kq→H' k=H k):DSt kp kq ks' kr kt ts rw' s H' :=
  ⟨hp,by rw [hf kr D.d D.e];exact h.r,by rw [hf ks' D.b D.c];exact h.s,by rw [hf kt D.g D.h];exact h.t⟩
theorem der_tok (D:Dis kp kq ks' kr kt) {e:Ex} (he:isTok ts.length e=true):DerOk kp kq ks' kr kt ts e:=by
  intro n H rw' s Q hn hw S hc q
  obtain ⟨tag,hav⟩:∃ tag:Str,e.av=.tup [.str tag,.str (tokS e)]:=by
    cases e <;> first | exact ⟨_,rfl⟩ | cases he
  have hcond:evE (.or (.cmp .eq (.var 5) (.str "text")) (.and (.cmp .eq (.var 5) (.str "name")) (.cmp .notin (.var 6) (.var 2)))) [some (.ref kp),some e.av,some (.ref kt),some (.ref kr),some (.ref ks'),some (.str tag),some (.str (tokS e)),none,none] H = some (.bool true):=by
    cases e with
    | text s=>cases hav;kernel_rfl!
    | name j=>cases hav;exact v_orF (by kernel_rfl!) (v_andT (by kernel_rfl!) (v_cmp rfl rfl (congrArg (Option.map (!·)) ((in_tab S.t).trans (no (tokN he))))))
    | _=>cases he
  have hal:al ts.length e=1:=by
    cases e with
    | text s=>rfl
    | name j=>exact if_neg (tokN he)
    | _=>cases he
  refine callS (by omega) rfl fun n en=>s_unp (congrArg some hav) rfl rfl (s_ifT hcond (s_exprE (e_append (k:=kr) (l:=rw'.map .str) (v:=.str (tokS e)) rfl S.r rfl (by rw [List.length_map];have:cap=1000000:=rfl;omega) (s_nil (s_nil (retI (Q:=Q) (q _ [tokS e] s _ (Nat.le_refl _) ?_ ?_ ?_ ?_)))))))
  · rw [hal];show 1≤_;omega
  · intro x hx;rw [List.mem_singleton.mp hx];exact tok_ne_eof' hw he
  · exact ⟨S.p.keep (Hp.set_ne _ _ D.d.symm) (Hp.set_ne _ _ D.e.symm),by rw [Hp.set_self,List.map_append];rfl,(Hp.set_ne _ _ D.f.symm).trans S.s,(Hp.set_ne _ _ D.j).trans S.t⟩
  · exact fun k _ _ _ d=>Hp.set_ne _ _ d
theorem mul_split {A s s' s'' x y:Nat} (h1:s'≤s) (h2:s''≤s') (hx:x≤A * (s-s'+1)) {B:Nat} (hy:y≤B * (s'-s''+1)):x+y≤(A+B) * (s-s''+1):=by
  have m1:A * (s-s'+1)≤A * (s-s''+1):=Nat.mul_le_mul_left _ (by omega)
  have m2:B * (s'-s''+1)≤B * (s-s''+1):=Nat.mul_le_mul_left _ (by omega)
  rw [Nat.add_mul]
  omega
inductive DoW (kp kq ks' kr kt:Nat) (ts:List Ex) (r:Bool) (a:Ex) (rw':List Str) (s:Nat) (H:Hp) (kk:Nat):Lo→Hp→Prop
  | mk {s' w Hc} (hs:s' ≤ s) (hwl:w.length ≤ al ts.length a * (s - s')) (hwe:∀ x ∈ w,x ≠ ("eof":Str)) (S:DSt kp kq ks' kr kt ts (rw' ++ w) s' Hc) (hF:DFr kp kq ks' kr H Hc) :
    DoW kp kq ks' kr kt ts r a rw' s H kk [some (.ref kp),some (.tup [tg r,a.av]),some (.ref kt),some (.ref kr),some (.ref ks'),some (tg r),some a.av,none,some (.int (kk:Int))] Hc
theorem der_orp (D:Dis kp kq ks' kr kt) (r:Bool) (a:Ex) (ih:DerOk kp kq ks' kr kt ts a):DerOk kp kq ks' kr kt ts (orp r a):=by
  intro n H rw' s Q hn hw S hc q
  have hn':1+dp ts.length a<n:=by cases r <;> exact hn
  have hw':WfN a:=by cases r <;> exact hw
  have hal:al ts.length (orp r a)=al ts.length a:=by cases r <;> rfl
  rw [hal] at hc q
  have hav:(orp r a).av=.tup [tg r,a.av]:=by cases r <;> rfl
  rw [hav]
  refine callS (by omega) rfl fun n en=>s_unp (a:=tg r) (b:=a.av) rfl rfl rfl (s_ifF (C:=callN fdt n) (by cases r <;> kernel_rfl!) (s_ifF (C:=callN fdt n) (by cases r <;> kernel_rfl!) (s_ifF (C:=callN fdt n) (by cases r <;> kernel_rfl!) (s_ifF (C:=callN fdt n) (by cases r <;> kernel_rfl!)
    (s_assignE (e_call (C:=callN fdt n) (vs:=[.ref kp,.int (if r=true then 4 else 2)]) (evp_cons rfl (evp_cons (by cases r <;> kernel_rfl!) rfl)) (pick_ok (by omega) D.a (by cases r <;> decide) S.p fun v H1 h0 h1 hP1 hfr=>⟨Nat.le_of_ble_eq_true rfl,?_⟩)))))))
  obtain ⟨t,rfl⟩:=Int.eq_ofNat_of_zero_le h0
  refine s_while (k:=t) (DoW kp kq ks' kr kt ts r a rw' s H) ?_ (.mk (w:=[]) (Nat.le_refl _) (Nat.zero_le _) nofun (by rw [List.append_nil];exact S.pick D hP1 hfr) fun k a b _ _=>hfr k a b)
  rintro kk _ Hc @⟨s',w,_,hs,hwl,hwe,S2,hF2⟩
  have hsub:evE (.sub (.var 4) (.int 0)) [some (.ref kp),some (.tup [tg r,a.av]),some (.ref kt),some (.ref kr),some (.ref ks'),some (tg r),some a.av,none,some (.int (kk:Int))] Hc=some (.int (s':Int)):=v_sub rfl rfl (at_seq (i:=0) (seq_of S2.s) rfl)
  have stop:∃ H'':Hp,H''.le Hc∧Q .none H'':=retI (Q:=Q) (q _ w s' Hc hs (Nat.le_trans hwl (Nat.mul_le_mul_left _ (Nat.le_succ _))) hwe S2 hF2)
  by_cases g1:(kk:Int) > 0
  · by_cases g2:(s':Int) > 0
    · refine evE_ok (C:=callN fdt n) _ (v_andT (v_cmp rfl rfl (yes g1)) (v_cmp hsub rfl (yes g2))) (Or.inl ⟨rfl,(kk:Int),rfl,evE_ok (C:=callN fdt n) (.int 1) (v:=.int 1) rfl ⟨1,rfl,Nat.le_of_ble_eq_true rfl,s_augSub (k:=ks') (n:=0) (l:=[.int (s':Int)]) (a:=(s':Int)) (b:=1) rfl rfl S2.s rfl rfl ?_⟩⟩)
      obtain ⟨k1,rfl⟩:∃ k1,kk=k1+1:=⟨kk-1,by omega⟩
      obtain ⟨s1,rfl⟩:∃ s1,s'=s1+1:=⟨s'-1,by omega⟩
      have S3:DSt kp kq ks' kr kt ts (rw'++w) s1 (Hc.set ks' (.list [.int (((s1+1:Nat):Int)-1)])) :=
        ⟨S2.p.keep (Hp.set_ne _ _ D.b.symm) (Hp.set_ne _ _ D.c.symm),(Hp.set_ne _ _ D.f).trans S2.r,by rw [Hp.set_self,show ((s1+1:Nat):Int)-1=(s1:Int) by omega],(Hp.set_ne _ _ D.i).trans S2.t⟩
      have hF3:DFr kp kq ks' kr Hc (Hc.set ks' (.list [.int (((s1+1:Nat):Int)-1)])):=fun k _ _ c _=>Hp.set_ne _ _ c
      show vcSs (callN fdt n) _ [some (.ref kp),some (.tup [tg r,a.av]),some (.ref kt),some (.ref kr),some (.ref ks'),some (tg r),some a.av,none,some (.int (((k1+1:Nat):Int)-1))] (Hc.set ks' (.list [.int (((s1+1:Nat):Int)-1)])) _
      rw [show ((k1+1:Nat):Int)-1=(k1:Int) by omega]
      generalize Hc.set ks' (.list [.int (((s1+1:Nat):Int)-1)])=H3 at *
      have e1:al ts.length a * (s-(s1+1))+al ts.length a * (s1+1)≤al ts.length a * (s+1):=by
        rw [← Nat.mul_add];exact Nat.mul_le_mul_left _ (by omega)
      refine s_exprE (e_call (C:=callN fdt n) (vs:=[.ref kp,a.av,.ref kt,.ref kr,.ref ks']) rfl (ih n H3 (rw'++w) s1 _ (by omega) hw' S3 (by rw [List.length_append];omega) fun v w2 s2 H4 hs2 hw2 he2 S4 hF4=>s_nil ⟨k1,Nat.lt_succ_self _,.mk (s':=s2) (w:=w++w2) (by omega) ?_ (fun x hx=>(List.mem_append.mp hx).elim (hwe x) (he2 x)) (by rw [← List.append_assoc];exact S4) ((hF2.trans hF3).trans hF4)⟩))
      rw [List.length_append]
      refine Nat.le_trans (Nat.add_le_add hwl hw2) ?_
      rw [← Nat.mul_add];exact Nat.mul_le_mul_left _ (by omega)
    · exact evE_ok (C:=callN fdt n) _ (v_andT (v_cmp rfl rfl (yes g1)) (v_cmp hsub rfl (no g2))) (Or.inr ⟨rfl,s_nil (s_nil (s_nil (s_nil (s_nil stop))))⟩)
  · exact evE_ok (C:=callN fdt n) _ (v_andF (v_cmp rfl rfl (no g1))) (Or.inr ⟨rfl,s_nil (s_nil (s_nil (s_nil (s_nil stop))))⟩)
theorem der_ok (W:WfT ts) (D:Dis kp kq ks' kr kt):∀ e,DerOk kp kq ks' kr kt ts e:=by
  refine ex_ind W (fun s=>der_tok D rfl) (fun j hj=>der_tok D (tokI hj)) ?_ ?_ ?_ ?_ (fun a ih=>der_orp D false a ih) (fun a ih=>der_orp D true a ih)
  · intro j hj ih n H rw' s Q hn hw S hc q
    have hd:=dp_rule W hj
    have ha:=al_rule W hj
    rw [show al ts.length (.name j)=AA j from if_pos hj] at hc q
    exact callS (by omega) rfl fun n en => s_unp (a:=.str "name") (b:=.str (rn j)) rfl rfl rfl (s_ifF (v_orF (by kernel_rfl!) (v_andT (by kernel_rfl!) (v_cmp rfl rfl (congrArg (Option.map (!·)) ((in_tab S.t).trans (yes hj)))))) (s_ifT (by kernel_rfl!)
      (s_exprE (e_call (C:=callN fdt n) (vs:=[.ref kp,(T ts j).av,.ref kt,.ref kr,.ref ks']) (evp_cons rfl (evp_cons (v_sub rfl rfl (at_dS S.t (tab_get hj))) (evp_cons rfl (evp_cons rfl (evp_cons rfl rfl)))))
      (ih n H rw' s _ (by omega) (wfn_of (W.wf j hj)) S (Nat.le_trans (Nat.add_le_add_left (Nat.mul_le_mul_right _ ha) _) hc) fun v w s' H' h1 h2 h3 h4 h5=>s_nil (s_nil (s_nil (retI (Q:=Q) (q _ w s' H' h1 (Nat.le_trans h2 (Nat.mul_le_mul_right _ ha)) h3 h4 h5)))))))))
  · intro n H rw' s Q hn hw S hc q
    exact callS (by omega) rfl fun n en => s_unp (a:=.str "seq") (b:=.tup []) rfl rfl rfl (s_ifF (by kernel_rfl!) (s_ifF (by kernel_rfl!) (s_ifT (by kernel_rfl!) (s_forT (l:=[]) rfl ⟨trivial,s_nil (s_nil (s_nil (s_nil (retI (Q:=Q) (q _ [] s H (Nat.le_refl _) (Nat.zero_le _) nofun (by rw [List.append_nil]; exact S) DFr.refl)))))⟩))))
  · intro a b iha ihb n H rw' s Q hn hw S hc q
    have hn:1+max (dp ts.length a) (dp ts.length b)<n:=hn
    have hc:_+(al ts.length a+al ts.length b) * (s+1)≤_:=hc
    rw [Nat.add_mul] at hc
    exact callS (by omega) rfl fun n en => s_unp (a:=.str "seq") (b:=.tup [a.av,b.av]) rfl rfl rfl (s_ifF (by kernel_rfl!) (s_ifF (by kernel_rfl!) (s_ifT (by kernel_rfl!) (s_forT (l:=[a.av,b.av]) rfl ⟨trivial,_,rfl,
      s_exprE (e_call (C:=callN fdt n) (vs:=[.ref kp,a.av,.ref kt,.ref kr,.ref ks']) rfl (iha n H rw' s _ (by omega) hw.1 S (by omega) fun v1 w1 s1 H1 a1 a2 a3 a4 a5=>s_nil ⟨trivial,_,rfl,
      have m1:al ts.length a * (s-s1+1)+al ts.length b * (s1+1)≤al ts.length a * (s+1)+al ts.length b * (s+1):=Nat.add_le_add (Nat.mul_le_mul_left _ (by omega)) (Nat.mul_le_mul_left _ (by omega))
      s_exprE (e_call (C:=callN fdt n) (vs:=[.ref kp,b.av,.ref kt,.ref kr,.ref ks']) rfl (ihb n H1 (rw'++w1) s1 _ (by omega) hw.2 a4 (by rw [List.length_append];omega) fun v2 w2 s2 H2 b1 b2 b3 b4 b5=>s_nil ⟨trivial,s_nil (s_nil (s_nil (s_nil (retI (Q:=Q) (q _ (w1++w2) s2 H2 (Nat.le_trans b1 a1)
        (by rw [List.length_append];exact mul_split a1 b1 a2 b2) (fun x hx=>(List.mem_append.mp hx).elim (a3 x) (b3 x)) (by rw [← List.append_assoc];exact b4) (a5.trans b5))))))⟩))⟩))⟩))))
  · intro a b iha ihb n H rw' s Q hn hw S hc q
    have hn:1+max (dp ts.length a) (dp ts.length b)<n:=hn
    have hc:_+max (al ts.length a) (al ts.length b) * (s+1)≤_:=hc
    refine callS (by omega) rfl fun n en => s_unp (a:=.str "alt") (b:=.tup [a.av,b.av]) rfl rfl rfl (s_ifF (by kernel_rfl!) (s_ifF (by kernel_rfl!) (s_ifF (by kernel_rfl!) (s_ifT (by kernel_rfl!)
      (s_exprE (e_callE (es_cons (evE_ok (C:=callN fdt n) (.var 0) (v:=.ref kp) rfl (es_cons (e_subE (evE_ok (C:=callN fdt n) (.var 6) (v:=.tup [a.av,b.av]) rfl (e_call (C:=callN fdt n) (vs:=[.ref kp,.int 2]) rfl (pick_ok (by omega) D.a (by decide) S.p fun v H1 h0 h1 hP1 hfr=>?_)))))))))))))
    have S1:=S.pick D hP1 hfr
    have hF1:DFr kp kq ks' kr H H1:=fun k a b _ _=>hfr k a b
    have go:∀ c:Ex,dp ts.length c<n→WfN c→al ts.length c≤max (al ts.length a) (al ts.length b)→DerOk kp kq ks' kr kt ts c→callN fdt n .l_derived [.ref kp,c.av,.ref kt,.ref kr,.ref ks'] H1 fun v H'=>∃ H'':Hp,H''.le H'∧Q .none H'':=fun c hd hw hm ih =>
      ih n H1 rw' s _ hd hw S1 (Nat.le_trans (Nat.add_le_add_left (Nat.mul_le_mul_right _ hm) _) hc) fun v w s' H' h1 h2 h3 h4 h5=>retI (Q:=Q) (q _ w s' H' h1 (Nat.le_trans h2 (Nat.mul_le_mul_right _ hm)) h3 h4 (hF1.trans h5))
    have wrap:∀ {c:Ex},(callN fdt n .l_derived [.ref kp,c.av,.ref kt,.ref kr,.ref ks'] H1 fun v H' => ∃ H'':Hp,H''.le H' ∧ Q .none H'') → _:=@fun c h => evEs_ok (C:=callN fdt n) (.cons (.var 2) (.cons (.var 3) (.cons (.var 4) .nil))) (m:=[some (.ref kp),some (Ex.alt a b).av,some (.ref kt),some (.ref kr),some (.ref ks'),some (.str "alt"),some (.tup [a.av,b.av]),none,none]) (vs:=[.ref kt,.ref kr,.ref ks']) (Q:=fun vs H2 => callN fdt n .l_derived (.ref kp :: c.av :: vs) H2 fun v H' => ∃ H'':Hp,H''.le H' ∧ Q .none H'') rfl h
    by_cases hv:v=0
    · subst hv;exact ⟨a.av,rfl,wrap (go a (by omega) hw.1 (Nat.le_max_left ..) iha)⟩
    · obtain rfl:v=1:=by omega
      exact ⟨b.av,rfl,wrap (go b (by omega) hw.2 (Nat.le_max_right ..) ihb)⟩
end LY.Internal
end

section
open PySem
namespace LY.Internal
variable {C:CallP} {m:Lo} {H:Hp} {ts:List Ex}
noncomputable def lawEnd:MSs :=
  .cons (.ifs (.isNone (.attr (.var 11) "tree")) (.cons (.ifs (.and (.cmp .eq (.call .conflicts (.cons (.var 10) .nil)) (.lstF .nil)) (.var 12)) (.cons (.ret (.bool false))
  .nil) .nil)
  (.cons (.ret (.and (.cmp .le (.int 0) (.attr (.var 11) "place")) (.cmp .le (.attr (.var 11) "place") (.len (.var 7)))))
  .nil)) .nil)
  (.cons (.ifs (.or (.not (.var 12)) (.or (.cmp .ne (.call .leaves (.cons (.attr (.var 11) "tree") .nil)) (.var 7)) (.cmp .ne (.call .l_reached (.cons (.attr (.var 11) "tree") .nil)) (.var 7)))) (.cons (.ret (.bool false))
  .nil) .nil)
  (.cons (.ret (.and (.call .derives (.cons (.var 10) (.cons (.attr (.var 11) "tree") .nil))) (.and (.call .l_sound (.cons (.attr (.var 11) "tree") (.cons (.var 3) .nil))) (.cmp .eq (.sub (.attr (.var 11) "tree") (.int 0)) (.str "R0")))))
  .nil))
noncomputable def lawTail:MSs :=
  .cons (.assign 10 (.new .grammar (.cons (.var 4) (.cons (.str "R0") .nil))))
  (.cons (.assign 11 (.call .recognise (.cons (.var 10) (.cons (.var 7) (.cons (.int 5000) .nil)))))
  (.cons (.assign 12 (.cmp .isin (.len (.var 7)) (.call .l_ends (.cons (.tup (.cons (.str "name") (.cons (.str "R0") .nil))) (.cons (.var 3) (.cons (.var 7) (.cons (.lstF (.cons (.int 0) .nil)) .nil)))))))
  lawEnd))
theorem R0_eq:("R0":Str) = rn 0:=by decide +kernel
theorem told_tree {k:Nat} {tr pl:AV} (h:Told k tr pl H) (hm:m.at 11 = some (.obj .recognised k)):evE (.attr (.var 11) "tree") m H = some tr :=
  h.elim fun _ h=>v_attr hm (at_obj h.1 h.2.1)
theorem told_place {k:Nat} {tr pl:AV} (h:Told k tr pl H) (hm:m.at 11 = some (.obj .recognised k)):evE (.attr (.var 11) "place") m H = some pl :=
  h.elim fun _ h=>v_attr hm (at_obj h.1 h.2.2)
theorem Told.grow {k:Nat} {tr pl:AV} {H':Hp} (h:Told k tr pl H) (l:H.le H'):Told k tr pl H':=by
  obtain ⟨fs,h1,h2⟩:=h
  exact ⟨fs,l _ _ h1,h2⟩
theorem eq_strs {x:AV} {row:List Str} (h:listOf H x=some (row.map .str)):eqAV H x (.lst (row.map .str))=some true:=by
  have key:(match listOf H x,listOf H (.lst (row.map .str)) with
    | some l,some l' =>
      if l.length≠l'.length then some false
      else match intsOf l,intsOf l' with
        | some u,some v=>some (decide (u=v))
        | _,_=>match strsOf l,strsOf l' with
          | some u,some v=>some (decide (u=v))
          | _,_=>Option.none
    | _,_=>Option.none)=some true:=by
    rw [h]
    refine (if_neg fun q=>q rfl).trans ?_
    cases row with
    | nil=>rfl
    | cons a r =>
      have e:strsOf ((a::r).map .str)=some (a::r):=strsOf_mapP _
      show (match strsOf ((a::r).map AV.str),strsOf ((a::r).map AV.str) with | some u,some v=>some (decide (u=v)) | _,_=>Option.none)=some true
      rw [e];exact yes rfl
  cases x <;> first | exact key | cases h
theorem e_andE {a b:ME} {Q:QV} (h:vcE C a m H fun x H1=>(x=.bool false∧Q (.bool false) H1)∨(x=.bool true∧vcE C b m H1 fun y H2=>(∃ z,y=.bool z)∧Q y H2)):vcE C (.and a b) m H Q:=h
theorem e_orE {a b:ME} {Q:QV} (h:vcE C a m H fun x H1=>(x=.bool true∧Q (.bool true) H1)∨(x=.bool false∧vcE C b m H1 fun y H2=>(∃ z,y=.bool z)∧Q y H2)):vcE C (.or a b) m H Q:=h
theorem e_cmpE {o:COp} {a b:ME} {Q:QV} (h:vcE C a m H fun x H1=>vcE C b m H1 fun y H2=>∃ z,cmpAV H2 o x y=some z∧Q (.bool z) H2):vcE C (.cmp o a b) m H Q:=h
theorem law_end {n kg kt krw k':Nat} {em gs wa:List (Str × AV)} {kt' ke kf ko kw:Nat} {fr fw:Nat→Nat} {lf lw:Nat→List (Str × AV)} {H0:Hp} {v0 v1 v2 v5 v6 v8 v9:Option AV} {row:List Str} {z:Bool} {tr:AV} {pl:Int}
    (W:WfT ts) (M:Made ts em kt' ke kf ko kg gs kw fr fw wa lf lw H0 H) (hn:100<n) (hkt:H kt=some (.dS (tabAV ts))) (hT:Told k' tr (.int pl) H)
    (hz:z=true ↔ Dg (rowAt ts row) (rowSub ts) (T ts 0) 0 row.length)
    (hNo:tr=.none→0≤pl∧pl≤row.length∧¬ ((∀ i,i<ts.length→LL1 ts.length (ks em) (Wf lf) (T ts i) (Wf lw i))∧Dg (rowAt ts row) (rowSub ts) (T ts 0) 0 row.length))
    (hYes:tr=.none∨∃ l,tr=(Kd.node 0 l).av∧z=true∧Kd.tokss l=row∧Good ts 0 (.node 0 l)∧Kd.szs l≤5000) :
    vcSs (callN fdt n) lawEnd [v0,v1,v2,some (.ref kt),some (.ref krw),v5,v6,some (.lst (row.map .str)),v8,v9,some (.obj .grammar kg),some (.obj .recognised k'),some (.bool z)] H (fun fl _ _=>fl=.ret (.bool true)):=by
  have h4:=W.four
  generalize hm:[v0,v1,v2,some (.ref kt),some (.ref krw),v5,v6,some (.lst (row.map .str)),v8,v9,some (.obj .grammar kg),some (.obj .recognised k'),some (.bool z)]=m
  have hm11:Lo.at m 11=some (.obj .recognised k'):=hm▸rfl
  have hm7:∀ H,evE (.var 7) m H=some (.lst (row.map .str)):=hm▸fun _=>rfl
  have hm10:∀ H,evE (.var 10) m H=some (.obj .grammar kg):=hm▸fun _=>rfl
  have hm12:∀ H,evE (.var 12) m H=some (.bool z):=hm▸fun _=>rfl
  have hm3:∀ H,evE (.var 3) m H=some (.ref kt):=hm▸fun _=>rfl
  clear hm
  rcases hYes with rfl | ⟨l,rfl,rfl,htoks,hgood,hsz⟩
  · obtain ⟨p0,p1,hnot⟩:=hNo rfl
    refine s_ifT (C:=callN fdt n) (v_isNone (told_tree hT hm11) rfl) (s_ifR (e_andE (e_cmpE (e_call (vs:=[.obj .grammar kg]) (evp_cons (hm10 _) rfl) (conflicts_ok W M (by omega) fun k l H1 hle hk hl=>?_)))))
    have fin:vcSs (callN fdt n) (.cons (.ret (.and (.cmp .le (.int 0) (.attr (.var 11) "place")) (.cmp .le (.attr (.var 11) "place") (.len (.var 7))))) .nil) m H1 (fun fl _ _ => fl = .ret (.bool true)) :=
      have hp:=told_place (hT.grow hle) hm11
      s_ret (v:=.bool true) (v_andT (v_cmp rfl hp (yes p0)) (v_cmp hp (v_len (hm7 _) (congrArg some (List.length_map _))) (yes p1))) rfl
    refine evE_ok (C:=callN fdt n) (.lstF .nil) (v:=.lst []) rfl ⟨decide (l=[]),eq_nilG (list_of hk),?_⟩
    by_cases hl0:l=[]
    · refine Or.inr ⟨congrArg AV.bool (decide_eq_true hl0),evE_ok (C:=callN fdt n) (.var 12) (hm12 _) ⟨⟨z,rfl⟩,?_⟩⟩
      cases z with
      | true=>exact absurd ⟨hl hl0,hz.mp rfl⟩ hnot
      | false=>exact Or.inr ⟨rfl,s_nil fin⟩
    · exact Or.inl ⟨congrArg AV.bool (decide_eq_false hl0),Or.inr ⟨rfl,s_nil fin⟩⟩
  · have hsz':(Kd.node 0 l).sz≤9000:=by show 1+Kd.szs l≤_;omega
    have htk:(Kd.node 0 l).toks=row:=htoks
    refine s_no (C:=callN fdt n) (v_isNone (told_tree hT hm11) rfl) (s_ifR (e_orE (evE_ok (C:=callN fdt n) (.not (.var 12)) (v_not (hm12 _)) (Or.inr ⟨rfl,
      e_orE (e_cmpE (e_call (vs:=[(Kd.node 0 l).av]) (evp_cons (told_tree hT hm11) rfl) (leaves_ok (t:=.node 0 l) (by omega) hsz' fun k H1 hle hk =>
      evE_ok (C:=callN fdt n) (.var 7) (hm7 _) ⟨false,congrArg (Option.map (!·)) (eq_strs (x:=.ref k) ((list_of hk).trans (by rw [htk]))),Or.inr ⟨rfl,
      e_cmpE (e_call (vs:=[(Kd.node 0 l).av]) (evp_cons (told_tree (hT.grow hle) hm11) rfl) (reached_ok h4 4 0 (by omega) (.node 0 l) (by omega) hgood hsz' fun v H2 hle2 hv =>
      evE_ok (C:=callN fdt n) (.var 7) (hm7 _) ⟨false,congrArg (Option.map (!·)) (eq_strs (hv.trans (by rw [htk]))),⟨_,rfl⟩,⟨_,rfl⟩,Or.inr ⟨rfl,s_nil ?_⟩⟩))⟩⟩)))⟩))))
    have hle12:=Hp.le_trans hle hle2
    have hT2:=hT.grow hle12
    have ht:=told_tree hT2 hm11
    exact s_retE (e_andE (e_call (vs:=[.obj .grammar kg,(Kd.node 0 l).av]) (evp_cons (hm10 _) (evp_cons ht rfl)) (derives_ok W (M.grow hle12).G (by omega) hgood hsz' (Or.inr ⟨rfl,
      e_andE (e_call (vs:=[(Kd.node 0 l).av,.ref kt]) (evp_cons ht (evp_cons (hm3 _) rfl)) (sound_ok W 4 0 (by omega) 0 l (by omega) hgood (hle12 _ _ hkt) (Or.inr ⟨rfl,
      evE_ok (C:=callN fdt n) (.cmp .eq (.sub (.attr (.var 11) "tree") (.int 0)) (.str "R0")) (v_cmp (v_sub ht rfl (kid_nm _)) rfl (yes R0_eq.symm)) ⟨⟨true,rfl⟩,⟨true,rfl⟩,rfl⟩⟩)))⟩))))
end LY.Internal
end

section
open PySem
namespace LY.Internal
variable {C:CallP} {m:Lo} {H:Hp} {ts:List Ex}
theorem tk_end {row:List Str}:tk row row.length = "eof":=by unfold tk; rw [List.getElem?_eq_none (Nat.le_refl _)]; rfl
theorem law_tail {n kt krw:Nat} {v0 v1 v2 v5 v6 v8 v9 v10 v11 v12:Option AV} {row:List Str} (W:WfT ts) (hn:100 < n) (hkt:H kt = some (.dS (tabAV ts))) (hrw:H krw = some (.list (rowsF ts 0))) (h13:row.length ≤ 13) (hr:∀ x ∈ row,x ≠ ("eof":Str)) :
    vcSs (callN fdt n) lawTail [v0,v1,v2,some (.ref kt),some (.ref krw),v5,v6,some (.lst (row.map .str)),v8,v9,v10,v11,v12] H (fun fl _ _=>fl=.ret (.bool true)):=by
  have hpos:=W.pos
  -- made
  refine s_assignE (e_newE (evEs_ok (C:=callN fdt n) _ (vs:=[.ref krw,.str (rn 0)]) (evp_cons rfl (evp_cons (by rw [← R0_eq];rfl) rfl)) ?_))
  intro kg hkg
  refine gInit_ok W (by omega) hkg hrw fun em kt' ke kf ko gs kw fr fw wa lf lw H1 hle1 M=>⟨rfl,Nat.le_of_ble_eq_true rfl,?_⟩
  have L:Lang ts (ks em) (Wf lf):=by
    refine ⟨W,fun j hj=>?_,fun j hj=>⟨M.ew.snd j hj,M.ec j hj⟩,M.fi⟩
    obtain ⟨i,hi,e⟩:=M.ew.sub _ hj
    rw [rn_inj e];exact hi
  -- which run
  have hrun:∃ o c,Run ts (ks em) (Wf lf) row (T ts 0) 0 o c∧(((∀ i,i<ts.length→LL1 ts.length (ks em) (Wf lf) (T ts i) (Wf lw i))∧Dg (rowAt ts row) (rowSub ts) (T ts 0) 0 row.length)→∃ l,o=.ok l row.length):=by
    by_cases hLL:(∀ i,i<ts.length→LL1 ts.length (ks em) (Wf lf) (T ts i) (Wf lw i))∧Dg (rowAt ts row) (rowSub ts) (T ts 0) 0 row.length
    · obtain ⟨l,c,r⟩:=ll_run L hLL.1 M.fc hLL.2 (Wf lw 0) (hLL.1 0 hpos) (M.fc 0 hpos) (by rw [tk_end];exact M.eof)
      exact ⟨_,c,r,fun _=>⟨l,rfl⟩⟩
    · obtain ⟨o,c,r⟩:=run_total L hr (T ts 0) (W.wf 0 hpos) 0
      exact ⟨o,c,r,fun h=>absurd h hLL⟩
  obtain ⟨o,c,r,hok⟩:=hrun
  have hend:=run_end L hr r (W.wf 0 hpos) (Nat.zero_le _)
  have hsteps:=run_steps L (.name hpos r) (by rw [Out.nd_pos];omega)
  -- the two ways on
  have go:∀ (k':Nat) (H2:Hp) (tr:AV) (pl:Int),H1.le H2→Told k' tr (.int pl) H2 →
      (tr=.none→0≤pl∧pl≤row.length∧¬ ((∀ i,i<ts.length→LL1 ts.length (ks em) (Wf lf) (T ts i) (Wf lw i))∧Dg (rowAt ts row) (rowSub ts) (T ts 0) 0 row.length)) →
      (tr=.none∨∃ l,tr=(Kd.node 0 l).av∧Dg (rowAt ts row) (rowSub ts) (T ts 0) 0 row.length∧Kd.tokss l=row∧Good ts 0 (.node 0 l)∧Kd.szs l≤5000) →
      vcSs (callN fdt n) (.cons (.assign 12 (.cmp .isin (.len (.var 7)) (.call .l_ends (.cons (.tup (.cons (.str "name") (.cons (.str "R0") .nil))) (.cons (.var 3) (.cons (.var 7) (.cons (.lstF (.cons (.int 0) .nil)) .nil)))))))
        lawEnd) [v0,v1,v2,some (.ref kt),some (.ref krw),v5,v6,some (.lst (row.map .str)),v8,v9,some (.obj .grammar kg),some (.obj .recognised k'),v12] H2 (fun fl _ _=>fl=.ret (.bool true)):=by
    intro k' H2 tr pl hle2 hT hNo hYes
    have hkt2:H2 kt=some (.dS (tabAV ts)):=hle2 _ _ (hle1 _ _ hkt)
    refine s_assignE (e_cmp (v_len rfl (congrArg some (List.length_map _))) (e_call (vs:=[(Ex.name 0).av,.ref kt,.lst (row.map .str),.lst ([0].map nat')]) (evp_cons ?_ (evp_cons rfl (evp_cons rfl (evp_cons rfl rfl)))) ?_))
    · kernel_rfl!
    refine ends_ok W h13 (.name 0) n H2 _ [0] (by rw [show dp ts.length (.name 0)=_ from if_pos hpos];omega) (List.nodup_cons.mpr ⟨nofun,List.nodup_nil⟩) (fun x hx=>List.mem_singleton.mp hx▸Nat.zero_le _) hkt2 fun rr hrr=>?_
    refine ⟨decide (row.length∈rr),in_nats (H:=H2),Nat.le_of_ble_eq_true rfl,?_⟩
    have hz:decide (row.length∈rr)=true ↔ Dg (rowAt ts row) (rowSub ts) (T ts 0) 0 row.length:=by
      rw [decide_eq_true_eq,hrr.mem]
      constructor
      · rintro ⟨i,hi,d⟩
        rw [List.mem_singleton.mp hi] at d
        exact (dg_rule hpos).mp d
      · intro d
        exact ⟨0,List.mem_cons_self,(dg_rule hpos).mpr d⟩
    exact law_end W (M.grow hle2) hn hkt2 hT hz hNo (hYes.imp id fun ⟨l,h1,h2,h3⟩=>⟨l,h1,hz.mpr h2,h3⟩)
  -- told
  refine s_assignE (e_call (C:=callN fdt n) (vs:=[.obj .grammar kg,.lst (row.map .str),.int 5000]) rfl (recognise_ok L hr M.G (by omega) r (by omega) ?_ ?_))
  · intro k' H2 q hq hle2 hT hno
    refine ⟨Nat.le_of_ble_eq_true rfl,go k' H2 .none (q:Int) hle2 hT (fun _=>⟨by omega,by omega,fun h=>?_⟩) (Or.inl rfl)⟩
    obtain ⟨l,e⟩:=hok h
    exact hno l e
  · intro k' H2 l hle2 e hT
    subst e
    refine ⟨Nat.le_of_ble_eq_true rfl,go k' H2 _ _ hle2 hT (fun e=>by cases e) (Or.inr ⟨l,rfl,run_dg L hr r (W.wf 0 hpos),?_,?_,?_⟩)⟩
    · have:Kd.tokss l=_:=run_toks L hr r (W.wf 0 hpos) (Nat.zero_le _)
      simpa using this
    · have i1:Goods ts 1 l:=run_good L hr h13 r (W.wf 0 hpos) (Nat.zero_le _) 1 (W.gt 0 hpos)
      have i2:=run_kids L hr r (W.wf 0 hpos) (Nat.zero_le _) [] []
      have i3:=(run_count L r).1
      have h2:=kw_le (T ts 0)
      have h3:=kl_le (T ts 0)
      have h4:=W.inn 0 hpos
      have h5:(row.length-0-1) * kl (T ts 0)≤12 * 3:=Nat.mul_le_mul (by omega) (by omega)
      exact ⟨Nat.le_refl _,hpos,by simpa using i2,by omega,i1⟩
    · have:=(run_count L r).2.2
      omega
end LY.Internal
end

section
open PySem
namespace LY.Internal
variable {C:CallP} {m:Lo} {H:Hp} {ts:List Ex}
theorem T_lt {e:Ex} {j:Nat} (h:j<ts.length):T (ts++[e]) j=T ts j:=congrArg (fun o:Option Ex=>o.getD .eps) (List.getElem?_append_left h)
theorem T_eq {e:Ex}:T (ts++[e]) ts.length=e:=congrArg (fun o:Option Ex=>o.getD .eps) List.getElem?_concat_length
noncomputable def PT (ts:List Ex):Prop:=∀ j,j<ts.length→WfE (T ts j)∧(T ts j).size≤7∧inn (T ts j)≤3∧∀ i,NameIn i (T ts j)→j<i
theorem PT.add {e:Ex} (h:PT ts) (h1:WfE e) (h2:e.size≤7) (h3:inn e≤3) (h4:∀ i,NameIn i e→ts.length<i):PT (ts++[e]):=by
  intro j hj
  rw [List.length_append,List.length_singleton] at hj
  by_cases hl:j<ts.length
  · rw [T_lt hl];exact h j hl
  · have:j=ts.length:=by omega
    subst this
    rw [T_eq]
    exact ⟨h1,h2,h3,h4⟩
theorem PT.wf (h:PT ts) (h0:0<ts.length) (h4:ts.length≤4):WfT ts :=
  ⟨h0,h4,fun j hj=>(h j hj).1,fun j hj=>(h j hj).2.1,fun j hj=>(h j hj).2.2.1,fun j hj=>(h j hj).2.2.2⟩
theorem tabAV_add (e:Ex):setK (tabAV ts) (rn ts.length) e.av=tabAV (ts++[e]):=by
  rw [← tabN_all,← tabN_all]
  rw [List.length_append,List.length_singleton,← tabN_succ (ts++[e]) ts.length,T_eq]
  congr 1
  delta tabN
  refine List.map_congr_left fun j hj=>?_
  rw [T_lt (List.mem_range.mp hj)]
noncomputable def rowsN (ts:List Ex):List AV:=(List.range ts.length).map fun j=>.tup [.str (rn j),(T ts j).av]
theorem rowsN_F:rowsN ts=rowsF ts 0:=by unfold rowsN rowsF;rw [List.range_eq_range'];rfl
theorem rowsN_add (e:Ex):rowsN ts++[.tup [.str (rn ts.length),e.av]]=rowsN (ts++[e]):=by
  unfold rowsN
  rw [List.length_append,List.length_singleton,List.range_succ,List.map_append,List.map_singleton,T_eq]
  exact congrArg (·++[_]) (List.map_congr_left fun j hj=>by rw [T_lt (List.mem_range.mp hj)])
noncomputable def lawRow:MSs:=.cons (.assign 7 (.sliceTo (.var 7) (.int 12)))
  (.cons (.assign 8 (.call .l_pick (.cons (.var 1) (.cons (.int 4) .nil))))
  (.cons (.ifs (.and (.cmp .gt (.var 8) (.int 0)) (.cmp .ne (.var 7) (.lstF .nil))) (.cons (.assign 9 (.call .l_pick (.cons (.var 1) (.cons (.len (.var 7)) .nil))))
  (.cons (.assign 7 (.bin .add (.bin .add (.sliceTo (.var 7) (.var 9)) (.sub (.lstF (.cons (.lstF .nil) (.cons (.lstF (.cons (.str "q") .nil)) (.cons (.lstF (.cons (.str "r") (.cons (.sub (.var 7) (.var 9)) .nil))) .nil)))) (.bin .sub (.var 8) (.int 1)))) (.sliceFrom (.var 7) (.bin .add (.var 9) (.int 1)))))
  .nil)) .nil) lawTail))
noncomputable def lawDer:MSs:=.cons (.assign 7 (.lstD .nil))
  (.cons (.expr (.call .l_derived (.cons (.var 1) (.cons (.tup (.cons (.str "name") (.cons (.str "R0") .nil))) (.cons (.var 3) (.cons (.var 7) (.cons (.lstD (.cons (.int 8) .nil)) .nil)))))))
  lawRow)
noncomputable def lawBody:MSs:=.cons (.assign 6 (.call .l_tree (.cons (.var 1) (.cons (.lstD (.cons (.int 5) .nil)) (.cons (.int 0) (.cons (.var 5) (.cons (.var 2) .nil)))))))
  (.cons (.setSub (.var 3) (.bin .add (.str "R") (.strOf (.var 5))) (.var 6))
  (.cons (.expr (.append (.var 4) (.tup (.cons (.bin .add (.str "R") (.strOf (.var 5))) (.cons (.var 6) .nil)))))
  .nil))
theorem b_law_eq:b_law=.cons (.assign 1 (.call .l_stock (.cons (.var 0) .nil)))
  (.cons (.assign 2 (.bin .add (.int 1) (.call .l_pick (.cons (.var 1) (.cons (.int 4) .nil)))))
  (.cons (.assign 3 .dS)
  (.cons (.assign 4 (.lstD .nil))
  (.cons (.forRange (.one 5) (.var 2) lawBody) lawDer)))):=rfl
theorem lst_add {a b:List Str} (h:a.length+b.length≤1000):binAV .add (.lst (a.map .str)) (.lst (b.map .str))=some (.lst ((a++b).map .str)):=by
  refine (if_pos (by rw [List.length_map,List.length_map];have:cap=1000000:=rfl;omega)).trans ?_
  rw [List.map_append]
theorem q_ne : ("q" : Str) ≠ ("eof" : Str) := by decide +kernel
theorem r_ne : ("r" : Str) ≠ ("eof" : Str) := by decide +kernel
theorem pool_ne {kp kq kt:Nat} {l:List (Str × AV)} (hP:Pool kp kq H) (hkt:H kt=some (.dS l)):kt≠kp∧kt≠kq:=by
  obtain ⟨is,t,a,b,_⟩:=hP
  exact ⟨(fun e=>by rw [e,a] at hkt;cases hkt),(fun e=>by rw [e,b] at hkt;cases hkt)⟩
theorem law_row {n kp kq kt krw kr:Nat} {v0 v2 v5 v6 v8 v9 v10 v11 v12:Option AV} {w:List Str} (W:WfT ts) (hn:100<n) (hpq:kp≠kq) (hP:Pool kp kq H) (hkt:H kt=some (.dS (tabAV ts))) (hrw:H krw=some (.list (rowsF ts 0)))
    (hd1:krw ≠ kp) (hd2:krw ≠ kq) (hw:H kr = some (.list (w.map .str))) (hr:∀ x ∈ w,x ≠ ("eof":Str)) :
    vcSs (callN fdt n) lawRow [v0,some (.ref kp),v2,some (.ref kt),some (.ref krw),v5,v6,some (.ref kr),v8,v9,v10,v11,v12] H (fun fl _ _=>fl=.ret (.bool true)):=by
  obtain ⟨hd3,hd4⟩:=pool_ne hP hkt
  have hrl:(w.take 12).length≤12:=by rw [List.length_take];exact Nat.min_le_left ..
  have hre:∀ x ∈ w.take 12,x ≠ ("eof":Str):=fun x hx => hr x (List.mem_of_mem_take hx)
  have hv7:evE (.sliceTo (.var 7) (.int 12)) [v0,some (.ref kp),v2,some (.ref kt),some (.ref krw),v5,v6,some (.ref kr),v8,v9,v10,v11,v12] H=some (.lst ((w.take 12).map .str)) :=
    (v_sliceTo (i:=12) rfl (list_of hw) rfl).trans (congrArg (some ∘ AV.lst) List.map_take.symm)
  refine s_assign hv7 rfl ?_
  clear hv7 hw hr
  generalize w.take 12=row at *
  refine s_assignE (e_call (C:=callN fdt n) (vs:=[.ref kp,.int 4]) rfl (pick_ok (by omega) hpq (by decide) hP fun v H1 h0 h1 hP1 hf1=>⟨Nat.le_of_ble_eq_true rfl,?_⟩))
  have hkt1:H1 kt=some (.dS (tabAV ts)):=(hf1 kt hd3 hd4).trans hkt
  have hrw1:H1 krw=some (.list (rowsF ts 0)):=(hf1 krw hd1 hd2).trans hrw
  by_cases hv:v > 0
  · by_cases hne:row=[]
    · subst hne
      exact s_no (C:=callN fdt n) (v_andT (v_cmp rfl rfl (yes hv)) (by kernel_rfl!)) (law_tail W hn hkt1 hrw1 (Nat.zero_le _) hre)
    have hlen:0<row.length:=List.length_pos_iff.mpr hne
    refine s_ifT (C:=callN fdt n) (v_andT (v_cmp rfl rfl (yes hv)) (v_cmp rfl rfl (ne_nilT rfl fun e=>hne (List.map_eq_nil_iff.mp e)))) (s_assignE (e_call (C:=callN fdt n) (vs:=[.ref kp,.int (row.length:Int)]) (evp_cons rfl (evp_cons (v_len rfl (congrArg some (List.length_map _))) rfl)) (pick_ok (by omega) hpq (by omega) hP1 fun sp H2 g0 g1 hP2 hf2=>⟨Nat.le_of_ble_eq_true rfl,?_⟩)))
    obtain ⟨i,rfl⟩:=Int.eq_ofNat_of_zero_le g0
    have hi:i<row.length:=Int.ofNat_lt.mp g1
    obtain ⟨mid, hmid, hmem, hml⟩ : ∃ mid : List Str, subAV H2 (.lst [.lst [], .lst [.str "q"], .lst [.str "r", .str (row[i])]]) (.int (v - 1)) = some (.lst (mid.map .str)) ∧ (∀ x ∈ mid, x ≠ ("eof" : Str)) ∧ mid.length ≤ 2 := by
      have:v=1∨v=2∨v=3:=by omega
      rcases this with rfl | rfl | rfl
      · exact ⟨[],rfl,nofun,Nat.zero_le _⟩
      · exact ⟨["q"],rfl,(fun x hx => List.mem_singleton.mp hx ▸ q_ne),Nat.le_succ _⟩
      · exact ⟨["r",row[i]],rfl,fun x hx => (List.mem_cons.mp hx).elim (fun e => e ▸ r_ne) fun hx => List.mem_singleton.mp hx ▸ hre _ (List.getElem_mem hi),Nat.le_refl _⟩
    have l1:(row.take i++mid).length≤i+2:=by rw [List.length_append,List.length_take];exact Nat.add_le_add (Nat.min_le_left ..) hml
    have l2:(row.take i++mid++row.drop (i+1)).length≤13:=by rw [List.length_append,List.length_drop];omega
    refine s_assign (v:=.lst ((row.take i++mid++row.drop (i+1)).map .str)) (v_bin (v_bin ((v_sliceTo (i:=i) rfl rfl rfl).trans (congrArg (some ∘ AV.lst) List.map_take.symm)) (v_sub (v_lstF (evp_cons rfl (evp_cons rfl (evp_cons (v_lstF (evp_cons rfl (evp_cons (v_sub rfl rfl (row_at hi)) rfl))) rfl)))) rfl hmid) (lst_add ?_))
      ((v_sliceFrom (i:=i+1) rfl rfl rfl).trans (congrArg (some ∘ AV.lst) List.map_drop.symm)) (lst_add ?_)) rfl (s_nil (law_tail W hn ((hf2 kt hd3 hd4).trans hkt1) ((hf2 krw hd1 hd2).trans hrw1) l2 fun x hx=>?_))
    · rw [List.length_append] at l1;omega
    · rw [List.length_append] at l2;omega
    · exact (List.mem_append.mp hx).elim (fun hx=>(List.mem_append.mp hx).elim (fun hx=>hre x (List.mem_of_mem_take hx)) (hmem x)) fun hx=>hre x (List.mem_of_mem_drop hx)
  · exact s_no (C:=callN fdt n) (v_andF (v_cmp rfl rfl (no hv))) (law_tail W hn hkt1 hrw1 (Nat.le_succ_of_le hrl) hre)
end LY.Internal
end

section
open PySem
namespace LY.Internal
variable {C:CallP} {m:Lo} {H:Hp} {ts:List Ex}
theorem law_der {n kp kq kt krw:Nat} {v0 v2 v5 v6 v7 v8 v9 v10 v11 v12:Option AV} (W:WfT ts) (hn:100<n) (hpq:kp≠kq) (hP:Pool kp kq H) (hkt:H kt=some (.dS (tabAV ts))) (hrw:H krw=some (.list (rowsF ts 0)))
    (hd1:krw≠kp) (hd2:krw≠kq) :
    vcSs (callN fdt n) lawDer [v0,some (.ref kp),v2,some (.ref kt),some (.ref krw),v5,v6,v7,v8,v9,v10,v11,v12] H (fun fl _ _=>fl=.ret (.bool true)):=by
  have hpos:=W.pos
  refine s_assignE (e_lstDE (es_nil fun kr hkr=>⟨Nat.le_of_ble_eq_true rfl,?_⟩))
  obtain ⟨is,t,pa,pb,pc⟩:=hP
  have nkp:kp≠kr:=ne_of_some pa hkr
  have nkq:kq≠kr:=ne_of_some pb hkr
  have nkt:kt≠kr:=ne_of_some hkt hkr
  have nrw:krw≠kr:=ne_of_some hrw hkr
  have hle:=Hp.le_set (.list []) hkr
  have pa1:=hle _ _ pa
  have pb1:=hle _ _ pb
  have hkt1:=hle _ _ hkt
  have hrw1:=hle _ _ hrw
  have hkr1:(H.set kr (.list [])) kr=some (.list []):=Hp.set_self ..
  generalize H.set kr (.list [])=H1 at *
  refine s_exprE (e_callE (es_cons (evE_ok (C:=callN fdt n) (.var 1) (v:=.ref kp) rfl (es_cons (evE_ok (C:=callN fdt n) (.tup (.cons (.str "name") (.cons (.str "R0") .nil))) (v:=(Ex.name 0).av) (by kernel_rfl!) (es_cons (evE_ok (C:=callN fdt n) (.var 3) (v:=.ref kt) rfl (es_cons (evE_ok (C:=callN fdt n) (.var 7) (v:=.ref kr) rfl (es_cons (e_lstDE (es_cons (evE_ok (C:=callN fdt n) (.int 8) (v:=.int 8) rfl (es_nil fun ks hks => es_nil ?_))))))))))))))
  have skp:kp≠ks:=ne_of_some pa1 hks
  have skq:kq≠ks:=ne_of_some pb1 hks
  have skt:kt≠ks:=ne_of_some hkt1 hks
  have srw:krw≠ks:=ne_of_some hrw1 hks
  have skr:kr≠ks:=ne_of_some hkr1 hks
  have tkp:kt≠kp:=fun e=>by rw [e,pa] at hkt;cases hkt
  have tkq:kt≠kq:=fun e=>by rw [e,pb] at hkt;cases hkt
  have D:Dis kp kq ks kr kt:=⟨hpq,skp.symm,skq.symm,nkp.symm,nkq.symm,skr,tkp,tkq,skt,nkt⟩
  have hle2:=Hp.le_set (.list [.int 8]) hks
  have S:DSt kp kq ks kr kt ts [] 8 (H1.set ks (.list [.int 8])):=⟨⟨is,t,hle2 _ _ pa1,hle2 _ _ pb1,pc⟩,hle2 _ _ hkr1,Hp.set_self ..,hle2 _ _ hkt1⟩
  have hrw2:=hle2 _ _ hrw1
  generalize H1.set ks (.list [.int 8])=H2 at *
  exact der_ok W D (.name 0) n H2 [] 8 _ (by rw [show dp ts.length (.name 0)=_ from if_pos hpos];omega) trivial S (by rw [show al ts.length (.name 0)=_ from if_pos hpos];decide) fun v w s' H3 _ _ hwe S3 hF =>
    law_row W hn hpq S3.p S3.t ((hF krw hd1 hd2 srw nrw).trans hrw2) hd1 hd2 S3.r hwe
theorem count_lt {p r:List Nat} {x c:Nat} (hp:p++x::r=List.range c):x=p.length∧x<c:=by
  have h1:(List.range c)[p.length]? = some x:=by rw [← hp];exact (List.getElem?_append_right (Nat.le_refl _)).trans (by rw [Nat.sub_self];rfl)
  obtain ⟨h2,h3⟩:=List.getElem?_eq_some_iff.mp h1
  rw [List.getElem_range] at h3
  rw [List.length_range] at h2
  exact ⟨h3.symm,h3▸h2⟩
inductive LwJ (ns:List Int) (kp kq kt krw count:Nat) (p r:List Nat):Lo→Hp→Prop
  | mk {ts v5 v6 Hc} (hp:p++r=List.range count) (htl:ts.length=p.length) (hPT:PT ts) (hP:Pool kp kq Hc) (hkt:Hc kt=some (.dS (tabAV ts))) (hrw:Hc krw=some (.list (rowsN ts))) :
    LwJ ns kp kq kt krw count p r [some (.lst (ns.map .int)),some (.ref kp),some (.int (count:Int)),some (.ref kt),some (.ref krw),v5,v6,none,none,none,none,none,none] Hc
theorem law_ok (ns:List Int):vcSs (callN fdt 300) b_law (initLo [.lst (ns.map .int)] 13) (fun _=>none) (fun fl _ _=>fl=.ret (.bool true)):=by
  rw [b_law_eq]
  refine s_assignE (e_call (C:=callN fdt 300) (vs:=[.lst (ns.map .int)]) rfl (stock_ok (by decide) fun kp kq H1 _ hpq _ _ hP1=>⟨Nat.le_of_ble_eq_true rfl,
    s_assignE (e_binE (evE_ok (C:=callN fdt 300) (.int 1) (v:=.int 1) rfl (e_call (C:=callN fdt 300) (vs:=[.ref kp,.int 4]) rfl (pick_ok (by decide) hpq (by decide) hP1 fun v H2 h0 h4 hP2 _=>⟨.int (1+v),rfl,Nat.le_of_ble_eq_true rfl,?_⟩))))⟩))
  obtain ⟨c0,rfl⟩:=Int.eq_ofNat_of_zero_le h0
  obtain ⟨count,hcount⟩:∃ count:Nat,count=1+c0:=⟨_,rfl⟩
  rw [show (1:Int)+(c0:Int)=(count:Int) by omega]
  have hc4:count≤4:=by omega
  have hc1:0<count:=by omega
  clear hP1 h0 h4 hcount
  refine s_assignE fun kt hkt=>⟨Nat.le_of_ble_eq_true rfl,s_assignE (e_lstDE (es_nil fun krw hkrw=>⟨Nat.le_of_ble_eq_true rfl,s_forRange (i:=(count:Int)) rfl (by omega) (by omega) ?_⟩))⟩
  obtain ⟨is,t,pa,pb,pc⟩:=hP2
  have tkp:kp≠kt:=ne_of_some pa hkt
  have tkq:kq≠kt:=ne_of_some pb hkt
  have hle3:=Hp.le_set (.dS []) hkt
  have pa3:=hle3 _ _ pa
  have pb3:=hle3 _ _ pb
  have hkt3:(H2.set kt (.dS [])) kt=some (.dS []):=Hp.set_self ..
  generalize H2.set kt (.dS [])=H3 at *
  have rkp:kp≠krw:=ne_of_some pa3 hkrw
  have rkq:kq≠krw:=ne_of_some pb3 hkrw
  have rkt:kt≠krw:=ne_of_some hkt3 hkrw
  have hle4:=Hp.le_set (.list []) hkrw
  rw [rangeL_nat]
  refine for_list (α:=Nat) (f:=fun i=>AV.int (Int.ofNat i)) (vcSs_mono (cm 300) _) (LwJ ns kp kq kt krw count) (fun _ _ _ _ _=>trivial) ?_ _ [] _ _ ?_ (.mk (ts:=[]) rfl rfl nofun ⟨is,t,hle4 _ _ pa3,hle4 _ _ pb3,pc⟩ (hle4 _ _ hkt3) (Hp.set_self ..))
  · rintro p x r _ Hc @⟨ts,v5,v6,_,hp,htl,hPT,hPc,hktc,hrwc⟩
    obtain ⟨hx1,hx2⟩:=count_lt hp
    refine ⟨Nat.le_of_ble_eq_true rfl,s_assignE (e_callE (es_cons (evE_ok (C:=callN fdt 300) (.var 1) (v:=.ref kp) rfl (es_cons (e_lstDE (es_cons (evE_ok (C:=callN fdt 300) (.int 5) (v:=.int 5) rfl (es_nil fun ks hks=>evEs_ok (C:=callN fdt 300) _ (vs:=[.int ((0:Nat):Int),.int (x:Int),.int (count:Int)]) rfl ?_))))))))⟩
    obtain ⟨is',t',qa,qb,qc⟩:=hPc
    have skp:kp≠ks:=ne_of_some qa hks
    have skq:kq≠ks:=ne_of_some qb hks
    have skt:kt≠ks:=ne_of_some hktc hks
    have srw:krw≠ks:=ne_of_some hrwc hks
    have hle5:=Hp.le_set (.list [.int 5]) hks
    refine tree_ok hpq skp.symm skq.symm hc4 hx2 3 0 rfl 300 _ 5 _ (by decide) ⟨is',t',hle5 _ _ qa,hle5 _ _ qb,qc⟩ (Hp.set_self ..) fun e s' H6 hTr hwe hnm hP6 _ hF6=>⟨Nat.le_of_ble_eq_true rfl,?_⟩
    have hkt6:H6 kt=some (.dS (tabAV ts)):=(hF6 kt tkp.symm tkq.symm skt).trans (hle5 _ _ hktc)
    have hrw6:H6 krw=some (.list (rowsN ts)):=(hF6 krw rkp.symm rkq.symm srw).trans (hle5 _ _ hrwc)
    have hi3:=hTr.i3 (by decide)
    have hz2:=hTr.sz2
    have hxl:x=ts.length:=hx1.trans htl.symm
    have hPT':=hPT.add hwe (by omega) (by omega) (fun i hi=>hxl▸hnm i hi)
    have hnv:∀ H,evE (.bin .add (.str "R") (.strOf (.var 5))) [some (.lst (ns.map .int)),some (.ref kp),some (.int (count:Int)),some (.ref kt),some (.ref krw),some (.int (Int.ofNat x)),some e.av,none,none,none,none,none,none] H = some (.str (rn x)):=fun _ => name_ev (by omega) rfl
    have hcap:(tabAV ts).length<cap∧(rowsN ts).length<cap:=by
      unfold tabAV rowsN
      rw [List.length_map,List.length_map,List.length_range,← hxl];have:cap=1000000:=rfl;omega
    refine s_setS (v:=e.av) (k:=kt) (x:=rn x) (l:=tabAV ts) rfl rfl (hnv _) hkt6 hcap.1 ?_
    have hrw7:(H6.set kt (.dS (setK (tabAV ts) (rn x) e.av))) krw=some (.list (rowsN ts)):=(Hp.set_ne _ _ rkt.symm).trans hrw6
    have hkt7:(H6.set kt (.dS (setK (tabAV ts) (rn x) e.av))) kt=some (.dS (tabAV (ts++[e]))):=by rw [Hp.set_self,hxl,tabAV_add]
    have hP7:Pool kp kq (H6.set kt (.dS (setK (tabAV ts) (rn x) e.av))):=hP6.keep (Hp.set_ne _ _ tkp) (Hp.set_ne _ _ tkq)
    generalize H6.set kt (.dS (setK (tabAV ts) (rn x) e.av))=H7 at *
    exact s_exprE (e_append (k:=krw) (l:=rowsN ts) (v:=.tup [.str (rn x),e.av]) rfl hrw7 (v_tup (evp_cons (hnv _) (evp_cons rfl rfl))) hcap.2 (s_nil (.mk (ts:=ts++[e]) ((List.append_assoc ..).trans hp) (by rw [List.length_append,List.length_append,htl];rfl) hPT' (hP7.keep (Hp.set_ne _ _ rkp) (Hp.set_ne _ _ rkq)) ((Hp.set_ne _ _ rkt).trans hkt7) (by rw [Hp.set_self,hxl,rowsN_add]))))
  · rintro _ Hc @⟨ts,v5,v6,_,hp,htl,hPT,hPc,hktc,hrwc⟩
    have hlen:ts.length=count:=htl.trans List.length_range
    exact law_der (hPT.wf (hlen▸hc1) (hlen▸hc4)) (by decide) hpq hPc hktc (rowsN_F▸hrwc) rkp.symm rkq.symm
end LY.Internal
end

section
open PySem PySem.W PyProof.Rows
set_option genInjectivity false
namespace LY.Internal
structure Wd where
  prog:Program
  view:Program
  w:World
  K:Frag
  h₀:Heap
  loose:List Str
  mg:Str→Option Value
  mb:Str→Option Value
noncomputable def Wd.cl (W:Wd) (c:Cl):Addr :=
  match nsIn W.K mainGlobals (match c with | .grammar => "Grammar" | .recognised => "Recognised") with
  | some (some (.ref a))=>a
  | _=>0
abbrev Wd.M (W:Wd):Model:=model W.prog W.w
structure Cf where
  σ:List Addr
  X:Addr→Prop
noncomputable def Cf.free (c:Cf) (a:Addr):Prop:=a ∉ c.σ∧¬ c.X a
noncomputable def Seqn (c:Cf) (h:Heap) (cls:String) (a:Addr) (items:Array Value):Prop :=
  c.free a∧∃ o,h.get? a=some o∧o.cls=.type cls∧∃ n,o.data=.seq items n
mutual
noncomputable def VRep (W:Wd) (c:Cf) (h:Heap):AV→Value→Prop
  | .none,V=>V=.none
  | .bool b,V=>V=.bool b
  | .int i,V=>∃ t,V=.int i t
  | .str s,V=>∃ t,V=.str s t
  | .tup l,V => ∃ a items,V = .ref a ∧ Seqn c h "tuple" a items ∧ items.size ≤ sizeLine ∧ VReps W c h l items.toList
  | .lst l,V => ∃ a items,V = .ref a ∧ Seqn c h "list" a items ∧ items.size ≤ sizeLine ∧ VReps W c h l items.toList
  | .ref k,V=>∃ a,c.σ[k]? = some a∧V=.ref a
  | .obj cl k,V=>∃ a d,V=.ref a∧c.σ[k]? = some d∧c.free a∧h.get? a=some (instObj (W.cl cl) d)
noncomputable def VReps (W:Wd) (c:Cf) (h:Heap):List AV→List Value→Prop
  | [],l=>l=[]
  | v::vs,l=>∃ V Vs,l=V::Vs∧VRep W c h v V∧VReps W c h vs Vs
end
structure Later (c:Cf) (h:Heap) (c':Cf) (h':Heap):Prop where
  pre:c.σ <+: c'.σ
  keep:∀ a o,c.free a→h.get? a=some o→c'.free a∧h'.get? a=some o
theorem pre_get {α:Type} {l l':List α} (h:l <+: l') {k:Nat} {a:α} (e:l[k]? = some a):l'[k]? = some a:=by
  obtain ⟨t,rfl⟩:=h
  rw [List.getElem?_append_left]
  · exact e
  · exact (List.getElem?_eq_some_iff.mp e).1
theorem Seqn.later {c c':Cf} {h h':Heap} {cls:String} {a:Addr} {items:Array Value} (L:Later c h c' h') (x:Seqn c h cls a items):Seqn c' h' cls a items:=by
  obtain ⟨f,o,e,r⟩:=x
  obtain ⟨p,q⟩:=L.keep a o f e
  exact ⟨p,o,q,r⟩
mutual
theorem VRep.later {W:Wd} {c c':Cf} {h h':Heap} (L:Later c h c' h'):∀ (v:AV) {V:Value},VRep W c h v V→VRep W c' h' v V
  | .none,_,x=>x
  | .bool _,_,x=>x
  | .int _,_,x=>x
  | .str _,_,x=>x
  | .tup l,_,x=>by
    obtain ⟨a,items,e,s,z,r⟩:=x
    show ∃ a items,_
    exact ⟨a,items,e,s.later L,z,VReps.later L l r⟩
  | .lst l,_,x=>by
    obtain ⟨a,items,e,s,z,r⟩:=x
    show ∃ a items,_
    exact ⟨a,items,e,s.later L,z,VReps.later L l r⟩
  | .ref k,_,x=>by
    obtain ⟨a,e,r⟩:=x
    show ∃ a,_
    exact ⟨a,pre_get L.pre e,r⟩
  | .obj cl k,_,x=>by
    obtain ⟨a,d,e,s,f,r⟩:=x
    show ∃ a d,_
    obtain ⟨p,q⟩:=L.keep _ _ f r
    exact ⟨a,d,e,pre_get L.pre s,p,q⟩
theorem VReps.later {W:Wd} {c c':Cf} {h h':Heap} (L:Later c h c' h'):∀ (l:List AV) {Vs:List Value},VReps W c h l Vs→VReps W c' h' l Vs
  | [],_,x=>x
  | v::vs,_,x=>by
    obtain ⟨V,Vs,e,p,q⟩:=x
    show ∃ V Vs,_
    exact ⟨V,Vs,e,VRep.later L v p,VReps.later L vs q⟩
end
variable {W:Wd} {c:Cf} {h:Heap}
theorem VReps.nil:VReps W c h [] []:=rfl
theorem VReps.cons {v:AV} {V:Value} {l:List AV} {Vs:List Value} (x:VRep W c h v V) (y:VReps W c h l Vs):VReps W c h (v::l) (V::Vs):=by
  show ∃ V Vs,_;exact ⟨_,_,rfl,x,y⟩
theorem VReps.cons_inv {v:AV} {l:List AV} {Us:List Value} (x:VReps W c h (v::l) Us):∃ V Vs,Us=V::Vs∧VRep W c h v V∧VReps W c h l Vs:=x
theorem VReps.nil_inv {Us:List Value} (x:VReps W c h [] Us):Us=[]:=x
theorem VReps.length:∀ {l:List AV} {Vs:List Value},VReps W c h l Vs→Vs.length=l.length
  | [],_,x=>by rw [x.nil_inv];rfl
  | v::vs,_,x=>by
    obtain ⟨V,Vs,rfl,_,q⟩:=x.cons_inv
    simp [q.length]
theorem VReps.get:∀ {l:List AV} {Vs:List Value} {i:Nat} {v:AV},VReps W c h l Vs→l[i]? = some v→∃ V,Vs[i]? = some V∧VRep W c h v V
  | [],_,_,_,_,e=>by simp at e
  | v::vs,_,0,_,x,e=>by
    obtain ⟨V,Vs,rfl,p,_⟩:=x.cons_inv
    simp only [List.getElem?_cons_zero,Option.some.injEq] at e
    subst e
    exact ⟨V,rfl,p⟩
  | v::vs,_,i+1,_,x,e=>by
    obtain ⟨V,Vs,rfl,_,q⟩:=x.cons_inv
    simp only [List.getElem?_cons_succ] at e ⊢
    exact q.get e
theorem VReps.append:∀ {l l':List AV} {Vs Vs':List Value},VReps W c h l Vs→VReps W c h l' Vs'→VReps W c h (l++l') (Vs++Vs')
  | [],_,_,_,x,y=>by rw [x.nil_inv];exact y
  | v::vs,_,_,_,x,y=>by
    obtain ⟨V,Vs,rfl,p,q⟩:=x.cons_inv
    exact .cons p (q.append y)
theorem VReps.append_inv:∀ {l l':List AV} {Us:List Value},VReps W c h (l++l') Us→∃ Vs Vs',Us=Vs++Vs'∧VReps W c h l Vs∧VReps W c h l' Vs'
  | [],_,Us,x=>⟨[],Us,rfl,.nil,x⟩
  | v::vs,_,_,x=>by
    obtain ⟨V,Vs,rfl,p,q⟩:=VReps.cons_inv x
    obtain ⟨As,Bs,rfl,a,b⟩:=VReps.append_inv q
    exact ⟨V::As,Bs,rfl,.cons p a,b⟩
theorem VReps.reverse:∀ {l:List AV} {Vs:List Value},VReps W c h l Vs→VReps W c h l.reverse Vs.reverse
  | [],_,x=>by rw [x.nil_inv];exact .nil
  | v::vs,_,x=>by
    obtain ⟨V,Vs,rfl,p,q⟩:=x.cons_inv
    rw [List.reverse_cons,List.reverse_cons]
    exact q.reverse.append (.cons p .nil)
theorem VReps.take:∀ {l:List AV} {Vs:List Value} (n:Nat),VReps W c h l Vs→VReps W c h (l.take n) (Vs.take n)
  | [],_,_,x=>by rw [x.nil_inv];simpa using (VReps.nil (W:=W) (c:=c) (h:=h))
  | v::vs,_,0,x=>by simpa using (VReps.nil (W:=W) (c:=c) (h:=h))
  | v::vs,_,n+1,x=>by
    obtain ⟨V,Vs,rfl,p,q⟩:=x.cons_inv
    exact .cons p (q.take n)
theorem VReps.drop:∀ {l:List AV} {Vs:List Value} (n:Nat),VReps W c h l Vs→VReps W c h (l.drop n) (Vs.drop n)
  | [],_,_,x=>by rw [x.nil_inv];simpa using (VReps.nil (W:=W) (c:=c) (h:=h))
  | v::vs,_,0,x=>by simpa using x
  | v::vs,_,n+1,x=>by
    obtain ⟨V,Vs,rfl,p,q⟩:=x.cons_inv
    exact q.drop n
theorem VReps.set:∀ {l:List AV} {Vs:List Value} (n:Nat) {v:AV} {V:Value},VReps W c h l Vs→VRep W c h v V→VReps W c h (l.set n v) (Vs.set n V)
  | [],_,_,_,_,x,_=>by rw [x.nil_inv];exact .nil
  | v::vs,_,0,_,_,x,y=>by
    obtain ⟨V,Vs,rfl,p,q⟩:=x.cons_inv
    exact .cons y q
  | v::vs,_,n+1,_,_,x,y=>by
    obtain ⟨V,Vs,rfl,p,q⟩:=x.cons_inv
    exact .cons p (q.set n y)
noncomputable def InsRep (W:Wd) (c:Cf) (h:Heap):List (Str × AV)→List DictEntry→Prop
  | [],es=>es=[]
  | (s,v)::l,es=>∃ e es',es=e::es'∧(∃ t,e.key=.str s t)∧VRep W c h v e.val∧InsRep W c h l es'
theorem InsRep.later {c':Cf} {h':Heap} (L:Later c h c' h'):∀ {l:List (Str × AV)} {es:List DictEntry},InsRep W c h l es→InsRep W c' h' l es
  | [],_,x=>x
  | (s,v)::l,_,x=>by obtain ⟨e,es',q,k,r,t⟩:=x;exact ⟨e,es',q,k,VRep.later L v r,InsRep.later L t⟩
theorem InsRep.length:∀ {l:List (Str × AV)} {es:List DictEntry},InsRep W c h l es→es.length=l.length
  | [],_,x=>by rw [show _=[] from x];rfl
  | (s,v)::l,_,⟨e,es',q,_,_,t⟩=>by rw [q];simp [t.length]
noncomputable def ORep (W:Wd) (c:Cf) (h:Heap) (a:Addr):AO→Prop
  | .list l=>∃ items,h.PlainList a items∧items.size≤sizeLine∧VReps W c h l items.toList
  | .dS l=>∃ kvs:List (Str × Value),h.DictOf (PySem.strKind W.prog W.w) a kvs∧kvs.length≤sizeLine∧kvs.map (·.1)=l.map (·.1)∧VReps W c h (l.map (·.2)) (kvs.map (·.2))
  | .dI l=>∃ kvs:List (Int × Value),h.DictOf (PySem.intKind W.prog W.w) a kvs∧kvs.length≤sizeLine∧kvs.map (·.1)=l.map (·.1)∧VReps W c h (l.map (·.2)) (kvs.map (·.2))
  | .ins l=>∃ es n,h.get? a=some (dictOf es n)∧InsRep W c h l es
theorem Heap.DictOf.at' {prog:Program} {w:World} {κ:Type} [DecidableEq κ] {knd:KeyKind prog w κ} {h h':Heap} {a:Addr} {kvs:List (κ × Value)} (x:h.DictOf knd a kvs) (e:∀ o,h.get? a=some o→h'.get? a=some o) :
    h'.DictOf knd a kvs:=(by obtain ⟨o,es,ep,ho,r⟩:=x;exact ⟨o,es,ep,e o ho,r⟩)
theorem ORep.later {c':Cf} {h':Heap} {a:Addr} {o:AO} (L:Later c h c' h') (e:∀ o,h.get? a=some o→h'.get? a=some o) (x:ORep W c h a o):ORep W c' h' a o:=by
  cases o with
  | list l=>obtain ⟨items,p,z,q⟩:=x;exact ⟨items,p.at e,z,q.later L⟩
  | dS l=>obtain ⟨kvs,p,z,k,q⟩:=x;exact ⟨kvs,Heap.DictOf.at' p e,z,k,q.later L⟩
  | dI l=>obtain ⟨kvs,p,z,k,q⟩:=x;exact ⟨kvs,Heap.DictOf.at' p e,z,k,q.later L⟩
  | ins l=>obtain ⟨es,n,p,q⟩:=x;exact ⟨es,n,e _ p,q.later L⟩
structure Ok (W:Wd) (c:Cf) (H:Hp) (h:Heap):Prop where
  base:∀ b o,W.h₀.get? b=some o→h.get? b=some o
  nodup:c.σ.Nodup
  hid:∀ a∈c.σ,W.h₀.get? a=none∧¬ c.X a
  low:∀ a∈c.σ,(a == sysModules)=false
  hidX:∀ a,c.X a→W.h₀.get? a=none∧∃ o,h.get? a=some o
  inh:∀ a∈c.σ,∃ o,h.get? a=some o
  obj:∀ k o,H k=some o→∃ a,c.σ[k]? = some a∧ORep W c h a o
theorem mem_of_get {α:Type} {l:List α} {k:Nat} {a:α} (e:l[k]? = some a):a∈l:=List.mem_of_getElem? e
structure Step (F:Addr→Prop) (c:Cf) (s:Shared) (c':Cf) (s':Shared):Prop where
  pre:c.σ <+: c'.σ
  X:c'.X=c.X
  fresh:∀ a∈c'.σ,a∈c.σ∨s.heap.get? a=none
  keep:∀ b o,b ∉ c.σ→¬ F b→s.heap.get? b=some o→s'.heap.get? b=some o
  gens:s'.gens=s.gens
  os:s'.os=s.os
noncomputable def NoF:Addr→Prop:=fun _=>False
theorem Step.refl (F:Addr→Prop) (c:Cf) (s:Shared):Step F c s c s:=⟨List.prefix_refl _,rfl,fun _ h=>Or.inl h,fun _ _ _ _ e=>e,rfl,rfl⟩
variable {H:Hp}
theorem Step.trans {F:Addr→Prop} {c c' c'':Cf} {s s' s'':Shared} {H':Hp} (x:Step F c s c' s') (ok':Ok W c' H' s'.heap) (hF:∀ a,F a→c.X a) (y:Step F c' s' c'' s''):Step F c s c'' s'':=by
  refine ⟨x.pre.trans y.pre,y.X.trans x.X,fun a ha=>?_,fun b o hb hF' e=>?_,y.gens.trans x.gens,y.os.trans x.os⟩
  · rcases y.fresh a ha with h1 | h1
    · exact x.fresh a h1
    · by_cases hc:a∈c.σ
      · exact Or.inl hc
      · right
        by_cases hFa:F a
        · have hX:c'.X a:=by rw [x.X];exact hF a hFa
          obtain ⟨o,e⟩:=(ok'.hidX a hX).2
          rw [e] at h1;cases h1
        · cases e:s.heap.get? a with
          | none=>rfl
          | some o=>rw [x.keep a o hc hFa e] at h1;cases h1
  · refine y.keep b o (fun hb'=>?_) hF' (x.keep b o hb hF' e)
    rcases x.fresh b hb' with h1 | h1
    · exact hb h1
    · rw [h1] at e;cases e
theorem Step.weak {F:Addr→Prop} {c c':Cf} {s s':Shared} (x:Step NoF c s c' s'):Step F c s c' s' :=
  ⟨x.pre,x.X,x.fresh,fun b o hb _ e=>x.keep b o hb (fun f=>f) e,x.gens,x.os⟩
theorem Step.later {F:Addr→Prop} {c c':Cf} {s s':Shared} (x:Step F c s c' s') (hF:∀ a,F a→c.X a):Later c s.heap c' s'.heap:=by
  refine ⟨x.pre,fun a o f e=>⟨⟨fun ha=>?_,by rw [x.X];exact f.2⟩,x.keep a o f.1 (fun q=>f.2 (hF a q)) e⟩⟩
  rcases x.fresh a ha with h1 | h1
  · exact f.1 h1
  · rw [h1] at e;cases e
theorem Step.laterE {c c':Cf} {s s':Shared} (x:Step NoF c s c' s'):Later c s.heap c' s'.heap:=x.later fun _ f=>f.elim
theorem Ok.keepAll {h':Heap} (x:Ok W c H h) (k:∀ b o,h.get? b=some o→h'.get? b=some o):Ok W c H h' where
  base b o e:=k b o (x.base b o e)
  nodup:=x.nodup
  hid:=x.hid
  low:=x.low
  hidX a ha:=⟨(x.hidX a ha).1,(by obtain ⟨o,e⟩:=(x.hidX a ha).2;exact ⟨o,k _ _ e⟩)⟩
  inh a ha:=(by obtain ⟨o,e⟩:=x.inh a ha;exact ⟨o,k _ _ e⟩)
  obj j o e:=(by obtain ⟨a,p,q⟩:=x.obj j o e;exact ⟨a,p,q.later ⟨List.prefix_refl _,fun b ob f eb=>⟨f,k b ob eb⟩⟩ (k a)⟩)
theorem Step.ofKeep {s s':Shared} (k:∀ b o,s.heap.get? b=some o→s'.heap.get? b=some o) (g:s'.gens=s.gens) (o:s'.os=s.os):Step NoF c s c s' :=
  ⟨List.prefix_refl _,rfl,fun _ h=>Or.inl h,fun b ob _ _ e=>k b ob e,g,o⟩
theorem later_keep {h':Heap} (k:∀ b o,h.get? b=some o→h'.get? b=some o):Later c h c h':=⟨List.prefix_refl _,fun a o f e=>⟨f,k a o e⟩⟩
theorem Ok.drop {H':Hp} (x:Ok W c H h) (l:H'.le H):Ok W c H' h:=⟨x.base,x.nodup,x.hid,x.low,x.hidX,x.inh,fun k o e=>x.obj k o (l k o e)⟩
theorem get?_none_of_size {h:Heap} {a:Addr} (e:h.objs.size≤a):h.get? a=none:=by
  cases q:h.get? a with
  | none=>rfl
  | some o=>exact absurd (Heap.lt_size q) (Nat.not_lt.mpr e)
theorem Ok.free_size (x:Ok W c H h) {a:Addr} (e:h.get? a=none):c.free a :=
  ⟨fun ha=>(by obtain ⟨o,q⟩:=x.inh a ha;rw [e] at q;cases q),fun ha=>(by obtain ⟨o,q⟩:=(x.hidX a ha).2;rw [e] at q;cases q)⟩
theorem push_keeps (h:Heap) (o:Obj):∀ b ob,h.get? b=some ob→(h.push o).get? b=some ob:=fun _ _ e=>Heap.get?_push_of_some _ e
structure Wk (W:Wd):Prop where
  inK:W.K.In W.h₀
  T:TopRead W.view W.loose W.mg W.mb W.h₀
theorem Ok.low_size (x:Ok W c H h) (k:Wk W) {n:Nat}:((h.objs.size+n) == sysModules)=false:=by
  obtain ⟨mc,hn,_⟩:=k.T.nolimit
  obtain ⟨o,_,_,e,_⟩:=hn
  have:=Heap.lt_size (x.base _ _ e)
  have h1:(sysModules:Nat)≤cStatics:=by decide
  exact beq_false_of_ne (Nat.ne_of_gt (Nat.lt_of_le_of_lt h1 (Nat.lt_of_lt_of_le this (Nat.le_add_right _ n))))
theorem Ok.none_len (x:Ok W c H h):H c.σ.length=none:=by
  cases e:H c.σ.length with
  | none=>rfl
  | some o =>
    obtain ⟨a,p,_⟩:=x.obj _ _ e
    have:=(List.getElem?_eq_some_iff.mp p).1
    exact absurd this (Nat.lt_irrefl _)
noncomputable def Cf.add (c:Cf) (a:Addr):Cf:=⟨c.σ++[a],c.X⟩
theorem Cf.add_get (c:Cf) (a:Addr):(c.add a).σ[c.σ.length]? = some a:=List.getElem?_concat_length
theorem Ok.alloc {h':Heap} {a:Addr} {o:AO} (x:Ok W c H h) (k:∀ b ob,h.get? b=some ob→h'.get? b=some ob) (hn:h.get? a=none)
    (q:ORep W (c.add a) h' a o) (hin:∃ ob,h'.get? a=some ob) (hlow:(a == sysModules)=false):Ok W (c.add a) (H.set c.σ.length o) h'∧Later c h (c.add a) h':=by
  have ha:a ∉ c.σ:=(x.free_size hn).1
  have hX:¬ c.X a:=(x.free_size hn).2
  have L:Later c h (c.add a) h':=by
    refine ⟨List.prefix_append _ _,fun b ob f e=>⟨⟨fun hb=>?_,f.2⟩,k b ob e⟩⟩
    rcases List.mem_append.mp hb with hb | hb
    · exact f.1 hb
    · rw [List.mem_singleton.mp hb] at e;rw [hn] at e;cases e
  refine ⟨⟨fun b ob e=>k b ob (x.base b ob e),?_,?_,?_,?_,?_,?_⟩,L⟩
  · exact List.nodup_append.mpr ⟨x.nodup,by simp,by rintro p hp q hq rfl;rw [List.mem_singleton.mp hq] at hp;exact ha hp⟩
  · intro b hb
    rcases List.mem_append.mp hb with hb | hb
    · exact x.hid b hb
    · rw [List.mem_singleton.mp hb]
      refine ⟨?_,hX⟩
      cases e:W.h₀.get? a with
      | none=>rfl
      | some ob=>rw [x.base _ _ e] at hn;cases hn
  · intro b hb
    rcases List.mem_append.mp hb with hb | hb
    · exact x.low b hb
    · rw [List.mem_singleton.mp hb];exact hlow
  · exact fun b hb=>⟨(x.hidX b hb).1,(by obtain ⟨ob,e⟩:=(x.hidX b hb).2;exact ⟨ob,k _ _ e⟩)⟩
  · intro b hb
    rcases List.mem_append.mp hb with hb | hb
    · obtain ⟨ob,e⟩:=x.inh b hb;exact ⟨ob,k _ _ e⟩
    · rw [List.mem_singleton.mp hb];exact hin
  · intro j ob e
    by_cases hj:j=c.σ.length
    · subst hj
      rw [Hp.set_self] at e
      cases e
      exact ⟨a,Cf.add_get c a,q⟩
    · rw [Hp.set_ne _ _ hj] at e
      obtain ⟨b,p,r⟩:=x.obj j ob e
      exact ⟨b,pre_get L.pre p,r.later L (k b)⟩
theorem nodup_get_inj {α:Type}:∀ {l:List α},l.Nodup→∀ {i j:Nat} {a:α},l[i]? = some a→l[j]? = some a→i=j
  | [],_,_,_,_,e,_=>nomatch e
  | x::l,hn,0,0,_,_,_=>rfl
  | x::l,hn,0,j+1,a,e,e'=>absurd ((Option.some.inj (e:some x=some a)).symm▸mem_of_get (l:=l) e') (List.nodup_cons.mp hn).1
  | x::l,hn,i+1,0,a,e,e'=>absurd ((Option.some.inj (e':some x=some a)).symm▸mem_of_get (l:=l) e) (List.nodup_cons.mp hn).1
  | x::l,hn,i+1,j+1,_,e,e'=>congrArg Nat.succ (nodup_get_inj (l:=l) (List.nodup_cons.mp hn).2 e e')
theorem Ok.set {h':Heap} {a:Addr} {k:Nat} {o:AO} (x:Ok W c H h) (hk:c.σ[k]? = some a) (hs:∀ b ob,b≠a→h.get? b=some ob→h'.get? b=some ob)
    (q:∀ c':Cf,c'=c→Later c h c' h'→ORep W c h' a o) (hin:∃ ob,h'.get? a=some ob):Ok W c (H.set k o) h'∧Later c h c h':=by
  have hm:=mem_of_get hk
  have L:Later c h c h':=⟨List.prefix_refl _,fun b ob f e=>⟨f,hs b ob (fun q=>f.1 (q▸hm)) e⟩⟩
  have hne:∀ b ob,W.h₀.get? b=some ob→b≠a:=fun b ob e q=>by rw [q,(x.hid a hm).1] at e;cases e
  refine ⟨⟨fun b ob e=>hs b ob (hne b ob e) (x.base b ob e),x.nodup,x.hid,x.low,fun b hb=>⟨(x.hidX b hb).1,(by obtain ⟨ob,e⟩:=(x.hidX b hb).2;exact ⟨ob,hs b ob (fun q=>(x.hid a hm).2 (q▸hb)) e⟩)⟩,fun b hb=>?_,fun j ob e=>?_⟩,L⟩
  · by_cases hb':b=a
    · rw [hb'];exact hin
    · obtain ⟨ob,e⟩:=x.inh b hb;exact ⟨ob,hs b ob hb' e⟩
  · by_cases hj:j=k
    · subst hj
      rw [Hp.set_self] at e
      cases e
      exact ⟨a,hk,q c rfl L⟩
    · rw [Hp.set_ne _ _ hj] at e
      obtain ⟨b,p,r⟩:=x.obj j ob e
      exact ⟨b,p,r.later L fun ob' e'=>hs b ob' (fun hba=>hj (nodup_get_inj x.nodup (hba▸p) hk)) e'⟩
theorem Step.ofSet {s s':Shared} {a:Addr} {k:Nat} (hk:c.σ[k]? = some a) (hs:∀ b ob,b≠a→s.heap.get? b=some ob→s'.heap.get? b=some ob) (g:s'.gens=s.gens) (o:s'.os=s.os):Step NoF c s c s' :=
  ⟨List.prefix_refl _,rfl,fun _ h=>Or.inl h,fun b ob hb _ e=>hs b ob (fun q=>hb (q▸mem_of_get hk)) e,g,o⟩
theorem Step.ofAlloc {s s':Shared} {a:Addr} (hn:s.heap.get? a=none) (k:∀ b o,s.heap.get? b=some o→s'.heap.get? b=some o) (g:s'.gens=s.gens) (o:s'.os=s.os):Step NoF c s (c.add a) s' :=
  ⟨List.prefix_append _ _,rfl,fun b hb=>by rcases List.mem_append.mp hb with hb | hb;exact Or.inl hb;exact Or.inr (by rw [List.mem_singleton.mp hb];exact hn),fun b ob _ _ e=>k b ob e,g,o⟩
end LY.Internal
end

section
open PySem PySem.W PySem.Calls PyProof.Rows
set_option genInjectivity false
namespace LY.Internal
structure Fm where
  env:Env
  D:Nat→Option Str
noncomputable def Fm.F (f:Fm):Addr→Prop:=fun a=>a=f.env.locals∨∃ x,f.env.cells.lookup x=some a
structure FOk (W:Wd) (f:Fm) (c:Cf) (m:Lo) (h:Heap):Prop where
  kind:f.env.scope.kind=.function
  glob:f.env.globals=mainGlobals
  blt:f.env.builtins=builtinsNs
  locX:c.X f.env.locals
  cellX:∀ x a,f.env.cells.lookup x=some a→c.X a∧a≠f.env.locals
  apart:∀ x y a,f.env.cells.lookup x=some a→f.env.cells.lookup y=some a→x=y
  inj:∀ i j x,f.D i=some x→f.D j=some x→i=j
  kinds:∀ i x,f.D i=some x→(f.env.kindOf x=some .local∨((f.env.kindOf x=some .cell∨f.env.kindOf x=some .free)∧∃ a,f.env.cells.lookup x=some a)) ∧
    (x == ("__debug__" : Str)) = false ∧ (x == ("__classdict__" : Str)) = false
  ns:∃ mc,h.Ns f.env.locals mc∧∀ i x,f.D i=some x→f.env.kindOf x=some .local→∀ v,m.at i=some v→∃ V,mc x=some V∧VRep W c h v V
  cell:∀ i x a,f.D i=some x→f.env.kindOf x≠some .local→f.env.cells.lookup x=some a→∃ ov,h.IsCell a ov∧∀ v,m.at i=some v→∃ V,ov=some V∧VRep W c h v V
  cellsIn:∀ x a,f.env.cells.lookup x=some a→∃ ov,h.IsCell a ov
variable {W:Wd} {f:Fm} {c c':Cf} {m:Lo} {h h':Heap} {H H':Hp} {s s':Shared}
theorem FOk.FX (x:FOk W f c m h):∀ a,f.F a→c.X a:=by
  rintro a (rfl | ⟨y,e⟩)
  · exact x.locX
  · exact (x.cellX y a e).1
theorem FOk.mono (x:FOk W f c m h) (L:Later c h c' h') (hX:c'.X=c.X) (k:∀ a o,f.F a→h.get? a=some o→h'.get? a=some o):FOk W f c' m h' where
  kind:=x.kind
  glob:=x.glob
  blt:=x.blt
  locX:=by rw [hX];exact x.locX
  cellX y a e:=by rw [hX];exact x.cellX y a e
  apart:=x.apart
  inj:=x.inj
  kinds:=x.kinds
  ns:=by
    obtain ⟨mc,hn,q⟩:=x.ns
    refine ⟨mc,hn.at (fun o e=>k _ o (Or.inl rfl) e),fun i y hD hk v hv=>?_⟩
    obtain ⟨V,e,r⟩:=q i y hD hk v hv
    exact ⟨V,e,VRep.later L v r⟩
  cell i y a hD hk hc:=by
    obtain ⟨ov,⟨o,ho,hd⟩,q⟩:=x.cell i y a hD hk hc
    refine ⟨ov,⟨o,k _ o (Or.inr ⟨y,hc⟩) ho,hd⟩,fun v hv=>?_⟩
    obtain ⟨V,e,r⟩:=q v hv
    exact ⟨V,e,VRep.later L v r⟩
  cellsIn y a hc:=by
    obtain ⟨ov,o,ho,hd⟩:=x.cellsIn y a hc
    exact ⟨ov,o,k _ o (Or.inr ⟨y,hc⟩) ho,hd⟩
theorem FOk.step (x:FOk W f c m s.heap) (ok:Ok W c H s.heap) (st:Step NoF c s c' s'):FOk W f c' m s'.heap :=
  x.mono st.laterE st.X fun a o hF e=>st.keep a o (fun hm=>(ok.hid a hm).2 (x.FX a hF)) (fun q=>q) e
theorem loadVar {M:Model} {A:Around} {E:Value→Shared→Prop} {Q:Value→Shared→Prop} {i:Nat} {x:Str} {v:AV} (F:FOk W f c m s.heap) (hD:f.D i=some x) (hv:m.at i=some v)
    (q:∀ V,VRep W c s.heap v V→Q V s):wpAny M A (loadName f.env x) Q E s:=by
  obtain ⟨hk,hd,hcd⟩:=F.kinds i x hD
  rcases hk with hk | ⟨hk,a,hc⟩
  · obtain ⟨mc,hn,r⟩:=F.ns
    obtain ⟨V,e,p⟩:=r i x hD hk v hv
    exact wpAny_loadName_local F.kind hk hn e (q V p)
  · have hne:f.env.kindOf x≠some .local:=by rcases hk with e | e <;> rw [e] <;> decide
    obtain ⟨ov,hcell,r⟩:=F.cell i x a hD hne hc
    obtain ⟨V,rfl,p⟩:=r v hv
    rcases hk with hk | hk
    · exact wpAny_loadName_cell F.kind hk hc hcell (q V p)
    · exact wpAny_loadName_free F.kind hk hc hcell (q V p) hcd
theorem evalVar {M:Model} {A:Around} {E:Value→Shared→Prop} {Q:Value→Shared→Prop} {i:Nat} {x:Str} {p:Pos} {v:AV} (F:FOk W f c m s.heap) (hD:f.D i=some x) (hv:m.at i=some v)
    (q:∀ V,VRep W c s.heap v V→Q V s):wpAny M A (eval (.Name x p) f.env) Q E s :=
  wpAny_Name (loadVar F hD hv q) (F.kinds i x hD).2.1
theorem sameBut_of {a:Addr} {h h':Heap} (hs:Heap.SameBut a h h'):∀ b o,b≠a→h.get? b=some o→h'.get? b=some o:=fun b o hb e=>(hs.2 b hb).trans e
theorem Step.ofOwn {F:Addr→Prop} {a:Addr} (ha:F a) (hs:∀ b o,b≠a→s.heap.get? b=some o→s'.heap.get? b=some o) (g:s'.gens=s.gens) (o:s'.os=s.os):Step F c s c s' :=
  ⟨List.prefix_refl _,rfl,fun _ hm=>Or.inl hm,fun b ob _ hF e=>hs b ob (fun q=>hF (q▸ha)) e,g,o⟩
theorem Ok.own {a:Addr} (x:Ok W c H h) (ha:c.X a) (hs:∀ b o,b≠a→h.get? b=some o→h'.get? b=some o) (hin:∃ o,h'.get? a=some o):Ok W c H h'∧Later c h c h':=by
  have L:Later c h c h':=⟨List.prefix_refl _,fun b o fr e=>⟨fr,hs b o (fun q=>fr.2 (q▸ha)) e⟩⟩
  refine ⟨⟨fun b o e=>hs b o (fun q=>?_) (x.base b o e),x.nodup,x.hid,x.low,fun b hb=>⟨(x.hidX b hb).1,?_⟩,fun b hb=>?_,fun j o e=>?_⟩,L⟩
  · rw [q,(x.hidX a ha).1] at e;cases e
  · by_cases hba:b=a
    · rw [hba];exact hin
    · obtain ⟨o,e⟩:=(x.hidX b hb).2;exact ⟨o,hs b o hba e⟩
  · obtain ⟨o,e⟩:=x.inh b hb
    exact ⟨o,hs b o (fun q=>(x.hid b hb).2 (q▸ha)) e⟩
  · obtain ⟨b,p,r⟩:=x.obj j o e
    exact ⟨b,p,r.later L fun ob e'=>hs b ob (fun q=>(x.hid b (mem_of_get p)).2 (q▸ha)) e'⟩
theorem storeVar2 {M:Model} {A:Around} {E:Value→Shared→Prop} {Q:Unit→Shared→Prop} {i:Nat} {x:Str} {v:AV} {V:Value} (ok:Ok W c H s.heap) (F:FOk W f c m s.heap) (hD:f.D i=some x)
    (hnf:f.env.kindOf x≠some .free) (hi:i<m.length) (r:VRep W c s.heap v V)
    (q:∀ s',Step f.F c s c s'→Ok W c H s'.heap→FOk W f c (m.set i (some v)) s'.heap→(∀ b o,(f.env.kindOf x=some .local→b≠f.env.locals)→(f.env.kindOf x≠some .local→∀ a,f.env.cells.lookup x=some a→b≠a)→s.heap.get? b=some o→s'.heap.get? b=some o)→Q () s'):wpAny M A (storeName f.env x V) Q E s:=by
  obtain ⟨hk,hd,hcd⟩:=F.kinds i x hD
  have hL:=F.locX
  rcases hk with hk | ⟨hk,a,hc⟩
  · obtain ⟨mc,hn,w⟩:=F.ns
    refine wpAny_storeName_local hk hn (fun h' hn' hs=>?_) (by rw [F.kind];rfl)
    have hs':=sameBut_of hs
    obtain ⟨ok',L⟩:=ok.own (h':=h') hL hs' ((by obtain ⟨o,_,_,e,_⟩:=hn';exact ⟨o,e⟩))
    refine q _ (Step.ofOwn (Or.inl rfl) hs' rfl rfl) ok' ⟨F.kind,F.glob,F.blt,F.locX,F.cellX,F.apart,F.inj,F.kinds,⟨_,hn',fun j y hDj hkj u hu=>?_⟩,fun j y a hDj hkj hcj=>?_,fun y a hcy=>?_⟩ (fun b o hb _ e=>hs' b o (hb hk) e)
    · by_cases hij:i=j
      · subst hij
        obtain rfl:=Option.some.inj ((Lo.at_set hi).symm.trans hu)
        obtain rfl:=Option.some.inj (hD.symm.trans hDj)
        exact ⟨V,by simp,VRep.later L _ r⟩
      · obtain ⟨U,e,p⟩:=w j y hDj hkj u ((Lo.at_set_ne hij).symm.trans hu)
        have hyx:y≠x:=fun e'=>hij (F.inj i j x hD (e'▸hDj))
        exact ⟨U,by simp [hyx,e],VRep.later L u p⟩
    · obtain ⟨ov,⟨o,ho,hdo⟩,p⟩:=F.cell j y a hDj hkj hcj
      refine ⟨ov,⟨o,hs' a o (F.cellX y a hcj).2 ho,hdo⟩,fun u hu=>?_⟩
      have hij:i≠j:=fun e=>hkj (Option.some.inj (hD.symm.trans (e▸hDj))▸hk)
      obtain ⟨U,e,p'⟩:=p u ((Lo.at_set_ne hij).symm.trans hu)
      exact ⟨U,e,VRep.later L u p'⟩
    · obtain ⟨ov,o,ho,hdo⟩:=F.cellsIn y a hcy
      exact ⟨ov,o,hs' a o (F.cellX y a hcy).2 ho,hdo⟩
  · have hk':f.env.kindOf x=some .cell:=hk.resolve_right hnf
    have hne:f.env.kindOf x≠some .local:=by rw [hk'];decide
    obtain ⟨ov,hcell,p⟩:=F.cell i x a hD hne hc
    refine wpAny_storeName_cell F.kind hk' hc hcell fun h' hc' hs=>?_
    have hs':=sameBut_of hs
    have haX:=(F.cellX x a hc).1
    obtain ⟨ok',L⟩:=ok.own (h':=h') haX hs' ((by obtain ⟨o,e,_⟩:=hc';exact ⟨o,e⟩))
    refine q _ (Step.ofOwn (Or.inr ⟨x,hc⟩) hs' rfl rfl) ok' ⟨F.kind,F.glob,F.blt,F.locX,F.cellX,F.apart,F.inj,F.kinds,?_,fun j y b hDj hkj hcj=>?_,fun y b hcy=>?_⟩ (fun b o _ hb e=>hs' b o (hb hne a hc) e)
    · obtain ⟨mc,hn,w⟩:=F.ns
      refine ⟨mc,hn.at (fun o e=>hs' _ o (Ne.symm (F.cellX x a hc).2) e),fun j y hDj hkj u hu=>?_⟩
      have hij:i≠j:=fun e=>hne ((Option.some.inj (hD.symm.trans (e▸hDj))).symm▸hkj)
      obtain ⟨U,e,p'⟩:=w j y hDj hkj u ((Lo.at_set_ne hij).symm.trans hu)
      exact ⟨U,e,VRep.later L u p'⟩
    · by_cases hij:i=j
      · subst hij
        obtain rfl:=Option.some.inj (hD.symm.trans hDj)
        obtain rfl:=Option.some.inj (hc.symm.trans hcj)
        exact ⟨some V,hc',fun u hu=>⟨V,rfl,Option.some.inj ((Lo.at_set hi).symm.trans hu)▸VRep.later L v r⟩⟩
      · obtain ⟨ov',⟨o,ho,hdo⟩,p'⟩:=F.cell j y b hDj hkj hcj
        have hba:b≠a:=fun e=>hij (F.inj i j x hD (F.apart x y a hc (e▸hcj)▸hDj))
        refine ⟨ov',⟨o,hs' b o hba ho,hdo⟩,fun u hu=>?_⟩
        obtain ⟨U,e,p''⟩:=p' u ((Lo.at_set_ne hij).symm.trans hu)
        exact ⟨U,e,VRep.later L u p''⟩
    · by_cases hba:b=a
      · subst hba;exact ⟨_,hc'⟩
      · obtain ⟨ov',o,ho,hdo⟩:=F.cellsIn y b hcy
        exact ⟨ov',o,hs' b o hba ho,hdo⟩
theorem storeVar' {M:Model} {A:Around} {E:Value→Shared→Prop} {Q:Unit→Shared→Prop} {i:Nat} {x:Str} {v:AV} {V:Value} (ok:Ok W c H s.heap) (F:FOk W f c m s.heap) (hD:f.D i=some x)
    (hnf:f.env.kindOf x≠some .free) (hi:i<m.length) (r:VRep W c s.heap v V)
    (q:∀ s',Step f.F c s c s'→Ok W c H s'.heap→FOk W f c (m.set i (some v)) s'.heap→(∀ b o,¬ f.F b→s.heap.get? b=some o→s'.heap.get? b=some o)→Q () s'):wpAny M A (storeName f.env x V) Q E s :=
  storeVar2 ok F hD hnf hi r fun s' a b d k=>q s' a b d fun b o hb e=>k b o (fun _ q=>hb (Or.inl q)) (fun _ a ha q=>hb (Or.inr ⟨x,q▸ha⟩)) e
theorem storeVar {M:Model} {A:Around} {E:Value→Shared→Prop} {Q:Unit→Shared→Prop} {i:Nat} {x:Str} {v:AV} {V:Value} (ok:Ok W c H s.heap) (F:FOk W f c m s.heap) (hD:f.D i=some x)
    (hnf:f.env.kindOf x≠some .free) (hi:i<m.length) (r:VRep W c s.heap v V)
    (q:∀ s',Step f.F c s c s'→Ok W c H s'.heap→FOk W f c (m.set i (some v)) s'.heap→Q () s'):wpAny M A (storeName f.env x V) Q E s :=
  storeVar' ok F hD hnf hi r fun s' a b d _=>q s' a b d
structure Room (n:Nat) (A:Around):Prop where
  handled:A.handled=none
  depth:A.depth+2 * n+5<recursionLimit
  units:A.units+20 * n+200<cLine
noncomputable def PostV (W:Wd) (c:Cf) (s:Shared) (Q:QV) (V:Value) (s':Shared):Prop :=
  ∃ c' H' v,Step NoF c s c' s'∧Ok W c' H' s'.heap∧VRep W c' s'.heap v V∧Q v H'
noncomputable def PostVs (W:Wd) (c:Cf) (s:Shared) (Q:List AV→Hp→Prop) (Vs:List Value) (s':Shared):Prop :=
  ∃ c' H' vs,Step NoF c s c' s'∧Ok W c' H' s'.heap∧VReps W c' s'.heap vs Vs∧Q vs H'
noncomputable def FlRep (W:Wd) (c:Cf) (h:Heap):Fl→Flow→Prop
  | .next,fl=>fl=.next
  | .ret v,fl=>∃ V,fl=.ret V∧VRep W c h v V
noncomputable def PostF (W:Wd) (f:Fm) (c:Cf) (s:Shared) (Q:QF) (fl:Flow) (s':Shared):Prop :=
  ∃ c' H' m' g,Step f.F c s c' s'∧Ok W c' H' s'.heap∧FOk W f c' m' s'.heap∧FlRep W c' s'.heap g fl∧Q g m' H'
structure RoomC (n:Nat) (A:Around):Prop where
  handled:A.handled=none
  depth:A.depth+2 * n+4<recursionLimit
  units:A.units+20 * n+190<cLine
noncomputable def CallOk (W:Wd) (n:Nat) (C:CallP) (call:Fn→List Value→Code):Prop :=
  ∀ (A:Around) (f:Fn) (vs:List AV) (Vs:List Value) (c:Cf) (H:Hp) (s:Shared) (Q:QV),RoomC n A→Ok W c H s.heap→VReps W c s.heap vs Vs→C f vs H Q →
    codeAny W.M A (call f Vs) (fun r s'=>∃ V,r=.ok (.ret V)∧PostV W c s Q V s') s
noncomputable def EvOk (W:Wd) (n:Nat) (f:Fm) (P:Lo→Hp→QV→Prop) (e:Expr):Prop :=
  ∀ (A:Around) (E:Value→Shared→Prop) (m:Lo) (c:Cf) (H:Hp) (s:Shared) (Q:QV),Room n A→Ok W c H s.heap→FOk W f c m s.heap→P m H Q →
    wpAny W.M A (eval e f.env) (PostV W c s Q) E s
noncomputable def EvsOk (W:Wd) (n:Nat) (f:Fm) (P:Lo→Hp→(List AV→Hp→Prop)→Prop) (es:List Expr):Prop :=
  ∀ (A:Around) (E:Value→Shared→Prop) (m:Lo) (c:Cf) (H:Hp) (s:Shared) (Q:List AV→Hp→Prop) (pos:Pos),Room n A→Ok W c H s.heap→FOk W f c m s.heap→P m H Q →
    wpAny W.M A (spliced (backTo pos (starEach es f.env))) (PostVs W c s (fun vs H'=>vs.length=es.length∧Q vs H')) E s
noncomputable def TeOk (W:Wd) (n:Nat) (f:Fm) (P:Lo→Hp→QV→Prop) (e:Expr):Prop :=
  ∀ (A:Around) (E:Value→Shared→Prop) (m:Lo) (c:Cf) (H:Hp) (s:Shared) (Q:QV),Room n A→Ok W c H s.heap→FOk W f c m s.heap→P m H Q→(∀ v H',Q v H'→∃ b,v=.bool b) →
    wpAny W.M A (isTrue e f.env (eval e f.env)) (fun b s'=>PostV W c s Q (.bool b) s') E s
noncomputable def ExOk (W:Wd) (n:Nat) (f:Fm) (P:Lo→Hp→QF→Prop) (st:Stmt):Prop :=
  ∀ (A:Around) (E:Value→Shared→Prop) (m:Lo) (c:Cf) (H:Hp) (s:Shared) (Q:QF),Room n A→Ok W c H s.heap→FOk W f c m s.heap→P m H Q →
    wpAny W.M A (exec st f.env) (PostF W f c s Q) E s
noncomputable def ExsOk (W:Wd) (n:Nat) (f:Fm) (P:Lo→Hp→QF→Prop) (sts:List Stmt):Prop :=
  ∀ (A:Around) (E:Value→Shared→Prop) (m:Lo) (c:Cf) (H:Hp) (s:Shared) (Q:QF),Room n A→Ok W c H s.heap→FOk W f c m s.heap→P m H Q →
    wpAny W.M A (execs sts f.env) (PostF W f c s Q) E s
theorem PostV.after {Q:QV} {V:Value} (st:Step NoF c s c' s') (ok':Ok W c' H' s'.heap) {s'':Shared} (p:PostV W c' s' Q V s''):PostV W c s Q V s'' :=
  (by obtain ⟨c2,H2,v,t,o,r,q⟩:=p;exact ⟨c2,H2,v,st.trans ok' (fun _ x=>x.elim) t,o,r,q⟩)
theorem PostF.after {Q:QF} {fl:Flow} (F:FOk W f c m s.heap) (st:Step f.F c s c' s') (ok':Ok W c' H' s'.heap) {s'':Shared} (p:PostF W f c' s' Q fl s''):PostF W f c s Q fl s'' :=
  (by obtain ⟨c2,H2,m2,g,t,o,r,q⟩:=p;exact ⟨c2,H2,m2,g,st.trans ok' F.FX t,o,r,q⟩)
theorem PostV.mono {Q R:QV} {V:Value} (p:PostV W c s Q V s') (k:∀ v H,Q v H→R v H):PostV W c s R V s' :=
  (by obtain ⟨c2,H2,v,t,o,r,q⟩:=p;exact ⟨c2,H2,v,t,o,r,k _ _ q⟩)
theorem PostV.now {Q:QV} {v:AV} {V:Value} (ok:Ok W c H s.heap) (r:VRep W c s.heap v V) (q:Q v H):PostV W c s Q V s:=⟨c,H,v,Step.refl _ _ _,ok,r,q⟩
theorem PostV.nowTok {Q:QV} {v:AV} {V:Value} {t:Nat} (ok:Ok W c H s.heap) (r:VRep W c s.heap v V) (q:Q v H):PostV W c s Q V { s with toks:=t } :=
  ⟨c,H,v,⟨List.prefix_refl _,rfl,fun _ h=>Or.inl h,fun _ _ _ _ e=>e,rfl,rfl⟩,ok,r,q⟩
end LY.Internal
end

section
open PySem PySem.W PySem.Calls PyProof.Rows
namespace LY.Internal
variable {W:Wd} {f:Fm} {c c':Cf} {m:Lo} {h h':Heap} {H H':Hp} {s s':Shared} {A:Around} {E:Value→Shared→Prop} {n:Nat}
theorem sizeLine_cap:cap≤sizeLine:=by decide
noncomputable def Cf.hide (c:Cf) (d:Addr):Cf:=⟨c.σ,fun a=>c.X a∨a=d⟩
theorem Later.hide {d:Addr} (hn:h.get? d=none) (k:∀ b o,h.get? b=some o→h'.get? b=some o):Later c h (c.hide d) h' :=
  ⟨List.prefix_refl _,fun a o fr e=>⟨⟨fr.1,fun q=>q.elim fr.2 fun e'=>(by rw [e',hn] at e;cases e)⟩,k a o e⟩⟩
theorem Ok.hide {d:Addr} (x:Ok W c H h) (hn:h.get? d=none) (k:∀ b o,h.get? b=some o→h'.get? b=some o) (hin:∃ o,h'.get? d=some o):Ok W (c.hide d) H h':=by
  have L:=Later.hide (c:=c) hn k
  refine ⟨fun b o e=>k b o (x.base b o e),x.nodup,fun a ha=>⟨(x.hid a ha).1,fun q=>q.elim (x.hid a ha).2 fun e=>?_⟩,x.low,fun a ha=>?_,fun a ha=>?_,fun j o e=>?_⟩
  · obtain ⟨o,q⟩:=x.inh a ha;rw [e,hn] at q;cases q
  · rcases ha with ha | ha
    · exact ⟨(x.hidX a ha).1,(by obtain ⟨o,e⟩:=(x.hidX a ha).2;exact ⟨o,k _ _ e⟩)⟩
    · rw [ha]
      refine ⟨?_,hin⟩
      cases e:W.h₀.get? d with
      | none=>rfl
      | some o=>rw [x.base _ _ e] at hn;cases hn
  · obtain ⟨o,e⟩:=x.inh a ha;exact ⟨o,k _ _ e⟩
  · obtain ⟨a,p,q⟩:=x.obj j o e
    exact ⟨a,p,q.later L (k a)⟩
theorem FOk.hide {d:Addr} (x:FOk W f c m h) (hn:h.get? d=none) (k:∀ b o,h.get? b=some o→h'.get? b=some o):FOk W f (c.hide d) m h':=by
  have L:=Later.hide (c:=c) hn k
  refine ⟨x.kind,x.glob,x.blt,Or.inl x.locX,fun y a e=>⟨Or.inl (x.cellX y a e).1,(x.cellX y a e).2⟩,x.apart,x.inj,x.kinds,?_,fun i y a hD hk hc=>?_,fun y a hc=>?_⟩
  · obtain ⟨mc,hns,q⟩:=x.ns
    exact ⟨mc,hns.keeps k,fun i y hD hk v hv=>(by obtain ⟨V,e,r⟩:=q i y hD hk v hv;exact ⟨V,e,VRep.later L v r⟩)⟩
  · obtain ⟨ov,hcell,q⟩:=x.cell i y a hD hk hc
    exact ⟨ov,hcell.keeps k,fun v hv=>(by obtain ⟨V,e,r⟩:=q v hv;exact ⟨V,e,VRep.later L v r⟩)⟩
  · obtain ⟨ov,hcell⟩:=x.cellsIn y a hc
    exact ⟨ov,hcell.keeps k⟩
noncomputable def Cf.show (c' c:Cf):Cf:=⟨c'.σ,c.X⟩
theorem Ok.reveal {d:Addr} {o:AO} (x:Ok W c' H h) (hX:c'.X=(c.hide d).X) (hc:¬ c.X d) (hlow:(d == sysModules)=false)
    (hs:∀ b ob,b≠d→h.get? b=some ob→h'.get? b=some ob) (q:ORep W ((c'.show c).add d) h' d o) (hin:∃ ob,h'.get? d=some ob) :
    Ok W ((c'.show c).add d) (H.set c'.σ.length o) h'∧Later c' h ((c'.show c).add d) h':=by
  have hXd:c'.X d:=by rw [hX];exact Or.inr rfl
  have hd:d ∉ c'.σ:=fun hm=>(x.hid d hm).2 hXd
  have L:Later c' h ((c'.show c).add d) h':=by
    refine ⟨List.prefix_append _ _,fun a ob fr e=>⟨⟨fun hm=>?_,fun hx=>fr.2 (by rw [hX];exact Or.inl hx)⟩,hs a ob (fun q=>fr.2 (q▸hXd)) e⟩⟩
    rcases List.mem_append.mp hm with hm | hm
    · exact fr.1 hm
    · rw [List.mem_singleton.mp hm] at fr;exact fr.2 hXd
  refine ⟨⟨fun b ob e=>hs b ob (fun q=>?_) (x.base b ob e),?_,fun a ha=>?_,fun a ha=>?_,fun a ha=>?_,fun a ha=>?_,fun j ob e=>?_⟩,L⟩
  · rw [q,(x.hidX d hXd).1] at e;cases e
  · exact List.nodup_append.mpr ⟨x.nodup,by simp,by rintro p hp q hq rfl;rw [List.mem_singleton.mp hq] at hp;exact hd hp⟩
  · rcases List.mem_append.mp ha with ha | ha
    · exact ⟨(x.hid a ha).1,fun q=>(x.hid a ha).2 (by rw [hX];exact Or.inl q)⟩
    · rw [List.mem_singleton.mp ha];exact ⟨(x.hidX d hXd).1,hc⟩
  · rcases List.mem_append.mp ha with ha | ha
    · exact x.low a ha
    · rw [List.mem_singleton.mp ha];exact hlow
  · have ha':c'.X a:=by rw [hX];exact Or.inl ha
    exact ⟨(x.hidX a ha').1,(by obtain ⟨ob,e⟩:=(x.hidX a ha').2;exact ⟨ob,hs a ob (fun q=>hc (q▸ha)) e⟩)⟩
  · rcases List.mem_append.mp ha with ha | ha
    · obtain ⟨ob,e⟩:=x.inh a ha;exact ⟨ob,hs a ob (fun q=>hd (q▸ha)) e⟩
    · rw [List.mem_singleton.mp ha];exact hin
  · by_cases hj:j=c'.σ.length
    · subst hj
      obtain rfl:=Option.some.inj ((Hp.set_self ..).symm.trans e)
      exact ⟨d,Cf.add_get (c'.show c) _,q⟩
    · rw [Hp.set_ne _ _ hj] at e
      obtain ⟨b,p,r⟩:=x.obj j ob e
      exact ⟨b,pre_get L.pre p,r.later L fun ob' e'=>hs b ob' (fun q=>hd (q▸mem_of_get p)) e'⟩
theorem ev1 {ea:Expr} {Pa:Lo→Hp→QV→Prop} (ha:EvOk W n f Pa ea) (hr:Room n A) (ok:Ok W c H s.heap) (F:FOk W f c m s.heap) {R:QV} (p:Pa m H R) {T:Value→Shared→Prop}
    (t:∀ c1 H1 s1 x V,Step NoF c s c1 s1→Ok W c1 H1 s1.heap→FOk W f c1 m s1.heap→VRep W c1 s1.heap x V→R x H1→T V s1):wpAny W.M A (eval ea f.env) T E s:=by
  refine wpAny_mono (ha A E m c H s R hr ok F p) (fun V s1 h1=>?_) fun _ _ e=>e
  obtain ⟨c1,H1,x,st,ok1,r1,q⟩:=h1
  exact t c1 H1 s1 x V st ok1 (F.step ok st) r1 q
theorem ev2 {ea eb:Expr} {Pa Pb:Lo→Hp→QV→Prop} (ha:EvOk W n f Pa ea) (hb:EvOk W n f Pb eb) (hr:Room n A) (ok:Ok W c H s.heap) (F:FOk W f c m s.heap) {R:AV→AV→Hp→Prop}
    (p:Pa m H fun x H1=>Pb m H1 fun y H2=>R x y H2) {T:Value→Value→Shared→Prop}
    (t:∀ c2 H2 s2 x y V U,Step NoF c s c2 s2→Ok W c2 H2 s2.heap→FOk W f c2 m s2.heap→VRep W c2 s2.heap x V→VRep W c2 s2.heap y U→R x y H2→T V U s2) :
    wpAny W.M A (eval ea f.env) (fun V s1=>wpAny W.M A (eval eb f.env) (fun U s2=>T V U s2) E s1) E s:=by
  refine ev1 ha hr ok F p fun c1 H1 s1 x V st1 ok1 F1 r1 q1=>?_
  refine ev1 hb hr ok1 F1 q1 fun c2 H2 s2 y U st2 ok2 F2 r2 q2=>?_
  exact t c2 H2 s2 x y V U (st1.trans ok1 (fun _ e=>e.elim) st2) ok2 F2 (VRep.later st2.laterE x r1) r2 q2
theorem PostV.seq {Q:QV} {l:List AV} {Vs:List Value} (ok:Ok W c H s.heap) (r:VReps W c s.heap l Vs) (hz:Vs.length≤sizeLine) (v:AV) (cls:String) {t:Nat}
    (hv:(v = .tup l ∧ cls = "tuple") ∨ (v = .lst l ∧ cls = "list")) (q:Q v H) :
    PostV W c s Q (.ref s.heap.objs.size) { s with heap:=s.heap.push { cls:=.type cls,data:=.seq Vs.toArray },toks:=t }:=by
  have k:=push_keeps s.heap { cls:=.type cls,data:=.seq Vs.toArray }
  have hn:s.heap.get? s.heap.objs.size=none:=get?_none_of_size (Nat.le_refl _)
  have e:=Heap.get?_push_size s.heap (o:=({ cls:=.type cls,data:=.seq Vs.toArray }:Obj)) rfl
  have r':=VReps.later (later_keep (c:=c) k) l r
  have sq:Seqn c (s.heap.push { cls:=.type cls,data:=.seq Vs.toArray }) cls s.heap.objs.size Vs.toArray:=⟨ok.free_size hn,_,e,rfl,_,rfl⟩
  refine ⟨c,H,v,Step.ofKeep k rfl rfl,ok.keepAll k,?_,q⟩
  rcases hv with ⟨rfl,rfl⟩ | ⟨rfl,rfl⟩
  · show ∃ a items,_;exact ⟨_,_,rfl,sq,hz,r'⟩
  · show ∃ a items,_;exact ⟨_,_,rfl,sq,hz,r'⟩
theorem PostV.new (k:Wk W) {Q:QV} {o:AO} {ob:Obj} {t:Nat} (ok:Ok W c H s.heap) (hf:ob.isFreed=false)
    (r:∀ c',Later c s.heap c' (s.heap.push ob)→ORep W c' (s.heap.push ob) s.heap.objs.size o) (q:∀ k,H k=none→Q (.ref k) (H.set k o)) :
    PostV W c s Q (.ref s.heap.objs.size) { s with heap:=s.heap.push ob,toks:=t }:=by
  have kp:=push_keeps s.heap ob
  have hn:s.heap.get? s.heap.objs.size=none:=get?_none_of_size (Nat.le_refl _)
  have e:(s.heap.push ob).get? s.heap.objs.size=some ob:=Heap.get?_push_size s.heap hf
  have L:Later c s.heap (c.add s.heap.objs.size) (s.heap.push ob):=by
    refine ⟨List.prefix_append _ _,fun b ob' fr e'=>⟨⟨fun hb=>?_,fr.2⟩,kp b ob' e'⟩⟩
    rcases List.mem_append.mp hb with hb | hb
    · exact fr.1 hb
    · rw [List.mem_singleton.mp hb] at e';rw [hn] at e';cases e'
  obtain ⟨ok',L'⟩:=ok.alloc (o:=o) kp hn (r _ L) ⟨_,e⟩ (by simpa using ok.low_size k (n:=0))
  exact ⟨c.add s.heap.objs.size,_,.ref c.σ.length,Step.ofAlloc hn kp rfl rfl,ok',by show ∃ a,_;exact ⟨_,Cf.add_get c _,rfl⟩,q _ ok.none_len⟩
noncomputable def opOf:BOp→Operator | .add=>.Add | .sub=>.Sub | .mul=>.Mult | .mod=>.Mod | .fdiv=>.FloorDiv
theorem VRep.int {i:Int} {V:Value} (x:VRep W c h (.int i) V):∃ t,V=.int i t:=x
theorem VRep.str {i:Str} {V:Value} (x:VRep W c h (.str i) V):∃ t,V=.str i t:=x
theorem VRep.bool {b:Bool} {V:Value} (x:VRep W c h (.bool b) V):V=.bool b:=x
theorem VRep.none {V:Value} (x:VRep W c h .none V):V=.none:=x
theorem VRep.lst {l:List AV} {V:Value} (x:VRep W c h (.lst l) V):∃ a items,V = .ref a ∧ Seqn c h "list" a items ∧ items.size ≤ sizeLine ∧ VReps W c h l items.toList:=x
theorem VRep.tup {l:List AV} {V:Value} (x:VRep W c h (.tup l) V):∃ a items,V = .ref a ∧ Seqn c h "tuple" a items ∧ items.size ≤ sizeLine ∧ VReps W c h l items.toList:=x
theorem VRep.ref {k:Nat} {V:Value} (x:VRep W c h (.ref k) V):∃ a,c.σ[k]? = some a∧V=.ref a:=x
theorem VRep.obj {cl:Cl} {k:Nat} {V:Value} (x:VRep W c h (.obj cl k) V):∃ a d,V=.ref a∧c.σ[k]? = some d∧c.free a∧h.get? a=some (instObj (W.cl cl) d):=x
theorem VRep.ofInt {i:Int} {t:Tok}:VRep W c h (.int i) (.int i t):=(show ∃ t,_ from ⟨t,rfl⟩)
theorem VRep.ofStr {i:Str} {t:Tok}:VRep W c h (.str i) (.str i t):=(show ∃ t,_ from ⟨t,rfl⟩)
theorem VRep.ofBool {b:Bool}:VRep W c h (.bool b) (.bool b):=rfl
theorem VRep.ofNone:VRep W c h .none .none:=rfl
theorem Seqn.isList {a:Addr} {items:Array Value} (x:Seqn c h "list" a items):h.IsList a items:=x.2
theorem Seqn.isTup {a:Addr} {items:Array Value} (x:Seqn c h "tuple" a items):IsTup h a items:=x.2
theorem Seqn.isTuple {a:Addr} {items:Array Value} (x:Seqn c h "tuple" a items):h.IsTuple a items:=x.2
theorem mulOk {a b:Int} (h:a.natAbs≤cap):IntMulOk a b:=IntMulOk.of_left (intBits_le_64 (by unfold cap at h;omega) (by unfold cap at h;omega))
theorem pylong {a b:Int} (h:b.natAbs≤cap):¬ (Builtin.divisionGoesByPylong a b)=true:=by
  unfold Builtin.divisionGoesByPylong
  have h1:b.natAbs.log2<64:=by
    rcases Nat.eq_zero_or_pos b.natAbs with h0 | hp
    · rw [h0];decide
    · exact (Nat.log2_lt (Nat.ne_of_gt hp)).mpr (by unfold cap at h;omega)
  have h2:(if (b == 0)=true then 0 else b.natAbs.log2 / 30+1)≤300:=by split <;> omega
  simp only [Bool.and_eq_true,decide_eq_true_eq]
  omega
theorem nope' {α:Type} {v:α} {P:Prop} (e:Option.none=some v):P:=nomatch e
theorem int_bin {A:Around} {a b:Int} {t u:Tok} {Q:QV} {o:BOp} {z:AV} (ok:Ok W c H s.heap) (e:intBin a b o=some z) (q:Q z H):wpAny W.M A (binaryOp (opOf o) (.int a t) (.int b u)) (PostV W c s Q) E s:=by
  cases o with
  | add=>obtain rfl:=Option.some.inj e;exact P.add_int (PostV.nowTok ok .ofInt q)
  | sub=>obtain rfl:=Option.some.inj e;exact P.sub_int (PostV.nowTok ok .ofInt q)
  | mul =>
    by_cases hz:a.natAbs≤cap∧b.natAbs≤cap
    · obtain rfl:=Option.some.inj ((if_pos hz).symm.trans e);exact P.mul_int (PostV.nowTok ok .ofInt q) (mulOk hz.1)
    · exact nope' ((if_neg hz).symm.trans e)
  | mod =>
    by_cases hz:b=0
    · exact nope' ((if_pos hz).symm.trans e)
    · obtain rfl:=Option.some.inj ((if_neg hz).symm.trans e);exact AutoIntOps.mod_1 (fun q=>hz (eq_of_beq q)) (PostV.nowTok ok .ofInt q)
  | fdiv =>
    by_cases hz:b≠0∧b.natAbs≤cap
    · obtain rfl:=Option.some.inj ((if_pos hz).symm.trans e);exact AutoIntOps.floordiv_1 (fun q=>hz.1 (eq_of_beq q)) (pylong hz.2) (PostV.nowTok ok .ofInt q)
    · exact nope' ((if_neg hz).symm.trans e)
theorem add_some {o:BOp} {k:Nat} {w z:AV} (e:(bif isAdd o then (if k≤cap then some w else Option.none) else Option.none)=some z):o=.add∧k≤cap∧z=w:=by
  cases o with
  | add =>
    by_cases hz:k≤cap
    · exact ⟨rfl,hz,(Option.some.inj ((if_pos hz).symm.trans e)).symm⟩
    · exact nope' ((if_neg hz).symm.trans e)
  | _=>exact nope' e
theorem bin_some {o:BOp} {x y z:AV} {P:AV→AV→Prop} (e:binAV o x y=some z) (h1:∀ a b,intBin a b o=some z→P (.int a) (.int b)) (h2:∀ a b:Str,o=.add∧a.length+b.length≤cap∧z=.str (a++b)→P (.str a) (.str b))
    (h3:∀ a b:List AV,o=.add∧a.length+b.length≤cap∧z=.lst (a++b)→P (.lst a) (.lst b)):P x y:=by
  cases x with
  | int a=>cases y with
    | int b=>exact h1 a b e
    | _=>exact nope' e
  | str a=>cases y with
    | str b=>exact h2 a b (add_some e)
    | _=>exact nope' e
  | lst a=>cases y with
    | lst b=>exact h3 a b (add_some e)
    | _=>exact nope' e
  | _=>exact nope' e
theorem bin_ok {Q:QV} {o:BOp} {x y z:AV} {X Y:Value} (ok:Ok W c H s.heap) (rx:VRep W c s.heap x X) (ry:VRep W c s.heap y Y) (e:binAV o x y=some z) (q:Q z H) :
    wpAny W.M A (binaryOp (opOf o) X Y) (PostV W c s Q) E s:=by
  refine bin_some (P:=fun x y=>VRep W c s.heap x X→VRep W c s.heap y Y→_) e (fun a b e rx ry=>?_) (fun a b h rx ry=>?_) (fun la lb h rx ry=>?_) rx ry
  · obtain ⟨t,rfl⟩:=rx.int;obtain ⟨u,rfl⟩:=ry.int
    exact int_bin ok e q
  · obtain ⟨rfl,hz,rfl⟩:=h
    obtain ⟨t,rfl⟩:=rx.str;obtain ⟨u,rfl⟩:=ry.str
    exact SB.add (fun t' k=>PostV.nowTok ok .ofStr q) (Nat.le_trans hz sizeLine_cap)
  · obtain ⟨rfl,hz,rfl⟩:=h
    obtain ⟨a,items,rfl,sa,za,ra⟩:=rx.lst
    obtain ⟨b,items2,rfl,sb,zb,rb⟩:=ry.lst
    obtain ⟨⟨_,dd,_,sl⟩,ho,rfl,n,rfl⟩:=sa.isList
    obtain ⟨⟨_,dd2,_,sl2⟩,ho2,rfl,n2,rfl⟩:=sb.isList
    have hlen:items.toList.length+items2.toList.length≤sizeLine:=by
      rw [ra.length,rb.length];exact Nat.le_trans hz sizeLine_cap
    have:=PostV.seq (t:=s.toks) (Q:=Q) ok (ra.append rb) (by rw [List.length_append]; exact hlen) _ "list" (Or.inr ⟨rfl,rfl⟩) q
    rw [show (items.toList++items2.toList).toArray=items++items2 from by rw [← Array.toList_inj,Array.toList_append]] at this
    exact concat_meets ⟨_,ho,rfl⟩ ⟨_,ho2,rfl⟩ noFill_list_add seq_list_add PySem.F.slot_list_add PySem.F.entry_list_add (PySem.F.args_list_add_2 _ _) (list_addW a b items items2 n n2 dd dd2 sl sl2 hlen) ⟨ho,ho2,this⟩
end LY.Internal
end

section
open PySem PySem.W PySem.Calls PyProof.Rows PySem.SeqAt
namespace LY.Internal
variable {W:Wd} {f:Fm} {c c':Cf} {m:Lo} {h h':Heap} {H H':Hp} {s s':Shared} {A:Around} {E:Value→Shared→Prop} {n:Nat}
theorem ints_eq:∀ {l:List AV} {u:List Int},intsOf l=some u→l=u.map .int
  | [],_,e=>Option.some.inj e▸rfl
  | v::l,u,e=>by
    cases v with
    | int i =>
      obtain ⟨u',e',rfl⟩:=Option.map_eq_some_iff.mp e
      exact congrArg (AV.int i::·) (ints_eq e')
    | _=>exact nope' e
theorem strs_eq:∀ {l:List AV} {u:List Str},strsOf l=some u→l=u.map .str
  | [],_,e=>Option.some.inj e▸rfl
  | v::l,u,e=>by
    cases v with
    | str i =>
      obtain ⟨u',e',rfl⟩:=Option.map_eq_some_iff.mp e
      exact congrArg (AV.str i::·) (strs_eq e')
    | _=>exact nope' e
theorem bools_eq {x:Bool}:∀ {l:List AV} {z:Bool},boolIn x l=some z→∃ u:List Bool,l=u.map .bool∧z=decide (x∈u)
  | [],_,e=>⟨[],rfl,(Option.some.inj e).symm⟩
  | v::l,z,e=>by
    cases v with
    | bool c =>
      obtain ⟨z',e',rfl⟩:=Option.map_eq_some_iff.mp e
      obtain ⟨u,rfl,rfl⟩:=bools_eq e'
      exact ⟨c::u,rfl,by rw [Bool.eq_iff_iff,Bool.or_eq_true,decide_eq_true_iff,decide_eq_true_iff,List.mem_cons,beq_iff_eq]⟩
    | _=>exact nope' e
variable {α:Type} [DecidableEq α] {em:α→AV}
theorem rep_at {u:List α} {items:Array Value} (r:VReps W c h (u.map em) items.toList) {j:Nat} (hj:j<items.size):∃ i,u[j]? = some i∧VRep W c h (em i) items[j]:=by
  have hl:=r.length
  rw [List.length_map,Array.length_toList] at hl
  have hu:j<u.length:=hl▸hj
  obtain ⟨V,hV,rV⟩:=r.get (i:=j) (v:=em u[j]) (by rw [List.getElem?_map,List.getElem?_eq_getElem hu];rfl)
  rw [Array.getElem?_toList,Array.getElem?_eq_getElem hj] at hV
  exact ⟨u[j],List.getElem?_eq_getElem hu,Option.some.inj hV▸rV⟩
theorem mem_rep:∀ {u:List α} {Vs:List Value},VReps W c h (u.map em) Vs→∀ V∈Vs,∃ i,VRep W c h (em i) V
  | [],_,r,V,hV=>by rw [r.nil_inv] at hV;exact nomatch hV
  | i::u,_,r,V,hV=>by
    obtain ⟨V',Vs',rfl,p,q⟩:=r.cons_inv
    exact (List.mem_cons.mp hV).elim (fun e=>⟨i,e▸p⟩) (mem_rep q V)
theorem any_rep {g:Value→Bool} {x:α} (hg:∀ i V,VRep W c h (em i) V→g V=decide (i=x)):∀ {u:List α} {Vs:List Value},VReps W c h (u.map em) Vs→Vs.any g=decide (x∈u)
  | [],_,r=>by rw [r.nil_inv];rfl
  | i::u,_,r=>by
    obtain ⟨V',Vs',rfl,p,q⟩:=r.cons_inv
    rw [List.any_cons,hg i V' p,any_rep hg q,Bool.eq_iff_iff,Bool.or_eq_true,decide_eq_true_iff,decide_eq_true_iff,decide_eq_true_iff,List.mem_cons]
    exact or_congr eq_comm Iff.rfl
theorem all_range_eq {u v:List α} {k:Nat} (hu:u.length=k) (hv:v.length=k):((List.range k).all fun j=>decide (u[j]? = v[j]?))=decide (u=v):=by
  rw [Bool.eq_iff_iff,List.all_eq_true,decide_eq_true_iff]
  refine ⟨fun hh=>List.ext_getElem? fun j=>?_,fun e j _=>decide_eq_true (e▸rfl)⟩
  by_cases hj:j<k
  · exact of_decide_eq_true (hh j (List.mem_range.mpr hj))
  · rw [List.getElem?_eq_none (hu▸Nat.le_of_not_lt hj),List.getElem?_eq_none (hv▸Nat.le_of_not_lt hj)]
theorem lst_some {z:List AV} {P:AO→Prop} {o:Option AO} (e:(match o with | some (.list l)=>some l | _=>none)=some z) (k:o=some (.list z)→P (.list z)):∃ q,o=some q∧P q:=by
  cases o with
  | none=>exact nope' e
  | some o=>cases o with
    | list l'=>exact Option.some.inj e▸⟨_,rfl,k (Option.some.inj e▸rfl)⟩
    | _=>exact nope' e
theorem list_ref {z:List AV} {o:Option AO} (e:(match o with | some (.list l)=>some l | _=>none)=some z):o=some (.list z):=by
  obtain ⟨q,h,rfl⟩:=lst_some (P:=fun q=>q=.list z) e fun _=>rfl
  exact h
theorem seq_some {x:AV} {l:List AV} {P:AV→Prop} (e:seqOf H x=some l) (h1:P (.tup l)) (h2:P (.lst l)) (h3:∀ k,H k=some (.list l)→P (.ref k)):P x:=by
  cases x with
  | tup l'=>cases e;exact h1
  | lst l'=>cases e;exact h2
  | ref k=>exact h3 k (list_ref e)
  | _=>exact nope' e
theorem list_some {x:AV} {l:List AV} {P:AV→Prop} (e:listOf H x=some l) (h2:P (.lst l)) (h3:∀ k,H k=some (.list l)→P (.ref k)):P x:=by
  cases x with
  | lst l'=>cases e;exact h2
  | ref k=>exact h3 k (list_ref e)
  | _=>exact nope' e
theorem listOf_rep {x:AV} {X:Value} {l:List AV} (ok:Ok W c H h) (r:VRep W c h x X) (e:listOf H x=some l) :
    ∃ a items,X=.ref a∧h.IsList a items∧items.size≤sizeLine∧VReps W c h l items.toList:=by
  revert r
  refine list_some (P:=fun x=>VRep W c h x X→_) e (fun r=>?_) fun k hk r=>?_
  · obtain ⟨a,items,e1,sq,z,q⟩:=r.lst
    exact ⟨a,items,e1,sq.isList,z,q⟩
  · obtain ⟨a,e1,e2⟩:=r.ref
    obtain ⟨b,e3,items,p,z,q⟩:=ok.obj k _ hk
    exact ⟨b,items,e2.trans (congrArg Value.ref (Option.some.inj (e1.symm.trans e3))),p.isList,z,q⟩
theorem eqL_some {x y:AV} {z:Bool} {P:List AV→List AV→Bool→Prop} (e:eqL H x y=some z) (hn:∀ l l',listOf H x=some l→listOf H y=some l'→l.length≠l'.length→P l l' false)
    (hi:∀ u v:List Int,listOf H x=some (u.map .int)→listOf H y=some (v.map .int)→u.length=v.length→P (u.map .int) (v.map .int) (decide (u=v)))
    (hs:∀ u v:List Str,listOf H x=some (u.map .str)→listOf H y=some (v.map .str)→u.length=v.length→P (u.map .str) (v.map .str) (decide (u=v))) :
    ∃ l l',listOf H x=some l∧listOf H y=some l'∧P l l' z:=by
  unfold eqL at e
  revert e hn hi hs
  cases listOf H x with
  | none=>exact fun e=>nope' e
  | some l=>cases listOf H y with
    | none=>exact fun e=>nope' e
    | some l' =>
      intro e hn hi hs
      refine ⟨l,l',rfl,rfl,?_⟩
      by_cases hl:l.length≠l'.length
      · exact Option.some.inj ((if_pos hl).symm.trans e)▸hn l l' rfl rfl hl
      · have e:=(if_neg hl).symm.trans e
        have hl:=Decidable.not_not.mp hl
        have sc:(match strsOf l,strsOf l' with | some u,some v=>some (decide (u=v)) | _,_=>none)=some z→P l l' z:=fun e2=>by
          cases h1:strsOf l with
          | none=>rw [h1] at e2;exact nope' e2
          | some u=>cases h2:strsOf l' with
            | none=>rw [h1,h2] at e2;exact nope' e2
            | some v =>
              rw [h1,h2] at e2
              obtain rfl:=strs_eq h1
              obtain rfl:=strs_eq h2
              exact Option.some.inj e2▸hs u v rfl rfl ((List.length_map _).symm.trans (hl.trans (List.length_map _)))
        cases h1:intsOf l with
        | none=>rw [h1] at e;exact sc e
        | some u=>cases h2:intsOf l' with
          | none=>rw [h1,h2] at e;exact sc e
          | some v =>
            rw [h1,h2] at e
            obtain rfl:=ints_eq h1
            obtain rfl:=ints_eq h2
            exact Option.some.inj e▸hi u v rfl rfl ((List.length_map _).symm.trans (hl.trans (List.length_map _)))
theorem eq_homog {u v:List α} {a b:Addr} {items items2:Array Value} (hu:A.units+1<cLine) (ha:s.heap.IsList a items) (hb:s.heap.IsList b items2) (ra:VReps W c h (u.map em) items.toList) (rb:VReps W c h (v.map em) items2.toList) (hl:u.length=v.length)
    (he:∀ i j X Y,VRep W c h (em i) X→VRep W c h (em j) Y→EqAt A.in1 s X Y (decide (i=j))):RcAt A s (.ref a) (.ref b) (decide (u=v))∧RcNeAt A s (.ref a) (.ref b) (!decide (u=v)):=by
  have la:=ra.length
  have lb:=rb.length
  rw [List.length_map,Array.length_toList] at la lb
  have hs:items.size=items2.size:=la.trans (hl.trans lb.symm)
  have he:∀ j (p:j<items.size) (q:j<items2.size),EqAt A.in1 s items[j] items2[j] (decide (u[j]? = v[j]?)):=by
    intro j p q
    obtain ⟨i,a1,a2⟩:=rep_at ra p
    obtain ⟨i',b1,b2⟩:=rep_at rb q
    rw [a1,b1]
    have:=he i i' _ _ a2 b2
    rwa [show decide (i=i')=decide (some i=some i') from decide_eq_decide.mpr ⟨congrArg some,Option.some.inj⟩] at this
  rw [← all_range_eq (k:=items.size) la.symm (lb.symm.trans hs.symm)]
  exact ⟨RcAt.lists ha hb hs (Nat.lt_of_succ_lt hu) he,RcNeAt.lists ha hb hs (Nat.lt_of_succ_lt hu) he⟩
theorem eq_lists {x y:AV} {X Y:Value} {z:Bool} (ok:Ok W c H s.heap) (hu:A.units+1<cLine) (rx:VRep W c s.heap x X) (ry:VRep W c s.heap y Y) (e:eqL H x y=some z):RcAt A s X Y z∧RcNeAt A s X Y (!z):=by
  obtain ⟨l,l',el,el',k⟩:=eqL_some (P:=fun l l' z=>∀ {a b:Addr} {items items2:Array Value},s.heap.IsList a items→s.heap.IsList b items2→VReps W c s.heap l items.toList→VReps W c s.heap l' items2.toList→RcAt A s (.ref a) (.ref b) z∧RcNeAt A s (.ref a) (.ref b) (!z)) e
    (fun l l' _ _ hne a b items items2 ha hb ra rb=>by
      have la:=ra.length
      have lb:=rb.length
      rw [Array.length_toList] at la lb
      have hs:(items.size != items2.size)=true:=bne_iff_ne.mpr (la▸lb▸hne)
      exact ⟨RcAt.lists_lengths ha hb hs (Nat.lt_of_succ_lt hu),RcNeAt.lists_lengths ha hb hs (Nat.lt_of_succ_lt hu)⟩)
    (fun u v _ _ hl a b items items2 ha hb ra rb=>eq_homog hu ha hb ra rb hl fun i j X Y p q=>by
      obtain ⟨t,rfl⟩:=p.int;obtain ⟨t',rfl⟩:=q.int
      exact Bool.beq_eq_decide_eq i j▸EqAt.int_int i t j t')
    (fun u v _ _ hl a b items items2 ha hb ra rb=>eq_homog hu ha hb ra rb hl fun i j X Y p q=>by
      obtain ⟨t,rfl⟩:=p.str;obtain ⟨t',rfl⟩:=q.str
      exact Bool.beq_eq_decide_eq i j▸EqAt.str_str i t j t')
  obtain ⟨a,items,rfl,ha,za,ra⟩:=listOf_rep ok rx el
  obtain ⟨b,items2,rfl,hb,zb,rb⟩:=listOf_rep ok ry el'
  exact k ha hb ra rb
theorem reps2 {x y:AV} {items:Array Value} (r:VReps W c h [x,y] items.toList):∃ X Y,items=#[X,Y]∧VRep W c h x X∧VRep W c h y Y:=by
  obtain ⟨X,Vs,e,p,q⟩:=r.cons_inv
  obtain ⟨Y,Vs',rfl,p',q'⟩:=q.cons_inv
  rw [q'.nil_inv] at e
  exact ⟨X,Y,by rw [← Array.toList_inj,e],p,p'⟩
theorem pair_of {l:List AV} {p:Str × AV} (e:pairOf l=some p):l=[.str p.1,p.2] :=
  match l,e with
  | [a,x],e=>by
    cases a with
    | str a=>exact Option.some.inj e▸rfl
    | _=>exact nope' e
  | [],e=>nope' e
  | [_],e=>nope' e
  | _::_::_::_,e=>nope' e
theorem eq_pairs {a b:Str} {t1 t2:Tok} {l1 l2:Addr} {X1 Y1:Value} {z k:Bool} (hu:A.units+2<cLine) (sa:s.heap.IsTuple l1 #[.str a t1,X1]) (sb:s.heap.IsTuple l2 #[.str b t2,Y1]) (hk:EqAt A.in1 s X1 Y1 k) (hz:z=(decide (a=b) && k)) :
    RcAt A s (.ref l1) (.ref l2) z∧RcNeAt A s (.ref l1) (.ref l2) (!z):=by
  have he:∀ j (p:j<(#[Value.str a t1,X1]:Array Value).size) (q:j<(#[Value.str b t2,Y1]:Array Value).size),
      EqAt A.in1 s (#[Value.str a t1,X1]:Array Value)[j] (#[Value.str b t2,Y1]:Array Value)[j] (if j=0 then decide (a=b) else k):=fun j p q =>
    match j,p,q with
    | 0,_,_=>Bool.beq_eq_decide_eq a b▸EqAt.str_str (A:=A.in1) (s:=s) a t1 b t2
    | 1,_,_=>hk
  have hz':z=((List.range (min 2 2)).all (fun j=>if j=0 then decide (a=b) else k) && (2 == 2)):=by
    rw [hz];cases decide (a=b) <;> cases k <;> rfl
  rw [hz']
  exact ⟨RcAt.tuples sa sb (by omega) he,RcNeAt.tuples sa sb (by omega) he⟩
theorem ends_some {k z:Bool} {x y:AV} {P:AV→AV→Bool→Prop} (e:endsEq k x y=some z) (hs:∀ a b:Str,P (.str a) (.str b) (k && decide (a=b))) (ht:∀ l b,P (.tup l) (.str b) false):P x y z:=by
  cases y with
  | str y=>cases x with
    | str x=>exact Option.some.inj e▸hs x y
    | tup l=>exact Option.some.inj e▸ht l y
    | _=>exact nope' e
  | _=>exact nope' e
theorem eq_some {x y:AV} {z:Bool} {P:AV→AV→Bool→Prop} (e:eqAV H x y=some z) (hi:∀ a b:Int,P (.int a) (.int b) (decide (a=b))) (hs:∀ a b:Str,P (.str a) (.str b) (decide (a=b))) (hb:∀ a b:Bool,P (.bool a) (.bool b) (decide (a=b)))
    (hp:∀ a b u v z,endsEq (decide (a=b)) u v=some z→P (.tup [.str a,u]) (.tup [.str b,v]) z) (hl:∀ x y,eqL H x y=some z→P x y z):P x y z:=by
  cases x with
  | int a=>cases y with
    | int b=>exact Option.some.inj e▸hi a b
    | _=>exact nope' e
  | str a=>cases y with
    | str b=>exact Option.some.inj e▸hs a b
    | _=>exact nope' e
  | bool a=>cases y with
    | bool b=>exact Option.some.inj e▸hb a b
    | _=>exact nope' e
  | tup l=>cases y with
    | tup l' =>
      obtain ⟨⟨a,x⟩,hp1,e⟩:=Option.bind_eq_some_iff.mp e
      obtain ⟨⟨b,y⟩,hp2,e⟩:=Option.bind_eq_some_iff.mp e
      exact pair_of hp1▸pair_of hp2▸hp a b x y z e
    | _=>exact nope' e
  | _=>exact hl _ _ e
theorem eq_ok {x y:AV} {X Y:Value} {z:Bool} (ok:Ok W c H s.heap) (hu:A.units+2<cLine) (rx:VRep W c s.heap x X) (ry:VRep W c s.heap y Y) (e:eqAV H x y=some z) :
    RcAt A s X Y z∧RcNeAt A s X Y (!z):=by
  refine eq_some (P:=fun x y z=>VRep W c s.heap x X→VRep W c s.heap y Y→RcAt A s X Y z∧RcNeAt A s X Y (!z)) e (fun a b rx ry=>?_) (fun a b rx ry=>?_) (fun a b rx ry=>?_) (fun a b u v z e rx ry=>?_) (fun x y e rx ry=>eq_lists ok (Nat.lt_of_succ_lt hu) rx ry e) rx ry
  · obtain ⟨t,rfl⟩:=rx.int;obtain ⟨u,rfl⟩:=ry.int
    exact Bool.beq_eq_decide_eq a b▸⟨RcAt.int_int _ _ _ _,RcNeAt.int_int _ _ _ _⟩
  · obtain ⟨t,rfl⟩:=rx.str;obtain ⟨u,rfl⟩:=ry.str
    exact Bool.beq_eq_decide_eq a b▸⟨RcAt.str_str _ _ _ _,RcNeAt.str_str _ _ _ _⟩
  · rw [rx.bool,ry.bool]
    exact Bool.beq_eq_decide_eq a b▸⟨RcAt.bool_bool _ _,RcNeAt.bool_bool _ _⟩
  · obtain ⟨l1,items,rfl,sa,za,ra⟩:=rx.tup
    obtain ⟨l2,items2,rfl,sb,zb,rb⟩:=ry.tup
    obtain ⟨A1,X1,rfl,pa,px⟩:=reps2 ra
    obtain ⟨B1,Y1,rfl,pb,py⟩:=reps2 rb
    obtain ⟨t1,rfl⟩:=pa.str
    obtain ⟨t2,rfl⟩:=pb.str
    refine ends_some (P:=fun u v z=>VRep W c s.heap u X1→VRep W c s.heap v Y1→RcAt A s (.ref l1) (.ref l2) z∧RcNeAt A s (.ref l1) (.ref l2) (!z)) e (fun x y px py=>?_) (fun l y px py=>?_) px py
    · obtain ⟨t3,rfl⟩:=py.str
      obtain ⟨t4,rfl⟩:=px.str
      exact eq_pairs hu sa.isTuple sb.isTuple (EqAt.str_str _ _ _ _) (by rw [Bool.beq_eq_decide_eq])
    · obtain ⟨t3,rfl⟩:=py.str
      obtain ⟨l3,items3,rfl,s3,z3,r3⟩:=px.tup
      exact eq_pairs hu sa.isTuple sb.isTuple (EqAt.tuple_str y t3 s3.isTuple (Nat.lt_of_succ_lt hu)) (Bool.and_false _).symm
theorem valueAt_isSome {κ:Type} [DecidableEq κ] (kvs:List (κ × Value)) (k:κ):(valueAt kvs k).isSome=decide (k∈kvs.map (·.1)):=by
  unfold valueAt
  rw [Option.isSome_map,Bool.eq_iff_iff,List.find?_isSome,decide_eq_true_eq,List.mem_map]
  constructor
  · rintro ⟨x,hx,e⟩;exact ⟨x,hx,of_decide_eq_true e⟩
  · rintro ⟨x,hx,e⟩;exact ⟨x,hx,decide_eq_true e⟩
theorem dictS_rep {k:Nat} {l:List (Str × AV)} (ok:Ok W c H h) (hk:H k=some (.dS l)) :
    ∃ a kvs,c.σ[k]? = some a∧(a == sysModules)=false∧h.DictOf (PySem.strKind W.prog W.w) a kvs∧kvs.length≤sizeLine∧kvs.map (·.1)=l.map (·.1)∧VReps W c h (l.map (·.2)) (kvs.map (·.2)):=by
  obtain ⟨a,e,kvs,r⟩:=ok.obj k _ hk
  exact ⟨a,kvs,e,ok.low a (mem_of_get e),r⟩
theorem dictI_rep {k:Nat} {l:List (Int × AV)} (ok:Ok W c H h) (hk:H k=some (.dI l)) :
    ∃ a kvs,c.σ[k]? = some a∧(a == sysModules)=false∧h.DictOf (PySem.intKind W.prog W.w) a kvs∧kvs.length≤sizeLine∧kvs.map (·.1)=l.map (·.1)∧VReps W c h (l.map (·.2)) (kvs.map (·.2)):=by
  obtain ⟨a,e,kvs,r⟩:=ok.obj k _ hk
  exact ⟨a,kvs,e,ok.low a (mem_of_get e),r⟩
theorem mem_array {V:Value} {items:Array Value} (h:V∈items):V∈items.toList:=Array.mem_toList_iff.mpr h
theorem in_some {x y:AV} {z:Bool} {P:AV→AV→Bool→Prop} (e:inAV H x y=some z) (h1:∀ s k l,H k=some (.dS l)→P (.str s) (.ref k) (decide (s∈l.map (·.1)))) (h2:∀ i k l,H k=some (.dI l)→P (.int i) (.ref k) (decide (i∈l.map (·.1))))
    (h3:∀ s (u:List Str),P (.str s) (.tup (u.map .str)) (decide (s∈u))) (h4:∀ i (u:List Int),P (.int i) (.lst (u.map .int)) (decide (i∈u))) (h5:∀ b (u:List Bool),P (.bool b) (.lst (u.map .bool)) (decide (b∈u))):P x y z:=by
  cases x with
  | str x=>cases y with
    | ref k =>
      have e:(match H k with | some (.dS l)=>some (decide (x∈l.map (·.1))) | _=>Option.none)=some z:=e
      cases hk:H k with
      | none=>rw [hk] at e;exact nope' e
      | some o=>rw [hk] at e;cases o with
        | dS l=>exact Option.some.inj e▸h1 x k l hk
        | _=>exact nope' e
    | tup l =>
      have e:(match strsOf l with | some u=>some (decide (x∈u)) | _=>Option.none)=some z:=e
      cases hu:strsOf l with
      | none=>rw [hu] at e;exact nope' e
      | some u=>rw [hu] at e;exact Option.some.inj e▸strs_eq hu▸h3 x u
    | _=>exact nope' e
  | int x=>cases y with
    | ref k =>
      have e:(match H k with | some (.dI l)=>some (decide (x∈l.map (·.1))) | _=>Option.none)=some z:=e
      cases hk:H k with
      | none=>rw [hk] at e;exact nope' e
      | some o=>rw [hk] at e;cases o with
        | dI l=>exact Option.some.inj e▸h2 x k l hk
        | _=>exact nope' e
    | lst l =>
      have e:(match intsOf l with | some u=>some (decide (x∈u)) | _=>Option.none)=some z:=e
      cases hu:intsOf l with
      | none=>rw [hu] at e;exact nope' e
      | some u=>rw [hu] at e;exact Option.some.inj e▸ints_eq hu▸h4 x u
    | _=>exact nope' e
  | bool x=>cases y with
    | lst l =>
      obtain ⟨u,rfl,rfl⟩:=bools_eq e
      exact h5 x u
    | _=>exact nope' e
  | _=>exact nope' e
noncomputable def isI (x:Int):Value→Bool | .int i _=>i == x | _=>false
noncomputable def isS (x:Str):Value→Bool | .str i _=>i == x | _=>false
noncomputable def isB (x:Bool):Value→Bool | .bool i=>i == x | _=>false
noncomputable def InOk (W:Wd) (A:Around) (E:Value→Shared→Prop) (s:Shared) (T:Value→Shared→Prop) (X Y:Value) (z:Bool):Prop :=
  ((∀ t,T (.bool z) { s with toks:=t })→wpAny W.M A (compareOp .In X Y) T E s)∧((∀ t,T (.bool (!z)) { s with toks:=t })→wpAny W.M A (compareOp .NotIn X Y) T E s)
theorem in_seq {a:Addr} {X:Value} {items:Array Value} {u:List α} {x:α} {g:Value→Bool} {T:Value→Shared→Prop} (r:VReps W c s.heap (u.map em) items.toList) (hg:∀ i V,VRep W c s.heap (em i) V→g V=decide (i=x)∧EqAt A.in1 s V X (g V))
    (k:(∀ y,y∈items→EqAt A.in1 s y X (g y))→InOk W A E s T X (.ref a) (items.any g)):InOk W A E s T X (.ref a) (decide (x∈u)):=by
  rw [← any_rep (fun i V p=>(hg i V p).1) r,Array.any_toList]
  exact k fun y hy=>by obtain ⟨i,p⟩:=mem_rep r y (mem_array hy);exact (hg i y p).2
theorem in_dct {X:Value} {a:Addr} {kd:PySem.KeyKind W.prog W.w α} {kvs:List (α × Value)} {l:List (α × AV)} {x:α} {T:Value→Shared→Prop} (hk:kd.is x X=true) (low:(a == sysModules)=false) (hd:s.heap.DictOf kd a kvs) (hkeys:kvs.map (·.1)=l.map (·.1)):InOk W A E s T X (.ref a) (decide (x∈l.map (·.1))):=by
  rw [← hkeys,← valueAt_isSome]
  exact ⟨fun q=>wpAny_in_of hk low hd.mapOf (q _),fun q=>wpAny_notIn_of hk low hd.mapOf (q _)⟩
theorem in_ok {x y:AV} {X Y:Value} {z:Bool} (ok:Ok W c H s.heap) (rx:VRep W c s.heap x X) (ry:VRep W c s.heap y Y) (e:inAV H x y=some z) {T:Value→Shared→Prop}:InOk W A E s T X Y z:=by
  refine in_some (P:=fun x y z=>VRep W c s.heap x X→VRep W c s.heap y Y→InOk W A E s T X Y z) e
    (fun x k l hk rx ry=>?_) (fun x k l hk rx ry=>?_) (fun x u rx ry=>?_) (fun x u rx ry=>?_) (fun x u rx ry=>?_) rx ry
  · obtain ⟨t,rfl⟩:=rx.str
    obtain ⟨a,e1,rfl⟩:=ry.ref
    obtain ⟨b,kvs,e2,low,hd,hz,hkeys,hv⟩:=dictS_rep ok hk
    obtain rfl:a=b:=Option.some.inj (e1.symm.trans e2)
    exact in_dct (strKind_is _ _ x t) low hd hkeys
  · obtain ⟨t,rfl⟩:=rx.int
    obtain ⟨a,e1,rfl⟩:=ry.ref
    obtain ⟨b,kvs,e2,low,hd,hz,hkeys,hv⟩:=dictI_rep ok hk
    obtain rfl:a=b:=Option.some.inj (e1.symm.trans e2)
    exact in_dct (intKind_is _ _ x t) low hd hkeys
  · obtain ⟨t,rfl⟩:=rx.str
    obtain ⟨a,items,rfl,sq,hz,r⟩:=ry.tup
    exact in_seq (g:=isS x) r (fun i V p=>by obtain ⟨t',rfl⟩:=p.str;exact ⟨Bool.beq_eq_decide_eq i x,EqAt.str_str _ _ _ _⟩) fun he=>⟨fun q=>in_tupleAt _ sq.isTuple he (q _),fun q=>notIn_tupleAt _ sq.isTuple he (q _)⟩
  · obtain ⟨t,rfl⟩:=rx.int
    obtain ⟨a,items,rfl,sq,hz,r⟩:=ry.lst
    exact in_seq (g:=isI x) r (fun i V p=>by obtain ⟨t',rfl⟩:=p.int;exact ⟨Bool.beq_eq_decide_eq i x,EqAt.int_int _ _ _ _⟩) fun he=>⟨fun q=>in_listAt _ sq.isList he (q _),fun q=>notIn_listAt _ sq.isList he (q _)⟩
  · obtain rfl:=rx.bool
    obtain ⟨a,items,rfl,sq,hz,r⟩:=ry.lst
    exact in_seq (g:=isB x) r (fun i V p=>by obtain rfl:=p.bool;exact ⟨Bool.beq_eq_decide_eq i x,EqAt.bool_bool _ _⟩) fun he=>⟨fun q=>in_listAt _ sq.isList he (q _),fun q=>notIn_listAt _ sq.isList he (q _)⟩
noncomputable def cmpOf:COp→CmpOp | .eq=>.Eq | .ne=>.NotEq | .lt=>.Lt | .le=>.LtE | .gt=>.Gt | .ge=>.GtE | .isin=>.In | .notin=>.NotIn
theorem int2_some {g:Int→Int→Option Bool} {x y:AV} {z:Bool} (e:(match x,y with | .int a,.int b=>g a b | _,_=>Option.none)=some z):∃ a b,x=.int a∧y=.int b∧g a b=some z:=by
  cases x with
  | int a=>cases y with
    | int b=>exact ⟨a,b,rfl,rfl,e⟩
    | _=>exact nope' e
  | _=>exact nope' e
theorem cmp_ok {o:COp} {x y:AV} {X Y:Value} {z:Bool} (ok:Ok W c H s.heap) (hu:A.units+2<cLine) (rx:VRep W c s.heap x X) (ry:VRep W c s.heap y Y) (e:cmpAV H o x y=some z) {T:Value→Shared→Prop}
    (q:∀ t,T (.bool z) { s with toks:=t }):wpAny W.M A (compareOp (cmpOf o) X Y) T E s:=by
  have two:∀ {g:Int→Int→Option Bool},(match (generalizing:=false) x,y with | .int a,.int b=>g a b | _,_=>Option.none)=some z→∃ a t b u,X=.int a t∧Y=.int b u∧g a b=some z:=fun e=>by
    obtain ⟨a,b,rfl,rfl,e⟩:=int2_some e
    obtain ⟨t,rfl⟩:=rx.int;obtain ⟨u,rfl⟩:=ry.int
    exact ⟨a,t,b,u,rfl,rfl,e⟩
  cases o with
  | eq=>exact (eq_ok ok hu rx ry e).1 _ _ _ _ (q s.toks)
  | ne =>
    obtain ⟨z',e',rfl⟩:=Option.map_eq_some_iff.mp e
    exact (eq_ok ok hu rx ry e').2 _ _ _ _ (q s.toks)
  | isin=>exact (in_ok ok rx ry e).1 q
  | notin =>
    obtain ⟨z',e',rfl⟩:=Option.map_eq_some_iff.mp e
    exact (in_ok ok rx ry e').2 q
  | lt=>obtain ⟨a,t,b,u,rfl,rfl,e⟩:=two (g:=fun a b=>some (decide (a<b))) e;exact P.lt_int (Option.some.inj e▸q s.toks)
  | le=>obtain ⟨a,t,b,u,rfl,rfl,e⟩:=two (g:=fun a b=>some (decide (a≤b))) e;exact P.le_int (Option.some.inj e▸q s.toks)
  | gt=>obtain ⟨a,t,b,u,rfl,rfl,e⟩:=two (g:=fun a b=>some (decide (a > b))) e;exact P.gt_int (Option.some.inj e▸q s.toks)
  | ge=>obtain ⟨a,t,b,u,rfl,rfl,e⟩:=two (g:=fun a b=>some (decide (a ≥ b))) e;exact P.ge_int (Option.some.inj e▸q s.toks)
theorem spot_bounds {n:Nat} {i:Int} {j:Nat} (e:spotOf n i=some j):(0≤i∧j=i.toNat∧i<n)∨(i<0∧0≤i+n∧j=(i+n).toNat):=by
  unfold spotOf at e
  by_cases h0:0≤i
  · have e:=(if_pos h0).symm.trans e
    by_cases h1:i<n
    · exact Or.inl ⟨h0,(Option.some.inj ((if_pos h1).symm.trans e)).symm,h1⟩
    · exact nope' ((if_neg h1).symm.trans e)
  · have e:=(if_neg h0).symm.trans e
    by_cases h1:0≤i+n
    · exact Or.inr ⟨Int.lt_of_not_ge h0,h1,(Option.some.inj ((if_pos h1).symm.trans e)).symm⟩
    · exact nope' ((if_neg h1).symm.trans e)
theorem spot_seq {n:Nat} {i:Int} {j:Nat} (e:spotOf n i=some j):seqIndex? i n=some j∧j<n:=by
  unfold seqIndex?
  rcases spot_bounds e with ⟨h0,rfl,h1⟩ | ⟨h0,h1,rfl⟩
  · rw [if_neg (Int.not_lt.mpr h0)]
    exact ⟨if_pos (by rw [Bool.and_eq_true];exact ⟨decide_eq_true h0,decide_eq_true h1⟩),by omega⟩
  · rw [if_pos h0]
    exact ⟨if_pos (by rw [Bool.and_eq_true];exact ⟨decide_eq_true h1,decide_eq_true (by omega)⟩),by omega⟩
theorem getItem_list_at {a:Addr} {items:Array Value} {i:Int} {t:Tok} {j:Nat} {x:Value} {T:Value→Shared→Prop} (hl:s.heap.IsList a items) (hz:items.size≤sizeLine) (e:spotOf items.size i=some j)
    (hx:items[j]? = some x) (q:T x s):wpAny W.M A (getItem (.ref a) (.int i t)) T E s:=by
  rw [sizeLine_eq] at hz
  rcases spot_bounds e with ⟨h0,rfl,h1⟩ | ⟨h0,h1,rfl⟩
  · exact wpAny_getItem_list hl h0 (by omega) hx q
  · exact wpAny_getItem_list_neg hl h0 (by omega) (by omega) hx q
theorem getK_eq {κ:Type} [DecidableEq κ]:∀ {l:List (κ × AV)} {kvs:List (κ × Value)} {k:κ} {v:AV},kvs.map (·.1)=l.map (·.1)→VReps W c h (l.map (·.2)) (kvs.map (·.2))→getK l k=some v →
    ∃ V,valueAt kvs k=some V∧VRep W c h v V
  | [],_,_,_,_,_,e=>nope' e
  | _::_,[],_,_,hk,_,_=>nomatch hk
  | p1::l,p2::kvs,k,v,hk,r,e=>by
    obtain ⟨k',v'⟩:=p1
    obtain ⟨k2,V'⟩:=p2
    obtain ⟨V,Vs,e1,p,q⟩:=VReps.cons_inv r
    obtain ⟨rfl,rfl⟩:V'=V∧kvs.map (·.2)=Vs:=List.cons.inj e1
    obtain ⟨rfl,hk'⟩:k2=k'∧kvs.map (·.1)=l.map (·.1):=List.cons.inj hk
    unfold valueAt
    rw [List.find?_cons]
    by_cases hkk:k=k2
    · refine ⟨V',?_,Option.some.inj ((if_pos hkk).symm.trans e)▸p⟩
      rw [decide_eq_true hkk.symm];rfl
    · rw [decide_eq_false (fun e'=>hkk e'.symm)]
      exact getK_eq hk' q ((if_neg hkk).symm.trans e)
theorem sub_some {x y z:AV} {P:AV→AV→Prop} (e:subAV H x y=some z) (h1:∀ s i j ch,s.length≤cap→spotOf s.length i=some j→s.cps[j]? = some ch→z=.str ⟨#[ch]⟩→P (.str s) (.int i))
    (h2:∀ x i l j,seqOf H x=some l→spotOf l.length i=some j→l[j]? = some z→P x (.int i)) (h3:∀ k y l,H k=some (.dS l)→getK l y=some z→P (.ref k) (.str y)):P x y:=by
  have seq:∀ x i,(match seqOf H x with | some l=>(match spotOf l.length i with | some j=>l[j]? | _=>none) | _=>none)=some z→P x (.int i):=fun x i e=>by
    cases hl:seqOf H x with
    | none=>rw [hl] at e;exact nope' e
    | some l =>
      rw [hl] at e
      have e:(match spotOf l.length i with | some j=>l[j]? | _=>none)=some z:=e
      cases hj:spotOf l.length i with
      | none=>rw [hj] at e;exact nope' e
      | some j=>rw [hj] at e;exact h2 x i l j hl hj e
  cases y with
  | int i=>cases x with
    | str x =>
      by_cases hcap:x.length≤cap
      · have e:(match spotOf x.length i with | some j=>(x.cps[j]?).map fun c=>AV.str ⟨#[c]⟩ | _=>Option.none)=some z:=(if_pos hcap).symm.trans e
        cases hj:spotOf x.length i with
        | none=>rw [hj] at e;exact nope' e
        | some j =>
          rw [hj] at e
          obtain ⟨ch,hc,e⟩:=Option.map_eq_some_iff.mp e
          exact h1 x i j ch hcap hj hc e.symm
      · exact nope' ((if_neg hcap).symm.trans e)
    | _=>exact seq _ _ e
  | str y=>cases x with
    | ref k =>
      have e:(match H k with | some (.dS l)=>getK l y | _=>Option.none)=some z:=e
      cases hk:H k with
      | none=>rw [hk] at e;exact nope' e
      | some o=>rw [hk] at e;cases o with
        | dS l=>exact h3 k y l hk e
        | _=>exact nope' e
    | _=>exact nope' e
  | _=>exact nope' e
noncomputable def ItemOk (W:Wd) (A:Around) (E:Value→Shared→Prop) (s:Shared) (T:Value→Shared→Prop) (X Y:Value):Prop :=
  (∃ Ty id,s.TypeIs X Ty ∧ typeLookup (.type Ty) "__getitem__" = pure (some (.builtin id))) ∧ wpAny W.M A (getItem X Y) T E s
theorem item_list {a:Addr} {items:Array Value} {l:List AV} {z:AV} {i:Int} {t:Tok} {j:Nat} {T:Value→Shared→Prop} (hl:s.heap.IsList a items) (hsz:items.size≤sizeLine) (r:VReps W c s.heap l items.toList) (hj:spotOf l.length i=some j) (hz:l[j]? = some z)
    (q:∀ Z t,VRep W c s.heap z Z→T Z { s with toks:=t }):ItemOk W A E s T (.ref a) (.int i t):=by
  have hlen:=r.length
  rw [Array.length_toList] at hlen
  obtain ⟨V,hV,rV⟩:=r.get hz
  rw [Array.getElem?_toList] at hV
  exact ⟨⟨_,_,hl.typeIs,slot_list_getitem.lookup⟩,getItem_list_at hl hsz (hlen▸hj) hV (q V s.toks rV)⟩
theorem item_ok {x y z:AV} {X Y:Value} (ok:Ok W c H s.heap) (rx:VRep W c s.heap x X) (ry:VRep W c s.heap y Y) (e:subAV H x y=some z) {T:Value→Shared→Prop}
    (q:∀ Z t,VRep W c s.heap z Z→T Z { s with toks:=t }):ItemOk W A E s T X Y:=by
  refine sub_some (P:=fun x y=>VRep W c s.heap x X→VRep W c s.heap y Y→ItemOk W A E s T X Y) e (fun x i j ch hcap hj hc e rx ry=>?_) (fun x i l j hl hj hz rx ry=>?_) (fun k y l hk e rx ry=>?_) rx ry
  · obtain ⟨t,rfl⟩:=rx.str
    obtain ⟨u,rfl⟩:=ry.int
    subst e
    refine ⟨⟨_,_,typeIs_str s x t,PySem.F.slot_str_getitem.lookup⟩,?_⟩
    have hb:=spot_bounds hj
    have hc1:cap=1000000:=rfl
    refine P.getItem_str ?_ ?_ (q _ _ .ofStr)
    · rw [Bool.or_eq_false_iff,decide_eq_false_iff_not,decide_eq_false_iff_not];omega
    · rw [(spot_seq hj).1];exact hc
  · obtain ⟨t,rfl⟩:=ry.int
    refine seq_some (P:=fun x=>VRep W c s.heap x X→_) hl (fun rx=>?_) (fun rx=>?_) (fun k hk rx=>?_) rx
    · obtain ⟨a,items,rfl,sq,hsz,r⟩:=rx.tup
      have hlen:=r.length
      rw [Array.length_toList] at hlen
      obtain ⟨V,hV,rV⟩:=r.get hz
      rw [Array.getElem?_toList] at hV
      rw [sizeLine_eq] at hsz
      have hb:=spot_bounds hj
      exact ⟨⟨_,_,sq.isTup.typeIs,slot_tuple_getitem.lookup⟩,PyProof.Rows.getItem_tuple sq.isTup (by omega) (by omega) (by rw [hlen];exact (spot_seq hj).1) hV (q V s.toks rV)⟩
    · obtain ⟨a,items,rfl,sq,hsz,r⟩:=rx.lst
      exact item_list sq.isList hsz r hj hz q
    · obtain ⟨a,e1,rfl⟩:=rx.ref
      obtain ⟨b,e2,items,p,hsz,r⟩:=ok.obj k _ hk
      obtain rfl:a=b:=Option.some.inj (e1.symm.trans e2)
      exact item_list p.isList hsz r hj hz q
  · obtain ⟨t,rfl⟩:=ry.str
    obtain ⟨a,e1,rfl⟩:=rx.ref
    obtain ⟨b,kvs,e2,low,hd,hz,hkeys,hv⟩:=dictS_rep ok hk
    obtain rfl:a=b:=Option.some.inj (e1.symm.trans e2)
    obtain ⟨V,hV,rV⟩:=getK_eq hkeys hv e
    exact ⟨⟨_,_,hd.typeIs,slot_dict_getitem.lookup⟩,wpAny_getItem_of (strKind_is _ _ y t) hd.mapOf hV (q V _ rV)⟩
end LY.Internal
end

section
open PySem PySem.W PySem.Calls PyProof.Rows PySem.SeqAt
namespace LY.Internal
variable {W:Wd} {f:Fm} {c c':Cf} {m:Lo} {h h':Heap} {H H':Hp} {s s':Shared} {A:Around} {E:Value→Shared→Prop} {n:Nat} {C:CallP}
  {ma mb md:ME} {ea eb ed:Expr} {pos:Pos}
theorem te1 {Pa:Lo→Hp→QV→Prop} (ha:TeOk W n f Pa ea) (hr:Room n A) (ok:Ok W c H s.heap) (F:FOk W f c m s.heap) {R:QV} (p:Pa m H R) (hb:∀ v H',R v H'→∃ b,v=.bool b) {T:Bool→Shared→Prop}
    (t:∀ c1 H1 s1 b,Step NoF c s c1 s1→Ok W c1 H1 s1.heap→FOk W f c1 m s1.heap→R (.bool b) H1→T b s1):wpAny W.M A (isTrue ea f.env (eval ea f.env)) T E s:=by
  refine wpAny_mono (ha A E m c H s R hr ok F p hb) (fun V s1 h1=>?_) fun _ _ e=>e
  obtain ⟨c1,H1,x,st,ok1,r1,q⟩:=h1
  obtain ⟨b,rfl⟩:=hb _ _ q
  have e:=r1.bool
  cases e
  exact t c1 H1 s1 _ st ok1 (F.step ok st) q
theorem te_value {P:Lo→Hp→QV→Prop} (he:∀ env whole,isTrue ea env whole=(do let v ← whole;standAt ea.pos;holding [v] (truthy v))) (h:EvOk W n f P ea):TeOk W n f P ea:=by
  intro A E m c H s Q hr ok F p hb
  refine wpAny_isTrue_value (ev1 h hr ok F p fun c1 H1 s1 x V st ok1 F1 r q=>?_) (he _ _)
  obtain ⟨b,rfl⟩:=hb _ _ q
  obtain rfl:=r.bool
  exact wpAny_truthy_bool ⟨c1,H1,_,st,ok1,r,q⟩
theorem Room.u {k:Nat} (x:Room n A) (hk:k≤100):A.units+k<cLine:=by have:=x.units;omega
theorem w_no {α:Type} {M:Model} {E:Value→Shared→Prop} {R:α→Shared→Prop} {p:Prop} [Decidable p] {a b:Sem α} (h:¬ p) (k:wpAny M A b R E s):wpAny M A (if p then a else b) R E s:=(if_neg h).symm▸k
theorem w_yes {α:Type} {M:Model} {E:Value→Shared→Prop} {R:α→Shared→Prop} {p:Prop} [Decidable p] {a b:Sem α} (h:p) (k:wpAny M A a R E s):wpAny M A (if p then a else b) R E s:=(if_pos h).symm▸k
theorem ev_none {k:Nat}:EvOk W n f (vcE C .none) (.Constant .none k pos):=by
  intro A E m c H s Q hr ok F p
  exact wpAny_Constant_none (.now ok .ofNone p)
theorem ev_bool {x:Bool} {k:Nat}:EvOk W n f (vcE C (.bool x)) (.Constant (.bool x) k pos):=by
  intro A E m c H s Q hr ok F p
  exact wpAny_Constant_bool (.now ok .ofBool p)
theorem ev_int {x:Int} {k:Nat}:EvOk W n f (vcE C (.int x)) (.Constant (.int x) k pos):=by
  intro A E m c H s Q hr ok F p
  exact wpAny_Constant_int (.nowTok ok .ofInt p)
theorem ev_str {x:Str} {k:Nat}:EvOk W n f (vcE C (.str x)) (.Constant (.str x) k pos):=by
  intro A E m c H s Q hr ok F p
  exact wpAny_Constant_str (.nowTok ok .ofStr p)
theorem ev_var {i:Nat} {x:Str} (hD:f.D i=some x):EvOk W n f (vcE C (.var i)) (.Name x pos):=by
  intro A E m c H s Q hr ok F p
  obtain ⟨v,hv,q⟩:=p
  exact evalVar F hD hv fun V r=>.now ok r q
theorem evs_nil:EvsOk W n f (vcEs C .nil) []:=by
  intro A E m c H s Q pos hr ok F p
  exact wpAny_items_nil ⟨c,H,[],Step.refl _ _ _,ok,.nil,rfl,p⟩
noncomputable def notStar (e:Expr):Bool:=!(e.ctorIdx.beq 22)
theorem starEach_plain (e:Expr) (rest:List Expr) (env:Env) (he:notStar e=true):starEach (e::rest) env=(false,eval e env)::starEach rest env:=by
  cases e <;> first | rfl | exact absurd he Bool.false_ne_true
theorem evs_cons {l:MEs} {es:List Expr} (hs:notStar ea=true) (ha:EvOk W n f (vcE C ma) ea) (hl:EvsOk W n f (vcEs C l) es):EvsOk W n f (vcEs C (.cons ma l)) (ea::es):=by
  intro A E m c H s Q pos hr ok F p
  refine wpAny_items_cons (ev1 ha hr ok F p fun c1 H1 s1 x V st1 ok1 F1 r1 q1=>?_) (starEach_plain _ _ _ hs)
  refine wpAny_mono (hl A E m c1 H1 s1 _ pos hr ok1 F1 q1) (fun Vs s2 h2=>?_) fun _ _ e=>e
  obtain ⟨c2,H2,vs,st2,ok2,r2,q2⟩:=h2
  exact ⟨c2,H2,x::vs,st1.trans ok1 (fun _ e=>e.elim) st2,ok2,.cons (VRep.later st2.laterE x r1) r2,by simp [q2.1],q2.2⟩
theorem evs1 {P:Lo→Hp→(List AV→Hp→Prop)→Prop} {es:List Expr} (ha:EvsOk W n f P es) (hr:Room n A) (ok:Ok W c H s.heap) (F:FOk W f c m s.heap) {R:List AV→Hp→Prop} (p:P m H R) {T:List Value→Shared→Prop}
    (t:∀ c1 H1 s1 x V,Step NoF c s c1 s1→Ok W c1 H1 s1.heap→FOk W f c1 m s1.heap→VReps W c1 s1.heap x V→V.length=es.length→R x H1→T V s1):wpAny W.M A (spliced (backTo pos (starEach es f.env))) T E s:=by
  refine wpAny_mono (ha A E m c H s R pos hr ok F p) (fun V s1 h1=>?_) fun _ _ e=>e
  obtain ⟨c1,H1,x,st,ok1,r1,hl,q⟩:=h1
  exact t c1 H1 s1 x V st ok1 (F.step ok st) r1 (by rw [r1.length,hl]) q
theorem cap100 {k:Nat} (h:k≤100):k≤sizeLine:=Nat.le_trans h (by decide)
theorem ev_tup {l:MEs} {es:List Expr} {k:Nat} (hz:es.length≤100) (hl:EvsOk W n f (vcEs C l) es):EvOk W n f (vcE C (.tup l)) (.Tuple es k pos):=by
  intro A E m c H s Q hr ok F p
  refine wpAny_Tuple ?_
  refine evs1 hl hr ok F p fun c1 H1 s1 x V st1 ok1 F1 r1 hlen q1=>?_
  have hz':V.length≤sizeLine:=by rw [hlen];exact cap100 hz
  exact ⟨hz',(PostV.seq (t:=s1.toks) ok1 r1 hz' _ "tuple" (Or.inl ⟨rfl,rfl⟩) q1).after st1 ok1⟩
theorem ev_lstF {l:MEs} {es:List Expr} (hz:es.length≤100) (hl:EvsOk W n f (vcEs C l) es):EvOk W n f (vcE C (.lstF l)) (.List es pos):=by
  intro A E m c H s Q hr ok F p
  refine wpAny_List ?_
  refine evs1 hl hr ok F p fun c1 H1 s1 x V st1 ok1 F1 r1 hlen q1=>?_
  have hz':V.length≤sizeLine:=by rw [hlen];exact cap100 hz
  exact ⟨hz',(PostV.seq (t:=s1.toks) ok1 r1 hz' _ "list" (Or.inr ⟨rfl,rfl⟩) q1).after st1 ok1⟩
theorem PostV.list (k:Wk W) {Q:QV} {l:List AV} {Vs:List Value} {t:Nat} (ok:Ok W c H s.heap) (r:VReps W c s.heap l Vs) (hz:Vs.length≤sizeLine) (q:∀ k,H k=none→Q (.ref k) (H.set k (.list l))) :
    PostV W c s Q (.ref s.heap.objs.size) { s with heap:=s.heap.push { cls:=.type "list",data:=.seq Vs.toArray },toks:=t } :=
  PostV.new (o:=.list l) k ok rfl (fun c' L=>⟨Vs.toArray,⟨_,Heap.get?_push_size _ rfl⟩,by simpa using hz,by simpa using VReps.later L l r⟩) q
theorem ev_lstD (k:Wk W) {l:MEs} {es:List Expr} (hz:es.length≤100) (hl:EvsOk W n f (vcEs C l) es):EvOk W n f (vcE C (.lstD l)) (.List es pos):=by
  intro A E m c H s Q hr ok F p
  refine wpAny_List ?_
  refine evs1 hl hr ok F p fun c1 H1 s1 x V st1 ok1 F1 r1 hlen q1=>?_
  have hz':V.length≤sizeLine:=by rw [hlen];exact cap100 hz
  exact ⟨hz',(PostV.list (t:=s1.toks) k ok1 r1 hz' q1).after st1 ok1⟩
theorem ev_dS (k:Wk W):EvOk W n f (vcE C .dS) (.Dict [] [] pos):=by
  intro A E m c H s Q hr ok F p
  exact wpAny_Dict_empty (PostV.new (o:=.dS []) (t:=s.toks) k ok rfl (fun c' L=>⟨[],Heap.DictOf.new _,by simp,rfl,.nil⟩) p)
theorem ev_dI (k:Wk W):EvOk W n f (vcE C .dI) (.Dict [] [] pos):=by
  intro A E m c H s Q hr ok F p
  exact wpAny_Dict_empty (PostV.new (o:=.dI []) (t:=s.toks) k ok rfl (fun c' L=>⟨[],Heap.DictOf.new _,by simp,rfl,.nil⟩) p)
theorem ev_neg {x:Int} {k:Nat} {p':Pos}:EvOk W n f (vcE C (.int (-x))) (.UnaryOp .USub (.Constant (.int x) k p') pos):=by
  intro A E m c H s Q hr ok F p
  exact wpAny_UnaryOp (wpAny_Constant_int (P.neg_int (PostV.nowTok ok .ofInt p)))
theorem ev_bin {o:BOp} (ha:EvOk W n f (vcE C ma) ea) (hb:EvOk W n f (vcE C mb) eb):EvOk W n f (vcE C (.bin o ma mb)) (.BinOp ea (opOf o) eb pos):=by
  intro A E m c H s Q hr ok F p
  refine wpAny_BinOp (ev2 ha hb hr ok F p fun c2 H2 s2 x y V U st ok2 F2 rx ry q=>?_)
  obtain ⟨z,e,q⟩:=q
  exact wpAny_mono (bin_ok ok2 rx ry e q) (fun _ _ h=>h.after st ok2) fun _ _ e=>e
theorem ev_cmp {o:COp} (hm:behindInMarks (cmpOf o) eb=false) (ha:EvOk W n f (vcE C ma) ea) (hb:EvOk W n f (vcE C mb) eb):EvOk W n f (vcE C (.cmp o ma mb)) (.Compare ea [cmpOf o] [eb] pos):=by
  intro A E m c H s Q hr ok F p
  refine wpAny_Compare1 (ev2 ha hb hr ok F p fun c2 H2 s2 x y V U st ok2 F2 rx ry q=>?_) hm
  obtain ⟨z,e,q⟩:=q
  exact cmp_ok ok2 (hr.u (by omega)) rx ry e fun t=>(PostV.nowTok ok2 .ofBool q).after st ok2
theorem te_cmp {o:COp} (hm:behindInMarks (cmpOf o) eb=false) (ha:EvOk W n f (vcE C ma) ea) (hb:EvOk W n f (vcE C mb) eb):TeOk W n f (vcE C (.cmp o ma mb)) (.Compare ea [cmpOf o] [eb] pos):=by
  intro A E m c H s Q hr ok F p _
  refine wpAny_isTrue_Compare1 (ev2 ha hb hr ok F p fun c2 H2 s2 x y V U st ok2 F2 rx ry q=>?_) hm
  obtain ⟨z,e,q⟩:=q
  exact cmp_ok ok2 (hr.u (by omega)) rx ry e fun t=>wpAny_truthy_bool ((PostV.nowTok ok2 .ofBool q).after st ok2)
theorem none_beq {x:AV} {V:Value} (r:VRep W c h x V):(V == Value.none)=isNoneAV x:=by
  cases x with
  | none=>rw [r.none];rfl
  | bool b=>rw [r.bool];rfl
  | int i=>obtain ⟨t,rfl⟩:=r.int;rfl
  | str i=>obtain ⟨t,rfl⟩:=r.str;rfl
  | tup l=>obtain ⟨a,items,rfl,_⟩:=r.tup;rfl
  | lst l=>obtain ⟨a,items,rfl,_⟩:=r.lst;rfl
  | ref k=>obtain ⟨a,_,rfl⟩:=r.ref;rfl
  | obj cl k=>obtain ⟨a,d,rfl,_⟩:=r.obj;rfl
theorem te_isNone {k:Nat} {p':Pos} (ha:EvOk W n f (vcE C ma) ea):TeOk W n f (vcE C (.isNone ma)) (.Compare ea [.Is] [.Constant .none k p'] pos):=by
  intro A E m c H s Q hr ok F p _
  refine wpAny_isTrue_Compare1 (ev1 ha hr ok F p fun c1 H1 s1 x V st ok1 F1 rx q=>wpAny_Constant_none (is_none ?_)) rfl
  rw [none_beq rx]
  exact wpAny_truthy_bool ((PostV.now ok1 .ofBool q).after st ok1)
theorem or_bool {P Q:AV→Hp→Prop} {a b:Bool} (x:AV) (H1:Hp) (h:(x=.bool a∧P x H1)∨(x=.bool b∧Q x H1)):∃ b,x=.bool b:=h.elim (fun e=>⟨_,e.1⟩) fun e=>⟨_,e.1⟩
theorem te_not (ha:TeOk W n f (vcE C ma) ea):TeOk W n f (vcE C (.not ma)) (.UnaryOp .Not ea pos):=by
  intro A E m c H s Q hr ok F p _
  refine wpAny_isTrue_Not (te1 ha hr ok F p (fun v H' q=>(by obtain ⟨b,e,_⟩:=q;exact ⟨b,e⟩)) fun c1 H1 s1 b st ok1 F1 q=>?_)
  obtain ⟨b',e,q⟩:=q
  cases e
  exact (PostV.now ok1 .ofBool q).after st ok1
theorem te_and {l:List Expr} {p:Pos} (ha:TeOk W n f (vcE C ma) ea) (hb:TeOk W n f (vcE C mb) (.BoolOp .And l p)):TeOk W n f (vcE C (.and ma mb)) (.BoolOp .And (ea::l) pos):=by
  intro A E m c H s Q hr ok F p _
  refine wpAny_isTrue_BoolOp (wpAny_allTrue_And_cons (te1 ha hr ok F p or_bool fun c1 H1 s1 b st ok1 F1 q=>?_))
  rcases q with ⟨e,q⟩ | ⟨e,q⟩
  · cases e;exact (PostV.now ok1 .ofBool q).after st ok1
  · cases e
    exact wpAny_mono (hb A E m c1 H1 s1 _ hr ok1 F1 q fun v H' q=>q.1) (fun _ _ h=>(h.mono fun _ _ q=>q.2).after st ok1) fun _ _ e=>e
theorem te_or {l:List Expr} {p:Pos} (ha:TeOk W n f (vcE C ma) ea) (hb:TeOk W n f (vcE C mb) (.BoolOp .Or l p)):TeOk W n f (vcE C (.or ma mb)) (.BoolOp .Or (ea::l) pos):=by
  intro A E m c H s Q hr ok F p _
  refine wpAny_isTrue_BoolOp (wpAny_allTrue_Or_cons (te1 ha hr ok F p or_bool fun c1 H1 s1 b st ok1 F1 q=>?_))
  rcases q with ⟨e,q⟩ | ⟨e,q⟩
  · cases e;exact (PostV.now ok1 .ofBool q).after st ok1
  · cases e
    exact wpAny_mono (hb A E m c1 H1 s1 _ hr ok1 F1 q fun v H' q=>q.1) (fun _ _ h=>(h.mono fun _ _ q=>q.2).after st ok1) fun _ _ e=>e
theorem te_oneA {P:Lo→Hp→QV→Prop} (hb:TeOk W n f P eb):TeOk W n f P (.BoolOp .And [eb] pos):=by
  intro A E m c H s Q hr ok F p hq
  refine wpAny_isTrue_BoolOp (wpAny_allTrue_And_cons (wpAny_mono (hb A E m c H s Q hr ok F p hq) (fun b _ h=>?_) fun _ _ e=>e))
  cases b
  · exact h
  · exact wpAny_allTrue_And_nil h
theorem te_oneO {P:Lo→Hp→QV→Prop} (hb:TeOk W n f P eb):TeOk W n f P (.BoolOp .Or [eb] pos):=by
  intro A E m c H s Q hr ok F p hq
  refine wpAny_isTrue_BoolOp (wpAny_allTrue_Or_cons (wpAny_mono (hb A E m c H s Q hr ok F p hq) (fun b _ h=>?_) fun _ _ e=>e))
  cases b
  · exact wpAny_allTrue_Or_nil h
  · exact h
theorem wpAny_boolOp_cons {op:BoolOp} {x y:Sem Value} {rest:List (Sem Value)} {M:Model} {Q:Value→Shared→Prop}
    (h:wpAny M A x (fun v s₁=>wpAny M A (truthy v) (fun t s₂=>match op,t with | .And,false=>Q v s₂ | .Or,true=>Q v s₂ | _,_=>wpAny M A (boolOp pos op (y::rest)) Q E s₂) E s₁) E s) :
    wpAny M A (boolOp pos op (x::y::rest)) Q E s:=by
  show wpAny M A (do
    let v ← x
    standAt pos
    let t ← holding [v] (truthy v)
    match op,t with
    | .And,false | .Or,true=>pure v
    | _,_=>boolOp pos op (y::rest)) Q E s
  refine wpAny_bind (wpAny_mono h (fun v s₁ h₁=>wpAny_bind (wpAny_standAt (wpAny_bind (wpAny_holding (wpAny_mono h₁ (fun t s₂ h₂=>?_) fun _ _ x=>x))))) fun _ _ x=>x)
  cases op <;> cases t <;> first | exact wpAny_pure h₂ | exact h₂
theorem ev_and {l:List Expr} (ha:EvOk W n f (vcE C ma) ea) (hb:EvOk W n f (vcE C mb) (.BoolOp .And (eb::l) pos)):EvOk W n f (vcE C (.and ma mb)) (.BoolOp .And (ea::eb::l) pos):=by
  intro A E m c H s Q hr ok F p
  refine wpAny_boolOp_cons (ev1 ha hr ok F p fun c1 H1 s1 x V st ok1 F1 r q=>?_)
  rcases q with ⟨rfl,q⟩ | ⟨rfl,q⟩
  · obtain rfl:=r.bool
    exact wpAny_truthy_bool ((PostV.now ok1 .ofBool q).after st ok1)
  · obtain rfl:=r.bool
    exact wpAny_truthy_bool (wpAny_mono (hb A E m c1 H1 s1 _ hr ok1 F1 q) (fun _ _ h=>(h.mono fun _ _ q=>q.2).after st ok1) fun _ _ e=>e)
theorem ev_or {l:List Expr} (ha:EvOk W n f (vcE C ma) ea) (hb:EvOk W n f (vcE C mb) (.BoolOp .Or (eb::l) pos)):EvOk W n f (vcE C (.or ma mb)) (.BoolOp .Or (ea::eb::l) pos):=by
  intro A E m c H s Q hr ok F p
  refine wpAny_boolOp_cons (ev1 ha hr ok F p fun c1 H1 s1 x V st ok1 F1 r q=>?_)
  rcases q with ⟨rfl,q⟩ | ⟨rfl,q⟩
  · obtain rfl:=r.bool
    exact wpAny_truthy_bool ((PostV.now ok1 .ofBool q).after st ok1)
  · obtain rfl:=r.bool
    exact wpAny_truthy_bool (wpAny_mono (hb A E m c1 H1 s1 _ hr ok1 F1 q) (fun _ _ h=>(h.mono fun _ _ q=>q.2).after st ok1) fun _ _ e=>e)
theorem ev_ite (hd:TeOk W n f (vcE C md) ed) (ha:EvOk W n f (vcE C ma) ea) (hb:EvOk W n f (vcE C mb) eb):EvOk W n f (vcE C (.ite md ma mb)) (.IfExp ed ea eb pos):=by
  intro A E m c H s Q hr ok F p
  refine wpAny_IfExp (te1 hd hr ok F p or_bool fun c1 H1 s1 b st ok1 F1 q=>?_)
  rcases q with ⟨e,q⟩ | ⟨e,q⟩
  · cases e
    exact wpAny_mono (ha A E m c1 H1 s1 Q hr ok1 F1 q) (fun _ _ h=>h.after st ok1) fun _ _ e=>e
  · cases e
    exact wpAny_mono (hb A E m c1 H1 s1 Q hr ok1 F1 q) (fun _ _ h=>h.after st ok1) fun _ _ e=>e
noncomputable def notSlice (e:Expr):Bool:=!(e.ctorIdx.beq 26)
theorem subscripted_plain {sl:Expr} (h:notSlice sl=true) (o i:Value):subscripted sl false o i=operate [o,i] (getItem o i):=by
  cases sl <;> first | rfl | exact absurd h Bool.false_ne_true
theorem ev_sub (hsl:notSlice eb=true) (ha:EvOk W n f (vcE C ma) ea) (hb:EvOk W n f (vcE C mb) eb):EvOk W n f (vcE C (.sub ma mb)) (.Subscript ea eb pos):=by
  intro A E m c H s Q hr ok F p
  refine Subscript_ (ev2 ha hb hr ok F p fun c2 H2 s2 x y V U st ok2 F2 rx ry q=>?_)
  obtain ⟨z,e,q⟩:=q
  obtain ⟨⟨Ty,id,hT,hl⟩,hg⟩:=item_ok (E:=E) (A:=A) ok2 rx ry e fun Z t rZ=>(PostV.nowTok (t:=t) ok2 rZ q).after st ok2
  exact tail_any hT hl hg (subscripted_plain hsl _ _)
theorem toNat_cast {i:Int} (h:0≤i):i=(i.toNat:Int):=by omega
theorem slice_ok {l:List AV} {V:Value} {vl vu:Value} {lo hi:Option Int} {l':List AV} {Q:QV} {value slice:Expr} (ok:Ok W c H s.heap) (rl:∃ a items,V=.ref a∧s.heap.IsList a items∧items.size≤sizeLine∧VReps W c s.heap l items.toList)
    (pl:IsPart vl lo) (pu:IsPart vu hi) (hs:∀ o i,subscripted slice false o i=operate [i,o] (getItem o i))
    (hp:∀ items:Array Value,VReps W c s.heap l items.toList→VReps W c s.heap l' (slicePick items lo hi none).toList) (q:Q (.lst l') H) :
    wpAny W.M A (subscriptTail value slice V (.ref s.heap.objs.size)) (PostV W c s Q) E { s with heap:=s.heap.push { cls:=.type "slice",data:=.fields #[vl,vu,.none] } }:=by
  obtain ⟨a,items,rfl,hl,hz,r⟩:=rl
  have k:=push_keeps s.heap { cls:=.type "slice",data:=.fields #[vl,vu,.none] }
  refine tail_any (Heap.IsList.typeIs (s:={ s with heap:=s.heap.push { cls:=.type "slice",data:=.fields #[vl,vu,.none] } }) (hl.push _)) list_getitem_lookup
    (wpAny_getItem_list_slice (hl.push _) (Heap.IsSliceOf.new ..) pl pu .none (by simp) ?_ hz) (hs _ _)
  have r':=VReps.later (later_keep (c:=c) k) _ (hp items r)
  have ok':=ok.keepAll k
  have hz':(slicePick items lo hi none).toList.length≤sizeLine:=by
    rw [Array.length_toList];exact Nat.le_trans (slicePick_size_le _ _ _ _) hz
  have := PostV.seq (s := { s with heap := s.heap.push { cls := .type "slice", data := .fields #[vl, vu, .none] } }) (t := s.toks) ok' r' hz' _ "list" (Or.inr ⟨rfl, rfl⟩) q
  rw [show (slicePick items lo hi none).toList.toArray=slicePick items lo hi none by simp] at this
  exact PostV.after (s':={ s with heap:=s.heap.push { cls:=.type "slice",data:=.fields #[vl,vu,.none] } }) (Step.ofKeep k rfl rfl) ok' this
theorem ev_sliceTo {p':Pos} (ha:EvOk W n f (vcE C ma) ea) (hb:EvOk W n f (vcE C mb) eb):EvOk W n f (vcE C (.sliceTo ma mb)) (.Subscript ea (.Slice none (some eb) none p') pos):=by
  intro A E m c H s Q hr ok F p
  refine Subscript_ (ev1 ha hr ok F p fun c1 H1 s1 x V st1 ok1 F1 rx q1=>wpAny_Slice ?_)
  rw [evalPart_none]
  refine wpAny_pure ?_
  rw [evalPart_some]
  refine ev1 hb hr ok1 F1 q1 fun c2 H2 s2 y U st2 ok2 F2 ry q2=>?_
  refine wpAny_pure ?_
  obtain ⟨l,i,e,rfl,h0,q⟩:=q2
  obtain ⟨t,rfl⟩:=ry.int
  refine wpAny_mono (slice_ok (Q:=Q) ok2 (listOf_rep ok2 (VRep.later st2.laterE x rx) e) .none (.int i t) (fun _ _=>rfl) (fun items r=>?_) q) (fun _ _ h=>(h.after st2 ok2).after st1 ok1) fun _ _ e=>e
  have e2:=slicePick_upto' items i.toNat
  rw [← toNat_cast h0] at e2
  rw [e2]
  simpa using r.take i.toNat
theorem ev_sliceFrom {p':Pos} (ha:EvOk W n f (vcE C ma) ea) (hb:EvOk W n f (vcE C mb) eb):EvOk W n f (vcE C (.sliceFrom ma mb)) (.Subscript ea (.Slice (some eb) none none p') pos):=by
  intro A E m c H s Q hr ok F p
  refine Subscript_ (ev1 ha hr ok F p fun c1 H1 s1 x V st1 ok1 F1 rx q1=>wpAny_Slice ?_)
  rw [evalPart_some]
  refine ev1 hb hr ok1 F1 q1 fun c2 H2 s2 y U st2 ok2 F2 ry q2=>?_
  rw [evalPart_none]
  refine wpAny_pure (wpAny_pure ?_)
  obtain ⟨l,i,e,rfl,h0,q⟩:=q2
  obtain ⟨t,rfl⟩:=ry.int
  refine wpAny_mono (slice_ok (Q:=Q) ok2 (listOf_rep ok2 (VRep.later st2.laterE x rx) e) (.int i t) .none (fun _ _=>rfl) (fun items r=>?_) q) (fun _ _ h=>(h.after st2 ok2).after st1 ok1) fun _ _ e=>e
  have e2:=slicePick_from' items i.toNat
  rw [← toNat_cast h0] at e2
  rw [e2]
  simpa using r.drop i.toNat
end LY.Internal
end

section
set_option maxRecDepth 100000
namespace LY.Internal
open PySem PySem.W PySem.Calls PyProof.Rows
namespace RF
theorem slot_rev_next:Slot "reversed" "__next__" "reversed.__next__" :=
  .of (owner := "reversed") (n := "__next__") (by rw [typeLookup_type, builtinLookup_eq_fast]; kernel_rfl) (by decide +kernel) (by decide +kernel) (by decide +kernel)
    (by first | exact .inl (by decide +kernel) | exact .inr (by decide +kernel)) (by rw [isSubtype_type];kernel_rfl)
theorem entry_rev_next:entryFor table "reversed.__next__" = some Builtin.«reversed.__next__»:=entryFor_of_tree (by kernel_rfl)
theorem args_rev_next_1 (a:Value):argsOk "reversed.__next__" ⟨[a],[]⟩:=by
  unfold argsOk;kernel_rfl
theorem slot_rev_iter:Slot "reversed" "__iter__" "reversed.__iter__" :=
  .of (owner := "reversed") (n := "__iter__") (by rw [typeLookup_type, builtinLookup_eq_fast]; kernel_rfl) (by decide +kernel) (by decide +kernel) (by decide +kernel)
    (by first | exact .inl (by decide +kernel) | exact .inr (by decide +kernel)) (by rw [isSubtype_type];kernel_rfl)
theorem args_rev_iter_1 (a:Value):argsOk "reversed.__iter__" ⟨[a],[]⟩:=by
  unfold argsOk;kernel_rfl
theorem entry_rev_iter:entryFor table "reversed.__iter__" = some Builtin.«dict_keyiterator.__iter__» :=
  entryFor_alias (id':="dict_keyiterator.__iter__") (by kernel_rfl) (by first | rfl | decide +kernel | (unfold String.splitOn; simp +decide [String.splitOnAux])) (by decide +kernel) (by kernel_rfl)
theorem slot_rev_hint:Slot "reversed" "__length_hint__" "reversed.__length_hint__" :=
  .of (owner := "reversed") (n := "__length_hint__") (by rw [typeLookup_type, builtinLookup_eq_fast]; kernel_rfl) (by decide +kernel) (by decide +kernel) (by decide +kernel)
    (by first | exact .inl (by decide +kernel) | exact .inr (by decide +kernel)) (by rw [isSubtype_type];kernel_rfl)
theorem entry_rev_hint:entryFor table "reversed.__length_hint__" = some Builtin.«reversed.__length_hint__»:=entryFor_of_tree (by kernel_rfl)
theorem args_rev_hint_1 (a:Value):argsOk "reversed.__length_hint__" ⟨[a],[]⟩:=by
  unfold argsOk;kernel_rfl
theorem rev_no_len:typeLookup (.type "reversed") "__len__" = pure none:=by rw [typeLookup_type,builtinLookup_eq_fast]; kernel_rfl
theorem slot_rev_init:Slot "reversed" "__init__" "object.__init__" :=
  .of (owner := "object") (n := "__init__") (by rw [typeLookup_type, builtinLookup_eq_fast]; kernel_rfl) (by decide +kernel) (by decide +kernel) (by decide +kernel)
    (by first | exact .inl (by decide +kernel) | exact .inr (by decide +kernel)) (by rw [isSubtype_type];kernel_rfl)
theorem called_reversed:TypeCalled "reversed" "reversed.__new__" "object.__init__" :=
  ⟨by decide +kernel,PySem.F.create_reversed,⟨_,_,PySem.F.mro_reversed⟩,PySem.F.made_reversed,by decide +kernel,PySem.F.sub_reversed_self,slot_rev_init⟩
theorem tuple_no_rev:typeLookup (.type "tuple") "__reversed__" = pure none:=by rw [typeLookup_type,builtinLookup_eq_fast]; kernel_rfl
theorem tuple_no_dict:isSubtype (.type "tuple") (.type "dict") = pure false:=by rw [isSubtype_type]; kernel_rfl
theorem tuple_item:typeLookup (.type "tuple") "__getitem__" = pure (some (.builtin "tuple.__getitem__")):=by rw [typeLookup_type,builtinLookup_eq_fast]; kernel_rfl
end RF
noncomputable def rvObj (t:Addr) (i:Int):Obj:={ cls:=.type "reversed",data:=.fields #[.ref t,rawInt i] }
noncomputable def IsRv (h:Heap) (a t:Addr) (i:Int):Prop:=∃ o,h.get? a = some o ∧ o.cls = .type "reversed" ∧ o.data = .fields #[.ref t,rawInt i]
theorem IsRv.typeIs {s:Shared} {a t:Addr} {i:Int} (x:IsRv s.heap a t i):s.TypeIs (.ref a) "reversed":=(by obtain ⟨o,ho,hc,_⟩:=x; exact ⟨o,ho,hc⟩)
theorem IsRv.at {h h':Heap} {a t:Addr} {i:Int} (x:IsRv h a t i) (e:∀ o,h.get? a=some o→h'.get? a=some o):IsRv h' a t i:=(by obtain ⟨o,ho,r⟩:=x;exact ⟨o,e _ ho,r⟩)
theorem meets_reversed_new (t:Addr) (items:Array Value) (hz:items.size≤sizeLine) :
    Meets (Builtin.«reversed.__new__» ⟨[.type "reversed",.ref t],[]⟩)
      (fun _ R s=>IsTup s.heap t items∧R (.ok (.ret (.ref s.heap.objs.size))) { s with heap:=s.heap.push (rvObj t ((items.size:Int)-1)),toks:=s.toks+1+1 }) :=
  .of_wp fun prog w A R s h=>by
    obtain ⟨ht,h⟩:=h
    rw [sizeLine_eq] at hz
    unfold Builtin.«reversed.__new__»
    refine wpAny_bind (wpAny_of_eq (newClass_reversed _) ?_)
    refine wpAny_bind (wpAny_of_eq (a:=()) (by first | rfl | kernel_rfl) ?_)
    refine wpAny_bind (wpAny_of_eq (a:=()) (by first | rfl | kernel_rfl) ?_)
    refine wpAny_bind (wpAny_specialOf ht.typeIs RF.tuple_no_rev ?_)
    refine wpAny_bind ?_
    show wpAny _ _ (do
      if ← isInstance (.ref t) (.type "dict") then return false
      match ← specialOf (.ref t) "__getitem__" with
      | none=>return false
      | some (.builtin id) =>
        if ["tuple.__getitem__", "str.__getitem__", "bytes.__getitem__", "bytearray.__getitem__", "memoryview.__getitem__", "numpy.ndarray.__getitem__", "sqlite3.Row.__getitem__"].contains id then return true
        if id == "sqlite3.Blob.__getitem__" then return false
        unsupported "reversed.__new__:is-it-a-sequence"
      | some _=>return true) _ _ _
    refine wpAny_bind (wpAny_isInstance ht.typeIs RF.tuple_no_dict ?_)
    refine w_no Bool.false_ne_true ?_
    refine wpAny_bind (wpAny_specialOf ht.typeIs RF.tuple_item ?_)
    have hc : ["tuple.__getitem__", "str.__getitem__", "bytes.__getitem__", "bytearray.__getitem__", "memoryview.__getitem__", "numpy.ndarray.__getitem__", "sqlite3.Row.__getitem__"].contains "tuple.__getitem__" = true := by decide +kernel
    refine w_yes hc ?_
    refine wpAny_pure ?_
    refine w_no Bool.false_ne_true ?_
    refine wpAny_bind (PyProof.Rows.len_tuple ht (by omega) ?_)
    refine wpAny_bind (wpAny_of_eq (a:=some (items.size:Int)) rfl ?_)
    refine wpAny_bind ?_
    unfold Builtin.SmallTypes.newRecord
    refine wpAny_newObj_type (wpAny_pure ⟨_,rfl,h⟩)
section
variable {prog:Program} {w:World} {A:Around} {E:Value→Shared→Prop} {s:Shared}
theorem call_reversed_tuple {t:Addr} {items:Array Value} {Q:Value→Shared→Prop} (ht:IsTup s.heap t items) (hz:items.size≤sizeLine)
    (h:Q (.ref s.heap.objs.size) { s with heap:=s.heap.push (rvObj t ((items.size:Int) - 1)),toks:=s.toks + 1 + 1 }):wpAny (model prog w) A (call (.type "reversed") [.ref t]) Q E s :=
  callType_new RF.called_reversed (by decide) (PySem.F.typeCall_reversed_1 _) (PySem.F.newCall_reversed_1 _) (fun obj=>PySem.F.args_object_init_2 obj _) PySem.F.entry_reversed_new
    (meets_reversed_new t items hz) ⟨ht,⟨_,Heap.get?_push_size _ rfl,rfl⟩,h⟩
theorem wpAny_pyNext_rv_item {it t:Addr} {i:Nat} {items:Array Value} {x:Value} {Q:Option Value→Shared→Prop} (hz:items.size≤sizeLine) (hit:IsRv s.heap it t (i:Int)) (ht:IsTup s.heap t items) (hx:items[i]? = some x)
    (hQ:∀ h',IsRv h' it t ((i:Int)-1)→Heap.SameBut it s.heap h'→Q (some x) { s with heap:=h',toks:=s.toks+1 }):wpAny (model prog w) A (pyNext (.ref it)) Q E s:=by
  obtain ⟨o,ho,hc,hd⟩:=id hit
  rw [sizeLine_eq] at hz
  have hi:i<items.size:=(Array.getElem?_eq_some_iff.mp hx).1
  unfold pyNext
  refine wpAny_bind (wpAny_attempt (wpAny_callSpecial?_slot (name:=Str.ofString "__next__") hit.typeIs RF.slot_rev_next
    (wpAny_call_entry RF.slot_rev_next hit.typeIs RF.entry_rev_next ?_ (RF.args_rev_next_1 _))))
  unfold Builtin.«reversed.__next__»
  refine wpAny_bind (wpAny_of_eq (a:=(Value.ref it,[])) rfl ?_)
  refine wpAny_bind (wpAny_field ho hd (x:=.ref t) rfl ?_)
  refine wpAny_bind (wpAny_field ho hd (x:=rawInt (i:Int)) rfl ?_)
  show wpAny _ _ (if (i:Int)<0 then _ else _) _ _ s
  rw [if_neg (by omega)]
  refine wpAny_bind (wpAny_specialOf ht.typeIs RF.tuple_item ?_)
  refine w_no Bool.false_ne_true ?_
  refine wpAny_bind (wpAny_mkInt ?_)
  refine wpAny_bind (wpAny_attempt (PyProof.Rows.getItem_tuple ht (by omega) (by omega) (j:=i) ?_ hx ?_))
  · unfold seqIndex?
    have:¬ (i:Int)<0:=by omega
    simp only [this,if_false,Bool.and_eq_true,decide_eq_true_eq]
    rw [if_pos ⟨by omega,by omega⟩];simp
  · refine wpAny_bind (wpAny_field (s:={ s with toks:=s.toks+1 }) ho hd (x:=rawInt (i:Int)) rfl ?_)
    show wpAny _ _ (setField (.ref it) 1 (rawInt ((i:Int)-1)) >>= _) _ _ _
    refine wpAny_bind (wpAny_setField (s:={ s with toks:=s.toks+1 }) ho hd (by simp) ?_)
    first
    | refine wpAny_pure ⟨x,rfl,wpAny_pure (hQ _ ?_ (Heap.SameBut.update ..))⟩
    | refine wpAny_bind (wpAny_pure (wpAny_pure ⟨x,rfl,wpAny_pure (hQ _ ?_ (Heap.SameBut.update ..))⟩))
    exact ⟨_,Heap.get?_update_self _ ho (Obj.isFreed_of_fields (Obj.data_mapFields hd _)),(Obj.cls_mapFields ..).trans hc,by
      rw [Obj.data_mapFields hd];simp⟩
theorem stop_raise {α:Type} {Q:Option Value→Shared→Prop} (hh:A.handled=none) (hQ:∀ h',(∀ b o,s.heap.get? b=some o→h'.get? b=some o)→Q none { s with heap:=h' }) :
    wpAny (model prog w) A.in1 (newExc (.type "StopIteration") [] >>= fun e => raiseNew e : Sem α) (fun _ _ => False) (fun e s' => wpAny (model prog w) A (do if ← isInstance e (.type "StopIteration") then pure none else throw e : Sem (Option Value)) Q E s') s := by
  refine wpAny_bind ?_
  simp only [newExc,newTuple]
  refine wpAny_bind (wpAny_newObj_type ?_ (by size_fits))
  refine wpAny_bind (m:=firstArgMember _ _) (wpAny_of_eq (a:=Value.none) (by first | rfl | (simp only [firstArgMember];rfl)) ?_)
  refine wpAny_newObj_type ?_ (by size_fits)
  unfold raiseNew
  refine wpAny_bind (wpAny_handled ?_)
  rw [show A.in1.handled=none from hh]
  refine wpAny_bind (wpAny_pure (wpAny_throw ?_))
  refine wpAny_bind (wpAny_isInstance (T:="StopIteration") (b:=true) ⟨_,Heap.get?_push_size _ rfl,rfl⟩ isSubtype_stop ?_)
  exact wpAny_pure (hQ _ fun b o e=>Heap.get?_push_of_some _ (Heap.get?_push_of_some _ e))
theorem wpAny_pyNext_rv_end {it t:Addr} {Q:Option Value→Shared→Prop} (hh:A.handled=none) (hit:IsRv s.heap it t (-1))
    (hQ:∀ h',Heap.ExtBut it s.heap h'→Q none { s with heap:=h' }):wpAny (model prog w) A (pyNext (.ref it)) Q E s:=by
  obtain ⟨o,ho,hc,hd⟩:=id hit
  unfold pyNext
  refine wpAny_bind (wpAny_attempt (wpAny_callSpecial?_slot (name:=Str.ofString "__next__") hit.typeIs RF.slot_rev_next
    (wpAny_call_entry RF.slot_rev_next hit.typeIs RF.entry_rev_next ?_ (RF.args_rev_next_1 _))))
  unfold Builtin.«reversed.__next__»
  refine wpAny_bind (wpAny_of_eq (a:=(Value.ref it,[])) rfl ?_)
  refine wpAny_bind (wpAny_field ho hd (x:=.ref t) rfl ?_)
  refine wpAny_bind (wpAny_field ho hd (x:=rawInt (-1)) rfl ?_)
  show wpAny _ _ (if (-1:Int)<0 then _ else _) _ _ s
  rw [if_pos (by decide)]
  refine wpAny_bind (wpAny_rule ?_)
  refine wpAny_bind ?_
  show wpAny _ _ (do setField (.ref it) 1 (rawInt (-1));setField (.ref it) 0 .none) _ _ _
  refine wpAny_bind (wpAny_setField ho hd (by simp) ?_)
  have ho1:=Heap.get?_update_self (h:=s.heap) (Obj.mapFields fun vs=>vs.set! 1 (rawInt (-1))) ho (Obj.isFreed_of_fields (Obj.data_mapFields hd _))
  refine wpAny_setField (s:={ s with heap:=s.heap.update it (Obj.mapFields fun vs=>vs.set! 1 (rawInt (-1))) }) ho1 (Obj.data_mapFields hd _) (by simp) ?_
  have ext:Heap.ExtBut it s.heap ((s.heap.update it (Obj.mapFields fun vs=>vs.set! 1 (rawInt (-1)))).update it (Obj.mapFields fun vs=>vs.set! 0 Value.none)) :=
    fun b ob hb e=>(Heap.get?_update_other _ _ (Ne.symm hb)).trans ((Heap.get?_update_other _ _ (Ne.symm hb)).trans e)
  first
  | show wpAny _ _ (newExc (.type "StopIteration") [] >>= _) _ _ _
  | (refine wpAny_bind ?_; show wpAny _ _ (newExc (.type "StopIteration") [] >>= _) _ _ _)
  refine wpAny_mono (stop_raise (E:=E) (Q:=Q) hh ?_) (fun _ _ x=>False.elim x) fun _ _ x=>x
  exact fun h' hk=>hQ _ fun b o hb e=>hk b o (ext b o hb e)
theorem wpAny_pyIter_rv {it t:Addr} {i:Int} {Q:Value→Shared→Prop} (hit:IsRv s.heap it t i) (h:Q (.ref it) s):wpAny (model prog w) A (pyIter (.ref it)) Q E s:=by
  refine wpAny_pyIter_slot hit.typeIs RF.slot_rev_iter (wpAny_call_entry RF.slot_rev_iter hit.typeIs RF.entry_rev_iter ?_ (RF.args_rev_iter_1 _))
  show wpAny _ _ (ret (.ref it)) _ _ s
  exact wpAny_pure ⟨_,rfl,"reversed",_,hit.typeIs,RF.slot_rev_next.lookup,h⟩
end
theorem rvWalks {prog:Program} {w:World} {A:Around} (hh:A.handled=none) (I t:Addr) (hne:t≠I) (items:Array Value) (hz:items.size≤sizeLine) :
    Walks prog w A I [I,t] [I] items.size (fun i v=>items[items.size-1-i]? = some v) (fun i h=>i≤items.size∧IsRv h I t ((items.size:Int)-1-(i:Int))∧IsTup h t items) where
  sub:=fun b hb=>by simp at hb;simp [hb]
  frame:=fun _ _ _ x hk=>⟨x.1,x.2.1.at fun o e=>hk I (by simp) o e,(by obtain ⟨o,ho,r⟩:=x.2.2;exact ⟨o,hk t (by simp) o ho,r⟩)⟩
  item:=fun i s Q E hi x hQ=>by
    have e:(items.size:Int)-1-(i:Int)=((items.size-1-i:Nat):Int):=by omega
    have hit:=x.2.1
    rw [e] at hit
    have hx:items[items.size-1-i]? = some (items[items.size-1-i]'(by omega)):=Array.getElem?_eq_getElem (by omega)
    refine wpAny_pyNext_rv_item hz hit x.2.2 hx fun h' hit' hs'=>?_
    have e2:((items.size-1-i:Nat):Int)-1=(items.size:Int)-1-((i+1:Nat):Int):=by omega
    rw [e2] at hit'
    exact hQ _ h' (s.toks+1) hx ⟨hi,hit',(by obtain ⟨o,ho,r⟩:=x.2.2;exact ⟨o,(hs'.2 t hne).trans ho,r⟩)⟩ fun b o hb eo=>hs'.extBut b o (fun h=>hb (by simp [h])) eo
  done:=fun s Q E x hQ=>by
    have e:(items.size:Int)-1-(items.size:Int) = -1:=by omega
    have hit:=x.2.1
    rw [e] at hit
    exact wpAny_pyNext_rv_end hh hit fun h' he'=>hQ h' s.toks fun b o hb eo=>he' b o (fun h=>hb (by simp [h])) eo
  self:=fun _ _ _ _ x hQ=>wpAny_pyIter_rv x.2.1 hQ
section
variable {prog:Program} {w:World} {A:Around} {E:Value→Shared→Prop} {s:Shared} {R:Result→Shared→Prop}
theorem wpAny_hint_rv {it t:Addr} {items:Array Value} {Q:Bool→Shared→Prop} (hz:items.size≤sizeLine) (hit:IsRv s.heap it t ((items.size:Int)-1)) (ht:IsTup s.heap t items)
    (hQ:∀ b tk,Q b { s with toks:=tk }):wpAny (model prog w) A (Builtin.List.listLengthHint (.ref it)) Q E s:=by
  obtain ⟨o,ho,hc,hd⟩:=id hit
  rw [sizeLine_eq] at hz
  unfold Builtin.List.listLengthHint
  refine wpAny_bind (wpAny_specialOf hit.typeIs RF.rev_no_len ?_)
  refine wpAny_ite_split (fun h=>absurd h (by decide)) fun _=>?_
  refine w_no Bool.false_ne_true ?_
  refine wpAny_bind (wpAny_specialOf hit.typeIs RF.slot_rev_hint.lookup ?_)
  dsimp only
  rw [show splitId "reversed.__length_hint__" = some ("reversed", "__length_hint__") by decide +kernel]
  refine wpAny_bind (wpAny_isInstance hit.typeIs PySem.F.sub_reversed_self ?_)
  refine w_no Bool.false_ne_true ?_
  refine wpAny_ite_split (fun h=>absurd h (by decide +kernel)) fun _=>?_
  refine wpAny_bind (wpAny_rule ?_)
  refine wpAny_bind (wpAny_of_eq (RF.slot_rev_hint.bind _) ?_)
  refine wpAny_bind (wpAny_attempt (wpAny_call_entry RF.slot_rev_hint hit.typeIs RF.entry_rev_hint ?_ (RF.args_rev_hint_1 _)))
  unfold Builtin.«reversed.__length_hint__»
  refine wpAny_bind (wpAny_of_eq (a:=Value.ref it) rfl ?_)
  refine wpAny_bind (wpAny_field ho hd (x:=.ref t) rfl ?_)
  rw [if_neg (show ¬ (Value.ref t == Value.none)=true from Bool.false_ne_true)]
  refine wpAny_bind (PyProof.Rows.len_tuple ht (by omega) ?_)
  refine wpAny_bind (wpAny_of_eq (a:=some (items.size:Int)) rfl ?_)
  refine wpAny_bind (wpAny_field (s:={ s with toks:=s.toks+1+1 }) ho hd (x:=rawInt ((items.size:Int)-1)) rfl ?_)
  show wpAny _ _ (if (items.size:Int)<((items.size:Int)-1)+1 then _ else _) _ _ _
  rw [if_neg (by omega)]
  refine wpAny_bind (wpAny_mkInt (wpAny_pure ⟨_,rfl,?_⟩))
  dsimp only
  refine wpAny_bind (wpAny_of_eq (a:=some ((items.size:Int)-1+1)) rfl ?_)
  dsimp only
  have h1:(!Builtin.List.listFitsIndex ((items.size:Int)-1+1))=false:=by
    unfold Builtin.List.listFitsIndex
    simp
    omega
  refine w_no (by rw [h1];exact Bool.false_ne_true) (w_no (by omega) ?_)
  have h2:Builtin.List.listTooLong ((items.size:Int)-1+1).toNat=false:=by
    unfold Builtin.List.listTooLong
    rw [decide_eq_false_iff_not,sizeLine_eq]
    omega
  refine w_no (by rw [h2];exact Bool.false_ne_true) ?_
  exact wpAny_pure (hQ _ _)
theorem extend_loop_walk {I:Addr} {fp wr:List Addr} {n:Nat} {P:Nat→Value→Prop} {St:Nat→Heap→Prop} (Wk:Walks prog w A.in1 I fp wr n P St) (S:Addr) (hSf:S ∉ fp) (res:Value) (base:List Value) (hn:base.length+n≤sizeLine) :
    ∀ (k i:Nat) (s:Shared) (acc:List Value),n-i=k→i≤n→acc.length=i→St i s.heap→s.heap.PlainList S (base++acc).toArray→(∀ j v,acc[j]? = some v→P j v) →
    (∀ h' tk acc',acc'.length=n→h'.PlainList S (base++acc').toArray→(∀ j v,acc'[j]? = some v→P j v)→(∀ b o,b≠S→b ∉ wr→s.heap.get? b=some o→h'.get? b=some o)→R (.ok (.ret res)) { s with heap:=h',toks:=tk }) →
    codeAny (model prog w) A (.builtin "list.extend.loop" ⟨[.ref S,.ref I,res],[]⟩) R s:=by
  have hSw:S ∉ wr:=fun h=>hSf (Wk.sub _ h)
  intro k
  induction k with
  | zero =>
    intro i s acc hk hi hacc hst hS hP hR
    have hin:i=n:=by omega
    subst hin
    refine codeAny_builtin F.entry_extend_loop ?_
    rw [Around.under_plainId F.plain_extend_loop _]
    show wpAny _ A.in1 (pyNext (.ref I) >>= _) _ _ s
    refine wpAny_bind (Wk.done s _ _ hst fun h' tk hm=>?_)
    exact wpAny_pure (hR h' tk acc hacc (hS.at fun o e=>hm S o hSw e) hP fun b o _ hb e=>hm b o hb e)
  | succ k ih =>
    intro i s acc hk hi hacc hst hS hP hR
    have hlt:i<n:=by omega
    refine codeAny_builtin F.entry_extend_loop ?_
    rw [Around.under_plainId F.plain_extend_loop _]
    show wpAny _ A.in1 (pyNext (.ref I) >>= _) _ _ s
    refine wpAny_bind (Wk.item i s _ _ hlt hst fun v h' tk hPv hst' hm=>?_)
    obtain ⟨c,hS'⟩:=hS.at fun o e=>hm S o hSw e
    show wpAny _ A.in1 (updateSeq S (·.push v) >>= _) _ _ _
    refine wpAny_bind ?_
    have hsz:((base++acc).toArray).size≤sizeLine:=by simp [hacc];omega
    refine wpAny_updateSeq (s:={ s with heap:=h',toks:=tk }) hS' rfl (wpAny_pure ⟨plainId_quiet F.plain_extend_loop _,ih (i+1) _ (acc++[v]) (by omega) hlt (by simp [hacc]) (Wk.frame _ h' _ hst' fun b hb o e=>?_) ⟨c+1,?_⟩ (fun j u hj=>?_) fun h'' tk' acc' hl hS'' hP' hm''=>?_⟩)
      hsz (by show ((base++acc).toArray.push v).size≤sizeLine+1;rw [Array.size_push];omega)
    · exact (Heap.get?_update_other _ _ (fun h:S=b=>hSf (by rw [h];exact hb))).trans e
    · have:=Heap.get?_update_self (h:=h') (Obj.mapSeq fun x=>x.push v) hS' (by rw [Obj.mapSeq_push_plain];rfl)
      rw [Obj.mapSeq_push_plain] at this
      rw [show (base++(acc++[v])).toArray=(base++acc).toArray.push v by simp]
      exact this
    · by_cases hj':j<acc.length
      · rw [List.getElem?_append_left hj'] at hj;exact hP j u hj
      · rw [List.getElem?_append_right (by omega)] at hj
        have e1:j-acc.length=0:=by
          have:=(List.getElem?_eq_some_iff.mp hj).1
          simp at this;omega
        rw [e1] at hj
        have e2:j=i:=by omega
        simp at hj
        rw [e2,← hj];exact hPv
    · refine hR h'' tk' acc' hl hS'' hP' fun b o hbS hb e=>hm'' b o hbS hb ?_
      exact (Heap.get?_update_other _ _ (Ne.symm hbS)).trans (hm b o hb e)
theorem reverse_of_get {items:Array Value} {acc:List Value} (hl:acc.length=items.size) (h:∀ j v,acc[j]? = some v→items[items.size-1-j]? = some v):acc=items.toList.reverse:=by
  apply List.ext_getElem?
  intro j
  by_cases hj:j<acc.length
  · have e:=List.getElem?_eq_getElem hj
    rw [e,List.getElem?_reverse (by simpa [hl] using hj)]
    have:=h j _ e
    simpa using this.symm
  · rw [List.getElem?_eq_none (by omega),List.getElem?_eq_none (by simp;omega)]
theorem plain_touch {h:Heap} {S:Addr} {its:Array Value} (x:h.PlainList S its):((h.update S (Obj.mapSeq (·.push Value.none))).update S (Obj.mapSeq (·.pop))).PlainList S its:=by
  obtain ⟨c,e⟩:=x
  have e1:=Heap.get?_update_self (h:=h) (Obj.mapSeq (·.push Value.none)) e (by rw [Obj.mapSeq_push_plain];rfl)
  rw [Obj.mapSeq_push_plain] at e1
  have e2:=Heap.get?_update_self (Obj.mapSeq (·.pop)) e1 rfl
  have e3 : ∃ n, Obj.mapSeq (fun x => x.pop) { cls := Value.type "list", data := Data.seq (its.push Value.none) (c + 1) } = { cls := .type "list", data := .seq its n } := by
    simp [Obj.mapSeq]
  obtain ⟨n,e3⟩:=e3
  exact ⟨n,by rw [e2,e3]⟩
theorem wpAny_extend_rv (hh:A.handled=none) (S I t:Addr) (res:Value) (base:List Value) {items:Array Value} (hz:items.size≤sizeLine) (hn:base.length+items.size≤sizeLine) (hb1:base.length+1≤sizeLine) (hS:s.heap.PlainList S base.toArray) (hit:IsRv s.heap I t ((items.size:Int)-1)) (ht:IsTup s.heap t items)
    (hR:∀ h' tk,h'.PlainList S (base++items.toList.reverse).toArray→(∀ b o,b≠S→b≠I→s.heap.get? b=some o→h'.get? b=some o)→R (.ok (.ret res)) { s with heap:=h',toks:=tk }) :
    wpAny (model prog w) A.in1 (Builtin.List.listExtendWith (.ref S) (.ref I) res)
      (fun fin s'=>match fin with | .done f=>R (.ok f) s' | .again c'=>c'.quiet=true∧codeAny (model prog w) A c' R s') (fun e s'=>R (.error e) s') s:=by
  obtain ⟨c,hS0⟩:=id hS
  have hSI:S≠I:=by
    rintro rfl
    obtain ⟨o,ho,hc,_⟩:=hit
    rw [hS0] at ho;cases ho;simp at hc
  have hSt:S≠t:=by
    rintro rfl
    obtain ⟨o,ho,hc,_⟩:=ht
    rw [hS0] at ho;cases ho;simp at hc
  have htI:t≠I:=by
    rintro rfl
    obtain ⟨o,ho,hc,_⟩:=ht
    obtain ⟨o',ho',hc',_⟩:=hit
    rw [ho] at ho';cases ho';rw [hc] at hc';exact absurd hc' (by decide)
  have Wk:=rvWalks (prog:=prog) (w:=w) (A:=A.in1) hh I t htI items hz
  have st0:(fun i h=>i≤items.size∧IsRv h I t ((items.size:Int)-1-(i:Int))∧IsTup h t items) 0 s.heap:=⟨Nat.zero_le _,by simpa using hit,ht⟩
  have hSf:S ∉ [I,t]:=by simp [hSI,hSt]
  unfold Builtin.List.listExtendWith
  refine wpAny_bind (wpAny_typeOf hit.typeIs ?_)
  have h1:Builtin.List.listSameRef (.ref S) (.ref I)=false:=by simp [Builtin.List.listSameRef,hSI]
  have h2:(Value.type "reversed" == Value.type "list") = false:=by decide
  have h3:(Value.type "reversed" == Value.type "tuple") = false:=by decide
  refine w_no (by rw [h1,h2,h3];exact Bool.false_ne_true) ?_
  refine wpAny_bind (wpAny_pyIter_rv hit ?_)
  refine wpAny_bind (wpAny_holding (wpAny_hint_rv hz hit ht fun room tk=>?_))
  have fin:∀ (h1:Heap),h1.PlainList S base.toArray→(∀ b o,b≠S→s.heap.get? b=some o→h1.get? b=some o) →
      codeAny (model prog w) A (.builtin "list.extend.loop" ⟨[.ref S,.ref I,res],[]⟩) R { s with heap:=h1,toks:=tk }:=by
    intro h1 hS1 hk1
    refine extend_loop_walk Wk S hSf res base hn items.size 0 _ [] rfl (Nat.zero_le _) rfl (Wk.frame 0 s.heap h1 st0 fun b hb o e=>hk1 b o (fun q=>hSf (q▸hb)) e) (by simpa using hS1) (fun j v hj=>by simp at hj) fun h' tk' acc' hl hS' hP hm=>?_
    rw [reverse_of_get hl hP] at hS'
    exact hR h' tk' hS' fun b o hb hbI e=>hm b o hb (by simpa using hbI) (hk1 b o hb e)
  refine wpAny_ite_split (fun hr=>?_) fun hr=>?_
  · refine wpAny_bind (wpAny_rule ?_)
    refine wpAny_bind ?_
    show wpAny _ A.in1 (updateSeq S (·.push .none) >>= fun _=>updateSeq S (·.pop)) _ _ _
    have hb:base.toArray.size≤sizeLine:=by simp;omega
    refine wpAny_bind (wpAny_updateSeq (s:={ s with toks:=tk }) hS0 rfl ?_ hb (by show (base.toArray.push Value.none).size≤sizeLine+1;rw [Array.size_push];omega))
    have hS₂:=Heap.get?_update_self (h:=s.heap) (Obj.mapSeq (·.push Value.none)) hS0 (by rw [Obj.mapSeq_push_plain];rfl)
    rw [Obj.mapSeq_push_plain] at hS₂
    refine wpAny_updateSeq (s:={ s with heap:=s.heap.update S (Obj.mapSeq (·.push Value.none)),toks:=tk }) hS₂ rfl ?_ (by show (base.toArray.push Value.none).size≤sizeLine;rw [Array.size_push];simpa using hb1) (by show (base.toArray.push Value.none).pop.size≤sizeLine+1;rw [Array.size_pop,Array.size_push];omega)
    refine wpAny_pure ⟨plainId_quiet F.plain_extend_loop _,fin _ (plain_touch hS) fun b o hb e=>?_⟩
    exact (Heap.get?_update_other _ _ (Ne.symm hb)).trans ((Heap.get?_update_other _ _ (Ne.symm hb)).trans e)
  · exact wpAny_pure ⟨plainId_quiet F.plain_extend_loop _,fin s.heap hS fun b o _ e=>e⟩
theorem call_extend_rv (hh:A.handled=none) (S I t:Addr) (base:List Value) {items:Array Value} {Q:Value→Shared→Prop} (hz:items.size≤sizeLine) (hn:base.length+items.size≤sizeLine) (hb1:base.length+1≤sizeLine) (hS:s.heap.PlainList S base.toArray)
    (hit:IsRv s.heap I t ((items.size:Int)-1)) (ht:IsTup s.heap t items)
    (hQ:∀ h' tk,h'.PlainList S (base++items.toList.reverse).toArray→(∀ b o,b≠S→b≠I→s.heap.get? b=some o→h'.get? b=some o)→Q .none { s with heap:=h',toks:=tk }) :
    wpAny (model prog w) A (call (.builtin "list.extend") [.ref S,.ref I]) Q E s :=
  wpAny_call (codeAny_call_builtin PySem.F.slot_list_extend.plain PySem.F.entry_list_extend (PySem.F.slot_list_extend.check _ _ _ _ _ _ _ _ hS.isList.typeIs (PySem.F.args_list_extend_2 _ _)
    (wpAny_extend_rv (R:=fun r s'=>match r with | .ok (.ret v)=>Q v s' | .ok _=>False | .error e=>E e s') hh S I t .none base hz hn hb1 hS hit ht fun h' tk a b=>hQ h' tk a b)))
theorem call_list_rv (hh:A.handled=none) {I t:Addr} {items:Array Value} {Q:Value→Shared→Prop} (hz:items.size≤sizeLine) (hit:IsRv s.heap I t ((items.size:Int)-1)) (ht:IsTup s.heap t items)
    (hQ:∀ h' tk,h'.PlainList s.heap.objs.size items.toList.reverse.toArray→(∀ b o,b≠I→s.heap.get? b=some o→h'.get? b=some o)→Q (.ref s.heap.objs.size) { s with heap:=h',toks:=tk }) :
    wpAny (model prog w) A (call (.type "list") [.ref I]) Q E s:=by
  refine callType_codes (Q₁:=fun obj s₁ => obj = .ref s.heap.objs.size ∧ s₁ = { s with heap:=s.heap.push { cls:=.type "list",data:=.seq #[] } }) PySem.F.called_list (PySem.F.typeCall_list_1 _) PySem.F.entry_list_init
    (code_list_new _ ⟨rfl,rfl⟩) fun obj s₁ h₁=>?_
  obtain ⟨rfl,rfl⟩:=h₁
  have hS : (s.heap.push { cls := .type "list", data := .seq #[] }).get? s.heap.objs.size = some { cls := .type "list", data := .seq #[] } := Heap.get?_push_size _ rfl
  have k:=fun b o (e:s.heap.get? b = some o) => Heap.get?_push_of_some { cls:=.type "list",data:=.seq #[] } e
  have hne:∀ b o,s.heap.get? b=some o→b≠s.heap.objs.size:=fun b o e q=>Nat.lt_irrefl _ (q▸Heap.lt_size e)
  refine ⟨⟨_,hS,rfl⟩,PySem.F.args_list_init_2 _ _,?_⟩
  show wpAny _ A.in1.in1 (do let old ← Builtin.List.listItems (.ref s.heap.objs.size);Builtin.List.listUpdate (.ref s.heap.objs.size) (fun _=>#[]);letGo old.toList.reverse;Builtin.List.listExtendWith (.ref s.heap.objs.size) (.ref I) .none) _ _ _
  refine wpAny_bind ?_
  unfold Builtin.List.listItems
  refine wpAny_bind (wpAny_seqItems hS rfl (wpAny_pure ?_))
  show wpAny _ A.in1.in1 (updateSeq s.heap.objs.size (fun _=>#[]) >>= fun _=>letGo (#[]:Array Value).toList.reverse >>= fun _=>Builtin.List.listExtendWith (.ref s.heap.objs.size) (.ref I) .none) _ _ _
  refine wpAny_bind (wpAny_updateSeq hS rfl ?_)
  have hS₂:=Heap.get?_update_self (Obj.mapSeq (fun _=>(#[]:Array Value))) hS rfl
  have oth:∀ b o,s.heap.get? b = some o → ((s.heap.push { cls:=.type "list",data:=.seq #[] }).update s.heap.objs.size (Obj.mapSeq (fun _ => (#[]:Array Value)))).get? b = some o :=
    fun b o e=>(Heap.get?_update_other _ _ (Ne.symm (hne b o e))).trans (k b o e)
  refine wpAny_bind (wpAny_letGo ?_)
  have htI:∀ o,s.heap.get? I=some o→_:=fun o e=>oth I o e
  refine wpAny_extend_rv (A:=A.in1) (s:={ s with heap:=(s.heap.push { cls:=.type "list",data:=.seq #[] }).update s.heap.objs.size (Obj.mapSeq (fun _ => (#[]:Array Value))) }) (R:=wants (fun r s₂ => r = .none ∧ Q (.ref s.heap.objs.size) s₂) E) hh s.heap.objs.size I t .none [] hz (by simpa using hz) (by decide)
    ⟨_,by simpa [Obj.mapSeq] using hS₂⟩ (hit.at fun o e=>oth I o e) ((by obtain ⟨o,ho,r⟩:=ht;exact ⟨o,oth t o ho,r⟩)) fun h' tk a b=>⟨rfl,hQ h' tk (by simpa using a) fun b' o hb e=>b b' o (hne b' o e) hb (oth b' o e)⟩
end
end LY.Internal
end

section
open PySem PySem.W PySem.Calls PyProof.Rows PySem.SeqAt
namespace LY.Internal
variable {W:Wd} {f:Fm} {c c':Cf} {m:Lo} {h h':Heap} {H H':Hp} {s s':Shared} {A:Around} {E:Value→Shared→Prop} {n:Nat} {C:CallP}
  {ma mb md:ME} {ea eb ed:Expr} {pos np:Pos}
noncomputable def bltNames : List (Str × Value) := [("len", .builtin "len"), ("range", .type "range"), ("reversed", .type "reversed"), ("sorted", .builtin "sorted"), ("set", .type "set"),
  ("list", .type "list"), ("dict", .type "dict"), ("sum", .builtin "sum"), ("max", .builtin "max"), ("str", .type "str"), ("tuple", .type "tuple"), ("isinstance", .builtin "isinstance"), ("int", .type "int")]
theorem bm (i:Nat) {p:Str × Value} (h:bltNames[i]? = some p):p∈bltNames:=List.mem_of_getElem? h
theorem dbg : ∀ p ∈ bltNames, (p.1 == ("__debug__" : Str)) = false := fun _ h => (Bool.not_eq_true' _).mp (List.all_eq_true.1 (by decide : bltNames.all (fun p => !(p.1 == ("__debug__" : Str))) = true) _ h)
structure Wn (W:Wd):Prop where
  blt:∀ p∈bltNames,W.mg p.1=none∧W.mb p.1=some p.2
  gEnd:∃ t,W.mg "END" = some (.str "eof" t)
  gClose : ∃ a o n t t', W.mg "CLOSE" = some (.ref a) ∧ W.h₀.get? a = some o ∧ o.cls = .type "tuple" ∧ o.data = .seq #[.str "close" t, .str "" t'] n
theorem evalGlobal {x:Str} {v:Value} {T:Value→Shared→Prop} (k:Wk W) (ok:Ok W c H s.heap) (F:FOk W f c m s.heap) (hx:f.env.kindOf x=some .globalImplicit) (hv:W.mg x=some v) (q:T v s)
    (hd:(x == ("__debug__":Str)) = false):wpAny W.M A (eval (.Name x np) f.env) T E s :=
  Name_function_global F.kind hx (loadGlobal_global (by rw [F.glob];exact k.T.g.keeps ok.base) hv q) hd
theorem evalBlt {x:Str} {v:Value} {T:Value→Shared→Prop} (k:Wk W) (wn:Wn W) (ok:Ok W c H s.heap) (F:FOk W f c m s.heap) (hx:f.env.kindOf x=some .globalImplicit) (hm:(x,v)∈bltNames) (q:T v s):wpAny W.M A (eval (.Name x np) f.env) T E s :=
  Name_function_global F.kind hx (loadGlobal_builtin (by rw [F.glob];exact k.T.g.keeps ok.base) (wn.blt _ hm).1 (by rw [F.blt];exact k.T.b.keeps ok.base) (wn.blt _ hm).2 q) (dbg _ hm)
theorem ev_gEnd (k : Wk W) (wn : Wn W) (hx : f.env.kindOf "END" = some .globalImplicit) : EvOk W n f (vcE C .gEnd) (.Name "END" pos) := by
  intro A E m c H s Q hr ok F p
  obtain ⟨t,ht⟩:=wn.gEnd
  exact evalGlobal k ok F hx ht (.now ok .ofStr p) (by decide)
theorem ev_gClose (k : Wk W) (wn : Wn W) (hx : f.env.kindOf "CLOSE" = some .globalImplicit) : EvOk W n f (vcE C .gClose) (.Name "CLOSE" pos) := by
  intro A E m c H s Q hr ok F p
  obtain ⟨a,o,j,t,t',ha,ho,hc,hd⟩:=wn.gClose
  refine evalGlobal k ok F hx ha (.now ok ?_ p) (by decide)
  have hfree:c.free a:=⟨fun hm=>(by rw [(ok.hid a hm).1] at ho;cases ho),fun hm=>(by rw [(ok.hidX a hm).1] at ho;cases ho)⟩
  show VRep W c s.heap (.tup [.str "close", .str ""]) (.ref a)
  show ∃ a items,_
  exact ⟨a,_,rfl,⟨hfree,o,ok.base _ _ ho,hc,j,hd⟩,(by decide:(2:Nat)≤sizeLine),VReps.cons .ofStr (VReps.cons .ofStr VReps.nil)⟩
theorem callB {x:Str} {fv:Value} {T:Value→Shared→Prop} (k:Wk W) (wn:Wn W) (ok:Ok W c H s.heap) (F:FOk W f c m s.heap) (hx:f.env.kindOf x=some .globalImplicit) (hm:(x,fv)∈bltNames)
    (hv:(∃ id,fv=.builtin id)∨∃ T,fv=.type T) (hs:notStar ea=true)
    (h:wpAny W.M A (eval ea f.env) (fun V s1=>wpAny W.M A (call fv [V]) T E s1) E s):wpAny W.M A (eval (.Call (.Name x np) [ea] [] pos) f.env) T E s:=by
  refine Call_ (evalBlt k wn ok F hx hm ?_)
  have he:=starEach_plain ea [] f.env hs
  have hargs:wpAny W.M A (spliced (backTo pos (starEach [ea] f.env))) (fun vs s1=>wpAny W.M A (call fv vs) T E s1) E s :=
    wpAny_items_cons (wpAny_mono h (fun V s1 h1=>wpAny_items_nil h1) fun _ _ e=>e) he
  rcases hv with ⟨id,rfl⟩ | ⟨Ty,rfl⟩
  · exact callWith_builtin1 hargs he
  · rw [he] at hargs ⊢
    exact PySem.callWith_type rfl (evalArgs_plain hargs)
theorem callB2 {x:Str} {fv:Value} {T:Value→Shared→Prop} (k:Wk W) (wn:Wn W) (ok:Ok W c H s.heap) (F:FOk W f c m s.heap) (hx:f.env.kindOf x=some .globalImplicit) (hm:(x,fv)∈bltNames)
    (hv:∃ id,fv=.builtin id) (hs:notStar ea=true) (hs2:notStar eb=true)
    (h:wpAny W.M A (eval ea f.env) (fun V s1=>wpAny W.M A (eval eb f.env) (fun U s2=>wpAny W.M A (call fv [V,U]) T E s2) E s1) E s):wpAny W.M A (eval (.Call (.Name x np) [ea,eb] [] pos) f.env) T E s:=by
  refine Call_ (evalBlt k wn ok F hx hm ?_)
  obtain ⟨id,rfl⟩:=hv
  have he2:=starEach_plain eb [] f.env hs2
  refine callWith_builtin1 ?_ (starEach_plain ea [eb] f.env hs) (by rw [he2];rfl)
  exact wpAny_items_cons (wpAny_mono h (fun V s1 h1=>wpAny_items_cons (wpAny_mono h1 (fun U s2 h2=>wpAny_items_nil h2) fun _ _ e=>e) he2) fun _ _ e=>e) (starEach_plain ea [eb] f.env hs)
theorem ev_b1 {x:Str} {fv:Value} {Pa P:Lo→Hp→QV→Prop} (k:Wk W) (wn:Wn W) (hx:f.env.kindOf x=some .globalImplicit) (hm:(x,fv)∈bltNames)
    (hv:(∃ id,fv=.builtin id)∨∃ T,fv=.type T) (hs:notStar ea=true) (ha:EvOk W n f Pa ea) (R:QV→QV) (hP:∀ m H Q,P m H Q→Pa m H (R Q))
    (t:∀ A E c H s Q x V,Room n A→Ok W c H s.heap→VRep W c s.heap x V→R Q x H→wpAny W.M A (call fv [V]) (PostV W c s Q) E s):EvOk W n f P (.Call (.Name x np) [ea] [] pos):=by
  intro A E m c H s Q hr ok F p
  refine callB k wn ok F hx hm hv hs (ev1 ha hr ok F (hP _ _ _ p) fun c1 H1 s1 x V st ok1 F1 r q=>?_)
  exact wpAny_mono (t A E c1 H1 s1 Q x V hr ok1 r q) (fun _ _ h=>h.after st ok1) fun _ _ e=>e
theorem ref3_some {α:Type} {z:α} {o:Option AO} {f1:List AV→Option α} {f2:List (Str × AV)→Option α} {f3:List (Int × AV)→Option α} {P:AO→Prop} (e:(match o with | some (.list l)=>f1 l | some (.dS l)=>f2 l | some (.dI l)=>f3 l | _=>none)=some z)
    (h1:∀ l,f1 l=some z→P (.list l)) (h2:∀ l,f2 l=some z→P (.dS l)) (h3:∀ l,f3 l=some z→P (.dI l)):∃ q,o=some q∧P q:=by
  cases o with
  | none=>exact nope' e
  | some o=>cases o with
    | list l=>exact ⟨_,rfl,h1 l e⟩
    | dS l=>exact ⟨_,rfl,h2 l e⟩
    | dI l=>exact ⟨_,rfl,h3 l e⟩
    | _=>exact nope' e
theorem len_some {x:AV} {j:Nat} {P:AV→Prop} (e:lenAV H x=some j) (h1:∀ l:List AV,l.length=j→P (.tup l)) (h2:∀ l:List AV,l.length=j→P (.lst l)) (h3:∀ k l,l.length=j→H k=some (.list l)→P (.ref k)) (h4:∀ k l,l.length=j→H k=some (.dS l)→P (.ref k))
    (h5:∀ k l,l.length=j→H k=some (.dI l)→P (.ref k)):P x:=by
  cases x with
  | tup l=>exact h1 l (Option.some.inj e)
  | lst l=>exact h2 l (Option.some.inj e)
  | ref k =>
    obtain ⟨q,hq,p⟩:=ref3_some (P:=fun q=>H k=some q→P (.ref k)) (f1:=fun l=>some l.length) (f2:=fun l=>some l.length) (f3:=fun l=>some l.length) (show (match H k with | some (.list l)=>some l.length | some (.dS l)=>some l.length | some (.dI l)=>some l.length | _=>none)=some j from e)
      (fun l e q=>h3 k l (Option.some.inj e) q) (fun l e q=>h4 k l (Option.some.inj e) q) (fun l e q=>h5 k l (Option.some.inj e) q)
    exact p hq
  | _=>exact nope' e
theorem len_lst {a:Addr} {items:Array Value} {l:List AV} {T:Value → Shared → Prop} (hl:s.heap.IsList a items) (hz:items.size ≤ sizeLine) (r:VReps W c s.heap l items.toList) (q:∀ t t',T (.int l.length t) { s with toks:=t' }):wpAny W.M A (call (.builtin "len") [.ref a]) T E s:=by
  have hl2:=r.length
  rw [Array.length_toList] at hl2
  rw [sizeLine_eq] at hz
  rw [← hl2] at q
  exact call_len_list hl (by omega) (q _ _)
theorem len_dct {κ:Type} [DecidableEq κ] {kd:PySem.KeyKind W.prog W.w κ} {a:Addr} {kvs:List (κ × Value)} {l:List (κ × AV)} {T:Value → Shared → Prop} (low:(a == sysModules) = false) (hd:s.heap.DictOf kd a kvs) (hz:kvs.length ≤ sizeLine) (hk:kvs.map (·.1) = l.map (·.1)) (q:∀ t t',T (.int l.length t) { s with toks:=t' }):wpAny W.M A (call (.builtin "len") [.ref a]) T E s:=by
  have hl:kvs.length=l.length:=(List.length_map _).symm.trans ((congrArg List.length hk).trans (List.length_map _))
  rw [sizeLine_eq] at hz
  rw [← hl] at q
  exact call_len_dict low hd (by omega) (q _ _)
theorem len_ok {x:AV} {V:Value} {j:Nat} (ok:Ok W c H s.heap) (r:VRep W c s.heap x V) (e:lenAV H x=some j) {T:Value→Shared→Prop} (q:∀ t t',T (.int j t) { s with toks:=t' }) :
    wpAny W.M A (call (.builtin "len") [V]) T E s:=by
  refine len_some (P:=fun x=>VRep W c s.heap x V→_) e (fun l hl r=>?_) (fun l hl r=>?_) (fun k l hl hk r=>?_) (fun k l hl hk r=>?_) (fun k l hl hk r=>?_) r <;> subst hl
  · obtain ⟨a,items,rfl,sq,hz,r⟩:=r.tup
    have hl:=r.length
    rw [Array.length_toList] at hl
    rw [sizeLine_eq] at hz
    rw [← hl] at q
    exact PyProof.Rows.len_tuple sq.isTup (by omega) (q _ _)
  · obtain ⟨a,items,rfl,sq,hz,r⟩:=r.lst
    exact len_lst sq.isList hz r q
  · obtain ⟨a,e1,rfl⟩:=r.ref
    obtain ⟨b,e3,items,p,hz,r⟩:=ok.obj k _ hk
    obtain rfl:=Option.some.inj (e1.symm.trans e3)
    exact len_lst p.isList hz r q
  · obtain ⟨a,e1,rfl⟩:=r.ref
    obtain ⟨b,kvs,e3,low,hd,hz,hkeys,hv⟩:=dictS_rep ok hk
    obtain rfl:=Option.some.inj (e1.symm.trans e3)
    exact len_dct low hd hz hkeys q
  · obtain ⟨a,e1,rfl⟩:=r.ref
    obtain ⟨b,kvs,e3,low,hd,hz,hkeys,hv⟩:=dictI_rep ok hk
    obtain rfl:=Option.some.inj (e1.symm.trans e3)
    exact len_dct low hd hz hkeys q
theorem ev_len (k : Wk W) (wn : Wn W) (hx : f.env.kindOf "len" = some .globalImplicit) (hs : notStar ea = true) (ha : EvOk W n f (vcE C ma) ea) : EvOk W n f (vcE C (.len ma)) (.Call (.Name "len" np) [ea] [] pos) :=
  ev_b1 k wn hx (bm 0 rfl) (Or.inl ⟨_,rfl⟩) hs ha (fun Q x H1=>∃ j,lenAV H1 x=some j∧Q (.int j) H1) (fun _ _ _ p=>p) fun A E c H s Q x V hr ok r q=>by
    obtain ⟨j,e,q⟩:=q
    exact len_ok ok r e fun t t'=>PostV.nowTok ok .ofInt q
theorem PostV.newLst {Q:QV} {l:List AV} {items:Array Value} {a:Addr} {t:Nat} (ok:Ok W c H s.heap) (hn:s.heap.get? a=none) (k:∀ b o,s.heap.get? b=some o→h'.get? b=some o) (hl:h'.IsList a items) (hz:items.size≤sizeLine)
    (r:VReps W c s.heap l items.toList) (q:Q (.lst l) H):PostV W c s Q (.ref a) { s with heap:=h',toks:=t }:=by
  refine ⟨c,H,.lst l,Step.ofKeep k rfl rfl,ok.keepAll k,?_,q⟩
  show ∃ a items,_
  exact ⟨a,items,rfl,⟨ok.free_size hn,hl⟩,hz,VReps.later (later_keep k) l r⟩
theorem ev_list (k : Wk W) (wn : Wn W) (hx : f.env.kindOf "list" = some .globalImplicit) (hs : notStar ea = true) (ha : EvOk W n f (vcE C ma) ea) : EvOk W n f (vcE C (.list ma)) (.Call (.Name "list" np) [ea] [] pos) :=
  ev_b1 k wn hx (bm 5 rfl) (Or.inr ⟨_,rfl⟩) hs ha (fun Q x H1=>∃ l,x=.lst l∧Q (.lst l) H1) (fun _ _ _ p=>p) fun A E c H s Q x V hr ok r q=>by
    obtain ⟨l,rfl,q⟩:=q
    obtain ⟨a,items,rfl,sq,hz,r⟩:=r.lst
    obtain ⟨o,ho,hc,j,hd⟩:=sq.isList
    refine call_list_seq (hsz:=hz) a (.inl rfl) ho hc hd fun h' c' hk hD=>?_
    exact PostV.newLst (t:=s.toks) ok (get?_none_of_size (Nat.le_refl _)) hk ⟨_,hD,rfl,c',rfl⟩ hz r q
theorem ev_listRev (k : Wk W) (wn : Wn W) {np' pos' : Pos} (hx : f.env.kindOf "list" = some .globalImplicit) (hx' : f.env.kindOf "reversed" = some .globalImplicit) (hs : notStar ea = true) (ha : EvOk W n f (vcE C ma) ea) :
    EvOk W n f (vcE C (.listRev ma)) (.Call (.Name "list" np) [.Call (.Name "reversed" np') [ea] [] pos'] [] pos):=by
  intro A E m c H s Q hr ok F p
  refine callB k wn ok F hx (bm 5 rfl) (Or.inr ⟨_,rfl⟩) rfl (callB k wn ok F hx' (bm 2 rfl) (Or.inr ⟨_,rfl⟩) hs (ev1 ha hr ok F p fun c1 H1 s1 x V st ok1 F1 r q=>?_))
  obtain ⟨l,rfl,q⟩:=q
  obtain ⟨a,items,rfl,sq,hz,r⟩:=r.tup
  have kp:=push_keeps s1.heap (rvObj a ((items.size:Int)-1))
  refine call_reversed_tuple sq.isTup hz ?_
  refine call_list_rv hr.handled hz (s:={ s1 with heap:=s1.heap.push (rvObj a ((items.size:Int)-1)),toks:=s1.toks+1+1 }) ⟨_,Heap.get?_push_size _ rfl,rfl,rfl⟩ (sq.isTup.keeps kp) fun h' tk hl hk=>?_
  have hk':∀ b o,s1.heap.get? b=some o→h'.get? b=some o:=fun b o e=>hk b o (fun q=>Nat.lt_irrefl _ (q▸Heap.lt_size e)) (kp b o e)
  refine (PostV.newLst (t:=tk) (l:=l.reverse) ok1 ?_ hk' hl.isList (by simpa using hz) (by simpa using r.reverse) q).after st ok1
  rw [Heap.size_push]
  exact get?_none_of_size (Nat.le_succ _)
theorem nodup_of_dict {κ:Type} [DecidableEq κ] {knd:KeyKind W.prog W.w κ} {a:Addr} {kvs:List (κ × Value)} (x:h.DictOf knd a kvs):(kvs.map (·.1)).Nodup:=(by obtain ⟨_,_,_,_,_,_,_,_,hn⟩:=x;exact hn)
theorem ev_dict (k : Wk W) (wn : Wn W) (hx : f.env.kindOf "dict" = some .globalImplicit) (hs : notStar ea = true) (ha : EvOk W n f (vcE C ma) ea) : EvOk W n f (vcE C (.dict ma)) (.Call (.Name "dict" np) [ea] [] pos) :=
  ev_b1 k wn hx (bm 6 rfl) (Or.inr ⟨_,rfl⟩) hs ha (fun Q x H1=>∃ j l,x=.ref j∧H1 j=some (.dS l)∧∀ k,H1 k=none→Q (.ref k) (H1.set k (.dS l))) (fun _ _ _ p=>p) fun A E c H s Q x V hr ok r q=>by
    obtain ⟨j,l,rfl,hj,q⟩:=q
    obtain ⟨a,e1,rfl⟩:=r.ref
    obtain ⟨b,kvs,e3,low,hd,hz,hkeys,hv⟩:=dictS_rep ok hj
    obtain rfl:=Option.some.inj (e1.symm.trans e3)
    refine kt_call_dict low hd hz fun h' hd' hs'=>?_
    have hn:s.heap.get? s.heap.objs.size=none:=get?_none_of_size (Nat.le_refl _)
    have kp:∀ b o,s.heap.get? b=some o→h'.get? b=some o:=fun b o e=>(hs'.2 b (fun q=>Nat.lt_irrefl _ (q▸Heap.lt_size e))).trans (Heap.get?_push_of_some _ e)
    have L:Later c s.heap (c.add s.heap.objs.size) h':=by
      refine ⟨List.prefix_append _ _,fun b ob' fr e'=>⟨⟨fun hb=>?_,fr.2⟩,kp b ob' e'⟩⟩
      rcases List.mem_append.mp hb with hb | hb
      · exact fr.1 hb
      · rw [List.mem_singleton.mp hb] at e';rw [hn] at e';cases e'
    obtain ⟨o,_,_,ho,_⟩:=id hd'
    obtain ⟨ok',L'⟩:=ok.alloc (o:=.dS l) kp hn ⟨kvs,hd',hz,hkeys,VReps.later L _ hv⟩ ⟨o,ho⟩ (by simpa using ok.low_size k (n:=0))
    exact ⟨c.add s.heap.objs.size,_,.ref c.σ.length,Step.ofAlloc hn kp rfl rfl,ok',by show ∃ a,_;exact ⟨_,Cf.add_get c _,rfl⟩,q _ ok.none_len⟩
theorem ints_are {l:List AV} {u:List Int} {Vs:List Value} (e:intsOf l=some u) (r:VReps W c h l Vs):IntsAre Vs u:=by
  obtain rfl:=ints_eq e
  clear e
  induction u generalizing Vs with
  | nil=>rw [r.nil_inv];exact .nil
  | cons i u ih =>
    obtain ⟨V,Vs',rfl,p,q⟩:=r.cons_inv
    obtain ⟨t,rfl⟩:=p.int
    exact .cons i t (ih q)
theorem strs_are {l:List AV} {u:List Str} {Vs:List Value} (e:strsOf l=some u) (r:VReps W c h l Vs):StrsAre Vs u:=by
  obtain rfl:=strs_eq e
  clear e
  induction u generalizing Vs with
  | nil=>rw [r.nil_inv];exact .nil
  | cons i u ih =>
    obtain ⟨V,Vs',rfl,p,q⟩:=r.cons_inv
    obtain ⟨t,rfl⟩:=p.str
    exact .cons i t (ih q)
theorem reps_ints {u:List Int} {Vs:List Value} (x:IntsAre Vs u):VReps W c h (u.map .int) Vs:=by
  induction x with
  | nil=>exact .nil
  | cons i t _ ih=>exact .cons .ofInt ih
theorem reps_strs {u:List Str} {Vs:List Value} (x:StrsAre Vs u):VReps W c h (u.map .str) Vs:=by
  induction x with
  | nil=>exact .nil
  | cons i t _ ih=>exact .cons .ofStr ih
theorem int_items {u:List Int} {Vs:List Value} (x:IntsAre Vs u):∃ xs:Array (Int × Tok),Vs.toArray=intItems xs∧xs.size=u.length∧∀ j,numAt xs j=u.getD j 0:=by
  suffices h:∃ xs:List (Int × Tok),Vs=xs.map (fun p=>.int p.1 p.2)∧xs.map (·.1)=u by
    obtain ⟨xs,rfl,rfl⟩:=h
    refine ⟨xs.toArray,by simp [intItems],by simp,fun j=>?_⟩
    simp [numAt,List.getD]
  induction x with
  | nil=>exact ⟨[],rfl,rfl⟩
  | @cons i t Vs u r ih =>
    obtain ⟨xs,rfl,rfl⟩:=ih
    exact ⟨(i,t)::xs,rfl,rfl⟩
theorem preSum_eq (u:List Int):∀ j,j≤u.length→preSum (fun i=>u.getD i 0) j=(u.take j).sum:=by
  intro j
  induction j with
  | zero=>intro _;rfl
  | succ j ih =>
    intro hj
    have hj':j<u.length:=hj
    rw [preSum,ih (by omega)]
    rw [List.take_succ_eq_append_getElem hj',List.sum_append]
    simp [hj']
theorem ev_sum (k : Wk W) (wn : Wn W) (hx : f.env.kindOf "sum" = some .globalImplicit) (hs : notStar ea = true) (ha : EvOk W n f (vcE C ma) ea) : EvOk W n f (vcE C (.sum ma)) (.Call (.Name "sum" np) [ea] [] pos) :=
  ev_b1 k wn hx (bm 7 rfl) (Or.inl ⟨_,rfl⟩) hs ha (fun Q x H1=>∃ l u,listOf H1 x=some l∧intsOf l=some u∧Q (.int u.sum) H1) (fun _ _ _ p=>p) fun A E c H s Q x V hr ok r q=>by
    obtain ⟨l,u,el,eu,q⟩:=q
    obtain ⟨a,items,rfl,hl,hz,r⟩:=listOf_rep ok r el
    obtain ⟨xs,e,hsz,hg⟩:=int_items (ints_are eu r)
    rw [Array.toArray_toList] at e
    rw [e] at hl
    refine sum_intListG hr.handled hl fun h' tk t' hk=>?_
    have e2:preSum (numAt xs) xs.size=u.sum:=by
      rw [show numAt xs=fun i=>u.getD i 0 from funext hg,preSum_eq u xs.size (by omega),hsz,List.take_length]
    rw [e2]
    exact ⟨c,H,_,Step.ofKeep hk rfl rfl,ok.keepAll hk,.ofInt,q⟩
theorem ev_max (k:Wk W) (wn:Wn W) (hx:f.env.kindOf "max" = some .globalImplicit) (hs:notStar ea = true) (hs2:notStar eb = true) (ha:EvOk W n f (vcE C ma) ea) (hb:EvOk W n f (vcE C mb) eb) :
    EvOk W n f (vcE C (.max ma mb)) (.Call (.Name "max" np) [ea,eb] [] pos):=by
  intro A E m c H s Q hr ok F p
  refine callB2 k wn ok F hx (bm 8 rfl) ⟨_,rfl⟩ hs hs2 (ev2 ha hb hr ok F p fun c2 H2 s2 x y V U st ok2 F2 rx ry q=>?_)
  obtain ⟨i,j,rfl,rfl,q⟩:=q
  obtain ⟨t,rfl⟩:=rx.int
  obtain ⟨u,rfl⟩:=ry.int
  refine max_two_ints hr.handled fun h' tk hk=>?_
  refine PostV.after st ok2 ⟨c2,H2,.int (if j > i then j else i),Step.ofKeep hk rfl rfl,ok2.keepAll hk,?_,q⟩
  split <;> exact .ofInt
theorem str_digit:∀ i:Int,0≤i→i≤9→Str.ofString (toString i)=digit i:=by
  intro i h0 h9
  have:i=0∨i=1∨i=2∨i=3∨i=4∨i=5∨i=6∨i=7∨i=8∨i=9:=by omega
  rcases this with rfl | rfl | rfl | rfl | rfl | rfl | rfl | rfl | rfl | rfl <;> decide +kernel
theorem ev_strOf (k : Wk W) (wn : Wn W) (hx : f.env.kindOf "str" = some .globalImplicit) (hs : notStar ea = true) (ha : EvOk W n f (vcE C ma) ea) : EvOk W n f (vcE C (.strOf ma)) (.Call (.Name "str" np) [ea] [] pos) :=
  ev_b1 k wn hx (bm 9 rfl) (Or.inr ⟨_,rfl⟩) hs ha (fun Q x H1=>∃ i,x=.int i∧0≤i∧i≤9∧Q (.str (digit i)) H1) (fun _ _ _ p=>p) fun A E c H s Q x V hr ok r q=>by
    obtain ⟨i,rfl,h0,h9,q⟩:=q
    obtain ⟨t,rfl⟩:=r.int
    refine P.str_of_int ?_ ?_
    · have:i.natAbs≤9:=by omega
      exact Nat.lt_of_le_of_lt (Nat.log2_le_self _) (by omega)
    · rw [str_digit i h0 h9]
      exact PostV.nowTok ok .ofStr q
theorem ev_tuple (k : Wk W) (wn : Wn W) (hx : f.env.kindOf "tuple" = some .globalImplicit) (hs : notStar ea = true) (ha : EvOk W n f (vcE C ma) ea) : EvOk W n f (vcE C (.tuple ma)) (.Call (.Name "tuple" np) [ea] [] pos) :=
  ev_b1 k wn hx (bm 10 rfl) (Or.inr ⟨_,rfl⟩) hs ha (fun Q x H1=>∃ l,listOf H1 x=some l∧Q (.tup l) H1) (fun _ _ _ p=>p) fun A E c H s Q x V hr ok r q=>by
    obtain ⟨l,el,q⟩:=q
    obtain ⟨a,items,rfl,hl,hz,r⟩:=listOf_rep ok r el
    refine call_tuple_list hl (fun h' hk=>?_) hz
    have ok':=ok.keepAll hk
    have:=PostV.seq (s:={ s with heap:=h' }) (t:=s.toks) (Q:=Q) ok' (VReps.later (later_keep hk) l r) (by simpa using hz) (.tup l) "tuple" (Or.inl ⟨rfl,rfl⟩) q
    rw [show items.toList.toArray=items by simp] at this
    exact PostV.after (s':={ s with heap:=h' }) (Step.ofKeep hk rfl rfl) ok' this
theorem ev_isInt (k : Wk W) (wn : Wn W) {p' : Pos} (hx : f.env.kindOf "isinstance" = some .globalImplicit) (hx' : f.env.kindOf "int" = some .globalImplicit) (hs : notStar ea = true) (ha : EvOk W n f (vcE C ma) ea) :
    EvOk W n f (vcE C (.isInt ma)) (.Call (.Name "isinstance" np) [ea, .Name "int" p'] [] pos) := by
  intro A E m c H s Q hr ok F p
  refine callB2 k wn ok F hx (bm 11 rfl) ⟨_,rfl⟩ hs rfl (ev1 ha hr ok F p fun c1 H1 s1 x V st ok1 F1 r q=>?_)
  refine evalBlt k wn ok1 F1 hx' (bm 12 rfl) ?_
  rcases q with ⟨⟨i,rfl⟩,q⟩ | ⟨⟨l,rfl⟩,q⟩
  · obtain ⟨t,rfl⟩:=r.int
    exact IsiPair.int_int ((PostV.now ok1 .ofBool q).after st ok1)
  · obtain ⟨a,items,rfl,sq,hz,r⟩:=r.tup
    obtain ⟨o,ho,hc,_⟩:=sq.isTup
    exact IsiPair.tuple_int ho hc ((PostV.nowTok ok1 .ofBool q).after st ok1)
end LY.Internal
end

section
open PySem PySem.W PySem.Calls PyProof.Rows PySem.SeqAt
namespace LY.Internal
variable {W:Wd} {f:Fm} {c c':Cf} {m:Lo} {h h':Heap} {H H':Hp} {s s':Shared} {A:Around} {E:Value→Shared→Prop} {n:Nat} {C:CallP}
  {ma mb md:ME} {ea eb ed:Expr} {pos np apos:Pos}
noncomputable def baseOk (e:Expr):Bool:=!(e.ctorIdx.beq 16)
theorem attributeBase_ok {o:Expr} (hb:baseOk o=true) (attr:Str) (env:Env) (whole:Sem Value):attributeBase o attr env whole=whole:=by
  cases o <;> first | rfl | cases hb
theorem mcall {M:Model} {o:Expr} {name:Str} {args:List Expr} {env:Env} {Q:Value→Shared→Prop} (hb:baseOk o=true) (hline:(apos.endLine == pos.line)=true)
    (hfew:((backTo pos (starEach args env)).all (fun x=>!x.1) && decide (args.length<30))=true)
    (h:wpAny M A (eval o env) (fun ov s₁=>∀ pl,wpAny M A (getMethod ov name pl) (fun fx s₂=>wpAny M A (callWith pos fx.1 fx.2 (backTo pos (starEach args env)) []) Q E s₂) E s₁) E s) :
    wpAny M A (eval (.Call (.Attribute o name apos) args [] pos) env) Q E s:=by
  rw [arm_eval_Call,attributeBase_ok hb]
  refine wpAny_bind (wpAny_mono h (fun ov s₁ h₁=>wpAny_bind (wpAny_standAt ?_)) fun _ _ e=>e)
  have hform:methodCallForm (args.length+([]:List Keyword).length) (backTo pos (starEach args env)) (backToKw pos (keywordEach [] env))=true:=by
    show (((backTo pos (starEach args env)).all (fun x=>!x.1) && true) && decide (args.length<30))=true
    rw [Bool.and_true];exact hfew
  have hpos:methodCallPos true o env apos pos=pure pos:=by unfold methodCallPos;simp [hline]
  unfold methodCall
  rw [hform]
  unfold calleeOf
  refine wpAny_bind (wpAny_holding ?_)
  rw [if_pos rfl]
  exact wpAny_mono (h₁ _) (fun fx s₂ h₂=>wpAny_bind (wpAny_of_eq hpos h₂)) fun _ _ e=>e
theorem few0 (env:Env):((backTo pos (starEach [] env)).all (fun x=>!x.1) && decide (([]:List Expr).length<30))=true:=rfl
theorem few1 (e:Expr) (env:Env) (hs:notStar e=true):((backTo pos (starEach [e] env)).all (fun x=>!x.1) && decide ([e].length<30))=true:=by
  rw [starEach_plain e [] env hs];rfl
theorem list_rep {k:Nat} {l:List AV} (ok:Ok W c H h) (hk:H k=some (.list l)) :
    ∃ a items,c.σ[k]? = some a∧h.PlainList a items∧items.size≤sizeLine∧VReps W c h l items.toList:=by
  obtain ⟨a,e,items,r⟩:=ok.obj k _ hk
  exact ⟨a,items,e,r⟩
theorem PostV.setList {Q:QV} {k:Nat} {a:Addr} {l':List AV} {items':Array Value} {v:AV} {V:Value} {t:Nat} (ok:Ok W c H s.heap) (hk:c.σ[k]? = some a) (hs:∀ b o,b≠a→s.heap.get? b=some o→h'.get? b=some o)
    (hp:h'.PlainList a items') (hz:items'.size≤sizeLine) (r:VReps W c s.heap l' items'.toList) (rv:VRep W c s.heap v V) (q:Q v (H.set k (.list l'))):PostV W c s Q V { s with heap:=h',toks:=t }:=by
  obtain ⟨j,e⟩:=id hp
  obtain ⟨ok',L⟩:=ok.set (o:=.list l') hk hs (fun c' hc' L=>⟨items',hp,hz,by subst hc';exact VReps.later L _ r⟩) ⟨_,e⟩
  exact ⟨c,_,v,Step.ofSet hk hs rfl rfl,ok',VRep.later L v rv,q⟩
theorem method_ok {name : Str} {id : String} {pl : Sem Bool} {Q : Value × List Value → Shared → Prop} {x : AV} {V : Value} (slot : Slot "list" name id) (hty : typeOf (.builtin id) = pure (.type "method_descriptor"))
    (ok:Ok W c H s.heap) (r:VRep W c s.heap x V) (hx:∃ k l,x=.ref k∧H k=some (.list l)) (q:Q (.builtin id,[V]) s):wpAny W.M A (getMethod V name pl) Q E s:=by
  obtain ⟨k,l,rfl,hk⟩:=hx
  obtain ⟨a,e,rfl⟩:=r.ref
  obtain ⟨b,items,e',hp,_,_⟩:=list_rep ok hk
  obtain rfl:=Option.some.inj (e.symm.trans e')
  obtain ⟨j,ho⟩:=hp
  exact getMethod_builtin ⟨_,ho,rfl⟩ PySem.F.plainAttrs_list slot hty (fun a e=>by cases e;exact ⟨_,ho,rfl⟩) q
theorem callM1 {name : Str} {id : String} {Pa : Lo → Hp → QV → Prop} {T : Value → Shared → Prop} {R : QV} (hbs : baseOk ea = true) (hline : (apos.endLine == pos.line) = true) (slot : Slot "list" name id) (hty : typeOf (.builtin id) = pure (.type "method_descriptor")) (hs : notStar eb = true)
    (ha:EvOk W n f Pa ea) (hr:Room n A) (ok:Ok W c H s.heap) (F:FOk W f c m s.heap) (p:Pa m H fun x H1=>(∃ k l,x=.ref k∧H1 k=some (.list l))∧R x H1)
    (t:∀ c1 H1 s1 x V,Step NoF c s c1 s1→Ok W c1 H1 s1.heap→FOk W f c1 m s1.heap→VRep W c1 s1.heap x V→R x H1 →
      wpAny W.M A (eval eb f.env) (fun U s2=>wpAny W.M A (call (.builtin id) [V,U]) T E s2) E s1):wpAny W.M A (eval (.Call (.Attribute ea name apos) [eb] [] pos) f.env) T E s:=by
  refine mcall hbs hline (few1 _ _ hs) (ev1 ha hr ok F p fun c1 H1 s1 x V st ok1 F1 r q pl=>?_)
  refine method_ok slot hty ok1 r q.1 ?_
  have he:=starEach_plain eb [] f.env hs
  refine callWith_method1 ?_ he
  exact wpAny_items_cons (wpAny_mono (t c1 H1 s1 x V st ok1 F1 r q.2) (fun U s2 h2=>wpAny_items_nil h2) fun _ _ e=>e) he
theorem ev_append (hbs:baseOk ea = true) (hline:(apos.endLine == pos.line) = true) (hs:notStar eb = true) (ha:EvOk W n f (vcE C ma) ea) (hb:EvOk W n f (vcE C mb) eb):EvOk W n f (vcE C (.append ma mb)) (.Call (.Attribute ea "append" apos) [eb] [] pos):=by
  intro A E m c H s Q hr ok F p
  refine callM1 hbs hline PySem.F.slot_list_append PySem.F.type_list_append hs ha hr ok F p fun c1 H1 s1 x V st1 ok1 F1 r1 q1=>ev1 hb hr ok1 F1 q1 fun c2 H2 s2 y U st2 ok2 F2 r2 q2=>?_
  obtain ⟨k,l,rfl,hk,hcap,q⟩:=q2
  obtain ⟨a,e,rfl⟩:=(VRep.later st2.laterE _ r1).ref
  obtain ⟨b,items,e',hp,hz,r⟩:=list_rep ok2 hk
  obtain rfl:=Option.some.inj (e.symm.trans e')
  have hl:=r.length
  rw [Array.length_toList] at hl
  refine wpAny_list_append_plain hp (fun h' hp' hs'=>?_) hz
  refine ((PostV.setList (t:=s2.toks) (v:=.none) ok2 e (sameBut_of hs') hp' ?_ (l':=l++[y]) ?_ .ofNone q).after st2 ok2).after st1 ok1
  · rw [Array.size_push,hl];exact Nat.le_trans hcap sizeLine_cap
  · rw [Array.toList_push];exact r.append (.cons r2 .nil)
theorem ev_pop (hbs:baseOk ea = true) (hline:(apos.endLine == pos.line) = true) (ha:EvOk W n f (vcE C ma) ea):EvOk W n f (vcE C (.pop ma)) (.Call (.Attribute ea "pop" apos) [] [] pos):=by
  intro A E m c H s Q hr ok F p
  refine mcall hbs hline (few0 _) (ev1 ha hr ok F p fun c1 H1 s1 x V st ok1 F1 r q pl=>?_)
  obtain ⟨k,l,v,rfl,hk,q⟩:=q
  refine method_ok PySem.F.slot_list_pop PySem.F.type_list_pop ok1 r ⟨k,_,rfl,hk⟩ ?_
  obtain ⟨a,e,rfl⟩:=r.ref
  obtain ⟨b,items,e',hp,hz,r⟩:=list_rep ok1 hk
  obtain rfl:=Option.some.inj (e.symm.trans e')
  obtain ⟨j,ho⟩:=hp
  obtain ⟨Vs,Us,e2,r1,r2⟩:=VReps.append_inv r
  obtain ⟨Y,_,rfl,ry,rn⟩:=r2.cons_inv
  obtain rfl:=rn.nil_inv
  have ei:items=(Vs++[Y]).toArray:=by rw [← e2,Array.toArray_toList]
  subst ei
  refine callWith_method0 ?_
  have hsz:(Vs++[Y]).toArray.size-1=Vs.length:=by simp
  have hy:(Vs++[Y]).toArray[(Vs++[Y]).toArray.size-1]? = some Y:=by rw [hsz];simp
  refine call_meets PySem.F.slot_list_pop ⟨_,ho,rfl⟩ PySem.F.entry_list_pop (PySem.F.args_list_pop_1 _) (PySem.MeetsSeq.list_pop_last a _ j Y hy hz) ⟨ho,?_⟩
  refine (PostV.setList (t:=s1.toks) (l':=l) (items':=Vs.toArray) ok1 e (fun b o hb e=>(Heap.get?_update_other _ _ (Ne.symm hb)).trans e) ⟨j+1,?_⟩ ?_ (by simpa using r1) ry q).after st ok1
  · have q:=PySem.IsL.update ho (fun xs=>xs.eraseIdxIfInBounds ((Vs++[Y]).toArray.size-1))
    have he:(Vs++[Y]).toArray.eraseIdxIfInBounds ((Vs++[Y]).toArray.size-1)=Vs.toArray:=by
      rw [hsz,kl_erase,List.append_nil]
    rw [he,if_neg (by simp)] at q
    exact q
  · simp at hz ⊢;omega
theorem ev_reverse (hbs:baseOk ea = true) (hline:(apos.endLine == pos.line) = true) (ha:EvOk W n f (vcE C ma) ea):EvOk W n f (vcE C (.reverse ma)) (.Call (.Attribute ea "reverse" apos) [] [] pos):=by
  intro A E m c H s Q hr ok F p
  refine mcall hbs hline (few0 _) (ev1 ha hr ok F p fun c1 H1 s1 x V st ok1 F1 r q pl=>?_)
  obtain ⟨k,l,rfl,hk,q⟩:=q
  refine method_ok PySem.F.slot_list_reverse PySem.F.type_list_reverse ok1 r ⟨k,_,rfl,hk⟩ ?_
  obtain ⟨a,e,rfl⟩:=r.ref
  obtain ⟨b,items,e',hp,hz,r⟩:=list_rep ok1 hk
  obtain rfl:=Option.some.inj (e.symm.trans e')
  obtain ⟨j,ho⟩:=hp
  refine callWith_method0 ?_
  refine call_meets PySem.F.slot_list_reverse ⟨_,ho,rfl⟩ PySem.F.entry_list_reverse (PySem.F.args_list_reverse_1 _) (AutoSeq1.list_reverse_list_0 a items j hz) ⟨ho,?_⟩
  refine (PostV.setList (t:=s1.toks) (v:=.none) (l':=l.reverse) (items':=items.toList.reverse.toArray) ok1 e (fun b o hb e=>(Heap.get?_update_other _ _ (Ne.symm hb)).trans e) ⟨j,?_⟩ (by simpa using hz) (by simpa using r.reverse) .ofNone q).after st ok1
  rw [Heap.get?_update_self _ ho (by rw [mapSeq_reverse];rfl),mapSeq_reverse]
theorem list_extendW (l:Addr) (items:Array Value) (n:Nat) (b:Addr) (items2:Array Value) (n2:Nat) (dd:Option Addr) (sl:Array (Option Value)) (hc0:¬(!items.isEmpty && Builtin.List.listTooLong (items.size+items2.size))=true) (hc1:items.size≤sizeLine) (hs2:items.size+items2.size≤sizeLine+1) :
    Meets (Builtin.«list.extend» ⟨[.ref l, .ref b], []⟩) (fun _ R s => s.heap.get? l = some { cls := .type "list", dict := none, data := .seq items n, slots := #[] } ∧ s.heap.get? b = some { cls := .type "list", dict := dd, data := .seq items2 n2, slots := sl } ∧ R (.ok (.ret Value.none)) { s with heap := s.heap.update l (Obj.mapSeq fun x => x ++ items2), toks := s.toks }) :=
  .of_wp fun prog w A R s h=>by
    obtain ⟨hp,g,d,tk,os⟩:=s;obtain ⟨hl,hb,h⟩:=h;have f1:=AutoSeq1.idx_int;have f2:=AutoSeq1.sub_tuple_tuple;have f3:=AutoSeq1.sub_list_list;have f4:=AutoSeq1.sub_tuple_list;have f5:=AutoSeq1.sub_list_tuple;
    have hz':(items++items2).size≤sizeLine+1:=by rw [Array.size_append];exact hs2
    wp_walk using (wpAny_updateSeq hl rfl (hz:=hc1) (_hz':=hz')),AutoSeq1.wpAny_loadPart' hl,AutoSeq1.wpAny_loadPart' hb;exact ⟨_,rfl,h⟩
theorem plain_app {h:Heap} {a:Addr} {its its2:Array Value} {j:Nat} (ho:h.get? a = some { cls:=.type "list",data:=.seq its j }):(h.update a (Obj.mapSeq fun x => x ++ its2)).PlainList a (its ++ its2) :=
  ⟨_,by rw [Heap.get?_update_self _ ho (by rw [mapSeq_app];rfl),mapSeq_app]⟩
theorem ev_extend (hbs:baseOk ea = true) (hline:(apos.endLine == pos.line) = true) (hs:notStar eb = true) (ha:EvOk W n f (vcE C ma) ea) (hb:EvOk W n f (vcE C mb) eb):EvOk W n f (vcE C (.extend ma mb)) (.Call (.Attribute ea "extend" apos) [eb] [] pos):=by
  intro A E m c H s Q hr ok F p
  refine callM1 hbs hline PySem.F.slot_list_extend PySem.F.type_list_extend hs ha hr ok F p fun c1 H1 s1 x V st1 ok1 F1 r1 q1=>ev1 hb hr ok1 F1 q1 fun c2 H2 s2 y U st2 ok2 F2 r2 q2=>?_
  obtain ⟨k,l,l',rfl,hk,rfl,hcap,q⟩:=q2
  obtain ⟨a,e,rfl⟩:=(VRep.later st2.laterE _ r1).ref
  obtain ⟨b,items,e',hp,hz,r⟩:=list_rep ok2 hk
  obtain rfl:=Option.some.inj (e.symm.trans e')
  obtain ⟨b2,items2,rfl,sq,hz2,r2⟩:=r2.lst
  obtain ⟨j,ho⟩:=hp
  obtain ⟨⟨cls,dd,data,sl⟩,ho2,hc2,n2,hd2⟩:=sq.isList
  simp only at hc2 hd2
  subst hc2 hd2
  have hl:=r.length
  have hl2:=r2.length
  rw [Array.length_toList] at hl hl2
  have hsum:items.size+items2.size≤sizeLine:=by rw [hl,hl2];exact Nat.le_trans hcap sizeLine_cap
  refine call_meets PySem.F.slot_list_extend ⟨_,ho,rfl⟩ PySem.F.entry_list_extend (PySem.F.args_list_extend_2 _ _) (list_extendW a items j b2 items2 n2 dd sl (extend_door hsum) hz (by omega)) ⟨ho,ho2,?_⟩
  refine ((PostV.setList (t:=s2.toks) (v:=.none) (l':=l++l') ok2 e (fun b o hb e=>(Heap.get?_update_other _ _ (Ne.symm hb)).trans e) (plain_app ho) (by rw [Array.size_append];exact hsum) (by rw [Array.toList_append];exact r.append r2) .ofNone q).after st2 ok2).after st1 ok1
theorem ev_extendRev (hbs:baseOk ea = true) (hline:(apos.endLine == pos.line) = true) (k:Wk W) (wn:Wn W) {np' pos':Pos} (hx':f.env.kindOf "reversed" = some .globalImplicit) (hs:notStar eb = true) (ha:EvOk W n f (vcE C ma) ea) (hb:EvOk W n f (vcE C mb) eb) :
    EvOk W n f (vcE C (.extendRev ma mb)) (.Call (.Attribute ea "extend" apos) [.Call (.Name "reversed" np') [eb] [] pos'] [] pos):=by
  intro A E m c H s Q hr ok F p
  refine callM1 hbs hline PySem.F.slot_list_extend PySem.F.type_list_extend rfl ha hr ok F p fun c1 H1 s1 x V st1 ok1 F1 r1 q1=>?_
  refine callB k wn ok1 F1 hx' (bm 2 rfl) (Or.inr ⟨_,rfl⟩) hs (ev1 hb hr ok1 F1 q1 fun c2 H2 s2 y U st2 ok2 F2 r2 q2=>?_)
  obtain ⟨k,l,l',rfl,hk,rfl,hcap,q⟩:=q2
  obtain ⟨a,e,rfl⟩:=(VRep.later st2.laterE _ r1).ref
  obtain ⟨b,items,e',hp,hz,r⟩:=list_rep ok2 hk
  obtain rfl:=Option.some.inj (e.symm.trans e')
  obtain ⟨b2,items2,rfl,sq,hz2,r2⟩:=r2.tup
  have kp:=push_keeps s2.heap (rvObj b2 ((items2.size:Int)-1))
  have hl:=r.length
  have hl2:=r2.length
  rw [Array.length_toList] at hl hl2
  have hc1:cap=1000000:=rfl
  have hc2:=sizeLine_eq
  refine call_reversed_tuple sq.isTup hz2 ?_
  refine call_extend_rv (s:={ s2 with heap:=s2.heap.push (rvObj b2 ((items2.size:Int)-1)),toks:=s2.toks+1+1 }) hr.handled a s2.heap.objs.size b2 items.toList hz2 (by rw [Array.length_toList];omega) (by rw [Array.length_toList];omega)
    (by rw [show items.toList.toArray=items by simp];exact hp.at fun o e=>kp a o e) ⟨_,Heap.get?_push_size _ rfl,rfl,rfl⟩ (sq.isTup.keeps kp) fun h' tk hp' hk'=>?_
  refine ((PostV.setList (t:=tk) (v:=.none) (l':=l++l'.reverse) ok2 e (fun b o hb e=>hk' b o hb (fun q=>Nat.lt_irrefl _ (q▸Heap.lt_size e)) (kp b o e)) hp' ?_ ?_ .ofNone q).after st2 ok2).after st1 ok1
  · simp only [List.size_toArray,List.length_append,List.length_reverse,Array.length_toList];omega
  · simpa using r.append r2.reverse
end LY.Internal
end

section
open PySem PySem.W PySem.Calls PyProof.Rows PySem.SeqAt
namespace LY.Internal
variable {W:Wd} {f:Fm} {c c':Cf} {m:Lo} {h h':Heap} {H H':Hp} {s s':Shared} {A:Around} {E:Value→Shared→Prop} {n:Nat} {C:CallP}
  {ma mb md:ME} {ea eb ed:Expr} {pos np apos:Pos}
noncomputable def fldNames : List Str := ["start", "order", "table", "empty", "firsts", "follows", "tree", "place", "wanted"]
structure Wc (W:Wd):Prop where
  get:∀ cl,plainGet W.K (W.cl cl) "" = true
  dict:∀ cl,hasDictIn W.K (W.cl cl)=true
  set:∀ cl,findIn W.K (.ref (W.cl cl)) "__setattr__" = some (some (.builtin "object.__setattr__"))
  over:∀ cl,plainOver W.K (W.cl cl)=true
  fld:∀ cl,∀ x∈fldNames,(∃ attr,findIn W.K (.ref (W.cl cl)) x=some attr∧noGet W.K attr=true)∧takerIn W.K (W.cl cl) x=some none
theorem Ok.inK (x:Ok W c H h) (k:Wk W):W.K.In h:=k.inK.keeps x.base
theorem handedIn_rep {v:AV} {V:Value} (r:VRep W c h v V):handedIn V=true:=by
  cases v with
  | none=>rw [r.none];rfl
  | bool b=>rw [r.bool];rfl
  | int i=>obtain ⟨t,rfl⟩:=r.int;rfl
  | str i=>obtain ⟨t,rfl⟩:=r.str;rfl
  | tup l=>obtain ⟨a,items,rfl,_⟩:=r.tup;rfl
  | lst l=>obtain ⟨a,items,rfl,_⟩:=r.lst;rfl
  | ref k=>obtain ⟨a,_,rfl⟩:=r.ref;rfl
  | obj cl k=>obtain ⟨a,d,rfl,_⟩:=r.obj;rfl
theorem isStr_eq {x y:Str} {t:Tok}:(Value.str y t).isStr x=decide (x=y):=by
  rw [Bool.eq_iff_iff]
  simp [Value.isStr]
  exact ⟨fun e=>e.symm,fun e=>e.symm⟩
theorem ins_get:∀ {l:List (Str × AV)} {es:List DictEntry} {x:Str} {v:AV},InsRep W c h l es→getK l x=some v→∃ e,es.find? (·.key.isStr x)=some e∧VRep W c h v e.val
  | [],_,_,_,_,e=>nope' e
  | p::l,_,x,v,r0,hv=>by
    obtain ⟨k,u⟩:=p
    obtain ⟨e,es',rfl,⟨t,hk⟩,r,q⟩:=r0
    rw [List.find?_cons,hk,isStr_eq]
    by_cases hx:x=k
    · rw [decide_eq_true hx]
      exact ⟨e,rfl,Option.some.inj ((if_pos hx).symm.trans hv)▸r⟩
    · rw [decide_eq_false hx]
      exact ins_get q ((if_neg hx).symm.trans hv)
theorem ins_norefs:∀ {l:List (Str × AV)} {es:List DictEntry},InsRep W c h l es→es.any (·.refKey)=false
  | [],es,x=>by rw [show es=[] from x];rfl
  | p::l,_,r0=>by
    obtain ⟨k,u⟩:=p
    obtain ⟨e,es',rfl,⟨t,hk⟩,r,q⟩:=r0
    rw [List.any_cons,ins_norefs q]
    simp [DictEntry.refKey,hk]
theorem ins_some {l:List (Str × AV)} {es:List DictEntry} (x:Str) (r:InsRep W c h l es):(getL x es).isSome=true:=by
  unfold getL
  cases List.find? (fun e=>e.key.isStr x) es with
  | some _=>rfl
  | none=>rw [ins_norefs r];rfl
theorem ins_put {hs:Int} {x:Str} {t:Tok} {v:AV} {V:Value} (rv:VRep W c h v V):∀ {l:List (Str × AV)} {es:List DictEntry},InsRep W c h l es→InsRep W c h (setK l x v) (putL x hs (.str x t) V es)
  | [],es,r=>by
    rw [show es=[] from r]
    exact ⟨_,[],rfl,⟨t,rfl⟩,rv,rfl⟩
  | p0::l,_,r0=>by
    obtain ⟨k,u⟩:=p0
    obtain ⟨e,es',rfl,⟨t',hk⟩,r,q⟩:=r0
    rw [setK_cons];unfold putL
    rw [hk,isStr_eq]
    by_cases hx:x=k
    · subst hx
      rw [if_pos rfl,if_pos (decide_eq_true rfl)]
      exact ⟨_,es',rfl,⟨t',rfl⟩,rv,q⟩
    · rw [decide_eq_false hx,if_neg hx,if_neg Bool.false_ne_true]
      exact ⟨e,_,rfl,⟨t',hk⟩,r,ins_put rv q⟩
theorem ins_put_len {hs:Int} {x:Str} {key V:Value}:∀ (es:List DictEntry),(putL x hs key V es).length≤es.length+1
  | []=>by simp [putL]
  | e::r=>by
    unfold putL
    split
    · simp
    · simp only [List.length_cons];have:=ins_put_len (hs:=hs) (x:=x) (key:=key) (V:=V) r;omega
theorem obj_rep {cl:Cl} {k:Nat} {V:Value} {l:List (Str × AV)} (ok:Ok W c H h) (r:VRep W c h (.obj cl k) V) (hk:H k=some (.ins l)) :
    ∃ a d es j,V=.ref a∧c.σ[k]? = some d∧c.free a∧h.get? a=some (instObj (W.cl cl) d)∧h.get? d=some (dictOf es j)∧InsRep W c h l es∧InstAt h a (instObj (W.cl cl) d) (W.cl cl) (some (dictOf es j)):=by
  obtain ⟨a,d,rfl,e,hf,ha⟩:=r.obj
  obtain ⟨d',e',es,j,hd,q⟩:=ok.obj k _ hk
  rw [e] at e';cases e'
  exact ⟨a,d,es,j,rfl,e,hf,ha,hd,q,⟨ha,rfl,rfl,hd⟩⟩
theorem attr_some {x z:AV} {fl:Str} {P:AV→Prop} (e:attrAV H x fl=some z) (h1:∀ cl k l,H k=some (.ins l)→getK l fl=some z→P (.obj cl k)):P x:=by
  cases x with
  | obj cl k =>
    have e:(match H k with | some (.ins l)=>getK l fl | _=>Option.none)=some z:=e
    cases hk:H k with
    | none=>rw [hk] at e;exact nope' e
    | some o=>rw [hk] at e;cases o with
      | ins l=>exact h1 cl k l hk e
      | _=>exact nope' e
  | _=>exact nope' e
theorem attr_ok (k:Wk W) (wc:Wc W) {x z:AV} {V:Value} {fl:Str} (hfl:fl∈fldNames) (ok:Ok W c H s.heap) (r:VRep W c s.heap x V) (e:attrAV H x fl=some z) {T:Value→Shared→Prop}
    (q:∀ Z t,VRep W c s.heap z Z→T Z { s with toks:=t }):wpAny W.M A (getAttr V fl true) T E s:=by
  refine attr_some (P:=fun x=>VRep W c s.heap x V→_) e (fun cl j l hj e r=>?_) r
  obtain ⟨a,d,es,i,rfl,e1,hf,ha,hd,ri,I⟩:=obj_rep ok r hj
  obtain ⟨en,he,rv⟩:=ins_get ri e
  obtain ⟨⟨attr,h1,h2⟩,_⟩:=wc.fld cl fl hfl
  refine get_value (ok.inK k) I (plainGet_of (name:="") (wc.get cl)).1 (findObj_own (wc.dict cl) h1 h2 ?_) (handedIn_rep rv) (q _ _ rv)
  rw [lookIn_dict];unfold getL;rw [he]
theorem ev_attr (k:Wk W) (wc:Wc W) {fl:Str} {x:Str} {p':Pos} (hfl:fl∈fldNames) (ha:EvOk W n f (vcE C ma) (.Name x p')):EvOk W n f (vcE C (.attr ma fl)) (.Attribute (.Name x p') fl pos):=by
  intro A E m c H s Q hr ok F p
  refine Attribute_name (ev1 ha hr ok F p fun c1 H1 s1 x V st ok1 F1 r q=>?_)
  obtain ⟨z,e,q⟩:=q
  exact attr_ok k wc hfl ok1 r e fun Z t rZ=>(PostV.nowTok ok1 rZ q).after st ok1
noncomputable def restOf (h:Heap) (a b:Addr):List (Addr × Obj) :=
  (List.range h.objs.size).filterMap fun i=>if i=a∨i=b then none else (h.get? i).map (i,·)
theorem mem_restOf {h:Heap} {a b:Addr} {p:Addr × Obj}:p∈restOf h a b ↔ p.1≠a∧p.1≠b∧h.get? p.1=some p.2:=by
  unfold restOf
  rw [List.mem_filterMap]
  constructor
  · rintro ⟨i,_,e⟩
    split at e
    · cases e
    · rename_i hne
      obtain ⟨o,ho,rfl⟩:=Option.map_eq_some_iff.mp e
      exact ⟨fun q=>hne (Or.inl q),fun q=>hne (Or.inr q),ho⟩
  · rintro ⟨h1,h2,h3⟩
    refine ⟨p.1,List.mem_range.mpr (Heap.lt_size h3),?_⟩
    rw [if_neg (by rintro (q | q);exact h1 q;exact h2 q),h3]
    rfl
theorem empty_get {a:Addr}:({ objs:=#[] }:Heap).get? a=none:=by simp [Heap.get?]
theorem set_ok (k:Wk W) (wc:Wc W) {cl:Cl} {j:Nat} {l:List (Str × AV)} {v:AV} {X V:Value} {fl:Str} (hfl:fl∈fldNames) (ok:Ok W c H s.heap) (F:FOk W f c m s.heap) (rx:VRep W c s.heap (.obj cl j) X) (rv:VRep W c s.heap v V)
    (hj:H j=some (.ins l)) (hlen:l.length<500) {T:Unit→Shared→Prop}
    (q:∀ s',Step f.F c s c s'→Ok W c (H.set j (.ins (setK l fl v))) s'.heap→FOk W f c m s'.heap→T () s'):wpAny W.M A (setAttr X fl V) T E s:=by
  obtain ⟨a,d,es,i,rfl,e1,hf,ha,hd,ri,I⟩:=obj_rep ok rx hj
  obtain ⟨_,ht⟩:=wc.fld cl fl hfl
  obtain ⟨mc,hns,hmc⟩:=F.ns
  have hdL:d≠f.env.locals:=fun e=>(ok.hid d (mem_of_get e1)).2 (e▸F.locX)
  have Fe:Fr { objs:=#[] } f.env.locals s.heap mc:=⟨hns,fun b o e=>nope' (empty_get.symm.trans e),Nat.zero_le _⟩
  have N:News { objs:=#[] } f.env.locals s.heap ((d,dictOf es i)::restOf s.heap d f.env.locals):=by
    intro p hp
    rcases List.mem_cons.mp hp with rfl | hp
    · exact ⟨hd,hdL,empty_get⟩
    · obtain ⟨_,h2,h3⟩:=mem_restOf.mp hp
      exact ⟨h3,h2,empty_get⟩
  have hap:∀ p∈restOf s.heap d f.env.locals,p.1≠d:=fun p hp=>(mem_restOf.mp hp).1
  have hlen2:=ri.length
  refine set_plain (ok.inK k) I (wc.set cl) (osa_dict (s:={ s with toks:=s.toks+1 }) (pre:=[]) Fe N (ok.inK k) I rfl (wc.over cl) ht (wc.dict cl) (by rw [lookIn_dict];exact ins_some fl ri)
    (by intro p hp;cases hp) hap (putName_dict ..) rfl (Nat.le_trans (ins_put_len es) (by omega)) fun h' F' N'=>?_)
  have keep:∀ b o,b≠d→b≠f.env.locals→s.heap.get? b=some o→h'.get? b=some o:=fun b o hb hbL e =>
    (N' (b,o) (List.mem_cons_of_mem _ (mem_restOf.mpr ⟨hb,hbL,e⟩))).1
  have hd':=(N' _ (List.mem_cons_self ..)).1
  have hLin:∃ o,h'.get? f.env.locals=some o:=(by obtain ⟨o,_,_,e,_⟩:=F'.ns;exact ⟨o,e⟩)
  have hm:=mem_of_get e1
  have L:Later c s.heap c h':=⟨List.prefix_refl _,fun b o fr e=>⟨fr,keep b o (fun q=>fr.1 (q▸hm)) (fun q=>fr.2 (q▸F.locX)) e⟩⟩
  refine q _ ⟨List.prefix_refl _,rfl,fun _ hb=>Or.inl hb,fun b o hb hF e=>keep b o (fun q=>hb (q▸hm)) (fun q=>hF (Or.inl q)) e,rfl,rfl⟩ ?_ ?_
  · refine ⟨fun b o e=>keep b o (fun q=>?_) (fun q=>?_) (ok.base b o e),ok.nodup,ok.hid,ok.low,fun b hb=>⟨(ok.hidX b hb).1,?_⟩,fun b hb=>?_,fun i' o e=>?_⟩
    · exact nope' ((ok.hid d hm).1.symm.trans (q▸e))
    · exact nope' ((ok.hidX _ F.locX).1.symm.trans (q▸e))
    · by_cases hbL:b=f.env.locals
      · rw [hbL];exact hLin
      · obtain ⟨o,e⟩:=(ok.hidX b hb).2
        exact ⟨o,keep b o (fun q=>(ok.hid d hm).2 (q▸hb)) hbL e⟩
    · by_cases hbd:b=d
      · rw [hbd];exact ⟨_,hd'⟩
      · obtain ⟨o,e⟩:=ok.inh b hb
        exact ⟨o,keep b o hbd (fun q=>(ok.hid b hb).2 (q▸F.locX)) e⟩
    · by_cases hi:i'=j
      · subst hi
        obtain rfl:=Option.some.inj ((Hp.set_self ..).symm.trans e)
        exact ⟨d,e1,_,_,hd',InsRep.later L (ins_put rv ri)⟩
      · obtain ⟨b,p,r⟩:=ok.obj i' o ((Hp.set_ne _ _ hi).symm.trans e)
        exact ⟨b,p,r.later L fun ob eb=>keep b ob (fun q=>hi (nodup_get_inj ok.nodup (q▸p) e1)) (fun q=>(ok.hid b (mem_of_get p)).2 (q▸F.locX)) eb⟩
  · refine ⟨F.kind,F.glob,F.blt,F.locX,F.cellX,F.apart,F.inj,F.kinds,⟨mc,F'.ns,fun i x hD hk v hv=>(by obtain ⟨V,e,r⟩:=hmc i x hD hk v hv;exact ⟨V,e,VRep.later L v r⟩)⟩,fun i x b hD hk hc=>?_,fun x b hc=>?_⟩
    · obtain ⟨ov,⟨o,ho,hdo⟩,w⟩:=F.cell i x b hD hk hc
      exact ⟨ov,⟨o,keep b o (fun q=>(ok.hid d hm).2 (q▸(F.cellX x b hc).1)) (F.cellX x b hc).2 ho,hdo⟩,fun v hv=>(by obtain ⟨V,e,r⟩:=w v hv;exact ⟨V,e,VRep.later L v r⟩)⟩
    · obtain ⟨ov,o,ho,hdo⟩:=F.cellsIn x b hc
      exact ⟨ov,o,keep b o (fun q=>(ok.hid d hm).2 (q▸(F.cellX x b hc).1)) (F.cellX x b hc).2 ho,hdo⟩
theorem ev_d1 (k:Wk W) (ha:EvOk W n f (vcE C ma) ea) (hb:EvOk W n f (vcE C mb) eb):EvOk W n f (vcE C (.d1 ma mb)) (.Dict [some ea] [eb] pos):=by
  intro A E m c H s Q hr ok F p
  have kp:=push_keeps s.heap { cls:=.type "dict",data:=.dict #[] }
  have hn:s.heap.get? s.heap.objs.size=none:=get?_none_of_size (Nat.le_refl _)
  have hnew:(s.heap.push { cls:=.type "dict",data:=.dict #[] }).DictOf (PySem.strKind W.prog W.w) s.heap.objs.size []:=Heap.DictOf.new s.heap
  have ok0:=ok.hide (h':=s.heap.push { cls:=.type "dict",data:=.dict #[] }) hn kp ⟨_,Heap.get?_push_size _ rfl⟩
  have F0:=F.hide (h':=s.heap.push { cls:=.type "dict",data:=.dict #[] }) hn kp
  refine wpAny_Dict_pairs (knd:=PySem.strKind W.prog W.w) (pairs:=[(eval ea f.env,eval eb f.env >>= fun x=>standAt pos >>= fun _=>pure x)]) rfl (by simp) (by simp) ?_
  refine evalPairs_cons ?_
  refine ev1 (s:={ s with heap:=s.heap.push { cls:=.type "dict",data:=.dict #[] } }) ha hr ok0 F0 p fun c1 H1 s1 x V st1 ok1 F1 r1 q1 => ?_
  refine wpAny_bind (ev1 hb hr ok1 F1 q1 fun c2 H2 s2 y U st2 ok2 F2 r2 q2=>wpAny_bind (wpAny_standAt (wpAny_pure ?_)))
  refine evalPairs_nil ?_
  obtain ⟨z,rfl,q⟩:=q2
  have rV:=VRep.later st2.laterE _ r1
  obtain ⟨t,rfl⟩:=rV.str
  have st:=st1.trans ok1 (fun _ e=>e.elim) st2
  have hX2:c2.X=(c.hide s.heap.objs.size).X:=st.X
  have hnd:s.heap.objs.size ∉ c2.σ:=fun hm=>(ok2.hid _ hm).2 (by rw [hX2];exact Or.inr rfl)
  have hd2:s2.heap.DictOf (PySem.strKind W.prog W.w) s.heap.objs.size []:=Heap.DictOf.at' hnew fun o e=>st.keep _ o (fun hm=>hnd (st.pre.subset hm)) (fun e=>e) e
  have hcX:¬ c.X s.heap.objs.size:=fun hx=>by obtain ⟨o,e⟩:=(ok.hidX _ hx).2;rw [hn] at e;cases e
  have low:=ok.low_size k (n:=0)
  refine ⟨[(z,U)],⟨strKind_is _ _ z t,rfl,trivial⟩,hd2,fun h' hd' hs'=>?_⟩
  rw [show merged [] [(z,U)]=[(z,U)] from rfl] at hd'
  obtain ⟨o,_,_,ho,_⟩:=id hd'
  have L2:Later c2 s2.heap ((c2.show c).add s.heap.objs.size) h':=by
    refine ⟨List.prefix_append _ _,fun a ob fr e=>⟨⟨fun hm=>?_,fun hx=>fr.2 (by rw [hX2];exact Or.inl hx)⟩,sameBut_of hs' a ob (fun q=>fr.2 (by rw [hX2];exact Or.inr q)) e⟩⟩
    rcases List.mem_append.mp hm with hm | hm
    · exact fr.1 hm
    · exact fr.2 (by rw [hX2];exact Or.inr (List.mem_singleton.mp hm))
  obtain ⟨ok3,L3⟩:=ok2.reveal (o:=.dS [(z,y)]) hX2 hcX (by simpa using low) (sameBut_of hs') ⟨_,hd',(show 1≤sizeLine by decide),rfl,.cons (VRep.later L2 y r2) .nil⟩ ⟨o,ho⟩
  refine ⟨(c2.show c).add s.heap.objs.size,_,.ref c2.σ.length,⟨st.pre.trans (List.prefix_append _ _),rfl,fun a hm=>?_,fun b ob hb hF e=>?_,?_,?_⟩,ok3,?_,q _ ok2.none_len⟩
  · rcases List.mem_append.mp hm with hm | hm
    · rcases st.fresh a hm with h1 | h1
      · exact Or.inl h1
      · right
        cases e:s.heap.get? a with
        | none=>rfl
        | some o=>rw [kp a o e] at h1;cases h1
    · rw [List.mem_singleton.mp hm];exact Or.inr hn
  · refine sameBut_of hs' b ob (fun q=>?_) (st.keep b ob hb hF (kp b ob e))
    rw [q,hn] at e;cases e
  · exact st.gens
  · exact st.os
  · show ∃ a,_;exact ⟨_,Cf.add_get (c2.show c) _,rfl⟩
end LY.Internal
end

section
open PySem PySem.W PySem.Calls PyProof.Rows PySem.SeqAt
namespace LY.Internal
variable {W:Wd} {f:Fm} {c c':Cf} {m:Lo} {h h':Heap} {H H':Hp} {s s':Shared} {A:Around} {E:Value→Shared→Prop} {n:Nat} {C:CallP}
  {ma mb md:ME} {ea eb ed:Expr} {pos np apos:Pos}
theorem PostV.newLst' {Q:QV} {l:List AV} {items:Array Value} {a:Addr} {t:Nat} (ok:Ok W c H s.heap) (hn:s.heap.get? a=none) (k:∀ b o,s.heap.get? b=some o→h'.get? b=some o) (hl:h'.IsList a items) (hz:items.size≤sizeLine)
    (r:VReps W c h' l items.toList) (q:Q (.lst l) H):PostV W c s Q (.ref a) { s with heap:=h',toks:=t }:=by
  refine ⟨c,H,.lst l,Step.ofKeep k rfl rfl,ok.keepAll k,?_,q⟩
  show ∃ a items,_
  exact ⟨a,items,rfl,⟨ok.free_size hn,hl⟩,hz,r⟩
noncomputable def Coll (W:Wd) (A:Around) (E:Value→Shared→Prop) (X:Value) (P:List Value→Prop) (s:Shared):Prop :=
  ∀ R:List Value→Shared→Prop,(∀ h' tk vs,(∀ b o,s.heap.get? b=some o→h'.get? b=some o)→P vs→R vs { s with heap:=h',toks:=tk })→wpAny W.M A (collect X) R E s
theorem sortedHeap_keep {h:Heap} {vs:List Value} {out:Array Value}:∀ b o,h.get? b = some o → (sortedHeap (h.push (seqObj "list" vs.toArray 0)) h.objs.size vs out).get? b = some o:=by
  intro b o e
  rw [sortedHeap_old (Nat.ne_of_lt (Heap.lt_size e)) (by rw [Heap.size_push];exact Nat.lt_succ_of_lt (Heap.lt_size e))]
  exact Heap.get?_push_of_some _ e
theorem sorted_col_ints {X:Value} {u:List Int} {T:Value→Shared→Prop} (hc:Coll W A.in1 E X (fun vs=>IntsAre vs u) s) (h64:u.length<64)
    (q:∀ a h' tk w out,(∀ b o,s.heap.get? b=some o→h'.get? b=some o)→s.heap.get? a=none→h'.IsList a out→IntsAre out.toList w→w.Perm u→T (.ref a) { s with heap:=h',toks:=tk }) :
    wpAny W.M A (call (.builtin "sorted") [X]) T E s:=by
  refine call_function_entry kind_sorted plain_sorted entry_sorted (args_sorted1 _) ?_
  unfold Builtin.«sorted»
  refine wpAny_bind (m:=checkCount "sorted" 1 1 _) (wpAny_pure ?_)
  refine wpAny_bind (hc _ fun h' tk vs hk hI=>?_)
  have hl:vs.length<64:=by rw [IntsAre.length hI];exact h64
  refine wpAny_bind (wpAny_newList ?_ (by rw [sizeLine_eq];omega))
  have hoL:(h'.push (seqObj "list" vs.toArray 0)).get? h'.objs.size = some (seqObj "list" vs.toArray 0):=Heap.get?_push_size _ rfl
  refine wpAny_bind (wpAny_holding (wpAny_call_entry slot_list_sort ⟨_,hoL,rfl⟩ entry_list_sort (list_sort_tree hoL hI hl fun out ns' a1 a2 a3=>⟨_,rfl,?_⟩) (args_list_sort _)))
  obtain ⟨e,he⟩:=sortedHeap_at (vs:=vs) (n:=0) (out:=out) hoL
  have hn:s.heap.get? h'.objs.size=none:=by
    cases e:s.heap.get? h'.objs.size with
    | none=>rfl
    | some o=>exact absurd (Heap.lt_size (hk _ _ e)) (Nat.lt_irrefl _)
  exact wpAny_pure ⟨_,rfl,q _ _ tk ns' out (fun b o e=>sortedHeap_keep b o (hk b o e)) hn ⟨_,he,rfl,e,rfl⟩ a1 a2⟩
theorem sorted_col_strs {X:Value} {u:List Str} {T:Value→Shared→Prop} (hc:Coll W A.in1 E X (fun vs=>StrsAre vs u) s) (h64:u.length<64)
    (q:∀ a h' tk w out,(∀ b o,s.heap.get? b=some o→h'.get? b=some o)→s.heap.get? a=none→h'.IsList a out→StrsAre out.toList w→w.Perm u→T (.ref a) { s with heap:=h',toks:=tk }) :
    wpAny W.M A (call (.builtin "sorted") [X]) T E s:=by
  refine call_function_entry kind_sorted plain_sorted entry_sorted (args_sorted1 _) ?_
  unfold Builtin.«sorted»
  refine wpAny_bind (m:=checkCount "sorted" 1 1 _) (wpAny_pure ?_)
  refine wpAny_bind (hc _ fun h' tk vs hk hI=>?_)
  have hl:vs.length<64:=by rw [StrsAre.length hI];exact h64
  refine wpAny_bind (wpAny_newList ?_ (by rw [sizeLine_eq];omega))
  have hoL:(h'.push (seqObj "list" vs.toArray 0)).get? h'.objs.size = some (seqObj "list" vs.toArray 0):=Heap.get?_push_size _ rfl
  refine wpAny_bind (wpAny_holding (wpAny_call_entry slot_list_sort ⟨_,hoL,rfl⟩ entry_list_sort (list_sort_treeK strKind_oneLt hoL hI.keysOf (fun v₁ v₂ rest e=>keyKind_strs (by rw [← e];exact hI)) hl fun st' hp hs=>⟨_,rfl,?_⟩) (args_list_sort _)))
  obtain ⟨ss',a1,a2,a3⟩:=sorted_out_str hI hp hs
  obtain ⟨e,he⟩:=sortedHeap_at (vs:=vs) (n:=0) (out:=(arrOf st').map (·.2)) hoL
  have hn:s.heap.get? h'.objs.size=none:=by
    cases e:s.heap.get? h'.objs.size with
    | none=>rfl
    | some o=>exact absurd (Heap.lt_size (hk _ _ e)) (Nat.lt_irrefl _)
  exact wpAny_pure ⟨_,rfl,q _ _ tk ss' _ (fun b o e=>sortedHeap_keep b o (hk b o e)) hn ⟨_,he,rfl,e,rfl⟩ a1 a2⟩
theorem coll_list {X:Value} {l:List AV} {a:Addr} {items:Array Value} (hX:X=.ref a) (hl:s.heap.IsList a items) (hz:items.size≤sizeLine) {P:List Value→Prop} (hP:P items.toList):Coll W A E X P s:=by
  intro R hR
  subst hX
  have hl':s.heap.IsList a items.toList.toArray:=by rw [show items.toList.toArray=items by simp];exact hl
  refine collect_list hl' (hR _ s.toks _ (fun b o e=>?_) hP) (by simpa using hz)
  exact (Heap.get?_update_other _ _ (Nat.ne_of_gt (Heap.lt_size e))).trans (Heap.get?_push_of_some _ e)
theorem coll_dict {κ:Type} [DecidableEq κ] {knd:KeyKind W.prog W.w κ} {X:Value} {a:Addr} {kvs:List (κ × Value)} (hh:A.handled=none) (hX:X=.ref a) (low:(a == sysModules)=false) (hd:s.heap.DictOf knd a kvs) (hz:kvs.length≤sizeLine) {P:List Value→Prop}
    (hP:∀ vs:List Value,vs.length=kvs.length→(∀ (j:Nat) v,vs[j]? = some v→∃ k x,kvs[j]? = some (k,x)∧knd.is k v=true)→P vs):Coll W A E X P s:=by
  intro R hR
  subst hX
  obtain ⟨ep,hat⟩:=hd.dictAt
  refine kdu_collect (kdl_dict (knd:=knd) (kvs:=kvs) (ep:=ep) low) hh hat hz fun h' tk acc hk hacc=>hR h' tk _ hk (hP _ (by rw [Array.length_toList];exact hacc.1) fun j v e=>?_)
  exact hacc.2 j v (by rw [← Array.getElem?_toList];exact e)
theorem intsAre_of:∀ {vs:List Value} {u:List Int},vs.length=u.length→(∀ (j:Nat) (v:Value),vs[j]? = some v→∃ i t,u[j]? = some i∧v=.int i t)→IntsAre vs u
  | [],[],_,_=>.nil
  | [],_::_,e,_=>nomatch e
  | _::_,[],e,_=>nomatch e
  | v::vs,i::u,e,g=>by
    obtain ⟨i',t,h1,rfl⟩:=g 0 v rfl
    obtain rfl:=Option.some.inj h1
    exact .cons _ _ (intsAre_of (Nat.succ.inj e) fun j v hj=>g (j+1) v hj)
theorem strsAre_of:∀ {vs:List Value} {u:List Str},vs.length=u.length→(∀ (j:Nat) (v:Value),vs[j]? = some v→∃ i t,u[j]? = some i∧v=.str i t)→StrsAre vs u
  | [],[],_,_=>.nil
  | [],_::_,e,_=>nomatch e
  | _::_,[],e,_=>nomatch e
  | v::vs,i::u,e,g=>by
    obtain ⟨i',t,h1,rfl⟩:=g 0 v rfl
    obtain rfl:=Option.some.inj h1
    exact .cons _ _ (strsAre_of (Nat.succ.inj e) fun j v hj=>g (j+1) v hj)
theorem intsOf_map (u:List Int):intsOf (u.map .int)=some u:=by induction u with | nil=>rfl | cons i u ih=>exact congrArg (Option.map (i::·)) ih
theorem strsOf_map (u:List Str):strsOf (u.map .str)=some u:=by induction u with | nil=>rfl | cons i u ih=>exact congrArg (Option.map (i::·)) ih
theorem strsOf_int (u:List Int) (hne:u≠[]):strsOf (u.map .int)=none:=by cases u with | nil=>exact absurd rfl hne | cons i u=>rfl
theorem intsOf_str (u:List Str) (hne:u≠[]):intsOf (u.map .str)=none:=by cases u with | nil=>exact absurd rfl hne | cons i u=>rfl
theorem src_some {x:AV} {l:List AV} {P:AV→List AV→Prop} (e:srcOf H x=some l) (h1:P (.lst l) l) (h2:∀ k,H k=some (.list l)→P (.ref k) l) (h3:∀ k d,H k=some (.dS d)→P (.ref k) (d.map fun x=>.str x.1)) (h4:∀ k d,H k=some (.dI d)→P (.ref k) (d.map fun x=>.int x.1)):P x l:=by
  cases x with
  | lst l'=>exact Option.some.inj e▸Option.some.inj e▸h1
  | ref k =>
    obtain ⟨q,hq,p⟩:=ref3_some (P:=fun q=>H k=some q→P (.ref k) l) (f1:=fun l=>some l) (f2:=fun l=>some (l.map fun x=>.str x.1)) (f3:=fun l=>some (l.map fun x=>.int x.1))
      (show (match H k with | some (.list l)=>some l | some (.dS l)=>some (l.map fun x=>.str x.1) | some (.dI l)=>some (l.map fun x=>.int x.1) | _=>none)=some l from e)
      (fun l e q=>h2 k (Option.some.inj e▸q)) (fun d e q=>Option.some.inj e▸h3 k d q) (fun d e q=>Option.some.inj e▸h4 k d q)
    exact p hq
  | _=>exact nope' e
noncomputable def CollAny (W:Wd) (A:Around) (E:Value→Shared→Prop) (X:Value) (l:List AV) (s:Shared):Prop :=
  (∀ u,intsOf l=some u→Coll W A E X (fun vs=>IntsAre vs u) s)∧(∀ u,strsOf l=some u→Coll W A E X (fun vs=>StrsAre vs u) s)
theorem coll_items {a:Addr} {items:Array Value} {l:List AV} (hl:s.heap.IsList a items) (hz:items.size≤sizeLine) (q:VReps W c s.heap l items.toList):CollAny W A E (.ref a) l s :=
  ⟨fun u hu=>coll_list (l:=l) rfl hl hz (ints_are hu q),fun u hu=>coll_list (l:=l) rfl hl hz (strs_are hu q)⟩
theorem coll_any {x:AV} {X:Value} {l:List AV} (hh:A.handled=none) (ok:Ok W c H s.heap) (r:VRep W c s.heap x X) (e:srcOf H x=some l):CollAny W A E X l s:=by
  refine src_some (P:=fun x l=>VRep W c s.heap x X→CollAny W A E X l s) e (fun r=>?_) (fun k hk r=>?_) (fun k d hk r=>?_) (fun k d hk r=>?_) r
  · obtain ⟨a,items,rfl,sq,hz,q⟩:=r.lst
    exact coll_items sq.isList hz q
  · obtain ⟨a,e1,rfl⟩:=r.ref
    obtain ⟨b,items,e',hp,hz,q⟩:=list_rep ok hk
    obtain rfl:=Option.some.inj (e1.symm.trans e')
    exact coll_items hp.isList hz q
  · obtain ⟨a,e1,hX⟩:=r.ref
    obtain ⟨b,kvs,e',low,hd,hz,hkeys,hv⟩:=dictS_rep ok hk
    obtain rfl:=Option.some.inj (e1.symm.trans e')
    have hm:(d.map fun x=>AV.str x.1)=(kvs.map (·.1)).map .str:=hkeys▸(List.map_map ..).symm
    have key:Coll W A E X (fun vs=>StrsAre vs (kvs.map (·.1))) s:=by
      refine coll_dict hh hX low hd hz fun vs hl hg=>strsAre_of (hl.trans (List.length_map _).symm) fun j v hj=>?_
      obtain ⟨k,x,h1,h2⟩:=hg j v hj
      obtain ⟨t,rfl⟩:=Value.isStrOf_shape h2
      exact ⟨k,t,by rw [List.getElem?_map,h1];rfl,rfl⟩
    rw [hm]
    refine ⟨fun u hu=>?_,fun u hu=>?_⟩
    · by_cases hne:kvs.map (·.1)=[]
      · rw [hne] at hu key
        cases hu
        exact fun R hR=>key R fun h' tk vs hk hvs=>hR h' tk vs hk (by cases hvs;exact .nil)
      · exact nope' ((intsOf_str _ hne).symm.trans hu)
    · cases (strsOf_map _).symm.trans hu;exact key
  · obtain ⟨a,e1,hX⟩:=r.ref
    obtain ⟨b,kvs,e',low,hd,hz,hkeys,hv⟩:=dictI_rep ok hk
    obtain rfl:=Option.some.inj (e1.symm.trans e')
    have hm:(d.map fun x=>AV.int x.1)=(kvs.map (·.1)).map .int:=hkeys▸(List.map_map ..).symm
    have key:Coll W A E X (fun vs=>IntsAre vs (kvs.map (·.1))) s:=by
      refine coll_dict hh hX low hd hz fun vs hl hg=>intsAre_of (hl.trans (List.length_map _).symm) fun j v hj=>?_
      obtain ⟨k,x,h1,h2⟩:=hg j v hj
      obtain ⟨t,rfl⟩:=Value.isInt_shape h2
      exact ⟨k,t,by rw [List.getElem?_map,h1];rfl,rfl⟩
    rw [hm]
    refine ⟨fun u hu=>?_,fun u hu=>?_⟩
    · cases (intsOf_map _).symm.trans hu;exact key
    · by_cases hne:kvs.map (·.1)=[]
      · rw [hne] at hu key
        cases hu
        exact fun R hR=>key R fun h' tk vs hk hvs=>hR h' tk vs hk (by cases hvs;exact .nil)
      · exact nope' ((strsOf_int _ hne).symm.trans hu)
theorem intsOf_len {l:List AV} {u:List Int} (e:intsOf l=some u):u.length=l.length:=ints_eq e▸(List.length_map _).symm
theorem strsOf_len {l:List AV} {u:List Str} (e:strsOf l=some u):u.length=l.length:=strs_eq e▸(List.length_map _).symm
theorem ev_sorted (k : Wk W) (wn : Wn W) (hx : f.env.kindOf "sorted" = some .globalImplicit) (hs : notStar ea = true) (ha : EvOk W n f (vcE C ma) ea) : EvOk W n f (vcE C (.sorted ma)) (.Call (.Name "sorted" np) [ea] [] pos) :=
  ev_b1 k wn hx (bm 3 rfl) (Or.inl ⟨_,rfl⟩) hs ha (fun Q x H1=>∃ l,srcOf H1 x=some l∧l.length<64 ∧
      ((∃ u,intsOf l=some u∧∀ w:List Int,w.Perm u→Q (.lst (w.map .int)) H1)
       ∨ (∃ u,strsOf l=some u∧∀ w:List Str,w.Perm u→Q (.lst (w.map .str)) H1))) (fun _ _ _ p=>p) fun A E c H s Q x V hr ok r q=>by
    obtain ⟨l,e,h64,q⟩:=q
    obtain ⟨hi,hs⟩:CollAny W A.in1 E V l s:=coll_any (E:=E) (A:=A.in1) hr.handled ok r e
    rcases q with ⟨u,hu,q⟩ | ⟨u,hu,q⟩
    · have hl:=intsOf_len hu
      refine sorted_col_ints (hi u hu) (by omega) fun a h' tk w out hk hn hlst hI hp=>?_
      have h1:=IntsAre.length hI
      have h2:=hp.length_eq
      rw [Array.length_toList] at h1
      exact PostV.newLst' ok hn hk hlst (by rw [sizeLine_eq];omega) (reps_ints hI) (q w hp)
    · have hl:=strsOf_len hu
      refine sorted_col_strs (hs u hu) (by omega) fun a h' tk w out hk hn hlst hI hp=>?_
      have h1:=StrsAre.length hI
      have h2:=hp.length_eq
      rw [Array.length_toList] at h1
      exact PostV.newLst' ok hn hk hlst (by rw [sizeLine_eq];omega) (reps_strs hI) (q w hp)
end LY.Internal
end

section
open PySem PySem.W PySem.Calls PyProof.Rows PySem.SeqAt
namespace LY.Internal
variable {W:Wd} {f:Fm} {c c':Cf} {m:Lo} {h h':Heap} {H H':Hp} {s s':Shared} {A:Around} {E:Value→Shared→Prop} {n:Nat} {C:CallP}
  {ma mb md:ME} {ea eb ed:Expr} {pos np apos tpos:Pos}
noncomputable def notComp (e:Expr):Bool:=!(e.ctorIdx.beq 8 || (e.ctorIdx.beq 9 || e.ctorIdx.beq 10))
theorem swaps_no {e:Expr} (he:notComp e=true) (t:Option Expr) (line:Nat) (env:Env):swapsWith e t line env=pure false:=by
  cases e <;> first | rfl | exact absurd he Bool.false_ne_true
theorem PostF.of {Q:QF} {m':Lo} {g:Fl} {fl:Flow} (ok:Ok W c H s.heap) (F:FOk W f c m' s.heap) (r:FlRep W c s.heap g fl) (q:Q g m' H):PostF W f c s Q fl s:=⟨c,H,m',g,Step.refl _ _ _,ok,F,r,q⟩
theorem PostF.afterE {Q:QF} {fl:Flow} (F:FOk W f c m s.heap) (st:Step NoF c s c' s') (ok':Ok W c' H' s'.heap) {s'':Shared} (p:PostF W f c' s' Q fl s''):PostF W f c s Q fl s'':=p.after F st.weak ok'
theorem PostF.store {Q:QF} {g:Fl} {fl:Flow} {m':Lo} (st:Step f.F c s c' s') (ok':Ok W c' H' s'.heap) (F':FOk W f c' m' s'.heap) (r:FlRep W c' s'.heap g fl) (q:Q g m' H'):PostF W f c s Q fl s':=⟨c',H',m',g,st,ok',F',r,q⟩
noncomputable def Own (f:Fm) (i:Nat) (x:Str):Prop:=f.D i=some x∧f.env.kindOf x≠some .free
theorem ex_assign {i:Nat} {x:Str} (hown:Own f i x) (hc:notComp ea=true) (ha:EvOk W n f (vcE C ma) ea):ExOk W n f (vcS C (.assign i ma)) (.Assign [.Name x np] ea pos):=by
  intro A E m c H s Q hr ok F p
  refine wpAny_Assign_Name (ev1 ha hr ok F p fun c1 H1 s1 v V st ok1 F1 r q=>?_) (swaps_no hc _ _ _)
  exact storeVar ok1 F1 hown.1 hown.2 q.1 r fun s2 st2 ok2 F2=>.store (st.weak.trans ok1 F.FX (by exact st2)) ok2 F2 (show FlRep W _ _ .next _ from rfl) q.2
theorem ex_setAttr (k:Wk W) (wc:Wc W) {fl:Str} (hfl:fl∈fldNames) (hc:notComp ea=true) (ha:EvOk W n f (vcE C ma) ea) (hb:EvOk W n f (vcE C mb) eb) :
    ExOk W n f (vcS C (.setAttr mb fl ma)) (.Assign [.Attribute eb fl apos] ea pos):=by
  intro A E m c H s Q hr ok F p
  refine plainObj_wpAny_Assign_Attribute (ev2 ha hb hr ok F p fun c2 H2 s2 v x V X st ok2 F2 rv rx q=>?_) (swaps_no hc _ _ _)
  obtain ⟨cl,j,l,rfl,hj,hlen,q⟩:=q
  exact set_ok k wc hfl ok2 F2 rx rv hj hlen fun s3 st3 ok3 F3=>.store (st.weak.trans ok2 F.FX st3) ok3 F3 (show FlRep W _ _ .next _ from rfl) q
theorem stored_miss {κ:Type} [DecidableEq κ] {k k2:κ} (h:¬ k2=k) (kvs:List (κ × Value)) (V2 V:Value):stored ((k2,V2)::kvs) k V=(k2,V2)::stored kvs k V:=by
  show (if (decide (k2=k) || kvs.any fun kv=>decide (kv.1=k))=true then ((k2,V2)::kvs).map _ else (k2,V2)::kvs++[(k,V)])=(k2,V2)::(if (kvs.any fun kv=>decide (kv.1=k))=true then _ else _)
  rw [decide_eq_false h,Bool.false_or]
  by_cases q:(kvs.any fun kv=>decide (kv.1=k))=true
  · rw [if_pos q,if_pos q,List.map_cons,if_neg h]
  · rw [if_neg q,if_neg q];rfl
theorem stored_eq {κ:Type} [DecidableEq κ]:∀ {l:List (κ × AV)} {kvs:List (κ × Value)} {k:κ} {v:AV} {V:Value},kvs.map (·.1)=l.map (·.1)→VReps W c h (l.map (·.2)) (kvs.map (·.2))→VRep W c h v V→(kvs.map (·.1)).Nodup →
    (stored kvs k V).map (·.1)=(setK l k v).map (·.1)∧VReps W c h ((setK l k v).map (·.2)) ((stored kvs k V).map (·.2))
  | [],[],k,v,V,_,_,rv,_=>⟨rfl,.cons rv .nil⟩
  | [],_::_,_,_,_,hk,_,_,_=>nomatch hk
  | _::_,[],_,_,_,hk,_,_,_=>nomatch hk
  | (k1,v1)::l,(k2,V2)::kvs,k,v,V,hk,r,rv,hn=>by
    obtain ⟨rfl,hk'⟩:k2=k1∧kvs.map (·.1)=l.map (·.1):=⟨(List.cons.inj hk).1,(List.cons.inj hk).2⟩
    obtain ⟨V',Vs,e1,p,q⟩:=VReps.cons_inv r
    obtain ⟨rfl,rfl⟩:V2=V'∧kvs.map (·.2)=Vs:=⟨(List.cons.inj e1).1,(List.cons.inj e1).2⟩
    obtain ⟨hn1,hn2⟩:=List.nodup_cons.mp hn
    by_cases hkk:k=k2
    · subst hkk
      have e2:stored ((k,V2)::kvs) k V=(k,V)::kvs:=by
        unfold stored
        rw [if_pos (by rw [List.any_cons,decide_eq_true rfl];rfl),List.map_cons,if_pos rfl,map_store_of_not_mem kvs _ V hn1]
      rw [e2,show setK ((k,v1)::l) k v=(k,v)::l from if_pos rfl]
      exact ⟨congrArg (k::·) hk',.cons rv q⟩
    · have ih:=stored_eq (k:=k) hk' q rv hn2
      rw [stored_miss (fun e=>hkk e.symm),show setK ((k2,v1)::l) k v=(k2,v1)::setK l k v from if_neg hkk]
      exact ⟨congrArg (k2::·) ih.1,.cons p ih.2⟩
theorem setDS' {k:Nat} {l:List (Str × AV)} {x:Str} {t:Tok} {v:AV} {V:Value} {a:Addr} (ok:Ok W c H s.heap) (e:c.σ[k]? = some a) (rv:VRep W c s.heap v V) (hk:H k=some (.dS l)) (hcap:l.length<cap) {T:Unit→Shared→Prop}
    (q:∀ s',Step NoF c s c s'→Ok W c (H.set k (.dS (setK l x v))) s'.heap→(∀ b o,b≠a→s.heap.get? b=some o→s'.heap.get? b=some o)→T () s'):wpAny W.M A (setItem (.ref a) (.str x t) V) T E s:=by
  obtain ⟨b,kvs,e',low,hd,hz,hkeys,hv⟩:=dictS_rep ok hk
  obtain rfl:=Option.some.inj (e.symm.trans e')
  have hl:kvs.length=l.length:=(List.length_map _).symm.trans ((congrArg List.length hkeys).trans (List.length_map _))
  refine wpAny_setItem_pairs (strKind_is _ _ x t) hd (fun h' hd' hs'=>?_) hz
  obtain ⟨e1,e2⟩:=stored_eq (W:=W) (c:=c) (h:=s.heap) (k:=x) hkeys hv rv (nodup_of_dict hd)
  have hz':(stored kvs x V).length≤sizeLine:=by
    have h1:=stored_length_le kvs x V
    have h2:=sizeLine_cap
    omega
  obtain ⟨o,_,_,ho,_⟩:=id hd'
  obtain ⟨ok',L⟩:=ok.set (o:=.dS (setK l x v)) e (sameBut_of hs') (fun c' hc' L=>⟨_,hd',hz',e1,by subst hc';exact VReps.later L _ e2⟩) ⟨o,ho⟩
  exact q _ (Step.ofSet e (sameBut_of hs') rfl rfl) ok' (sameBut_of hs')
theorem setDS {k:Nat} {l:List (Str × AV)} {x:Str} {t:Tok} {v:AV} {X V:Value} (ok:Ok W c H s.heap) (rx:VRep W c s.heap (.ref k) X) (rv:VRep W c s.heap v V) (hk:H k=some (.dS l)) (hcap:l.length<cap) {T:Unit→Shared→Prop}
    (q:∀ s',Step NoF c s c s'→Ok W c (H.set k (.dS (setK l x v))) s'.heap→T () s'):wpAny W.M A (setItem X (.str x t) V) T E s:=by
  obtain ⟨a,e,rfl⟩:=rx.ref
  exact setDS' ok e rv hk hcap fun s' a b _=>q s' a b
theorem setDI {k:Nat} {l:List (Int × AV)} {x:Int} {t:Tok} {v:AV} {X V:Value} (ok:Ok W c H s.heap) (rx:VRep W c s.heap (.ref k) X) (rv:VRep W c s.heap v V) (hk:H k=some (.dI l)) (hcap:l.length<cap) {T:Unit→Shared→Prop}
    (q:∀ s',Step NoF c s c s'→Ok W c (H.set k (.dI (setK l x v))) s'.heap→T () s'):wpAny W.M A (setItem X (.int x t) V) T E s:=by
  obtain ⟨a,e,rfl⟩:=rx.ref
  obtain ⟨b,kvs,e',low,hd,hz,hkeys,hv⟩:=dictI_rep ok hk
  obtain rfl:=Option.some.inj (e.symm.trans e')
  have hl:kvs.length=l.length:=(List.length_map _).symm.trans ((congrArg List.length hkeys).trans (List.length_map _))
  refine wpAny_setItem_pairs (intKind_is _ _ x t) hd (fun h' hd' hs'=>?_) hz
  obtain ⟨e1,e2⟩:=stored_eq (W:=W) (c:=c) (h:=s.heap) (k:=x) hkeys hv rv (nodup_of_dict hd)
  have hz':(stored kvs x V).length≤sizeLine:=by
    have h1:=stored_length_le kvs x V
    have h2:=sizeLine_cap
    omega
  obtain ⟨o,_,_,ho,_⟩:=id hd'
  obtain ⟨ok',L⟩:=ok.set (o:=.dI (setK l x v)) e (sameBut_of hs') (fun c' hc' L=>⟨_,hd',hz',e1,by subst hc';exact VReps.later L _ e2⟩) ⟨o,ho⟩
  exact q _ (Step.ofSet e (sameBut_of hs') rfl rfl) ok'
theorem setItem_plain {a:Addr} {items:Array Value} {kk:Int} {t:Tok} {v:Value} {T:Unit→Shared→Prop} (hl:s.heap.PlainList a items) (h0:0≤kk) (h63:kk<2 ^ 63) (hn:kk<items.size)
    (hQ:∀ h',h'.PlainList a (items.setIfInBounds kk.toNat v)→Heap.SameBut a s.heap h'→T () { s with heap:=h' }):wpAny W.M A (setItem (.ref a) (.int kk t) v) T E s:=by
  obtain ⟨j,ho⟩:=id hl
  have hT:s.TypeIs (.ref a) "list":=⟨_,ho,rfl⟩
  unfold setItem
  try with_reducible refine wpAny_holding ?_
  first | refine wpAny_bind (wpAny_pure ?_) | skip
  refine wpAny_bind (wpAny_sequenceKey hT (by decide) ?_)
  refine wpAny_bind (wpAny_callSpecial?_slot (name:=Str.ofString "__setitem__") hT slot_list_setitem
    (wpAny_call_entry slot_list_setitem hT entry_list_setitem ?_ (args_list_setitem _ _ _)))
  show wpAny _ _ (Builtin.List.listSubscript? (.int kk t) >>= _) _ _ s
  refine wpAny_bind (wpAny_listSubscript_int (fitsIndex_of h0 h63) ?_)
  clear h63
  obtain ⟨k,rfl⟩:=Int.eq_ofNat_of_zero_le h0
  have hk:k<items.size:=by omega
  show wpAny _ _ ((seqItemAt a k >>= fun r=>pure (r.map (k,·))) >>= _) _ _ s
  refine wpAny_bind (wpAny_bind (wpAny_seqItemAt ho rfl (wpAny_pure ?_)))
  rw [show items[k]? = some items[k] from Array.getElem?_eq_getElem hk]
  show wpAny _ _ (setSeqItemAt a k v >>= _) _ _ s
  have hfin:(s.heap.update a (Obj.mapSeq (·.setIfInBounds k v))).PlainList a (items.setIfInBounds k v):=by
    refine ⟨j,?_⟩
    rw [Heap.get?_update_self _ ho (by simp [Obj.mapSeq];rfl)]
    simp [Obj.mapSeq]
  refine wpAny_bind (wpAny_setSeqItemAt ho rfl ?_)
  first
    | exact wpAny_bind (wpAny_pure (wpAny_pure ⟨.none,rfl,wpAny_pure (hQ _ hfin (Heap.SameBut.update ..))⟩))
    | exact wpAny_pure ⟨.none,rfl,wpAny_pure (hQ _ hfin (Heap.SameBut.update ..))⟩
theorem setList {k i:Nat} {l:List AV} {t:Tok} {v:AV} {X V:Value} (ok:Ok W c H s.heap) (rx:VRep W c s.heap (.ref k) X) (rv:VRep W c s.heap v V) (hk:H k=some (.list l)) (hi:i<l.length) {T:Unit→Shared→Prop}
    (q:∀ s',Step NoF c s c s'→Ok W c (H.set k (.list (l.set i v))) s'.heap→T () s'):wpAny W.M A (setItem X (.int (Int.ofNat i) t) V) T E s:=by
  obtain ⟨a,e,rfl⟩:=rx.ref
  obtain ⟨b,items,e',hp,hz,r⟩:=list_rep ok hk
  obtain rfl:=Option.some.inj (e.symm.trans e')
  have hl:=r.length
  rw [Array.length_toList] at hl
  have hc2:=sizeLine_eq
  refine setItem_plain hp (Int.natCast_nonneg i) (by show (i:Int)<2 ^ 63;omega) (by show (i:Int)<items.size;omega) fun h' hp' hs'=>?_
  have hp':h'.PlainList a (items.setIfInBounds i V):=hp'
  obtain ⟨j,ho⟩:=id hp'
  obtain ⟨ok',L⟩:=ok.set (o:=.list (l.set i v)) e (sameBut_of hs') (fun c' hc' L=>⟨_,hp',by simpa using hz,by subst hc';rw [Array.toList_setIfInBounds];exact VReps.later L _ (r.set i rv)⟩) ⟨_,ho⟩
  exact q _ (Step.ofSet e (sameBut_of hs') rfl rfl) ok'
theorem ex_setSub (hc:notComp ea=true) (ha:EvOk W n f (vcE C ma) ea) (hb:EvOk W n f (vcE C mb) eb) (hd:EvOk W n f (vcE C md) ed) :
    ExOk W n f (vcS C (.setSub mb md ma)) (.Assign [.Subscript eb ed apos] ea pos):=by
  intro A E m c H s Q hr ok F p
  refine wpAny_Assign_Subscript (ev1 ha hr ok F p fun c1 H1 s1 v V st1 ok1 F1 r1 q1=>ev2 hb hd hr ok1 F1 q1 fun c3 H3 s3 x y X Y st2 ok3 F3 rx ry q=>?_) (swaps_no hc _ _ _)
  have rv:=VRep.later st2.laterE v r1
  have st:=(st1.trans ok1 (fun _ e=>e.elim) st2).weak (F:=f.F)
  have fin:∀ {H4:Hp} s4,Step NoF c3 s3 c3 s4→Ok W c3 H4 s4.heap→Q .next m H4→PostF W f c s Q .next s4:=fun s4 st4 ok4 q4 =>
    .store (st.trans ok3 F.FX st4.weak) ok4 (F3.step ok3 st4) (show FlRep W _ _ .next _ from rfl) q4
  obtain ⟨k,rfl,q⟩:=q
  rcases q with ⟨l,z,hk,rfl,hcap,q⟩ | ⟨l,z,hk,rfl,hcap,q⟩ | ⟨l,j,hk,rfl,hj,q⟩
  · obtain ⟨t,rfl⟩:=ry.str
    exact setDS ok3 rx rv hk hcap fun s4 st4 ok4=>fin s4 st4 ok4 q
  · obtain ⟨t,rfl⟩:=ry.int
    exact setDI ok3 rx rv hk hcap fun s4 st4 ok4=>fin s4 st4 ok4 q
  · obtain ⟨t,rfl⟩:=ry.int
    exact setList ok3 rx rv hk hj fun s4 st4 ok4=>fin s4 st4 ok4 q
theorem ex_expr (hc:notComp ea=true) (ha:EvOk W n f (vcE C ma) ea):ExOk W n f (vcS C (.expr ma)) (.Expr ea pos):=by
  intro A E m c H s Q hr ok F p
  refine wpAny_Expr_any (ev1 ha hr ok F p fun c1 H1 s1 v V st ok1 F1 r q=>?_) ?_ (swaps_no hc _ _ _)
  · exact .store st.weak ok1 F1 (show FlRep W _ _ .next _ from rfl) q
  · unfold interactive;rw [F.kind];rfl
theorem ex_ret (ha:EvOk W n f (vcE C ma) ea):ExOk W n f (vcS C (.ret ma)) (.Return (some ea) pos):=by
  intro A E m c H s Q hr ok F p
  exact wpAny_Return_some (ev1 ha hr ok F p fun c1 H1 s1 v V st ok1 F1 r q=>.store st.weak ok1 F1 (show FlRep W _ _ (.ret v) _ from ⟨V,rfl,r⟩) q)
theorem ex_retNone:ExOk W n f (vcS C .retNone) (.Return none pos):=by
  intro A E m c H s Q hr ok F p
  exact wpAny_Return_none (.of ok F (show FlRep W _ _ (.ret .none) _ from ⟨_,rfl,.ofNone⟩) p)
theorem exs_nil:ExsOk W n f (vcSs C .nil) []:=by
  intro A E m c H s Q hr ok F p
  exact wpAny_execs_nil (.of ok F (show FlRep W _ _ .next _ from rfl) p)
theorem exs_cons {ms:MS} {ml:MSs} {st:Stmt} {sl:List Stmt} (hs:ExOk W n f (vcS C ms) st) (hl:ExsOk W n f (vcSs C ml) sl):ExsOk W n f (vcSs C (.cons ms ml)) (st::sl):=by
  intro A E m c H s Q hr ok F p
  refine wpAny_execs_cons (wpAny_mono (hs A E m c H s _ hr ok F p) (fun fl s1 h1=>?_) fun _ _ e=>e)
  obtain ⟨c1,H1,m1,g,st1,ok1,F1,r1,q1⟩:=h1
  cases g with
  | next =>
    rw [show fl=.next from r1]
    exact wpAny_mono (hl A E m1 c1 H1 s1 Q hr ok1 F1 q1) (fun _ _ h=>h.after F st1 ok1) fun _ _ e=>e
  | ret v =>
    obtain ⟨V,rfl,rV⟩:=id r1
    exact .store st1 ok1 F1 r1 q1
theorem ex_if {ta tb:List Stmt} {la lb:MSs} (hc:TeOk W n f (vcE C ma) ea) (ha:ExsOk W n f (vcSs C la) ta) (hb:ExsOk W n f (vcSs C lb) tb):ExOk W n f (vcS C (.ifs ma la lb)) (.If ea ta tb pos):=by
  intro A E m c H s Q hr ok F p
  refine wpAny_If (te1 hc hr ok F p or_bool fun c1 H1 s1 b st ok1 F1 q=>?_)
  rcases q with ⟨e,q⟩ | ⟨e,q⟩
  · cases e
    exact wpAny_mono (ha A E m c1 H1 s1 Q hr ok1 F1 q) (fun _ _ h=>h.afterE F st ok1) fun _ _ e=>e
  · cases e
    exact wpAny_mono (hb A E m c1 H1 s1 Q hr ok1 F1 q) (fun _ _ h=>h.afterE F st ok1) fun _ _ e=>e
theorem ex_augVar {i:Nat} {x:Str} (hown:Own f i x) (ha:EvOk W n f (vcE C ma) ea):ExOk W n f (vcS C (.augVar i ma)) (.AugAssign (.Name x np) .Sub ea pos):=by
  intro A E m c H s Q hr ok F p
  obtain ⟨a,hv,p⟩:=p
  refine wpAny_AugAssign_Name (loadVar F hown.1 hv fun V r=>ev1 ha hr ok F p fun c1 H1 s1 y U st ok1 F1 r1 q=>?_)
  obtain ⟨b,rfl,hi,q⟩:=q
  obtain ⟨t,rfl⟩:=r.int
  obtain ⟨u,rfl⟩:=r1.int
  refine P.isub_int ?_
  refine storeVar (s:={ s1 with toks:=s1.toks+1 }) ok1 F1 hown.1 hown.2 hi .ofInt fun s2 st2 ok2 F2=>.store (st.weak.trans ok1 F.FX (by exact ⟨st2.pre,st2.X,st2.fresh,st2.keep,st2.gens,st2.os⟩)) ok2 F2 (show FlRep W _ _ .next _ from rfl) q
theorem augStore_plain {i:Expr} (h:notSlice i=true) (ov iv new:Value):augStore i ov iv new=(do holding [new,ov,iv] (setItem ov iv new);release [new,ov,iv] [];pure .next):=by
  cases i <;> first | rfl | exact absurd h Bool.false_ne_true
theorem ex_augSub (hsl:notSlice ed=true) (hb:EvOk W n f (vcE C mb) eb) (hd:EvOk W n f (vcE C md) ed) (ha:EvOk W n f (vcE C ma) ea):ExOk W n f (vcS C (.augSub mb md ma)) (.AugAssign (.Subscript eb ed tpos) .Sub ea pos):=by
  intro A E m c H s Q hr ok F p
  refine wpAny_AugAssign_SubscriptAny (ev2 hb hd hr ok F p fun c2 H2 s2 x y X Y st2 ok2 F2 rx ry q=>?_) (augStore_plain hsl)
  obtain ⟨w,a,e,rfl,q⟩:=q
  refine (item_ok (E:=E) (A:=A) (T:=fun old s₃=>wpAny W.M A (eval ea f.env) (fun v s₄=>wpAny W.M A (inplaceOp .Sub old v) (fun new s₅=>wpAny W.M A (setItem X Y new) (fun _=>PostF W f c s Q .next) E s₅) E s₄) E s₃) ok2 rx ry e fun Z t rZ=>?_).2
  obtain ⟨ta,rfl⟩:=rZ.int
  refine ev1 (s:={ s2 with toks:=t }) ha hr ok2 F2 q fun c3 H3 s3 v V st3 ok3 F3 rv q3=>?_
  obtain ⟨k,l,i,b,rfl,rfl,hk,hi,rfl,q3⟩:=q3
  obtain ⟨tb,rfl⟩:=rv.int
  refine P.isub_int ?_
  have rx':=VRep.later st3.laterE _ rx
  have ry':=VRep.later st3.laterE _ ry
  obtain ⟨t',rfl⟩:=ry'.int
  have st3':Step NoF c2 s2 c3 s3:=⟨st3.pre,st3.X,st3.fresh,st3.keep,st3.gens,st3.os⟩
  exact setList (s:={ s3 with toks:=s3.toks+1 }) ok3 rx' .ofInt hk hi fun s4 st4 ok4 =>
    .store ((st2.trans ok2 (fun _ e=>e.elim) st3').weak.trans ok3 F.FX ⟨st4.pre,st4.X,st4.fresh,fun b o hb _ e=>st4.keep b o hb (fun e=>e) e,st4.gens,st4.os⟩) ok4 (F3.step (s:={ s3 with toks:=s3.toks+1 }) ok3 st4) (show FlRep W _ _ .next _ from rfl) q3
end LY.Internal
end

section
open PySem PySem.W PySem.Calls PyProof.Rows PySem.SeqAt
namespace LY.Internal
variable {W:Wd} {f:Fm} {c c':Cf} {m:Lo} {h h':Heap} {H H':Hp} {s s':Shared} {A:Around} {E:Value→Shared→Prop} {n:Nat} {C:CallP}
  {ma mb md:ME} {ea eb ed:Expr} {pos np apos tpos:Pos}
inductive TgOk (f:Fm):MT→Expr→Prop
  | one {i:Nat} {x:Str} {p:Pos}:Own f i x→TgOk f (.one i) (.Name x p)
  | two {i j:Nat} {x y:Str} {p q r:Pos} {k:Nat}:Own f i x→Own f j y→TgOk f (.two i j) (.Tuple [.Name x p,.Name y q] k r)
theorem assign_name {i:Nat} {x:Str} {v:AV} {V:Value} {T:Unit→Shared→Prop} (hown:Own f i x) (ok:Ok W c H s.heap) (F:FOk W f c m s.heap) (hi:i<m.length) (r:VRep W c s.heap v V)
    (q:∀ s',Step f.F c s c s'→Ok W c H s'.heap→FOk W f c (m.set i (some v)) s'.heap→T () s'):wpAny W.M A (assign (.Name x np) f.env V) T E s :=
  wpAny_assign_Name (storeVar ok F hown.1 hown.2 hi r q)
theorem assign_pair {i j:Nat} {x y:Str} {p q r:Pos} {k:Nat} {a b:AV} {V:Value} {T:Unit→Shared→Prop} (hh:A.handled=none) (h1:Own f i x) (h2:Own f j y) (ok:Ok W c H s.heap) (F:FOk W f c m s.heap) (hi:i<m.length) (hj:j<m.length)
    (rv:VRep W c s.heap (.tup [a,b]) V) (t:∀ s',Step f.F c s c s'→Ok W c H s'.heap→FOk W f c ((m.set i (some a)).set j (some b)) s'.heap→T () s') :
    wpAny W.M A (assign (.Tuple [.Name x p,.Name y q] k r) f.env V) T E s:=by
  obtain ⟨ad,items,rfl,sq,hz,rr⟩:=rv.tup
  obtain ⟨X,Y,rfl,ra,rb⟩:=reps2 rr
  refine assign_Tuple_tuple hh sq.isTup rfl rfl fun h' he=>?_
  have kp:∀ b o,s.heap.get? b=some o→h'.get? b=some o:=fun b o e=>he b o (fun q=>Nat.lt_irrefl _ (q▸Heap.lt_size e)) e
  have L:=later_keep (c:=c) kp
  have st0:Step NoF c s c { s with heap:=h' }:=Step.ofKeep kp rfl rfl
  have ok0:=ok.keepAll kp
  have F0:=F.step (s':={ s with heap:=h' }) ok st0
  show wpAny W.M A (assignInOrder [assign (.Name x p) f.env,assign (.Name y q) f.env] [X,Y]) T E _
  refine wpAny_assignInOrder_more (assign_name h1 ok0 F0 hi (VRep.later L _ ra) fun s1 st1 ok1 F1=>?_)
  have L1:=st1.later F0.FX
  refine wpAny_assignInOrder_more (assign_name h2 ok1 F1 (by simpa using hj) (VRep.later L1 _ (VRep.later L _ rb)) fun s2 st2 ok2 F2=>wpAny_assignInOrder_none ?_)
  exact t s2 ((st0.weak.trans ok0 F.FX st1).trans ok1 F.FX st2) ok2 F2
theorem pair2_some {α:Type} {g:AV→AV→Option α} {v:AV} {z:α} (e:(match pair2 v with | some p=>g p.1 p.2 | none=>none)=some z):∃ a b,v=.tup [a,b]∧g a b=some z:=by
  cases v with
  | tup l=>match l,e with
    | [a,b],e=>exact ⟨a,b,rfl,e⟩
    | [],e=>exact nope' e
    | [_],e=>exact nope' e
    | _::_::_::_,e=>exact nope' e
  | _=>exact nope' e
theorem assign_ok {t:MT} {tg:Expr} {m':Lo} {v:AV} {V:Value} {T:Unit→Shared→Prop} (hh:A.handled=none) (ht:TgOk f t tg) (hb:bindT t v m=some m') (ok:Ok W c H s.heap) (F:FOk W f c m s.heap) (r:VRep W c s.heap v V)
    (q:∀ s',Step f.F c s c s'→Ok W c H s'.heap→FOk W f c m' s'.heap→T () s'):wpAny W.M A (assign tg f.env V) T E s:=by
  cases ht with
  | @one i _ _ h1 =>
    by_cases hi:i<m.length
    · cases (if_pos hi).symm.trans hb
      exact assign_name h1 ok F hi r q
    · exact nope' ((if_neg hi).symm.trans hb)
  | @two i j _ _ _ _ _ _ h1 h2 =>
    obtain ⟨a,b,rfl,hb⟩:=pair2_some (g:=fun a b=>if i<m.length∧j<m.length then some ((m.set i (some a)).set j (some b)) else none) hb
    by_cases hi:i<m.length∧j<m.length
    · cases (if_pos hi).symm.trans hb
      exact assign_pair hh h1 h2 ok F hi.1 hi.2 r q
    · exact nope' ((if_neg hi).symm.trans hb)
noncomputable def notTup (e:Expr):Bool:=!(e.ctorIdx.beq 25)
theorem swapped_no {ts:List Expr} {k:Nat} {p:Pos} {e:Expr} (he:notTup e=true) (env:Env):swappedStores [.Tuple ts k p] e env=pure none:=by
  cases e <;> first | rfl | exact absurd he Bool.false_ne_true
theorem swapsSole_no {e:Expr} (he:notComp e=true) (t:Expr) (line:Nat) (env:Env):swapsWithSole [t] e line env=pure false:=by
  unfold swapsWithSole;exact swaps_no he _ _ _
theorem ex_unpack {i j:Nat} {x y:Str} {p q r:Pos} {k:Nat} (h1:Own f i x) (h2:Own f j y) (hc:notComp ea=true) (ht:notTup ea=true) (ha:EvOk W n f (vcE C ma) ea) :
    ExOk W n f (vcS C (.unpack i j ma)) (.Assign [.Tuple [.Name x p,.Name y q] k r] ea pos):=by
  intro A E m c H s Q hr ok F pp
  refine Assign_Tuple (ev1 ha hr ok F pp fun c1 H1 s1 v V st ok1 F1 rv qq=>?_) (swapsSole_no hc _ _ _) (swapped_no ht _)
  obtain ⟨hi,hj,a,b,rfl,qq⟩:=qq
  exact assign_pair hr.handled h1 h2 ok1 F1 hi hj rv fun s2 st2 ok2 F2=>.store (st.weak.trans ok1 F.FX st2) ok2 F2 (show FlRep W _ _ .next _ from rfl) qq
inductive WI (W:Wd) (f:Fm) (c:Cf) (s:Shared) (PC:Lo→Hp→QV→Prop) (PB:Lo→Hp→QF→Prop) (Q:QF) (k:Nat) (s':Shared):Prop
  | mk {c':Cf} {H':Hp} {m':Lo}:Step f.F c s c' s'→Ok W c' H' s'.heap→FOk W f c' m' s'.heap→whileN PC PB k m' H' Q→WI W f c s PC PB Q k s'
theorem ex_while {tb:List Stmt} {lb:MSs} (hc:TeOk W n f (vcE C ma) ea) (hb:ExsOk W n f (vcSs C lb) tb):ExOk W n f (vcS C (.while ma lb)) (.While ea tb [] pos):=by
  intro A E m c H s Q hr ok F p
  obtain ⟨j,p⟩:=p
  refine wpAny_While (codeAny_whileLoop (WI W f c s (vcE C ma) (vcSs C lb) Q) (fun k s' hI=>?_) j ⟨Step.refl _ _ _,ok,F,p⟩)
  obtain ⟨st1,ok1,F1,p1⟩:=hI
  match k,p1 with
  | k+1,p1 =>
    refine te1 hc hr ok1 F1 p1 or_bool fun c2 H2 s2 b st2 ok2 F2 q=>?_
    have st12:=st1.trans ok1 F.FX st2.weak
    clear st1 ok1 F1 p1 st2
    rcases q with ⟨e,q⟩ | ⟨e,q⟩
    · cases e
      refine wpAny_mono (hb A _ _ c2 H2 s2 _ hr ok2 F2 q) (fun fl s3 h3=>?_) fun _ _ e=>e
      obtain ⟨c3,H3,m3,g,st3,ok3,F3,r3,q3⟩:=h3
      have st:=st12.trans ok2 F.FX st3
      cases g with
      | next =>
        obtain rfl:fl=.next:=r3
        exact ⟨k,Nat.lt_succ_self k,st,ok3,F3,q3⟩
      | ret v =>
        obtain ⟨V,rfl,rV⟩:=r3
        exact .store st ok3 F3 (show FlRep W _ _ (.ret v) _ from ⟨V,rfl,rV⟩) q3
    · cases e
      exact wpAny_execs_nil (.store st12 ok2 F2 (show FlRep W _ _ .next _ from rfl) q)
noncomputable def ownedIters : List String := ["enumerate", "zip", "dict_itemiterator", "dict_reverseitemiterator", "odict_iterator", "itertools.zip_longest", "itertools.pairwise"]
structure Itr (W:Wd) (A:Around) (It:Addr) (l:List AV) (live:Hp→Prop) (St:Nat→Cf→Heap→Prop):Prop where
  keep:∀ i c h c' h',St i c h→Later c h c' h'→(∀ o,h.get? It=some o→h'.get? It=some o)→St i c' h'
  cls:∀ i c h,St i c h→∃ o T,h.get? It=some o∧o.cls=.type T∧ownedIters.contains T=false
  item:∀ (i:Nat) c H (s:Shared) E (Q:Option Value→Shared→Prop) v,c.X It→Ok W c H s.heap→live H→St i c s.heap→l[i]? = some v →
    (∀ V h' tk,VRep W c s.heap v V→(∃ o,h'.get? It=some o)→St (i+1) c h'→(∀ b o,b≠It→s.heap.get? b=some o→h'.get? b=some o)→Q (some V) { s with heap:=h',toks:=tk })→wpAny W.M A (pyNext (.ref It)) Q E s
  done:∀ c H (s:Shared) E (Q:Option Value→Shared→Prop),c.X It→Ok W c H s.heap→live H→St l.length c s.heap →
    (∀ h' tk,(∀ b o,b≠It→s.heap.get? b=some o→h'.get? b=some o)→Q none { s with heap:=h',toks:=tk })→wpAny W.M A (pyNext (.ref It)) Q E s
theorem letOwned {tg:Expr} {It:Addr} {V:Value} {T:Unit→Shared→Prop} {M:Model} (h:∃ o Ty,s.heap.get? It=some o∧o.cls=.type Ty∧ownedIters.contains Ty=false) (q:T () s):wpAny M A (letOwnedTupleGo tg (.ref It) V) T E s:=by
  obtain ⟨o,Ty,ho,hc,hn⟩:=h
  have key:∀ a,V=.ref a→wpAny M A (do
      let o ← load It
      match o.cls,o.data with
      | .type n,.fields vs =>
        if ownedIters.contains n && vs[0]? == some (rawInt a) then
          rule "for.unpacks-the-owned-tuple"
          updateField It 0 .none
      | _,_=>pure ()) T E s:=by
    intro a _
    refine wpAny_bind (wpAny_load ho ?_)
    rw [hc]
    cases o.data <;> first | exact wpAny_pure q | (dsimp only;rw [if_neg (by rw [hn,Bool.false_and];decide)];exact wpAny_pure q)
  unfold letOwnedTupleGo
  cases tg <;> first
    | exact wpAny_pure q
    | (cases V <;> first | exact wpAny_pure q | exact key _ rfl)
theorem Ok.leave {It:Addr} (x:Ok W c' H h) (hX:c'.X=(c.hide It).X) (hc:¬ c.X It) (k:∀ b o,b≠It→h.get? b=some o→h'.get? b=some o):Ok W (c'.show c) H h'∧Later c' h (c'.show c) h':=by
  have hXi:c'.X It:=by rw [hX];exact Or.inr rfl
  have L:Later c' h (c'.show c) h':=⟨List.prefix_refl _,fun a o fr e=>⟨⟨fr.1,fun q=>fr.2 (by rw [hX];exact Or.inl q)⟩,k a o (fun q=>fr.2 (q▸hXi)) e⟩⟩
  refine ⟨⟨fun b o e=>k b o (fun q=>?_) (x.base b o e),x.nodup,fun a ha=>⟨(x.hid a ha).1,fun q=>(x.hid a ha).2 (by rw [hX];exact Or.inl q)⟩,x.low,fun a ha=>?_,fun a ha=>?_,fun j o e=>?_⟩,L⟩
  · rw [q,(x.hidX It hXi).1] at e;cases e
  · have ha':c'.X a:=by rw [hX];exact Or.inl ha
    obtain ⟨h1,o,h2⟩:=x.hidX a ha'
    exact ⟨h1,o,k a o (fun q=>hc (q▸ha)) h2⟩
  · obtain ⟨o,e⟩:=x.inh a ha
    exact ⟨o,k a o (fun q=>(x.hid a ha).2 (q▸hXi)) e⟩
  · obtain ⟨a,p,r⟩:=x.obj j o e
    exact ⟨a,p,r.later L fun ob eb=>k a ob (fun q=>(x.hid a (mem_of_get p)).2 (q▸hXi)) eb⟩
theorem FOk.leave {It:Addr} {m₀:Lo} {h₀:Heap} (x:FOk W f c' m h) (hF:¬ f.F It) (y:FOk W f c m₀ h₀) (L:Later c' h (c'.show c) h') (k:∀ b o,b≠It→h.get? b=some o→h'.get? b=some o):FOk W f (c'.show c) m h':=by
  have hL:f.env.locals≠It:=fun q=>hF (Or.inl q.symm)
  have hC:∀ z a,f.env.cells.lookup z=some a→a≠It:=fun z a e q=>hF (Or.inr ⟨z,q▸e⟩)
  refine ⟨x.kind,x.glob,x.blt,y.locX,fun z a e=>y.cellX z a e,x.apart,x.inj,x.kinds,?_,fun i z a hD hk hc=>?_,fun z a hc=>?_⟩
  · obtain ⟨mc,hns,q⟩:=x.ns
    exact ⟨mc,hns.at (fun o e=>k _ o hL e),fun i z hD hk v hv=>(by obtain ⟨V,e,r⟩:=q i z hD hk v hv;exact ⟨V,e,VRep.later L v r⟩)⟩
  · obtain ⟨ov,⟨o,ho,hd⟩,q⟩:=x.cell i z a hD hk hc
    exact ⟨ov,⟨o,k a o (hC z a hc) ho,hd⟩,fun v hv=>(by obtain ⟨V,e,r⟩:=q v hv;exact ⟨V,e,VRep.later L v r⟩)⟩
  · obtain ⟨ov,o,ho,hd⟩:=x.cellsIn z a hc
    exact ⟨ov,o,k a o (hC z a hc) ho,hd⟩
theorem FlRep.later {g:Fl} {fl:Flow} (L:Later c h c' h') (r:FlRep W c h g fl):FlRep W c' h' g fl:=by
  cases g with
  | next=>exact r
  | ret v=>obtain ⟨V,e,rV⟩:=r;exact ⟨V,e,VRep.later L v rV⟩
noncomputable def RF (W:Wd) (A:Around) (E:Value→Shared→Prop) (f:Fm) (c:Cf) (s:Shared) (Q:QF):Result→Shared→Prop:=fun r s'=>match r with | .ok fl=>PostF W f c s Q fl s' | .error e=>cameBackBy W.M A f.env E e s'
theorem RF.after {Q:QF} (F:FOk W f c m s.heap) (st:Step NoF c s c' s') (ok':Ok W c' H' s'.heap):∀ r s'',RF W A E f c' s' Q r s''→RF W A E f c s Q r s''
  | .ok _,_,h=>PostF.afterE F st ok' h
  | .error _,_,h=>h
structure LSt (W:Wd) (f:Fm) (cc:Cf) (s0:Shared) (It:Addr) (St:Nat→Cf→Heap→Prop) (i:Nat) (m:Lo) (H:Hp) (c:Cf) (s:Shared):Prop where
  st:Step (fun a=>f.F a∨a=It) cc s0 c s
  ok:Ok W c H s.heap
  F:FOk W f c m s.heap
  it:St i c s.heap
inductive LI (W:Wd) (f:Fm) (cc:Cf) (s0:Shared) (It:Addr) (St:Nat→Cf→Heap→Prop) (l:List AV) (P:List AV→Lo→Hp→QF→Prop) (Q:QF) (k:Nat) (s:Shared):Prop
  | mk {i:Nat} {m:Lo} {H:Hp} {c:Cf}:k=l.length-i→i≤l.length→P (l.drop i) m H Q→LSt W f cc s0 It St i m H c s→LI W f cc s0 It St l P Q k s
structure LEnv (W:Wd) (A:Around) (f:Fm) (cc:Cf) (It:Addr) (l:List AV) (live:Hp→Prop) (St:Nat→Cf→Heap→Prop):Prop where
  I:Itr W A It l live St
  hh:A.handled=none
  XF:∀ a,(f.F a∨a=It)→cc.X a
  FI:¬ f.F It
variable {cc:Cf} {s0:Shared} {It:Addr} {St:Nat→Cf→Heap→Prop} {i:Nat} {l:List AV} {live:Hp→Prop} {t:MT} {tg:Expr} {tb:List Stmt} {PB:Lo→Hp→QF→Prop} {Q:QF}
theorem LSt.step {m':Lo} (e:LEnv W A f cc It l live St) (y:LSt W f cc s0 It St i m H c s) (st:Step f.F c s c' s') (ok':Ok W c' H' s'.heap) (F':FOk W f c' m' s'.heap):LSt W f cc s0 It St i m' H' c' s' where
  st:=y.st.trans y.ok e.XF ⟨st.pre,st.X,st.fresh,fun b o hb hFb e=>st.keep b o hb (fun q=>hFb (Or.inl q)) e,st.gens,st.os⟩
  ok:=ok'
  F:=F'
  it:=e.I.keep _ _ _ _ _ y.it (st.later y.F.FX) fun o q=>st.keep It o (fun hm=>(y.ok.hid It hm).2 (y.st.X.symm▸e.XF It (Or.inr rfl))) e.FI q
theorem loop_next {v:AV} {T:Value→Shared→Prop} {R0:Shared→Prop} (e:LEnv W A f cc It l live St) (y:LSt W f cc s0 It St i m H c s) (hl:live H) (hv:l[i]? = some v)
    (q:∀ V s',LSt W f cc s0 It St (i+1) m H c s'→VRep W c s'.heap v V→T V s'):wpAny W.M A (pyNext (.ref It)) (fun r s₁=>match r with | none=>R0 s₁ | some v=>T v s₁) E s:=by
  have hX:c.X It:=y.st.X.symm▸e.XF It (Or.inr rfl)
  refine e.I.item i c H s _ _ v hX y.ok hl y.it hv fun V h2 tk rV hIt it2 k2=>?_
  obtain ⟨ok2,L2⟩:=y.ok.own hX k2 hIt
  exact q V { s with heap:=h2,toks:=tk } ⟨y.st.trans y.ok e.XF (Step.ofOwn (a:=It) (Or.inr rfl) k2 rfl rfl),ok2,y.F.mono L2 rfl fun a o hFa e'=>k2 a o (fun q=>e.FI (q▸hFa)) e',it2⟩ (VRep.later L2 _ rV)
theorem loop_go {R:Result→Shared→Prop} {E':Value→Shared→Prop} (e:LEnv W A f cc It l live St) (ht:TgOk f t tg) (y:LSt W f cc s It St 0 m H cc s) (p:forL PB live t l m H Q)
    (hb:∀ {m c H s Q E},Ok W c H s.heap→FOk W f c m s.heap→PB m H Q→wpAny W.M A (execs tb f.env) (PostF W f c s Q) E s)
    (fin:∀ {i m' H' c' s1 h2 tk g fl},LSt W f cc s It St i m' H' c' s1→(∀ b o,b≠It→s1.heap.get? b=some o→h2.get? b=some o)→FlRep W c' s1.heap g fl→Q g m' H'→R (.ok fl) { s1 with heap:=h2,toks:=tk }) :
    codeAny W.M A (.forLoop tg (.ref It) tb [] f.env) R s:=by
  refine codeAny_forLoop_any (LI W f cc s It St l (forL PB live t) Q) (fun k s' hI=>?_) _ (.mk rfl (Nat.zero_le _) p y)
  obtain ⟨rfl,hi,p1,y1⟩:=hI
  rename_i i m1 H1 c1
  rcases Nat.lt_or_eq_of_le hi with hlt | rfl
  · rw [List.drop_eq_getElem_cons hlt] at p1
    obtain ⟨hl,m2,hbind,p2⟩:=p1
    refine loop_next e y1 hl (List.getElem?_eq_getElem hlt) fun V s2 y2 rV=>letOwned (e.I.cls _ _ _ y2.it) (assign_ok e.hh ht hbind y2.ok y2.F rV fun s3 st3 ok3 F3=>?_)
    have y3:=y2.step e st3 ok3 F3
    refine wpAny_mono (hb ok3 F3 p2) (fun fl s4 h4=>?_) fun _ _ e=>e
    obtain ⟨c4,H4,m4,g,st4,ok4,F4,r4,q4⟩:=h4
    have y4:=y3.step e st4 ok4 F4
    clear y1 y2 y3 st3 st4 hbind p2
    cases g with
    | next =>
      obtain rfl:fl=.next:=r4
      exact ⟨_,Nat.sub_succ_lt_self _ _ hlt,.mk rfl hlt q4 y4⟩
    | ret v =>
      obtain ⟨V,rfl,rV⟩:=r4
      exact fin (h2:=s4.heap) (tk:=s4.toks) (fl:=.ret V) y4 (fun _ _ _ e=>e) (show FlRep W _ _ (.ret v) _ from ⟨V,rfl,rV⟩) q4
  · rw [List.drop_length] at p1
    exact e.I.done c1 H1 s' _ _ (y1.st.X.symm▸e.XF It (Or.inr rfl)) y1.ok p1.1 y1.it fun h' tk k2=>wpAny_execs_nil (fin y1 k2 (show FlRep W _ _ .next _ from rfl) p1.2)
theorem for_loop {lb:MSs} (I:Itr W A It l live St) (hr:Room n A) (hb:ExsOk W n f (vcSs C lb) tb) (ht:TgOk f t tg)
    {s₀:Shared} (F₀:FOk W f c m s₀.heap) (hn:s₀.heap.get? It=none) (kp:∀ b o,s₀.heap.get? b=some o→s.heap.get? b=some o) (hg:s.gens=s₀.gens) (ho:s.os=s₀.os)
    (ok:Ok W (c.hide It) H s.heap) (F:FOk W f (c.hide It) m s.heap) (hnX:¬ c.X It) (st:St 0 (c.hide It) s.heap) (p:forL (vcSs C lb) live t l m H Q) :
    codeAny W.M A (.forLoop tg (.ref It) tb [] f.env) (RF W A E f c s₀ Q) s:=by
  have hF:¬ f.F It:=fun q=>hnX (F₀.FX It q)
  refine loop_go (E':=E) ⟨I,hr.handled,fun a q=>q.elim (fun q=>Or.inl (F₀.FX a q)) Or.inr,hF⟩ ht ⟨Step.refl _ _ _,ok,F,st⟩ p (fun ok F p=>hb _ _ _ _ _ _ _ hr ok F p) fun {i m' H' c' s1 h2 tk g fl} y k2 r q=>?_
  obtain ⟨ok2,L2⟩:=y.ok.leave (h':=h2) y.st.X hnX k2
  refine ⟨c'.show c,H',m',g,⟨y.st.pre,rfl,fun a ha=>?_,fun b o hb hFb e=>?_,y.st.gens.trans hg,y.st.os.trans ho⟩,ok2,y.F.leave hF F₀ L2 k2,r.later L2,q⟩
  · refine (y.st.fresh a ha).imp id fun h1=>?_
    cases e:s₀.heap.get? a with
    | none=>rfl
    | some o=>exact nope' (h1.symm.trans (kp a o e))
  · have hbI:b≠It:=fun q=>nope' (hn.symm.trans (q▸e))
    exact k2 b o hbI (y.st.keep b o hb (fun q=>q.elim hFb hbI) (kp b o e))
theorem itr_tuple {ax It:Addr} {items:Array Value} {l:List AV} (hh:A.handled=none):Itr W A It l (fun _=>True)
    (fun i c h => h.IsTupleIter It ax i ∧ Seqn c h "tuple" ax items ∧ VReps W c h l items.toList) where
  keep i c h c' h' x L k:=⟨x.1.at k,x.2.1.later L,VReps.later L _ x.2.2⟩
  cls i c h x:=(by obtain ⟨o,ho,hc,_⟩:=x.1;exact ⟨o,_,ho,hc,by decide⟩)
  item i c H s E Q v hX ok _ x hv hq:=by
    obtain ⟨it,sq,r⟩:=x
    obtain ⟨V,hV,rV⟩:=r.get hv
    rw [Array.getElem?_toList] at hV
    refine wpAny_pyNext_tuple_item it sq.isTuple hV fun h' it' hs'=>?_
    have hin:∃ o,h'.get? It=some o:=(by obtain ⟨o,e,_⟩:=it';exact ⟨o,e⟩)
    obtain ⟨_,L⟩:=ok.own (h':=h') hX (sameBut_of hs') hin
    exact hq V h' s.toks rV hin ⟨it',sq.later L,VReps.later L _ r⟩ (sameBut_of hs')
  done c H s E Q hX ok _ x hq:=by
    obtain ⟨it,sq,r⟩:=x
    have hl:=r.length
    rw [Array.length_toList] at hl
    exact wpAny_pyNext_tuple_end hh it sq.isTuple (by simp [hl]) fun h' he=>hq h' s.toks he
theorem itr_lst {ax It:Addr} {items:Array Value} {l:List AV} (hh:A.handled=none):Itr W A It l (fun _=>True)
    (fun i c h => h.IsListIter It ax i ∧ Seqn c h "list" ax items ∧ VReps W c h l items.toList) where
  keep i c h c' h' x L k:=⟨x.1.at k,x.2.1.later L,VReps.later L _ x.2.2⟩
  cls i c h x:=(by obtain ⟨o,ho,hc,_⟩:=x.1;exact ⟨o,_,ho,hc,by decide⟩)
  item i c H s E Q v hX ok _ x hv hq:=by
    obtain ⟨it,sq,r⟩:=x
    obtain ⟨V,hV,rV⟩:=r.get hv
    rw [Array.getElem?_toList] at hV
    refine wpAny_pyNext_list_item it sq.isList hV fun h' it' hs'=>?_
    have hin:∃ o,h'.get? It=some o:=(by obtain ⟨o,e,_⟩:=it';exact ⟨o,e⟩)
    obtain ⟨_,L⟩:=ok.own (h':=h') hX (sameBut_of hs') hin
    exact hq V h' s.toks rV hin ⟨it',sq.later L,VReps.later L _ r⟩ (sameBut_of hs')
  done c H s E Q hX ok _ x hq:=by
    obtain ⟨it,sq,r⟩:=x
    have hl:=r.length
    rw [Array.length_toList] at hl
    exact wpAny_pyNext_list_end hh it sq.isList (by simp [hl]) fun h' he=>hq h' s.toks he
theorem itr_ref {ax It:Addr} {k:Nat} {l:List AV} (hh:A.handled=none):Itr W A It l (fun H=>H k=some (.list l))
    (fun i c h=>h.IsListIter It ax i∧c.σ[k]? = some ax) where
  keep i c h c' h' x L kk:=⟨x.1.at kk,pre_get L.pre x.2⟩
  cls i c h x:=(by obtain ⟨o,ho,hc,_⟩:=x.1;exact ⟨o,_,ho,hc,by decide⟩)
  item i c H s E Q v hX ok hk x hv hq:=by
    obtain ⟨it,e⟩:=x
    obtain ⟨a,items,e',hp,hz,r⟩:=list_rep ok hk
    obtain rfl:=Option.some.inj (e.symm.trans e')
    obtain ⟨V,hV,rV⟩:=r.get hv
    rw [Array.getElem?_toList] at hV
    refine wpAny_pyNext_list_item it hp.isList hV fun h' it' hs'=>?_
    have hin:∃ o,h'.get? It=some o:=(by obtain ⟨o,e,_⟩:=it';exact ⟨o,e⟩)
    exact hq V h' s.toks rV hin ⟨it',e⟩ (sameBut_of hs')
  done c H s E Q hX ok hk x hq:=by
    obtain ⟨it,e⟩:=x
    obtain ⟨a,items,e',hp,hz,r⟩:=list_rep ok hk
    obtain rfl:=Option.some.inj (e.symm.trans e')
    have hl:=r.length
    rw [Array.length_toList] at hl
    exact wpAny_pyNext_list_end hh it hp.isList (by simp [hl]) fun h' he=>hq h' s.toks he
theorem rangeL_len {j:Nat}:(rangeL j).length=j:=(List.length_map _).trans List.length_range
theorem itr_range {It:Addr} {j:Nat} (hh:A.handled=none):Itr W A It (rangeL j) (fun _=>True) (fun i _ h=>IsRangeIter h It (i:Int) ((j:Int)-(i:Int)) 1) where
  keep i c h c' h' x L k:=k _ x
  cls i c h x:=⟨_,_,x,rfl,by decide⟩
  item i c H s E Q v hX ok _ x hv hq:=by
    have hi:i<j:=Nat.lt_of_lt_of_eq (List.getElem?_eq_some_iff.mp hv).1 rangeL_len
    have hv':v=.int (Int.ofNat i):=by delta rangeL at hv;rw [List.getElem?_map,Int.toNat_natCast,List.getElem?_range hi] at hv;exact (Option.some.inj hv).symm
    subst hv'
    refine wpAny_pyNext_range_item x (by omega) fun h' it' hs'=>?_
    refine hq _ h' _ .ofInt ⟨_,it'⟩ ?_ (sameBut_of hs')
    have e1:((i+1:Nat):Int)=(i:Int)+1:=by omega
    have e2:(j:Int)-((i+1:Nat):Int)=(j:Int)-(i:Int)-1:=by omega
    rw [e2,e1];exact it'
  done c H s E Q hX ok _ x hq:=by
    rw [rangeL_len] at x
    exact wpAny_pyNext_range_end hh x (by omega) fun h' he=>hq h' s.toks he
theorem itr_rev {ax It:Addr} {items:Array Value} {l:List AV} (hh:A.handled=none) (hz:items.size≤sizeLine):Itr W A It l.reverse (fun _=>True)
    (fun i c h => i ≤ items.size ∧ IsRv h It ax ((items.size:Int) - 1 - (i:Int)) ∧ Seqn c h "tuple" ax items ∧ VReps W c h l items.toList) where
  keep i c h c' h' x L k:=⟨x.1,x.2.1.at k,x.2.2.1.later L,VReps.later L _ x.2.2.2⟩
  cls i c h x:=(by obtain ⟨o,ho,hc,_⟩:=x.2.1;exact ⟨o,_,ho,hc,by decide⟩)
  item i c H s E Q v hX ok _ x hv hq:=by
    obtain ⟨hi,it,sq,r⟩:=x
    have hl:=r.length
    rw [Array.length_toList] at hl
    have hlt:i<l.length:=by have:=(List.getElem?_eq_some_iff.mp hv).1;simpa using this
    rw [List.getElem?_reverse hlt] at hv
    obtain ⟨V,hV,rV⟩:=r.get hv
    rw [Array.getElem?_toList] at hV
    have e:(items.size:Int)-1-(i:Int)=((l.length-1-i:Nat):Int):=by omega
    rw [e] at it
    refine wpAny_pyNext_rv_item hz it sq.isTup hV fun h' it' hs'=>?_
    have hin:∃ o,h'.get? It=some o:=(by obtain ⟨o,e,_⟩:=it';exact ⟨o,e⟩)
    obtain ⟨_,L⟩:=ok.own (h':=h') hX (sameBut_of hs') hin
    refine hq V h' _ rV hin ⟨by omega,?_,sq.later L,VReps.later L _ r⟩ (sameBut_of hs')
    have e2:(items.size:Int)-1-((i+1:Nat):Int)=((l.length-1-i:Nat):Int)-1:=by omega
    rw [e2];exact it'
  done c H s E Q hX ok _ x hq:=by
    obtain ⟨hi,it,sq,r⟩:=x
    have hl:=r.length
    rw [Array.length_toList] at hl
    have e:(items.size:Int)-1-(l.reverse.length:Int) = -1:=by rw [List.length_reverse];omega
    rw [e] at it
    exact wpAny_pyNext_rv_end hh it fun h' he=>hq h' s.toks he
theorem for_enter {lb:MSs} {ob:Obj} {tk:Nat} {s₀:Shared} {c₀:Cf} (F₀:FOk W f c₀ m s₀.heap) (st₀:Step NoF c₀ s₀ c s) (hr:Room n A) (hb:ExsOk W n f (vcSs C lb) tb) (ht:TgOk f t tg)
    (I:Itr W A s.heap.objs.size l live St) (ok:Ok W c H s.heap) (F:FOk W f c m s.heap) (hf:ob.isFreed=false) (st:Later c s.heap (c.hide s.heap.objs.size) (s.heap.push ob)→St 0 (c.hide s.heap.objs.size) (s.heap.push ob)) (p:forL (vcSs C lb) live t l m H Q) :
    codeAny W.M A (.forLoop tg (.ref s.heap.objs.size) tb [] f.env) (RF W A E f c₀ s₀ Q) { s with heap:=s.heap.push ob,toks:=tk }:=by
  have kp:=push_keeps s.heap ob
  have hn:s.heap.get? s.heap.objs.size=none:=get?_none_of_size (Nat.le_refl _)
  exact codeAny_mono (for_loop (s:={ s with heap:=s.heap.push ob,toks:=tk }) I hr hb ht F hn kp rfl rfl (ok.hide hn kp ⟨_,Heap.get?_push_size _ hf⟩) (F.hide hn kp) (ok.free_size hn).2 (st (Later.hide hn kp)) p) (RF.after F₀ st₀ ok)
noncomputable def notSet (e:Expr):Bool:=!(e.ctorIdx.beq 7)
theorem folded_no {e:Expr} (he:notSet e=true) (env:Env) (x:Value):foldedSetIterable e env x=pure x:=by
  cases e <;> first | rfl | exact absurd he Bool.false_ne_true
theorem forL_live {b:Lo→Hp→QF→Prop} {live live':Hp→Prop} {t:MT} {Q:QF} (hl:∀ H,live H→live' H) (hmono:∀ m H (Q Q':QF),(∀ g m' H',Q g m' H'→Q' g m' H')→b m H Q→b m H Q') :
    ∀ (l:List AV) (m:Lo) (H:Hp),forL b live t l m H Q→forL b live' t l m H Q
  | [],_,_,p=>⟨hl _ p.1,p.2⟩
  | _::vs,_,_,⟨p,m',e,q⟩=>⟨hl _ p,m',e,hmono _ _ _ _ (fun g m'' H' x=>by cases g with | next=>exact forL_live hl hmono vs m'' H' x | ret v=>exact x) q⟩
theorem ex_for {iter:Expr} {lb:MSs} (hns:notSet iter=true) (hm:MonoF (vcSs C lb)) (ht:TgOk f t tg) (ha:EvOk W n f (vcE C ma) iter) (hb:ExsOk W n f (vcSs C lb) tb) :
    ExOk W n f (vcS C (.for t ma lb)) (.For tg iter tb [] pos):=by
  intro A E m c H s Q hr ok F p
  refine wpAny_For (ev1 ha hr ok F p fun c1 H1 s1 x V st ok1 F1 r q=>?_) (folded_no hns _)
  obtain ⟨l,hl,q⟩:=q
  revert r q
  refine seq_some (P:=fun x=>VRep W c1 s1.heap x V→forL (vcSs C lb) (Live H1 x) t l m H1 Q→_) hl (fun r q=>?_) (fun r q=>?_) fun k hk r q=>?_
  · obtain ⟨a,items,rfl,sq,hz,r⟩:=r.tup
    exact wpAny_pyIter_tuple sq.isTuple (for_enter F st hr hb ht (itr_tuple (ax:=a) (items:=items) (l:=l) hr.handled) ok1 F1 rfl (fun L=>⟨⟨_,Heap.get?_push_size _ rfl,rfl,rfl⟩,sq.later L,VReps.later L _ r⟩) (forL_live (fun _ _=>trivial) hm l m H1 q))
  · obtain ⟨a,items,rfl,sq,hz,r⟩:=r.lst
    exact wpAny_pyIter_list sq.isList (for_enter F st hr hb ht (itr_lst (ax:=a) (items:=items) (l:=l) hr.handled) ok1 F1 rfl (fun L=>⟨⟨_,Heap.get?_push_size _ rfl,rfl,rfl⟩,sq.later L,VReps.later L _ r⟩) (forL_live (fun _ _=>trivial) hm l m H1 q))
  · obtain ⟨a,e,rfl⟩:=r.ref
    obtain ⟨b,items,e',hp,hz,r⟩:=list_rep ok1 hk
    obtain rfl:a=b:=Option.some.inj (e.symm.trans e')
    exact wpAny_pyIter_list hp.isList (for_enter F st hr hb ht (itr_ref (ax:=a) (k:=k) (l:=l) hr.handled) ok1 F1 rfl (fun L=>⟨⟨_,Heap.get?_push_size _ rfl,rfl,rfl⟩,e⟩) (forL_live (fun H' (h:H' k=H1 k)=>h.trans hk) hm l m H1 q))
theorem ex_forRev (k:Wk W) (wn:Wn W) {lb:MSs} (hx:f.env.kindOf "reversed" = some .globalImplicit) (hs:notStar ea = true) (ht:TgOk f t tg) (ha:EvOk W n f (vcE C ma) ea) (hb:ExsOk W n f (vcSs C lb) tb) :
    ExOk W n f (vcS C (.forRev t ma lb)) (.For tg (.Call (.Name "reversed" np) [ea] [] apos) tb [] pos):=by
  intro A E m c H s Q hr ok F p
  refine wpAny_For (callB k wn ok F hx (bm 2 rfl) (Or.inr ⟨_,rfl⟩) hs (ev1 ha hr ok F p fun c1 H1 s1 x V st ok1 F1 r q=>?_))
  obtain ⟨l,rfl,q⟩:=q
  obtain ⟨a,items,rfl,sq,hz,r⟩:=r.tup
  refine call_reversed_tuple sq.isTup hz ?_
  exact wpAny_pyIter_rv (s:={ s1 with heap:=s1.heap.push (rvObj a ((items.size:Int)-1)),toks:=s1.toks+1+1 }) ⟨_,Heap.get?_push_size _ rfl,rfl,rfl⟩
    (for_enter F st hr hb ht (itr_rev (ax:=a) (items:=items) (l:=l) hr.handled hz) ok1 F1 rfl (fun L=>⟨Nat.zero_le _,⟨_,Heap.get?_push_size _ rfl,rfl,by rw [Int.natCast_zero,Int.sub_zero];rfl⟩,sq.later L,VReps.later L _ r⟩) q)
theorem ex_forRange (k:Wk W) (wn:Wn W) {lb:MSs} (hx:f.env.kindOf "range" = some .globalImplicit) (hs:notStar ea = true) (ht:TgOk f t tg) (ha:EvOk W n f (vcE C ma) ea) (hb:ExsOk W n f (vcSs C lb) tb) :
    ExOk W n f (vcS C (.forRange t ma lb)) (.For tg (.Call (.Name "range" np) [ea] [] apos) tb [] pos):=by
  intro A E m c H s Q hr ok F p
  refine wpAny_For (callB k wn ok F hx (bm 1 rfl) (Or.inr ⟨_,rfl⟩) hs (ev1 ha hr ok F p fun c1 H1 s1 x V st ok1 F1 r q=>?_))
  obtain ⟨i,rfl,hlow,hcap,q⟩:=q
  obtain ⟨t0,rfl⟩:=r.int
  refine call_range_1 ?_
  have hrg:=IsRange.new s1.heap 0 i 1 s1.toks t0 (s1.toks+1)
  have kp:=push_keeps s1.heap { cls:=.type "range",data:=.fields #[.int 0 s1.toks,.int i t0,.int 1 (s1.toks + 1)] }
  generalize hs2:({ s1 with heap:=s1.heap.push { cls:=.type "range",data:=.fields #[.int 0 s1.toks,.int i t0,.int 1 (s1.toks + 1)] },toks:=s1.toks + 1 + 1 }:Shared) = s2
  have h2:s2.heap = s1.heap.push { cls:=.type "range",data:=.fields #[.int 0 s1.toks,.int i t0,.int 1 (s1.toks + 1)] }:=by rw [← hs2]
  rw [← h2] at hrg kp
  have st2:Step NoF c1 s1 c1 s2:=Step.ofKeep kp (by rw [← hs2]) (by rw [← hs2])
  have ok2:=ok1.keepAll kp
  have F2:=F1.step ok1 st2
  have st02:=st.trans ok1 (fun _ e=>e.elim) st2
  clear hs2 h2 st2 kp
  obtain ⟨j,rfl⟩:=Int.eq_ofNat_of_zero_le hlow
  have hsize:Builtin.Range.rangeSize 0 (j:Int) 1=(j:Int):=by
    rw [rangeSize_one,Int.sub_zero];split <;> omega
  have hc1:(j:Int)≤1000000:=hcap
  refine wpAny_pyIter_range hrg (small_one (by omega) (by omega) (by omega) (by omega)) ?_
  rw [hsize]
  refine for_enter F st02 hr hb ht (itr_range (W:=W) (A:=A) (j:=j) hr.handled) ok2 F2 rfl (fun L=>?_) q
  have:=Heap.get?_push_size s2.heap (o:={ cls:=.type "range_iterator",data:=.fields #[rawInt 0,rawInt (j:Int),rawInt 1] }) rfl
  show IsRangeIter _ _ ((0:Nat):Int) ((j:Int)-((0:Nat):Int)) 1
  rw [Int.natCast_zero,Int.sub_zero]
  exact this
end LY.Internal
end

section
open PySem PySem.W PySem.Calls PyProof.Rows PySem.SeqAt
namespace LY.Internal
variable {W:Wd} {f:Fm} {c c':Cf} {m:Lo} {h h':Heap} {H H':Hp} {s s':Shared} {A:Around} {E:Value→Shared→Prop} {n:Nat} {C:CallP}
  {ma mb md:ME} {ea eb ed:Expr} {pos np apos tpos:Pos}
theorem seq_list_iadd:seqSlot? (.type "list") (dunderI "add") = pure (some (.builtin "list.__iadd__")):=PySem.seqSlot_of PySem.F.slot_list_iadd.lookup (by decide +kernel)
theorem iadd_list {M : Model} {a b : Value} {Q : Value → Shared → Prop} (ha : s.TypeIs a "list") (hb : s.TypeIs b "list")
    (hc:wpAny M A (call (.builtin "list.__iadd__") [a,b]) Q E s):wpAny M A (inplaceOp .Add a b) Q E s:=by
  unfold inplaceOp
  refine wpAny_holding ?_
  have hfi:fillsInplaceSlot (.type "list") "add" (Operator.Add == .Add) = pure false:=by
    unfold fillsInplaceSlot
    show (typeLookup (.type "list") (dunderI "add") >>= fun fi => pure (fi.isSome && !isSeqSlot fi)) = pure false
    rw [PySem.F.slot_list_iadd.lookup]
    show (pure (true && !isSeqSlot (some (.builtin "list.__iadd__"))):Sem Bool) = pure false
    rw [show isSeqSlot (some (.builtin "list.__iadd__")) = true by decide +kernel]; rfl
  refine wpAny_bind (wpAny_typeOf ha (wpAny_bind (wpAny_of_eq hfi ?_)))
  show wpAny M A (if false=true then _ else _) Q E s
  rw [if_neg Bool.false_ne_true]
  refine wpAny_bind (wpAny_binaryOp1_none (nm:="add") ha hb noFill_list_add ?_)
  refine wpAny_bind (wpAny_of_eq seq_list_iadd ?_)
  exact wpAny_bind (wpAny_rule hc)
theorem list_iaddW (l:Addr) (items:Array Value) (n:Nat) (b:Addr) (items2:Array Value) (n2:Nat) (dd:Option Addr) (sl:Array (Option Value)) (hc0:¬(!items.isEmpty && Builtin.List.listTooLong (items.size+items2.size))=true) (hc1:items.size≤sizeLine) (hs2:items.size+items2.size≤sizeLine+1) :
    Meets (Builtin.«list.__iadd__» ⟨[.ref l, .ref b], []⟩) (fun _ R s => s.heap.get? l = some { cls := .type "list", dict := none, data := .seq items n, slots := #[] } ∧ s.heap.get? b = some { cls := .type "list", dict := dd, data := .seq items2 n2, slots := sl } ∧ R (.ok (.ret (.ref l))) { s with heap := s.heap.update l (Obj.mapSeq fun x => x ++ items2), toks := s.toks }) :=
  .of_wp fun prog w A R s h=>by
    obtain ⟨hp,g,d,tk,os⟩:=s;obtain ⟨hl,hb,h⟩:=h;have f1:=AutoSeq1.idx_int;have f2:=AutoSeq1.sub_tuple_tuple;have f3:=AutoSeq1.sub_list_list;have f4:=AutoSeq1.sub_tuple_list;have f5:=AutoSeq1.sub_list_tuple;
    have hz':(items++items2).size≤sizeLine+1:=by rw [Array.size_append];exact hs2
    wp_walk using (wpAny_updateSeq hl rfl (hz:=hc1) (_hz':=hz')),AutoSeq1.wpAny_loadPart' hl,AutoSeq1.wpAny_loadPart' hb;exact ⟨_,rfl,h⟩
theorem Lo.at_some {m:Lo} {i:Nat} {v:AV} (h:m.at i=some v):m[i]? = some (some v):=by
  unfold Lo.at at h
  revert h
  cases m[i]? with
  | none=>exact fun h=>nope' h
  | some o=>cases o with
    | none=>exact fun h=>nope' h
    | some u=>exact fun h=>congrArg (fun z=>some (some z)) (Option.some.inj h)
theorem ex_augList {i:Nat} {x:Str} (hown:Own f i x) (ha:EvOk W n f (vcE C ma) ea):ExOk W n f (vcS C (.augList i ma)) (.AugAssign (.Name x np) .Add ea pos):=by
  intro A E m c H s Q hr ok F p
  obtain ⟨k,hv,p⟩:=p
  refine wpAny_AugAssign_Name (loadVar F hown.1 hv fun V r=>ev1 ha hr ok F p fun c1 H1 s1 y U st ok1 F1 r1 q=>?_)
  obtain ⟨l,l',hk,hl',hcap,hi,q⟩:=q
  have r:=VRep.later st.laterE _ r
  obtain ⟨a,e,rfl⟩:=id r.ref
  obtain ⟨b,items,e',hp,hz,rr⟩:=list_rep ok1 hk
  obtain rfl:=Option.some.inj (e.symm.trans e')
  obtain ⟨j,ho⟩:=id hp
  have hb:∃ b2 items2 dd sl n2,U = .ref b2 ∧ s1.heap.get? b2 = some { cls:=.type "list",dict:=dd,data:=.seq items2 n2,slots:=sl } ∧ VReps W c1 s1.heap l' items2.toList:=by
    obtain ⟨b2,items2,rfl,hl2,_,r2⟩:=listOf_rep ok1 r1 hl'
    obtain ⟨⟨cls,dd,data,sl⟩,ho2,hc2,n2,hd2⟩:=hl2
    obtain rfl:cls=_:=hc2
    obtain rfl:data=_:=hd2
    exact ⟨b2,items2,dd,sl,n2,rfl,ho2,r2⟩
  obtain ⟨b2,items2,dd,sl,n2,rfl,ho2,r2⟩:=hb
  have hl:=rr.length
  have hl2:=r2.length
  rw [Array.length_toList] at hl hl2
  have hsum:items.size+items2.size≤sizeLine:=by rw [hl,hl2];exact Nat.le_trans hcap sizeLine_cap
  refine iadd_list ⟨_,ho,rfl⟩ ⟨_,ho2,rfl⟩ ?_
  refine call_meets PySem.F.slot_list_iadd ⟨_,ho,rfl⟩ PySem.F.entry_list_iadd (PySem.F.args_list_iadd_2 _ _) (list_iaddW a items j b2 items2 n2 dd sl (extend_door hsum) hz (by omega)) ⟨ho,ho2,?_⟩
  have pv:=PostV.setList (t:=s1.toks) (v:=.ref k) (V:=.ref a) (l':=l++l') (Q:=fun v H'=>v=.ref k∧Q .next (m.set i (some (.ref k))) H') ok1 e (fun b o hb e=>(Heap.get?_update_other _ _ (Ne.symm hb)).trans e) (plain_app ho) (by rw [Array.size_append];exact hsum) (by rw [Array.toList_append];exact rr.append r2) r ⟨rfl,by
    rw [show m.set i (some (.ref k))=m from ?_]
    · exact q
    · exact List.ext_getElem? fun q=>by
        rw [List.getElem?_set]
        by_cases e:i=q
        · subst e;rw [if_pos rfl,if_pos hi,Lo.at_some hv]
        · rw [if_neg e]⟩
  obtain ⟨c2,H2,v,st2,ok2,r3,rfl,q2⟩:=pv
  have F2:=F1.step ok1 st2
  refine storeVar ok2 F2 hown.1 hown.2 hi r3 fun s3 st3 ok3 F3=>.store ((st.trans ok1 (fun _ e=>e.elim) st2).weak.trans ok2 F.FX st3) ok3 F3 (show FlRep W _ _ .next _ from rfl) q2
theorem mergeK_length (l:List (Str × AV)) (ks:List Str):(mergeK l ks).length≤l.length+ks.length:=by
  unfold mergeK
  induction ks generalizing l with
  | nil=>simp
  | cons k ks ih =>
    rw [List.foldl_cons]
    have h1:=ih (setK l k (.bool true))
    have h2:=setK_len (k:=k) (v:=.bool true) l
    simp only [List.length_cons]
    omega
theorem mergeK_snoc (l:List (Str × AV)) (ks:List Str) (k:Str):mergeK l (ks++[k])=setK (mergeK l ks) k (.bool true):=by unfold mergeK;simp
structure MEnv (f:Fm) (cc:Cf) (I aj ak:Addr) (k tg i:Nat) (x xt:Str):Prop where
  own:Own f i x
  ht:f.D tg=some xt
  ek:cc.σ[k]? = some ak
  XF:∀ a,(f.F a∨a=I)→cc.X a
  FI:¬ f.F I
  Fj:¬ f.F aj
  jI:aj≠I
  kI:ak≠I
  jk:aj≠ak
  it:i≠tg
structure MSt (W:Wd) (f:Fm) (cc:Cf) (s0:Shared) (I aj:Addr) (kvs:List (Str × Value)) (ep:Nat) (j:Nat) (H:Hp) (m:Lo) (s:Shared):Prop where
  st:Step (fun a=>f.F a∨a=I) cc s0 cc s
  ok:Ok W cc H s.heap
  F:FOk W f cc m s.heap
  it:s.heap.IsKeyIter I aj j kvs.length ep
  at_:s.heap.DictAt (PySem.strKind W.prog W.w) aj kvs ep
variable {cc:Cf} {s0:Shared} {I aj ak:Addr} {kvs:List (Str × Value)} {ep j k tg i:Nat} {x xt:Str} {l:List (Str × AV)}
theorem merge_next {T:Value→Shared→Prop} {R0:Shared→Prop} {key:Str} {val:Value} (e:MEnv f cc I aj ak k tg i x xt) (y:MSt W f cc s0 I aj kvs ep j H m s) (hx:kvs[j]? = some (key,val))
    (q:∀ t s',MSt W f cc s0 I aj kvs ep (j+1) H m s'→(∃ o Ty,s'.heap.get? I=some o∧o.cls=.type Ty∧ownedIters.contains Ty=false)→T (.str key t) s'):wpAny W.M A (pyNext (.ref I)) (fun r s₁=>match r with | none=>R0 s₁ | some v=>T v s₁) E s:=by
  refine wpAny_pyNext_dict_item y.it y.at_ hx fun kv h2 hkey it2 hs2=>?_
  obtain ⟨t,rfl⟩:=Value.isStrOf_shape hkey
  have k2:=sameBut_of hs2
  have hXi:cc.X I:=e.XF I (Or.inr rfl)
  obtain ⟨ok2,L2⟩:=y.ok.own (h':=h2) hXi k2 ((by obtain ⟨o,e,_⟩:=it2;exact ⟨o,e⟩))
  exact q t { s with heap:=h2 } ⟨y.st.trans y.ok e.XF (Step.ofOwn (a:=I) (Or.inr rfl) k2 rfl rfl),ok2,y.F.mono L2 rfl fun a o hFa e'=>k2 a o (fun q=>e.FI (q▸hFa)) e',it2,y.at_.at' fun o e'=>k2 aj o e.jI e'⟩ ((by obtain ⟨o,ho,hc,_⟩:=it2;exact ⟨o,_,ho,hc,by decide⟩))
theorem merge_one {p1 p3 p4 p5 p6 p7:Pos} {sfx:Nat} {key:Str} {t:Tok} {T:Flow→Shared→Prop} {E2:Value→Shared→Prop} (e:MEnv f cc I aj ak k tg i x xt) (y:MSt W f cc s0 I aj kvs ep j H m s) (him:i<m.length) (hv:m.at tg=some (.ref k)) (hk:H k=some (.dS l)) (hcap:l.length<cap)
    (q:∀ s',MSt W f cc s0 I aj kvs ep j (H.set k (.dS (setK l key (.bool true)))) (m.set i (some (.str key))) s'→T .next s') :
    wpAny W.M A (assign (.Name x p1) f.env (.str key t)) (fun _ s₂=>wpAny W.M A (execs [.Assign [.Subscript (.Name xt p3) (.Name x p4) p5] (.Constant (.bool true) sfx p6) p7] f.env) T E2 s₂) E s:=by
  refine wpAny_assign_Name (storeVar' y.ok y.F e.own.1 e.own.2 him (.ofStr (i:=key)) fun s3 st3 ok3 F3 k3=>?_)
  have wide:Step (fun a=>f.F a∨a=I) cc s cc s3:=⟨st3.pre,st3.X,st3.fresh,fun b o hb hFb e=>st3.keep b o hb (fun q=>hFb (Or.inl q)) e,st3.gens,st3.os⟩
  refine wpAny_execs_cons (wpAny_Assign_Subscript (wpAny_Constant_bool (evalVar F3 e.ht ((Lo.at_set_ne e.it).trans hv) fun V2 rV2=>evalVar F3 e.own.1 (Lo.at_set him) fun V3 rV3=>?_)))
  obtain ⟨ak',ek',rfl⟩:=rV2.ref
  obtain rfl:ak=ak':=Option.some.inj (e.ek.symm.trans ek')
  obtain ⟨t2,rfl⟩:=rV3.str
  refine setDS' (v:=.bool true) ok3 ek' .ofBool hk hcap fun s4 st4 ok4 k4=>wpAny_execs_nil (q s4 ?_)
  exact ⟨(y.st.trans y.ok e.XF wide).trans ok3 e.XF st4.weak,ok4,F3.step ok3 st4,(y.it.at fun o e'=>k3 _ o e.FI e').at fun o e'=>k4 _ o (Ne.symm e.kI) e',(y.at_.at' fun o e'=>k3 aj o e.Fj e').at' fun o e'=>k4 _ o e.jk e'⟩
inductive MI (W:Wd) (f:Fm) (cc:Cf) (s0:Shared) (I aj:Addr) (kvs:List (Str × Value)) (ep k i:Nat) (l:List (Str × AV)) (H0:Hp) (m0:Lo) (kk:Nat) (s:Shared):Prop
  | mk {j:Nat} {m:Lo}:kk=kvs.length-j→j≤kvs.length→m.length=m0.length→(∀ q,q≠i→m.at q=m0.at q)→MSt W f cc s0 I aj kvs ep j (H0.set k (.dS (mergeK l ((kvs.map (·.1)).take j)))) m s→MI W f cc s0 I aj kvs ep k i l H0 m0 kk s
theorem merge_loop {p1 p3 p4 p5 p6 p7:Pos} {sfx:Nat} {R:Result→Shared→Prop} (hh:A.handled=none) (e:MEnv f cc I aj ak k tg i x xt) (y:MSt W f cc s I aj kvs ep 0 H m s) (him:i<m.length) (hv:m.at tg=some (.ref k)) (hk:H k=some (.dS l)) (hcap:l.length+kvs.length≤cap)
    (fin:∀ {m' s1 h2},m'.length=m.length→(∀ q,q≠i→m'.at q=m.at q)→MSt W f cc s I aj kvs ep kvs.length (H.set k (.dS (mergeK l (kvs.map (·.1))))) m' s1→(∀ b o,b≠I→s1.heap.get? b=some o→h2.get? b=some o)→R (.ok .next) { s1 with heap:=h2 }) :
    codeAny W.M A (.forLoop (.Name x p1) (.ref I) [.Assign [.Subscript (.Name xt p3) (.Name x p4) p5] (.Constant (.bool true) sfx p6) p7] [] f.env) R s:=by
  refine codeAny_forLoop_any (MI W f cc s I aj kvs ep k i l H m) (fun kk s' hI=>?_) _ (.mk (j:=0) (m:=m) rfl (Nat.zero_le _) rfl (fun _ _=>rfl) ((Hp.set_eq (o:=.dS (mergeK l ((kvs.map (·.1)).take 0))) hk).symm▸y))
  obtain ⟨rfl,hj,hm1,hm2,y1⟩:=hI
  rename_i j m1
  rcases Nat.lt_or_eq_of_le hj with hlt | rfl
  · refine merge_next e y1 (List.getElem?_eq_getElem hlt) fun t s2 y2 ho=>letOwned ho ?_
    refine merge_one e y2 (hm1.symm▸him) ((hm2 tg (Ne.symm e.it)).trans hv) (Hp.set_self ..) ?_ fun s3 y3=>?_
    · have h2:((kvs.map (·.1)).take j).length≤j:=List.length_take_le ..
      exact Nat.lt_of_le_of_lt (Nat.le_trans (mergeK_length ..) (Nat.add_le_add_left h2 _)) (Nat.lt_of_lt_of_le (Nat.add_lt_add_left hlt _) hcap)
    · rw [Hp.set_set,← mergeK_snoc] at y3
      refine ⟨_,Nat.sub_succ_lt_self _ _ hlt,.mk (j:=j+1) (m:=m1.set i (some (.str kvs[j].1))) rfl hlt ((List.length_set ..).trans hm1) (fun q hq=>(Lo.at_set_ne (Ne.symm hq)).trans (hm2 q hq)) ?_⟩
      rw [List.take_add_one,List.getElem?_map,List.getElem?_eq_getElem hlt]
      exact y3
  · refine wpAny_pyNext_dict_end hh y1.it y1.at_ (by simp) fun h2 k2=>wpAny_execs_nil (fin hm1 hm2 ?_ k2)
    rw [← List.length_map (f:=(·.1)),List.take_length,List.length_map] at y1
    exact y1
theorem ex_merge {i sr tg:Nat} {x xs xt:Str} {p1 p2 p3 p4 p5 p6 p7:Pos} {sfx:Nat} (hown:Own f i x) (hs:f.D sr=some xs) (ht:f.D tg=some xt) :
    ExOk W n f (vcS C (.merge i sr tg)) (.For (.Name x p1) (.Name xs p2) [.Assign [.Subscript (.Name xt p3) (.Name x p4) p5] (.Constant (.bool true) sfx p6) p7] [] pos):=by
  intro A E m c H s Q hr ok F p
  obtain ⟨j,k,l,l',hsr,htg,hit,him,hjk,hj,hk,hcap,q⟩:=p
  refine wpAny_For (evalVar F hs hsr fun V rV=>?_) (fun _=>rfl)
  obtain ⟨aj,ej,rfl⟩:=rV.ref
  obtain ⟨b,kvs,e',low,hd,hz,hkeys,hvals⟩:=dictS_rep ok hj
  obtain rfl:aj=b:=Option.some.inj (ej.symm.trans e')
  obtain ⟨ak,ek,-⟩:=ok.obj k _ hk
  obtain ⟨ep,hat⟩:=hd.dictAt
  have hkl:kvs.map (·.1)=l'.map (·.1):=hkeys
  have hlen:kvs.length=l'.length:=(List.length_map (·.1)).symm.trans ((congrArg List.length hkl).trans (List.length_map _))
  refine wpAny_pyIter_dict low hat ?_
  generalize hob:({ cls:=.type "dict_keyiterator",data:=.fields #[.ref aj,.int 0 0,.int kvs.length 0,.int ep 0] }:Obj) = ob
  have hf:ob.isFreed=false:=hob▸rfl
  have kp:=push_keeps s.heap ob
  have hn:s.heap.get? s.heap.objs.size=none:=get?_none_of_size (Nat.le_refl _)
  have hgI:(s.heap.push ob).get? s.heap.objs.size=some ob:=Heap.get?_push_size _ hf
  have hit0:(s.heap.push ob).IsKeyIter s.heap.objs.size aj 0 kvs.length ep:=⟨ob,hgI,hob▸rfl,hob▸rfl⟩
  have hat0:(s.heap.push ob).DictAt (PySem.strKind W.prog W.w) aj kvs ep:=hat.push ob
  generalize hs0:({ s with heap:=s.heap.push ob }:Shared)=s0
  have h0:s0.heap=s.heap.push ob:=by rw [← hs0]
  have g0:s0.gens=s.gens:=by rw [← hs0]
  have o0:s0.os=s.os:=by rw [← hs0]
  rw [← h0] at hit0 hat0 kp hgI
  clear hs0 h0
  generalize s.heap.objs.size=I at *
  have hIX:¬ c.X I:=(ok.free_size hn).2
  have hF:¬ f.F I:=fun q=>hIX (F.FX _ q)
  have hin:∀ {k a},c.σ[k]? = some a→a≠I:=fun ek q=>by obtain ⟨o,e⟩:=ok.inh _ (mem_of_get ek);rw [q,hn] at e;cases e
  refine merge_loop hr.handled (cc:=c.hide I) ⟨hown,ht,ek,fun a q=>q.elim (fun q=>Or.inl (F.FX a q)) Or.inr,hF,fun q=>(ok.hid aj (mem_of_get ej)).2 (F.FX _ q),hin ej,hin ek,fun e=>hjk (nodup_get_inj ok.nodup ej (e▸ek)),hit⟩
    ⟨Step.refl _ _ _,ok.hide hn kp ⟨_,hgI⟩,F.hide hn kp,hit0,hat0⟩ him htg hk (hlen.symm▸hcap) fun {m' s1 h2} h1 h3 y k2=>?_
  obtain ⟨ok2,L2⟩:=y.ok.leave (h':=h2) rfl hIX k2
  refine ⟨(c.hide I).show c,_,m',.next,⟨y.st.pre,rfl,fun a ha=>Or.inl ha,fun b o hb hFb e=>?_,y.st.gens.trans g0,y.st.os.trans o0⟩,ok2,y.F.leave hF F L2 k2,(show FlRep W _ _ .next _ from rfl),hkl▸q m' h1 h3⟩
  have hbI:b≠I:=fun q=>by rw [q,hn] at e;cases e
  exact k2 b o hbI (y.st.keep b o hb (fun q=>q.elim hFb hbI) (kp b o e))
end LY.Internal
end

section
open PySem PySem.W PySem.Calls PyProof.Rows PySem.SeqAt
namespace LY.Internal
variable {W:Wd} {f:Fm} {c c':Cf} {m:Lo} {h h':Heap} {H H':Hp} {s s':Shared} {A:Around} {E:Value→Shared→Prop} {n:Nat} {C:CallP}
  {ma mb md:ME} {ea eb ed:Expr} {pos np apos tpos:Pos}
theorem Later.narrow {c2:Cf} {X':Addr→Prop} (hX:∀ a,X' a→c2.X a):Later c2 h ⟨c2.σ,X'⟩ h:=⟨List.prefix_refl _,fun a o fr e=>⟨⟨fr.1,fun q=>fr.2 (hX a q)⟩,e⟩⟩
theorem Ok.narrow {c2:Cf} {X':Addr→Prop} (x:Ok W c2 H h) (hX:∀ a,X' a→c2.X a):Ok W ⟨c2.σ,X'⟩ H h :=
  ⟨x.base,x.nodup,fun a ha=>⟨(x.hid a ha).1,fun q=>(x.hid a ha).2 (hX a q)⟩,x.low,fun a ha=>x.hidX a (hX a ha),x.inh,
    fun j o e=>(by obtain ⟨a,p,q⟩:=x.obj j o e;exact ⟨a,p,q.later (Later.narrow hX) fun _ e=>e⟩)⟩
noncomputable def Cf.hideP (c:Cf) (P:Addr→Prop):Cf:=⟨c.σ,fun a=>c.X a∨P a⟩
theorem Later.hideP {P:Addr→Prop} (hn:∀ d,P d→h.get? d=none) (k:∀ b o,h.get? b=some o→h'.get? b=some o):Later c h (c.hideP P) h' :=
  ⟨List.prefix_refl _,fun a o fr e=>⟨⟨fr.1,fun q=>q.elim fr.2 fun e'=>(by rw [hn a e'] at e;cases e)⟩,k a o e⟩⟩
theorem Ok.hideP {P:Addr→Prop} (x:Ok W c H h) (hn:∀ d,P d→h.get? d=none) (k:∀ b o,h.get? b=some o→h'.get? b=some o) (hin:∀ d,P d→∃ o,h'.get? d=some o):Ok W (c.hideP P) H h':=by
  have L:=Later.hideP (c:=c) hn k
  refine ⟨fun b o e=>k b o (x.base b o e),x.nodup,fun a ha=>⟨(x.hid a ha).1,fun q=>q.elim (x.hid a ha).2 fun e=>?_⟩,x.low,fun a ha=>?_,fun a ha=>?_,fun j o e=>?_⟩
  · obtain ⟨o,q⟩:=x.inh a ha;rw [hn a e] at q;cases q
  · rcases ha with ha | ha
    · exact ⟨(x.hidX a ha).1,(by obtain ⟨o,e⟩:=(x.hidX a ha).2;exact ⟨o,k _ _ e⟩)⟩
    · refine ⟨?_,hin a ha⟩
      cases e:W.h₀.get? a with
      | none=>rfl
      | some o=>have:=x.base _ _ e;rw [hn a ha] at this;cases this
  · obtain ⟨o,e⟩:=x.inh a ha;exact ⟨o,k _ _ e⟩
  · obtain ⟨a,p,q⟩:=x.obj j o e
    exact ⟨a,p,q.later L (k a)⟩
theorem FOk.conf (x:FOk W f c m h) (L:Later c h c' h') (hX:∀ a,c.X a→f.F a→c'.X a) (k:∀ a o,f.F a→h.get? a=some o→h'.get? a=some o):FOk W f c' m h' where
  kind:=x.kind
  glob:=x.glob
  blt:=x.blt
  locX:=hX _ x.locX (Or.inl rfl)
  cellX y a e:=⟨hX _ (x.cellX y a e).1 (Or.inr ⟨y,e⟩),(x.cellX y a e).2⟩
  apart:=x.apart
  inj:=x.inj
  kinds:=x.kinds
  ns:=by
    obtain ⟨mc,hn,q⟩:=x.ns
    refine ⟨mc,hn.at (fun o e=>k _ o (Or.inl rfl) e),fun i y hD hk v hv=>?_⟩
    obtain ⟨V,e,r⟩:=q i y hD hk v hv
    exact ⟨V,e,VRep.later L v r⟩
  cell i y a hD hk hc:=by
    obtain ⟨ov,⟨o,ho,hd⟩,q⟩:=x.cell i y a hD hk hc
    refine ⟨ov,⟨o,k _ o (Or.inr ⟨y,hc⟩) ho,hd⟩,fun v hv=>?_⟩
    obtain ⟨V,e,r⟩:=q v hv
    exact ⟨V,e,VRep.later L v r⟩
  cellsIn y a hc:=by
    obtain ⟨ov,o,ho,hd⟩:=x.cellsIn y a hc
    exact ⟨ov,o,k _ o (Or.inr ⟨y,hc⟩) ho,hd⟩
theorem lookup_two {κ β:Type} [BEq κ] [LawfulBEq κ] {x y:κ} {v:β} {l:List (κ × β)}:(x=y∧List.lookup x ((y,v)::l)=some v)∨List.lookup x ((y,v)::l)=List.lookup x l:=by
  cases h:x == y with
  | true=>exact Or.inl ⟨eq_of_beq h,by rw [List.lookup_cons,h]⟩
  | false=>exact Or.inr (by rw [List.lookup_cons,h])
theorem lookup_inv {κ β:Type} [BEq κ] [LawfulBEq κ] {x y:κ} {v w:β} {l:List (κ × β)} (e:List.lookup x ((y,v)::l)=some w):(x=y∧v=w)∨List.lookup x l=some w :=
  (lookup_two (x:=x) (y:=y)).imp (fun h=>⟨h.1,Option.some.inj (h.2.symm.trans e)⟩) fun h=>h.symm.trans e
theorem lookup_isSome {κ β:Type} [BEq κ] [LawfulBEq κ] {x y:κ} {v:β} {l:List (κ × β)} (h:x=y∨(List.lookup x l).isSome=true):(List.lookup x ((y,v)::l)).isSome=true:=by
  rcases h with rfl | h
  · rw [List.lookup_cons_self];rfl
  · rcases lookup_two (x:=x) (y:=y) (v:=v) (l:=l) with q | q
    · rw [q.2];rfl
    · rw [q];exact h
theorem closure_go {env:Env}:∀ (names:List (Str × NameKind)) (cs0:List (Str × Addr)),(∀ y∈names,y.2=.free→∃ a,env.cells.lookup y.1=some a)→(∀ y a,cs0.lookup y=some a→env.cells.lookup y=some a) →
    ∃ cl,(forIn names cs0 (fun (x:Str × NameKind) (cs:List (Str × Addr))=>(do
        let (name,kind):=x
        if kind == .free then
          let a ← cellOf env name
          pure (ForInStep.yield ((name,a)::cs))
        else pure (ForInStep.yield cs):Sem (ForInStep (List (Str × Addr))))))=pure cl ∧
      (∀ y a,cl.lookup y=some a→env.cells.lookup y=some a)∧(∀ y∈names,y.2=.free→(cl.lookup y.1).isSome=true)∧(∀ y,(cs0.lookup y).isSome=true→(cl.lookup y).isSome=true)
  | [],cs0,_,h0=>⟨cs0,rfl,h0,nofun,fun _ h=>h⟩
  | (y,k)::r,cs0,hf,h0=>by
    by_cases hk:k=.free
    · subst hk
      obtain ⟨a,ha⟩:=hf (y,.free) (List.mem_cons_self ..) rfl
      obtain ⟨cl,e,h1,h2,h3⟩:=closure_go (env:=env) r ((y,a)::cs0) (fun z hz=>hf z (List.mem_cons_of_mem _ hz)) (fun z b e=>by
        rcases lookup_inv e with ⟨rfl,rfl⟩ | e
        · exact ha
        · exact h0 z b e)
      refine ⟨cl,?_,h1,fun z hz hzk=>?_,fun z hz=>h3 z (lookup_isSome (Or.inr hz))⟩
      · rw [List.forIn_cons]
        have:cellOf env y=pure a:=by unfold cellOf;rw [ha]
        show (cellOf env y >>= fun a=>pure (ForInStep.yield ((y,a)::cs0))) >>= _=_
        rw [this]
        exact e
      · rcases List.mem_cons.mp hz with rfl | hz
        · exact h3 y (lookup_isSome (Or.inl rfl))
        · exact h2 z hz hzk
    · obtain ⟨cl,e,h1,h2,h3⟩:=closure_go (env:=env) r cs0 (fun z hz=>hf z (List.mem_cons_of_mem _ hz)) h0
      refine ⟨cl,?_,h1,fun z hz hzk=>?_,h3⟩
      · rw [List.forIn_cons]
        refine Eq.trans ?_ e
        show (if (k == NameKind.free)=true then _ else pure (ForInStep.yield cs0)) >>= _=_
        rw [if_neg fun q=>hk (eq_of_beq q)];rfl
      · rcases List.mem_cons.mp hz with rfl | hz
        · exact absurd hzk hk
        · exact h2 z hz hzk
theorem closure_ok {scope:Scope} {env:Env} (hf:∀ y∈scope.names,y.2=.free→∃ a,env.cells.lookup y.1=some a) :
    ∃ cl,closureFor scope env=pure cl∧(∀ y a,cl.lookup y=some a→env.cells.lookup y=some a)∧(∀ y∈scope.names,y.2=.free→(cl.lookup y.1).isSome=true):=by
  obtain ⟨cl,e,h1,h2,_⟩:=closure_go (env:=env) scope.names [] hf (fun y a e=>nope' e)
  refine ⟨cl,?_,h1,h2⟩
  unfold closureFor
  first
    | exact e
    | (refine Eq.trans ?_ e;rfl)
    | (simp only [bind_pure];exact e)
structure CompS (f:Fm) (i:Nat) (x:Str) (scope:Scope):Prop where
  kind:scope.kind=.function
  cell:∀ y∈scope.names,y.2≠.cell
  names:∀ y∈scope.names,y.2=.local→scope.names.lookup y.1=some .local
  tgt:scope.names.lookup x=some .local
  dbg : (x == ("__debug__" : Str)) = false ∧ (x == ("__classdict__" : Str)) = false
  free:∀ y∈scope.names,y.2=.free→∃ j,f.D j=some y.1∧f.env.kindOf y.1≠some .local
noncomputable def compD (f:Fm) (i:Nat) (x:Str) (scope:Scope):Nat→Option Str:=fun j =>
  if j=i then some x else match f.D j with
    | some y=>if scope.names.lookup y=some .free then some y else none
    | none=>none
noncomputable def compFm (f:Fm) (i:Nat) (x:Str) (scope:Scope) (cl:List (Str × Addr)) (Cn:Addr):Fm:=⟨compEnvC scope cl Cn f.env,compD f i x scope⟩
theorem mem_of_lookup {κ β:Type} [BEq κ] [LawfulBEq κ]:∀ {l:List (κ × β)} {k:κ} {v:β},l.lookup k=some v→(k,v)∈l
  | [],_,_,h=>by simp at h
  | _::_,_,_,h=>(lookup_inv h).elim (fun e=>e.1▸e.2▸List.mem_cons_self) fun h=>List.mem_cons_of_mem _ (mem_of_lookup h)
theorem lookup_relabel_free {env:Env}:∀ {names:List (Str × NameKind)} {x:Str},names.lookup x=some .free →
    (names.map fun (n,k)=>if (k == NameKind.free && env.scope.kind == .function && env.kindOf n == some .cell) then (n,NameKind.cell) else (n,k)).lookup x=some .cell ∨
    (names.map fun (n,k)=>if (k == NameKind.free && env.scope.kind == .function && env.kindOf n == some .cell) then (n,NameKind.cell) else (n,k)).lookup x=some .free
  | [],_,h=>by simp at h
  | (n,k)::r,x,h=>by
    have ih:=@lookup_relabel_free env r x
    show List.lookup x ((if (k == NameKind.free && env.scope.kind == .function && env.kindOf n == some .cell)=true then (n,NameKind.cell) else (n,k))::_)=_∨List.lookup x ((if (k == NameKind.free && env.scope.kind == .function && env.kindOf n == some .cell)=true then (n,NameKind.cell) else (n,k))::_)=_
    cases hx:x == n with
    | true =>
      rw [List.lookup_cons,hx] at h
      cases h
      by_cases hc:(NameKind.free == NameKind.free && env.scope.kind == .function && env.kindOf n == some .cell)=true
      · left;rw [if_pos hc];rw [List.lookup_cons,hx]
      · right;rw [if_neg hc];rw [List.lookup_cons,hx]
    | false =>
      rw [List.lookup_cons,hx] at h
      by_cases hc:(k == NameKind.free && env.scope.kind == .function && env.kindOf n == some .cell)=true
      · rw [if_pos hc,List.lookup_cons,hx];exact ih h
      · rw [if_neg hc,List.lookup_cons,hx];exact ih h
theorem frame_of {g : Fm} {i : Nat} {x : Str} {free : Str → Prop} (F : FOk W f c m h) (g1 : g.env.scope.kind = .function) (g2 : g.env.globals = mainGlobals) (g3 : g.env.builtins = builtinsNs) (gx : g.env.kindOf x = some .local) (dbg : (x == ("__debug__" : Str)) = false ∧ (x == ("__classdict__" : Str)) = false)
    (gk:∀ y,free y→g.env.kindOf y=some .cell∨g.env.kindOf y=some .free) (gf:∀ y,free y→(∃ a,g.env.cells.lookup y=some a)∧∃ j',f.D j'=some y∧f.env.kindOf y≠some .local) (gn:¬ free x)
    (gc:∀ y a,g.env.cells.lookup y=some a→f.env.cells.lookup y=some a) (hD:∀ j y,g.D j=some y→(j=i∧y=x)∨(j≠i∧f.D j=some y∧free y))
    (L:Later c h c' h') (hX:∀ a,c.X a→c'.X a) (hCX:c'.X g.env.locals) (hCn:h.get? g.env.locals=none) (k:∀ b o,h.get? b=some o→h'.get? b=some o) (hns:h'.Ns g.env.locals fun _=>none):FOk W g c' (m.set i none) h':=by
  refine ⟨g1,g2,g3,hCX,fun y a e=>⟨hX _ (F.cellX y a (gc y a e)).1,fun q=>?_⟩,fun y z a e e'=>F.apart y z a (gc _ _ e) (gc _ _ e'),fun j j' y e e'=>?_,fun j y e=>?_,⟨_,hns,fun j y e hk v hv=>?_⟩,fun j y a e hk hc=>?_,fun y a e=>?_⟩
  · obtain ⟨ov,o,ho,_⟩:=F.cellsIn y a (gc y a e)
    exact nope' (hCn.symm.trans (q▸ho))
  · rcases hD j y e with ⟨h0,h1⟩ | ⟨h1,h2,h3⟩ <;> rcases hD j' _ e' with ⟨e1,e2⟩ | ⟨g1,g2,g3⟩
    · exact h0.trans e1.symm
    · exact absurd (h1▸g3) gn
    · exact absurd (e2▸h3) gn
    · exact F.inj j j' y h2 g2
  · rcases hD j y e with ⟨_,rfl⟩ | ⟨h1,h2,h3⟩
    · exact ⟨Or.inl gx,dbg⟩
    · exact ⟨Or.inr ⟨gk y h3,(gf y h3).1⟩,(F.kinds j y h2).2⟩
  · rcases hD j y e with ⟨rfl,_⟩ | ⟨h1,h2,h3⟩
    · exfalso
      have hv:=Lo.at_some hv
      rw [List.getElem?_set,if_pos rfl] at hv
      by_cases hl:j<m.length
      · exact nomatch Option.some.inj ((if_pos hl).symm.trans hv)
      · exact nope' ((if_neg hl).symm.trans hv)
    · exact (gk y h3).elim (fun e2=>nomatch hk.symm.trans e2) fun e2=>nomatch hk.symm.trans e2
  · rcases hD j y e with ⟨_,rfl⟩ | ⟨h1,h2,h3⟩
    · exact absurd gx hk
    · obtain ⟨j',hj',hnl⟩:=(gf y h3).2
      obtain ⟨ov,⟨o,ho,hd⟩,q⟩:=F.cell j y a h2 hnl (gc _ _ hc)
      refine ⟨ov,⟨o,k _ _ ho,hd⟩,fun v hv=>?_⟩
      obtain ⟨V,e,r⟩:=q v ((Lo.at_set_ne (Ne.symm h1)).symm.trans hv)
      exact ⟨V,e,VRep.later L v r⟩
  · obtain ⟨ov,o,ho,hd⟩:=F.cellsIn y a (gc y a e)
    exact ⟨ov,o,k _ _ ho,hd⟩
theorem compD_some {i j:Nat} {x y:Str} {scope:Scope} (e:compD f i x scope j=some y):(j=i∧y=x)∨(j≠i∧f.D j=some y∧scope.names.lookup y=some .free):=by
  unfold compD at e
  by_cases hj:j=i
  · exact Or.inl ⟨hj,(Option.some.inj ((if_pos hj).symm.trans e)).symm⟩
  · have e:=(if_neg hj).symm.trans e
    revert e
    cases f.D j with
    | none=>exact fun e=>nope' e
    | some z =>
      intro e
      by_cases hl:scope.names.lookup z=some .free
      · obtain rfl:=Option.some.inj ((if_pos hl).symm.trans e)
        exact Or.inr ⟨hj,rfl,hl⟩
      · exact nope' ((if_neg hl).symm.trans e)
theorem comp_frame {i:Nat} {x:Str} {scope:Scope} {cl:List (Str × Addr)} {Cn:Addr} (cs:CompS f i x scope) (F:FOk W f c m h) (hcl:∀ y a,cl.lookup y=some a→f.env.cells.lookup y=some a)
    (hcl2:∀ y∈scope.names,y.2=.free→(cl.lookup y.1).isSome=true) (L:Later c h c' h') (hX:∀ a,c.X a→c'.X a) (hCX:c'.X Cn) (hCn:h.get? Cn=none) (k:∀ b o,h.get? b=some o→h'.get? b=some o) (hns:h'.Ns Cn fun _=>none) :
    FOk W (compFm f i x scope cl Cn) c' (m.set i none) h' :=
  frame_of (free:=fun y=>scope.names.lookup y=some .free) F cs.kind F.glob F.blt (lookup_relabel_local cs.tgt) cs.dbg (fun y hy=>lookup_relabel_free hy) (fun y hy=>⟨Option.isSome_iff_exists.mp (hcl2 (y,.free) (mem_of_lookup hy) rfl),cs.free (y,.free) (mem_of_lookup hy) rfl⟩)
    (fun q=>nomatch cs.tgt.symm.trans q) hcl (fun j y e=>compD_some e) L hX hCX hCn k hns
noncomputable def TestsOk (W:Wd) (n:Nat) (f:Fm) (P:Lo→Hp→QV→Prop) (ifs:List Expr):Prop :=
  ∀ (A:Around) (E:Value→Shared→Prop) (m:Lo) (c:Cf) (H:Hp) (s:Shared) (Q:QV),Room n A→Ok W c H s.heap→FOk W f c m s.heap→P m H Q→(∀ v H',Q v H'→∃ b,v=.bool b) →
    wpAny W.M A (forIn ifs true fun c r=>if r=true then do let ok ← isTrue c f.env (eval c f.env);pure (ForInStep.yield ok) else pure (ForInStep.yield r)) (fun b s'=>PostV W c s Q (.bool b) s') E s
theorem tests_nil:TestsOk W n f (vcE C (.bool true)) []:=by
  intro A E m c H s Q hr ok F p hb
  exact wpAny_tests_nil (PostV.now ok .ofBool p)
theorem tests_one {P:Lo→Hp→QV→Prop} (h:TeOk W n f P ea):TestsOk W n f P [ea]:=by
  intro A E m c H s Q hr ok F p hb
  exact wpAny_tests_one (h A E m c H s Q hr ok F p hb)
theorem froz_some {x:AV} {l:List AV} {P:AV→Prop} (e:frozOf x=some l) (h1:P (.tup l)) (h2:P (.lst l)):P x:=by
  cases x with
  | tup l'=>exact Option.some.inj e▸h1
  | lst l'=>exact Option.some.inj e▸h2
  | _=>exact nope' e
theorem froz_iter {xv:AV} {V:Value} {l:List AV} {T:Value→Shared→Prop} (hh:A.handled=none) (r:VRep W c s.heap xv V) (e:frozOf xv=some l)
    (t:∀ ob,ob.isFreed=false→(∃ St:Nat→Cf→Heap→Prop,Itr W A s.heap.objs.size l (fun _=>True) St∧(∀ c' h',Later c s.heap c' h'→h'.get? s.heap.objs.size=some ob→St 0 c' h') ∧
        (∀ i c h s' T' E',s'.heap=h→St i c h→T' (.ref s.heap.objs.size) s'→wpAny W.M A (pyIter (.ref s.heap.objs.size)) T' E' s')) →
      T (.ref s.heap.objs.size) { s with heap:=s.heap.push ob }):wpAny W.M A (pyIter V) T E s:=by
  refine froz_some (P:=fun xv=>VRep W c s.heap xv V→_) e (fun r=>?_) (fun r=>?_) r
  · obtain ⟨a,items,rfl,sq,hz,r⟩:=r.tup
    refine wpAny_pyIter_tuple sq.isTuple (t _ rfl ⟨_,itr_tuple (ax:=a) (items:=items) hh,fun c' h' L e=>⟨⟨_,e,rfl,rfl⟩,sq.later L,VReps.later L _ r⟩,fun i c h s' T' E' e st q=>?_⟩)
    subst e
    exact wpAny_pyIter_tupleiter st.1 q
  · obtain ⟨a,items,rfl,sq,hz,r⟩:=r.lst
    refine wpAny_pyIter_list sq.isList (t _ rfl ⟨_,itr_lst (ax:=a) (items:=items) hh,fun c' h' L e=>⟨⟨_,e,rfl,rfl⟩,sq.later L,VReps.later L _ r⟩,fun i c h s' T' E' e st q=>?_⟩)
    subst e
    exact wpAny_pyIter_listiter st.1 q
theorem Step.keepH {d:Addr} {o:Obj} (st:Step NoF c s c' s') (ok:Ok W c H s.heap) (hX:c.X d) (e:s.heap.get? d=some o):s'.heap.get? d=some o:=st.keep d o (fun hm=>(ok.hid d hm).2 hX) (fun q=>q) e
structure CEnv (W:Wd) (A:Around) (n:Nat) (g:Fm) (P:Addr→Prop) (cc:Cf) (I D:Addr) (i:Nat) (x:Str) (l:List AV) (St:Nat→Cf→Heap→Prop):Prop where
  hr:Room n A
  it:Itr W A I l (fun _=>True) St
  xi:g.D i=some x
  xk:g.env.kindOf x=some .local
  PI:P I
  PD:P D
  PL:P g.env.locals
  PX:∀ a,P a→cc.X a
  ID:I≠D
  FI:∀ a,g.F a→a≠I
  FD:∀ a,g.F a→a≠D
structure CSt (W:Wd) (g:Fm) (P:Addr→Prop) (cc:Cf) (s0:Shared) (D:Addr) (St:Nat→Cf→Heap→Prop) (m:Lo) (H:Hp) (j:Nat) (acc:List AV) (c:Cf) (s:Shared):Prop where
  st:Step P cc s0 c s
  ok:Ok W c H s.heap
  F:FOk W g c m s.heap
  it:St j c s.heap
  pl:∃ ys,s.heap.PlainList D ys∧ys.size≤sizeLine∧VReps W c s.heap acc ys.toList
variable {g:Fm} {P:Addr→Prop} {cc:Cf} {I D:Addr} {i j:Nat} {x:Str} {l acc:List AV} {St:Nat→Cf→Heap→Prop} {s0:Shared} {PC PE:Lo→Hp→QV→Prop} {Q:List AV→Hp→Prop}
theorem CSt.X (y:CSt W g P cc s0 D St m H j acc c s) (e:CEnv W A n g P cc I D i x l St) {a:Addr} (h:P a):c.X a:=y.st.X.symm▸e.PX a h
theorem CSt.step (y:CSt W g P cc s0 D St m H j acc c s) (e:CEnv W A n g P cc I D i x l St) (st:Step NoF c s c' s') (ok':Ok W c' H' s'.heap):CSt W g P cc s0 D St m H' j acc c' s' where
  st:=y.st.trans y.ok e.PX st.weak
  ok:=ok'
  F:=y.F.step y.ok st
  it:=e.it.keep _ _ _ _ _ y.it st.laterE fun o q=>st.keepH y.ok (y.X e e.PI) q
  pl:=(by obtain ⟨ys,p,z,r⟩:=y.pl;exact ⟨ys,p.at fun o q=>st.keepH y.ok (y.X e e.PD) q,z,VReps.later st.laterE _ r⟩)
theorem comp_store {px:Pos} {v:AV} {V:Value} {T:Shared→Prop} {E2:Value→Shared→Prop} (e:CEnv W A n g P cc I D i x l St) (y:CSt W g P cc s0 D St m H j acc c s) (r:VRep W c s.heap v V) (hm:i<m.length)
    (q:∀ s3,CSt W g P cc s0 D St (m.set i (some v)) H j acc c s3→T s3):wpAny W.M A (assign (.Name x px) g.env V) (fun _ s2=>T s2) E2 s:=by
  refine wpAny_assign_Name (storeVar2 y.ok y.F e.xi (by rw [e.xk];decide) hm r fun s3 st3 ok3 F3 k3=>q s3 ?_)
  have k3:∀ b o,b≠g.env.locals→s.heap.get? b=some o→s3.heap.get? b=some o:=fun b o hb e'=>k3 b o (fun _=>hb) (fun q=>absurd e.xk q) e'
  have L3:=st3.later y.F.FX
  obtain ⟨ys,pl,hz,r⟩:=y.pl
  exact ⟨y.st.trans y.ok e.PX ⟨st3.pre,st3.X,st3.fresh,fun b o hb hP e'=>k3 b o (fun q=>hP (q▸e.PL)) e',st3.gens,st3.os⟩,ok3,F3,e.it.keep _ _ _ _ _ y.it L3 fun o e'=>k3 I o (Ne.symm (e.FI _ (Or.inl rfl))) e',
    ys,pl.at fun o e'=>k3 D o (Ne.symm (e.FD _ (Or.inl rfl))) e',hz,VReps.later L3 _ r⟩
theorem comp_next {v:AV} {T:Value→Shared→Prop} {R0:Shared→Prop} (e:CEnv W A n g P cc I D i x l St) (y:CSt W g P cc s0 D St m H j acc c s) (hv:l[j]? = some v)
    (q:∀ V s',CSt W g P cc s0 D St m H (j+1) acc c s'→VRep W c s'.heap v V→T V s'):wpAny W.M A (pyNext (.ref I)) (fun r s₁=>match r with | none=>R0 s₁ | some v=>T v s₁) E s:=by
  refine e.it.item j c H s _ _ v (y.X e e.PI) y.ok trivial y.it hv fun V h2 tk rV hIt it2 k2=>?_
  obtain ⟨ys,pl,hz,r⟩:=y.pl
  obtain ⟨ok2,L2⟩:=y.ok.own (y.X e e.PI) k2 hIt
  refine q V { s with heap:=h2,toks:=tk } ?_ (VRep.later L2 _ rV)
  exact ⟨y.st.trans y.ok e.PX (Step.ofOwn (a:=I) e.PI k2 rfl rfl),ok2,y.F.mono L2 rfl fun a o hFa e'=>k2 a o (e.FI a hFa) e',it2,ys,pl.at fun o e'=>k2 D o (Ne.symm e.ID) e',hz,VReps.later L2 _ r⟩
theorem comp_push {v:AV} {V:Value} {T:Shared→Prop} (e:CEnv W A n g P cc I D i x l St) (y:CSt W g P cc s0 D St m H j acc c s) (r:VRep W c s.heap v V) (hc:acc.length<cap)
    (q:∀ s',CSt W g P cc s0 D St m H j (acc ++ [v]) c s' → T s'):wpAny W.M A (call (.builtin "list.append") [.ref D,V]) (fun _ s' => T s') E s:=by
  obtain ⟨ys,pl,hz,ra⟩:=y.pl
  refine wpAny_list_append_plain pl (fun h6 hl6 hs6=>q _ ?_) hz
  have k6:=sameBut_of hs6
  obtain ⟨ok6,L6⟩:=y.ok.own (h':=h6) (y.X e e.PD) k6 ((by obtain ⟨j,e⟩:=hl6;exact ⟨_,e⟩))
  have hsz:ys.size=acc.length:=by have:=ra.length;rw [Array.length_toList] at this;exact this
  refine ⟨y.st.trans y.ok e.PX (Step.ofOwn (a:=D) e.PD k6 rfl rfl),ok6,y.F.mono L6 rfl fun a o hFa e'=>k6 a o (e.FD a hFa) e',e.it.keep _ _ _ _ _ y.it L6 fun o e'=>k6 I o e.ID e',_,hl6,?_,?_⟩
  · rw [Array.size_push,hsz];exact Nat.le_trans hc sizeLine_cap
  · rw [Array.toList_push];exact (VReps.later L6 _ ra).append (.cons (VRep.later L6 _ r) .nil)
inductive CI (W:Wd) (g:Fm) (P:Addr→Prop) (cc:Cf) (s0:Shared) (D:Addr) (St:Nat→Cf→Heap→Prop) (i:Nat) (m:Lo) (l:List AV) (PC PE:Lo→Hp→QV→Prop) (Q:List AV→Hp→Prop) (kk:Nat) (s:Shared):Prop
  | mk {H:Hp} {j:Nat} {acc:List AV} {o:Option AV} {c:Cf}:kk=l.length-j→j≤l.length→compL PC PE i m (l.drop j) acc H Q→CSt W g P cc s0 D St (m.set i o) H j acc c s→CI W g P cc s0 D St i m l PC PE Q kk s
theorem comp_one {px:Pos} {ifs:List Expr} {elt:Expr} {v:AV} {V:Value} {T:Shared→Prop} {E2 E3 E4 E5:Value→Shared→Prop} {o:Option AV} (e:CEnv W A n g P cc I D i x l St) (ht:TestsOk W n g PC ifs) (he:EvOk W n g PE elt) (him:i<m.length)
    (y:CSt W g P cc s0 D St (m.set i o) H (j+1) acc c s) (r:VRep W c s.heap v V) {vs:List AV} (p:compL PC PE i m (v::vs) acc H Q)
    (q:∀ H acc o c s,compL PC PE i m vs acc H Q→CSt W g P cc s0 D St (m.set i o) H (j+1) acc c s→T s) :
    wpAny W.M A (assign (.Name x px) g.env V) (fun _ s₂=>wpAny W.M A (forIn ifs true fun c r=>if r=true then do let ok ← isTrue c g.env (eval c g.env);pure (ForInStep.yield ok) else pure (ForInStep.yield r)) (fun ok s₃ =>
      if ok = true then wpAny W.M A (eval elt g.env) (fun x s₄ => wpAny W.M A (call (.builtin "list.append") [.ref D,x]) (fun _ s₅ => T s₅) E5 s₄) E4 s₃ else T s₃) E3 s₂) E2 s:=by
  refine comp_store e y r (by rw [List.length_set];exact him) fun s3 y3=>?_
  rw [List.set_set] at y3
  refine wpAny_mono (ht A _ _ c H s3 _ e.hr y3.ok y3.F p or_bool) (fun b s4 h4=>?_) fun _ _ e=>e
  obtain ⟨c4,H4,v4,st4,ok4,r4,q4⟩:=h4
  have y4:=y3.step e st4 ok4
  rcases q4 with ⟨rfl,q4⟩ | ⟨rfl,q4⟩
  · cases r4.bool
    rw [if_pos rfl]
    refine wpAny_mono (he A _ _ c4 H4 s4 _ e.hr ok4 y4.F q4) (fun z s5 h5=>?_) fun _ _ e=>e
    obtain ⟨c5,H5,v5,st5,ok5,r5,hc5,q5⟩:=h5
    exact comp_push e (y4.step e st5 ok5) r5 hc5 fun s6 y6=>q _ _ _ _ _ q5 y6
  · cases r4.bool
    rw [if_neg Bool.false_ne_true]
    exact q _ _ _ _ _ q4 y4
theorem comp_loop {elt iter:Expr} {px:Pos} {ifs:List Expr} {scope:Scope} {RR:Result→Shared→Prop} (e:CEnv W A n g P cc I D i x l St) (ht:TestsOk W n g PC ifs) (he:EvOk W n g PE elt) (him:i<m.length) (p:compL PC PE i m l [] H Q) (y:CSt W g P cc s D St (m.set i none) H 0 [] cc s)
    (fin:∀ {m' H1 acc c1 s1 h2 tk},CSt W g P cc s D St m' H1 l.length acc c1 s1→Q acc H1→(∀ b o,b≠I→s1.heap.get? b=some o→h2.get? b=some o)→RR (.ok .next) { s1 with heap:=h2,toks:=tk }) :
    codeAny W.M A (.compLoop (.ListComp elt [⟨.Name x px,iter,ifs,0⟩] scope pos) 0 (.ref I) (.ref D) g.env) RR s:=by
  refine codeAny_compLoop_tests (CI W g P cc s D St i m l PC PE Q) (fun kk s' hI=>?_) _ (.mk rfl (Nat.zero_le _) p y)
  obtain ⟨rfl,hj,p1,y1⟩:=hI
  rename_i H1 j acc o c1
  rcases Nat.lt_or_eq_of_le hj with hlt | rfl
  · rw [List.drop_eq_getElem_cons hlt] at p1
    exact comp_next e y1 (List.getElem?_eq_getElem hlt) fun V s2 y2 r2=>comp_one e ht he him y2 r2 p1 fun H acc o c s q y=>⟨_,Nat.sub_succ_lt_self _ _ hlt,.mk rfl hlt q y⟩
  · rw [List.drop_length] at p1
    exact e.it.done c1 H1 s' _ _ (y1.X e e.PI) y1.ok trivial y1.it fun h2 tk k2=>fin y1 p1 k2
theorem comp_top {elt iter:Expr} {x:Str} {px:Pos} {ifs:List Expr} {scope:Scope} {cl:List (Str × Addr)} {i:Nat} {l:List AV} {Q:List AV→Hp→Prop} {RR:Result→Shared→Prop} {PC PE:Lo→Hp→QV→Prop} {Ia Da Ca:Addr} {ob:Obj} {St:Nat→Cf→Heap→Prop}
    (cs:CompS f i x scope) (hcl:∀ y a,cl.lookup y=some a→f.env.cells.lookup y=some a) (hcl2:∀ y∈scope.names,y.2=.free→(cl.lookup y.1).isSome=true)
    (hr:Room n A) (ok:Ok W c H s.heap) (F:FOk W f c m s.heap) (him:i<m.length)
    (htest:TestsOk W n (compFm f i x scope cl Ca) PC ifs) (helt:EvOk W n (compFm f i x scope cl Ca) PE elt) (p:compL PC PE i m l [] H Q) (hg:s'.gens=s.gens) (ho:s'.os=s.os)
    (hnI:s.heap.get? Ia=none) (hnD:s.heap.get? Da=none) (hnC:s.heap.get? Ca=none) (hID:Ia≠Da) (hIC:Ia≠Ca) (hDC:Da≠Ca) (kp:∀ b o,s.heap.get? b=some o→s'.heap.get? b=some o) (hgI:s'.heap.get? Ia=some ob)
    (hgD:s'.heap.PlainList Da #[]) (hns:s'.heap.Ns Ca fun _=>none) (it:Itr W A Ia l (fun _=>True) St) (hst0:∀ c' h',Later c s.heap c' h'→h'.get? Ia=some ob→St 0 c' h')
    (fin:∀ (P:Addr→Prop) c2 H2 acc ys s',(∀ a,P a→s.heap.get? a=none)→P Da→P Ca→Da≠Ca→c2.X=(c.hideP P).X→Step P (c.hideP P) s c2 s'→Ok W c2 H2 s'.heap→s'.heap.PlainList Da ys→ys.size≤sizeLine→VReps W c2 s'.heap acc ys.toList →
      (∃ mm,s'.heap.Ns Ca mm)→Q acc H2→RR (.ok .next) s') :
    (∃ c':Cf,St 0 c' s'.heap)∧codeAny W.M A (.compLoop (.ListComp elt [⟨.Name x px,iter,ifs,0⟩] scope pos) 0 (.ref Ia) (.ref Da) (compFm f i x scope cl Ca).env) RR s':=by
  let P:Addr→Prop:=fun a=>a=Ia∨a=Da∨a=Ca
  have hPn:∀ a,P a→s.heap.get? a=none:=by rintro a (rfl | rfl | rfl) <;> assumption
  have hPin:∀ a,P a→∃ o,s'.heap.get? a=some o:=by
    rintro a (rfl | rfl | rfl)
    · exact ⟨_,hgI⟩
    · obtain ⟨j,e⟩:=hgD;exact ⟨_,e⟩
    · obtain ⟨o,_,_,e,_⟩:=hns;exact ⟨o,e⟩
  have ok0:=ok.hideP hPn kp hPin
  have L0:=Later.hideP (c:=c) hPn kp
  have F0:=comp_frame cs F hcl hcl2 L0 (fun a q=>Or.inl q) (Or.inr (Or.inr (Or.inr rfl))) hnC kp hns
  have hg':(compFm f i x scope cl Ca).env.locals=Ca:=rfl
  have hxk:(compFm f i x scope cl Ca).env.kindOf x=some .local:=lookup_relabel_local cs.tgt
  have hxi:(compFm f i x scope cl Ca).D i=some x:=if_pos rfl
  have hFg:∀ a,(compFm f i x scope cl Ca).F a→a≠Ia∧a≠Da:=by
    rintro a (rfl | ⟨y,e⟩)
    · exact ⟨Ne.symm hIC,Ne.symm hDC⟩
    · obtain ⟨ov,o,ho,_⟩:=F.cellsIn y a (hcl y a e)
      exact ⟨fun q=>(by rw [q,hnI] at ho;cases ho),fun q=>(by rw [q,hnD] at ho;cases ho)⟩
  generalize compFm f i x scope cl Ca=g at *
  generalize hcc:c.hideP P=cc at *
  have st0:=hst0 _ _ L0 hgI
  have e:CEnv W A n g P cc Ia Da i x l St:=⟨hr,it,hxi,hxk,Or.inl rfl,Or.inr (Or.inl rfl),Or.inr (Or.inr hg'),fun a q=>hcc▸Or.inr q,hID,fun a q=>(hFg a q).1,fun a q=>(hFg a q).2⟩
  refine ⟨⟨_,st0⟩,comp_loop e htest helt him p ⟨Step.refl _ _ _,ok0,F0,st0,#[],hgD,Nat.zero_le _,.nil⟩ fun {m' H1 acc c1 s1 h2 tk} y q k2=>?_⟩
  subst hcc
  let P':Addr→Prop:=fun a=>a=Da∨a=Ca
  have hPe:(c.hideP P).X=((c.hideP P').hide Ia).X:=by
    funext a
    refine propext ⟨fun q=>?_,fun q=>?_⟩
    · rcases q with q | q | q
      · exact Or.inl (Or.inl q)
      · exact Or.inr q
      · exact Or.inl (Or.inr q)
    · rcases q with (q | q) | q
      · exact Or.inl q
      · exact Or.inr (Or.inr q)
      · exact Or.inr (Or.inl q)
  have hnIX:¬ (c.hideP P').X Ia:=by
    rintro (q | q | q)
    · exact (ok.free_size hnI).2 q
    · exact hID q
    · exact hIC q
  obtain ⟨ys,pl,hz,r⟩:=y.pl
  obtain ⟨ok2,L2⟩:=y.ok.leave (c:=c.hideP P') (h':=h2) (y.st.X.trans hPe) hnIX k2
  have stA:=(Step.weak (F:=P) (Step.ofKeep (c:=c.hideP P) kp hg ho)).trans ok0 e.PX y.st
  obtain ⟨mm,hn,_⟩:=y.F.ns
  refine fin P' (c1.show (c.hideP P')) H1 acc ys { s1 with heap:=h2,toks:=tk } (fun a q=>hPn a (Or.inr q)) (Or.inl rfl) (Or.inr rfl) hDC rfl ⟨stA.pre,rfl,stA.fresh,fun b o hb hPb e=>?_,stA.gens,stA.os⟩ ok2 (pl.at fun o e=>k2 Da o (Ne.symm hID) e) hz (VReps.later L2 _ r) ⟨mm,hg'▸hn.at fun o e=>k2 _ o (hg'.symm▸Ne.symm hIC) e⟩ q
  have hbI:b≠Ia:=fun q=>by rw [q,hnI] at e;cases e
  exact k2 b o hbI (stA.keep b o hb (fun q=>q.elim hbI hPb) e)
theorem comp_run {elt iter:Expr} {x:Str} {px:Pos} {ifs:List Expr} {scope:Scope} {cl:List (Str × Addr)} {i:Nat} {mc me:ME} {xv:AV} {V:Value} {l:List AV} {Q:List AV→Hp→Prop} {RR:Value→Addr→Result→Shared→Prop}
    (cs:CompS f i x scope) (hcl:∀ y a,cl.lookup y=some a→f.env.cells.lookup y=some a) (hcl2:∀ y∈scope.names,y.2=.free→(cl.lookup y.1).isSome=true)
    (hr:Room n A) (ok:Ok W c H s.heap) (F:FOk W f c m s.heap) (r:VRep W c s.heap xv V) (hfroz:frozOf xv=some l) (him:i<m.length)
    (htest:∀ Cn,TestsOk W n (compFm f i x scope cl Cn) (vcE C mc) ifs) (helt:∀ Cn,EvOk W n (compFm f i x scope cl Cn) (vcE C me) elt)
    (p:compL (vcE C mc) (vcE C me) i m l [] H Q)
    (fin:∀ (P:Addr→Prop) D Cn c2 H2 acc ys s',(∀ a,P a→s.heap.get? a=none)→P D→P Cn→D≠Cn→c2.X=(c.hideP P).X→Step P (c.hideP P) s c2 s'→Ok W c2 H2 s'.heap→s'.heap.PlainList D ys→ys.size≤sizeLine→VReps W c2 s'.heap acc ys.toList →
      (∃ mm,s'.heap.Ns Cn mm)→Q acc H2→RR (.ref D) Cn (.ok .next) s') :
    wpAny W.M A (pyIter V) (fun it s₂=>wpAny W.M A (newList []) (fun acc s₃=>wpAny W.M A (newFunctionEnv scope f.env.globals cl [] f.env.qual none .none (some f.env)) (fun cenv s₄ =>
      codeAny W.M A (.compStart (.ListComp elt [⟨.Name x px,iter,ifs,0⟩] scope pos) 0 it acc { cenv with scope:=relabel scope f.env }) (RR acc cenv.locals) s₄) E s₃) E s₂) E s:=by
  refine froz_iter hr.handled r hfroz fun ob hf hit=>?_
  obtain ⟨St,I,hst0,hself⟩:=hit
  refine wpAny_newObj_type (wpAny_newFunctionEnv cs.cell (fun y hy=>nomatch hy) (fun h₁ hns₁ hsb₁=>?_) cs.kind)
  dsimp only at hns₁ hsb₁ ⊢
  generalize hH1:s.heap.push ob=H1 at hns₁ hsb₁ ⊢
  have hD:H1.objs.size=s.heap.objs.size+1:=by rw [← hH1,Heap.size_push]
  generalize hH2:H1.push { cls:=.type "list",dict:=none,data:=.seq ([]:List Value).toArray } = H2 at hns₁ hsb₁ ⊢
  have hC:H2.objs.size=s.heap.objs.size+2:=by rw [← hH2,Heap.size_push,hD]
  generalize hIa:s.heap.objs.size=Ia at *
  generalize hDa:H1.objs.size=Da at *
  generalize hCa:H2.objs.size=Ca at *
  have hnI:s.heap.get? Ia=none:=get?_none_of_size (Nat.le_of_eq hIa)
  have hnD:s.heap.get? Da=none:=get?_none_of_size (by omega)
  have hnC:s.heap.get? Ca=none:=get?_none_of_size (by omega)
  have hID:Ia≠Da:=by omega
  have hIC:Ia≠Ca:=by omega
  have hDC:Da≠Ca:=by omega
  have kp:∀ b o,s.heap.get? b=some o→h₁.get? b=some o:=fun b o e=>by
    have hb:b≠Ca:=fun q=>by rw [q,hnC] at e;cases e
    exact hsb₁.extBut b o hb (Heap.get?_push_of_some _ (hH2▸Heap.get?_push_of_some _ (hH1▸Heap.get?_push_of_some _ e)))
  have hgI:h₁.get? Ia=some ob:=hsb₁.extBut _ _ hIC (Heap.get?_push_of_some _ (hH2▸Heap.get?_push_of_some _ (hH1▸hIa▸Heap.get?_push_size _ hf)))
  have hgD:h₁.PlainList Da #[]:=⟨0,hsb₁.extBut _ _ hDC (Heap.get?_push_of_some _ (hH2▸hDa▸Heap.get?_push_size _ rfl))⟩
  obtain ⟨s₃,hs3,hh3,hg3,ho3⟩:∃ s₃:Shared,{ s with heap:=h₁,toks:=s.toks+([]:List (Str × Value)).length } = s₃∧s₃.heap=h₁∧s₃.gens=s.gens∧s₃.os=s.os:=⟨_,rfl,rfl,rfl,rfl⟩
  clear hsb₁ hD hC hH1 hH2 hIa hDa hCa hf
  subst hh3
  rw [hs3]
  have loop:=comp_top (RR:=RR (.ref Da) Ca) (elt:=elt) (iter:=iter) (px:=px) (pos:=pos) cs hcl hcl2 hr ok F him (htest Ca) (helt Ca) p hg3 ho3 hnI hnD hnC hID hIC hDC kp hgI hgD hns₁ I hst0 (fun P c2 H2 acc ys s'=>fin P Da Ca c2 H2 acc ys s')
  obtain ⟨⟨c',h0⟩,loop⟩:=loop
  exact codeAny_compStart_list loop (hself 0 _ _ _ _ _ rfl h0 loop)
theorem comp_end {P:Addr→Prop} {D Cn:Addr} {c2:Cf} {H2:Hp} {acc:List AV} {ys:Array Value} (ok:Ok W c H s.heap) (hPn:∀ a,P a→s.heap.get? a=none) (hPD:P D) (hPC:P Cn) (hDC:D≠Cn) (hX:c2.X=(c.hideP P).X)
    (st:Step P (c.hideP P) s c2 s') (ok2:Ok W c2 H2 s'.heap) (hl:s'.heap.PlainList D ys) (hz:ys.size≤sizeLine) (r:VReps W c2 s'.heap acc ys.toList) :
    Step (fun a=>a=Cn) (c.hide Cn) s ⟨c2.σ,(c.hide Cn).X⟩ s'∧Ok W ⟨c2.σ,(c.hide Cn).X⟩ H2 s'.heap∧VRep W ⟨c2.σ,(c.hide Cn).X⟩ s'.heap (.lst acc) (.ref D)∧¬ c.X Cn:=by
  have hsub:∀ a,(c.hide Cn).X a→c2.X a:=fun a q=>by rw [hX];exact q.elim Or.inl fun q=>Or.inr (q▸hPC)
  have ok3:=ok2.narrow hsub
  have L3:Later c2 s'.heap ⟨c2.σ,(c.hide Cn).X⟩ s'.heap:=Later.narrow hsub
  have hXD:c2.X D:=by rw [hX];exact Or.inr hPD
  refine ⟨⟨st.pre,rfl,st.fresh,fun b o hb hbC e=>st.keep b o hb (fun q=>by rw [hPn b q] at e;cases e) e,st.gens,st.os⟩,ok3,?_,(ok.free_size (hPn _ hPC)).2⟩
  obtain ⟨j,e⟩:=id hl
  have hfree:(⟨c2.σ,(c.hide Cn).X⟩:Cf).free D:=⟨fun hm=>(ok2.hid D hm).2 hXD,fun q=>q.elim (ok.free_size (hPn _ hPD)).2 hDC⟩
  show ∃ D ys,_
  exact ⟨D,ys,rfl,⟨hfree,_,e,rfl,j,rfl⟩,hz,VReps.later L3 _ r⟩
theorem CompS.closure {i:Nat} {x:Str} {scope:Scope} (cs:CompS f i x scope) (F:FOk W f c m h) :
    ∃ cl,closureFor scope f.env=pure cl∧(∀ y a,cl.lookup y=some a→f.env.cells.lookup y=some a)∧(∀ y∈scope.names,y.2=.free→(cl.lookup y.1).isSome=true):=by
  refine closure_ok fun y hy hk=>?_
  obtain ⟨j,hj,hn⟩:=cs.free y hy hk
  rcases (F.kinds j _ hj).1 with e | ⟨_,h⟩
  · exact absurd e hn
  · exact h
theorem ev_comp {elt iter:Expr} {x:Str} {px:Pos} {ifs:List Expr} {scope:Scope} {i:Nat} {msrc mc me:ME} (cs:CompS f i x scope) (hns:notSet iter=true) (hsrc:EvOk W n f (vcE C msrc) iter)
    (htest:∀ cl Cn,TestsOk W n (compFm f i x scope cl Cn) (vcE C mc) ifs) (helt:∀ cl Cn,EvOk W n (compFm f i x scope cl Cn) (vcE C me) elt) :
    EvOk W n f (vcE C (.comp me i msrc mc)) (.ListComp elt [⟨.Name x px,iter,ifs,0⟩] scope pos):=by
  intro A E m c H s Q hr ok F p
  obtain ⟨cl,hclos,hcl,hcl2⟩:=cs.closure F
  rw [eval_ListComp]
  refine wpAny_comprehension_free (use:=none) rfl (folded_no hns _) hclos cs.kind cs.names (ev1 hsrc hr ok F p fun c1 H1 s1 xv V st ok1 F1 r q=>?_)
  obtain ⟨him,l,hfroz,hlen,q⟩:=q
  refine comp_run (RR:=fun acc Cn=>compPost W.M A E none (PostV W c s Q) acc Cn) cs hcl hcl2 hr ok1 F1 r hfroz him (htest cl) (helt cl) q fun P D Cn c2 H2 acc ys s' hPn hPD hPC hDC hX st2 ok2 hl hz r2 hmm q2=>?_
  obtain ⟨mm,hns⟩:=hmm
  refine ⟨mm,hns,fun h' hs'=>?_⟩
  obtain ⟨st3,ok3,r3,hCX⟩:=comp_end ok1 hPn hPD hPC hDC hX st2 ok2 hl hz r2
  obtain ⟨ok4,L4⟩:=ok3.leave (c:=c1) (It:=Cn) (h':=h') rfl hCX (sameBut_of hs')
  refine PostV.after st ok1 ⟨(⟨c2.σ,(c1.hide Cn).X⟩:Cf).show c1,H2,.lst acc,⟨st3.pre,rfl,st3.fresh,fun b o hb _ e=>?_,st3.gens,st3.os⟩,ok4,VRep.later L4 _ r3,q2⟩
  have hbC:b≠Cn:=fun q=>by rw [q,hPn _ hPC] at e;cases e
  exact sameBut_of hs' b o hbC (st3.keep b o hb hbC e)
theorem ex_assignComp {elt iter:Expr} {x y:Str} {px py:Pos} {ifs:List Expr} {scope:Scope} {i j:Nat} {msrc mc me:ME} {spos:Pos} (hown:Own f j y) (cs:CompS f i x scope) (hns:notSet iter=true)
    (hsw:f.env.kindOf y=some .local∧(py.line == pos.line)=true∧(scope.names.any fun (n,k)=>n == y && (k == .local || k == .cell))=false) (hsrc:EvOk W n f (vcE C msrc) iter)
    (htest:∀ cl Cn,TestsOk W n (compFm f i x scope cl Cn) (vcE C mc) ifs) (helt:∀ cl Cn,EvOk W n (compFm f i x scope cl Cn) (vcE C me) elt) :
    ExOk W n f (vcS C (.assignComp j (.comp me i msrc mc))) (.Assign [.Name y py] (.ListComp elt [⟨.Name x px,iter,ifs,0⟩] scope pos) spos):=by
  intro A E m c H s Q hr ok F p
  obtain ⟨cl,hclos,hcl,hcl2⟩:=cs.closure F
  have hsw':swapsWith (.ListComp elt [⟨.Name x px,iter,ifs,0⟩] scope pos) (some (.Name y py)) spos.line f.env=pure true:=by
    have hb:f.env.blockKind=.function:=by unfold Env.blockKind;rw [F.kind];rfl
    show pure (f.env.blockKind == .function && f.env.kindOf y == some .local && py.line == pos.line && !(scope.names.any fun (n,k)=>n == y && (k == .local || k == .cell)))=pure true
    rw [hb,hsw.1,hsw.2.1,hsw.2.2];rfl
  rw [exec_Assign_Name_used _ _ _ _ hsw']
  refine wpAny_bind (wpAny_standAt (wpAny_bind ?_))
  show wpAny _ A (do let _ ← comprehension (.ListComp elt [⟨.Name x px,iter,ifs,0⟩] scope pos) scope f.env _ (newList []) false (eval iter f.env) (some (assign (.Name y py) f.env))) _ _ s
  refine wpAny_bind (wpAny_mono (wpAny_comprehension_free (use:=some (assign (.Name y py) f.env)) (Q:=fun _ s'=>PostF W f c s Q .next s') rfl (folded_no hns _) hclos cs.kind cs.names (ev1 hsrc hr ok F p fun c1 H1 s1 xv V st ok1 F1 r q=>?_))
    (fun _ s' hq=>wpAny_pure (wpAny_pure hq)) fun _ _ e=>e)
  obtain ⟨him,l,hfroz,hlen,q⟩:=q
  refine comp_run (RR:=fun acc Cn=>compPost W.M A E (some (assign (.Name y py) f.env)) (fun _ s'=>PostF W f c s Q .next s') acc Cn) cs hcl hcl2 hr ok1 F1 r hfroz him (htest cl) (helt cl) q fun P D Cn c2 H2 acc ys s' hPn hPD hPC hDC hX st2 ok2 hl hz r2 hmm q2=>?_
  obtain ⟨mm,hns⟩:=hmm
  obtain ⟨st3,ok3,r3,hCX⟩:=comp_end ok1 hPn hPD hPC hDC hX st2 ok2 hl hz r2
  have hCF:¬ f.F Cn:=fun q=>hCX (F1.FX _ q)
  have kF:∀ a o,f.F a→s1.heap.get? a=some o→s'.heap.get? a=some o:=fun a o hFa e=>st3.keep a o (fun hm=>(ok1.hid a hm).2 (F1.FX a hFa)) (fun q=>hCF (q▸hFa)) e
  have L3:Later c1 s1.heap ⟨c2.σ,(c1.hide Cn).X⟩ s'.heap:=by
    refine ⟨st3.pre,fun a o fr e=>?_⟩
    have haC:a≠Cn:=fun q=>by rw [q,hPn _ hPC] at e;cases e
    refine ⟨⟨fun ha=>?_,fun q=>q.elim fr.2 haC⟩,st3.keep a o fr.1 haC e⟩
    rcases st3.fresh a ha with h1 | h1
    · exact fr.1 h1
    · rw [h1] at e;cases e
  have F3:FOk W f ⟨c2.σ,(c1.hide Cn).X⟩ m s'.heap:=F1.conf L3 (fun a q _=>Or.inl q) kF
  refine wpAny_assign_Name (storeVar' ok3 F3 hown.1 hown.2 q2.1 r3 fun s4 st4 ok4 F4 k4=>?_)
  refine ⟨mm,hns.at fun o e=>k4 Cn o hCF e,fun h' hs'=>?_⟩
  obtain ⟨ok5,L5⟩:=ok4.leave (c:=c1) (It:=Cn) (h':=h') rfl hCX (sameBut_of hs')
  have F5:=F4.leave (c:=c1) (It:=Cn) (h':=h') hCF F1 L5 (sameBut_of hs')
  refine PostF.afterE F st ok1 ⟨(⟨c2.σ,(c1.hide Cn).X⟩:Cf).show c1,H2,_,.next,⟨st3.pre,rfl,st3.fresh,fun b o hb hFb e=>?_,st4.gens.trans st3.gens,st4.os.trans st3.os⟩,ok5,F5,(show FlRep W _ _ .next _ from rfl),q2.2⟩
  have hbC:b≠Cn:=fun q=>by rw [q,hPn _ hPC] at e;cases e
  exact sameBut_of hs' b o hbC (k4 b o hFb (st3.keep b o hb hbC e))
end LY.Internal
end

section
open PySem PySem.W PySem.Calls PyProof.Rows PySem.SeqAt
namespace LY.Internal
variable {W:Wd} {f:Fm} {c c':Cf} {m:Lo} {h h':Heap} {H H':Hp} {s s':Shared} {A:Around} {E:Value→Shared→Prop} {n:Nat} {C:CallP}
  {ma mb md:ME} {ea eb ed:Expr} {pos np apos tpos:Pos}
noncomputable def isIn (ks:List Str):Value→Bool | .str k _=>decide (k∈ks) | _=>false
theorem in_frame {i:Nat} {x y:Str} {scope:Scope} {cl:List (Str × Addr)} {Cn:Addr} {j:Nat} (cs:CompS f i x scope) (F:FOk W f c m h) (hcl:∀ y a,cl.lookup y=some a→f.env.cells.lookup y=some a)
    (hcl2:∀ y∈scope.names,y.2=.free→(cl.lookup y.1).isSome=true) (hj:f.D j=some y) (hy:scope.names.lookup y=some .free) {v:AV} (hv:m.at j=some v) (k:∀ b o,h.get? b=some o→h'.get? b=some o) (kx:(compFm f i x scope cl Cn).env.kindOf y=some .cell∨(compFm f i x scope cl Cn).env.kindOf y=some .free) :
    ∃ a V,(compFm f i x scope cl Cn).env.cells.lookup y=some a∧h'.IsCell a (some V)∧VRep W c h v V:=by
  obtain ⟨a,ha⟩:=Option.isSome_iff_exists.mp (hcl2 (y,.free) (mem_of_lookup hy) rfl)
  obtain ⟨j',hj',hnl⟩:=cs.free (y,.free) (mem_of_lookup hy) rfl
  obtain ⟨ov,⟨o,ho,hd⟩,q⟩:=F.cell j y a hj hnl (hcl y a ha)
  obtain ⟨V,rfl,r⟩:=q v hv
  exact ⟨a,V,ha,⟨o,k _ _ ho,hd⟩,r⟩
theorem paired_eq {l l':List Value} (p:Paired Eq l l'):l=l':=by
  induction p with
  | nil=>rfl
  | cons e _ ih=>rw [e,ih]
theorem filter_keys {W:Wd} {c:Cf} {h:Heap} {β:Type} (ks:List Str):∀ {kvs:List (Str × β)} {vs:List Value},vs.length=kvs.length→(∀ (j:Nat) (v:Value),vs[j]? = some v→∃ k x t,kvs[j]? = some (k,x)∧v=.str k t) →
    VReps W c h (((kvs.map (·.1)).filter fun x=>decide (x∈ks)).map .str) (vs.filter (isIn ks))
  | [],[],_,_=>VReps.nil
  | [],_::_,e,_=>nomatch e
  | _::_,[],e,_=>nomatch e
  | (k,x)::kvs,v::vs,e,g=>by
    obtain ⟨k',x',t,h1,rfl⟩:=g 0 v rfl
    obtain ⟨rfl,-⟩:k=k'∧x=x':=Prod.mk.inj (Option.some.inj h1)
    have ih:=filter_keys (W:=W) (c:=c) (h:=h) ks (kvs:=kvs) (vs:=vs) (Nat.succ.inj e) fun j v hj=>g (j+1) v hj
    rw [List.map_cons]
    by_cases hk:k∈ks
    · rw [List.filter_cons_of_pos (p:=fun x=>decide (x∈ks)) (a:=k) (decide_eq_true hk),List.filter_cons_of_pos (p:=isIn ks) (a:=.str k t) (show decide (k∈ks)=true from decide_eq_true hk),List.map_cons]
      exact .cons .ofStr ih
    · rw [List.filter_cons_of_neg (p:=fun x=>decide (x∈ks)) (a:=k) (fun h=>hk (of_decide_eq_true h)),List.filter_cons_of_neg (p:=isIn ks) (a:=.str k t) (show ¬ decide (k∈ks)=true from fun h=>hk (of_decide_eq_true h))]
      exact ih
theorem ev_compIn {x y z : Str} {px pz pe p1 p2 p3 : Pos} {scope : Scope} {i j t : Nat} (cs : CompS f t x scope) (hi : f.D i = some z) (hj : f.D j = some y) (hy : scope.names.lookup y = some .free) (hdy : (y == ("__debug__" : Str)) = false ∧ (y == ("__classdict__" : Str)) = false) :
    EvOk W n f (vcE C (.compIn i j)) (.ListComp (.Name x pe) [⟨.Name x px,.Name z pz,[.Compare (.Name x p1) [.In] [.Name y p2] p3],0⟩] scope pos):=by
  intro A E m c H s Q hr ok F p
  obtain ⟨ka,kb,l,l',hia,hjb,hHa,hHb,q⟩:=p
  obtain ⟨cl,hclos,hcl,hcl2⟩:=cs.closure F
  refine wpAny_ListComp_free (isIn (l'.map (·.1))) Eq hclos cs.cell cs.kind cs.names cs.tgt ?_
  refine evalVar F hi hia fun V rV=>?_
  obtain ⟨a,ea,rfl⟩:=rV.ref
  obtain ⟨a',kvs,ea',low,hd,hz,hkeys,hvals⟩:=dictS_rep ok hHa
  obtain rfl:=Option.some.inj (ea.symm.trans ea')
  obtain ⟨ep,hat⟩:=hd.dictAt
  refine wpAny_pyIter_dict low hat ?_
  generalize hob:({ cls:=.type "dict_keyiterator",data:=.fields #[.ref a,.int 0 0,.int kvs.length 0,.int ep 0] }:Obj) = ob
  have hf:ob.isFreed=false:=by rw [← hob];rfl
  have kp:=push_keeps s.heap ob
  have hn:s.heap.get? s.heap.objs.size=none:=get?_none_of_size (Nat.le_refl _)
  have haI:a≠s.heap.objs.size:=fun q=>by obtain ⟨o,e⟩:=ok.inh a (mem_of_get ea);rw [q,hn] at e;cases e
  have haS:a<s.heap.objs.size:=by obtain ⟨o,e⟩:=ok.inh a (mem_of_get ea);exact Heap.lt_size e
  have hit0:(s.heap.push ob).IsKeyIter s.heap.objs.size a 0 kvs.length ep:=⟨ob,Heap.get?_push_size _ hf,by rw [← hob],by rw [← hob];rfl⟩
  refine ⟨s.heap.objs.size,_,_,kvs.length,_,_,rfl,Walks.dictKeys hr.handled s.heap.objs.size a haI kvs ep,hz,⟨hit0,hat.push ob⟩,?_,⟨?_,?_⟩,?_⟩
  · intro b hb
    show b<(s.heap.push ob).objs.size
    rw [Heap.size_push]
    exact (List.mem_cons.mp hb).elim (fun e=>e▸Nat.lt_succ_self _) fun hb=>List.mem_singleton.mp hb▸Nat.lt_succ_of_lt haS
  · intro Cn i1 v s3 m3 E' hC hP hns hmx hk htk
    obtain ⟨k,x',h1,h2⟩:=hP
    obtain ⟨tk,rfl⟩:=Value.isStrOf_shape h2
    have k3:∀ b o,s.heap.get? b=some o→s3.heap.get? b=some o:=fun b o e=>hk b o (fun q=>nope' (hn.symm.trans (List.mem_singleton.mp q▸e))) (kp b o e)
    have ok3:=ok.keepAll k3
    have hxk:(compEnvC scope cl Cn f.env).kindOf x=some .local:=lookup_relabel_local cs.tgt
    have hyk:(compEnvC scope cl Cn f.env).kindOf y=some .cell∨(compEnvC scope cl Cn f.env).kindOf y=some .free:=lookup_relabel_free hy
    have hkd:(compEnvC scope cl Cn f.env).scope.kind=.function:=cs.kind
    obtain ⟨ac,V,hac,hcell,rc⟩:=in_frame (Cn:=Cn) cs F hcl hcl2 hj hy hjb k3 hyk
    refine wpAny_tests_one (wpAny_isTrue_Compare1 (wpAny_Name (wpAny_loadName_local hkd hxk hns hmx (wpAny_Name ?_ hdy.1)) cs.dbg.1) rfl)
    have done:wpAny W.M A (compareOp .In (.str k tk) V) (fun r s'=>wpAny W.M A (truthy r) (fun ok s₄=>ok=isIn (l'.map (·.1)) (.str k tk)∧Keeps s3 s₄) E' s') E' s3:=by
      refine (in_ok (x:=.str k) (y:=.ref kb) (z:=decide (k∈l'.map (·.1))) ok3 .ofStr (VRep.later (later_keep k3) _ rc) (show (match H kb with | some (.dS l)=>some (decide (k∈l.map (fun z:Str × AV=>z.1))) | _=>Option.none)=_ by rw [hHb])).1 fun t=>wpAny_truthy_bool ⟨rfl,?_⟩
      exact ⟨s3.heap,t,rfl,fun _ _ e=>e⟩
    rcases hyk with e | e
    · exact wpAny_loadName_cell hkd e hac hcell done
    · exact wpAny_loadName_free hkd e hac hcell done hdy.2
  · intro Cn i1 v s3 m3 E' hC hP hpv hns hmx hk htk
    have hxk:(compEnvC scope cl Cn f.env).kindOf x=some .local:=lookup_relabel_local cs.tgt
    exact wpAny_Name (wpAny_loadName_local cs.kind hxk hns hmx ⟨rfl,s3.heap,s3.toks,rfl,fun _ _ e=>e⟩) cs.dbg.1
  · intro D h' tk ys vs hD hlD hpD hlen hP hF hk
    have k3:∀ b o,s.heap.get? b=some o→h'.get? b=some o:=fun b o e=>hk b o (fun q=>nope' (hn.symm.trans (List.mem_singleton.mp q▸e))) (kp b o e)
    have hnD:s.heap.get? D=none:=by
      cases e:s.heap.get? D with
      | none=>rfl
      | some o=>rw [kp D o e] at hD;cases hD
    have e:=paired_eq hF
    have r:=filter_keys (W:=W) (c:=c) (h:=s.heap) (l'.map (·.1)) hlen fun j v hj=>by
      obtain ⟨k,x,h1,h2⟩:=hP j v hj
      obtain ⟨t,rfl⟩:=Value.isStrOf_shape h2
      exact ⟨k,x,t,h1,rfl⟩
    rw [e,hkeys] at r
    refine PostV.newLst (t:=tk) ok hnD k3 hlD ?_ r q
    have h1:ys.size=(vs.filter (isIn (l'.map (·.1)))).length:=by rw [e,Array.length_toList]
    have h2:=List.length_filter_le (isIn (l'.map (·.1))) vs
    omega
end LY.Internal
end

section
open PySem PySem.W PySem.Calls PyProof.Rows PySem.SeqAt
namespace LY.Internal
variable {W:Wd} {f:Fm} {c c':Cf} {m:Lo} {h h':Heap} {H H':Hp} {s s':Shared} {A:Around} {E:Value→Shared→Prop} {n:Nat} {C:CallP}
  {ma mb md:ME} {ea eb ed:Expr} {pos np apos tpos:Pos}
structure FnAt (W:Wd) (a:Addr) (fd:FuncData) (ps:List Str):Prop where
  obj:∃ o,W.h₀.get? a=some o∧o.data=.func fd
  code:W.h₀.CodeRec fd.code fd.qualname
  glob:fd.globals=mainGlobals
  blt:fd.builtins=builtinsNs
  clo:fd.closure=[]
  kind:fd.scope.kind=.function
  gen:fd.scope.isGenerator=false
  co:fd.scope.isCoroutine=false
  bind:∀ (s:Shared) (vals:List Value),(∀ b o,W.h₀.get? b=some o→s.heap.get? b=some o)→vals.length=ps.length→BindsTo s fd ⟨vals,[]⟩ (ps.zip vals)
structure NamesOk (scope:Scope) (names:List Str):Prop where
  nodup:names.Nodup
  kinds : ∀ x ∈ names, (scope.names.lookup x = some .local ∨ scope.names.lookup x = some .cell) ∧ (x == ("__debug__" : Str)) = false ∧ (x == ("__classdict__" : Str)) = false
noncomputable def fnFm (fd:FuncData) (a L:Addr) (names:List Str):Fm:=⟨callEnvC fd L a,fun j=>names[j]?⟩
theorem call_cells' {R:Result→Shared→Prop} {prog:Program} {w:World} {a:Addr} {o:Obj} {fd:FuncData} {body:List Stmt} {vals:List Value} {binds:List (Str × Value)}
    (hroom:A.depth<recursionLimit) (ho:s.heap.get? a=some o) (hdata:o.data=.func fd) (hlim:s.heap.NoLimit) (hcd:s.heap.CodeRec fd.code fd.qualname)
    (hbody:fd.body=.stmts body) (hbind:BindsTo s fd ⟨vals,[]⟩ binds) (hclo:fd.closure=[])
    (hkind:∀ x∈binds,fd.scope.names.lookup x.1=some .local∨(fd.scope.names.lookup x.1=some .cell∧((cellsFrom (s.heap.objs.size+1) fd.scope.names []).lookup x.1).isSome=true))
    (h:∀ s₁,InCallC s (callEnvC fd s.heap.objs.size a).locals (bindL (callEnvC fd s.heap.objs.size a).kindOf binds fun _=>none) (callEnvC fd s.heap.objs.size a).cells
        (bindC (callEnvC fd s.heap.objs.size a).kindOf binds fun _=>none) s₁ →
      wpAny (model prog w) (A.deeper (callEnvC fd s.heap.objs.size a)) (execs body (callEnvC fd s.heap.objs.size a)) (fun f s'=>R (.ok (.ret (match f with | .ret v=>v | _=>.none))) s')
        (fun e s'=>wpAny (model prog w) (A.deeper (callEnvC fd s.heap.objs.size a)) (leaving (callEnvC fd s.heap.objs.size a) e) (fun _ s''=>R (.error e) s'') (fun e' s''=>R (.error e') s'') s') s₁)
    (hco:fd.scope.isCoroutine=false) (hgen:fd.scope.isGenerator=false) (hk:fd.scope.kind=.function) :
    codeAny (model prog w) A (.call (.ref a) ⟨vals,[]⟩) R s:=by
  refine codeAny_call_function hroom ho hdata hco hgen hbody hcd (hbind _ _ _ _ ?_)
  rw [hclo]
  refine wpAny_newFunctionEnv_cells hk hkind fun env he s' x=>?_
  subst he
  exact ⟨hlim.keeps x.toInCall.keep,codeAny_func (h s' x)⟩
theorem cells_some:∀ (names:List (Str × NameKind)) (k:Nat) (acc:List (Str × Addr)) (x:Str),((acc.lookup x).isSome=true∨(x,NameKind.cell)∈names)→((cellsFrom k names acc).lookup x).isSome=true
  | [],_,_,_,h=>by rcases h with h | h;exact h;cases h
  | (y,kd)::r,k,acc,x,h=>by
    unfold cellsFrom
    split
    · rename_i hc
      refine cells_some r _ _ x ?_
      rcases h with h | h
      · exact Or.inl (lookup_isSome (Or.inr h))
      · rcases List.mem_cons.mp h with h | h
        · cases h;exact Or.inl (lookup_isSome (Or.inl rfl))
        · exact Or.inr h
    · rename_i hc
      refine cells_some r _ _ x ?_
      rcases h with h | h
      · exact Or.inl h
      · rcases List.mem_cons.mp h with h | h
        · cases h;exact absurd rfl hc
        · exact Or.inr h
theorem pairwise_ne {α:Type} {R:α→α→Prop} (hs:∀ a b,R a b→R b a):∀ {l:List α},l.Pairwise R→∀ {a b:α},a∈l→b∈l→a≠b→R a b
  | [],_,_,_,h,_,_=>by cases h
  | x::l,hp,a,b,ha,hb,hne=>by
    rw [List.pairwise_cons] at hp
    rcases List.mem_cons.mp ha with ea | ha' <;> rcases List.mem_cons.mp hb with eb | hb'
    · exact absurd (ea.trans eb.symm) hne
    · rw [ea];exact hp.1 b hb'
    · rw [eb];exact hs _ _ (hp.1 a ha')
    · exact pairwise_ne hs hp.2 ha' hb' hne
theorem bindL_not {k:Str→Option NameKind}:∀ {l:List (Str × Value)} {m:Str→Option Value} {x:Str},x ∉ l.map (·.1)→bindL k l m x=m x
  | [],_,_,_=>rfl
  | (y,v)::r,m,x,h=>by
    simp only [List.map_cons,List.mem_cons,not_or] at h
    unfold bindL
    rw [bindL_not h.2]
    split
    · exact if_neg h.1
    · rfl
theorem bindC_not {k:Str→Option NameKind}:∀ {l:List (Str × Value)} {m:Str→Option Value} {x:Str},x ∉ l.map (·.1)→bindC k l m x=m x
  | [],_,_,_=>rfl
  | (y,v)::r,m,x,h=>by
    simp only [List.map_cons,List.mem_cons,not_or] at h
    unfold bindC
    rw [bindC_not h.2]
    split
    · rfl
    · exact if_neg h.1
theorem zip_fst_sub {ps:List Str} {Vs:List Value} {x:Str} (h:x ∉ ps):x ∉ (ps.zip Vs).map (·.1):=fun hm=>by
  obtain ⟨⟨y,v⟩,hp,rfl⟩:=List.mem_map.mp hm
  exact h (List.of_mem_zip hp).1
theorem bindL_at {k:Str→Option NameKind}:∀ {ps:List Str} {Vs:List Value} {m:Str→Option Value} {x:Str} {j:Nat} {V:Value},ps.Nodup→ps[j]? = some x→Vs[j]? = some V→k x=some .local→bindL k (ps.zip Vs) m x=some V
  | [],_,_,_,_,_,_,h,_,_=>by simp at h
  | _::_,[],_,_,_,_,_,_,h,_=>by simp at h
  | y::ps,v::Vs,m,x,0,V,hn,h,h',hk=>by
    simp only [List.getElem?_cons_zero,Option.some.injEq] at h h'
    subst h h'
    rw [List.nodup_cons] at hn
    rw [List.zip_cons_cons]
    unfold bindL
    rw [bindL_not (zip_fst_sub hn.1),if_pos hk,if_pos rfl]
  | y::ps,v::Vs,m,x,j+1,V,hn,h,h',hk=>by
    simp only [List.getElem?_cons_succ] at h h'
    rw [List.nodup_cons] at hn
    rw [List.zip_cons_cons]
    unfold bindL
    exact bindL_at hn.2 h h' hk
theorem bindC_at {k:Str→Option NameKind}:∀ {ps:List Str} {Vs:List Value} {m:Str→Option Value} {x:Str} {j:Nat} {V:Value},ps.Nodup→ps[j]? = some x→Vs[j]? = some V→k x≠some .local→bindC k (ps.zip Vs) m x=some V
  | [],_,_,_,_,_,_,h,_,_=>by simp at h
  | _::_,[],_,_,_,_,_,_,h,_=>by simp at h
  | y::ps,v::Vs,m,x,0,V,hn,h,h',hk=>by
    simp only [List.getElem?_cons_zero,Option.some.injEq] at h h'
    subst h h'
    rw [List.nodup_cons] at hn
    rw [List.zip_cons_cons]
    unfold bindC
    rw [bindC_not (zip_fst_sub hn.1),if_neg hk,if_pos rfl]
  | y::ps,v::Vs,m,x,j+1,V,hn,h,h',hk=>by
    simp only [List.getElem?_cons_succ] at h h'
    rw [List.nodup_cons] at hn
    rw [List.zip_cons_cons]
    unfold bindC
    exact bindC_at hn.2 h h' hk
theorem initLo_at {vs:List AV} {k j:Nat} {v:AV} (e:(initLo vs k).at j=some v):vs[j]? = some v:=by
  have e:=Lo.at_some e
  unfold initLo at e
  by_cases hj:j<vs.length
  · rw [List.getElem?_append_left (by rw [List.length_map];exact hj),List.getElem?_map,List.getElem?_eq_getElem hj] at e
    rw [List.getElem?_eq_getElem hj];exact Option.some.inj e
  · rw [List.getElem?_append_right (by rw [List.length_map];exact Nat.not_lt.mp hj)] at e
    exact nope' (List.mem_replicate.mp (List.mem_of_getElem? e)).2.symm
theorem frame_call {g:Fm} {names:List Str} {ml mcell:Str→Option Value} (g1:g.env.scope.kind=.function) (g2:g.env.globals=mainGlobals) (g3:g.env.builtins=builtinsNs) (gD:∀ j,g.D j=names[j]?) (gX:c.X g.env.locals) (hn:names.Nodup)
    (gk : ∀ y ∈ names, (g.env.kindOf y = some .local ∨ (g.env.kindOf y = some .cell ∧ ∃ a, g.env.cells.lookup y = some a)) ∧ (y == ("__debug__" : Str)) = false ∧ (y == ("__classdict__" : Str)) = false) (gcx : ∀ y a, g.env.cells.lookup y = some a → c.X a ∧ a ≠ g.env.locals)
    (gap:∀ x y a,g.env.cells.lookup x=some a→g.env.cells.lookup y=some a→x=y) (hns:h.Ns g.env.locals ml) (hcell:∀ y a,g.env.cells.lookup y=some a→h.IsCell a (mcell y))
    (hv:∀ j y v,names[j]? = some y→m.at j=some v→∃ V,VRep W c h v V∧(g.env.kindOf y=some .local→ml y=some V)∧(g.env.kindOf y≠some .local→mcell y=some V)):FOk W g c m h :=
  ⟨g1,g2,g3,gX,gcx,gap,fun i j y e e'=>nodup_get_inj hn ((gD i).symm.trans e) ((gD j).symm.trans e'),fun i y e=>⟨(gk y (List.mem_of_getElem? ((gD i).symm.trans e))).1.imp id fun h=>⟨Or.inl h.1,h.2⟩,(gk y (List.mem_of_getElem? ((gD i).symm.trans e))).2⟩,
    ⟨_,hns,fun i y e hk v q=>by obtain ⟨V,r,a,_⟩:=hv i y v ((gD i).symm.trans e) q;exact ⟨V,a hk,r⟩⟩,fun i y a e hk hc=>⟨_,hcell y a hc,fun v q=>by obtain ⟨V,r,_,b⟩:=hv i y v ((gD i).symm.trans e) q;exact ⟨V,b hk,r⟩⟩,fun y a e=>⟨_,hcell y a e⟩⟩
theorem fn_call {a:Addr} {fd:FuncData} {ps rest:List Str} {body:List Stmt} {mb:MSs} (k:Wk W) (fa:FnAt W a fd ps) (hn:NamesOk fd.scope (ps++rest)) (hbody:fd.body=.stmts body)
    (hb:∀ L,ExsOk W n (fnFm fd a L (ps++rest)) (vcSs C mb) body) {nl:Nat} {vs:List AV} {Vs:List Value} {Q:QV} (hr:RoomC (n+1) A) (ok:Ok W c H s.heap) (r:VReps W c s.heap vs Vs) (hl:vs.length=ps.length)
    (p:vcSs C mb (initLo vs nl) H (retK Q)) :
    codeAny W.M A (.call (.ref a) ⟨Vs,[]⟩) (fun r s'=>∃ V,r=.ok (.ret V)∧PostV W c s Q V s') s:=by
  obtain ⟨o,ho,hdata⟩:=fa.obj
  have hVl:=r.length
  have hps:ps.Nodup:=(List.nodup_append.mp hn.nodup).1
  refine call_cells' (by have:=hr.depth;omega) (ok.base _ _ ho) hdata (k.T.nolimit.keeps ok.base) (fa.code.keeps ok.base) hbody (fa.bind s Vs ok.base (by rw [hVl,hl])) fa.clo (fun y hy=>?_) (fun s₁ x=>?_) fa.co fa.gen fa.kind
  · have hy':=(List.of_mem_zip (show (y.1,y.2)∈ps.zip Vs from hy)).1
    rcases (hn.kinds y.1 (List.mem_append_left _ hy')).1 with e | e
    · exact Or.inl e
    · exact Or.inr ⟨e,cells_some _ _ _ _ (Or.inr (mem_of_lookup e))⟩
  · generalize hL:s.heap.objs.size=L at x ⊢
    obtain ⟨⟨hsame,hns,keep,fresh⟩,hcell,hapart,habove⟩:=x
    obtain ⟨h1,tk,rfl⟩:=hsame
    dsimp only at hns keep hcell
    let P:Addr→Prop:=(fnFm fd a L (ps++rest)).F
    have hPn:∀ d,P d→s.heap.get? d=none:=by
      rintro d (rfl | ⟨y,e⟩)
      · exact get?_none_of_size (by rw [hL];exact Nat.le_refl _)
      · have:=habove y d (mem_of_lookup e)
        exact get?_none_of_size (by rw [hL];exact Nat.le_of_lt this)
    have hPin:∀ d,P d→∃ o,h1.get? d=some o:=by
      rintro d (rfl | ⟨y,e⟩)
      · obtain ⟨o,_,_,e,_⟩:=hns;exact ⟨o,e⟩
      · obtain ⟨o,e,_⟩:=hcell y d e;exact ⟨o,e⟩
    have ok1:Ok W (c.hideP P) H h1:=ok.hideP hPn keep hPin
    have L1:Later c s.heap (c.hideP P) h1:=Later.hideP hPn keep
    have r1:=VReps.later L1 _ r
    have F1:FOk W (fnFm fd a L (ps++rest)) (c.hideP P) (initLo vs nl) h1:=by
      refine frame_call (names:=ps++rest) fa.kind fa.glob fa.blt (fun _=>rfl) (Or.inr (Or.inl rfl)) hn.nodup (fun y hy=>?_) (fun y d e=>⟨Or.inr (Or.inr ⟨y,e⟩),fun q=>?_⟩) (fun y z d e e'=>?_) hns hcell fun j y v e hv=>?_
      · obtain ⟨hk,hd⟩:=hn.kinds y hy
        exact ⟨hk.imp id fun hk=>⟨hk,Option.isSome_iff_exists.mp (cells_some _ _ _ _ (Or.inr (mem_of_lookup hk)))⟩,hd⟩
      · exact absurd (q▸habove y d (mem_of_lookup e)) (Nat.lt_irrefl _)
      · by_cases hyz:y=z
        · exact hyz
        · exact absurd rfl (pairwise_ne (R:=fun x y:Str × Addr=>x.2≠y.2) (fun _ _ h=>Ne.symm h) hapart (a:=(y,d)) (b:=(z,d)) (mem_of_lookup e) (mem_of_lookup e') (fun q=>hyz (congrArg Prod.fst q)))
      · have hv':=initLo_at hv
        have hj:j<ps.length:=hl▸(List.getElem?_eq_some_iff.mp hv').1
        rw [List.getElem?_append_left hj] at e
        obtain ⟨V,e2,rV⟩:=r1.get hv'
        exact ⟨V,rV,fun hk=>bindL_at hps e e2 hk,fun hk=>bindC_at hps e e2 hk⟩
    have hr':Room n (A.deeper (callEnvC fd L a)):=⟨hr.handled,by have:=hr.depth;show A.depth+1+2 * n+5<_;omega,by have:=hr.units;show A.units+3+20 * n+200<_;omega⟩
    refine wpAny_mono (hb L _ _ _ (c.hideP P) H { s with heap:=h1,toks:=tk } _ hr' ok1 F1 p) (fun fl s2 h2=>?_) fun _ _ e=>e
    obtain ⟨c2,H2,m2,g,st2,ok2,F2,r2,H3,hle,q2⟩:=h2
    have hX2:c2.X=(c.hideP P).X:=st2.X
    have hsub:∀ d,c.X d→c2.X d:=fun d q=>by rw [hX2];exact Or.inl q
    have ok3:Ok W ⟨c2.σ,c.X⟩ H3 s2.heap:=(ok2.narrow hsub).drop hle
    have st3:Step NoF c s ⟨c2.σ,c.X⟩ s2:=⟨st2.pre,rfl,fun d hd=>(st2.fresh d hd).elim Or.inl fun e=>Or.inr (by
      cases q:s.heap.get? d with
      | none=>rfl
      | some o=>rw [keep d o q] at e;cases e),fun b ob hb _ e=>st2.keep b ob hb (fun q=>by rw [hPn b q] at e;cases e) (keep b ob e),st2.gens,st2.os⟩
    cases g with
    | next =>
      rw [show fl=.next from r2]
      exact ⟨_,rfl,⟨c2.σ,c.X⟩,H3,.none,st3,ok3,.ofNone,q2⟩
    | ret v =>
      obtain ⟨V,rfl,rV⟩:=r2
      exact ⟨_,rfl,⟨c2.σ,c.X⟩,H3,v,st3,ok3,VRep.later (Later.narrow hsub) v rV,q2⟩
end LY.Internal
end

section
open PySem PySem.W PySem.Calls PyProof.Rows PySem.SeqAt
namespace LY.Internal
variable {W:Wd} {f:Fm} {c c':Cf} {m:Lo} {h h':Heap} {H H':Hp} {s s':Shared} {A:Around} {E:Value→Shared→Prop} {n:Nat} {C:CallP}
  {ma mb md:ME} {ea eb ed:Expr} {pos np apos tpos:Pos}
noncomputable def gname:Fn→Str
  | .token_of => "token_of" | .is_token => "is_token" | .merge => "merge" | .may_be_empty => "may_be_empty" | .empty_rules => "empty_rules" | .first_of => "first_of"
  | .first_rows => "first_rows" | .follow_rows => "follow_rows" | .add_follows => "add_follows" | .parts => "parts" | .shared => "shared" | .conflicts => "conflicts"
  | .find_conflicts => "find_conflicts" | .add_alternatives => "add_alternatives" | .token_at => "token_at" | .chosen => "chosen" | .expanded => "expanded" | .recognise => "recognise"
  | .is_leaf => "is_leaf" | .leaves => "leaves" | .ends_of => "ends_of" | .derives => "derives" | .l_stock => "_law_stock" | .l_pick => "_law_pick" | .l_tree => "_law_tree"
  | .l_derived => "_law_derived" | .l_ends => "_law_ends" | .l_kids => "_law_kids" | .l_sound => "_law_sound" | .l_reached => "_law_reached" | .law => "law"
  | .gInit => "" | .rInit => "" | .nullable => "" | .first => "" | .predict => ""
noncomputable def isGlob:Fn→Bool | .gInit=>false | .rInit=>false | .nullable=>false | .first=>false | .predict=>false | _=>true
noncomputable def cname:Cl → Str | .grammar => "Grammar" | .recognised => "Recognised"
structure Wp (W:Wd) (addr:Fn→Addr):Prop where
  glob:∀ fn,isGlob fn=true→W.mg (gname fn)=some (.ref (addr fn))
  obj:∀ fn,∃ o fd,W.h₀.get? (addr fn)=some o∧o.data=.func fd
  cls:∀ cl,W.mg (cname cl) = some (.ref (W.cl cl)) ∧ makesIn W.K (W.cl cl) = true ∧ keepIn W.K (.ref (W.cl cl)) = true ∧ findIn W.K (.ref (W.cl cl)) "__init__" = some (some (.ref (addr (initOf cl)))) ∧ isFn W.K (.ref (addr (initOf cl))) = true
  meth:∀ fn cl,clsOf fn=some cl→findIn W.K (.ref (W.cl cl)) (methName fn)=some (some (.ref (addr fn)))∧isFn W.K (.ref (addr fn))=true
noncomputable def codeOf (addr:Fn→Addr):Fn→List Value→Code:=fun fn vs=>.call (.ref (addr fn)) ⟨vs,[]⟩
noncomputable def plainAll:List Expr→Bool
  | []=>true
  | e::r=>notStar e && plainAll r
theorem any_plain {env:Env} {pos:Pos}:∀ {es:List Expr},plainAll es=true→(backTo pos (starEach es env)).any (·.1)=false
  | [],_=>rfl
  | e::r,h=>by
    have h:=Bool.and_eq_true_iff.mp h
    rw [starEach_plain e r env h.1]
    have:=any_plain (env:=env) (pos:=pos) h.2
    show (false || (backTo pos (starEach r env)).any (·.1))=false
    rw [this];rfl
theorem all_plain {env:Env} {pos:Pos}:∀ {es:List Expr},plainAll es=true→(backTo pos (starEach es env)).all (fun x=>!x.1)=true
  | [],_=>rfl
  | e::r,h=>by
    have h:=Bool.and_eq_true_iff.mp h
    rw [starEach_plain e r env h.1]
    have:=all_plain (env:=env) (pos:=pos) h.2
    show (true && (backTo pos (starEach r env)).all (fun x=>!x.1))=true
    rw [this];rfl
theorem few_of {env:Env} {es:List Expr} (h:plainAll es=true) (hl:es.length<30):((backTo pos (starEach es env)).all (fun x=>!x.1) && decide (es.length<30))=true:=by
  rw [all_plain h,decide_eq_true hl];rfl
theorem call_back {W:Wd} {n:Nat} {C:CallP} {addr:Fn→Addr} {fn:Fn} {vs:List AV} {Vs:List Value} {Q:QV} (hC:CallOk W n C (codeOf addr)) (hr:Room n A) (ok:Ok W c H s.heap) (r:VReps W c s.heap vs Vs) (p:C fn vs H Q) :
    wpAny W.M A (call (.ref (addr fn)) Vs) (PostV W c s Q) E s:=by
  refine wpAny_call (codeAny_mono (hC A fn vs Vs c H s Q ⟨hr.handled,by have:=hr.depth;omega,by have:=hr.units;omega⟩ ok r p) fun r s' h=>?_)
  obtain ⟨V,rfl,h⟩:=h
  exact h
theorem ev_call {addr:Fn→Addr} {fn:Fn} {ml:MEs} {es:List Expr} (k:Wk W) (wp:Wp W addr) (hC:CallOk W n C (codeOf addr)) (hg:isGlob fn=true) (hx:f.env.kindOf (gname fn)=some .globalImplicit) (hs:notStar ea=true)
    (hl:EvsOk W n f (vcEs C ml) (ea :: es)) (hd:(gname fn == ("__debug__":Str)) = false):EvOk W n f (vcE C (.call fn ml)) (.Call (.Name (gname fn) np) (ea :: es) [] pos):=by
  intro A E m c H s Q hr ok F p
  obtain ⟨o,fd,ho,hdat⟩:=wp.obj fn
  refine Call_ (evalGlobal k ok F hx (wp.glob fn hg) (callWith_def (o:=o) (fd:=fd) hdat ?_ (starEach_plain ea es f.env hs)) hd)
  refine wpAny_mono (hl A E m c H s _ pos hr ok F p) (fun Vs s1 h1=>?_) fun _ _ e=>e
  obtain ⟨c1,H1,vs,st,ok1,r,_,q⟩:=h1
  exact ⟨ok1.base _ _ ho,wpAny_mono (call_back hC hr ok1 r q) (fun _ _ h=>h.after st ok1) fun _ _ e=>e⟩
theorem ins_none:∀ {l:List (Str × AV)} {es:List DictEntry} {x:Str},InsRep W c h l es→getK l x=none→es.find? (·.key.isStr x)=none
  | [],es,x,r,_=>by rw [show es=[] from r];rfl
  | p::l,_,x,r0,hv=>by
    obtain ⟨k,u⟩:=p
    obtain ⟨e,es',rfl,⟨t,hk⟩,r,q⟩:=r0
    rw [List.find?_cons,hk,isStr_eq]
    by_cases hx:x=k
    · exact nomatch (if_pos hx).symm.trans hv
    · rw [decide_eq_false hx]
      exact ins_none q ((if_neg hx).symm.trans hv)
theorem ev_meth {addr:Fn→Addr} {fn:Fn} {ml:MEs} {es:List Expr} (k:Wk W) (wc:Wc W) (wp:Wp W addr) (hC:CallOk W n C (codeOf addr)) (hbs:baseOk eb=true) (hline:(apos.endLine == pos.line)=true) (hpl:plainAll (ea::es)=true) (hlen:(ea::es).length<30)
    (ho:EvOk W n f (vcE C ma) eb) (hl:EvsOk W n f (vcEs C ml) (ea::es)):EvOk W n f (vcE C (.meth fn ma ml)) (.Call (.Attribute eb (methName fn) apos) (ea::es) [] pos):=by
  intro A E m c H s Q hr ok F p
  refine mcall hbs hline (few_of hpl hlen) (ev1 ho hr ok F p fun c1 H1 s1 x V st ok1 F1 r q pl=>?_)
  obtain ⟨⟨cl,j,l,hcl,rfl,hj,hn⟩,q⟩:=q
  obtain ⟨a,d,den,i,rfl,e1,hf,ha,hd,ri,I⟩:=obj_rep ok1 r hj
  obtain ⟨h1,h2⟩:=wp.meth fn cl hcl
  obtain ⟨o,fd,hob,hdat⟩:=wp.obj fn
  refine method_fn (ok1.inK k) I (plainGet_of (name := "") (wc.get cl)).1 (plainGet_of (name := "") (wc.get cl)).2 h1 (beq_iff_eq.mp h2) ?_ ?_
  · show (lookIn (methName fn) (dictOf den i)).map _=_
    rw [lookIn_dict];unfold getL
    rw [ins_none ri hn,ins_norefs ri];rfl
  · have hs:notStar ea=true:=(Bool.and_eq_true_iff.mp hpl).1
    have he:=starEach_plain ea es f.env hs
    have h0:=hl A E m c1 H1 s1 _ pos hr ok1 F1 q
    rw [he] at h0 ⊢
    refine callWith_function (o:=o) (fd:=fd) (evalArgs_plain (wpAny_mono h0 (fun Vs s2 h2=>?_) fun _ _ e=>e))
    obtain ⟨c2,H2,vs,st2,ok2,r2,_,q2⟩:=h2
    have r0:=VRep.later st2.laterE _ r
    exact ⟨⟨ok2.base _ _ hob,hdat⟩,wpAny_mono (call_back (vs:=.obj cl j::vs) hC hr ok2 (.cons r0 r2) q2) (fun _ _ h=>(h.after st2 ok2).after st ok1) fun _ _ e=>e⟩
theorem ev_new {addr:Fn→Addr} {cl:Cl} {ml:MEs} {es:List Expr} (k:Wk W) (wp:Wp W addr) (hC:CallOk W n C (codeOf addr)) (hx:f.env.kindOf (cname cl)=some .globalImplicit) (hpl:plainAll (ea::es)=true)
    (hl:EvsOk W n f (vcEs C ml) (ea :: es)) (hd:(cname cl == ("__debug__":Str)) = false):EvOk W n f (vcE C (.new cl ml)) (.Call (.Name (cname cl) np) (ea :: es) [] pos):=by
  intro A E m c H s Q hr ok F p
  obtain ⟨hmg,hmk,hkp,hin,hfn⟩:=wp.cls cl
  have hs:notStar ea=true∧plainAll es=true:=Bool.and_eq_true_iff.mp hpl
  refine Call_ (evalGlobal k ok F hx hmg (callWith_K k.inK hkp ?_ (starEach_plain ea es f.env hs.1) (any_plain hs.2)) hd)
  refine wpAny_mono (hl A E m c H s _ pos hr ok F p) (fun Vs s1 h1=>?_) fun _ _ e=>e
  obtain ⟨c1,H1,vs,st,ok1,r,_,q⟩:=h1
  refine ⟨ok1.inK k,wpAny_call ?_⟩
  have X:=ok1.inK k
  obtain ⟨hh,g,dr,t,os⟩:=s1
  dsimp only at ok1 r X
  refine make_core (makes_of X hmk) (looks_findIn X hin) (fun self=>bind_fn X self (beq_iff_eq.mp hfn)) (.inl rfl) ?_
  have kp:∀ b o,hh.get? b=some o→((hh.push emptyDict).push (instObj (W.cl cl) hh.objs.size)).get? b=some o:=fun b o e=>Heap.get?_push_of_some _ (Heap.get?_push_of_some _ e)
  have hnd:hh.get? hh.objs.size=none:=get?_none_of_size (Nat.le_refl _)
  have hnx:hh.get? (hh.objs.size+1)=none:=get?_none_of_size (Nat.le_succ _)
  have gd:((hh.push emptyDict).push (instObj (W.cl cl) hh.objs.size)).get? hh.objs.size=some emptyDict:=Heap.get?_push_of_some _ (Heap.get?_push_size _ rfl)
  have gx:((hh.push emptyDict).push (instObj (W.cl cl) hh.objs.size)).get? (hh.objs.size+1)=some (instObj (W.cl cl) hh.objs.size):=by
    have:=Heap.get?_push_size (hh.push emptyDict) (o:=instObj (W.cl cl) hh.objs.size) rfl
    rwa [Heap.size_push] at this
  obtain ⟨ok2,L2⟩:=ok1.alloc (o:=.ins []) kp hnd ⟨[],0,gd,rfl⟩ ⟨_,gd⟩ (by simpa using ok1.low_size k (n:=0))
  have st2:Step NoF c1 ⟨hh,g,dr,t,os⟩ (c1.add hh.objs.size) ⟨(hh.push emptyDict).push (instObj (W.cl cl) hh.objs.size),g,dr,t,os⟩:=Step.ofAlloc hnd kp rfl rfl
  have hfree:(c1.add hh.objs.size).free (hh.objs.size+1):=by
    have h0:=ok1.free_size hnx
    refine ⟨fun hm=>?_,h0.2⟩
    rcases List.mem_append.mp hm with hm | hm
    · exact h0.1 hm
    · exact absurd (List.mem_singleton.mp hm) (Nat.succ_ne_self _)
  have rx:VRep W (c1.add hh.objs.size) ((hh.push emptyDict).push (instObj (W.cl cl) hh.objs.size)) (.obj cl c1.σ.length) (.ref (hh.objs.size+1)):=by
    show ∃ a d,_;exact ⟨_,_,rfl,Cf.add_get c1 _,hfree,gx⟩
  have hrc:RoomC n (A.under (.builtin "type.__call__" ⟨.ref (W.cl cl) :: Vs,[]⟩)):=⟨hr.handled,by have:=hr.depth; show A.depth + 1 + 2 * n + 4 < _; omega,by have:=hr.units; show A.units + 1 + 20 * n + 190 < _; omega⟩
  refine codeAny_mono (hC _ (initOf cl) (.obj cl c1.σ.length::vs) (.ref (hh.objs.size+1)::Vs) _ _ ⟨(hh.push emptyDict).push (instObj (W.cl cl) hh.objs.size),g,dr,t,os⟩ _ hrc ok2 (.cons rx (VReps.later L2 _ r)) (q _ ok1.none_len)) fun rr s3 h3=>?_
  obtain ⟨V,rfl,c3,H3,v,st3,ok3,r3,rfl,q3⟩:=h3
  refine ⟨r3.none,?_⟩
  exact PostV.after st ok1 (PostV.after st2 ok2 ⟨c3,H3,.obj cl c1.σ.length,st3,ok3,VRep.later st3.laterE _ rx,q3⟩)
structure FnFacts (W:Wd) (addr:Fn→Addr) (fdt:Fn→FD) (fn:Fn) (fd:FuncData) (ps rest:List Str) (body:List Stmt):Prop where
  at_:FnAt W (addr fn) fd ps
  names:NamesOk fd.scope (ps++rest)
  stm:fd.body=.stmts body
  np:(fdt fn).np=ps.length
  ok:∀ n C,MonoC C→CallOk W n C (codeOf addr)→∀ L,ExsOk W n (fnFm fd (addr fn) L (ps++rest)) (vcSs C (fdt fn).body) body
theorem calls_ok {addr:Fn→Addr} {fdt:Fn→FD} (k:Wk W) (hf:∀ fn,∃ fd ps rest body,FnFacts W addr fdt fn fd ps rest body):∀ n,CallOk W n (callN fdt n) (codeOf addr)
  | 0=>fun _ _ _ _ _ _ _ _ _ _ _ p=>p.elim
  | n+1=>fun A fn vs Vs c H s Q hr ok r p=>by
    obtain ⟨fd,ps,rest,body,ff⟩:=hf fn
    obtain ⟨hl,p⟩:=p
    exact fn_call k ff.at_ ff.names ff.stm (ff.ok n _ (callN_mono fdt n) (calls_ok k hf n)) hr ok r (by rw [hl,ff.np]) p
end LY.Internal
end

section
open PySem
namespace LY.Internal
noncomputable def Rise (xs:Array Nat):Prop:=xs.toList.Pairwise (·<·)
theorem rise_get {xs:Array Nat} (h:Rise xs) {i j:Nat} (hij:i<j) (hj:j<xs.size):xs.getD i 0<xs.getD j 0:=by
  have:=List.pairwise_iff_getElem.mp h i j (by simp;omega) (by simpa using hj) hij
  simpa [Array.getD,hj,show i<xs.size by omega] using this
theorem mid_lt {lo hi:Nat} (h:lo<hi):(lo+hi) / 2<hi:=Nat.div_lt_of_lt_mul (by omega)
theorem le_mid {lo hi:Nat} (h:lo<hi):lo≤(lo+hi) / 2:=(Nat.le_div_iff_mul_le (by decide)).mpr (by omega)
theorem fu1 {lo hi m fuel:Nat} (h:hi-lo≤fuel+1) (h2:lo≤m):hi-(m+1)≤fuel:=by omega
theorem fu2 {lo hi m fuel:Nat} (h:hi-lo≤fuel+1) (h2:m<hi):m-lo≤fuel:=by omega
theorem getD_any {xs:Array Nat} {m a b:Nat} (h:m<xs.size):xs.getD m a=xs.getD m b:=(dif_pos h).trans (dif_pos h).symm
theorem below_go {xs:Array Nat} (h:Rise xs) {j:Nat}:∀ (fuel lo hi:Nat),hi-lo≤fuel→lo≤hi→hi≤xs.size→(∀ i,i<lo→xs.getD i 0<j)→(∀ i,hi≤i→i<xs.size→j≤xs.getD i 0) →
    SetTable.below.go xs j fuel lo hi≤xs.size∧(∀ i,i<SetTable.below.go xs j fuel lo hi→xs.getD i 0<j)∧(∀ i,SetTable.below.go xs j fuel lo hi≤i→i<xs.size→j≤xs.getD i 0)
  | 0,lo,hi,hf,hl,hh,h1,h2=>by
    obtain rfl:lo=hi:=Nat.le_antisymm hl (Nat.sub_eq_zero_iff_le.mp (Nat.eq_zero_of_le_zero hf))
    exact ⟨hh,h1,h2⟩
  | fuel+1,lo,hi,hf,hl,hh,h1,h2=>by
    by_cases hlt:lo<hi
    · have hm:=mid_lt hlt
      have hm2:=le_mid hlt
      rw [show SetTable.below.go xs j (fuel+1) lo hi=(if xs.getD ((lo+hi) / 2) j<j then SetTable.below.go xs j fuel ((lo+hi) / 2+1) hi else SetTable.below.go xs j fuel lo ((lo+hi) / 2)) from if_pos hlt]
      generalize (lo+hi) / 2=m at *
      have hms:m<xs.size:=Nat.lt_of_lt_of_le hm hh
      rw [getD_any (b:=0) hms]
      by_cases hx:xs.getD m 0<j
      · rw [if_pos hx]
        refine below_go h fuel (m+1) hi (fu1 hf hm2) hm hh (fun i hi'=>?_) h2
        rcases Nat.lt_or_eq_of_le (Nat.le_of_lt_succ hi') with q | rfl
        · exact Nat.lt_trans (rise_get h q hms) hx
        · exact hx
      · rw [if_neg hx]
        refine below_go h fuel lo m (fu2 hf hm) hm2 (Nat.le_of_lt hms) h1 (fun i hi' hs=>?_)
        rcases Nat.lt_or_eq_of_le hi' with q | rfl
        · exact Nat.le_trans (Nat.le_of_not_lt hx) (Nat.le_of_lt (rise_get h q hs))
        · exact Nat.le_of_not_lt hx
    · rw [show SetTable.below.go xs j (fuel+1) lo hi=lo from if_neg hlt]
      obtain rfl:=Nat.le_antisymm hl (Nat.le_of_not_lt hlt)
      exact ⟨hh,h1,h2⟩
theorem below_spec {xs:Array Nat} (h:Rise xs) (j:Nat):SetTable.below xs j≤xs.size∧(∀ i,i<SetTable.below xs j→xs.getD i 0<j)∧(∀ i,SetTable.below xs j≤i→i<xs.size→j≤xs.getD i 0) :=
  below_go h xs.size 0 xs.size (by omega) (Nat.zero_le _) (Nat.le_refl _) (fun i hi=>absurd hi (Nat.not_lt_zero _)) (fun i hi hs=>by omega)
theorem below_at {xs:Array Nat} (h:Rise xs) {k:Nat} (hk:k<xs.size):SetTable.below xs (xs.getD k 0+1)=k+1:=by
  obtain ⟨b1,b2,b3⟩:=below_spec h (xs.getD k 0+1)
  generalize SetTable.below xs (xs.getD k 0+1)=b at *
  refine Nat.le_antisymm (Nat.le_of_not_lt fun h2=>?_) (Nat.lt_of_not_le fun h1=>absurd (b3 k h1 hk) (Nat.not_succ_le_self _))
  exact absurd (Nat.le_of_lt_succ (b2 (k+1) h2)) (Nat.not_le_of_lt (rise_get h (Nat.lt_succ_self k) (Nat.lt_of_lt_of_le h2 b1)))
theorem below_zero {xs:Array Nat} (h:Rise xs):SetTable.below xs 0=0:=by
  obtain ⟨b1,b2,b3⟩:=below_spec h 0
  by_cases h1:0<SetTable.below xs 0
  · have:=b2 0 h1;omega
  · omega
theorem getD_at {xs:Array Nat} {i:Nat} (h:i<xs.size):xs.getD i 0=xs[i]:=dif_pos h
theorem rise_insert {xs:Array Nat} (h:Rise xs) {j:Nat} (hj:xs[SetTable.below xs j]?≠some j):Rise (SetTable.insertAt xs (SetTable.below xs j) j):=by
  obtain ⟨b1,b2,b3⟩:=below_spec h j
  unfold Rise
  rw [SetTable.toList_insertAt]
  generalize SetTable.below xs j=k at *
  have e:xs.toList=xs.toList.take k++xs.toList.drop k:=(List.take_append_drop _ _).symm
  have h':(xs.toList.take k++xs.toList.drop k).Pairwise (·<·):=e▸h
  obtain ⟨p1,p2,p3⟩:=List.pairwise_append.mp h'
  have lo:∀ a∈xs.toList.take k,a<j:=by
    intro a ha
    obtain ⟨i,hi,rfl⟩:=List.mem_iff_getElem.mp ha
    rw [List.getElem_take,Array.getElem_toList]
    rw [List.length_take,Array.length_toList] at hi
    have hk:=Nat.lt_of_lt_of_le hi (Nat.min_le_left ..)
    exact getD_at (Nat.lt_of_lt_of_le hk b1)▸b2 i hk
  have hi:∀ a∈xs.toList.drop k,j<a:=by
    intro a ha
    obtain ⟨i,hi,rfl⟩:=List.mem_iff_getElem.mp ha
    rw [List.getElem_drop,Array.getElem_toList]
    rw [List.length_drop,Array.length_toList] at hi
    have hs:k+i<xs.size:=by omega
    have h0:k<xs.size:=Nat.lt_of_le_of_lt (Nat.le_add_right ..) hs
    have h2:j<xs[k]:=Nat.lt_of_le_of_ne (getD_at h0▸b3 k (Nat.le_refl _) h0) fun e=>hj (by rw [Array.getElem?_eq_getElem h0,e])
    cases i with
    | zero=>exact h2
    | succ i=>exact Nat.lt_trans h2 (getD_at h0▸getD_at hs▸rise_get h (Nat.lt_add_of_pos_right (Nat.succ_pos i)) hs)
  refine List.pairwise_append.mpr ⟨p1,List.pairwise_cons.mpr ⟨hi,p2⟩,fun a ha b hb=>?_⟩
  rcases List.mem_cons.mp hb with rfl | hb
  · exact lo a ha
  · exact Nat.lt_trans (lo a ha) (hi b hb)
theorem rise_range (n:Nat):Rise (Array.range n):=by
  unfold Rise
  rw [Array.toList_range]
  exact List.pairwise_lt_range
structure TOk (led:Bool) (t:SetTable):Prop where
  rise:Rise t.place
  dum:t.dummies=#[]
  led:t.led=led
theorem slot_of {t:SetTable} (hd:t.dummies=#[]) (j:Nat):t.slot j=if (t.place[SetTable.below t.place j]? == some j)=true then .live (SetTable.below t.place j) else .empty:=by
  unfold SetTable.slot
  rw [hd];rfl
theorem adv_dummy {t:SetTable} (p:SetTable.Probe) (hp:p.dummy=none):(t.advance p).dummy=none:=by
  unfold SetTable.advance
  by_cases h:p.more > 0
  · rw [if_pos h];exact hp
  · rw [if_neg h];exact hp
theorem probe_empty {t:SetTable} (hd:t.dummies=#[]) {f:Nat→Int} {h:Int}:∀ (fuel:Nat) (p:SetTable.Probe) {j:Nat} {d:Option Nat},SetTable.probe.go t f h fuel p=some (.empty j d)→p.dummy=none→d=none∧t.place[SetTable.below t.place j]?≠some j
  | 0,p,j,d,e,_=>nope' e
  | fuel+1,p,j,d,e,hp=>by
    have e:(match t.slot p.j with
      | .empty=>some (.empty p.j p.dummy)
      | .dummy=>SetTable.probe.go t f h fuel (t.advance { p with dummy:=some p.j })
      | .live i=>if (f i == h)=true then some (.candidate p.j i (t.advance p)) else SetTable.probe.go t f h fuel (t.advance p))=some (SetTable.Met.empty j d):=e
    rw [slot_of hd] at e
    by_cases hl:(t.place[SetTable.below t.place p.j]? == some p.j)=true
    · rw [if_pos hl] at e
      have e:(if (f (SetTable.below t.place p.j) == h)=true then some (.candidate p.j (SetTable.below t.place p.j) (t.advance p)) else SetTable.probe.go t f h fuel (t.advance p))=some (SetTable.Met.empty j d):=e
      by_cases hf:(f (SetTable.below t.place p.j) == h)=true
      · exact nomatch Option.some.inj ((if_pos hf).symm.trans e)
      · exact probe_empty hd fuel _ ((if_neg hf).symm.trans e) (adv_dummy p hp)
    · rw [if_neg hl] at e
      obtain ⟨rfl,rfl⟩:=SetTable.Met.empty.inj (Option.some.inj e)
      exact ⟨hp,fun h'=>hl (by rw [h'];exact beq_self_eq_true _)⟩
theorem free_ok {t:SetTable} (hd:t.dummies=#[]) {h:Int} {slot:Nat} {wd:Bool} (e:t.freeSlot h=some (slot,wd)):t.place[SetTable.below t.place slot]?≠some slot:=by
  unfold SetTable.freeSlot at e
  cases hm:t.probe (fun _=>h+1) h (t.probeStart h) with
  | none=>rw [hm] at e;exact nope' e
  | some r=>rw [hm] at e;cases r with
    | empty j d =>
      obtain ⟨rfl,hx⟩:=probe_empty hd _ _ hm (by rfl)
      exact (Prod.mk.inj (Option.some.inj (show some (j,false)=some (slot,wd) from e))).1▸hx
    | _=>exact nope' e
theorem standIn_ok {led:Bool} {t:SetTable} (h:TOk led t) (n:Nat):TOk led (t.standIn n):=⟨rise_range n,rfl,h.led⟩
theorem layNew_ok {led:Bool} {t:SetTable} (h:TOk led t) (es:Array (Int × Value)) (k:Int) (x:Value):TOk led (layNew t es k x).2.1:=by
  unfold layNew
  cases e:t.freeSlot k with
  | some r =>
    obtain ⟨slot,wd⟩:=r
    have hf:=free_ok h.dum e
    dsimp only
    unfold SetTable.orStandIn
    have hput:TOk led (t.put slot).1:=by
      unfold SetTable.put
      refine ⟨rise_insert h.rise hf,?_,h.led⟩
      show (if SetTable.has t.dummies slot then SetTable.eraseAt t.dummies (SetTable.below t.dummies slot) else t.dummies)=#[]
      rw [h.dum,show SetTable.has #[] slot=false by show ((#[]:Array Nat)[SetTable.below #[] slot]? == some slot)=false;rw [Array.getElem?_empty];rfl]
      rfl
    split
    · exact hput
    · exact standIn_ok hput _
  | none=>exact standIn_ok h _
theorem relaid_ok {led:Bool} {t:SetTable} (h:TOk led t) {hs:Array Int} {wanted:Nat} {t':SetTable} {order:Array Nat} (e:t.relaid hs wanted=some (t',order)):TOk led t':=by
  unfold SetTable.relaid SetTable.laid at e
  cases hc:SetTable.layClean (SetTable.sizeAbove wanted-1) hs with
  | none=>rw [hc] at e;simp at e
  | some owner =>
    rw [hc] at e
    simp only [Option.bind_eq_bind,Option.bind_some,Option.pure_def,Option.some.injEq,Prod.mk.injEq] at e
    obtain ⟨rfl,rfl⟩:=e
    refine ⟨?_,rfl,h.led⟩
    unfold Rise
    simp only
    rw [List.pairwise_map]
    have:∀ (l:List Nat),l.Pairwise (·<·)→(l.filterMap fun j=>(owner.getD j none).map fun x=>(j,x)).Pairwise (fun a b=>a.1<b.1):=by
      intro l hl
      rw [List.pairwise_filterMap]
      refine hl.imp fun {a b} hab x hx y hy=>?_
      obtain ⟨_,_,rfl⟩:=Option.map_eq_some_iff.mp hx
      obtain ⟨_,_,rfl⟩:=Option.map_eq_some_iff.mp hy
      exact hab
    exact this _ List.pairwise_lt_range
theorem relayAll_ok {led:Bool} {t:SetTable} (h:TOk led t) (es:Array (Int × Value)) (wanted:Nat):TOk led (relayAll t es wanted).2.1:=by
  unfold relayAll
  cases e:t.relaid (es.map (·.1)) wanted with
  | some r =>
    obtain ⟨t',order⟩:=r
    have:=relaid_ok h e
    dsimp only
    split
    · exact this
    · exact standIn_ok h _
  | none=>exact standIn_ok h _
end LY.Internal
end

section
open PySem PyProof.Rows
namespace LY.Internal
noncomputable def kv:Value→Option Int
  | .int i _=>some i
  | _=>none
section
variable {prog:Program} {w:World}
structure SXo (prog:Program) (w:World) (led:Bool) (o:Obj) (ks:List Int) (es:Array (Int × Value)) (ep:Nat) (t:SetTable):Prop where
  ex:o.ExactSet
  dat:o.data=.set es ep t
  el:ElemsOf (intKind prog w) es.toList
  kp:(es.toList.map fun e=>kv e.2).Perm (ks.map some)
  nd:ks.Nodup
  fit:t.fits es.size=true
  tok:TOk led t
noncomputable def SX (prog:Program) (w:World) (led:Bool) (h:Heap) (a:Addr) (ks:List Int):Prop:=∃ o es ep t,h.get? a=some o∧SXo prog w led o ks es ep t
theorem SXo.len {led:Bool} {o:Obj} {ks:List Int} {es:Array (Int × Value)} {ep:Nat} {t:SetTable} (x:SXo prog w led o ks es ep t):es.size=ks.length:=by
  have:=x.kp.length_eq
  simpa using this
theorem is_kv {k:Int} {v:Value}:(intKind prog w).is k v=true ↔ kv v=some k:=by
  constructor
  · intro h
    obtain ⟨t,rfl⟩:=Value.isInt_shape (k:=k) (v:=v) h
    rfl
  · intro h
    cases v with
    | int i t=>exact Option.some.inj h▸intKind_is _ _ _ _
    | _=>exact nope' h
theorem SXo.mem {led:Bool} {o:Obj} {ks:List Int} {es:Array (Int × Value)} {ep:Nat} {t:SetTable} (x:SXo prog w led o ks es ep t) (k:Int):k∈ks ↔ ∃ e∈es.toList,(intKind prog w).is k e.2=true:=by
  have h1:some k∈ks.map some ↔ k∈ks:=by simp
  rw [← h1,← x.kp.mem_iff,List.mem_map]
  simp only [is_kv]
noncomputable def addI (ks:List Int) (k:Int):List Int:=if k∈ks then ks else ks++[k]
variable {A:Around} {E:Value→Shared→Prop} {s:Shared}
theorem store_sx {led:Bool} {o:Obj} {es:Array (Int × Value)} {ep:Nat} {t:SetTable} {a:Addr} (ho:s.heap.get? a=some o) (hex:o.ExactSet) (hd:o.data=.set es ep t)
    {es1:Array (Int × Value)} {t1:SetTable} {ks:List Int} (hel:ElemsOf (intKind prog w) es1.toList) (hkp:(es1.toList.map fun e=>kv e.2).Perm (ks.map some)) (hnd:ks.Nodup) (hf:t1.fits es1.size=true) (ht:TOk led t1) (hb:ks.length<scanBound)
    {gave:Bool→Sem Unit} (hg:∀ (b:Bool) (s₁:Shared) (Q':Unit→Shared→Prop),Q' () s₁→wpAny (model prog w) A (gave b) Q' E s₁) {wd:Bool} {R:Option Bool→Shared→Prop}
    (h:∀ h',Heap.SameBut a s.heap h'→SX prog w led h' a ks→R (some true) { s with heap:=h' }) :
    wpAny (model prog w) A (storeSet a es1 t1 >>= fun _=>if (!wd && t1.tooFull)=true then (gave (relayAll t1 es1 (SetTable.grown es1.size)).2.2 >>= fun _=>storeSet a (relayAll t1 es1 (SetTable.grown es1.size)).1 (relayAll t1 es1 (SetTable.grown es1.size)).2.1 >>= fun _=>pure (some true)) else pure (some true)) R E s:=by
  have hsz:es1.size=ks.length:=by have:=hkp.length_eq;simpa using this
  have get1:∀ (es':Array (Int × Value)) (t':SetTable) {H:Heap} {o:Obj} {es:Array (Int × Value)} {ep:Nat} {t:SetTable},H.get? a=some o→o.data=.set es ep t→(H.update a (Obj.putSet es' t')).get? a=some { o with data:=.set es' (ep+1) t' }:=by
    intro es' t' H o es ep t e1 e2
    have:=Heap.get?_update_self (Obj.putSet es' t') e1 (by rw [putSet_of es' t' e2];rfl)
    rw [putSet_of es' t' e2] at this
    exact this
  refine wpAny_bind (wpAny_storeSet_of ho hd ?_ (fits_of_scanBound (by rw [hsz];exact hb)))
  have ho1:=get1 es1 t1 ho hd
  have sb1:=Heap.SameBut.update s.heap a (Obj.putSet es1 t1)
  by_cases hfull:(!wd && t1.tooFull)=true
  · rw [if_pos hfull]
    have hp:=relayAll_perm t1 es1 (SetTable.grown es1.size)
    have hfr:=relayAll_fits t1 es1 (SetTable.grown es1.size)
    have htr:=relayAll_ok ht es1 (SetTable.grown es1.size)
    generalize relayAll t1 es1 (SetTable.grown es1.size)=r at hp hfr htr ⊢
    have hsz2:r.1.size=ks.length:=by rw [← hsz,← Array.length_toList,hp.length_eq,Array.length_toList]
    refine wpAny_bind (hg _ _ _ (wpAny_bind (wpAny_storeSet_of ho1 rfl (wpAny_pure ?_) (fits_of_scanBound (by rw [hsz2];exact hb)))))
    exact h _ (sb1.trans (Heap.SameBut.update _ a _)) ⟨_,_,_,_,get1 r.1 r.2.1 ho1 rfl,⟨hex,rfl,hel.perm hp,(hp.map _).trans hkp,hnd,hfr,htr⟩⟩
  · rw [if_neg hfull]
    exact wpAny_pure (h _ sb1 ⟨_,_,_,_,ho1,⟨hex,rfl,hel,hkp,hnd,hf,ht⟩⟩)
theorem add_sx {led:Bool} {a:Addr} {ks:List Int} {k:Int} {tk:Tok} {Q:Bool→Shared→Prop} (x:SX prog w led s.heap a ks) (hb:ks.length+1<scanBound)
    (h:∀ b h',Heap.SameBut a s.heap h'→SX prog w led h' a (addI ks k)→Q b { s with heap:=h' }):wpAny (model prog w) A (setAddHashed a (.int k tk) ((intKind prog w).hash k)) Q E s:=by
  obtain ⟨o,es,ep,t,ho,x⟩:=x
  have hlen:=x.len
  have hkey:(intKind prog w).is k (.int k tk)=true:=intKind_is _ _ _ _
  unfold setAddHashed setAddHashedIn
  refine wpAny_holding (wpAny_bind (wpAny_setState_of ho x.dat x.fit ?_))
  dsimp only
  rw [byScan_of rfl (by rw [hlen];omega) x.el]
  rw [if_pos rfl]
  unfold setAddByScan
  refine wpAny_bind (wpAny_bind (wpAny_rule (wpAny_bind (wpAny_setScan_of hkey ho x.dat x.fit x.el ?_))))
  cases hr:List.findIdx? (fun e=>(intKind prog w).is k e.2) es.toList with
  | some j =>
    obtain ⟨hj,hpj,_⟩:=List.findIdx?_eq_some_iff_getElem.mp hr
    have hin:k∈ks:=(x.mem k).mpr ⟨es.toList[j],List.getElem_mem hj,hpj⟩
    refine wpAny_pure (wpAny_pure ?_)
    have:=h false s.heap (Heap.SameBut.refl a s.heap) ⟨o,es,ep,t,ho,by rw [show addI ks k=ks from if_pos hin];exact x⟩
    exact this
  | none =>
    have hin:k ∉ ks:=fun hk=>by
      obtain ⟨e,he,hp⟩:=(x.mem k).mp hk
      have:=List.findIdx?_eq_none_iff.mp hr e he
      rw [hp] at this;cases this
    have hg:∀ (b:Bool) (s₁:Shared) (Q':Unit → Shared → Prop),Q' () s₁ → wpAny (model prog w) A (match b with | true => rule "set.scan.the-table-gave-way" | false => pure ()) Q' E s₁ :=
      fun b s₁ Q' hq=>by
        cases b
        · exact wpAny_pure hq
        · exact wpAny_rule hq
    have hperm:=layNew_perm t es ((intKind prog w).hash k) (.int k tk)
    have hfits:=layNew_fits t es ((intKind prog w).hash k) (.int k tk)
    have htok:=layNew_ok x.tok es ((intKind prog w).hash k) (.int k tk)
    generalize layNew t es ((intKind prog w).hash k) (.int k tk)=L at hperm hfits htok ⊢
    obtain ⟨es1,t1,wd,gv⟩:=L
    rw [Array.toList_push] at hperm
    have hel1:ElemsOf (intKind prog w) es1.toList:=(x.el.push hkey rfl).perm hperm
    have hkp1:(es1.toList.map fun e=>kv e.2).Perm ((ks++[k]).map some):=by
      refine (hperm.map _).trans ?_
      rw [List.map_append,List.map_append]
      exact x.kp.append_right _
    have hnd1:(ks++[k]).Nodup:=List.nodup_append.mpr ⟨x.nd,by simp,by rintro c hc d hd rfl;rw [List.mem_singleton.mp hd] at hc;exact hin hc⟩
    have fin:∀ (t2:SetTable),t2.fits es1.size = true → TOk led t2 → ∀ (b:Bool),wpAny (model prog w) A (storeSet a es1 t2 >>= fun _ => if (!wd && t2.tooFull) = true then ((match (relayAll t2 es1 (SetTable.grown es1.size)).2.2 with | true => rule "set.scan.the-table-gave-way" | false => pure ()) >>= fun _ => storeSet a (relayAll t2 es1 (SetTable.grown es1.size)).1 (relayAll t2 es1 (SetTable.grown es1.size)).2.1 >>= fun _ => pure (some true)) else pure (some true))
        (fun r s'=>wpAny (model prog w) A (match r with | some added=>pure added | none=>setAddHashedIn a (.int k tk) ((intKind prog w).hash k) 99999) Q E s') E s:=by
      intro t2 h1 h2 _
      refine store_sx (led:=led) (ks:=ks ++ [k]) (gave:=fun b => match b with | true => rule "set.scan.the-table-gave-way" | false => pure ()) ho x.ex x.dat hel1 hkp1 hnd1 h1 h2 (by rw [List.length_append]; exact hb) hg fun h' hsb hx => wpAny_pure (h true h' hsb ?_)
      rw [show addI ks k=ks++[k] from if_neg hin];exact hx
    refine wpAny_bind (hg gv _ _ ?_)
    split
    · refine wpAny_bind ?_
      rw [hashByValue_scannable 8 rfl]
      refine wpAny_pure ?_
      exact fin t1 hfits htok true
    · refine wpAny_bind (wpAny_pure ?_)
      exact fin t1 hfits htok true
end
end LY.Internal
end

section
open PySem PyProof.Rows
set_option maxRecDepth 100000
namespace LY.Internal
section
variable {prog:Program} {w:World} {A:Around} {led:Bool}
theorem addI_mem {ks:List Int} {k x:Int}:x∈addI ks k ↔ x∈ks∨x=k:=by
  unfold addI
  split
  · rename_i h;exact ⟨Or.inl,fun q=>q.elim id fun e=>e▸h⟩
  · simp
theorem addI_len {ks:List Int} {k:Int}:(addI ks k).length≤ks.length+1:=by
  unfold addI;split <;> simp
theorem SX.keep {h h':Heap} {a:Addr} {ks:List Int} (x:SX prog w led h a ks) (e:∀ o,h.get? a=some o→h'.get? a=some o):SX prog w led h' a ks :=
  (by obtain ⟨o,es,ep,t,ho,r⟩:=x;exact ⟨o,es,ep,t,e _ ho,r⟩)
theorem update_sx {R:Result→Shared→Prop} {I:Addr} {fp wr:List Addr} {G:Array GenState→Array GenState→Prop} {n:Nat} {P:Nat→Value→Prop} {St:Nat→Shared→Prop}
    (W:WalksS prog w A.in1 I fp wr G n P St) {S:Addr} (hSf:S ∉ fp) {val:Nat→Int} (hval:∀ i v,P i v→∃ t,v=.int (val i) t) (hb:n+1<scanBound) :
    ∀ (k i:Nat) (s:Shared) (ks:List Int),n-i=k→i≤n→St i s→SX prog w led s.heap S ks→ks.length≤i →
      (∀ s' ks',Moved (S::wr) G s s'→SX prog w led s'.heap S ks'→(∀ x,x∈ks' ↔ x∈ks∨∃ j,i≤j∧j<n∧val j=x)→R (.ok (.ret .none)) s') →
      codeAny (model prog w) A (.builtin "set.update.loop" ⟨[.ref S,.ref I],[]⟩) R s:=by
  have hSw:S ∉ wr:=fun h=>hSf (W.sub _ h)
  have hsub:∀ b∈wr,b∈S::wr:=fun b hb=>List.mem_cons_of_mem _ hb
  intro k
  induction k with
  | zero =>
    intro i s ks hk hi hst hx hl hR
    have:i=n:=by omega
    subst this
    refine codeAny_builtin F.entry_set_update_loop ?_
    rw [Around.under_plainId F.plain_set_update_loop _]
    show wpAny _ A.in1 (pyNext (.ref I) >>= _) _ _ s
    refine wpAny_bind (W.done s _ _ hst fun s' hm=>?_)
    show wpAny _ A.in1 (ret Value.none) _ _ s'
    exact wpAny_pure (hR s' ks (hm.mono hsub) (hx.keep fun o e=>hm.heap S o hSw e) fun x=>⟨Or.inl,fun q=>q.elim id fun ⟨j,h1,h2,_⟩=>by omega⟩)
  | succ k ih =>
    intro i s ks hk hi hst hx hl hR
    have hlt:i<n:=by omega
    refine codeAny_builtin F.entry_set_update_loop ?_
    rw [Around.under_plainId F.plain_set_update_loop _]
    show wpAny _ A.in1 (pyNext (.ref I) >>= _) _ _ s
    refine wpAny_bind (W.item i s _ _ hlt hst fun v s' hP hst' hm=>?_)
    obtain ⟨t,rfl⟩:=hval i v hP
    have hx':SX prog w led s'.heap S ks:=hx.keep fun o e=>hm.heap S o hSw e
    show wpAny _ A.in1 (holding [Value.int (val i) t] (setAdd S (.int (val i) t)) >>= _) _ _ s'
    refine wpAny_bind (wpAny_holding ?_)
    unfold setAdd
    refine wpAny_holding (wpAny_bind ((intKind prog w).pyHash (k:=val i) (intKind_is _ _ _ _) ?_))
    refine add_sx (s:={ s' with toks:=s'.toks+1 }) hx' (by omega) fun b h' hsb hx2=>?_
    have hal:=addI_len (ks:=ks) (k:=val i)
    refine wpAny_pure ⟨plainId_quiet F.plain_set_update_loop _,ih (i+1) _ (addI ks (val i)) (by omega) hlt (W.frame _ s' _ _ hst' (Nat.le_succ _) fun b hb o e=>?_) hx2 (by omega) fun s'' ks'' hm'' hx'' hmem=>?_⟩
    · rw [hsb.2 b (fun h:b=S=>hSf (by rw [← h];exact hb))];exact e
    · refine hR s'' ks'' (Moved.trans W.gtrans ((hm.mono hsub).then_heap (Nat.le_succ _) fun b o hb e=>?_) hm'') hx'' fun x=>?_
      · rw [hsb.2 b (fun h:b=S=>hb (by rw [h];exact List.mem_cons_self))];exact e
      · rw [hmem,addI_mem]
        constructor
        · rintro ((h | rfl) | ⟨j,h1,h2,h3⟩)
          · exact Or.inl h
          · exact Or.inr ⟨i,Nat.le_refl _,hlt,rfl⟩
          · exact Or.inr ⟨j,by omega,h2,h3⟩
        · rintro (h | ⟨j,h1,h2,rfl⟩)
          · exact Or.inl (Or.inl h)
          · by_cases e:j=i
            · subst e;exact Or.inl (Or.inr rfl)
            · exact Or.inr ⟨j,by omega,h2,rfl⟩
variable {E:Value→Shared→Prop} {s:Shared}
noncomputable def ledOf (w:World):Bool:=!(w.params.followText "set-order")
noncomputable def emptySet (w:World):Obj:={ cls:=.type "set",dict:=none,data:=.set #[] 0 (.fresh 0 0 (ledOf w)) }
theorem emptySet_sx:SXo prog w (ledOf w) (emptySet w) [] #[] 0 (.fresh 0 0 (ledOf w)) :=
  ⟨⟨rfl,rfl,rfl⟩,rfl,(fun e he=>by simp at he),by simp,List.nodup_nil,by rfl,⟨List.Pairwise.nil,rfl,rfl⟩⟩
theorem new_sx (a:Value) {Q₁:Value→Shared→Prop} (h:Q₁ (.ref s.heap.objs.size) { s with heap:=s.heap.push (emptySet w) }) :
    codeAny (model prog w) A (.call (.builtin "set.__new__") ⟨[.type "set",a],[]⟩) (wants Q₁ E) s:=by
  refine codeAny_of_tree ?_
  show wpAny _ A.in1 (do checkBuiltinCall "set.__new__" ⟨[.type "set", a], []⟩; again (.builtin "set.__new__" ⟨[.type "set", a], []⟩)) _ _ s
  refine wpAny_bind (wpAny_of_eq (F.newCall_set_1 a) (wpAny_pure ⟨plainId_quiet F.plain_set_new _,codeAny_builtin F.entry_set_new ?_⟩))
  rw [Around.under_plainId F.plain_set_new _]
  unfold Builtin.«set.__new__» Builtin.Frozenset.newClass
  have hsub:=sub_set_self
  obtain ⟨hp,g,d,tk,os⟩:=s
  dsimp only
  wp_walk
  refine wpAny_askSetting (wpAny_pure ?_)
  dsimp only
  unfold newObj
  refine wpAny_bind (wpAny_alloc (wpAny_pure ?_))
  exact wpAny_pure h
end
end LY.Internal
end

section
open PySem PyProof.Rows
set_option maxRecDepth 100000
set_option maxHeartbeats 3200000
namespace LY.Internal
section
variable {prog:Program} {w:World} {A:Around} {E:Value→Shared→Prop} {s:Shared}
noncomputable def SetMade (prog:Program) (w:World) (s:Shared) (ns:List Int) (s₂:Shared):Prop :=
  ∃ h' tk ks,s₂ = { s with heap:=h',toks:=tk }∧SX prog w (ledOf w) h' s.heap.objs.size ks∧(∀ x,x∈ks ↔ x∈ns)∧(∀ b o,s.heap.get? b=some o→h'.get? b=some o)
theorem init_sx {l:Addr} {items:Array Value} {ns:List Int} {R:Result→Shared→Prop} (hh:A.handled=none) (hl:s.heap.IsList l items) (hi:IntsAre items.toList ns) (hb:items.size+1<scanBound)
    (hR:∀ s₂,SetMade prog w s ns s₂→R (.ok (.ret .none)) s₂) :
    wpAny (model prog w) A.in1 (Builtin.«set.__init__» ⟨[.ref s.heap.objs.size,.ref l],[]⟩)
      (fun fin s'=>match fin with | .done f=>R (.ok f) s' | .again c'=>c'.quiet=true∧codeAny (model prog w) A c' R s') (fun e s'=>R (.error e) s') { s with heap:=s.heap.push (emptySet w) }:=by
  obtain ⟨ol,hol,hcl,nl,hdl⟩:=hl
  obtain ⟨ocls,odict,odata,oslots⟩:=ol
  simp only at hcl hdl
  subst hcl;subst hdl
  have hl0:s.heap.IsList l items:=⟨_,hol,rfl,nl,rfl⟩
  unfold SetMade at hR
  have hx0:SX prog w (ledOf w) ((s.heap.push (emptySet w)).push { cls:=.type "list_iterator",data:=.fields #[.ref l,.int 0 0] }) s.heap.objs.size [] :=
    ⟨_,_,_,_,Heap.get?_push_of_some _ (Heap.get?_push_size _ rfl),emptySet_sx⟩
  unfold emptySet at hx0 ⊢
  generalize ledOf w=led at *
  have hS : (s.heap.push { cls := .type "set", dict := none, data := .set #[] 0 (.fresh 0 0 led) }).get? s.heap.objs.size = some { cls := .type "set", dict := none, data := .set #[] 0 (.fresh 0 0 led) } := Heap.get?_push_size _ rfl
  have hol' : (s.heap.push { cls := .type "set", dict := none, data := .set #[] 0 (.fresh 0 0 led) }).get? l = some { cls := .type "list", dict := odict, data := .seq items nl, slots := oslots } := Heap.get?_push_of_some _ hol
  have hl1:(s.heap.push { cls:=.type "set",dict:=none,data:=.set #[] 0 (.fresh 0 0 led) }).IsList l items:=⟨_,hol',rfl,nl,rfl⟩
  have hsls:=F.sub_list_set
  have hslf:=F.sub_list_frozenset
  have hne:(Value.type "list" == Value.type "dict") = false:=by decide
  unfold Builtin.«set.__init__» noKeywords Builtin.Frozenset.updateFrom
  generalize hPI:pyIter=PI
  wp_walk
  subst hPI
  refine wpAny_pyIter_list hl1 ?_
  refine wpAny_bind (wpAny_runValue ?_)
  have hlS:l<s.heap.objs.size:=Heap.lt_size hol
  have hneI:l ≠ (s.heap.push { cls:=.type "set",dict:=none,data:=.set #[] 0 (.fresh 0 0 led) }).objs.size:=by
    rw [Heap.size_push];exact Nat.ne_of_lt (Nat.lt_succ_of_lt hlS)
  have hSf:s.heap.objs.size ∉ [(s.heap.push { cls:=.type "set",dict:=none,data:=.set #[] 0 (.fresh 0 0 led) }).objs.size,l]:=by
    rw [Heap.size_push]
    simp only [List.mem_cons,List.not_mem_nil,or_false,not_or]
    exact ⟨Nat.ne_of_lt (Nat.lt_succ_self _),Nat.ne_of_gt hlS⟩
  have hval:∀ (i:Nat) (v:Value),items[i]? = some v→∃ t,v=.int ((fun i=>ns.getD i 0) i) t:=fun i v hv=>IntsAre.int_at hi i v (by rw [Array.getElem?_toList];exact hv)
  have hh3:A.in1.in1.handled=none:=hh
  refine update_sx ((Walks.list hh3 _ l hneI items).toS) hSf hval hb (items.size-0) 0 _ [] (by omega) (Nat.zero_le _) ⟨⟨_,Heap.get?_push_size _ rfl,rfl,rfl⟩,hl1.push _⟩ hx0 (Nat.zero_le _) fun s' ks' hm hx hmem=>?_
  obtain ⟨h',g',d',tk',os'⟩:=s'
  have eg:g'=s.gens:=hm.gens
  have ed:d'=s.drawn:=hm.drawn
  have eo:os'=s.os:=hm.os
  subst eg;subst ed;subst eo
  show wpAny _ _ _ _ _ _
  refine wpAny_pure ?_
  show wpAny _ _ (ret Value.none) _ _ _
  refine wpAny_pure (hR _ ⟨h',tk',ks',rfl,hx,fun x=>?_,fun b o e=>?_⟩)
  · rw [hmem]
    have hlen:=IntsAre.length hi
    rw [Array.length_toList] at hlen
    constructor
    · rintro (h | ⟨j,_,h2,rfl⟩)
      · cases h
      · have:j<ns.length:=by omega
        simp only [List.getD_eq_getElem?_getD,List.getElem?_eq_getElem this,Option.getD_some]
        exact List.getElem_mem this
    · intro h
      obtain ⟨j,hj,rfl⟩:=List.mem_iff_getElem.mp h
      exact Or.inr ⟨j,Nat.zero_le _,by omega,by simp [List.getD_eq_getElem?_getD,List.getElem?_eq_getElem hj]⟩
  · have hlt:=Heap.lt_size e
    refine hm.heap b o ?_ (Heap.get?_push_of_some _ (Heap.get?_push_of_some _ e))
    simp only [List.mem_cons,List.not_mem_nil,or_false,not_or]
    refine ⟨Nat.ne_of_lt hlt,?_⟩
    show b ≠ (s.heap.push { cls:=.type "set",dict:=none,data:=.set #[] 0 (.fresh 0 0 led) }).objs.size
    rw [Heap.size_push];exact Nat.ne_of_lt (Nat.lt_succ_of_lt hlt)
theorem call_sx {l:Addr} {items:Array Value} {ns:List Int} {Q:Value→Shared→Prop} (hh:A.handled=none) (hl:s.heap.IsList l items) (hi:IntsAre items.toList ns) (hb:items.size+1<scanBound)
    (h:∀ s₂,SetMade prog w s ns s₂ → Q (.ref s.heap.objs.size) s₂):wpAny (model prog w) A (call (.type "set") [.ref l]) Q E s:=by
  obtain ⟨c,tl,hmro⟩:=F.called_set.mro
  have hmade:=F.called_set.made
  have hsub:=F.called_set.sub
  refine wpAny_call (codeAny_of_tree ?_)
  show wpAny _ _ (callAny (.type "set") _) _ _ _
  refine wpAny_pure ⟨Code.quiet_builtin _ (by decide +kernel),codeAny_builtin F.entry_type_call ?_⟩
  rw [Around.under_plain (weight_type_call_type "set" [.ref l] []) rfl]
  have h1:=F.called_set.notType
  have h2:=F.called_set.canCreate
  have hct:=F.typeCall_set_1 (.ref l)
  repeat (any_goals (first | assumption | wp_step))
  refine codeAny_mono (new_sx (.ref l) (E:=E) (Q₁:=fun obj s₁=>obj=.ref s.heap.objs.size∧s₁ = { s with heap:=s.heap.push (emptySet w) }) ⟨rfl,rfl⟩) fun r s₁ hr=>?_
  cases r with
  | error e=>exact hr
  | ok fl =>
    cases fl with
    | ret obj =>
      obtain ⟨rfl,rfl⟩:=hr
      have hS:(s.heap.push (emptySet w)).get? s.heap.objs.size=some (emptySet w):=Heap.get?_push_size _ rfl
      have hT:Shared.TypeIs { s with heap:=s.heap.push (emptySet w) } (.ref s.heap.objs.size) "set":=⟨_,hS,rfl⟩
      have hli:=F.called_set.init.lookup
      have hbi:=F.called_set.init.bind (.ref s.heap.objs.size)
      repeat (any_goals (first | assumption | wp_step))
      refine codeAny_mono (codeAny_call_builtin (R:=wants (fun r s₂=>r=.none∧SetMade prog w s ns s₂) E) F.called_set.init.plain F.entry_set_init (check_set_init_1 hT ?_)) fun r₂ s₂ hr₂=>?_
      · exact init_sx (by simpa using hh) hl hi hb fun s₂ x=>⟨rfl,x⟩
      · cases r₂ with
        | error e=>exact hr₂
        | ok fl₂ =>
          cases fl₂ with
          | ret r =>
            obtain ⟨rfl,x⟩:=hr₂
            repeat (any_goals (first | assumption | wp_step))
            exact h _ x
          | _=>exact hr₂.elim
    | _=>exact hr.elim
end
end LY.Internal
end

section
open PySem PySem.Calls PyProof.Rows
set_option maxRecDepth 100000
namespace LY.Internal
theorem si_slot_next:Slot "set_iterator" "__next__" "set_iterator.__next__" :=
  .of (owner := "set_iterator") (n := "__next__") (by rw [typeLookup_type, builtinLookup_eq_fast]; kernel_rfl) (by decide +kernel) (by decide +kernel) (by decide +kernel)
    (by first | exact .inl (by decide +kernel) | exact .inr (by decide +kernel)) (by rw [isSubtype_type];kernel_rfl)
theorem si_entry_next:entryFor table "set_iterator.__next__" = some Builtin.«set_iterator.__next__»:=entryFor_of_tree (by kernel_rfl)
theorem si_slot_iter:Slot "set_iterator" "__iter__" "set_iterator.__iter__" :=
  .of (owner := "set_iterator") (n := "__iter__") (by rw [typeLookup_type, builtinLookup_eq_fast]; kernel_rfl) (by decide +kernel) (by decide +kernel) (by decide +kernel)
    (by first | exact .inl (by decide +kernel) | exact .inr (by decide +kernel)) (by rw [isSubtype_type];kernel_rfl)
theorem si_entry_iter:entryFor table "set_iterator.__iter__" = some Builtin.«dict_keyiterator.__iter__» :=
  entryFor_alias (id':="dict_keyiterator.__iter__") (by kernel_rfl) rfl (by decide +kernel) (by kernel_rfl)
theorem si_owner:Manifest.owners.lookup (String.ofList ['r','o','t','a','r','e','t','i','_','t','e','s'].reverse)=some Manifest.sig_set_iterator:=by kernel_rfl
theorem si_args_next (a:Value):argsOk "set_iterator.__next__" ⟨[a],[]⟩:=by
  unfold argsOk; rw [signature?_of (id:="set_iterator.__next__") (n:=['_','_','t','x','e','n','_','_']) (o:=['r','o','t','a','r','e','t','i','_','t','e','s']) (by kernel_rfl) si_owner]; kernel_rfl
theorem si_args_iter (a:Value):argsOk "set_iterator.__iter__" ⟨[a],[]⟩:=by
  unfold argsOk; rw [signature?_of (id:="set_iterator.__iter__") (n:=['_','_','r','e','t','i','_','_']) (o:=['r','o','t','a','r','e','t','i','_','t','e','s']) (by kernel_rfl) si_owner]; kernel_rfl
theorem s_entry_iter:entryFor table "set.__iter__" = some Builtin.«frozenset.__iter__» :=
  entryFor_alias (id':="frozenset.__iter__") (by kernel_rfl) rfl (by decide +kernel) (by kernel_rfl)
end LY.Internal
end

section
open PySem PySem.Calls PyProof.Rows
set_option maxRecDepth 100000
namespace LY.Internal
section
variable {prog:Program} {w:World} {A:Around} {E:Value→Shared→Prop} {s:Shared}
noncomputable def SIter (h:Heap) (I S:Addr) (f:Value) (i n ep:Nat):Prop :=
  ∃ o,h.get? I = some o ∧ o.cls = .type "set_iterator" ∧ o.data = .fields #[f,.int i 0,.ref S,.int n 0,.int ep 0]
theorem SIter.typeIs {I S:Addr} {f:Value} {i n ep:Nat} (x:SIter s.heap I S f i n ep):s.TypeIs (.ref I) "set_iterator":=(by obtain ⟨o,ho,hc,_⟩:=x; exact ⟨o,ho,hc⟩)
theorem SIter.keep {h h':Heap} {I S:Addr} {f:Value} {i n ep:Nat} (x:SIter h I S f i n ep) (e:∀ o,h.get? I=some o→h'.get? I=some o):SIter h' I S f i n ep:=(by obtain ⟨o,ho,r⟩:=x;exact ⟨o,e _ ho,r⟩)
theorem si_self {I S:Addr} {f:Value} {i n ep:Nat} {Q:Value→Shared→Prop} (x:SIter s.heap I S f i n ep) (h:Q (.ref I) s):wpAny (model prog w) A (pyIter (.ref I)) Q E s:=by
  refine wpAny_pyIter_slot x.typeIs si_slot_iter (wpAny_call_entry si_slot_iter x.typeIs si_entry_iter ?_ (si_args_iter _))
  show wpAny _ _ (ret (.ref I)) _ _ s
  exact wpAny_pure ⟨_,rfl,"set_iterator",_,x.typeIs,si_slot_next.lookup,h⟩
theorem si_item_int {I S:Addr} {slot i next ep:Nat} {o:Obj} {es:Array (Int × Value)} {t:SetTable} {v:Value} {Q:Option Value→Shared→Prop} (hit:SIter s.heap I S (.int (slot:Int) 0) i es.size ep)
    (ho:s.heap.get? S=some o) (hd:o.data=.set es ep t) (hf:t.fits es.size=true)
    (hnx:∀ {A':Around} {E':Value→Shared→Prop} {Q':Option (Value × Nat)→Shared→Prop},Q' (some (v,next)) s→wpAny (model prog w) A' (setNext S slot i ep) Q' E' s)
    (hQ:∀ h',SIter h' I S (.int (next:Int) 0) (i+1) es.size ep→(∀ b o,b≠I→s.heap.get? b=some o→h'.get? b=some o)→Q (some v) { s with heap:=h' }) :
    wpAny (model prog w) A (pyNext (.ref I)) Q E s:=by
  obtain ⟨oi,hoi,hci,hdi⟩:=id hit
  unfold pyNext
  refine wpAny_bind (wpAny_attempt (wpAny_callSpecial?_slot (name:=Str.ofString "__next__") hit.typeIs si_slot_next
    (wpAny_call_entry si_slot_next hit.typeIs si_entry_next ?_ (si_args_next _))))
  unfold Builtin.«set_iterator.__next__»
  refine wpAny_bind (m:=slotArgs "__next__" 0 _) (wpAny_pure ?_)
  refine wpAny_bind (wpAny_fieldsOf hoi hdi ?_)
  dsimp only
  refine wpAny_bind (wpAny_setEntries_of ho hd hf ?_)
  rw [if_neg (by simp)]
  refine wpAny_bind (hnx ?_)
  dsimp only
  have hoi1:=Heap.get?_update_self (Obj.mapFields (·.setIfInBounds 0 (rawInt (next:Int)))) hoi (Obj.isFreed_of_fields (Obj.data_mapFields hdi _))
  refine wpAny_bind (wpAny_setField hoi hdi (by simp) ?_)
  have hd1:((Obj.mapFields (·.setIfInBounds 0 (rawInt (next:Int)))) oi).data=.fields #[.int (next:Int) 0,.int i 0,.ref S,.int es.size 0,.int ep 0]:=by rw [Obj.data_mapFields hdi];simp [rawInt]
  refine wpAny_bind (wpAny_setField hoi1 hd1 (by simp) ?_)
  refine wpAny_pure ⟨_,rfl,wpAny_pure (hQ _ ⟨_,Heap.get?_update_self _ hoi1 (Obj.isFreed_of_fields (Obj.data_mapFields hd1 _)),?_,?_⟩ fun b o' hb e=>?_)⟩
  · exact (Obj.cls_mapFields ..).trans ((Obj.cls_mapFields ..).trans hci)
  · rw [Obj.data_mapFields hd1];simp [rawInt]
  · exact (Heap.get?_update_other _ _ (Ne.symm hb)).trans ((Heap.get?_update_other _ _ (Ne.symm hb)).trans e)
end
end LY.Internal
end

section
open PySem PySem.Calls PyProof.Rows
set_option maxRecDepth 100000
namespace LY.Internal
section
variable {prog:Program} {w:World} {A:Around} {E:Value→Shared→Prop} {s:Shared}
theorem erase_perm {α:Type}:∀ {l:List α} {i:Nat} {x:α},l[i]? = some x→(x::l.eraseIdx i).Perm l
  | [],i,x,h=>by simp at h
  | a::l,0,x,h=>by simp at h;subst h;exact .rfl
  | a::l,i+1,x,h=>by
    simp only [List.getElem?_cons_succ] at h
    rw [List.eraseIdx_cons_succ]
    exact (List.Perm.swap a x _).trans ((erase_perm h).cons a)
theorem pick_go {α:Type} (next:Nat→Nat):∀ (fuel k:Nat) (left:List α) (out:Array α),fuel=left.length→(pickOrder.go next fuel k left out).toList.Perm (out.toList++left)
  | 0,k,left,out,h=>by
    have:left=[]:=List.eq_nil_of_length_eq_zero h.symm
    subst this
    rw [List.append_nil];exact .rfl
  | fuel+1,k,left,out,h=>by
    have hlt:next k % left.length<left.length:=Nat.mod_lt _ (by omega)
    obtain ⟨x,hx⟩:∃ x,left[next k % left.length]? = some x:=⟨_,List.getElem?_eq_getElem hlt⟩
    rw [show pickOrder.go next (fuel+1) k left out=pickOrder.go next fuel (k+1) (left.eraseIdx (next k % left.length)) (out.push x) by
      show (match left[next k % left.length]? with | some x=>pickOrder.go next fuel (k+1) (left.eraseIdx (next k % left.length)) (out.push x) | none=>out)=_
      rw [hx]]
    refine (pick_go next fuel (k+1) _ _ (by rw [List.length_eraseIdx_of_lt hlt];omega)).trans ?_
    rw [Array.toList_push,List.append_assoc]
    exact (erase_perm hx).append_left _
theorem pick_perm {α:Type} (next:Nat→Nat) (xs:Array α):(pickOrder next xs).toList.Perm xs.toList:=by
  exact pick_go next xs.size 0 xs.toList #[] rfl
theorem wpAny_choose {src:Source} {n:Nat} {Q:Nat→Shared→Prop} (hn:n≠0) (h:∀ i d,i<n→Q i { s with drawn:=d }):wpAny (model prog w) A (choose src n) Q E s :=
  fun Γ p _=>⟨hn,h _ _ (Nat.mod_lt _ (Nat.pos_of_ne_zero hn))⟩
theorem draw_wp {α:Type}:∀ (n:Nat) (xs:List α) {s:Shared} {Q:List α→Shared→Prop},xs.length=n→(∀ ys d,ys.Perm xs→Q ys { s with drawn:=d })→wpAny (model prog w) A (drawOrder n xs) Q E s
  | 0,xs,s,Q,hl,h=>by
    have:xs=[]:=List.eq_nil_of_length_eq_zero hl
    subst this
    exact wpAny_pure (h [] s.drawn .rfl)
  | n+1,[],s,Q,hl,h=>by cases hl
  | n+1,x::xs,s,Q,hl,h=>by
    refine wpAny_bind (wpAny_choose (by simp) fun i d hi=>?_)
    obtain ⟨y,hy⟩:∃ y,(x::xs)[i]? = some y:=⟨_,List.getElem?_eq_getElem hi⟩
    rw [hy]
    refine wpAny_bind (draw_wp n _ (by rw [List.length_eraseIdx_of_lt hi,hl];rfl) fun ys d' hp=>wpAny_pure (h (y::ys) d' ((hp.cons y).trans (erase_perm hy))))
theorem setNext_text {S:Addr} {slot i ep:Nat} {o:Obj} {es:Array (Int × Value)} {t:SetTable} {Q:Option (Value × Nat) → Shared → Prop} (hT:w.params.followText "set-order" = true) (ho:s.heap.get? S = some o) (hd:o.data = .set es ep t) (hf:t.fits es.size = true)
    (q:Q (((pickOrder (w.params.setOrder S ep) es)[i]?).map fun e=>(e.2,slot)) s):wpAny (model prog w) A (setNext S slot i ep) Q E s:=by
  unfold setNext setsByText
  refine wpAny_bind (wpAny_setState_of ho hd hf ?_)
  refine wpAny_bind (wpAny_bind (wpAny_askSetting (wpAny_pure ?_)))
  show wpAny (model prog w) A (if (w.params.followText "set-order") = true then _ else _) Q E s
  rw [if_pos hT]
  refine w_no (by rw [bne_self_eq_false];exact Bool.false_ne_true) ?_
  refine wpAny_bind ?_
  unfold setWalk setsByText
  refine wpAny_bind (wpAny_setState_of ho hd hf ?_)
  refine wpAny_bind (wpAny_bind (wpAny_askSetting (wpAny_pure ?_)))
  show wpAny (model prog w) A (if (w.params.followText "set-order") = true then _ else _) _ E s
  rw [if_pos hT]
  exact wpAny_bind (wpAny_askSetting (wpAny_pure (wpAny_pure q)))
theorem setNext_slot {S:Addr} {slot i ep:Nat} {o:Obj} {es:Array (Int × Value)} {t:SetTable} {Q:Option (Value × Nat) → Shared → Prop} (hT:w.params.followText "set-order" = false) (ho:s.heap.get? S = some o) (hd:o.data = .set es ep t) (hf:t.fits es.size = true)
    (hdr:(!t.plain && decide (es.size > 1))=false) (hl:t.led=true)
    (q:Q (match es[SetTable.below t.place slot]?,t.place[SetTable.below t.place slot]? with | some (_,x),some j=>some (x,j+1) | _,_=>none) s):wpAny (model prog w) A (setNext S slot i ep) Q E s:=by
  unfold setNext setsByText
  refine wpAny_bind (wpAny_setState_of ho hd hf ?_)
  refine wpAny_bind (wpAny_bind (wpAny_askSetting (wpAny_pure ?_)))
  show wpAny (model prog w) A (if (w.params.followText "set-order") = true then _ else (if (!t.plain && decide (es.size > 1)) = true then _ else (if (!t.led && !es.isEmpty) = true then _ else pure ()) >>= fun _ => _)) Q E s
  rw [if_neg (by rw [hT];decide),if_neg (by rw [hdr];decide),if_neg (by rw [hl];simp)]
  exact wpAny_bind (wpAny_pure (wpAny_pure q))
end
end LY.Internal
end

section
open PySem PySem.Calls PyProof.Rows
set_option maxRecDepth 100000
namespace LY.Internal
section
variable {prog:Program} {w:World} {A:Around} {E:Value→Shared→Prop} {s:Shared}
theorem si_done_int {I S:Addr} {slot i ep:Nat} {o:Obj} {es:Array (Int × Value)} {t:SetTable} {Q:Option Value→Shared→Prop} (hh:A.handled=none) (hit:SIter s.heap I S (.int (slot:Int) 0) i es.size ep)
    (ho:s.heap.get? S=some o) (hd:o.data=.set es ep t) (hf:t.fits es.size=true)
    (hnx:∀ {A':Around} {E':Value→Shared→Prop} {Q':Option (Value × Nat)→Shared→Prop},Q' none s→wpAny (model prog w) A' (setNext S slot i ep) Q' E' s)
    (hQ:∀ h',(∀ b o,b≠I→s.heap.get? b=some o→h'.get? b=some o)→Q none { s with heap:=h' }) :
    wpAny (model prog w) A (pyNext (.ref I)) Q E s:=by
  obtain ⟨oi,hoi,hci,hdi⟩:=id hit
  unfold pyNext
  refine wpAny_bind (wpAny_attempt (wpAny_callSpecial?_slot (name:=Str.ofString "__next__") hit.typeIs si_slot_next
    (wpAny_call_entry si_slot_next hit.typeIs si_entry_next ?_ (si_args_next _))))
  unfold Builtin.«set_iterator.__next__»
  refine wpAny_bind (m:=slotArgs "__next__" 0 _) (wpAny_pure ?_)
  refine wpAny_bind (wpAny_fieldsOf hoi hdi ?_)
  dsimp only
  refine wpAny_bind (wpAny_setEntries_of ho hd hf ?_)
  rw [if_neg (by simp)]
  refine wpAny_bind (hnx ?_)
  dsimp only
  refine wpAny_bind (wpAny_setField hoi hdi (by simp) ?_)
  refine wpAny_mono (stop_raise (E:=E) (Q:=Q) hh ?_) (fun _ _ x=>False.elim x) fun _ _ x=>x
  exact fun h' hk=>hQ h' fun b o' hb e=>hk b o' ((Heap.get?_update_other _ _ (Ne.symm hb)).trans e)
theorem si_item_ref {I S T:Addr} {i ep:Nat} {o oT:Obj} {es:Array (Int × Value)} {t:SetTable} {xs:Array Value} {c p:Nat} {v:Value} {hv:Int} {Q:Option Value→Shared→Prop} (hit:SIter s.heap I S (.ref T) i es.size ep)
    (ho:s.heap.get? S=some o) (hd:o.data=.set es ep t) (hf:t.fits es.size=true) (hT:s.heap.get? T=some oT) (hdT:oT.data=.seq xs c) (hx:xs[i]? = some (.int (p:Int) 0)) (hp:es[p]? = some (hv,v))
    (hQ:∀ h',SIter h' I S (.ref T) (i+1) es.size ep→(∀ b o,b≠I→s.heap.get? b=some o→h'.get? b=some o)→Q (some v) { s with heap:=h' }) :
    wpAny (model prog w) A (pyNext (.ref I)) Q E s:=by
  obtain ⟨oi,hoi,hci,hdi⟩:=id hit
  unfold pyNext
  refine wpAny_bind (wpAny_attempt (wpAny_callSpecial?_slot (name:=Str.ofString "__next__") hit.typeIs si_slot_next
    (wpAny_call_entry si_slot_next hit.typeIs si_entry_next ?_ (si_args_next _))))
  unfold Builtin.«set_iterator.__next__»
  refine wpAny_bind (m:=slotArgs "__next__" 0 _) (wpAny_pure ?_)
  refine wpAny_bind (wpAny_fieldsOf hoi hdi ?_)
  dsimp only
  refine wpAny_bind (wpAny_setEntries_of ho hd hf ?_)
  rw [if_neg (by simp)]
  refine wpAny_bind (wpAny_seqItems hT hdT ?_)
  dsimp only [Int.toNat_natCast]
  rw [hx]
  dsimp only
  refine wpAny_bind ?_
  unfold setNextDrawn
  refine wpAny_bind (wpAny_setState_of ho hd hf ?_)
  refine w_no (by rw [bne_self_eq_false];exact Bool.false_ne_true) ?_
  rw [Int.toNat_natCast,hp]
  refine wpAny_pure ?_
  refine wpAny_bind (wpAny_setField hoi hdi (by simp) ?_)
  refine wpAny_pure ⟨_,rfl,wpAny_pure (hQ _ ⟨_,Heap.get?_update_self _ hoi (Obj.isFreed_of_fields (Obj.data_mapFields hdi _)),(Obj.cls_mapFields ..).trans hci,?_⟩ fun b o' hb e=>(Heap.get?_update_other _ _ (Ne.symm hb)).trans e)⟩
  rw [Obj.data_mapFields hdi];simp [rawInt]
theorem si_done_ref {I S T:Addr} {i ep:Nat} {o oT:Obj} {es:Array (Int × Value)} {t:SetTable} {xs:Array Value} {c:Nat} {Q:Option Value→Shared→Prop} (hh:A.handled=none) (hit:SIter s.heap I S (.ref T) i es.size ep)
    (ho:s.heap.get? S=some o) (hd:o.data=.set es ep t) (hf:t.fits es.size=true) (hT:s.heap.get? T=some oT) (hdT:oT.data=.seq xs c) (hx:xs[i]? = none)
    (hQ:∀ h',(∀ b o,b≠I→s.heap.get? b=some o→h'.get? b=some o)→Q none { s with heap:=h' }) :
    wpAny (model prog w) A (pyNext (.ref I)) Q E s:=by
  obtain ⟨oi,hoi,hci,hdi⟩:=id hit
  unfold pyNext
  refine wpAny_bind (wpAny_attempt (wpAny_callSpecial?_slot (name:=Str.ofString "__next__") hit.typeIs si_slot_next
    (wpAny_call_entry si_slot_next hit.typeIs si_entry_next ?_ (si_args_next _))))
  unfold Builtin.«set_iterator.__next__»
  refine wpAny_bind (m:=slotArgs "__next__" 0 _) (wpAny_pure ?_)
  refine wpAny_bind (wpAny_fieldsOf hoi hdi ?_)
  dsimp only
  refine wpAny_bind (wpAny_setEntries_of ho hd hf ?_)
  rw [if_neg (by simp)]
  refine wpAny_bind (wpAny_seqItems hT hdT ?_)
  dsimp only [Int.toNat_natCast]
  rw [hx]
  dsimp only
  have hoi1:=Heap.get?_update_self (Obj.mapFields (·.setIfInBounds 0 (rawInt 0))) hoi (Obj.isFreed_of_fields (Obj.data_mapFields hdi _))
  refine wpAny_bind (wpAny_setField hoi hdi (by simp) ?_)
  have hd1:((Obj.mapFields (·.setIfInBounds 0 (rawInt 0))) oi).data=.fields #[rawInt 0,.int i 0,.ref S,.int es.size 0,.int ep 0]:=by rw [Obj.data_mapFields hdi];simp [rawInt]
  refine wpAny_bind (wpAny_setField hoi1 hd1 (by simp) ?_)
  refine wpAny_mono (stop_raise (E:=E) (Q:=Q) hh ?_) (fun _ _ x=>False.elim x) fun _ _ x=>x
  exact fun h' hk=>hQ h' fun b o' hb e=>hk b o' ((Heap.get?_update_other _ _ (Ne.symm hb)).trans ((Heap.get?_update_other _ _ (Ne.symm hb)).trans e))
end
end LY.Internal
end

section
open PySem PySem.Calls PyProof.Rows
set_option maxRecDepth 100000
namespace LY.Internal
section
variable {prog:Program} {w:World} {A:Around} {E:Value→Shared→Prop} {s:Shared}
theorem perm_size {α:Type} {xs ys:Array α} (h:xs.toList.Perm ys.toList):xs.size=ys.size:=by
  have:=h.length_eq
  simpa using this
structure SWalk (prog:Program) (w:World) (S:Addr) (es:Array (Int × Value)) (I:Addr) (fp:List Addr) (vs:List Value) (St:Nat→Heap→Prop):Prop where
  perm:vs.Perm (es.toList.map (·.2))
  walk:∀ A:Around,A.handled=none→Walks prog w A I fp [I] es.size (fun i v=>vs[i]? = some v) St
theorem walk_text {S I:Addr} {o:Obj} {es:Array (Int × Value)} {ep:Nat} {t:SetTable} (hT:w.params.followText "set-order" = true) (hd:o.data = .set es ep t) (hf:t.fits es.size = true) (hne:S ≠ I) :
    SWalk prog w S es I [I,S] ((pickOrder (w.params.setOrder S ep) es).toList.map (·.2)) (fun i h=>SIter h I S (.int ((0:Nat):Int) 0) i es.size ep∧h.get? S=some o):=by
  have hp:=pick_perm (w.params.setOrder S ep) es
  have hsz:=perm_size hp
  refine ⟨hp.map _,fun A hh=>⟨fun b hb=>by simp at hb;simp [hb],fun i h h' st hk=>⟨st.1.keep fun o e=>hk I (by simp) o e,hk S (by simp) o st.2⟩,fun i s Q E hi st hQ=>?_,fun s Q E st hQ=>?_,fun i s Q E st hQ=>si_self st.1 hQ⟩⟩
  · have hlt:i<(pickOrder (w.params.setOrder S ep) es).size:=by rw [hsz];exact hi
    have hx:(pickOrder (w.params.setOrder S ep) es)[i]? = some (pickOrder (w.params.setOrder S ep) es)[i]:=Array.getElem?_eq_getElem hlt
    refine si_item_int (next:=0) (v:=((pickOrder (w.params.setOrder S ep) es)[i]).2) st.1 st.2 hd hf (fun {A' E' Q'} q=>setNext_text hT st.2 hd hf (by rw [hx];exact q)) fun h' hit hk=>hQ _ h' s.toks ?_ ⟨hit,hk S o hne st.2⟩ fun b o' hb e=>hk b o' (fun h=>hb (by simp [h])) e
    rw [List.getElem?_map,Array.getElem?_toList,hx];rfl
  · have hx:(pickOrder (w.params.setOrder S ep) es)[es.size]? = none:=Array.getElem?_eq_none (by rw [hsz];exact Nat.le_refl _)
    exact si_done_int hh st.1 st.2 hd hf (fun {A' E' Q'} q=>setNext_text hT st.2 hd hf (by rw [hx];exact q)) fun h' hk=>hQ h' s.toks fun b o' hb e=>hk b o' (fun h=>hb (by simp [h])) e
noncomputable def slotAt (t:SetTable) (i:Nat):Nat:=if i=0 then 0 else t.place.getD (i-1) 0+1
theorem slotAt_below {t:SetTable} (h:Rise t.place) {i:Nat} (hi:i≤t.place.size):SetTable.below t.place (slotAt t i)=i:=by
  unfold slotAt
  by_cases h0:i=0
  · rw [if_pos h0,h0];exact below_zero h
  · rw [if_neg h0,below_at h (by omega)];omega
theorem walk_slot {S I:Addr} {o:Obj} {es:Array (Int × Value)} {ep:Nat} {t:SetTable} (hT:w.params.followText "set-order" = false) (hd:o.data = .set es ep t) (hf:t.fits es.size = true) (hdr:(!t.plain && decide (es.size > 1)) = false) (hl:t.led = true) (hR:Rise t.place) (hne:S ≠ I) :
    SWalk prog w S es I [I,S] (es.toList.map (·.2)) (fun i h=>SIter h I S (.int ((slotAt t i:Nat):Int) 0) i es.size ep∧h.get? S=some o):=by
  have hps:t.place.size=es.size:=by
    simp only [SetTable.fits,Bool.and_eq_true,beq_iff_eq] at hf
    exact hf.1
  refine ⟨.rfl,fun A hh=>⟨fun b hb=>by simp at hb;simp [hb],fun i h h' st hk=>⟨st.1.keep fun o e=>hk I (by simp) o e,hk S (by simp) o st.2⟩,fun i s Q E hi st hQ=>?_,fun s Q E st hQ=>?_,fun i s Q E st hQ=>si_self st.1 hQ⟩⟩
  · have hb:=slotAt_below hR (i:=i) (by omega)
    have hx:es[i]? = some (es[i].1,es[i].2):=Array.getElem?_eq_getElem hi
    have hj:t.place[i]? = some t.place[i]:=Array.getElem?_eq_getElem (by omega)
    have hnext:slotAt t (i+1)=t.place[i]+1:=by
      unfold slotAt
      rw [if_neg (by omega)]
      simp [Array.getD,show i<t.place.size by omega]
    refine si_item_int (next:=t.place[i]+1) (v:=es[i].2) st.1 st.2 hd hf (fun {A' E' Q'} q=>setNext_slot hT st.2 hd hf hdr hl (by rw [hb,hx,hj];exact q)) fun h' hit hk=>hQ _ h' s.toks ?_ ⟨by rw [hnext];exact hit,hk S o hne st.2⟩ fun b o' hb e=>hk b o' (fun h=>hb (by simp [h])) e
    rw [List.getElem?_map,Array.getElem?_toList,hx];rfl
  · have hb:=slotAt_below hR (i:=es.size) (by omega)
    have hx:es[es.size]? = none:=Array.getElem?_eq_none (Nat.le_refl _)
    exact si_done_int hh st.1 st.2 hd hf (fun {A' E' Q'} q=>setNext_slot hT st.2 hd hf hdr hl (by rw [hb,hx];exact q)) fun h' hk=>hQ h' s.toks fun b o' hb e=>hk b o' (fun h=>hb (by simp [h])) e
theorem perm_pick {α:Type} {es:List α} {ps:List Nat} (h:ps.Perm (List.range es.length)):(ps.filterMap fun p=>es[p]?).Perm es:=by
  have:=h.filterMap (fun p=>es[p]?)
  rw [List.filterMap_getElem?_range_length] at this
  exact this
theorem filterMap_at {α:Type} {es:List α}:∀ {ps:List Nat} {i p:Nat} {x:α},(∀ p∈ps,p<es.length)→ps[i]? = some p→es[p]? = some x→(ps.filterMap fun p=>es[p]?)[i]? = some x
  | [],i,p,x,_,h,_=>by simp at h
  | q::ps,0,p,x,hb,h,hx=>by
    simp at h;subst h
    rw [List.filterMap_cons_some hx];rfl
  | q::ps,i+1,p,x,hb,h,hx=>by
    have hq:q<es.length:=hb q (List.mem_cons_self ..)
    rw [List.filterMap_cons_some (List.getElem?_eq_getElem hq)]
    simp only [List.getElem?_cons_succ] at h ⊢
    exact filterMap_at (fun p hp=>hb p (List.mem_cons_of_mem _ hp)) h hx
theorem walk_drawn {S I T:Addr} {o oT:Obj} {es:Array (Int × Value)} {ep c:Nat} {t:SetTable} {ps:List Nat} (hd:o.data=.set es ep t) (hf:t.fits es.size=true) (hps:ps.Perm (List.range es.size)) (hdT:oT.data=.seq ((ps.map fun (i:Nat)=>rawInt i).toArray) c) (hne:S≠I) (hneT:T≠I) :
    SWalk prog w S es I [I,S,T] ((ps.filterMap fun p=>es.toList[p]?).map (·.2)) (fun i h=>SIter h I S (.ref T) i es.size ep∧h.get? S=some o∧h.get? T=some oT):=by
  have hps':ps.Perm (List.range es.toList.length):=by rw [Array.length_toList];exact hps
  have hlen:ps.length=es.size:=by rw [hps.length_eq,List.length_range]
  have hmem:∀ p∈ps,p<es.toList.length:=fun p hp=>List.mem_range.mp (hps'.mem_iff.mp hp)
  refine ⟨(perm_pick hps').map _,fun A hh=>⟨fun b hb=>by simp at hb;simp [hb],fun i h h' st hk=>⟨st.1.keep fun o e=>hk I (by simp) o e,hk S (by simp) o st.2.1,hk T (by simp) oT st.2.2⟩,fun i s Q E hi st hQ=>?_,fun s Q E st hQ=>?_,fun i s Q E st hQ=>si_self st.1 hQ⟩⟩
  · have hpi:ps[i]? = some (ps[i]'(by omega)):=List.getElem?_eq_getElem (by omega)
    have hlt:=hmem _ (List.mem_of_getElem? hpi)
    have hx:es.toList[ps[i]'(by omega)]? = some (es.toList[ps[i]'(by omega)]):=List.getElem?_eq_getElem hlt
    refine si_item_ref (p:=ps[i]'(by omega)) (v:=(es.toList[ps[i]'(by omega)]).2) (hv:=(es.toList[ps[i]'(by omega)]).1) st.1 st.2.1 hd hf st.2.2 hdT ?_ ?_ fun h' hit hk=>hQ _ h' s.toks ?_ ⟨hit,hk S o hne st.2.1,hk T oT hneT st.2.2⟩ fun b o' hb e=>hk b o' (fun h=>hb (by simp [h])) e
    · rw [List.getElem?_toArray,List.getElem?_map,hpi];rfl
    · rw [← Array.getElem?_toList,hx]
    · rw [List.getElem?_map,filterMap_at hmem hpi hx];rfl
  · refine si_done_ref hh st.1 st.2.1 hd hf st.2.2 hdT ?_ fun h' hk=>hQ h' s.toks fun b o' hb e=>hk b o' (fun h=>hb (by simp [h])) e
    rw [List.getElem?_toArray,List.getElem?_map,List.getElem?_eq_none (by omega)];rfl
end
end LY.Internal
end

section
open PySem PySem.Calls PyProof.Rows
set_option maxRecDepth 100000
namespace LY.Internal
section
variable {prog:Program} {w:World} {A:Around} {E:Value→Shared→Prop} {s:Shared}
theorem set_iter {S:Addr} {o:Obj} {ks:List Int} {es:Array (Int × Value)} {ep:Nat} {t:SetTable} {Q:Value→Shared→Prop} (x:SXo prog w (ledOf w) o ks es ep t) (ho:s.heap.get? S=some o) (hb:es.size<scanBound)
    (h:∀ I fp vs St h1 d1,SWalk prog w S es I fp vs St→St 0 h1→(∀ b o',s.heap.get? b=some o'→h1.get? b=some o')→(∀ b∈fp,b=S∨s.heap.get? b=none)→s.heap.get? I=none→Q (.ref I) { s with heap:=h1,drawn:=d1 }) :
    wpAny (model prog w) A (pyIter (.ref S)) Q E s:=by
  have hT:s.TypeIs (.ref S) "set":=⟨o,ho,x.ex.1⟩
  have hS:=Heap.lt_size ho
  refine wpAny_pyIter_slot hT PySem.F.slot_set_iter (wpAny_call_entry PySem.F.slot_set_iter hT s_entry_iter ?_ (PySem.F.args_set_iter_1 _))
  unfold Builtin.«frozenset.__iter__» Builtin.Frozenset.slot0
  refine wpAny_bind (wpAny_bind (m:=slotArgs "__iter__" 0 _) (wpAny_pure ?_))
  show wpAny _ _ (pure S) _ _ s
  refine wpAny_pure ?_
  unfold Builtin.Frozenset.sizeOf
  refine wpAny_bind (wpAny_bind (wpAny_setEntries_of ho x.dat x.fit (wpAny_pure ?_)))
  refine wpAny_bind ?_
  unfold setDrawn setsByText
  refine wpAny_bind (wpAny_setState_of ho x.dat x.fit ?_)
  dsimp only
  refine wpAny_bind (wpAny_bind (wpAny_askSetting (wpAny_pure (wpAny_pure ?_))))
  have sz1:s.heap.get? s.heap.objs.size=none:=by
    cases e:s.heap.get? s.heap.objs.size with
    | none=>rfl
    | some o'=>exact absurd (Heap.lt_size e) (Nat.lt_irrefl _)
  show wpAny (model prog w) _ (if (!(w.params.followText "set-order") && (!t.plain && decide (es.size > 1))) = true then _ else _) _ _ s
  cases hTx:w.params.followText "set-order" with
  | true =>
    rw [if_neg (by simp)]
    refine wpAny_bind (wpAny_pure ?_)
    refine wpAny_bind (m:=setEpoch S) ( wpAny_setEpoch_of ho x.dat x.fit ?_)
    refine wpAny_bind (m := newFields "set_iterator" _) (wpAny_newObj_type (wpAny_pure ⟨_, rfl, "set_iterator", _, ⟨_, Heap.get?_push_size _ rfl, rfl⟩, si_slot_next.lookup, ?_⟩))
    refine h s.heap.objs.size _ _ _ _ s.drawn (walk_text hTx x.dat x.fit (Nat.ne_of_lt hS)) ⟨⟨_,Heap.get?_push_size _ rfl,rfl,by simp [rawInt]⟩,Heap.get?_push_of_some _ ho⟩ (fun b o' e=>Heap.get?_push_of_some _ e) (fun b hb=>?_) sz1
    simp only [List.mem_cons,List.not_mem_nil,or_false] at hb
    rcases hb with rfl | rfl
    · exact Or.inr sz1
    · exact Or.inl rfl
  | false =>
    cases hdr:(!t.plain && decide (es.size > 1)) with
    | false =>
      rw [if_neg (by simp)]
      refine wpAny_bind (wpAny_pure ?_)
      refine wpAny_bind (m:=setEpoch S) ( wpAny_setEpoch_of ho x.dat x.fit ?_)
      refine wpAny_bind (m := newFields "set_iterator" _) (wpAny_newObj_type (wpAny_pure ⟨_, rfl, "set_iterator", _, ⟨_, Heap.get?_push_size _ rfl, rfl⟩, si_slot_next.lookup, ?_⟩))
      refine h s.heap.objs.size _ _ _ _ s.drawn (walk_slot hTx x.dat x.fit hdr (by rw [x.tok.led];simp [ledOf,hTx]) x.tok.rise (Nat.ne_of_lt hS)) ⟨⟨_,Heap.get?_push_size _ rfl,rfl,by simp [rawInt,slotAt]⟩,Heap.get?_push_of_some _ ho⟩ (fun b o' e=>Heap.get?_push_of_some _ e) (fun b hb=>?_) sz1
      simp only [List.mem_cons,List.not_mem_nil,or_false] at hb
      rcases hb with rfl | rfl
      · exact Or.inr sz1
      · exact Or.inl rfl
    | true =>
      rw [if_pos (by simp)]
      refine wpAny_bind (draw_wp es.size (List.range es.size) (by simp) fun ps d hp=>?_)
      have hpl:ps.length=es.size:=by rw [hp.length_eq,List.length_range]
      refine wpAny_bind (wpAny_newTuple ?_ (by rw [List.length_map,hpl];exact fits_of_scanBound hb))
      have hTT : (s.heap.push { cls := .type "tuple", data := .seq (ps.map fun (i : Nat) => rawInt i).toArray }).get? s.heap.objs.size = some { cls := .type "tuple", data := .seq (ps.map fun (i : Nat) => rawInt i).toArray } := Heap.get?_push_size _ rfl
      have ho2:(s.heap.push { cls:=.type "tuple",data:=.seq (ps.map fun (i:Nat) => rawInt i).toArray }).get? S = some o:=Heap.get?_push_of_some _ ho
      have hsz2:(s.heap.push { cls:=.type "tuple",data:=.seq (ps.map fun (i:Nat) => rawInt i).toArray }).objs.size = s.heap.objs.size + 1:=Heap.size_push ..
      have keep2:∀ b o',s.heap.get? b = some o' → (s.heap.push { cls:=.type "tuple",data:=.seq (ps.map fun (i:Nat) => rawInt i).toArray }).get? b = some o':=fun b o' e => Heap.get?_push_of_some _ e
      refine wpAny_bind (m:=setEpoch S) (wpAny_setEpoch_of (s:={ s with heap:=s.heap.push { cls:=.type "tuple",data:=.seq (ps.map fun (i:Nat) => rawInt i).toArray },drawn:=d }) ho2 x.dat x.fit ?_)
      refine wpAny_bind (m := newFields "set_iterator" _) (wpAny_newObj_type (wpAny_pure ⟨_, rfl, "set_iterator", _, ⟨_, Heap.get?_push_size _ rfl, rfl⟩, si_slot_next.lookup, ?_⟩))
      have sz2:s.heap.get? (s.heap.push { cls:=.type "tuple",data:=.seq (ps.map fun (i:Nat) => rawInt i).toArray }).objs.size = none:=by
        rw [hsz2]
        cases e:s.heap.get? (s.heap.objs.size+1) with
        | none=>rfl
        | some o'=>exact absurd (Heap.lt_size e) (Nat.not_lt.mpr (Nat.le_succ _))
      refine h _ _ _ _ _ d (walk_drawn (oT:={ cls:=.type "tuple",data:=.seq (ps.map fun (i:Nat) => rawInt i).toArray }) (T:=s.heap.objs.size) x.dat x.fit hp rfl (by rw [hsz2]; exact Nat.ne_of_lt (Nat.lt_succ_of_lt hS)) (by rw [hsz2]; exact Nat.ne_of_lt (Nat.lt_succ_self _))) ⟨⟨_,Heap.get?_push_size _ rfl,rfl,by simp [rawInt]⟩,Heap.get?_push_of_some _ ho2,Heap.get?_push_of_some _ hTT⟩ (fun b o' e => Heap.get?_push_of_some _ (keep2 b o' e)) (fun b hb => ?_) sz2
      simp only [List.mem_cons,List.not_mem_nil,or_false] at hb
      rcases hb with rfl | rfl | rfl
      · exact Or.inr sz2
      · exact Or.inl rfl
      · exact Or.inr sz1
end
end LY.Internal
end

section
open PySem PySem.W PySem.Calls PyProof.Rows
set_option maxRecDepth 100000
namespace LY.Internal
section
variable {prog:Program} {w:World} {A:Around} {E:Value→Shared→Prop} {s:Shared}
theorem set_hint {r:Addr} {Q:Bool → Shared → Prop} (hT:s.TypeIs (.ref r) "set") (h:Q false s):wpAny (model prog w) A (Builtin.List.listLengthHint (.ref r)) Q E s:=by
  unfold Builtin.List.listLengthHint
  refine wpAny_bind (wpAny_specialOf hT PySem.F.slot_set_len.lookup ?_)
  generalize hid:("set.__len__":String) = id0
  wp_delta
  rw [show splitId id0 = some ("set", "__len__") from by subst hid; decide +kernel]
  subst hid
  refine wpAny_bind (wpAny_isInstance (T:="set") (b:=true) hT (by rw [isSubtype_type]; kernel_rfl) ?_)
  refine wpAny_ite_split (fun hab=>absurd hab (by decide)) (fun _=>?_)
  refine wpAny_ite_split (fun _=>?_) (fun hab=>absurd (by decide +kernel) hab)
  refine wpAny_bind (wpAny_typeOf hT ?_)
  exact wpAny_pure h
theorem items_eq {vs:List Value} {acc:Array Value} {n:Nat} (h:ItemsOf (fun i v=>vs[i]? = some v) acc n) (hl:vs.length=n):acc.toList=vs:=by
  refine List.ext_getElem? fun i=>?_
  rw [Array.getElem?_toList]
  by_cases hi:i<acc.size
  · rw [Array.getElem?_eq_getElem hi,h.2 i _ (Array.getElem?_eq_getElem hi)]
  · rw [Array.getElem?_eq_none (by omega),List.getElem?_eq_none (by have:=h.1;omega)]
theorem extend_set {S L:Addr} {o:Obj} {ks:List Int} {es:Array (Int × Value)} {ep:Nat} {t:SetTable} {R:Result→Shared→Prop} (x:SXo prog w (ledOf w) o ks es ep t) (ho:s.heap.get? S=some o) (hb:es.size<scanBound) (hh:A.handled=none) (hLS:L≠S) (res:Value) (c₀:Nat)
    (hL:s.heap.get? L = some { cls:=.type "list",data:=.seq #[] c₀ })
    (hR:∀ h' tk d acc' c',(∀ b o',b ≠ L → s.heap.get? b = some o' → h'.get? b = some o') → h'.get? L = some { cls:=.type "list",dict:=none,data:=.seq acc' c',slots:=#[] } → acc'.toList.Perm (es.toList.map (·.2)) → R (.ok (.ret res)) { s with heap:=h',toks:=tk,drawn:=d }) :
    wpAny (model prog w) A.in1 (Builtin.List.listExtendWith (.ref L) (.ref S) res)
      (fun fin s'=>match fin with | .done f=>R (.ok f) s' | .again c'=>c'.quiet=true∧codeAny (model prog w) A c' R s') (fun e s'=>R (.error e) s') s:=by
  have hn:es.size≤sizeLine:=fits_of_scanBound hb
  have hT:s.TypeIs (.ref S) "set":=⟨o,ho,x.ex.1⟩
  have hLlt:=Heap.lt_size hL
  unfold Builtin.List.listExtendWith
  refine wpAny_bind (wpAny_typeOf (T:="set") hT ?_)
  have h1:Builtin.List.listSameRef (.ref L) (.ref S)=false:=by simp [Builtin.List.listSameRef,hLS]
  have n1:(Value.type "set" == Value.type "list") = false:=by decide
  have n2:(Value.type "set" == Value.type "tuple") = false:=by decide
  refine w_no (by rw [h1,n1,n2];exact Bool.false_ne_true) ?_
  refine wpAny_bind (set_iter x ho hb fun I fp vs St h1 d1 W st hk hfp hI=>?_)
  have hvl:vs.length=es.size:=by rw [W.perm.length_eq,List.length_map,Array.length_toList]
  have hLf:L ∉ fp:=fun hm=>(hfp L hm).elim hLS fun e=>by rw [hL] at e;cases e
  have hL1:=hk L _ hL
  have W1:=W.walk A.in1 hh
  have key:∀ (h:Heap) (c₁ tk:Nat),St 0 h→(∀ b o',b≠L→s.heap.get? b=some o'→h.get? b=some o') →
      h.get? L = some { cls := .type "list", data := .seq #[] c₁ } → codeAny (model prog w) A (.builtin "list.extend.loop" ⟨[.ref L, .ref I, res], []⟩) R { s with heap := h, toks := tk, drawn := d1 } := by
    intro h c₁ tk hst hk' hL₁
    refine codeAny_extend_loopS W1.toS hn L hLf res es.size 0 _ #[] c₁ rfl (Nat.zero_le _) hst hL₁ (ItemsOf.nil _) fun s' acc' c' hm hS' hacc=>?_
    rw [Moved.eq_with hm]
    refine hR s'.heap s'.toks d1 acc' c' (fun b o' hb e=>hm.heap b o' (fun hmem=>?_) (hk' b o' hb e)) hS' (by rw [items_eq hacc hvl];exact W.perm)
    rcases List.mem_cons.mp hmem with e' | hmem
    · exact hb e'
    · rw [List.mem_singleton.mp hmem,hI] at e;cases e
  refine wpAny_bind (wpAny_holding (set_hint ⟨o,hk S o ho,x.ex.1⟩ ?_))
  refine wpAny_ite_split (fun _=>?_) (fun _=>wpAny_pure ⟨plainId_quiet PySem.F.plain_extend_loop _,key _ c₀ _ st (fun b o' _ e=>hk b o' e) hL1⟩)
  refine wpAny_bind (wpAny_rule ?_)
  refine wpAny_bind ?_
  show wpAny _ _ (updateSeq L (·.push .none) >>= fun _=>updateSeq L (·.pop)) _ _ _
  refine wpAny_bind (wpAny_updateSeq hL1 rfl ?_)
  have hS₂:=Heap.get?_update_self (Obj.mapSeq (·.push Value.none)) hL1 rfl
  refine wpAny_updateSeq (hz:=by seq_fits) hS₂ rfl ?_
  have hS₃:=Heap.get?_update_self (Obj.mapSeq (·.pop)) hS₂ rfl
  refine wpAny_pure ⟨plainId_quiet PySem.F.plain_extend_loop _,key _ _ _ ?_ (fun b o' hb e=>?_) hS₃⟩
  · refine W1.frame 0 _ _ st fun b hb o' e=>?_
    have hbL:b≠L:=fun h=>hLf (h▸hb)
    exact (Heap.get?_update_other _ _ (Ne.symm hbL)).trans ((Heap.get?_update_other _ _ (Ne.symm hbL)).trans e)
  · exact (Heap.get?_update_other _ _ (Ne.symm hb)).trans ((Heap.get?_update_other _ _ (Ne.symm hb)).trans (hk b o' e))
theorem collect_set {S:Addr} {o:Obj} {ks:List Int} {es:Array (Int × Value)} {ep:Nat} {t:SetTable} {R:List Value→Shared→Prop} (x:SXo prog w (ledOf w) o ks es ep t) (ho:s.heap.get? S=some o) (hb:es.size<scanBound) (hh:A.handled=none)
    (h:∀ h' tk d vs,(∀ b o',s.heap.get? b=some o'→h'.get? b=some o')→vs.Perm (es.toList.map (·.2))→R vs { s with heap:=h',toks:=tk,drawn:=d }) :
    wpAny (model prog w) A (collect (.ref S)) R E s:=by
  unfold collect
  refine wpAny_bind (wpAny_runValue (codeAny_builtin entry_proto_collect' ?_))
  rw [Around.under_plainId PySem.F.plain_proto_collect _]
  show wpAny _ A.in1 (newList [] >>= fun l => again (.builtin "list.__iadd__" ⟨[l,.ref S],[]⟩)) _ _ s
  refine wpAny_bind (wpAny_newObj_type ?_)
  refine wpAny_pure ⟨plainId_quiet PySem.F.plain_list_iadd _,codeAny_builtin entry_list_iadd' ?_⟩
  rw [Around.under_plainId PySem.F.plain_list_iadd _]
  have hL₁ : (s.heap.push { cls := .type "list", data := .seq ([] : List Value).toArray }).get? s.heap.objs.size = some { cls := .type "list", data := .seq #[] } := Heap.get?_push_size _ rfl
  show wpAny _ A.in1 (Builtin.List.listExtendWith (.ref s.heap.objs.size) (.ref S) (.ref s.heap.objs.size)) _ _ _
  have key:=extend_set (A:=A) (s:={ s with heap:=s.heap.push { cls:=.type "list",data:=.seq ([]:List Value).toArray } })
    (R:=fun (q:Result) (s':Shared)=>∃ (h':Heap) (tk:Nat) (d:Drawn) (acc':Array Value) (c':Nat),q=.ok (.ret (.ref s.heap.objs.size))∧s' = { s with heap:=h',toks:=tk,drawn:=d } ∧
      (∀ b o',s.heap.get? b = some o' → h'.get? b = some o') ∧ h'.get? s.heap.objs.size = some { cls:=.type "list",dict:=none,data:=.seq acc' c',slots:=#[] } ∧ acc'.toList.Perm (es.toList.map (·.2)))
    x (Heap.get?_push_of_some _ ho) hb hh (Nat.ne_of_gt (Heap.lt_size ho)) (.ref s.heap.objs.size) 0 hL₁
    (fun h' tk d acc' c' hk hS' hacc=>⟨h',tk,d,acc',c',rfl,rfl,fun b o' e=>hk b o' (Nat.ne_of_lt (Heap.lt_size e)) (Heap.get?_push_of_some _ e),hS',hacc⟩)
  refine wpAny_mono key (fun fin s' x=>?_) fun e s' x=>?_
  · cases fin with
    | done f =>
      obtain ⟨h',tk,d,acc',c',e,rfl,hk,hS',hacc⟩:=x
      cases e
      show wpAny _ A (load s.heap.objs.size >>= _) _ _ _
      exact wpAny_bind (wpAny_load hS' (wpAny_pure (h h' tk d acc'.toList hk hacc)))
    | again c₁ =>
      refine ⟨x.1,codeAny_mono x.2 fun q s₂ y=>?_⟩
      obtain ⟨h',tk,d,acc',c',rfl,rfl,hk,hS',hacc⟩:=y
      show wpAny _ A (load s.heap.objs.size >>= _) _ _ _
      exact wpAny_bind (wpAny_load hS' (wpAny_pure (h h' tk d acc'.toList hk hacc)))
  · obtain ⟨_,_,_,_,_,e',_⟩:=x
    cases e'
end
end LY.Internal
end

section
open PySem PySem.W PySem.Calls PyProof.Rows PySem.SeqAt
namespace LY.Internal
variable {W:Wd} {f:Fm} {c c':Cf} {m:Lo} {h h':Heap} {H H':Hp} {s s':Shared} {A:Around} {E:Value→Shared→Prop} {n:Nat} {C:CallP}
  {ma mb md:ME} {ea eb ed:Expr} {pos np apos tpos:Pos}
theorem ints_kv:∀ {vs:List Value} {us:List Int},vs.map kv=us.map some→IntsAre vs us
  | [],[],_=>.nil
  | [],_::_,e=>nomatch e
  | _::_,[],e=>nomatch e
  | v::vs,u::us,e=>by
    have h:=(List.cons.inj e).1
    cases v with
    | int i t=>exact Option.some.inj h▸.cons _ _ (ints_kv (List.cons.inj e).2)
    | _=>exact nope' h
theorem some_list {α:Type}:∀ {l:List (Option α)} {ks:List α},l.Perm (ks.map some)→∃ us:List α,l=us.map some∧us.Perm ks:=by
  intro l ks h
  have:∀ (l:List (Option α)),(∀ x∈l,∃ y,x=some y)→l=(l.filterMap id).map some:=by
    intro l
    induction l with
    | nil=>intro _;rfl
    | cons x l ih =>
      intro hx
      obtain ⟨y,rfl⟩:=hx x (List.mem_cons_self ..)
      rw [show (some y::l).filterMap id=y::l.filterMap id from List.filterMap_cons_some (f:=id) (a:=some y) (b:=y) rfl,List.map_cons,← ih fun z hz=>hx z (List.mem_cons_of_mem _ hz)]
  refine ⟨l.filterMap id,this l fun x hx=>?_,?_⟩
  · obtain ⟨y,_,rfl⟩:=List.mem_map.mp (h.mem_iff.mp hx)
    exact ⟨y,rfl⟩
  · have:=h.filterMap id
    rw [List.filterMap_map] at this
    simpa using this
theorem sorted_set {S:Addr} {ks:List Int} {T:Value→Shared→Prop} (x:SX W.prog W.w (ledOf W.w) s.heap S ks) (hh:A.handled=none) (h64:ks.length<64)
    (q:∀ a h' tk d w out,(∀ b o,s.heap.get? b=some o→h'.get? b=some o)→s.heap.get? a=none→h'.IsList a out→IntsAre out.toList w→w.Perm ks→T (.ref a) { s with heap:=h',toks:=tk,drawn:=d }) :
    wpAny W.M A (call (.builtin "sorted") [.ref S]) T E s:=by
  obtain ⟨o,es,ep,t,ho,x⟩:=x
  have hlen:=x.len
  refine call_function_entry kind_sorted plain_sorted entry_sorted (args_sorted1 _) ?_
  unfold Builtin.«sorted»
  refine wpAny_bind (m:=checkCount "sorted" 1 1 _) (wpAny_pure ?_)
  refine wpAny_bind (collect_set (A:=A.in1) x ho (by rw [hlen];exact Nat.lt_trans h64 (by decide)) hh fun h' tk d vs hk hp=>?_)
  have hkv:(vs.map kv).Perm (ks.map some):=by
    refine (hp.map kv).trans ?_
    rw [List.map_map]
    exact x.kp
  obtain ⟨us,hus,hperm⟩:=some_list hkv
  have hI:=ints_kv hus
  have hl:vs.length<64:=by rw [IntsAre.length hI,hperm.length_eq];exact h64
  refine wpAny_bind (wpAny_newList ?_ (by rw [sizeLine_eq];omega))
  have hoL:(h'.push (seqObj "list" vs.toArray 0)).get? h'.objs.size = some (seqObj "list" vs.toArray 0):=Heap.get?_push_size _ rfl
  refine wpAny_bind (wpAny_holding (wpAny_call_entry slot_list_sort ⟨_,hoL,rfl⟩ entry_list_sort (list_sort_tree hoL hI hl fun out ns' a1 a2 a3=>⟨_,rfl,?_⟩) (args_list_sort _)))
  obtain ⟨e,he⟩:=sortedHeap_at (vs:=vs) (n:=0) (out:=out) hoL
  have hn:s.heap.get? h'.objs.size=none:=by
    cases e:s.heap.get? h'.objs.size with
    | none=>rfl
    | some o=>exact absurd (Heap.lt_size (hk _ _ e)) (Nat.lt_irrefl _)
  exact wpAny_pure ⟨_,rfl,q _ _ tk d ns' out (fun b o e=>sortedHeap_keep b o (hk b o e)) hn ⟨_,he,rfl,e,rfl⟩ a1 (a2.trans hperm)⟩
theorem ev_sortedSet (k : Wk W) (wn : Wn W) {np' pos' : Pos} (hx : f.env.kindOf "sorted" = some .globalImplicit) (hx' : f.env.kindOf "set" = some .globalImplicit) (hs : notStar ea = true) (ha : EvOk W n f (vcE C ma) ea) :
    EvOk W n f (vcE C (.sortedSet ma)) (.Call (.Name "sorted" np) [.Call (.Name "set" np') [ea] [] pos'] [] pos):=by
  intro A E m c H s Q hr ok F p
  refine callB k wn ok F hx (bm 3 rfl) (Or.inl ⟨_,rfl⟩) rfl ?_
  refine callB k wn ok F hx' (bm 4 rfl) (Or.inr ⟨_,rfl⟩) hs (ev1 ha hr ok F p fun c1 H1 s1 v V st ok1 F1 r q=>?_)
  obtain ⟨l,u,rfl,hl4,hu,q⟩:=q
  obtain ⟨a,items,rfl,sq,hz,rl⟩:=r.lst
  have hI:=ints_are hu rl
  have hul:=intsOf_len hu
  have hil:=IntsAre.length hI
  rw [Array.length_toList] at hil
  refine call_sx hr.handled sq.isList hI (by unfold scanBound;omega) fun s2 made=>?_
  obtain ⟨h2,tk2,ks,rfl,x2,hmem,hk2⟩:=made
  have hnd:ks.Nodup:=(by obtain ⟨_,_,_,_,_,y⟩:=x2;exact y.nd)
  have h64:=(q ks hnd hmem).1
  refine sorted_set (s:={ s1 with heap:=h2,toks:=tk2 }) x2 hr.handled h64 fun b h3 tk3 d w out hk3 hn3 hlst hIw hpw=>?_
  have hk:∀ b o,s1.heap.get? b=some o→h3.get? b=some o:=fun b o e=>hk3 b o (hk2 b o e)
  have hn1:s1.heap.get? b=none:=by
    cases e:s1.heap.get? b with
    | none=>rfl
    | some o=>have:=hk2 b o e;rw [hn3] at this;cases this
  have ho1:=IntsAre.length hIw
  rw [Array.length_toList] at ho1
  have hpl:=hpw.length_eq
  have q2:=(q w (hpw.symm.nodup hnd) (fun i=>by rw [hpw.mem_iff];exact hmem i)).2
  refine PostV.after st ok1 ⟨c1,H1,.lst (w.map .int),Step.ofKeep hk rfl rfl,ok1.keepAll hk,?_,q2⟩
  show ∃ b out,_
  exact ⟨b,out,rfl,⟨ok1.free_size hn1,hlst⟩,by rw [sizeLine_eq];omega,reps_ints hIw⟩
end LY.Internal
end

section
open PySem PySem.W PySem.Calls PyProof.Rows PySem.SeqAt
namespace LY.Internal
variable {W:Wd} {f g:Fm} {c c':Cf} {m:Lo} {h h':Heap} {H H':Hp} {s s':Shared} {A:Around} {E:Value→Shared→Prop} {n:Nat} {C:CallP}
  {ma mb md:ME} {ea eb ed:Expr} {pos np apos tpos:Pos} {addr:Fn→Addr}
structure Sit (g:Fm) (ns:List (Option Str)) (sc:List (Str × NameKind)):Prop where
  D:∀ j,g.D j=(ns[j]?).join
  kd:∀ y,g.env.kindOf y=sc.lookup y
  fn:g.env.scope.kind=.function
structure Al (W:Wd) (addr:Fn→Addr) (n:Nat) (C:CallP):Prop where
  k:Wk W
  wn:Wn W
  wc:Wc W
  wp:Wp W addr
  mono:MonoC C
  call:CallOk W n C (codeOf addr)
theorem and1 {a b:Bool} (h:(a && b)=true):a=true:=(Bool.and_eq_true_iff.mp h).1
theorem and2 {a b:Bool} (h:(a && b)=true):b=true:=(Bool.and_eq_true_iff.mp h).2
theorem not_t {a:Bool} (h:(!a)=true):a=false:=(Bool.not_eq_true' a).mp h
variable {ns:List (Option Str)} {sc:List (Str × NameKind)}
noncomputable def gl (sc:List (Str × NameKind)) (x:Str):Bool:=sc.lookup x == some .globalImplicit
theorem Sit.gl (S:Sit g ns sc) {x:Str} (h:gl sc x=true):g.env.kindOf x=some .globalImplicit:=(S.kd x).trans (beq_iff_eq.mp h)
theorem Sit.own (S:Sit g ns sc) {i:Nat} {x:Str} (h:(ns[i]?).join=some x) (h':(sc.lookup x == some .free)=false):Own g i x :=
  ⟨(S.D i).trans h,fun q=>by rw [S.kd,← beq_iff_eq,h'] at q;cases q⟩
theorem w_var (S:Sit g ns sc) {i:Nat} {x:Str} (h:(ns[i]?).join=some x):EvOk W n g (vcE C (.var i)) (.Name x pos):=ev_var ((S.D i).trans h)
theorem w_end (al : Al W addr n C) (S : Sit g ns sc) (h : gl sc "END" = true) : EvOk W n g (vcE C .gEnd) (.Name "END" pos) := ev_gEnd al.k al.wn (S.gl h)
theorem w_close (al : Al W addr n C) (S : Sit g ns sc) (h : gl sc "CLOSE" = true) : EvOk W n g (vcE C .gClose) (.Name "CLOSE" pos) := ev_gClose al.k al.wn (S.gl h)
theorem w_len (al : Al W addr n C) (S : Sit g ns sc) (h : gl sc "len" = true) (hs : notStar ea = true) (ha : EvOk W n g (vcE C ma) ea) : EvOk W n g (vcE C (.len ma)) (.Call (.Name "len" np) [ea] [] pos) := ev_len al.k al.wn (S.gl h) hs ha
theorem w_list (al : Al W addr n C) (S : Sit g ns sc) (h : gl sc "list" = true) (hs : notStar ea = true) (ha : EvOk W n g (vcE C ma) ea) : EvOk W n g (vcE C (.list ma)) (.Call (.Name "list" np) [ea] [] pos) := ev_list al.k al.wn (S.gl h) hs ha
theorem w_listRev (al:Al W addr n C) (S:Sit g ns sc) {np' pos':Pos} (h:(gl sc "list" && gl sc "reversed") = true) (hs:notStar ea = true) (ha:EvOk W n g (vcE C ma) ea) :
    EvOk W n g (vcE C (.listRev ma)) (.Call (.Name "list" np) [.Call (.Name "reversed" np') [ea] [] pos'] [] pos):=ev_listRev al.k al.wn (S.gl (and1 h)) (S.gl (and2 h)) hs ha
theorem w_dict (al : Al W addr n C) (S : Sit g ns sc) (h : gl sc "dict" = true) (hs : notStar ea = true) (ha : EvOk W n g (vcE C ma) ea) : EvOk W n g (vcE C (.dict ma)) (.Call (.Name "dict" np) [ea] [] pos) := ev_dict al.k al.wn (S.gl h) hs ha
theorem w_sum (al : Al W addr n C) (S : Sit g ns sc) (h : gl sc "sum" = true) (hs : notStar ea = true) (ha : EvOk W n g (vcE C ma) ea) : EvOk W n g (vcE C (.sum ma)) (.Call (.Name "sum" np) [ea] [] pos) := ev_sum al.k al.wn (S.gl h) hs ha
theorem w_max (al:Al W addr n C) (S:Sit g ns sc) (h:gl sc "max" = true) (hs:notStar ea = true) (hs2:notStar eb = true) (ha:EvOk W n g (vcE C ma) ea) (hb:EvOk W n g (vcE C mb) eb) :
    EvOk W n g (vcE C (.max ma mb)) (.Call (.Name "max" np) [ea,eb] [] pos):=ev_max al.k al.wn (S.gl h) hs hs2 ha hb
theorem w_strOf (al : Al W addr n C) (S : Sit g ns sc) (h : gl sc "str" = true) (hs : notStar ea = true) (ha : EvOk W n g (vcE C ma) ea) : EvOk W n g (vcE C (.strOf ma)) (.Call (.Name "str" np) [ea] [] pos) := ev_strOf al.k al.wn (S.gl h) hs ha
theorem w_tuple (al : Al W addr n C) (S : Sit g ns sc) (h : gl sc "tuple" = true) (hs : notStar ea = true) (ha : EvOk W n g (vcE C ma) ea) : EvOk W n g (vcE C (.tuple ma)) (.Call (.Name "tuple" np) [ea] [] pos) := ev_tuple al.k al.wn (S.gl h) hs ha
theorem w_isInt (al:Al W addr n C) (S:Sit g ns sc) {p':Pos} (h:(gl sc "isinstance" && gl sc "int") = true) (hs:notStar ea = true) (ha:EvOk W n g (vcE C ma) ea) :
    EvOk W n g (vcE C (.isInt ma)) (.Call (.Name "isinstance" np) [ea, .Name "int" p'] [] pos) := ev_isInt al.k al.wn (S.gl (and1 h)) (S.gl (and2 h)) hs ha
theorem w_sorted (al : Al W addr n C) (S : Sit g ns sc) (h : gl sc "sorted" = true) (hs : notStar ea = true) (ha : EvOk W n g (vcE C ma) ea) : EvOk W n g (vcE C (.sorted ma)) (.Call (.Name "sorted" np) [ea] [] pos) := ev_sorted al.k al.wn (S.gl h) hs ha
theorem w_sortedSet (al:Al W addr n C) (S:Sit g ns sc) {np' pos':Pos} (h:(gl sc "sorted" && gl sc "set") = true) (hs:notStar ea = true) (ha:EvOk W n g (vcE C ma) ea) :
    EvOk W n g (vcE C (.sortedSet ma)) (.Call (.Name "sorted" np) [.Call (.Name "set" np') [ea] [] pos'] [] pos):=ev_sortedSet al.k al.wn (S.gl (and1 h)) (S.gl (and2 h)) hs ha
theorem w_attr (al:Al W addr n C) {fl x:Str} {p':Pos} (hfl:fldNames.contains fl=true) (ha:EvOk W n g (vcE C ma) (.Name x p')):EvOk W n g (vcE C (.attr ma fl)) (.Attribute (.Name x p') fl pos):=ev_attr al.k al.wc (List.contains_iff_mem.mp hfl) ha
theorem w_lstD (al:Al W addr n C) {l:MEs} {es:List Expr} (hz:es.length≤100) (hl:EvsOk W n g (vcEs C l) es):EvOk W n g (vcE C (.lstD l)) (.List es pos):=ev_lstD al.k hz hl
theorem w_dS (al:Al W addr n C):EvOk W n g (vcE C .dS) (.Dict [] [] pos):=ev_dS al.k
theorem w_dI (al:Al W addr n C):EvOk W n g (vcE C .dI) (.Dict [] [] pos):=ev_dI al.k
theorem w_d1 (al:Al W addr n C) (ha:EvOk W n g (vcE C ma) ea) (hb:EvOk W n g (vcE C mb) eb):EvOk W n g (vcE C (.d1 ma mb)) (.Dict [some ea] [eb] pos):=ev_d1 al.k ha hb
theorem w_extendRev (al:Al W addr n C) (S:Sit g ns sc) {np' pos':Pos} (h:gl sc "reversed" = true) (hbs:baseOk ea = true) (hline:(apos.endLine == pos.line) = true) (hs:notStar eb = true) (ha:EvOk W n g (vcE C ma) ea) (hb:EvOk W n g (vcE C mb) eb) :
    EvOk W n g (vcE C (.extendRev ma mb)) (.Call (.Attribute ea "extend" apos) [.Call (.Name "reversed" np') [eb] [] pos'] [] pos):=ev_extendRev hbs hline al.k al.wn (S.gl h) hs ha hb
noncomputable def headPlain:List Expr→Bool
  | []=>false
  | e::_=>notStar e
noncomputable def callHere (sc:List (Str × NameKind)) (fn:Fn):Bool:=(isGlob fn && gl sc (gname fn)) && !(gname fn == ("__debug__":Str))
theorem w_call (al:Al W addr n C) (S:Sit g ns sc) {fn:Fn} {ml:MEs}:∀ {es:List Expr},callHere sc fn=true→headPlain es=true→EvsOk W n g (vcEs C ml) es→EvOk W n g (vcE C (.call fn ml)) (.Call (.Name (gname fn) np) es [] pos)
  | [],_,hs,_=>nomatch hs
  | _::_,h,hs,hl=>ev_call al.k al.wp al.call (and1 (and1 h)) (S.gl (and2 (and1 h))) hs hl (not_t (and2 h))
theorem w_meth (al:Al W addr n C) {fn:Fn} {ml:MEs} (hbs:baseOk eb=true) (hline:(apos.endLine == pos.line)=true) (ho:EvOk W n g (vcE C ma) eb):∀ {es:List Expr},headPlain es=true→plainAll es=true→es.length.ble 29=true →
    EvsOk W n g (vcEs C ml) es→EvOk W n g (vcE C (.meth fn ma ml)) (.Call (.Attribute eb (methName fn) apos) es [] pos)
  | [],h,_,_,_=>nomatch h
  | _::_,_,hpl,hlen,hl=>ev_meth al.k al.wc al.wp al.call hbs hline hpl (Nat.lt_succ_of_le (Nat.le_of_ble_eq_true hlen)) ho hl
noncomputable def newHere (sc:List (Str × NameKind)) (cl:Cl):Bool:=gl sc (cname cl) && !(cname cl == ("__debug__":Str))
theorem w_new (al:Al W addr n C) (S:Sit g ns sc) {cl:Cl} {ml:MEs}:∀ {es:List Expr},newHere sc cl=true→headPlain es=true→plainAll es=true→EvsOk W n g (vcEs C ml) es→EvOk W n g (vcE C (.new cl ml)) (.Call (.Name (cname cl) np) es [] pos)
  | [],_,h,_,_=>nomatch h
  | _::_,h,_,hpl,hl=>ev_new al.k al.wp al.call (S.gl (and1 h)) hpl hl (not_t (and2 h))
noncomputable def compNs (ns:List (Option Str)) (i:Nat) (x:Str) (names:List (Str × NameKind)):List (Option Str) :=
  (List.range (max ns.length (i+1))).map fun j=>if j=i then some x else match (ns[j]?).join with
    | some y=>if names.lookup y=some .free then some y else none
    | none=>none
noncomputable def compSc (sc names:List (Str × NameKind)):List (Str × NameKind):=names.map fun (n,k)=>if (k == .free && sc.lookup n == some .cell) then (n,.cell) else (n,k)
theorem Sit.comp (S:Sit g ns sc) {i:Nat} {x:Str} {scope:Scope} {cl:List (Str × Addr)} {Cn:Addr} (hk:scope.kind=.function):Sit (compFm g i x scope cl Cn) (compNs ns i x scope.names) (compSc sc scope.names) where
  D j:=by
    show compD g i x scope j=_
    unfold compD compNs
    rw [List.getElem?_map]
    by_cases hj:j<max ns.length (i+1)
    · rw [List.getElem?_range hj]
      rw [S.D j];rfl
    · rw [List.getElem?_eq_none (by simpa using hj)]
      have h1:j≠i:=by omega
      have h2:ns[j]? = none:=List.getElem?_eq_none (by omega)
      rw [if_neg h1,S.D j,h2];rfl
  kd y:=by
    show (relabel scope g.env).names.lookup y=_
    unfold relabel compSc
    have hf:(fun (x:Str × NameKind)=>(match x with | (n,k)=>if (k == .free && g.env.scope.kind == .function && g.env.kindOf n == some .cell) then (n,NameKind.cell) else (n,k):Str × NameKind)) =
        (fun (x:Str × NameKind)=>match x with | (n,k)=>if (k == .free && sc.lookup n == some .cell) then (n,NameKind.cell) else (n,k)):=by
      funext x
      obtain ⟨n,k⟩:=x
      show (if (k == NameKind.free && g.env.scope.kind == .function && g.env.kindOf n == some .cell)=true then _ else _)=_
      rw [S.fn,S.kd n,beq_self_eq_true,Bool.and_true]
    show List.lookup y (scope.names.map _)=List.lookup y (scope.names.map _)
    exact congrArg (fun q=>List.lookup y (scope.names.map q)) hf
  fn:=hk
noncomputable def compOk (ns:List (Option Str)) (sc:List (Str × NameKind)) (x:Str) (names:List (Str × NameKind)):Bool :=
  names.all (fun y => y.2 != .cell) && names.all (fun y => y.2 != .local || names.lookup y.1 == some .local) && names.lookup x == some .local && !(x == ("__debug__" : Str)) && !(x == ("__classdict__" : Str)) &&
  names.all (fun y=>y.2 != .free || (ns.any (fun z=>z == some y.1) && sc.lookup y.1 != some .local))
theorem Sit.compS (S:Sit g ns sc) {i:Nat} {x:Str} {scope:Scope} (hk:scope.kind=.function) (h:compOk ns sc x scope.names=true):CompS g i x scope:=by
  have h6:=and2 h
  have h5:=and2 (and1 h)
  have h4:=and2 (and1 (and1 h))
  have h3:=and2 (and1 (and1 (and1 h)))
  have h2:=and2 (and1 (and1 (and1 (and1 h))))
  have h1:=and1 (and1 (and1 (and1 (and1 h))))
  refine ⟨hk,fun y hy=>bne_iff_ne.mp (List.all_eq_true.mp h1 y hy),fun y hy hl=>?_,eq_of_beq h3,⟨not_t h4,not_t h5⟩,fun y hy hl=>?_⟩
  · have:=List.all_eq_true.mp h2 y hy
    rw [hl] at this
    exact eq_of_beq this
  · have:=List.all_eq_true.mp h6 y hy
    rw [hl] at this
    obtain ⟨z,hz,q⟩:=List.any_eq_true.mp (and1 this)
    obtain rfl:=eq_of_beq q
    obtain ⟨j,hj,e⟩:=List.mem_iff_getElem.mp hz
    exact ⟨j,by rw [S.D j,List.getElem?_eq_getElem hj,e];rfl,by rw [S.kd];exact bne_iff_ne.mp (and2 this)⟩
theorem w_comp (S:Sit g ns sc) {elt iter:Expr} {x:Str} {px:Pos} {ifs:List Expr} {scope:Scope} {i:Nat} {msrc mc me:ME} (hk:scope.kind=.function) (h:compOk ns sc x scope.names=true) (hns:notSet iter=true) (hsrc:EvOk W n g (vcE C msrc) iter)
    (htest:∀ g',Sit g' (compNs ns i x scope.names) (compSc sc scope.names)→TestsOk W n g' (vcE C mc) ifs) (helt:∀ g',Sit g' (compNs ns i x scope.names) (compSc sc scope.names)→EvOk W n g' (vcE C me) elt) :
    EvOk W n g (vcE C (.comp me i msrc mc)) (.ListComp elt [⟨.Name x px,iter,ifs,0⟩] scope pos) :=
  ev_comp (S.compS hk h) hns hsrc (fun cl Cn=>htest _ (S.comp hk)) (fun cl Cn=>helt _ (S.comp hk))
theorem w_compIn (S:Sit g ns sc) {x y z:Str} {px pz pe p1 p2 p3:Pos} {scope:Scope} {i j:Nat} (hk:scope.kind=.function) (h:compOk ns sc x scope.names=true) (hi:(ns[i]?).join=some z) (hj:(ns[j]?).join=some y)
    (hy : (scope.names.lookup y == some .free && !(y == ("__debug__" : Str)) && !(y == ("__classdict__" : Str))) = true) :
    EvOk W n g (vcE C (.compIn i j)) (.ListComp (.Name x pe) [⟨.Name x px,.Name z pz,[.Compare (.Name x p1) [.In] [.Name y p2] p3],0⟩] scope pos):=by
  simp only [Bool.and_eq_true,Bool.not_eq_true',beq_iff_eq] at hy
  exact ev_compIn (t:=ns.length) (S.compS hk h) ((S.D i).trans hi) ((S.D j).trans hj) hy.1.1 ⟨hy.1.2,hy.2⟩
noncomputable def ownHere (ns:List (Option Str)) (sc:List (Str × NameKind)) (i:Nat) (x:Str):Bool:=(ns[i]?).join == some x && !(sc.lookup x == some .free)
theorem Sit.ownB (S:Sit g ns sc) {i:Nat} {x:Str} (h:ownHere ns sc i x=true):Own g i x:=by
  delta ownHere at h;simp only [Bool.and_eq_true,Bool.not_eq_true',beq_iff_eq] at h
  exact S.own h.1 h.2
theorem x_assign (S:Sit g ns sc) {i:Nat} {x:Str} (h:ownHere ns sc i x=true) (hc:notComp ea=true) (ha:EvOk W n g (vcE C ma) ea):ExOk W n g (vcS C (.assign i ma)) (.Assign [.Name x np] ea pos):=ex_assign (S.ownB h) hc ha
theorem x_assignComp (S:Sit g ns sc) {elt iter:Expr} {x y:Str} {px py:Pos} {ifs:List Expr} {scope:Scope} {i j:Nat} {msrc mc me:ME} {spos:Pos} (ho:ownHere ns sc j y=true) (hk:scope.kind=.function) (h:compOk ns sc x scope.names=true) (hns:notSet iter=true)
    (hsw:(sc.lookup y == some .local && py.line == pos.line && !(scope.names.any fun (n,k)=>n == y && (k == .local || k == .cell)))=true) (hsrc:EvOk W n g (vcE C msrc) iter)
    (htest:∀ g',Sit g' (compNs ns i x scope.names) (compSc sc scope.names)→TestsOk W n g' (vcE C mc) ifs) (helt:∀ g',Sit g' (compNs ns i x scope.names) (compSc sc scope.names)→EvOk W n g' (vcE C me) elt) :
    ExOk W n g (vcS C (.assignComp j (.comp me i msrc mc))) (.Assign [.Name y py] (.ListComp elt [⟨.Name x px,iter,ifs,0⟩] scope pos) spos):=by
  rw [Bool.and_eq_true,Bool.and_eq_true,Bool.not_eq_true',beq_iff_eq] at hsw
  exact ex_assignComp (S.ownB ho) (S.compS hk h) hns ⟨(S.kd y).trans hsw.1.1,hsw.1.2,hsw.2⟩ hsrc (fun cl Cn=>htest _ (S.comp hk)) (fun cl Cn=>helt _ (S.comp hk))
theorem x_setAttr (al:Al W addr n C) {fl:Str} (hfl:fldNames.contains fl=true) (hc:notComp ea=true) (ha:EvOk W n g (vcE C ma) ea) (hb:EvOk W n g (vcE C mb) eb) :
    ExOk W n g (vcS C (.setAttr mb fl ma)) (.Assign [.Attribute eb fl apos] ea pos):=ex_setAttr al.k al.wc (List.contains_iff_mem.mp hfl) hc ha hb
theorem x_augVar (S:Sit g ns sc) {i:Nat} {x:Str} (h:ownHere ns sc i x=true) (ha:EvOk W n g (vcE C ma) ea):ExOk W n g (vcS C (.augVar i ma)) (.AugAssign (.Name x np) .Sub ea pos):=ex_augVar (S.ownB h) ha
theorem x_augList (S:Sit g ns sc) {i:Nat} {x:Str} (h:ownHere ns sc i x=true) (ha:EvOk W n g (vcE C ma) ea):ExOk W n g (vcS C (.augList i ma)) (.AugAssign (.Name x np) .Add ea pos):=ex_augList (S.ownB h) ha
theorem x_unpack (S:Sit g ns sc) {i j:Nat} {x y:Str} {p q r:Pos} {k:Nat} (h1:ownHere ns sc i x=true) (h2:ownHere ns sc j y=true) (hc:notComp ea=true) (ht:notTup ea=true) (ha:EvOk W n g (vcE C ma) ea) :
    ExOk W n g (vcS C (.unpack i j ma)) (.Assign [.Tuple [.Name x p,.Name y q] k r] ea pos):=ex_unpack (S.ownB h1) (S.ownB h2) hc ht ha
theorem x_for (al:Al W addr n C) {t:MT} {tg iter:Expr} {tb:List Stmt} {lb:MSs} (hns:notSet iter=true) (ht:TgOk g t tg) (ha:EvOk W n g (vcE C ma) iter) (hb:ExsOk W n g (vcSs C lb) tb) :
    ExOk W n g (vcS C (.for t ma lb)) (.For tg iter tb [] pos):=ex_for hns (vcSs_mono al.mono lb) ht ha hb
theorem x_forRev (al:Al W addr n C) (S:Sit g ns sc) {t:MT} {tg:Expr} {tb:List Stmt} {lb:MSs} (h:gl sc "reversed" = true) (hs:notStar ea = true) (ht:TgOk g t tg) (ha:EvOk W n g (vcE C ma) ea) (hb:ExsOk W n g (vcSs C lb) tb) :
    ExOk W n g (vcS C (.forRev t ma lb)) (.For tg (.Call (.Name "reversed" np) [ea] [] apos) tb [] pos):=ex_forRev al.k al.wn (S.gl h) hs ht ha hb
theorem x_forRange (al:Al W addr n C) (S:Sit g ns sc) {t:MT} {tg:Expr} {tb:List Stmt} {lb:MSs} (h:gl sc "range" = true) (hs:notStar ea = true) (ht:TgOk g t tg) (ha:EvOk W n g (vcE C ma) ea) (hb:ExsOk W n g (vcSs C lb) tb) :
    ExOk W n g (vcS C (.forRange t ma lb)) (.For tg (.Call (.Name "range" np) [ea] [] apos) tb [] pos):=ex_forRange al.k al.wn (S.gl h) hs ht ha hb
theorem x_merge (S:Sit g ns sc) {i sr tg:Nat} {x xs xt:Str} {p1 p2 p3 p4 p5 p6 p7:Pos} {sfx:Nat} (h:ownHere ns sc i x=true) (hs:(ns[sr]?).join=some xs) (ht:(ns[tg]?).join=some xt) :
    ExOk W n g (vcS C (.merge i sr tg)) (.For (.Name x p1) (.Name xs p2) [.Assign [.Subscript (.Name xt p3) (.Name x p4) p5] (.Constant (.bool true) sfx p6) p7] [] pos):=ex_merge (S.ownB h) ((S.D sr).trans hs) ((S.D tg).trans ht)
theorem x_raise {st:Stmt}:ExOk W n g (vcS C .raise) st:=by
  intro A E m c H s Q hr ok F p
  exact p.elim
theorem g_one (S:Sit g ns sc) {i:Nat} {x:Str} {p:Pos} (h:ownHere ns sc i x=true):TgOk g (.one i) (.Name x p):=.one (S.ownB h)
theorem g_two (S:Sit g ns sc) {i j:Nat} {x y:Str} {p q r:Pos} {k:Nat} (h:(ownHere ns sc i x && ownHere ns sc j y)=true):TgOk g (.two i j) (.Tuple [.Name x p,.Name y q] k r) :=
  .two (S.ownB (and1 h)) (S.ownB (and2 h))
theorem fn_sit {fd:FuncData} {a L:Addr} {names:List Str} (hk:fd.scope.kind=.function):Sit (fnFm fd a L names) (names.map some) fd.scope.names where
  D j:=by
    show names[j]? = _
    rw [List.getElem?_map]
    cases names[j]? <;> rfl
  kd y:=rfl
  fn:=hk
end LY.Internal
end

section
open PySem PySem.W PySem.Calls PyProof.Rows PySem.SeqAt
namespace LY.Internal
theorem zip_lookup_some:∀ {xs:List Str} {vals:List Value} {n:Str},vals.length=xs.length→n∈xs→((xs.zip vals).lookup n).isSome=true
  | [],_,_,_,h=>by cases h
  | x::xs,[],_,e,_=>by simp at e
  | x::xs,v::vals,n,e,h=>by
    exact lookup_isSome ((List.mem_cons.mp h).imp id fun h=>zip_lookup_some (Nat.succ.inj e) h)
theorem zip_filterMap:∀ {xs:List Str} {vals:List Value} (l:List (Str × Value)),xs.Nodup→vals.length=xs.length→(∀ x∈xs,l.lookup x=(xs.zip vals).lookup x)→xs.filterMap (fun n=>(l.lookup n).map (n,·))=xs.zip vals
  | [],_,_,_,_,_=>rfl
  | x::xs,[],_,_,e,_=>by simp at e
  | x::xs,v::vals,l,hn,e,h=>by
    rw [List.nodup_cons] at hn
    have h0:=h x (List.mem_cons_self ..)
    rw [List.zip_cons_cons,List.lookup_cons,beq_self_eq_true] at h0
    rw [List.filterMap_cons,h0,List.zip_cons_cons]
    show (x,v)::_=_
    rw [zip_filterMap l hn.2 (by simpa using e) fun y hy=>?_]
    rw [h y (List.mem_cons_of_mem _ hy),List.zip_cons_cons,List.lookup_cons]
    have:(y == x)=false:=by
      rw [beq_eq_false_iff_ne];rintro rfl;exact hn.1 hy
    rw [this]
theorem forIn_stay {α β:Type} {l:List α} {f:α→β→Sem (ForInStep β)} (c:β) (h:∀ x∈l,f x c=pure (.yield c)):forIn l c f=pure c:=by
  induction l with
  | nil=>rfl
  | cons x l ih =>
    rw [List.forIn_cons,h x List.mem_cons_self,pure_bind]
    exact ih fun y hy=>h y (List.mem_cons_of_mem _ hy)
theorem bind_gen {s:Shared} {fd:FuncData} {xs:List Str} {vals:List Value} {oi} (h0:fd.params.posonlyargs=[]) (h1:fd.params.kwonlyargs=[]) (h2:fd.params.vararg=none) (h3:fd.params.kwarg=none)
    (hS:∀ {M:Model} {A:Around} {E:Value→Shared→Prop} {R},R oi s→wpAny M A (seqItems? fd.defaults) R E s) (hx:fd.params.args.map (·.arg)=xs) (hn:xs.Nodup) (hl:vals.length=xs.length):BindsTo s fd ⟨vals,[]⟩ (xs.zip vals):=by
  intro M A E Q hq
  have e1:xs.filterMap (fun n=>((xs.zip vals).lookup n).map (n,·))=xs.zip vals:=zip_filterMap _ hn hl fun _ _=>rfl
  have e2:∀ k,((xs.take k).filter fun n=>((xs.zip vals).lookup n).isNone)=[]:=fun k =>
    List.filter_eq_nil_iff.mpr fun n hm q=>by
      have:=zip_lookup_some hl (List.mem_of_mem_take hm)
      rw [Option.isNone_iff_eq_none.mp q] at this
      cases this
  have e3:∀ x∈xs,((xs.zip vals).lookup x).isNone=false:=fun x hm=>by
    obtain ⟨v,hv⟩:=Option.isSome_iff_exists.mp (zip_lookup_some hl hm)
    rw [hv];rfl
  unfold bindArgs
  generalize fd.params=ps at *
  generalize fd.defaults=dv at *
  obtain ⟨_,args,_,_,_,_,_⟩:=ps
  dsimp only at h0 h1 h2 h3 hx
  subst h0 h1 h2 h3 hx
  refine wpAny_bind (wpAny_pure ?_)
  show wpAny _ _ (seqItems? dv >>= _) _ _ _
  refine wpAny_bind (hS ?_)
  refine w_no (fun h=>absurd (Bool.and_eq_true_iff.mp h).1 (by rw [decide_eq_true_iff];exact Nat.not_lt.mpr (Nat.le_of_eq hl))) ?_
  refine w_no (fun h=>?_) ?_
  · have h:(!((List.take _ (args.map (·.arg))).filter fun n=>(((args.map (·.arg)).zip vals).lookup n).isNone).isEmpty)=true:=h
    rw [e2] at h;cases h
  refine wpAny_bind (wpAny_of_eq (forIn_stay _ fun x hx'=>?_) ?_)
  · exact if_neg (fun h=>Bool.false_ne_true ((e3 _ (List.mem_of_mem_drop (List.of_mem_zip (a:=x.1) (b:=x.2) hx').1)).symm.trans h))
  refine wpAny_bind (wpAny_pure (w_no Bool.false_ne_true (wpAny_pure ?_)))
  show Q ((List.map (fun x:Arg=>x.arg) args++[]).filterMap fun n=>(((List.map (fun x:Arg=>x.arg) args).zip vals).lookup n).map (n,·)) s
  rw [List.append_nil,e1];exact hq
theorem bind_plain {s:Shared} {fd:FuncData} {xs:List Str} {vals:List Value} (h0:fd.params.posonlyargs=[]) (h1:fd.params.kwonlyargs=[]) (h2:fd.params.vararg=none) (h3:fd.params.kwarg=none) (hd:fd.defaults=.none)
    (hx:fd.params.args.map (·.arg)=xs) (hn:xs.Nodup) (hl:vals.length=xs.length):BindsTo s fd ⟨vals,[]⟩ (xs.zip vals) :=
  bind_gen h0 h1 h2 h3 (by rw [hd];exact fun q=>wpAny_pure q) hx hn hl
theorem bind_dflt {s:Shared} {fd:FuncData} {xs:List Str} {vals:List Value} {T:Addr} {o:Obj} {items:Array Value} {n:Nat} (h0:fd.params.posonlyargs=[]) (h1:fd.params.kwonlyargs=[]) (h2:fd.params.vararg=none) (h3:fd.params.kwarg=none) (hd:fd.defaults=.ref T)
    (ho:s.heap.get? T=some o) (hs:o.data=.seq items n) (hx:fd.params.args.map (·.arg)=xs) (hn:xs.Nodup) (hl:vals.length=xs.length):BindsTo s fd ⟨vals,[]⟩ (xs.zip vals) :=
  bind_gen h0 h1 h2 h3 (by rw [hd];exact fun q=>wpAny_seqItems ho hs q) hx hn hl
end LY.Internal
end

section
open PySem PySem.W PySem.Calls PyProof.Rows PySem.SeqAt
set_option genInjectivity false
namespace LY.Internal
variable {W:Wd} {g:Fm} {n:Nat} {C:CallP} {addr:Fn→Addr} {ma mb md:ME} {ea eb:Expr} {pos:Pos} {ns:List (Option Str)} {sc:List (Str × NameKind)}
noncomputable def eInfo:Expr→List Expr × Nat × Str × Scope
  | .BoolOp _ l _ => (l,0,"",default)
  | .BinOp a _ b _ => ([a,b],0,"",default)
  | .UnaryOp _ a _ => ([a],0,"",default)
  | .IfExp a b d _ => ([a,b,d],0,"",default)
  | .Dict ks vs _ => (ks.filterMap id ++ vs,0,"",default)
  | .ListComp e gs s _ => (e :: gs.flatMap fun g => g.target :: g.iter :: g.ifs,0,"",s)
  | .Compare a _ l _ => (a :: l,0,"",default)
  | .Call f l _ _ => (f :: l,0,"",default)
  | .Constant _ k _ => ([],k,"",default)
  | .Attribute a _ _ => ([a],0,"",default)
  | .Subscript a b _ => ([a,b],0,"",default)
  | .Name x _=>([],0,x,default)
  | .List l _ => (l,0,"",default)
  | .Tuple l k _ => (l,k,"",default)
  | .Slice a b _ _ => (a.toList ++ b.toList,0,"",default)
  | _ => ([],0,"",default)
noncomputable def ekids (e:Expr):List Expr:=(eInfo e).1
noncomputable def kn (e:Expr):Nat:=(eInfo e).2.1
noncomputable def idOf (e:Expr):Str:=(eInfo e).2.2.1
noncomputable def scpOf (e:Expr):Scope:=(eInfo e).2.2.2
noncomputable def kd (e:Expr) (i:Nat):Expr:=(ekids e).getD i default
noncomputable def nmE (e:Expr):Expr:=.Name (idOf e) e.pos
set_option genCtorIdx false
inductive Vw | o | t | v (i:Nat) | a (x y:ME) | r (x y:ME) | c (elt:ME) (i:Nat) (src co:ME)
noncomputable def vw:ME→Vw
  | .bool b=>cond b .t .o
  | .var i=>.v i
  | .and x y=>.a x y
  | .or x y=>.r x y
  | .comp x i y z=>.c x i y z
  | _=>.o
noncomputable def unvw (m:ME):Vw→ME
  | .o=>m
  | .t=>.bool true
  | .v i=>.var i
  | .a x y=>.and x y
  | .r x y=>.or x y
  | .c x i y z=>.comp x i y z
theorem vw_eq (m:ME):unvw m (vw m)=m:=by
  cases m
  case bool b=>cases b <;> rfl
  all_goals rfl
noncomputable def isT (m:ME):Bool:=match vw m with | .t=>true | _=>false
theorem isT_eq {m:ME} (h:isT m=true):m=.bool true:=by
  have q:=vw_eq m
  unfold isT at h
  cases e:vw m <;> rw [e] at h q <;> first | exact q.symm | exact absurd h Bool.false_ne_true
noncomputable def varAt (k:Nat→Bool) (m:ME):Bool:=match vw m with | .v i=>k i | _=>false
theorem varAt_eq {k:Nat→Bool} {m:ME} (h:varAt k m=true):∃ i,m=.var i∧k i=true:=by
  have q:=vw_eq m
  unfold varAt at h
  cases e:vw m <;> rw [e] at h q <;> first | exact ⟨_,q.symm,h⟩ | exact absurd h Bool.false_ne_true
noncomputable def intE (i:Int) (e:Expr):Expr:=match i with
  | .ofNat k=>.Constant (.int (.ofNat k)) (kn e) e.pos
  | .negSucc k=>.UnaryOp .USub (.Constant (.int (.ofNat (k+1))) (kn (kd e 0)) (kd e 0).pos) e.pos
noncomputable def tlE (o:BoolOp) (e:Expr):Expr:=.BoolOp o (ekids e).tail e.pos
noncomputable def chain (o:BoolOp) (f:Expr→Expr) (e:Expr):List Expr:=cond ((ekids e).length == 3) (ekids (f (tlE o e))) [f (kd e 1)]
noncomputable def fn1 (x:Str) (f:Expr→Expr) (e:Expr):Expr:=.Call (.Name x (kd e 0).pos) [f (kd e 1)] [] e.pos
noncomputable def me0 (x:Str) (f:Expr→Expr) (e:Expr):Expr:=.Call (.Attribute (f (kd (kd e 0) 0)) x (kd e 0).pos) [] [] e.pos
noncomputable def me1 (x:Str) (f h:Expr→Expr) (e:Expr):Expr:=.Call (.Attribute (f (kd (kd e 0) 0)) x (kd e 0).pos) [h (kd e 1)] [] e.pos
mutual
noncomputable def ren:ME→Expr→Expr
  | .none=>fun e=>.Constant .none (kn e) e.pos
  | .bool b=>fun e=>.Constant (.bool b) (kn e) e.pos
  | .int i=>intE i
  | .str s=>fun e=>.Constant (.str s) (kn e) e.pos
  | .var _=>nmE
  | .gEnd => fun e => .Name "END" e.pos
  | .gClose => fun e => .Name "CLOSE" e.pos
  | .tup l=>fun e=>.Tuple (renL l (ekids e)) (kn e) e.pos
  | .lstD l=>fun e=>.List (renL l (ekids e)) e.pos
  | .lstF l=>fun e=>.List (renL l (ekids e)) e.pos
  | .dS=>fun e=>.Dict [] [] e.pos
  | .dI=>fun e=>.Dict [] [] e.pos
  | .d1 a b=>fun e=>.Dict [some (ren a (kd e 0))] [ren b (kd e 1)] e.pos
  | .bin o a b=>fun e=>.BinOp (ren a (kd e 0)) (opOf o) (ren b (kd e 1)) e.pos
  | .cmp o a b=>fun e=>.Compare (ren a (kd e 0)) [cmpOf o] [ren b (kd e 1)] e.pos
  | .isNone a=>fun e=>.Compare (ren a (kd e 0)) [.Is] [.Constant .none (kn (kd e 1)) (kd e 1).pos] e.pos
  | .and a b=>fun e=>.BoolOp .And (ren a (kd e 0)::chain .And (ren b) e) e.pos
  | .or a b=>fun e=>.BoolOp .Or (ren a (kd e 0)::chain .Or (ren b) e) e.pos
  | .not a=>fun e=>.UnaryOp .Not (ren a (kd e 0)) e.pos
  | .ite c a b=>fun e=>.IfExp (ren c (kd e 0)) (ren a (kd e 1)) (ren b (kd e 2)) e.pos
  | .sub a i=>fun e=>.Subscript (ren a (kd e 0)) (ren i (kd e 1)) e.pos
  | .sliceTo a b=>fun e=>.Subscript (ren a (kd e 0)) (.Slice none (some (ren b (kd (kd e 1) 0))) none (kd e 1).pos) e.pos
  | .sliceFrom a b=>fun e=>.Subscript (ren a (kd e 0)) (.Slice (some (ren b (kd (kd e 1) 0))) none none (kd e 1).pos) e.pos
  | .attr _ f=>fun e=>.Attribute (nmE (kd e 0)) f e.pos
  | .call f l=>fun e=>.Call (.Name (gname f) (kd e 0).pos) (renL l (ekids e).tail) [] e.pos
  | .new c l=>fun e=>.Call (.Name (cname c) (kd e 0).pos) (renL l (ekids e).tail) [] e.pos
  | .meth f o l=>fun e=>.Call (.Attribute (ren o (kd (kd e 0) 0)) (methName f) (kd e 0).pos) (renL l (ekids e).tail) [] e.pos
  | .append a b => me1 "append" (ren a) (ren b)
  | .pop a => me0 "pop" (ren a)
  | .extend a b => me1 "extend" (ren a) (ren b)
  | .extendRev a b => me1 "extend" (ren a) (fn1 "reversed" (ren b))
  | .reverse a => me0 "reverse" (ren a)
  | .len a => fn1 "len" (ren a)
  | .sorted a => fn1 "sorted" (ren a)
  | .sortedSet a => fn1 "sorted" (fn1 "set" (ren a))
  | .list a => fn1 "list" (ren a)
  | .listRev a => fn1 "list" (fn1 "reversed" (ren a))
  | .dict a => fn1 "dict" (ren a)
  | .sum a => fn1 "sum" (ren a)
  | .max a b => fun e => .Call (.Name "max" (kd e 0).pos) [ren a (kd e 1),ren b (kd e 2)] [] e.pos
  | .strOf a => fn1 "str" (ren a)
  | .tuple a => fn1 "tuple" (ren a)
  | .isInt a => fun e => .Call (.Name "isinstance" (kd e 0).pos) [ren a (kd e 1), .Name "int" (kd e 2).pos] [] e.pos
  | .comp elt _ src co=>fun e=>.ListComp (ren elt (kd e 0)) [⟨nmE (kd e 1),ren src (kd e 2),cond ((ekids e).length == 3) [] [ren co (kd e 3)],0⟩] (scpOf e) e.pos
  | .compIn _ _=>fun e=>.ListComp (.Name (idOf (kd e 1)) (kd e 0).pos) [⟨nmE (kd e 1),nmE (kd e 2),[.Compare (.Name (idOf (kd e 1)) (kd (kd e 3) 0).pos) [.In] [nmE (kd (kd e 3) 1)] (kd e 3).pos],0⟩] (scpOf e) e.pos
noncomputable def renL:MEs→List Expr→List Expr
  | .nil=>fun _=>[]
  | .cons m l=>fun es=>ren m (es.headD default)::renL l es.tail
end
abbrev NS:=List (Option Str)
abbrev SC:=List (Str × NameKind)
noncomputable abbrev cNs (ns:NS) (i:Nat) (e:Expr):NS:=compNs ns i (idOf (kd e 1)) (scpOf e).names
noncomputable abbrev cSc (sc:SC) (e:Expr):SC:=compSc sc (scpOf e).names
noncomputable def nameAt (ns:NS) (i:Nat) (e:Expr):Bool:=(ns[i]?).join == some (idOf e)
noncomputable def isOp (o:BoolOp) (m:ME):Bool:=match o,vw m with | .And,.a _ _=>true | .Or,.r _ _=>true | _,_=>false
theorem isOp_eq {o:BoolOp} {m:ME} (h:isOp o m=true):∃ (x:Expr→Expr) (l:Expr→List Expr),∀ e,ren m e=.BoolOp o (x e::l e) e.pos:=by
  have q:=vw_eq m
  unfold isOp at h
  cases e:vw m <;> rw [e] at h q <;> cases o <;> first | exact absurd h Bool.false_ne_true | (obtain rfl:m=ME.and _ _:=q.symm;exact ⟨_,_,fun _=>rfl⟩) | (obtain rfl:m=ME.or _ _:=q.symm;exact ⟨_,_,fun _=>rfl⟩)
noncomputable def chainOk (o:BoolOp) (m:ME) (k:Expr→Bool) (e:Expr):Bool:=cond ((ekids e).length == 3) (isOp o m && k (tlE o e)) (k (kd e 1))
noncomputable def lineOk (e:Expr):Bool:=(kd e 0).pos.endLine == e.pos.line
mutual
noncomputable def sd:ME→NS→SC→Bool→Expr→Bool
  | .none=>fun _ _ t _=>!t
  | .bool _=>fun _ _ _ _=>true
  | .int _=>fun _ _ t _=>!t
  | .str _=>fun _ _ t _=>!t
  | .var i=>fun ns _ _ e=>nameAt ns i e
  | .gEnd => fun _ sc t _ => !t && gl sc "END"
  | .gClose => fun _ sc t _ => !t && gl sc "CLOSE"
  | .tup l=>fun ns sc t e=>!t && ((renL l (ekids e)).length.ble 100 && sdL l ns sc (ekids e))
  | .lstD l=>fun ns sc t e=>!t && ((renL l (ekids e)).length.ble 100 && sdL l ns sc (ekids e))
  | .lstF l=>fun ns sc t e=>!t && ((renL l (ekids e)).length.ble 100 && sdL l ns sc (ekids e))
  | .dS=>fun _ _ t _=>!t
  | .dI=>fun _ _ t _=>!t
  | .d1 a b=>fun ns sc t e=>!t && (sd a ns sc false (kd e 0) && sd b ns sc false (kd e 1))
  | .bin _ a b=>fun ns sc t e=>!t && (sd a ns sc false (kd e 0) && sd b ns sc false (kd e 1))
  | .cmp o a b=>fun ns sc _ e=>!(behindInMarks (cmpOf o) (ren b (kd e 1))) && (sd a ns sc false (kd e 0) && sd b ns sc false (kd e 1))
  | .isNone a=>fun ns sc t e=>t && sd a ns sc false (kd e 0)
  | .and a b=>fun ns sc t e=>sd a ns sc t (kd e 0) && chainOk .And b (sd b ns sc t) e
  | .or a b=>fun ns sc t e=>sd a ns sc t (kd e 0) && chainOk .Or b (sd b ns sc t) e
  | .not a=>fun ns sc t e=>t && sd a ns sc true (kd e 0)
  | .ite c a b=>fun ns sc t e=>!t && (sd c ns sc true (kd e 0) && (sd a ns sc false (kd e 1) && sd b ns sc false (kd e 2)))
  | .sub a i=>fun ns sc _ e=>notSlice (ren i (kd e 1)) && (sd a ns sc false (kd e 0) && sd i ns sc false (kd e 1))
  | .sliceTo a b=>fun ns sc t e=>!t && (sd a ns sc false (kd e 0) && sd b ns sc false (kd (kd e 1) 0))
  | .sliceFrom a b=>fun ns sc t e=>!t && (sd a ns sc false (kd e 0) && sd b ns sc false (kd (kd e 1) 0))
  | .attr a f=>fun ns _ _ e=>fldNames.contains f && varAt (fun i=>nameAt ns i (kd e 0)) a
  | .call f l=>fun ns sc _ e=>(callHere sc f && headPlain (renL l (ekids e).tail)) && sdL l ns sc (ekids e).tail
  | .new c l=>fun ns sc t e=>!t && ((newHere sc c && (headPlain (renL l (ekids e).tail) && plainAll (renL l (ekids e).tail))) && sdL l ns sc (ekids e).tail)
  | .meth _ o l=>fun ns sc _ e=>((baseOk (ren o (kd (kd e 0) 0)) && lineOk e) && (headPlain (renL l (ekids e).tail) && (plainAll (renL l (ekids e).tail) && (renL l (ekids e).tail).length.ble 29))) && (sd o ns sc false (kd (kd e 0) 0) && sdL l ns sc (ekids e).tail)
  | .append a b=>fun ns sc t e=>!t && ((baseOk (ren a (kd (kd e 0) 0)) && (lineOk e && notStar (ren b (kd e 1)))) && (sd a ns sc false (kd (kd e 0) 0) && sd b ns sc false (kd e 1)))
  | .pop a=>fun ns sc t e=>!t && ((baseOk (ren a (kd (kd e 0) 0)) && lineOk e) && sd a ns sc false (kd (kd e 0) 0))
  | .extend a b=>fun ns sc t e=>!t && ((baseOk (ren a (kd (kd e 0) 0)) && (lineOk e && notStar (ren b (kd e 1)))) && (sd a ns sc false (kd (kd e 0) 0) && sd b ns sc false (kd e 1)))
  | .extendRev a b => fun ns sc t e => !t && ((gl sc "reversed" && (baseOk (ren a (kd (kd e 0) 0)) && (lineOk e && notStar (ren b (kd (kd e 1) 1))))) && (sd a ns sc false (kd (kd e 0) 0) && sd b ns sc false (kd (kd e 1) 1)))
  | .reverse a=>fun ns sc t e=>!t && ((baseOk (ren a (kd (kd e 0) 0)) && lineOk e) && sd a ns sc false (kd (kd e 0) 0))
  | .len a => fun ns sc t e => !t && ((gl sc "len" && notStar (ren a (kd e 1))) && sd a ns sc false (kd e 1))
  | .sorted a => fun ns sc t e => !t && ((gl sc "sorted" && notStar (ren a (kd e 1))) && sd a ns sc false (kd e 1))
  | .sortedSet a => fun ns sc t e => !t && (((gl sc "sorted" && gl sc "set") && notStar (ren a (kd (kd e 1) 1))) && sd a ns sc false (kd (kd e 1) 1))
  | .list a => fun ns sc t e => !t && ((gl sc "list" && notStar (ren a (kd e 1))) && sd a ns sc false (kd e 1))
  | .listRev a => fun ns sc t e => !t && (((gl sc "list" && gl sc "reversed") && notStar (ren a (kd (kd e 1) 1))) && sd a ns sc false (kd (kd e 1) 1))
  | .dict a => fun ns sc t e => !t && ((gl sc "dict" && notStar (ren a (kd e 1))) && sd a ns sc false (kd e 1))
  | .sum a => fun ns sc t e => !t && ((gl sc "sum" && notStar (ren a (kd e 1))) && sd a ns sc false (kd e 1))
  | .max a b => fun ns sc t e => !t && ((gl sc "max" && (notStar (ren a (kd e 1)) && notStar (ren b (kd e 2)))) && (sd a ns sc false (kd e 1) && sd b ns sc false (kd e 2)))
  | .strOf a => fun ns sc t e => !t && ((gl sc "str" && notStar (ren a (kd e 1))) && sd a ns sc false (kd e 1))
  | .tuple a => fun ns sc t e => !t && ((gl sc "tuple" && notStar (ren a (kd e 1))) && sd a ns sc false (kd e 1))
  | .isInt a => fun ns sc _ e => ((gl sc "isinstance" && gl sc "int") && notStar (ren a (kd e 1))) && sd a ns sc false (kd e 1)
  | .comp elt i src co=>fun ns sc t e=>!t && ((((scpOf e).kind == .function && compOk ns sc (idOf (kd e 1)) (scpOf e).names) && (notSet (ren src (kd e 2)) && sd src ns sc false (kd e 2))) &&
      (cond ((ekids e).length == 3) (isT co) (sd co (cNs ns i e) (cSc sc e) true (kd e 3)) && sd elt (cNs ns i e) (cSc sc e) false (kd e 0)))
  | .compIn i j=>fun ns sc t e=>!t && ((((scpOf e).kind == .function && compOk ns sc (idOf (kd e 1)) (scpOf e).names) && (nameAt ns i (kd e 2) && nameAt ns j (kd (kd e 3) 1))) &&
      (((scpOf e).names.lookup (idOf (kd (kd e 3) 1)) == some .free && !(idOf (kd (kd e 3) 1) == ("__debug__" : Str))) && !(idOf (kd (kd e 3) 1) == ("__classdict__" : Str))))
noncomputable def sdL:MEs→NS→SC→List Expr→Bool
  | .nil=>fun _ _ _=>true
  | .cons m l=>fun ns sc es=>(notStar (ren m (es.headD default)) && sd m ns sc false (es.headD default)) && sdL l ns sc es.tail
end
noncomputable def OkM (t:Bool) (W:Wd) (n:Nat) (g:Fm) (P:Lo→Hp→QV→Prop) (e:Expr):Prop:=cond t (TeOk W n g P e) (EvOk W n g P e)
variable {P:Lo→Hp→QV→Prop} {e:Expr} {t b:Bool}
theorem OkM.val (he:∀ env whole,isTrue e env whole=(do let v ← whole;standAt e.pos;holding [v] (truthy v))) (h:EvOk W n g P e):OkM t W n g P e:=match t with
  | true=>te_value he h
  | false=>h
theorem OkM.no0 (h:(!t)=true) (k:EvOk W n g P e):OkM t W n g P e:=match t,h with
  | false,_=>k
theorem OkM.no (h:(!t && b)=true) (k:b=true→EvOk W n g P e):OkM t W n g P e:=.no0 (and1 h) (k (and2 h))
theorem OkM.te (h:(t && b)=true) (k:b=true→TeOk W n g P e):OkM t W n g P e:=match t,h with
  | true,h=>k h
theorem OkM.and {l:List Expr} (ha:OkM t W n g (vcE C ma) ea) (hb:OkM t W n g (vcE C mb) (.BoolOp .And (eb::l) pos)):OkM t W n g (vcE C (.and ma mb)) (.BoolOp .And (ea::eb::l) pos):=match t,ha,hb with
  | true,ha,hb=>te_and ha hb
  | false,ha,hb=>ev_and ha hb
theorem OkM.or {l:List Expr} (ha:OkM t W n g (vcE C ma) ea) (hb:OkM t W n g (vcE C mb) (.BoolOp .Or (eb::l) pos)):OkM t W n g (vcE C (.or ma mb)) (.BoolOp .Or (ea::eb::l) pos):=match t,ha,hb with
  | true,ha,hb=>te_or ha hb
  | false,ha,hb=>ev_or ha hb
theorem OkM.andC {z:List Expr} (ha:OkM t W n g (vcE C ma) ea):(∃ a l,z=a::l∧OkM t W n g (vcE C mb) (.BoolOp .And (a::l) pos))→OkM t W n g (vcE C (.and ma mb)) (.BoolOp .And (ea::z) pos):=fun ⟨_,_,q,r⟩=>by rw [q];exact .and ha r
theorem OkM.orC {z:List Expr} (ha:OkM t W n g (vcE C ma) ea):(∃ a l,z=a::l∧OkM t W n g (vcE C mb) (.BoolOp .Or (a::l) pos))→OkM t W n g (vcE C (.or ma mb)) (.BoolOp .Or (ea::z) pos):=fun ⟨_,_,q,r⟩=>by rw [q];exact .or ha r
theorem OkM.one:∀ {o:BoolOp} {t:Bool},OkM t W n g P e→OkM t W n g P (.BoolOp o [e] pos)
  | .And,true,h=>te_oneA h
  | .Or,true,h=>te_oneO h
  | _,false,h=>h
theorem chain_ok {o:BoolOp} {m:ME} {k:Expr→Bool} (hk:∀ e,k e=true→OkM t W n g P (ren m e)) (h:chainOk o m k e=true):∃ a l,chain o (ren m) e=a::l∧OkM t W n g P (.BoolOp o (a::l) e.pos):=by
  unfold chainOk at h;unfold chain
  revert h
  cases (ekids e).length == 3
  · exact fun h=>⟨_,_,rfl,.one (hk _ h)⟩
  · intro h
    obtain ⟨x,l,q⟩:=isOp_eq (and1 h)
    have:=hk _ (and2 h)
    rw [q] at this
    exact ⟨_,_,congrArg ekids (q _),this⟩
theorem ren_var {a:ME} (h:varAt (fun i=>nameAt ns i e) a=true) (S:Sit g ns sc):EvOk W n g (vcE C a) (nmE e):=by
  obtain ⟨i,rfl,h⟩:=varAt_eq h
  exact w_var S (eq_of_beq h)
theorem comp_tests {co:ME} {e e':Expr} {k:Bool} (hk:k=true→TeOk W n g (vcE C co) e') (h:cond ((ekids e).length == 3) (isT co) k=true):TestsOk W n g (vcE C co) (cond ((ekids e).length == 3) [] [e']):=by
  revert h
  cases (ekids e).length == 3
  · exact fun h=>tests_one (hk h)
  · exact fun h=>isT_eq h▸tests_nil
noncomputable def PE (W:Wd) (n:Nat) (C:CallP) (m:ME):Prop:=∀ (ns:NS) (sc:SC) (g:Fm),Sit g ns sc→∀ t e,sd m ns sc t e=true→OkM t W n g (vcE C m) (ren m e)
noncomputable def PL (W:Wd) (n:Nat) (C:CallP) (l:MEs):Prop:=∀ (ns:NS) (sc:SC) (g:Fm),Sit g ns sc→∀ es,sdL l ns sc es=true→EvsOk W n g (vcEs C l) (renL l es)
theorem le_100 {k:Nat} (h:k.ble 100=true):k≤100:=Nat.le_of_ble_eq_true h
theorem ok_E (al:Al W addr n C):∀ m,PE W n C m:=fun m=>@ME.rec (PE W n C) (PL W n C)
  (fun _ _ _ _ _ _ h=>.no0 h ev_none)
  (fun _ _ _ _ _ _ _ _=>.val (fun _ _=>rfl) ev_bool)
  (fun i _ _ _ _ _ _ h=>.no0 h (match i with | .ofNat _=>ev_int | .negSucc k=>ev_neg (x:=.ofNat (k+1))))
  (fun _ _ _ _ _ _ _ h=>.no0 h ev_str)
  (fun _ _ _ _ S _ _ h=>.val (fun _ _=>rfl) (w_var S (eq_of_beq h)))
  (fun _ _ _ S _ _ h=>.no h fun h=>w_end al S h)
  (fun _ _ _ S _ _ h=>.no h fun h=>w_close al S h)
  (fun _ il ns sc g S _ e h=>.no h fun h=>ev_tup (le_100 (and1 h)) (il ns sc g S _ (and2 h)))
  (fun _ il ns sc g S _ e h=>.no h fun h=>w_lstD al (le_100 (and1 h)) (il ns sc g S _ (and2 h)))
  (fun _ il ns sc g S _ e h=>.no h fun h=>ev_lstF (le_100 (and1 h)) (il ns sc g S _ (and2 h)))
  (fun _ _ _ _ _ _ h=>.no0 h (w_dS al))
  (fun _ _ _ _ _ _ h=>.no0 h (w_dI al))
  (fun _ _ ia ib ns sc g S _ e h=>.no h fun h=>w_d1 al (ia ns sc g S false _ (and1 h)) (ib ns sc g S false _ (and2 h)))
  (fun _ _ _ ia ib ns sc g S _ e h=>.no h fun h=>ev_bin (ia ns sc g S false _ (and1 h)) (ib ns sc g S false _ (and2 h)))
  (fun _ _ _ ia ib ns sc g S t e h=>match t,h with
    | true,h=>te_cmp (not_t (and1 h)) (ia ns sc g S false _ (and1 (and2 h))) (ib ns sc g S false _ (and2 (and2 h)))
    | false,h=>ev_cmp (not_t (and1 h)) (ia ns sc g S false _ (and1 (and2 h))) (ib ns sc g S false _ (and2 (and2 h))))
  (fun _ ia ns sc g S _ e h=>.te h fun h=>te_isNone (ia ns sc g S false _ h))
  (fun a b ia ib ns sc g S t e h=>.andC (ia ns sc g S t _ (and1 h)) (chain_ok (ib ns sc g S t) (and2 h)))
  (fun a b ia ib ns sc g S t e h=>.orC (ia ns sc g S t _ (and1 h)) (chain_ok (ib ns sc g S t) (and2 h)))
  (fun _ ia ns sc g S _ e h=>.te h fun h=>te_not (ia ns sc g S true _ h))
  (fun _ _ _ ic ia ib ns sc g S _ e h=>.no h fun h=>ev_ite (ic ns sc g S true _ (and1 h)) (ia ns sc g S false _ (and1 (and2 h))) (ib ns sc g S false _ (and2 (and2 h))))
  (fun _ _ ia ib ns sc g S _ e h=>.val (fun _ _=>rfl) (ev_sub (and1 h) (ia ns sc g S false _ (and1 (and2 h))) (ib ns sc g S false _ (and2 (and2 h)))))
  (fun _ _ ia ib ns sc g S _ e h=>.no h fun h=>ev_sliceTo (ia ns sc g S false _ (and1 h)) (ib ns sc g S false _ (and2 h)))
  (fun _ _ ia ib ns sc g S _ e h=>.no h fun h=>ev_sliceFrom (ia ns sc g S false _ (and1 h)) (ib ns sc g S false _ (and2 h)))
  (fun _ _ _ ns sc g S _ e h=>.val (fun _ _=>rfl) (w_attr al (and1 h) (ren_var (and2 h) S)))
  (fun _ _ il ns sc g S _ e h=>.val (fun _ _=>rfl) (w_call al S (and1 (and1 h)) (and2 (and1 h)) (il ns sc g S _ (and2 h))))
  (fun _ _ il ns sc g S _ e h=>.no h fun h=>w_new al S (and1 (and1 h)) (and1 (and2 (and1 h))) (and2 (and2 (and1 h))) (il ns sc g S _ (and2 h)))
  (fun _ _ _ io il ns sc g S _ e h=>.val (fun _ _=>rfl) (w_meth al (and1 (and1 (and1 h))) (and2 (and1 (and1 h))) (io ns sc g S false _ (and1 (and2 h))) (and1 (and2 (and1 h))) (and1 (and2 (and2 (and1 h)))) (and2 (and2 (and2 (and1 h)))) (il ns sc g S _ (and2 (and2 h)))))
  (fun _ _ ia ib ns sc g S _ e h=>.no h fun h=>ev_append (and1 (and1 h)) (and1 (and2 (and1 h))) (and2 (and2 (and1 h))) (ia ns sc g S false _ (and1 (and2 h))) (ib ns sc g S false _ (and2 (and2 h))))
  (fun _ ia ns sc g S _ e h=>.no h fun h=>ev_pop (and1 (and1 h)) (and2 (and1 h)) (ia ns sc g S false _ (and2 h)))
  (fun _ _ ia ib ns sc g S _ e h=>.no h fun h=>ev_extend (and1 (and1 h)) (and1 (and2 (and1 h))) (and2 (and2 (and1 h))) (ia ns sc g S false _ (and1 (and2 h))) (ib ns sc g S false _ (and2 (and2 h))))
  (fun _ _ ia ib ns sc g S _ e h=>.no h fun h=>w_extendRev al S (and1 (and1 h)) (and1 (and2 (and1 h))) (and1 (and2 (and2 (and1 h)))) (and2 (and2 (and2 (and1 h)))) (ia ns sc g S false _ (and1 (and2 h))) (ib ns sc g S false _ (and2 (and2 h))))
  (fun _ ia ns sc g S _ e h=>.no h fun h=>ev_reverse (and1 (and1 h)) (and2 (and1 h)) (ia ns sc g S false _ (and2 h)))
  (fun _ ia ns sc g S _ e h=>.no h fun h=>w_len al S (and1 (and1 h)) (and2 (and1 h)) (ia ns sc g S false _ (and2 h)))
  (fun _ ia ns sc g S _ e h=>.no h fun h=>w_sorted al S (and1 (and1 h)) (and2 (and1 h)) (ia ns sc g S false _ (and2 h)))
  (fun _ ia ns sc g S _ e h=>.no h fun h=>w_sortedSet al S (and1 (and1 h)) (and2 (and1 h)) (ia ns sc g S false _ (and2 h)))
  (fun _ ia ns sc g S _ e h=>.no h fun h=>w_list al S (and1 (and1 h)) (and2 (and1 h)) (ia ns sc g S false _ (and2 h)))
  (fun _ ia ns sc g S _ e h=>.no h fun h=>w_listRev al S (and1 (and1 h)) (and2 (and1 h)) (ia ns sc g S false _ (and2 h)))
  (fun _ ia ns sc g S _ e h=>.no h fun h=>w_dict al S (and1 (and1 h)) (and2 (and1 h)) (ia ns sc g S false _ (and2 h)))
  (fun _ ia ns sc g S _ e h=>.no h fun h=>w_sum al S (and1 (and1 h)) (and2 (and1 h)) (ia ns sc g S false _ (and2 h)))
  (fun _ _ ia ib ns sc g S _ e h=>.no h fun h=>w_max al S (and1 (and1 h)) (and1 (and2 (and1 h))) (and2 (and2 (and1 h))) (ia ns sc g S false _ (and1 (and2 h))) (ib ns sc g S false _ (and2 (and2 h))))
  (fun _ ia ns sc g S _ e h=>.no h fun h=>w_strOf al S (and1 (and1 h)) (and2 (and1 h)) (ia ns sc g S false _ (and2 h)))
  (fun _ ia ns sc g S _ e h=>.no h fun h=>w_tuple al S (and1 (and1 h)) (and2 (and1 h)) (ia ns sc g S false _ (and2 h)))
  (fun _ ia ns sc g S _ e h=>.val (fun _ _=>rfl) (w_isInt al S (and1 (and1 h)) (and2 (and1 h)) (ia ns sc g S false _ (and2 h))))
  (fun _ _ _ co ie is ic ns sc g S _ e h=>.no h fun h=>w_comp S (eq_of_beq (and1 (and1 (and1 h)))) (and2 (and1 (and1 h))) (and1 (and2 (and1 h))) (is ns sc g S false _ (and2 (and2 (and1 h))))
    (fun g' S'=>comp_tests (fun h=>ic _ _ g' S' true _ h) (and1 (and2 h))) (fun g' S'=>ie _ _ g' S' false _ (and2 (and2 h))))
  (fun _ _ ns sc g S _ e h=>.no h fun h=>w_compIn S (eq_of_beq (and1 (and1 (and1 h)))) (and2 (and1 (and1 h))) (eq_of_beq (and1 (and2 (and1 h)))) (eq_of_beq (and2 (and2 (and1 h)))) (and2 h))
  (fun _ _ _ _ _ _=>evs_nil)
  (fun _ _ im il ns sc g S es h=>evs_cons (and1 (and1 h)) (im ns sc g S false _ (and2 (and1 h))) (il ns sc g S _ (and2 h)))
  m
noncomputable def sInfo:Stmt→List Expr × List Stmt × List Stmt
  | .Return v _=>(v.toList,[],[])
  | .Assign ts v _=>(ts++[v],[],[])
  | .AugAssign t _ v _=>([t,v],[],[])
  | .For t it b _ _=>([t,it],b,[])
  | .While t b _ _=>([t],b,[])
  | .If t b o _=>([t],b,o)
  | .Expr v _=>([v],[],[])
  | _=>([],[],[])
noncomputable def sE (s:Stmt):List Expr:=(sInfo s).1
noncomputable def sB (s:Stmt):List Stmt:=(sInfo s).2.1
noncomputable def sO (s:Stmt):List Stmt:=(sInfo s).2.2
noncomputable def se (s:Stmt) (i:Nat):Expr:=(sE s).getD i default
noncomputable def tgE (t:MT) (e:Expr):Expr:=match t with
  | .one _=>nmE e
  | .two _ _=>.Tuple [nmE (kd e 0),nmE (kd e 1)] (kn e) e.pos
noncomputable def sB0 (s:Stmt):Stmt:=(sB s).headD default
mutual
noncomputable def renS:MS→Stmt→Stmt
  | .assign _ a=>fun s=>.Assign [nmE (se s 0)] (ren a (se s 1)) s.pos
  | .assignComp _ a=>fun s=>.Assign [nmE (se s 0)] (ren a (se s 1)) s.pos
  | .setAttr o f a=>fun s=>.Assign [.Attribute (ren o (kd (se s 0) 0)) f (se s 0).pos] (ren a (se s 1)) s.pos
  | .setSub o i a=>fun s=>.Assign [.Subscript (ren o (kd (se s 0) 0)) (ren i (kd (se s 0) 1)) (se s 0).pos] (ren a (se s 1)) s.pos
  | .unpack _ _ a=>fun s=>.Assign [.Tuple [nmE (kd (se s 0) 0),nmE (kd (se s 0) 1)] (kn (se s 0)) (se s 0).pos] (ren a (se s 1)) s.pos
  | .augVar _ a=>fun s=>.AugAssign (nmE (se s 0)) .Sub (ren a (se s 1)) s.pos
  | .augSub o i a=>fun s=>.AugAssign (.Subscript (ren o (kd (se s 0) 0)) (ren i (kd (se s 0) 1)) (se s 0).pos) .Sub (ren a (se s 1)) s.pos
  | .augList _ a=>fun s=>.AugAssign (nmE (se s 0)) .Add (ren a (se s 1)) s.pos
  | .expr a=>fun s=>.Expr (ren a (se s 0)) s.pos
  | .ifs c a b=>fun s=>.If (ren c (se s 0)) (renSs a (sB s)) (renSs b (sO s)) s.pos
  | .while c b=>fun s=>.While (ren c (se s 0)) (renSs b (sB s)) [] s.pos
  | .for t a b=>fun s=>.For (tgE t (se s 0)) (ren a (se s 1)) (renSs b (sB s)) [] s.pos
  | .forRev t a b => fun s => .For (tgE t (se s 0)) (fn1 "reversed" (ren a) (se s 1)) (renSs b (sB s)) [] s.pos
  | .forRange t a b => fun s => .For (tgE t (se s 0)) (fn1 "range" (ren a) (se s 1)) (renSs b (sB s)) [] s.pos
  | .merge _ _ _=>fun s=>.For (nmE (se s 0)) (nmE (se s 1)) [.Assign [.Subscript (nmE (kd (se (sB0 s) 0) 0)) (.Name (idOf (se s 0)) (kd (se (sB0 s) 0) 1).pos) (se (sB0 s) 0).pos] (.Constant (.bool true) (kn (se (sB0 s) 1)) (se (sB0 s) 1).pos) (sB0 s).pos] [] s.pos
  | .ret a=>fun s=>.Return (some (ren a (se s 0))) s.pos
  | .retNone=>fun s=>.Return none s.pos
  | .raise=>fun s=>s
noncomputable def renSs:MSs→List Stmt→List Stmt
  | .nil=>fun _=>[]
  | .cons s l=>fun ss=>renS s (ss.headD default)::renSs l ss.tail
end
noncomputable def own (ns:NS) (sc:SC) (i:Nat) (e:Expr):Bool:=ownHere ns sc i (idOf e)
noncomputable def tgHere (ns:NS) (sc:SC) (t:MT) (e:Expr):Bool:=match t with
  | .one i=>own ns sc i e
  | .two i j=>own ns sc i (kd e 0) && own ns sc j (kd e 1)
noncomputable def swOk (sc:SC) (s:Stmt):Bool:=sc.lookup (idOf (se s 0)) == some .local && (se s 0).pos.line == (se s 1).pos.line && !((scpOf (se s 1)).names.any fun (n,k)=>n == idOf (se s 0) && (k == .local || k == .cell))
noncomputable def acE (ns:NS) (sc:SC) (j:Nat) (s:Stmt) (elt:ME) (i:Nat) (src co:ME):Bool :=
  let e:=se s 1
  (own ns sc j (se s 0) && swOk sc s) && (((scpOf e).kind == .function && compOk ns sc (idOf (kd e 1)) (scpOf e).names) && (notSet (ren src (kd e 2)) && (sd src ns sc false (kd e 2) &&
    (cond ((ekids e).length == 3) (isT co) (sd co (cNs ns i e) (cSc sc e) true (kd e 3)) && sd elt (cNs ns i e) (cSc sc e) false (kd e 0)))))
noncomputable def acOk (ns:NS) (sc:SC) (j:Nat) (s:Stmt) (m:ME):Bool:=match vw m with
  | .c elt i src co=>acE ns sc j s elt i src co
  | _=>false
mutual
noncomputable def sdS (ns:NS) (sc:SC):MS→Stmt→Bool
  | .assign i a=>fun s=>(own ns sc i (se s 0) && notComp (ren a (se s 1))) && sd a ns sc false (se s 1)
  | .assignComp i a=>fun s=>acOk ns sc i s a
  | .setAttr o f a=>fun s=>(fldNames.contains f && notComp (ren a (se s 1))) && (sd a ns sc false (se s 1) && sd o ns sc false (kd (se s 0) 0))
  | .setSub o i a=>fun s=>notComp (ren a (se s 1)) && (sd a ns sc false (se s 1) && (sd o ns sc false (kd (se s 0) 0) && sd i ns sc false (kd (se s 0) 1)))
  | .unpack i j a=>fun s=>((own ns sc i (kd (se s 0) 0) && own ns sc j (kd (se s 0) 1)) && (notComp (ren a (se s 1)) && notTup (ren a (se s 1)))) && sd a ns sc false (se s 1)
  | .augVar i a=>fun s=>own ns sc i (se s 0) && sd a ns sc false (se s 1)
  | .augSub o i a=>fun s=>notSlice (ren i (kd (se s 0) 1)) && (sd o ns sc false (kd (se s 0) 0) && (sd i ns sc false (kd (se s 0) 1) && sd a ns sc false (se s 1)))
  | .augList i a=>fun s=>own ns sc i (se s 0) && sd a ns sc false (se s 1)
  | .expr a=>fun s=>notComp (ren a (se s 0)) && sd a ns sc false (se s 0)
  | .ifs c a b=>fun s=>sd c ns sc true (se s 0) && (sdSs ns sc a (sB s) && sdSs ns sc b (sO s))
  | .while c b=>fun s=>sd c ns sc true (se s 0) && sdSs ns sc b (sB s)
  | .for t a b=>fun s=>(notSet (ren a (se s 1)) && tgHere ns sc t (se s 0)) && (sd a ns sc false (se s 1) && sdSs ns sc b (sB s))
  | .forRev t a b => fun s => ((gl sc "reversed" && notStar (ren a (kd (se s 1) 1))) && tgHere ns sc t (se s 0)) && (sd a ns sc false (kd (se s 1) 1) && sdSs ns sc b (sB s))
  | .forRange t a b => fun s => ((gl sc "range" && notStar (ren a (kd (se s 1) 1))) && tgHere ns sc t (se s 0)) && (sd a ns sc false (kd (se s 1) 1) && sdSs ns sc b (sB s))
  | .merge i a b=>fun s=>own ns sc i (se s 0) && (nameAt ns a (se s 1) && nameAt ns b (kd (se (sB0 s) 0) 0))
  | .ret a=>fun s=>sd a ns sc false (se s 0)
  | .retNone=>fun _=>true
  | .raise=>fun _=>true
noncomputable def sdSs (ns:NS) (sc:SC):MSs→List Stmt→Bool
  | .nil=>fun _=>true
  | .cons s l=>fun ss=>sdS ns sc s (ss.headD default) && sdSs ns sc l ss.tail
end
theorem tg_ok (S:Sit g ns sc):∀ {t:MT} {e:Expr},tgHere ns sc t e=true→TgOk g t (tgE t e)
  | .one _,_,h=>g_one S h
  | .two _ _,_,h=>g_two S h
theorem ac_ok (al:Al W addr n C) (S:Sit g ns sc) {j:Nat} {s:Stmt} {a:ME} (h:acOk ns sc j s a=true):ExOk W n g (vcS C (.assignComp j a)) (.Assign [nmE (se s 0)] (ren a (se s 1)) s.pos):=by
  have q:=vw_eq a
  unfold acOk at h
  cases e:vw a <;> rw [e] at h q <;> first | exact absurd h Bool.false_ne_true | skip
  obtain rfl:a=ME.comp _ _ _ _:=q.symm
  exact x_assignComp S (and1 (and1 h)) (eq_of_beq (and1 (and1 (and2 h)))) (and2 (and1 (and2 h))) (and1 (and2 (and2 h))) (and2 (and1 h)) (ok_E al _ ns sc g S false _ (and1 (and2 (and2 (and2 h)))))
    (fun g' S'=>comp_tests (fun h=>ok_E al _ _ _ g' S' true _ h) (and1 (and2 (and2 (and2 (and2 h)))))) (fun g' S'=>ok_E al _ _ _ g' S' false _ (and2 (and2 (and2 (and2 (and2 h))))))
theorem ok_Ss (al:Al W addr n C) (S:Sit g ns sc):∀ l b,sdSs ns sc l b=true→ExsOk W n g (vcSs C l) (renSs l b):=fun l =>
  have E:∀ a {e},sd a ns sc false e=true→EvOk W n g (vcE C a) (ren a e):=fun a e h=>ok_E al a ns sc g S false e h
  have T:∀ a {e},sd a ns sc true e=true→TeOk W n g (vcE C a) (ren a e):=fun a e h=>ok_E al a ns sc g S true e h
  @MSs.rec (fun a=>∀ s,sdS ns sc a s=true→ExOk W n g (vcS C a) (renS a s)) (fun l=>∀ b,sdSs ns sc l b=true→ExsOk W n g (vcSs C l) (renSs l b))
  (fun _ a s h=>x_assign S (and1 (and1 h)) (and2 (and1 h)) (E a (and2 h)))
  (fun _ a s h=>ac_ok al S h)
  (fun o f a s h=>x_setAttr al (and1 (and1 h)) (and2 (and1 h)) (E a (and1 (and2 h))) (E o (and2 (and2 h))))
  (fun o i a s h=>ex_setSub (and1 h) (E a (and1 (and2 h))) (E o (and1 (and2 (and2 h)))) (E i (and2 (and2 (and2 h)))))
  (fun i j a s h=>x_unpack S (and1 (and1 (and1 h))) (and2 (and1 (and1 h))) (and1 (and2 (and1 h))) (and2 (and2 (and1 h))) (E a (and2 h)))
  (fun i a s h=>x_augVar S (and1 h) (E a (and2 h)))
  (fun o i a s h=>ex_augSub (and1 h) (E o (and1 (and2 h))) (E i (and1 (and2 (and2 h)))) (E a (and2 (and2 (and2 h)))))
  (fun i a s h=>x_augList S (and1 h) (E a (and2 h)))
  (fun a s h=>ex_expr (and1 h) (E a (and2 h)))
  (fun c a b ia ib s h=>ex_if (T c (and1 h)) (ia _ (and1 (and2 h))) (ib _ (and2 (and2 h))))
  (fun c b ib s h=>ex_while (T c (and1 h)) (ib _ (and2 h)))
  (fun t a b ib s h=>x_for al (and1 (and1 h)) (tg_ok S (and2 (and1 h))) (E a (and1 (and2 h))) (ib _ (and2 (and2 h))))
  (fun t a b ib s h=>x_forRev al S (and1 (and1 (and1 h))) (and2 (and1 (and1 h))) (tg_ok S (and2 (and1 h))) (E a (and1 (and2 h))) (ib _ (and2 (and2 h))))
  (fun t a b ib s h=>x_forRange al S (and1 (and1 (and1 h))) (and2 (and1 (and1 h))) (tg_ok S (and2 (and1 h))) (E a (and1 (and2 h))) (ib _ (and2 (and2 h))))
  (fun i a b s h=>x_merge S (and1 h) (eq_of_beq (and1 (and2 h))) (eq_of_beq (and2 (and2 h))))
  (fun a s h=>ex_ret (E a h))
  (fun s h=>ex_retNone)
  (fun s h=>x_raise)
  (fun _ _=>exs_nil)
  (fun _ _ is il b h=>exs_cons (is _ (and1 h)) (il _ (and2 h)))
  l
end LY.Internal
end

section
open PySem PySem.W PySem.Calls PyProof.Rows PySem.SeqAt
namespace LY.Internal
variable {W:Wd} {K:Frag} {n:Nat} {C:CallP} {g:Fm} {fn:Fn}
noncomputable def addrOf:Fn→Nat
  | .token_of=>53 | .is_token=>60 | .merge=>67 | .gInit=>81 | .nullable=>88 | .first=>95 | .predict=>102 | .may_be_empty=>116 | .empty_rules=>123 | .first_of=>130
  | .first_rows=>137 | .follow_rows=>144 | .add_follows=>151 | .parts=>158 | .shared=>163 | .conflicts=>170 | .find_conflicts=>177 | .add_alternatives=>182
  | .rInit=>197 | .token_at=>211 | .chosen=>218 | .expanded=>225 | .recognise=>233 | .is_leaf=>240 | .leaves=>247 | .ends_of=>252 | .derives=>259
  | .l_stock=>266 | .l_pick=>273 | .l_tree=>280 | .l_derived=>287 | .l_ends=>292 | .l_kids=>297 | .l_sound=>302 | .l_reached=>309 | .law=>316
noncomputable def psOf:Fn→List Str
  | .token_of => ["e", "table"]
  | .is_token => ["e", "table"]
  | .merge => ["target", "source"]
  | .gInit => ["self", "rules", "start"]
  | .nullable => ["self", "e"]
  | .first => ["self", "e"]
  | .predict => ["self", "e", "after"]
  | .may_be_empty => ["e", "table", "empty"]
  | .empty_rules => ["table", "order"]
  | .first_of => ["e", "table", "empty", "firsts"]
  | .first_rows => ["table", "order", "empty"]
  | .follow_rows => ["grammar"]
  | .add_follows => ["grammar", "e", "after", "follows"]
  | .parts => ["grammar", "e", "after"]
  | .shared => ["first", "second"]
  | .conflicts => ["grammar"]
  | .find_conflicts => ["grammar", "name", "e", "after", "found"]
  | .add_alternatives => ["grammar", "name", "e", "after", "found"]
  | .rInit => ["self", "tree", "place", "wanted"]
  | .token_at => ["kinds", "place"]
  | .chosen => ["grammar", "e", "token"]
  | .expanded => ["grammar", "e", "token"]
  | .recognise => ["grammar", "kinds", "most"]
  | .is_leaf => ["kid"]
  | .leaves => ["tree"]
  | .ends_of => ["grammar", "e", "kids", "starts"]
  | .derives => ["grammar", "tree"]
  | .l_stock => ["script"]
  | .l_pick => ["pool", "ways"]
  | .l_tree => ["pool", "spare", "deep", "step", "count"]
  | .l_derived => ["pool", "tree", "rules", "row", "spare"]
  | .l_ends => ["tree", "rules", "row", "starts"]
  | .l_kids => ["tree", "kids", "spots"]
  | .l_sound => ["made", "rules"]
  | .l_reached => ["made"]
  | .law => ["script"]
noncomputable def rsOf:Fn→List Str
  | .merge => ["size", "token"]
  | .gInit => ["name", "e"]
  | .predict => ["found"]
  | .may_be_empty => ["tag", "item"]
  | .empty_rules => ["empty", "grown", "name"]
  | .first_of => ["tag", "found", "item"]
  | .first_rows => ["firsts", "name", "grown"]
  | .follow_rows => ["follows", "name", "grown"]
  | .add_follows => ["tag", "grown", "item", "behind"]
  | .parts => ["found", "behind", "item"]
  | .conflicts => ["found", "name"]
  | .find_conflicts => ["tag", "body", "kind", "both", "behind", "item"]
  | .add_alternatives => ["rows", "high", "low", "both"]
  | .chosen => ["item"]
  | .expanded => ["tag", "item"]
  | .recognise => ["waiting", "nodes", "place", "steps", "e", "token", "name", "kids", "more"]
  | .leaves => ["found", "waiting", "one"]
  | .ends_of => ["tag", "wanted", "leaf", "item", "found", "at", "fresh"]
  | .derives => ["waiting", "name", "kids", "kid"]
  | .l_stock => ["waiting", "cell", "rest", "turn"]
  | .l_tree => ["kind"]
  | .l_derived => ["kind", "value", "piece", "turns"]
  | .l_ends => ["kind", "value", "piece", "found", "turn"]
  | .l_kids => ["kind", "value", "piece", "found", "turn"]
  | .l_sound => ["name", "kids"]
  | .l_reached => ["found", "kid"]
  | .law => ["pool", "count", "rules", "rows", "step", "tree", "row", "way", "spot", "made", "told", "belongs"]
  | _=>[]
noncomputable def funOf:Data→FuncData | .func fd=>fd | _=>default
noncomputable def isFunc (d:Data):Bool:=d.ctorIdx.beq 7
theorem func_eq {d:Data} (h:isFunc d=true):d=.func (funOf d):=by
  cases d <;> first | rfl | exact absurd h Bool.false_ne_true
noncomputable def stmOf:FuncBody→List Stmt | .stmts b=>b | .expr _=>[]
noncomputable def isStm:FuncBody→Bool | .stmts _=>true | .expr _=>false
theorem stm_eq:∀ {b:FuncBody},isStm b=true→b=.stmts (stmOf b)
  | .stmts _,_=>rfl
noncomputable def fdAt (K:Frag) (a:Addr):FuncData:=(K.lookup a).elim default fun o=>funOf o.data
noncomputable def isFd (K:Frag) (a:Addr):Bool:=(K.lookup a).any fun o=>isFunc o.data
theorem fd_at {a:Addr} (h:isFd K a=true):∃ o,K.lookup a=some o∧o.data=.func (fdAt K a):=by
  unfold isFd at h;unfold fdAt
  revert h
  cases K.lookup a with
  | none=>exact fun h=>absurd h Bool.false_ne_true
  | some o=>exact fun h=>⟨o,rfl,func_eq h⟩
noncomputable def fnD (K:Frag) (fn:Fn):FuncData:=fdAt K (addrOf fn)
noncomputable def bdOf (K:Frag) (fn:Fn):List Stmt:=stmOf (fnD K fn).body
noncomputable def scAt (K:Frag) (fn:Fn):SC:=(fnD K fn).scope.names
noncomputable def nmOf (fn:Fn):List Str:=psOf fn++rsOf fn
noncomputable def namesOk (sc:SC) (names:List Str):Bool :=
  decide names.Nodup && names.all fun x => (sc.lookup x == some .local || sc.lookup x == some .cell) && (!(x == ("__debug__" : Str)) && !(x == ("__classdict__" : Str)))
theorem names_of {scope:Scope} {names:List Str} (h:namesOk scope.names names=true):NamesOk scope names :=
  ⟨of_decide_eq_true (and1 h),fun x hx=>have q:=List.all_eq_true.mp (and2 h) x hx
    ⟨((Bool.or_eq_true _ _).mp (and1 q)).imp eq_of_beq eq_of_beq,not_t (and1 (and2 q)),not_t (and2 (and2 q))⟩⟩
noncomputable def shp (K:Frag) (fd:FuncData):Bool :=
  (codeIn K fd.code fd.qualname && (fd.globals == mainGlobals && (fd.builtins == builtinsNs && fd.closure.isEmpty))) &&
  ((fd.scope.kind == .function && (!fd.scope.isGenerator && !fd.scope.isCoroutine)) && ((fd.params.posonlyargs.isEmpty && fd.params.kwonlyargs.isEmpty) && (fd.params.vararg.isNone && fd.params.kwarg.isNone)))
noncomputable def fit (K:Frag) (fn:Fn) (fd:FuncData):Bool :=
  ((isStm fd.body && (fdt fn).np.beq (psOf fn).length) && (namesOk fd.scope.names (nmOf fn) && (fd.params.args.map (·.arg) == psOf fn && (fd.defaults == .none || fd.defaults == .ref 226)))) &&
  sdSs ((nmOf fn).map some) fd.scope.names (fdt fn).body (stmOf fd.body)
noncomputable def fnOk (K:Frag) (fn:Fn):Bool:=(isFd K (addrOf fn) && isFn K (.ref (addrOf fn))) && (shp K (fnD K fn) && fit K fn (fnD K fn))
noncomputable def clAt:Cl→Addr | .grammar=>105 | .recognised=>200
structure ClF (K:Frag) (cl:Cl):Prop where
  glob:nsIn K mainGlobals (cname cl)=some (some (.ref (clAt cl)))
  init:findIn K (.ref (clAt cl)) "__init__" = some (some (.ref (addrOf (initOf cl))))
  set:findIn K (.ref (clAt cl)) "__setattr__" = some (some (.builtin "object.__setattr__"))
  fld:fldNames.map (fun x=>(findIn K (.ref (clAt cl)) x,takerIn K (clAt cl) x))=fldNames.map fun _=>(some none,some none)
  more:((makesIn K (clAt cl) && keepIn K (.ref (clAt cl))) && (plainGet K (clAt cl) "" && (hasDictIn K (clAt cl) && plainOver K (clAt cl)))) = true
noncomputable def allFn:List Fn:=[.token_of,.is_token,.merge,.gInit,.nullable,.first,.predict,.may_be_empty,.empty_rules,.first_of,.first_rows,.follow_rows,.add_follows,.parts,.shared,.conflicts,.find_conflicts,.add_alternatives,.rInit,.token_at,.chosen,.expanded,.recognise,.is_leaf,.leaves,.ends_of,.derives,.l_stock,.l_pick,.l_tree,.l_derived,.l_ends,.l_kids,.l_sound,.l_reached,.law]
noncomputable def noFn:Fn→Nat
  | .token_of=>0
  | .is_token=>1
  | .merge=>2
  | .gInit=>3
  | .nullable=>4
  | .first=>5
  | .predict=>6
  | .may_be_empty=>7
  | .empty_rules=>8
  | .first_of=>9
  | .first_rows=>10
  | .follow_rows=>11
  | .add_follows=>12
  | .parts=>13
  | .shared=>14
  | .conflicts=>15
  | .find_conflicts=>16
  | .add_alternatives=>17
  | .rInit=>18
  | .token_at=>19
  | .chosen=>20
  | .expanded=>21
  | .recognise=>22
  | .is_leaf=>23
  | .leaves=>24
  | .ends_of=>25
  | .derives=>26
  | .l_stock=>27
  | .l_pick=>28
  | .l_tree=>29
  | .l_derived=>30
  | .l_ends=>31
  | .l_kids=>32
  | .l_sound=>33
  | .l_reached=>34
  | .law=>35
theorem mem_all (fn:Fn):fn∈allFn:=List.mem_of_getElem? (i:=noFn fn) (by cases fn <;> rfl)
noncomputable def isG (K:Frag) (fn:Fn):Option (Option Value):=cond (isGlob fn) (nsIn K mainGlobals (gname fn)) (some (some (.ref (addrOf fn))))
noncomputable def isM (K:Frag) (fn:Fn):Option (Option Value):=(clsOf fn).elim (some (some (.ref (addrOf fn)))) fun cl=>findIn K (.ref (clAt cl)) (methName fn)
structure KFacts (K:Frag):Prop where
  fns:allFn.all (fnOk K)=true
  ren:allFn.map (fun fn=>renSs (fdt fn).body (bdOf K fn))=allFn.map (bdOf K)
  globs:allFn.map (isG K)=allFn.map fun fn=>some (some (.ref (addrOf fn)))
  meths:allFn.map (isM K)=allFn.map fun fn=>some (some (.ref (addrOf fn)))
  blt:bltNames.map (fun p=>nsIn K mainGlobals p.1)=bltNames.map fun _=>some none
  cl1:ClF K .grammar
  cl2:ClF K .recognised
  end_:nsIn K mainGlobals "END" = some (some (.str "eof" 236))
  close:nsIn K mainGlobals "CLOSE" = some (some (.ref 183))
  tup : K.lookup 183 = some { cls := .type "tuple", data := .seq #[.str "close" 450, .str "" 451] }
  dfl:K.lookup 226 = some { cls:=.type "tuple",data:=.seq #[.int 100000 515] }
  law:(nmOf .law).all (fun x=>(scAt K .law).lookup x == some .local)=true
theorem KFacts.one (kf:KFacts K) (fn:Fn):fnOk K fn=true:=List.all_eq_true.mp kf.fns fn (mem_all fn)
theorem KFacts.cls (kf:KFacts K):∀ cl,ClF K cl | .grammar=>kf.cl1 | .recognised=>kf.cl2
theorem KFacts.glob (kf:KFacts K) (fn:Fn) (h:isGlob fn=true):nsIn K mainGlobals (gname fn)=some (some (.ref (addrOf fn))):=by
  have q:=List.map_inj_left.mp kf.globs fn (mem_all fn)
  unfold isG at q;rw [h] at q;exact q
theorem KFacts.meth (kf:KFacts K) (fn:Fn) (cl:Cl) (h:clsOf fn=some cl):findIn K (.ref (clAt cl)) (methName fn)=some (some (.ref (addrOf fn))):=by
  have q:=List.map_inj_left.mp kf.meths fn (mem_all fn)
  unfold isM at q;rw [h] at q;exact q
theorem blt_boot:∀ p ∈ bltNames,bootBuiltins p.1 = some p.2 ∧ p.1 ≠ "__name__":=by
  have h:bltNames.map (fun p => (bootBuiltins p.1,p.1 == ("__name__":Str))) = bltNames.map fun p => (some p.2,false):=by kernel_rfl
  exact fun p hp=>have q:=List.map_inj_left.mp h p hp;⟨congrArg (·.1) q,ne_of_beq_false (congrArg (·.2) q)⟩
noncomputable def refOf:Option (Option Value)→Addr | some (some (.ref a))=>a | _=>0
theorem cl_at (kf:KFacts W.K):∀ cl,W.cl cl=clAt cl
  | .grammar=>congrArg refOf (kf.cls .grammar).glob
  | .recognised=>congrArg refOf (kf.cls .recognised).glob
theorem al_all (kf:KFacts W.K) (X:W.K.In W.h₀) (T:TopRead W.view W.loose W.mg W.mb W.h₀):Wk W∧Wn W∧Wc W∧Wp W addrOf:=by
  have mg:∀ {x v},nsIn W.K mainGlobals x=some (some v)→W.mg x=some v:=fun e=>mg_of X T.g e
  have hcl:=cl_at kf
  refine ⟨⟨X,T⟩,⟨fun p hp=>⟨mg_none_of X T.g (List.map_inj_left.mp kf.blt p hp),(T.builtins _ (blt_boot p hp).2).trans (blt_boot p hp).1⟩,⟨236,mg kf.end_⟩,⟨183,_,0,450,451,mg kf.close,X _ _ kf.tup,rfl,rfl⟩⟩,
    ⟨fun cl=>?_,fun cl=>?_,fun cl=>?_,fun cl=>?_,fun cl x hx=>?_⟩,⟨fun fn h=>mg (kf.glob fn h),fun fn=>(by obtain ⟨o,h1,h2⟩:=fd_at (and1 (and1 (kf.one fn)));exact ⟨o,_,X _ _ h1,h2⟩),fun cl=>?_,fun fn cl h=>?_⟩⟩
  all_goals rw [hcl]
  · exact and1 (and2 (kf.cls cl).more)
  · exact and1 (and2 (and2 (kf.cls cl).more))
  · exact (kf.cls cl).set
  · exact and2 (and2 (and2 (kf.cls cl).more))
  · have q:=List.map_inj_left.mp (kf.cls cl).fld x hx
    exact ⟨⟨_,congrArg (·.1) q,rfl⟩,congrArg (·.2) q⟩
  · exact ⟨mg (kf.cls cl).glob,and1 (and1 (kf.cls cl).more),and2 (and1 (kf.cls cl).more),(kf.cls cl).init,and2 (and1 (kf.one _))⟩
  · exact ⟨kf.meth fn cl h,and2 (and1 (kf.one _))⟩
theorem ok_body (kf:KFacts K) (al:Al W addrOf n C) (S:Sit g ((nmOf fn).map some) (scAt K fn)):ExsOk W n g (vcSs C (fdt fn).body) (bdOf K fn) :=
  Eq.mp (congrArg (ExsOk W n g _) (List.map_inj_left.mp kf.ren fn (mem_all fn))) (ok_Ss al S _ _ (and2 (and2 (and2 (kf.one fn)))))
theorem ff_all (kf:KFacts W.K) (X:W.K.In W.h₀) (al:Wk W∧Wn W∧Wc W∧Wp W addrOf):∀ fn,∃ fd ps rs body,FnFacts W addrOf fdt fn fd ps rs body:=fun fn=>by
  obtain ⟨o,ho,hd⟩:=fd_at (and1 (and1 (kf.one fn)))
  have h1:shp W.K (fnD W.K fn)=true:=and1 (and2 (kf.one fn))
  have h2:=and1 (and2 (and2 (kf.one fn)))
  have hn:=names_of (and1 (and2 h2))
  refine ⟨fnD W.K fn,psOf fn,rsOf fn,bdOf W.K fn,⟨⟨o,X _ _ ho,hd⟩,codeRec_of X (and1 (and1 h1)),eq_of_beq (and1 (and2 (and1 h1))),eq_of_beq (and1 (and2 (and2 (and1 h1)))),List.isEmpty_iff.mp (and2 (and2 (and2 (and1 h1)))),eq_of_beq (and1 (and1 (and2 h1))),
    not_t (and1 (and2 (and1 (and2 h1)))),not_t (and2 (and2 (and1 (and2 h1)))),fun s vals hk hl=>?_⟩,hn,stm_eq (and1 (and1 h2)),Nat.eq_of_beq_eq_true (and2 (and1 h2)),
    fun n C hm hc L=>ok_body kf ⟨al.1,al.2.1,al.2.2.1,al.2.2.2,hm,hc⟩ (fn_sit (eq_of_beq (and1 (and1 (and2 h1)))))⟩
  have hp:=and2 (and2 h1)
  have ha:=eq_of_beq (and1 (and2 (and2 h2)))
  have hnp:=(List.nodup_append.mp hn.nodup).1
  rcases (Bool.or_eq_true _ _).mp (and2 (and2 (and2 h2))) with hd | hd
  · exact bind_plain (List.isEmpty_iff.mp (and1 (and1 hp))) (List.isEmpty_iff.mp (and2 (and1 hp))) (Option.isNone_iff_eq_none.mp (and1 (and2 hp))) (Option.isNone_iff_eq_none.mp (and2 (and2 hp))) (eq_of_beq hd) ha hnp hl
  · exact bind_dflt (List.isEmpty_iff.mp (and1 (and1 hp))) (List.isEmpty_iff.mp (and2 (and1 hp))) (Option.isNone_iff_eq_none.mp (and1 (and2 hp))) (Option.isNone_iff_eq_none.mp (and2 (and2 hp))) (eq_of_beq hd) (hk _ _ (X _ _ kf.dfl)) rfl ha hnp hl
theorem calls_all (kf:KFacts W.K) (X:W.K.In W.h₀) (T:TopRead W.view W.loose W.mg W.mb W.h₀) (n:Nat):CallOk W n (callN fdt n) (codeOf addrOf) :=
  calls_ok (al_all kf X T).1 (ff_all kf X (al_all kf X T)) n
end LY.Internal
end

section
open PySem PySem.W PySem.Calls PyProof.Rows PySem.SeqAt
set_option maxRecDepth 100000
namespace LY.Internal
noncomputable def LawOk:Prop:=∀ ns:List Int,ns.length≤63→vcSs (callN fdt 300) b_law (initLo [.lst (ns.map .int)] 13) (fun _=>none) (fun fl _ _=>fl=.ret (.bool true))
theorem callerRoom (env:Env):Room 300 (callerA.deeper env):=⟨rfl,(by decide:1+claimMargin+1+2 * 300+5<recursionLimit),(by decide:4+3+20 * 300+200<cLine)⟩
theorem law_at {x:AV} {i:Nat} {v:AV} {k:Nat} (h:(initLo [x] k).at i=some v):i=0∧v=x:=by
  have h:=(List.getElem?_eq_some_iff.mp (initLo_at h))
  obtain ⟨hi,e⟩:=h
  have:i=0:=Nat.lt_one_iff.mp hi
  subst this
  exact ⟨rfl,e.symm⟩
theorem law_fin {K:Frag} {prog:Program} {view:_} {w:World} {s₁:Shared} {loose:List Str} {mg mb:Str→Option Value} {a fa:Addr} {vals:List Value} {ns:List Int} {h₁:Heap} {m:Str→Option Value} {nm:Str} {scope:Scope} {cd:Value} {tk:Nat} {body:List Stmt}
    {R:Flow→Shared→Prop} {E:Value→Shared→Prop} (pure:LawOk) (KX:K.In s₁.heap) (T:TopRead view loose mg mb s₁.heap) (hL:s₁.heap.IsList a vals.toArray) (hI:IntsAre vals ns) (hlen:ns.length≤63)
    (F:Fr s₁.heap s₁.heap.objs.size h₁ m) (hm:m "script" = some (.ref a)) (kf:KFacts K) (hbody:body = bdOf K .law) (hk:scope.kind = .function) (hsc:scope.names = scAt K .law)
    (fin:∀ s' m',Fr s₁.heap s₁.heap.objs.size s'.heap m'→s'.gens=s₁.gens→s'.os=s₁.os→R (.ret (.bool true)) s') :
    wpAny (model prog w) (callerA.deeper (envOf nm scope s₁.heap.objs.size fa cd)) (execs body (envOf nm scope s₁.heap.objs.size fa cd)) R E { heap:=h₁,gens:=s₁.gens,drawn:=s₁.drawn,toks:=tk,os:=s₁.os }:=by
  subst hbody
  let W:Wd:=⟨prog,view,w,K,s₁.heap,loose,mg,mb⟩
  have al:=al_all (W:=W) kf KX T
  have hC:=calls_all (W:=W) kf KX T 300
  have hnone:s₁.heap.get? s₁.heap.objs.size=none:=get?_none_of_size (Nat.le_refl _)
  generalize s₁.heap.objs.size=L at *
  let g:Fm:=⟨envOf nm scope L fa cd,fun j=>(nmOf .law)[j]?⟩
  let c:Cf:=⟨[],fun x=>x=L⟩
  have hkd:∀ y,g.env.kindOf y=(scAt K .law).lookup y:=fun y=>congrArg (List.lookup y) hsc
  have S:Sit g ((nmOf .law).map some) (scAt K .law):=⟨fun j=>by
    show (nmOf .law)[j]? = _
    rw [List.getElem?_map]
    cases (nmOf .law)[j]? <;> rfl,hkd,hk⟩
  have hn:=names_of (and1 (and2 (and1 (and2 (and2 (kf.one .law))))))
  have ok:Ok W c (fun _=>none) h₁:=⟨F.keep,List.nodup_nil,fun x hx=>(nomatch hx),fun x hx=>(nomatch hx),fun x (hx:x=L)=>hx▸⟨hnone,(by obtain ⟨o,_,_,e,_⟩:=F.ns;exact ⟨o,e⟩)⟩,fun x hx=>(nomatch hx),fun k o e=>(nomatch e)⟩
  have hlist:VRep W c h₁ (.lst (ns.map .int)) (.ref a):=by
    obtain ⟨o,ho,hc,n,hd⟩:=hL
    show ∃ a' items,_∧_
    refine ⟨a,vals.toArray,rfl,⟨⟨fun hm=>(nomatch hm),fun (q:a=L)=>nope' (hnone.symm.trans (q▸ho))⟩,o,F.keep _ _ ho,hc,n,hd⟩,?_,reps_ints hI⟩
    rw [List.size_toArray,hI.length]
    exact Nat.le_trans hlen (by decide)
  have FO:FOk W g c (initLo [.lst (ns.map .int)] 13) h₁:=by
    have nc:∀ {y x} {P:Prop},g.env.cells.lookup y=some x→P:=fun e=>nomatch e
    refine ⟨hk,rfl,rfl,rfl,fun y x e=>nc e,fun y z x e=>nc e,fun i j y e e'=>nodup_get_inj hn.nodup e e',fun i y e=>?_,⟨m,F.ns,fun i y e hk' v hv=>?_⟩,fun i y x e hk' hc=>nc hc,fun y x e=>nc e⟩
    · have hy:y∈nmOf .law:=List.mem_of_getElem? e
      exact ⟨Or.inl ((hkd y).trans (eq_of_beq (List.all_eq_true.mp kf.law y hy))),(hn.kinds y hy).2⟩
    · obtain ⟨rfl,rfl⟩:=law_at hv
      obtain rfl:("script":Str) = y:=Option.some.inj e
      exact ⟨.ref a,hm,hlist⟩
  have main:=ok_body (W:=W) (n:=300) (C:=callN fdt 300) (g:=g) (fn:=.law) kf ⟨al.1,al.2.1,al.2.2.1,al.2.2.2,callN_mono fdt 300,hC⟩ S
  refine wpAny_mono (main (callerA.deeper g.env) E _ c (fun _=>none) { heap:=h₁,gens:=s₁.gens,drawn:=s₁.drawn,toks:=tk,os:=s₁.os } _ (callerRoom _) ok FO (pure ns hlen)) (fun fl s' h=>?_) fun _ _ e=>e
  obtain ⟨c',H',m',gg,st,ok',F',r,rfl⟩:=h
  obtain ⟨V,rfl,rV⟩:=r
  rw [rV.bool]
  obtain ⟨mc,hns,_⟩:=F'.ns
  exact fin s' mc ⟨hns,ok'.base,F.above⟩ st.gens st.os
end LY.Internal
end

section
open PySem PySem.W PySem.Calls PyProof.Rows PySem.SeqAt
set_option Elab.async true
set_option maxRecDepth 100000
set_option maxHeartbeats 8000000
namespace LY.Internal
theorem hh.tw16942092695320912196:True:=trivial
theorem hh.tw9586406606534367092:True:=trivial
theorem hh.tw9154889472361523390:True:=trivial
theorem hh.tw16662551388372473691:True:=trivial
theorem hh.tw12869671498882290740:True:=trivial
theorem hh.tw5355593141875797045:True:=trivial
theorem hh.tw15516081793728738818:True:=trivial
theorem hh.tw4214437539844868920:True:=trivial
theorem hh.tw5119204747023606972:True:=trivial
theorem hh.tw11771624131646359880:True:=trivial
theorem hh.tw9193145435435369727:True:=trivial
theorem hh.tw5104526602272342960:True:=trivial
theorem hh.tw4930247717321866123:True:=trivial
theorem hh.tw10268720074569649023:True:=trivial
theorem hh.tw14910320994443612337:True:=trivial
theorem hh.tw17208066923691357983:True:=trivial
theorem hh.tw7173011957284328799:True:=trivial
theorem hh.tw7967643085973818567:True:=trivial
theorem hh.tw18204216728136541011:True:=trivial
theorem hh.tw9725384935393439646:True:=trivial
theorem hh.tw1530264048569785018:True:=trivial
theorem hh.tw15025132038018846124:True:=trivial
theorem hh.tw14449325214704581597:True:=trivial
theorem hh.tw5933349620555406170:True:=trivial
theorem hh.tw5866868543600244239:True:=trivial
theorem hh.tw2877575258119415994:True:=trivial
theorem hh.tw12961546272997022270:True:=trivial
theorem hh.tw5202589081553420158:True:=trivial
theorem hh.tw8113012311220704063:True:=trivial
theorem hh.tw5947274341355319965:True:=trivial
theorem hh.tw11498519432073737474:True:=trivial
theorem hh.tw2107744451456354253:True:=trivial
theorem hh.tw222331824987675880:True:=trivial
theorem hh.tw2631684825560852217:True:=trivial
theorem hh.tw1645102456332664623:True:=trivial
theorem hh.tw7070393291763891642:True:=trivial
theorem hh.tw1596754034804720965:True:=trivial
theorem hh.tw2389602263197489293:True:=trivial
theorem hh.tw4825150733266299480:True:=trivial
theorem hh.tw12916552628231590231:True:=trivial
theorem hh.tw16524557478054590121:True:=trivial
theorem hh.tw15977721360893871511:True:=trivial
theorem hh.tw12146222294143810557:True:=trivial
theorem hh.tw7483518298573186053:True:=trivial
theorem hh.tw13752874236466617765:True:=trivial
theorem hh.tw17293112374378426718:True:=trivial
theorem hh.tw6579165244371186030:True:=trivial
theorem hh.tw2495568127372458428:True:=trivial
theorem hh.tw12768806864773171206:True:=trivial
theorem hh.tw11679671588336882653:True:=trivial
theorem hh.tw16912909008412566161:True:=trivial
theorem hh.tw10248545890030869583:True:=trivial
theorem hh.tw490279178435902240:True:=trivial
theorem hh.tw8030660965619570391:True:=trivial
theorem hh.tw17815759040575397790:True:=trivial
theorem hh.tw15472486133866114312:True:=trivial
theorem hh.tw11202170665707927361:True:=trivial
theorem hh.tw14661358264977253914:True:=trivial
theorem hh.tw6772771825041746957:True:=trivial
theorem hh.tw6739105427191256656:True:=trivial
theorem hh.tw4083254101742434240:True:=trivial
theorem hh.tw6068412720842319139:True:=trivial
theorem hh.tw14676632784430170923:True:=trivial
theorem hh.tw12223652722750269360:True:=trivial
theorem hh.tw9207435930822030303:True:=trivial
theorem hh.tw9102526132689970111:True:=trivial
theorem hh.tw8251893039606902283:True:=trivial
theorem hh.tw7561341853318504989:True:=trivial
theorem hh.tw13981212939340169470:True:=trivial
theorem hh.tw6944049529930611178:True:=trivial
theorem hh.tw10090110300769123807:True:=trivial
theorem hh.tw3873861249852640415:True:=trivial
theorem hh.tw1758937090716837724:True:=trivial
theorem hh.tw8645919652561025347:True:=trivial
theorem hh.tw10499474382812122522:True:=trivial
theorem hh.tw2835950164187035950:True:=trivial
theorem hh.tw1995867792642594472:True:=trivial
theorem hh.tw7487958195081383575:True:=trivial
theorem hh.tw10546986331047452733:True:=trivial
theorem hh.tw5278334966815010479:True:=trivial
theorem hh.tw12091974340121591652:True:=trivial
theorem hh.tw4635504669141885795:True:=trivial
theorem hh.tw4230323362082763244:True:=trivial
theorem hh.tw11365515149530018149:True:=trivial
theorem hh.tw17299267859791561098:True:=trivial
theorem hh.tw8366325465741456858:True:=trivial
theorem hh.tw4273955204554227958:True:=trivial
theorem hh.tw13424705002168083096:True:=trivial
theorem hh.tw1823153748057082767:True:=trivial
theorem hh.tw13139378328962463522:True:=trivial
theorem hh.tw2482288118417482892:True:=trivial
theorem hh.tw1739736204995089503:True:=trivial
theorem hh.tw190466516474900223:True:=trivial
theorem hh.tw8109042656876480974:True:=trivial
theorem hh.tw4117197395980074772:True:=trivial
theorem hh.tw6012787247376571379:True:=trivial
theorem hh.tw524890966273895250:True:=trivial
theorem hh.tw1720921158992280846:True:=trivial
theorem hh.tw8913784364074614431:True:=trivial
theorem hh.tw4697537253605821245:True:=trivial
theorem hh.tw8843561737212963350:True:=trivial
theorem hh.tw15285557877114697819:True:=trivial
theorem hh.tw5318263156595420767:True:=trivial
theorem hh.tw8671650428968168927:True:=trivial
theorem hh.tw7640782820155131663:True:=trivial
theorem hh.tw5011172139140817617:True:=trivial
theorem hh.tw1041807718903011251:True:=trivial
theorem hh.tw17222630041309579442:True:=trivial
theorem hh.tw13127063133297650319:True:=trivial
theorem hh.tw13118249108337333530:True:=trivial
theorem hh.tw7603300407557858027:True:=trivial
theorem hh.tw15698615496579749926:True:=trivial
theorem hh.tw12363918736016637947:True:=trivial
theorem hh.tw229205207748973284:True:=trivial
theorem hh.tw12151656922164414688:True:=trivial
theorem hh.tw17310086512175549751:True:=trivial
theorem hh.tw16452344022532033262:True:=trivial
theorem hh.tw1526180172047543992:True:=trivial
theorem hh.tw368812930445637573:True:=trivial
theorem hh.tw5301030506455894830:True:=trivial
theorem hh.tw8478330226892315534:True:=trivial
theorem hh.tw9122131730472047541:True:=trivial
theorem hh.tw17183075678809710425:True:=trivial
theorem hh.tw10220517177854380246:True:=trivial
theorem hh.tw7681263538602072915:True:=trivial
theorem hh.tw15129020894943345457:True:=trivial
theorem hh.tw8882644448988977423:True:=trivial
theorem hh.tw8399397546438913829:True:=trivial
theorem hh.tw3130506514999315991:True:=trivial
theorem hh.tw13366340656079939471:True:=trivial
theorem hh.tw5392682396529860596:True:=trivial
theorem hh.tw1962079114163806035:True:=trivial
theorem hh.tw3068728041961037385:True:=trivial
theorem hh.tw14571351569003725742:True:=trivial
theorem hh.tw16650091323720405993:True:=trivial
theorem hh.tw14474526221815148335:True:=trivial
theorem hh.tw16307327937215476099:True:=trivial
theorem hh.tw8093604615187192918:True:=trivial
theorem hh.tw15234821339292388877:True:=trivial
theorem hh.tw238953356869162350:True:=trivial
theorem hh.tw8186320916473359980:True:=trivial
theorem hh.tw14829416503053863712:True:=trivial
theorem hh.tw15363909937806669946:True:=trivial
theorem hh.tw7508237648819357383:True:=trivial
theorem hh.tw6457099037132006136:True:=trivial
theorem hh.tw518744482751466306:True:=trivial
theorem hh.tw11774250257982007276:True:=trivial
theorem hh.tw15228494765013968296:True:=trivial
theorem hh.tw17691773685468120131:True:=trivial
theorem hh.tw2520888912748780459:True:=trivial
theorem hh.tw4529991253651838810:True:=trivial
theorem hh.tw11040528312256619592:True:=trivial
theorem hh.tw13035983684943366291:True:=trivial
theorem hh.tw2294847289210917604:True:=trivial
theorem hh.tw13216795884612057542:True:=trivial
theorem hh.tw5700325208111838048:True:=trivial
theorem hh.tw3036503071136836870:True:=trivial
theorem hh.tw2951575806589812961:True:=trivial
theorem hh.tw1884459875032193219:True:=trivial
theorem hh.tw13060277719265894627:True:=trivial
theorem hh.tw11575699797333572457:True:=trivial
theorem hh.tw10458302962900019878:True:=trivial
theorem hh.tw11777193002856623553:True:=trivial
theorem hh.tw16018261386085278417:True:=trivial
theorem hh.tw7739617446380249673:True:=trivial
theorem hh.tw18398485890030078000:True:=trivial
theorem hh.tw12937100066984318837:True:=trivial
theorem hh.tw11613618989264015547:True:=trivial
theorem hh.tw13960343045192308667:True:=trivial
theorem hh.tw11027133324035791633:True:=trivial
theorem hh.tw4528808457934038616:True:=trivial
theorem hh.tw3929108080324686883:True:=trivial
theorem hh.tw13417617268740981570:True:=trivial
theorem hh.tw12347280950435362695:True:=trivial
theorem hh.tw8615177062072453423:True:=trivial
theorem hh.tw5210131968786709386:True:=trivial
theorem hh.tw3765242820897676517:True:=trivial
theorem hh.tw3197039927839411390:True:=trivial
theorem hh.tw2789126855934519710:True:=trivial
theorem hh.tw1779915689841896773:True:=trivial
theorem hh.tw1779912959541747541:True:=trivial
theorem hh.tw9467176674595768178:True:=trivial
theorem hh.tw4271640703047660535:True:=trivial
theorem hh.tw2340473973433062822:True:=trivial
theorem hh.tw14042471102769515912:True:=trivial
theorem hh.tw8578444613131762369:True:=trivial
theorem hh.tw12222769852908184941:True:=trivial
theorem hh.tw10529576425065732615:True:=trivial
theorem hh.tw737929472528475404:True:=trivial
theorem hh.tw4704387168994309544:True:=trivial
theorem hh.tw18387414341013570509:True:=trivial
theorem hh.tw16926313126631129309:True:=trivial
theorem hh.tw12897858596587110138:True:=trivial
theorem hh.tw10790684674496468160:True:=trivial
theorem hh.tw8888254134394668790:True:=trivial
theorem hh.tw1097165360124308577:True:=trivial
theorem hh.tw8200668083807547487:True:=trivial
theorem hh.tw9295475806414178921:True:=trivial
theorem hh:PySem.Challenge.rw_pb0346_01.Holds:=by
  w_on;o_law;k_head
  (case hw=>w_witness2)
  k_go0
  all_goals try k_fold
  refine law_fin (fun ns _=>law_ok ns) (by assumption) (topRead_of (by assumption)) (by assumption) (by assumption) (by omega) (by assumption) rfl
    ⟨by kernel_rfl!,by kernel_rfl!,by kernel_rfl!,by kernel_rfl!,by kernel_rfl!,⟨by kernel_rfl!,by kernel_rfl!,by kernel_rfl!,by kernel_rfl!,by kernel_rfl!⟩,⟨by kernel_rfl!,by kernel_rfl!,by kernel_rfl!,by kernel_rfl!,by kernel_rfl!⟩,by kernel_rfl!,by kernel_rfl!,by kernel_rfl!,by kernel_rfl!,by kernel_rfl!⟩
    (by kernel_rfl) rfl (by kernel_rfl) ?_
  intro s' m' F hg ho
  refine goodW_bool F (hg.trans (by assumption)) (raisesW_false ?_) ?_ ho
  · wrow_none_raised
  · wrow_post
end LY.Internal
end

theorem PySem.Challenge.cw_pb0346_01_holds : PySem.Challenge.rw_pb0346_01.Holds := by
  exact LY.Internal.hh
