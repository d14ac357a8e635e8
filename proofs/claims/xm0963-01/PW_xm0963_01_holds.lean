import PyProof.Rows.All
import Wide.All
import OpenK.AllK
import Wide.FinOn
import KE.BytesK
import PyProof.LetGo
import KE.KBytesCut
import Lean
import PySem.Challenge.RW_xm0963_01
set_option Elab.async false
set_option maxRecDepth 100000
set_option linter.unusedVariables false
set_option linter.unusedSimpArgs false
set_option linter.unusedSectionVars false
set_option bootstrap.genMatcherCode false
set_option genSizeOf false
set_option genSizeOfSpec false
set_option genCtorIdx false
set_option genInjectivity false
set_option tactic.hygienic false
open PySem PySem.W PyProof.Rows PySem.Calls PySem.SeqAt PySem.W.KBc
namespace Mine.Internal
noncomputable section
theorem si(h:some a=some b):a=b:=Option.some.inj h
theorem M3:type_of% @List.mem_cons_self:=@List.mem_cons_self
theorem a5:type_of% @List.mem_cons_of_mem:=@List.mem_cons_of_mem
theorem u5:type_of% @List.mem_append_right:=@List.mem_append_right
theorem d5:type_of% @List.mem_map_of_mem:=@List.mem_map_of_mem
theorem M4:type_of% @List.mem_cons:=@List.mem_cons
theorem o7:type_of% @List.mem_append_left:=@List.mem_append_left
theorem R5:type_of% @List.mem_append:=@List.mem_append
theorem i7:type_of% @List.append_assoc:=@List.append_assoc
theorem z5:type_of% @List.mem_map:=@List.mem_map
theorem v9:type_of% @Nat.le_of_ble_eq_true:=@Nat.le_of_ble_eq_true
theorem o8:type_of% @List.length_append:=@List.length_append
theorem V9:type_of% @Nat.eq_of_beq_eq_true:=@Nat.eq_of_beq_eq_true
theorem R6:type_of% @List.map_cons:=@List.map_cons
theorem H7:type_of% @List.nodup_cons:=@List.nodup_cons
theorem l9:type_of% @List.mem_singleton:=@List.mem_singleton
theorem v8:type_of% @List.not_mem_nil:=@List.not_mem_nil
theorem j6:type_of% @Nat.le_refl:=@Nat.le_refl
theorem w8:type_of% @List.map_append:=@List.map_append
theorem V7:type_of% @Nat.le_trans:=@Nat.le_trans
theorem jB:type_of% @Nat.le_add_right:=@Nat.le_add_right
theorem gD:type_of% @List.nodup_append:=@List.nodup_append
theorem kB:type_of% @Nat.le_add_left:=@Nat.le_add_left
theorem xC:type_of% @List.all_eq_true:=@List.all_eq_true
theorem JD:type_of% @Bool.and_eq_true:=@Bool.and_eq_true
theorem HJ:type_of% @Option.map_eq_some_iff:=@Option.map_eq_some_iff
theorem KD:type_of% @List.length_map:=@List.length_map
theorem MH:type_of% @Nat.lt_of_lt_of_le:=@Nat.lt_of_lt_of_le
theorem NH:type_of% @Nat.lt_of_le_of_lt:=@Nat.lt_of_le_of_lt
theorem eO:type_of% @Option.isSome_iff_exists:=@Option.isSome_iff_exists
theorem IJ:type_of% @Bool.false_eq_true:=@Bool.false_eq_true
theorem kQ:type_of% @List.getElem?_eq_some_iff:=@List.getElem?_eq_some_iff
theorem yC:type_of% @List.map_map:=@List.map_map
theorem VG:type_of% @List.append_nil:=@List.append_nil
theorem LJ:type_of% @List.getElem?_map:=@List.getElem?_map
theorem gB:type_of% @Nat.not_lt:=@Nat.not_lt
theorem MJ:type_of% @List.length_set:=@List.length_set
theorem nM:type_of% @List.filter_cons:=@List.filter_cons
theorem NJ:type_of% @List.mem_range:=@List.mem_range
theorem jX:type_of% @List.getElem?_eq_getElem:=@List.getElem?_eq_getElem
theorem OH:type_of% @Nat.le_of_eq:=@Nat.le_of_eq
theorem Q2{motive:Bool->Prop}(t:Bool)(false:motive false)(true:motive true):motive t:=Bool.casesOn t false true
theorem opQ{α:Type _}{motive:Option α->Prop}(t:Option α)(none:motive .none)(some:∀val,motive (.some val)):motive t:=Option.casesOn t none some
theorem H5{α:Type _}{motive:List α->Prop}(t:List α)(nil:motive [])(cons:∀head tail,motive (head::tail)):motive t:=List.casesOn t nil cons
theorem iB{motive:Nat->Prop}(t:Nat)(zero:motive 0)(succ:∀n,motive (n+1)):motive t:=Nat.casesOn t zero succ
noncomputable def OJ(l:List Nat):List Nat->Bool:=List.rec (motive:=λ_=>List Nat->Bool) (λr=>List.rec (motive:=λ_=>Bool) true (λ_ _ _=>false) r) (λa _ ih r=>List.rec (motive:=λ_=>Bool) false (λb y _=>Bool.rec (motive:=λ_=>Bool) false (ih y) (Nat.beq a b)) r) l
noncomputable def sq(a b:Str):Bool:=OJ a.cps.toList b.cps.toList
inductive Dt where
 |none
 |bool (s:Bool) (b:Bool)
 |int (s:Bool) (n:Int)
 |str (x:Str)
 |bytes (s:Bool) (b:List UInt8)
 |tup (ds:List Dt)
 |lst (ds:List Dt)
 |obj (c:Nat) (xs:List Str) (ds:List Dt)
inductive V where
 |none
 |bool (s:Bool) (b:Bool)
 |int (s:Bool) (n:Int)
 |str (x:Str)
 |bytes (s:Bool) (b:List UInt8)
 |ref (id:Nat)
 |W0 (d:Dt)
 |fn (i:Nat)
 |mt (i j:Nat)
 |cl (i:Nat)
 |ty (n:String)
 |bi (n:String)
noncomputable def V.T5:Dt->V
 | .none=> .none
 | .bool s b=> .bool s b
 | .int s n=> .int s n
 | .str x=> .str x
 | .bytes s b=> .bytes s b
 |d=> .W0 d
structure Ent where
 k:UInt8×UInt8
 s:Int
 n:List UInt8
 FA:Int
noncomputable def Ju:Ent:=⟨(0,0),0,[],0⟩
inductive n0 where
 |lst (xs:List V)
 |tup (xs:List V)
 |cell (v:Option V)
 |inst (c:Nat) (fs:List (Str×V))
 |dS (es:List (Str×V))
 |dI (es:List (Int×V))
 |dT (es:List (Dt×V×V))
 |w9 (a b st:Int)
 |D4 (o:n0)
 |L0
 |any
 |dN (nb:Bool) (es:List Ent)
 |box (P:World->Heap->(Nat->Option Addr)->List (Addr×Obj)->Addr->List (Addr×Obj)->Prop)
structure St where
 heap:List n0
 LD:List Bool
structure J2 where
 loc:List (Str×V)
 O3:List (Str×Nat)
inductive Fl where
 |next|brk|cont
 |ret (v:V)
noncomputable abbrev K1:=V->St->Prop
noncomputable abbrev KS:=Fl->J2->St->Prop
structure Rec where
 ev:Expr->Scope->J2->St->K1->Prop
 ex:List Stmt->Scope->J2->St->KS->Prop
 call:V->List V->St->K1->Prop
inductive No:Nat->Prop
noncomputable def gd(b:Bool)(P:Prop):Prop:=Bool.rec (motive:=λ_=>Prop) (No 1) P b
noncomputable def br(s b:Bool)(σ:St)(Kt Kf:St->Prop):Prop:=Bool.rec (motive:=λ_=>Prop) (Bool.rec (motive:=λ_=>Prop) (Kf σ) (Kt σ) b)
 (List.rec (motive:=λ_=>Prop) (No 2) (λd r _=>(b=d)/\Bool.rec (motive:=λ_=>Prop) (Kf {σ with LD:=r}) (Kt {σ with LD:=r}) d) σ.LD) s
noncomputable def lk{α:Type}(x:Str)(l:List (Str×α)):Option α:=List.rec (motive:=λ_=>Option α) none (λp _ ih=>Bool.rec (motive:=λ_=>Option α) ih (some p.2) (sq p.1 x)) l
noncomputable def put{α:Type}(x:Str)(v:α)(l:List (Str×α)):List (Str×α):=List.rec (motive:=λ_=>List (Str×α)) [(x,v)] (λp r ih=>Bool.rec (motive:=λ_=>List (Str×α)) (p::ih) ((p.1,v)::r) (sq p.1 x)) l
noncomputable def J0{α:Type}(l:List α):Nat->Option α:=List.rec (motive:=λ_=>Nat->Option α) (λ_=>none) (λa _ ih n=>Nat.rec (motive:=λ_=>Option α) (some a) (λm _=>ih m) n) l
noncomputable def upd{α:Type}(l:List α):Nat->α->List α:=List.rec (motive:=λ_=>Nat->α->List α) (λ_ _=>[]) (λa l ih n b=>Nat.rec (motive:=λ_=>List α) (b::l) (λm _=>a::ih m b) n) l
theorem oM:lk (α:=α) x []=none:=rfl
theorem d3{α:Type}{x:Str}{p:Str×α}{r:List (Str×α)}:lk x (p::r)=(match sq p.1 x with|true=>some p.2|false=>lk x r):=by
 show Bool.rec (motive:=λ_=>Option α) _ _ (sq p.1 x)=_;cases sq p.1 x<;>rfl
theorem fO:put x v []=[(x,v)]:=rfl
theorem lB{α:Type}{x:Str}{v:α}{p:Str×α}{r:List (Str×α)}:put x v (p::r)=(match sq p.1 x with|true=>(p.1,v)::r|false=>p::put x v r):=by
 show Bool.rec (motive:=λ_=>List (Str×α)) _ _ (sq p.1 x)=_;cases sq p.1 x<;>rfl
theorem zC:OJ (a::x) (b::y)=(match Nat.beq a b with|true=>OJ x y|false=>false):=by
 show Bool.rec (motive:=λ_=>Bool) _ _ (Nat.beq a b)=_;cases Nat.beq a b<;>rfl
theorem mB:J0 ([]:List α) n=none:=rfl
theorem A9:J0 (a::l) 0=some a:=rfl
theorem x8:J0 (a::l) (n+1)=J0 l n:=rfl
theorem iO:upd ([]:List α) n x=[]:=rfl
theorem PJ:upd (a::l) 0 x=x::l:=rfl
theorem yE:upd (a::l) (n+1) x=a::upd l n x:=rfl
noncomputable def n0.Ui(o:n0):n0:=n0.casesOn (motive:=λ_=>n0) o .lst .tup .cell .inst .dS .dI .dT .w9 (λo=>o) .L0 .any .dN .box
noncomputable def ct(H:List n0)(i:Nat):Option n0:=(J0 H i).map n0.Ui
noncomputable def St.push(σ:St)(o:n0):St:={σ with heap:=σ.heap++[o]}
noncomputable def St.set(σ:St)(i:Nat)(o:n0):St:={σ with heap:=upd σ.heap i o}
noncomputable def St.new(σ:St):Nat:=σ.heap.length
noncomputable def pw:Program:=PySem.Challenge.pw_xm0963_01
noncomputable def yj(i:Nat):Stmt:=(J0 pw.main.body i).getD (.Pass default)
structure Vi where
 ps:List Str
 ds:List V
 body:List Stmt
 sc:Scope
noncomputable def Rd:Expr->V
 | .Constant c _ _=>(match c with| .int i=> .int false i|_=> .none)
 |_=> .none
noncomputable def ZR:Stmt->Option Vi
 | .FunctionDef _ a b _ _ _ sc _ _ _=>some ⟨a.args.map (·.arg),a.defaults.map Rd,b,sc⟩
 |_=>none
noncomputable def PH:Stmt->List Stmt
 | .ClassDef _ _ _ b _ _ _ _ _ _ _=>b
 |_=>[]
noncomputable def yX(f:V):Option Vi:=V.rec (motive:=λ_=>Option Vi) none (λ_ _=>none) (λ_ _=>none) (λ_=>none) (λ_ _=>none) (λ_=>none) (λ_=>none) (λi=>ZR (yj i)) (λi j=>(J0 (PH (yj i)) j).bind ZR) (λ_=>none) (λ_=>none) (λ_=>none) f
noncomputable abbrev ge(x:Str)(v:V):Str×V:=(x,v)
noncomputable def zj:List (Nat×List (List Nat×V)):=[
 (3,[([108,101,110],.bi "len"),([109,105,110],.bi "min"),([109,97,120],.bi "max"),([105,110,116],.ty "int"),([122,105,112],.ty "zip")]),
 (5,[([70,114,97,109,101],.cl 10),([112,117,116,49,54],.fn 14),([112,117,116,51,50],.fn 15),([103,101,116,49,54],.fn 16),([103,101,116,51,50],.fn 17),([98,121,116,101,115],.ty "bytes"),([116,117,112,108,101],.ty "tuple"),([114,97,110,103,101],.ty "range")]),
 (6,[([115,111,114,116,101,100],.bi "sorted")]),
 (8,[([84,89,80,69,95,69,78,68],.int false 0),([84,89,80,69,95,79,87,78],.int false 127),([77,79,83,84,95,82,79,87],.int false 511),([77,79,83,84,95,65,76,76],.int false 1500),([111,99,116,101,116,95,111,102],.fn 34),([114,101,97,100,95,114,111,119],.fn 43),([76,108,100,112,80,111,114,116],.cl 52),([95,108,97,119,95,111,110,101],.fn 57)]),
 (9,[([70,111,114,109,69,114,114,111,114],.cl 2),([83,105,122,101,69,114,114,111,114],.cl 3),([84,89,80,69,95,80,79,82,84],.int false 2),([84,89,80,69,95,84,73,77,69],.int false 3),([77,79,83,84,95,84,69,88,84],.int false 255),([77,79,83,84,95,78,65,77,69],.int false 128),([112,97,99,107,95,114,111,119,115],.fn 40),([119,105,116,104,95,116,105,109,101],.fn 45),([76,76,68,80,95,75,73,78,68],.int false 35020),([77,79,83,84,95,84,73,77,69],.int false 65535),([76,108,100,112,84,105,109,101,115],.cl 50),([78,101,105,103,104,98,111,117,114],.cl 51),([76,108,100,112,65,103,101,110,116],.cl 53),([95,108,97,119,95,112,111,111,108],.fn 55),([95,108,97,119,95,116,97,107,101],.fn 56),([95,108,97,119,95,114,111,119,115],.fn 58),([95,108,97,119,95,119,111,114,100],.fn 62),([101,110,117,109,101,114,97,116,101],.ty "enumerate")]),
 (10,[([84,97,98,108,101,69,114,114,111,114],.cl 4),([112,117,116,95,110,117,109,98,101,114],.fn 12),([103,101,116,95,110,117,109,98,101,114],.fn 13),([84,69,88,84,95,84,89,80,69,83],.ref 0),([114,111,119,95,111,99,116,101,116,115],.fn 35),([115,105,122,101,100,95,116,101,120,116],.fn 36),([112,97,99,107,101,100,95,114,111,119],.fn 38),([114,101,97,100,95,102,105,114,115,116],.fn 42),([95,108,97,119,95,110,97,109,101,100],.fn 59),([95,108,97,119,95,98,101,103,117,110],.fn 60)]),
 (11,[([70,73,82,83,84,95,87,79,82,68,83],.W0 (.tup [.str "chassis",.str "port",.str "time"])),([77,79,83,84,95,78,85,77,66,69,82],.int false 65535),([70,73,82,83,84,95,79,84,72,69,82],.int false 9),([99,104,101,99,107,95,111,114,100,101,114],.fn 39),([117,110,112,97,99,107,95,114,111,119,115],.fn 44)]),
 (12,[([84,89,80,69,95,67,72,65,83,83,73,83],.int false 1),([84,89,80,69,95,65,68,68,82,69,83,83],.int false 8),([114,101,97,100,95,97,100,100,114,101,115,115],.fn 41),([95,108,97,119,95,104,117,114,114,105,101,100],.fn 61)]),
 (14,[([84,89,80,69,95,65,66,73,76,73,84,73,69,83],.int false 7),([97,100,100,114,101,115,115,95,111,99,116,101,116,115],.fn 37),([78,69,65,82,69,83,84,95,66,82,73,68,71,69],.int false 1652522221582)]),
 (15,[([95,108,97,119,95,100,101,101,100,95,114,105,103,104,116],.fn 64),([95,108,97,119,95,111,118,101,114,95,114,105,103,104,116],.fn 65),([95,108,97,119,95,112,97,105,114,95,114,105,103,104,116],.fn 68)]),
 (16,[([95,108,97,119,95,107,110,111,119,110,95,114,105,103,104,116],.fn 67)]),
 (18,[([95,108,97,119,95,99,97,114,114,105,101,100,95,114,105,103,104,116],.fn 63),([95,108,97,119,95,116,101,108,108,105,110,103,95,114,105,103,104,116],.fn 66)])]
noncomputable def Ku(l:List Nat)(t:List (List Nat×V)):Option V:=List.rec (motive:=λ_=>Option V) none (λp _ ih=>Bool.rec (motive:=λ_=>Option V) ih (some p.2) (OJ p.1 l)) t
noncomputable def Wi(n:Nat)(t:List (Nat×List (List Nat×V))):Option (List (List Nat×V)):=List.rec (motive:=λ_=>Option (List (List Nat×V))) none (λp _ ih=>Bool.rec (motive:=λ_=>Option (List (List Nat×V))) ih (some p.2) (Nat.beq p.1 n)) t
noncomputable def Xi(x:Str):Option V:=(Wi x.cps.toList.length zj).bind λr=>Ku x.cps.toList r
noncomputable def Sd:List (Nat×List (Str×Nat)):=[
 (10,[(⟨#[95,95,105,110,105,116,95,95]⟩,0),(⟨#[116,111,108,100]⟩,1),(⟨#[115,105,122,101]⟩,2)]),(50,[(⟨#[95,95,105,110,105,116,95,95]⟩,0),(⟨#[116,111,108,100,95,116,105,109,101]⟩,1)]),(51,[(⟨#[95,95,105,110,105,116,95,95]⟩,0)]),(52,[(⟨#[95,95,105,110,105,116,95,95]⟩,0),(⟨#[104,117,114,114,121]⟩,1),(⟨#[103,111,95,111,110]⟩,2)]),
 (53,[(⟨#[95,95,105,110,105,116,95,95]⟩,0),(⟨#[97,100,100,95,112,111,114,116]⟩,1),(⟨#[116,111,108,100,95,114,111,119,115]⟩,2),(⟨#[114,111,119]⟩,3),(⟨#[102,114,97,109,101,95,111,102]⟩,4),(⟨#[108,105,110,107,95,117,112]⟩,5),(⟨#[108,105,110,107,95,100,111,119,110]⟩,6),(⟨#[99,104,97,110,103,101]⟩,7),(⟨#[115,104,117,116]⟩,8),(⟨#[115,101,99,111,110,100]⟩,9),(⟨#[104,101,97,114,100]⟩,10),(⟨#[101,120,112,105,114,101]⟩,11),(⟨#[110,101,105,103,104,98,111,117,114,115,95,111,102]⟩,12)])]
noncomputable def zE(c:Nat)(x:Str):Option Nat:=(Sd.find? (λp=>Nat.beq p.1 c)).bind λp=>lk x p.2
noncomputable def y3:n0:= .D4 (.dS [ge "port text" (.int false 4),ge "name" (.int false 5),ge "system text" (.int false 6)])
noncomputable def row:String:="special-get-raises"
noncomputable def nB(tb:String->Option Builtin)(p:Program)(w:World)(aS:Nat)(ann:Option Value):Nat->SharedT->Thread->Option SharedT
 |0,_,_=>none
 |n+1,s,t=>match through t with
  |true=>some s
  |false=>match stepOk aS ann t with
   |false=>none
   |true=>match stepT (denote tb) p w s t with
    |some (s',t')=>nB tb p w aS ann n s' t'
    |none=>none
theorem WG:∀{n:Nat}{s s':SharedT}{t:Thread},nB tb p w aS ann n s t=some s'->topRun tb p w aS ann n s.abs t=some s'.abs
 |0,_,_,_,h=>by cases h
 |n+1,s,s',t,h=>by
  unfold nB at h;unfold topRun;cases he:through t with
  |true=>rw[he] at h;cases h;rfl
  |false=>
   rw[he] at h;cases hk:stepOk aS ann t with
   |false=>rw[hk] at h;cases h
   |true=>
    rw[hk] at h;cases hs:stepT (denote tb) p w s t with
    |none=>rw[hs] at h;cases h
    |some r=>obtain⟨y4,t₂⟩:=r;rw[hs] at h;dsimp only;rw[stepT_spec hs];exact WG h
noncomputable def T0(P:Params):BT:= .node (boot_o_0 P) (.node (boot_o_1 P) (.node (boot_o_3 P) (.node (boot_o_7 P) .nil .nil) .nil) (.node (boot_o_5 P) (.node (boot_o_9 P) .nil .nil) .nil)) (.node (boot_o_2 P) (.node (boot_o_4 P) (.node (boot_o_8 P) .nil .nil) .nil) (.node (boot_o_6 P) (.node (boot_o_10 P) .nil .nil) .nil))
theorem Td:∀P:Params,boot_heap P=absHeap (T0 P) 11 (boot_heap P).life:=by intro P;kernel_rfl
theorem Aj:∀w:World,((boot_heap w.params).isNs mainGlobals&&(Array.mk []:Array GenState).size==0,(boot_heap w.params).objs.size,(boot_heap w.params).nsMap mainGlobals "__annotations__")=(true,11,some (.ref 6)):=by intro w;kernel_rfl
noncomputable def bs(w:World)(os:OsState):SharedT:=⟨T0 w.params,11,(boot_heap w.params).life,Array.mk [],boot_drawn,boot_toks,os⟩
noncomputable abbrev looksAt(p q:Program)(loose:List Str)(Xt:Shared->Bool){α:Type}(Yf:Shared->α)(g0:Bool)(w:World)(s:SharedT):=
 ((staticsOk (importedModules p.main.body) (boot_heap w.params) s.abs.heap&&namesBound p s.abs.heap&&gensDone s.abs&&laidKept (boot_heap w.params) s.abs.heap),openSeen q loose (importedModules p.main.body) Xt g0 s.abs,Yf s.abs)
theorem lQ
 (e:opening p=plainProg p.main.scope.names) (hN:Nat.ble 600 N=true) (f:∀s,fenceModules? p s=some s)
 (run:∀(w:World),(λos=>(nB treeTable p w 11 (some (.ref 6)) N (bs w os) (topStub p)).map (looksAt p q loose Xt Yf g0 w))=λ_=>some (true,openGood q loose,Ya w)):LeftO p q loose Xt Yf Ya N g0:=λw=>by
 obtain⟨⟨h,gs,d,k,os⟩,e,e'⟩:=HJ.mp (boot_open e hN f w);obtain⟨rfl,rfl,rfl,rfl⟩:h=boot_heap w.params/\gs=Array.mk []/\d=boot_drawn/\k=boot_toks:=by simpa using e'
 obtain⟨z1,z2,z3⟩:_/\_/\_:=by simpa only[Prod.mk.injEq] using Aj w
 obtain⟨s,r,l⟩:=HJ.mp (congrFun (run w) os);obtain⟨l1,l2,l3⟩:_/\_/\_:=by simpa only[Prod.mk.injEq] using l
 have r':=WG r;have hb:(bs w os).abs=⟨boot_heap w.params,Array.mk [],boot_drawn,boot_toks,os⟩:=by
  unfold bs SharedT.abs;dsimp only;rw[<-Td]
 rw[hb] at r';have t:topFrom treeTable p w N ⟨boot_heap w.params,Array.mk [],boot_drawn,boot_toks,os⟩=some s.abs:=by
  unfold topFrom;dsimp only;rw[z1,z2,z3,r'];show(match staticsOk (importedModules p.main.body) (boot_heap w.params) s.abs.heap&&namesBound p s.abs.heap&&gensDone s.abs&&laidKept (boot_heap w.params) s.abs.heap with|true=>_|false=>_)=_;rw[l1]
 unfold openEnds;rw[e];show(topFrom treeTable p w N _).map _=_;rw[t];exact congrArg some (Prod.ext l2 l3)
noncomputable def de(P:Params)(x:String)(t:Nat)(v:Value):DictEntry:=⟨PyData.keyHash P (Str.ofString x),.str (Str.ofString x) t,v⟩
noncomputable def kO3(P:Params):Obj:=⟨.type "dict",none,.dict (List.toArray ([de P "__name__" 165 (.str "law_xm0963_01" 804),de P "__doc__" 166 (.none),de P "__package__" 167 (.none),de P "__loader__" 168 (.builtin "__main__.__loader__#opaque"),de P "__spec__" 169 (.none),de P "__annotations__" 170 (.ref 6),de P "__builtins__" 171 (.ref 4),de P "__file__" 173 (.str "/claim/cut.py" 172),de P "__cached__" 174 (.none),de P "SwitchError" 217 (.ref 31),de P "FormError" 233 (.ref 44),de P "SizeError" 249 (.ref 56),de P "TableError" 265 (.ref 68),de P "HEAD_SIZE" 269 (.int 14 268),de P "TAG_SIZE" 271 (.int 4 270),de P "SUM_SIZE" 273 (.int 4 272),de P "LEAST_SIZE" 275 (.int 60 274),de P "Frame" 326 (.ref 100),de P "put_number" 334 (.ref 109),de P "get_number" 345 (.ref 116),de P "put16" 352 (.ref 123),de P "put32" 359 (.ref 130),de P "get16" 367 (.ref 137),de P "get32" 375 (.ref 144),de P "TYPE_END" 379 (.int 0 378),de P "TYPE_CHASSIS" 381 (.int 1 380),de P "TYPE_PORT" 383 (.int 2 382),de P "TYPE_TIME" 385 (.int 3 384),de P "TYPE_ABILITIES" 387 (.int 7 386),de P "TYPE_ADDRESS" 389 (.int 8 388),de P "TYPE_OWN" 391 (.int 127 390),de P "TEXT_TYPES" 401 (.ref 145),de P "FIRST_WORDS" 405 (.ref 146),de P "MOST_ROW" 407 (.int 511 406),de P "MOST_TEXT" 409 (.int 255 408),de P "MOST_NUMBER" 411 (.int 65535 410),de P "MOST_NAME" 413 (.int 128 412),de P "MOST_ALL" 415 (.int 1500 414),de P "FIRST_OTHER" 417 (.int 9 416),de P "octet_of" 424 (.ref 153)]++[de P "row_octets" 432 (.ref 160),de P "sized_text" 440 (.ref 167),de P "address_octets" 454 (.ref 174),de P "packed_row" 463 (.ref 181),de P "check_order" 469 (.ref 186),de P "pack_rows" 475 (.ref 191),de P "read_address" 484 (.ref 198),de P "read_first" 492 (.ref 205),de P "read_row" 501 (.ref 212),de P "unpack_rows" 513 (.ref 219),de P "with_time" 519 (.ref 224),de P "NEAREST_BRIDGE" 523 (.int 1652522221582 522),de P "LLDP_KIND" 525 (.int 35020 524),de P "MOST_TIME" 527 (.int 65535 526),de P "LldpTimes" 573 (.ref 249),de P "Neighbour" 604 (.ref 270),de P "LldpPort" 653 (.ref 305),de P "LldpAgent" 803 (.ref 409),de P "_law_pool" 816 (.ref 420),de P "_law_take" 825 (.ref 427),de P "_law_one" 833 (.ref 434),de P "_law_rows" 842 (.ref 441),de P "_law_named" 849 (.ref 448),de P "_law_begun" 855 (.ref 453),de P "_law_hurried" 863 (.ref 460),de P "_law_word" 878 (.ref 467),de P "_law_carried_right" 893 (.ref 474),de P "_law_deed_right" 899 (.ref 479),de P "_law_over_right" 905 (.ref 484),de P "_law_telling_right" 911 (.ref 489),de P "_law_known_right" 917 (.ref 494),de P "_law_pair_right" 923 (.ref 499),de P "law" 933 (.ref 506)])) 73,#[]⟩
noncomputable def Bj:Obj:={cls:= .type "tuple",data:= .seq #[.int 60 274]}
noncomputable def Lu(P:Params):Obj:=⟨.type "dict",none,.dict (List.toArray ([de P "__module__" 283 (.str "switchloom.frames" 266),de P "__firstlineno__" 287 (.int 18 286),de P "__init__" 299 (.ref 84),de P "told" 305 (.ref 89),de P "size" 313 (.ref 97),de P "__static_attributes__" 319 (.ref 98),de P "__dict__" 321 (.ref 101),de P "__weakref__" 323 (.ref 102),de P "__doc__" 324 (.none)])) 4,#[]⟩
noncomputable def Cj:Obj:={cls:= .type "type",data:= .cls {name:="Frame",bases:=[.type "object"],mro:=[.ref 100,.type "object"],ns:=99,qualname:="Frame"},slots:= #[none,none,some (.str "Frame" 276),some (.str "Frame" 284),some (.builtin "object.__new__"),some (.bool true)]}
noncomputable def jD(P:Params):Obj:=⟨.type "dict",none,.dict (List.toArray ([de P "port text" 392 (.int 4 393),de P "name" 394 (.int 5 395),de P "system text" 396 (.int 6 397)])) 3,#[]⟩
noncomputable def Ab:Obj:={cls:= .type "tuple",data:= .seq #[.str "chassis" 402,.str "port" 403,.str "time" 404]}
noncomputable def bS:Obj:={cls:= .type "tuple",data:= .seq #[.int 30 540,.int 4 541,.int 1 542,.int 4 543]}
noncomputable def Dj(P:Params):Obj:=⟨.type "dict",none,.dict (List.toArray ([de P "__module__" 535 (.str "switchloom.lldp" 520),de P "__firstlineno__" 539 (.int 169 538),de P "__init__" 554 (.ref 239),de P "told_time" 561 (.ref 246),de P "__static_attributes__" 566 (.ref 247),de P "__dict__" 568 (.ref 250),de P "__weakref__" 570 (.ref 251),de P "__doc__" 571 (.none)])) 4,#[]⟩
noncomputable def Ej:Obj:={cls:= .type "type",data:= .cls {name:="LldpTimes",bases:=[.type "object"],mro:=[.ref 249,.type "object"],ns:=248,qualname:="LldpTimes"},slots:= #[none,none,some (.str "LldpTimes" 528),some (.str "LldpTimes" 536),some (.builtin "object.__new__"),some (.bool true)]}
noncomputable def Fj(P:Params):Obj:=⟨.type "dict",none,.dict (List.toArray ([de P "__module__" 581 (.str "switchloom.lldp" 520),de P "__firstlineno__" 585 (.int 179 584),de P "__init__" 594 (.ref 267),de P "__static_attributes__" 597 (.ref 268),de P "__dict__" 599 (.ref 271),de P "__weakref__" 601 (.ref 272),de P "__doc__" 602 (.none)])) 4,#[]⟩
noncomputable def Gj:Obj:={cls:= .type "type",data:= .cls {name:="Neighbour",bases:=[.type "object"],mro:=[.ref 270,.type "object"],ns:=269,qualname:="Neighbour"},slots:= #[none,none,some (.str "Neighbour" 574),some (.str "Neighbour" 582),some (.builtin "object.__new__"),some (.bool true)]}
noncomputable def Hj(P:Params):Obj:=⟨.type "dict",none,.dict (List.toArray ([de P "__module__" 612 (.str "switchloom.lldp" 520),de P "__firstlineno__" 616 (.int 184 615),de P "__init__" 624 (.ref 288),de P "hurry" 632 (.ref 295),de P "go_on" 640 (.ref 302),de P "__static_attributes__" 646 (.ref 303),de P "__dict__" 648 (.ref 306),de P "__weakref__" 650 (.ref 307),de P "__doc__" 651 (.none)])) 4,#[]⟩
noncomputable def Ij:Obj:={cls:= .type "type",data:= .cls {name:="LldpPort",bases:=[.type "object"],mro:=[.ref 305,.type "object"],ns:=304,qualname:="LldpPort"},slots:= #[none,none,some (.str "LldpPort" 605),some (.str "LldpPort" 613),some (.builtin "object.__new__"),some (.bool true)]}
noncomputable def Bb:Obj:={cls:= .type "tuple",data:= .seq #[.int 8 666]}
noncomputable def Jj(P:Params):Obj:=⟨.type "dict",none,.dict (List.toArray ([de P "__module__" 661 (.str "switchloom.lldp" 520),de P "__firstlineno__" 665 (.int 201 664),de P "__init__" 676 (.ref 324),de P "add_port" 685 (.ref 331),de P "told_rows" 694 (.ref 338),de P "row" 702 (.ref 345),de P "frame_of" 710 (.ref 352),de P "link_up" 718 (.ref 359),de P "link_down" 728 (.ref 366),de P "change" 739 (.ref 373),de P "shut" 748 (.ref 380),de P "second" 758 (.ref 387),de P "heard" 773 (.ref 394),de P "expire" 785 (.ref 401),de P "neighbours_of" 791 (.ref 406),de P "__static_attributes__" 796 (.ref 407),de P "__dict__" 798 (.ref 410),de P "__weakref__" 800 (.ref 411),de P "__doc__" 801 (.none)])) 4,#[]⟩
noncomputable def Kj:Obj:={cls:= .type "type",data:= .cls {name:="LldpAgent",bases:=[.type "object"],mro:=[.ref 409,.type "object"],ns:=408,qualname:="LldpAgent"},slots:= #[none,none,some (.str "LldpAgent" 654),some (.str "LldpAgent" 662),some (.builtin "object.__new__"),some (.bool true)]}
noncomputable def Yi:Value:= .str "switchloom.octets" 327
noncomputable def LR:Value:= .str "switchloom.lldp_tlvs" 376
noncomputable def pM:Value:= .str "law_xm0963_01" 804
noncomputable def Mu:Value:= .str "switchloom.frames" 266
noncomputable def QH:Value:= .str "switchloom.lldp" 520
noncomputable def V2:V->Stmt
 | .fn i=>yj i
 | .mt i j=>(J0 (PH (yj i)) j).getD (.Pass default)
 |_=> .Pass default
noncomputable def QJ:Stmt->Arguments
 | .FunctionDef _ a _ _ _ _ _ _ _ _=>a
 |_=>default
noncomputable def Nu:Stmt->Str
 | .FunctionDef n _ _ _ _ _ _ _ _ _=>n
 |_=>""
noncomputable def bodyOf:Stmt->List Stmt
 | .FunctionDef _ _ b _ _ _ _ _ _ _=>b
 |_=>[]
noncomputable def Q3:Stmt->Scope
 | .FunctionDef _ _ _ _ _ _ sc _ _ _=>sc
 |_=>default
structure FT where
 a:Addr
 f:V
 q:Str
 pm:Value
 dV:Value
noncomputable def FT.data(t:FT):FuncData:=fnX (Nu (V2 t.f)) t.q (QJ (V2 t.f)) (bodyOf (V2 t.f)) (Q3 (V2 t.f)) [] t.dV .none .none t.pm none (.ref (t.a -1)) .none
noncomputable def FT.obj(t:FT):Obj:=⟨.type "function",none,.func t.data,#[]⟩
noncomputable def Ou:List FT:=[
 ⟨109,.fn 12,"put_number",Yi,.none⟩,
 ⟨116,.fn 13,"get_number",Yi,.none⟩,
 ⟨123,.fn 14,"put16",Yi,.none⟩,
 ⟨130,.fn 15,"put32",Yi,.none⟩,
 ⟨137,.fn 16,"get16",Yi,.none⟩,
 ⟨144,.fn 17,"get32",Yi,.none⟩,
 ⟨153,.fn 34,"octet_of",LR,.none⟩,
 ⟨160,.fn 35,"row_octets",LR,.none⟩,
 ⟨167,.fn 36,"sized_text",LR,.none⟩,
 ⟨174,.fn 37,"address_octets",LR,.none⟩,
 ⟨181,.fn 38,"packed_row",LR,.none⟩,
 ⟨186,.fn 39,"check_order",LR,.none⟩,
 ⟨191,.fn 40,"pack_rows",LR,.none⟩,
 ⟨198,.fn 41,"read_address",LR,.none⟩,
 ⟨205,.fn 42,"read_first",LR,.none⟩,
 ⟨212,.fn 43,"read_row",LR,.none⟩,
 ⟨219,.fn 44,"unpack_rows",LR,.none⟩,
 ⟨224,.fn 45,"with_time",LR,.none⟩,
 ⟨420,.fn 55,"_law_pool",pM,.none⟩,
 ⟨427,.fn 56,"_law_take",pM,.none⟩,
 ⟨434,.fn 57,"_law_one",pM,.none⟩,
 ⟨441,.fn 58,"_law_rows",pM,.none⟩,
 ⟨448,.fn 59,"_law_named",pM,.none⟩,
 ⟨453,.fn 60,"_law_begun",pM,.none⟩,
 ⟨460,.fn 61,"_law_hurried",pM,.none⟩,
 ⟨467,.fn 62,"_law_word",pM,.none⟩,
 ⟨474,.fn 63,"_law_carried_right",pM,.none⟩]
noncomputable def Pu:List FT:=[
 ⟨479,.fn 64,"_law_deed_right",pM,.none⟩,
 ⟨484,.fn 65,"_law_over_right",pM,.none⟩,
 ⟨489,.fn 66,"_law_telling_right",pM,.none⟩,
 ⟨494,.fn 67,"_law_known_right",pM,.none⟩,
 ⟨499,.fn 68,"_law_pair_right",pM,.none⟩,
 ⟨506,.fn 69,"law",pM,.none⟩,
 ⟨84,.mt 10 0,"Frame.__init__",Mu,.none⟩,
 ⟨89,.mt 10 1,"Frame.told",Mu,.none⟩,
 ⟨97,.mt 10 2,"Frame.size",Mu,.ref 90⟩,
 ⟨239,.mt 50 0,"LldpTimes.__init__",QH,.ref 232⟩,
 ⟨246,.mt 50 1,"LldpTimes.told_time",QH,.none⟩,
 ⟨267,.mt 51 0,"Neighbour.__init__",QH,.none⟩,
 ⟨288,.mt 52 0,"LldpPort.__init__",QH,.none⟩,
 ⟨295,.mt 52 1,"LldpPort.hurry",QH,.none⟩,
 ⟨302,.mt 52 2,"LldpPort.go_on",QH,.none⟩,
 ⟨324,.mt 53 0,"LldpAgent.__init__",QH,.ref 317⟩,
 ⟨331,.mt 53 1,"LldpAgent.add_port",QH,.none⟩,
 ⟨338,.mt 53 2,"LldpAgent.told_rows",QH,.none⟩,
 ⟨345,.mt 53 3,"LldpAgent.row",QH,.none⟩,
 ⟨352,.mt 53 4,"LldpAgent.frame_of",QH,.none⟩,
 ⟨359,.mt 53 5,"LldpAgent.link_up",QH,.none⟩,
 ⟨366,.mt 53 6,"LldpAgent.link_down",QH,.none⟩,
 ⟨373,.mt 53 7,"LldpAgent.change",QH,.none⟩,
 ⟨380,.mt 53 8,"LldpAgent.shut",QH,.none⟩,
 ⟨387,.mt 53 9,"LldpAgent.second",QH,.none⟩,
 ⟨394,.mt 53 10,"LldpAgent.heard",QH,.none⟩,
 ⟨401,.mt 53 11,"LldpAgent.expire",QH,.none⟩,
 ⟨406,.mt 53 12,"LldpAgent.neighbours_of",QH,.none⟩]
noncomputable def XG:List FT:=Ou++Pu
noncomputable def KL(P:Params):Frag:=[(3,kO3 P),(90,Bj),(99,Lu P),(100,Cj),(146,Ab),(232,bS),(248,Dj P),(249,Ej),(269,Fj P),(270,Gj),(304,Hj P),(305,Ij),(317,Bb),(408,Jj P),(409,Kj)]++XG.map λt=>(t.a,t.obj)
noncomputable def KA:List Addr:=[3,90,99,100,146,232,248,249,269,270,304,305,317,408,409]++XG.map (·.a)
theorem Cb:∀P,KA=(KL P).map (·.1):=by intro P;kernel_rfl
noncomputable def Lj(d:Data):Option (Array Value):=Data.casesOn (motive:=λ_=>Option (Array Value)) d none (λ_=>none) (λ_ _=>none) (λ_ _=>none) (λ_ _ _=>none) (λ_ _=>none) (λ_=>none) (λ_=>none) (λ_=>none) some none
theorem Ud(h:Lj d=some x):d= .fields x:=by induction d using Data.casesOn<;>first|exact congrArg Data.fields (si h)|exact absurd h.symm (Option.some_ne_none _)
noncomputable def Mj(v:Value):Option Str:=match v with| .str q _=>some q|_=>none
theorem Vd(h:Mj v=some q):∃t,v= .str q t:=by induction v using Value.casesOn<;>first|exact⟨_,congrArg (λq=>Value.str q _) (si h)⟩|exact absurd h.symm (Option.some_ne_none _)
noncomputable def RJ(o:Option Obj):Option Str:=o.bind λob=>(Lj ob.data).bind λvs=>(vs[1]?).bind Mj
structure cS(w:World)(h:Heap):Prop where
 K:(KL w.params).In h
 code:∀t∈XG,h.CodeRec (.ref (t.a -1)) t.q
 tab:h.get? 145=some (jD w.params)
 sys:(h.get? sysModules).isSome=true
theorem RH{h:Heap}{c:Addr}{q:Str}(e:RJ (h.get? c)=some q):h.CodeRec (.ref c) q:=by
 obtain⟨o,ho,e⟩:=Option.bind_eq_some_iff.mp e;obtain⟨vs,hd,e⟩:=Option.bind_eq_some_iff.mp e;obtain⟨v,hv,e⟩:=Option.bind_eq_some_iff.mp e;obtain⟨t,rfl⟩:=Vd e;exact⟨_,_,vs,t,rfl,ho,Ud hd,hv⟩
noncomputable def hk:Hook where
 α:=List (Option Obj)×List (Option Str)×Option Obj×Bool
 obs:=λs=>(KA.map s.heap.get?,XG.map (λt=>RJ (s.heap.get? (t.a -1))),s.heap.get? 145,(s.heap.get? sysModules).isSome)
 val:=λw=>((KL w.params).map (λp=>some p.2),XG.map (λt=>some t.q),some (jD w.params),true)
 says:=cS
 of:=λw s e=>by
  obtain⟨e1,e2⟩:=Prod.mk.inj e;obtain⟨e2,e3⟩:=Prod.mk.inj e2;obtain⟨e3,e4⟩:=Prod.mk.inj e3;exact⟨Frag.in_of (Cb _) e1,λt ht=>RH (List.map_inj_left.mp e2 t ht),e3,e4⟩
 keeps:=λw h h' x k=>⟨Frag.In.keeps x.K k,λt ht=>by
  obtain⟨c,o,vs,tk,e,ho,hd,hv⟩:=x.code t ht;exact⟨c,o,vs,tk,e,k _ _ ho,hd,hv⟩,k _ _ x.tab,by obtain⟨o,e⟩:=eO.mp x.sys;rw[k _ _ e];rfl⟩
noncomputable abbrev E1:Program:=PySem.Challenge.pw_xm0963_01
noncomputable def vw:Program:=view E1 [69]
noncomputable def loose:List Str:=(E1.main.scope.names.map (·.1)).filter λx=> !(x==("law":Str))
noncomputable abbrev zX:OpenRow:=OpenLaw.row PySem.Challenge.rw_xm0963_01
noncomputable def xt(s:Shared):Bool:=xlAt vw [] s&&recOk (RowW.records (OpenRow.toRowW zX)) s
theorem e0:opening E1=plainProg E1.main.scope.names:=by kernel_rfl
theorem f0:∀s,fenceModules? E1 s=some s:=by intro s;kernel_rfl
noncomputable def eS(w:World):Prop:=(λos=>(nB treeTable E1 w 11 (some (.ref 6)) 8000 (bs w os) (topStub E1)).map (looksAt E1 vw loose xt hk.obs true w))=λ_=>some (true,openGood vw loose,hk.val w)
theorem Nj:∀w:World,eS (w.withFollow row false):=by intro w;unfold eS;kernel_rfl
theorem Oj:∀w:World,eS (w.withFollow row true):=by intro w;unfold eS;kernel_rfl
theorem left:LeftO E1 vw loose xt hk.obs hk.val 8000 true:=lQ e0 (by decide) f0 (λw=>byRow2 row (P:=eS) Nj Oj w)
theorem D0{A B:Prop}{G:Prop}(h:A/\B)(f:A->B->G):G:=f h.1 h.2
theorem R2{A B C:Prop}{G:Prop}(h:A/\B/\C)(f:A->B->C->G):G:=f h.1 h.2.1 h.2.2
theorem kD{A B C D:Prop}{G:Prop}(h:A/\B/\C/\D)(f:A->B->C->D->G):G:=f h.1 h.2.1 h.2.2.1 h.2.2.2
theorem AE{A B C D E:Prop}{G:Prop}(h:A/\B/\C/\D/\E)(f:A->B->C->D->E->G):G:=f h.1 h.2.1 h.2.2.1 h.2.2.2.1 h.2.2.2.2
theorem Eb{A B C D E F:Prop}{G:Prop}(h:A/\B/\C/\D/\E/\F)(f:A->B->C->D->E->F->G):G:=f h.1 h.2.1 h.2.2.1 h.2.2.2.1 h.2.2.2.2.1 h.2.2.2.2.2
theorem O0{r7:Sort _}{A:r7->Prop}{G:Prop}(h:∃x,A x)(f:∀x,A x->G):G:=Exists.elim h λx q=>f x q
theorem u0{r7:Sort _}{A B:r7->Prop}{G:Prop}(h:∃x,A x/\B x)(f:∀x,A x->B x->G):G:=Exists.elim h λx q=>f x q.1 q.2
theorem J3{r7:Sort _}{A B C:r7->Prop}{G:Prop}(h:∃x,A x/\B x/\C x)(f:∀x,A x->B x->C x->G):G:=Exists.elim h λx q=>f x q.1 q.2.1 q.2.2
theorem I7{r7:Sort _}{A B C D:r7->Prop}{G:Prop}(h:∃x,A x/\B x/\C x/\D x)(f:∀x,A x->B x->C x->D x->G):G:=Exists.elim h λx q=>f x q.1 q.2.1 q.2.2.1 q.2.2.2
theorem b8{r7:Sort _}{A B C D E:r7->Prop}{G:Prop}(h:∃x,A x/\B x/\C x/\D x/\E x)(f:∀x,A x->B x->C x->D x->E x->G):G:=Exists.elim h λx q=>f x q.1 q.2.1 q.2.2.1 q.2.2.2.1 q.2.2.2.2
theorem w6{r7:Sort _}{y8:Sort _}{A:r7->y8->Prop}{G:Prop}(h:∃x y,A x y)(f:∀x y,A x y->G):G:=Exists.elim h λx q1=>Exists.elim q1 λy q=>f x y q
theorem A3{r7:Sort _}{y8:Sort _}{A B:r7->y8->Prop}{G:Prop}(h:∃x y,A x y/\B x y)(f:∀x y,A x y->B x y->G):G:=Exists.elim h λx q1=>Exists.elim q1 λy q=>f x y q.1 q.2
theorem U1{r7:Sort _}{y8:Sort _}{A B C:r7->y8->Prop}{G:Prop}(h:∃x y,A x y/\B x y/\C x y)(f:∀x y,A x y->B x y->C x y->G):G:=Exists.elim h λx q1=>Exists.elim q1 λy q=>f x y q.1 q.2.1 q.2.2
theorem YG{r7:Sort _}{y8:Sort _}{A B C D:r7->y8->Prop}{G:Prop}(h:∃x y,A x y/\B x y/\C x y/\D x y)(f:∀x y,A x y->B x y->C x y->D x y->G):G:=Exists.elim h λx q1=>Exists.elim q1 λy q=>f x y q.1 q.2.1 q.2.2.1 q.2.2.2
theorem SJ{r7:Sort _}{y8:Sort _}{A B C D E:r7->y8->Prop}{G:Prop}(h:∃x y,A x y/\B x y/\C x y/\D x y/\E x y)(f:∀x y,A x y->B x y->C x y->D x y->E x y->G):G:=Exists.elim h λx q1=>Exists.elim q1 λy q=>f x y q.1 q.2.1 q.2.2.1 q.2.2.2.1 q.2.2.2.2
theorem Pj{r7:Sort _}{y8:Sort _}{GA:Sort _}{A:r7->y8->GA->Prop}{G:Prop}(h:∃x y z,A x y z)(f:∀x y z,A x y z->G):G:=Exists.elim h λx q1=>Exists.elim q1 λy q2=>Exists.elim q2 λz q=>f x y z q
theorem V3{r7:Sort _}{y8:Sort _}{GA:Sort _}{A B:r7->y8->GA->Prop}{G:Prop}(h:∃x y z,A x y z/\B x y z)(f:∀x y z,A x y z->B x y z->G):G:=Exists.elim h λx q1=>Exists.elim q1 λy q2=>Exists.elim q2 λz q=>f x y z q.1 q.2
theorem T3{r7:Sort _}{y8:Sort _}{GA:Sort _}{A B C:r7->y8->GA->Prop}{G:Prop}(h:∃x y z,A x y z/\B x y z/\C x y z)(f:∀x y z,A x y z->B x y z->C x y z->G):G:=Exists.elim h λx q1=>Exists.elim q1 λy q2=>Exists.elim q2 λz q=>f x y z q.1 q.2.1 q.2.2
theorem jO{r7:Sort _}{y8:Sort _}{GA:Sort _}{A B C D:r7->y8->GA->Prop}{G:Prop}(h:∃x y z,A x y z/\B x y z/\C x y z/\D x y z)(f:∀x y z,A x y z->B x y z->C x y z->D x y z->G):G:=Exists.elim h λx q1=>Exists.elim q1 λy q2=>Exists.elim q2 λz q=>f x y z q.1 q.2.1 q.2.2.1 q.2.2.2
theorem BE{r7:Sort _}{y8:Sort _}{GA:Sort _}{A B C D E:r7->y8->GA->Prop}{G:Prop}(h:∃x y z,A x y z/\B x y z/\C x y z/\D x y z/\E x y z)(f:∀x y z,A x y z->B x y z->C x y z->D x y z->E x y z->G):G:=Exists.elim h λx q1=>Exists.elim q1 λy q2=>Exists.elim q2 λz q=>f x y z q.1 q.2.1 q.2.2.1 q.2.2.2.1 q.2.2.2.2
theorem AA{r7:Sort _}{y8:Sort _}{GA:Sort _}{A B C D E F:r7->y8->GA->Prop}{G:Prop}(h:∃x y z,A x y z/\B x y z/\C x y z/\D x y z/\E x y z/\F x y z)(f:∀x y z,A x y z->B x y z->C x y z->D x y z->E x y z->F x y z->G):G:=Exists.elim h λx q1=>Exists.elim q1 λy q2=>Exists.elim q2 λz q=>f x y z q.1 q.2.1 q.2.2.1 q.2.2.2.1 q.2.2.2.2.1 q.2.2.2.2.2
theorem TJ{r7:Sort _}{y8:Sort _}{GA:Sort _}{SH:Sort _}{A:r7->y8->GA->SH->Prop}{G:Prop}(h:∃x y z u,A x y z u)(f:∀x y z u,A x y z u->G):G:=Exists.elim h λx q1=>Exists.elim q1 λy q2=>Exists.elim q2 λz q3=>Exists.elim q3 λu q=>f x y z u q
theorem mD{r7:Sort _}{y8:Sort _}{GA:Sort _}{SH:Sort _}{A B:r7->y8->GA->SH->Prop}{G:Prop}(h:∃x y z u,A x y z u/\B x y z u)(f:∀x y z u,A x y z u->B x y z u->G):G:=Exists.elim h λx q1=>Exists.elim q1 λy q2=>Exists.elim q2 λz q3=>Exists.elim q3 λu q=>f x y z u q.1 q.2
theorem BA{r7:Sort _}{y8:Sort _}{GA:Sort _}{SH:Sort _}{A B C:r7->y8->GA->SH->Prop}{G:Prop}(h:∃x y z u,A x y z u/\B x y z u/\C x y z u)(f:∀x y z u,A x y z u->B x y z u->C x y z u->G):G:=Exists.elim h λx q1=>Exists.elim q1 λy q2=>Exists.elim q2 λz q3=>Exists.elim q3 λu q=>f x y z u q.1 q.2.1 q.2.2
theorem pB{r7:Sort _}{y8:Sort _}{GA:Sort _}{SH:Sort _}{A B C D:r7->y8->GA->SH->Prop}{G:Prop}(h:∃x y z u,A x y z u/\B x y z u/\C x y z u/\D x y z u)(f:∀x y z u,A x y z u->B x y z u->C x y z u->D x y z u->G):G:=Exists.elim h λx q1=>Exists.elim q1 λy q2=>Exists.elim q2 λz q3=>Exists.elim q3 λu q=>f x y z u q.1 q.2.1 q.2.2.1 q.2.2.2
theorem tB{r7:Sort _}{y8:Sort _}{GA:Sort _}{SH:Sort _}{A B C D E:r7->y8->GA->SH->Prop}{G:Prop}(h:∃x y z u,A x y z u/\B x y z u/\C x y z u/\D x y z u/\E x y z u)(f:∀x y z u,A x y z u->B x y z u->C x y z u->D x y z u->E x y z u->G):G:=Exists.elim h λx q1=>Exists.elim q1 λy q2=>Exists.elim q2 λz q3=>Exists.elim q3 λu q=>f x y z u q.1 q.2.1 q.2.2.1 q.2.2.2.1 q.2.2.2.2
theorem DE{r7:Sort _}{y8:Sort _}{GA:Sort _}{SH:Sort _}{A B C D E F:r7->y8->GA->SH->Prop}{G:Prop}(h:∃x y z u,A x y z u/\B x y z u/\C x y z u/\D x y z u/\E x y z u/\F x y z u)(f:∀x y z u,A x y z u->B x y z u->C x y z u->D x y z u->E x y z u->F x y z u->G):G:=Exists.elim h λx q1=>Exists.elim q1 λy q2=>Exists.elim q2 λz q3=>Exists.elim q3 λu q=>f x y z u q.1 q.2.1 q.2.2.1 q.2.2.2.1 q.2.2.2.2.1 q.2.2.2.2.2
theorem UJ{r7:Sort _}{y8:Sort _}{GA:Sort _}{SH:Sort _}{Wd:Sort _}{A B:r7->y8->GA->SH->Wd->Prop}{G:Prop}(h:∃x y z u v,A x y z u v/\B x y z u v)(f:∀x y z u v,A x y z u v->B x y z u v->G):G:=Exists.elim h λx q1=>Exists.elim q1 λy q2=>Exists.elim q2 λz q3=>Exists.elim q3 λu q4=>Exists.elim q4 λv q=>f x y z u v q.1 q.2
theorem EE{r7:Sort _}{y8:Sort _}{GA:Sort _}{SH:Sort _}{Wd:Sort _}{A B C:r7->y8->GA->SH->Wd->Prop}{G:Prop}(h:∃x y z u v,A x y z u v/\B x y z u v/\C x y z u v)(f:∀x y z u v,A x y z u v->B x y z u v->C x y z u v->G):G:=Exists.elim h λx q1=>Exists.elim q1 λy q2=>Exists.elim q2 λz q3=>Exists.elim q3 λu q4=>Exists.elim q4 λv q=>f x y z u v q.1 q.2.1 q.2.2
theorem Fb{r7:Sort _}{y8:Sort _}{GA:Sort _}{SH:Sort _}{Wd:Sort _}{A B C D E F:r7->y8->GA->SH->Wd->Prop}{G:Prop}(h:∃x y z u v,A x y z u v/\B x y z u v/\C x y z u v/\D x y z u v/\E x y z u v/\F x y z u v)(f:∀x y z u v,A x y z u v->B x y z u v->C x y z u v->D x y z u v->E x y z u v->F x y z u v->G):G:=Exists.elim h λx q1=>Exists.elim q1 λy q2=>Exists.elim q2 λz q3=>Exists.elim q3 λu q4=>Exists.elim q4 λv q=>f x y z u v q.1 q.2.1 q.2.2.1 q.2.2.2.1 q.2.2.2.2.1 q.2.2.2.2.2
theorem Qj{r7:Sort _}{y8:Sort _}{GA:Sort _}{SH:Sort _}{Wd:Sort _}{α5:Sort _}{α6:Sort _}{A B:r7->y8->GA->SH->Wd->α5->α6->Prop}{G:Prop}(h:∃x y z u v w x1,A x y z u v w x1/\B x y z u v w x1)(f:∀x y z u v w x1,A x y z u v w x1->B x y z u v w x1->G):G:=Exists.elim h λx q1=>Exists.elim q1 λy q2=>Exists.elim q2 λz q3=>Exists.elim q3 λu q4=>Exists.elim q4 λv q5=>Exists.elim q5 λw q6=>Exists.elim q6 λx1 q=>f x y z u v w x1 q.1 q.2
@[elab_as_elim] theorem rwg {α:Sort _} {a b:α} {p:α->Prop} (e:a=b) (h:p b):p a:=e▸h
theorem pS{Q:Nat->Prop}{n a:Nat}(h:a<n+1)(q:Q 0)(k:∀b,b<n->Q (b+1)):Q a:=by
 induction a using iB with
 |zero=>exact q
 |succ b=>exact k b (Nat.lt_of_succ_lt_succ h)
@[elab_as_elim] theorem p1 {Q:Nat->Prop} {a:Nat} (h:a<1) (q0:Q 0):Q a:=pS (Q:=Q) (n:=0) h q0 λb h=>absurd h (Nat.not_lt_zero b)
@[elab_as_elim] theorem p2 {Q:Nat->Prop} {a:Nat} (h:a<2) (q0:Q 0) (q1:Q 1):Q a:=pS (Q:=Q) (n:=1) h q0 λb h=>p1 (Q:=λb=>Q (b+1)) h q1
@[elab_as_elim] theorem p3 {Q:Nat->Prop} {a:Nat} (h:a<3) (q0:Q 0) (q1:Q 1) (q2:Q 2):Q a:=pS (Q:=Q) (n:=2) h q0 λb h=>p2 (Q:=λb=>Q (b+1)) h q1 q2
@[elab_as_elim] theorem p4 {Q:Nat->Prop} {a:Nat} (h:a<4) (q0:Q 0) (q1:Q 1) (q2:Q 2) (q3:Q 3):Q a:=pS (Q:=Q) (n:=3) h q0 λb h=>p3 (Q:=λb=>Q (b+1)) h q1 q2 q3
@[elab_as_elim] theorem p5 {Q:Nat->Prop} {a:Nat} (h:a<5) (q0:Q 0) (q1:Q 1) (q2:Q 2) (q3:Q 3) (q4:Q 4):Q a:=pS (Q:=Q) (n:=4) h q0 λb h=>p4 (Q:=λb=>Q (b+1)) h q1 q2 q3 q4
@[elab_as_elim] theorem p6 {Q:Nat->Prop} {a:Nat} (h:a<6) (q0:Q 0) (q1:Q 1) (q2:Q 2) (q3:Q 3) (q4:Q 4) (q5:Q 5):Q a:=pS (Q:=Q) (n:=5) h q0 λb h=>p5 (Q:=λb=>Q (b+1)) h q1 q2 q3 q4 q5
@[elab_as_elim] theorem p7 {Q:Nat->Prop} {a:Nat} (h:a<7) (q0:Q 0) (q1:Q 1) (q2:Q 2) (q3:Q 3) (q4:Q 4) (q5:Q 5) (q6:Q 6):Q a:=pS (Q:=Q) (n:=6) h q0 λb h=>p6 (Q:=λb=>Q (b+1)) h q1 q2 q3 q4 q5 q6
@[elab_as_elim] theorem p8 {Q:Nat->Prop} {a:Nat} (h:a<8) (q0:Q 0) (q1:Q 1) (q2:Q 2) (q3:Q 3) (q4:Q 4) (q5:Q 5) (q6:Q 6) (q7:Q 7):Q a:=pS (Q:=Q) (n:=7) h q0 λb h=>p7 (Q:=λb=>Q (b+1)) h q1 q2 q3 q4 q5 q6 q7
noncomputable def ZG(x:Str)(l:List Str):Bool:=List.rec (motive:=λ_=>Bool) true (λy _ ih=>bif sq y x then false else ih) l
noncomputable def Gb(l:List Str):Bool:=List.rec (motive:=λ_=>Bool) true (λx r ih=>bif ZG x r then ih else false) l
noncomputable def w7{α:Type}(o:Option α)(f:α->Prop)(d:Prop):Prop:=Option.rec (motive:=λ_=>Prop) d f o
noncomputable def on{α:Type}(o:Option α)(k:Nat)(f:α->Prop):Prop:=w7 o f (No k)
noncomputable def uG(c:Bool)(p q:Prop):Prop:=Bool.rec (motive:=λ_=>Prop) q p c
theorem G2{P:Prop}(h:false=true):P:=Bool.noConfusion h
theorem vG{P:Prop}(h:true=false):P:=Bool.noConfusion h
theorem A0{α:Type}{a:α}{P:Prop}(h:none=some a):P:=Option.noConfusion rfl (heq_of_eq h)
theorem MR{α:Type}{a:α}{P:Prop}(h:some a=none):P:=A0 h.symm
theorem Zi{α:Type}{a:α}{l:List α}{P:Prop}(h:[]=a::l):P:=absurd h.symm (List.cons_ne_nil a l)
theorem Rj{α:Type}{a:α}{l:List α}{P:Prop}(h:a::l=[]):P:=absurd h (List.cons_ne_nil a l)
theorem No.no{k:Nat}{G:Prop}(h:No k):G:=nomatch h
theorem K2{α:Type}{o:Option α}{f:α->Prop}{d G:Prop}(h:w7 o f d)(k:∀a,o=some a->f a->G)(n:d->G):G:=by
 induction o using opQ with
 |none=>exact n h
 |some a=>exact k a rfl h
theorem E0{α:Type}{o:Option α}{n:Nat}{f:α->Prop}{G:Prop}(h:on o n f)(k:∀a,o=some a->f a->G):G:=K2 h k No.no
theorem G6{c:Bool}{p q G:Prop}(h:uG c p q)(k:c=true->p->G)(n:c=false->q->G):G:=by
 induction c using Q2 with
 |true=>exact k rfl h
 |false=>exact n rfl h
theorem U3{c:Bool}{P G:Prop}(h:gd c P)(k:c=true->P->G):G:=by
 induction c using Q2 with
 |true=>exact k rfl h
 |false=>exact No.no h
theorem Sj{α:Type}{c:Bool}{a b y:α}{G:Prop}(h:(bif c then a else b)=y)(k:c=true->a=y->G)(n:c=false->b=y->G):G:=by
 induction c using Q2 with
 |true=>exact k rfl h
 |false=>exact n rfl h
theorem R1{a b:Bool}{G:Prop}(h:(a&&b)=true)(k:a=true->b=true->G):G:=k (by induction a using Q2;exact h;rfl) (by induction a using Q2;exact nomatch h;exact h)
theorem wG{a b:Bool}{P G:Prop}(h:gd (a&&b) P)(k:a=true->b=true->P->G):G:=U3 h λg p=>R1 g λx y=>k x y p
theorem Qu{a b c:Bool}{P G:Prop}(h:gd (a&&b&&c) P)(k:a=true->b=true->c=true->P->G):G:=wG h λg z p=>R1 g λx y=>k x y z p
noncomputable def ask(s c:Bool)(P:Prop):Prop:=uG s (c=true/\P) (gd c P)
theorem TH{s c:Bool}{P G:Prop}(h:ask s c P)(k:c=true->P->G):G:=G6 h (λ_ z=>k z.1 z.2) λ_ z=>U3 z k
noncomputable def V.cs{β:Type}(d:β)(fi:Bool->Int->β)(fs:Str->β)(fy:Bool->List UInt8->β)(fr:Nat->β)(fm:Dt->β)(v:V):β:=V.rec (motive:=λ_=>β) d (λ_ _=>d) fi fs fy fr fm (λ_=>d) (λ_ _=>d) (λ_=>d) (λ_=>d) (λ_=>d) v
noncomputable def iV:V->Option (Bool×Int):=V.cs none (λs n=>some (s,n)) (λ_=>none) (λ_ _=>none) (λ_=>none) (λ_=>none)
noncomputable def sV:V->Option Str:=V.cs none (λ_ _=>none) some (λ_ _=>none) (λ_=>none) (λ_=>none)
noncomputable def yV:V->Option (Bool×List UInt8):=V.cs none (λ_ _=>none) (λ_=>none) (λs b=>some (s,b)) (λ_=>none) (λ_=>none)
noncomputable def rV:V->Option Nat:=V.cs none (λ_ _=>none) (λ_=>none) (λ_ _=>none) some (λ_=>none)
noncomputable def mV:V->Option Dt:=V.cs none (λ_ _=>none) (λ_=>none) (λ_ _=>none) (λ_=>none) some
theorem VJ{p:Bool×Int}:∀{v:V},iV v=some p->v= .int p.1 p.2:=λ{v}=>V.rec (motive:=λv=>iV v=some p->v= .int p.1 p.2) A0 (λ_ _=>A0) (λ_ _ h=>congrArg (λp:Bool×Int=>V.int p.1 p.2) (si h)) (λ_=>A0) (λ_ _=>A0) (λ_=>A0) (λ_=>A0) (λ_=>A0) (λ_ _=>A0) (λ_=>A0) (λ_=>A0) (λ_=>A0) v
theorem Tj{p:Str}:∀{v:V},sV v=some p->v= .str p:=λ{v}=>V.rec (motive:=λv=>sV v=some p->v= .str p) A0 (λ_ _=>A0) (λ_ _=>A0) (λ_ h=>congrArg V.str (si h)) (λ_ _=>A0) (λ_=>A0) (λ_=>A0) (λ_=>A0) (λ_ _=>A0) (λ_=>A0) (λ_=>A0) (λ_=>A0) v
theorem mQ{p:Bool×List UInt8}:∀{v:V},yV v=some p->v= .bytes p.1 p.2:=λ{v}=>V.rec (motive:=λv=>yV v=some p->v= .bytes p.1 p.2) A0 (λ_ _=>A0) (λ_ _=>A0) (λ_=>A0) (λ_ _ h=>congrArg (λp:Bool×List UInt8=>V.bytes p.1 p.2) (si h)) (λ_=>A0) (λ_=>A0) (λ_=>A0) (λ_ _=>A0) (λ_=>A0) (λ_=>A0) (λ_=>A0) v
theorem uA{p:Nat}:∀{v:V},rV v=some p->v= .ref p:=λ{v}=>V.rec (motive:=λv=>rV v=some p->v= .ref p) A0 (λ_ _=>A0) (λ_ _=>A0) (λ_=>A0) (λ_ _=>A0) (λ_ h=>congrArg V.ref (si h)) (λ_=>A0) (λ_=>A0) (λ_ _=>A0) (λ_=>A0) (λ_=>A0) (λ_=>A0) v
theorem AX{p:Dt}:∀{v:V},mV v=some p->v= .W0 p:=λ{v}=>V.rec (motive:=λv=>mV v=some p->v= .W0 p) A0 (λ_ _=>A0) (λ_ _=>A0) (λ_=>A0) (λ_ _=>A0) (λ_=>A0) (λ_ h=>congrArg V.W0 (si h)) (λ_=>A0) (λ_ _=>A0) (λ_=>A0) (λ_=>A0) (λ_=>A0) v
noncomputable def UH(o:n0):Option (List V):=n0.rec (motive:=λ_=>Option (List V)) some (λ_=>none) (λ_=>none) (λ_ _=>none) (λ_=>none) (λ_=>none) (λ_=>none) (λ_ _ _=>none) (λ_ _=>none) none none (λ_ _=>none) (λ_=>none) o
theorem xG{x:List V}:∀{o:n0},UH o=some x->o= .lst x:=λ{o}=>n0.casesOn (motive:=λo=>UH o=some x->o= .lst x) o (λ_ h=>congrArg n0.lst (si h)) (λ_=>A0) (λ_=>A0) (λ_ _=>A0) (λ_=>A0) (λ_=>A0) (λ_=>A0) (λ_ _ _=>A0) (λ_=>A0) A0 A0 (λ_ _=>A0) (λ_=>A0)
noncomputable def lA(H:List n0)(i:Nat):Option (List V):=(J0 H i).bind UH
theorem Xd(h:lA H i=some x):J0 H i=some (.lst x):=by
 unfold lA at h;induction e:J0 H i using opQ with
 |none=>rw[e] at h;cases h
 |some o=>rw[e] at h;exact congrArg some (xG h)
theorem u3{α β:Type}{o:Option α}{f:α->Option β}{y:β}{G:Prop}(h:o.bind f=some y)(k:∀a,o=some a->f a=some y->G):G:=by
 induction o using opQ with
 |none=>exact A0 h
 |some a=>exact k a rfl h
theorem B5{α β:Type}{o:Option α}{f:α->β}{y:β}{G:Prop}(h:o.map f=some y)(k:∀a,o=some a->f a=y->G):G:=by
 induction o using opQ with
 |none=>exact A0 h
 |some a=>exact k a rfl (si h)
noncomputable def gO{α:Type}(c:Bool)(o:Option α):Option α:=Bool.rec (motive:=λ_=>Option α) none o c
theorem A4{α:Type}{c:Bool}{o:Option α}{y:α}{G:Prop}(h:gO c o=some y)(k:c=true->o=some y->G):G:=by
 induction c using Q2 with
 |false=>exact A0 h
 |true=>exact k rfl h
noncomputable def tO(o:n0):Option (List V):=n0.casesOn (motive:=λ_=>Option (List V)) o (λ_=>none) some (λ_=>none) (λ_ _=>none) (λ_=>none) (λ_=>none) (λ_=>none) (λ_ _ _=>none) (λ_=>none) none none (λ_ _=>none) (λ_=>none)
noncomputable def qO(o:n0):Option (Bool×List V):=n0.casesOn (motive:=λ_=>Option (Bool×List V)) o (λl=>some (true,l)) (λl=>some (false,l)) (λ_=>none) (λ_ _=>none) (λ_=>none) (λ_=>none) (λ_=>none) (λ_ _ _=>none) (λ_=>none) none none (λ_ _=>none) (λ_=>none)
noncomputable def Hb(o:n0):Option (List (Str×V)):=n0.casesOn (motive:=λ_=>Option (List (Str×V))) o (λ_=>none) (λ_=>none) (λ_=>none) (λ_ _=>none) some (λ_=>none) (λ_=>none) (λ_ _ _=>none) (λ_=>none) none none (λ_ _=>none) (λ_=>none)
noncomputable def BX(o:n0):Option (List (Int×V)):=n0.casesOn (motive:=λ_=>Option (List (Int×V))) o (λ_=>none) (λ_=>none) (λ_=>none) (λ_ _=>none) (λ_=>none) some (λ_=>none) (λ_ _ _=>none) (λ_=>none) none none (λ_ _=>none) (λ_=>none)
noncomputable def DX(o:n0):Option (List (Dt×V×V)):=n0.casesOn (motive:=λ_=>Option (List (Dt×V×V))) o (λ_=>none) (λ_=>none) (λ_=>none) (λ_ _=>none) (λ_=>none) (λ_=>none) some (λ_ _ _=>none) (λ_=>none) none none (λ_ _=>none) (λ_=>none)
noncomputable def kX(o:n0):Option (Bool×List Ent):=n0.casesOn (motive:=λ_=>Option (Bool×List Ent)) o (λ_=>none) (λ_=>none) (λ_=>none) (λ_ _=>none) (λ_=>none) (λ_=>none) (λ_=>none) (λ_ _ _=>none) (λ_=>none) none none (λb l=>some (b,l)) (λ_=>none)
theorem Ru{x:List V}{o:n0}:tO o=some x->o= .tup x:=n0.casesOn (motive:=λo=>tO o=some x->o= .tup x) o (λ_=>A0) (λ_ h=>congrArg n0.tup (si h)) (λ_=>A0) (λ_ _=>A0) (λ_=>A0) (λ_=>A0) (λ_=>A0) (λ_ _ _=>A0) (λ_=>A0) A0 A0 (λ_ _=>A0) (λ_=>A0)
theorem Yd:qO o=some x->o=cond x.1 (.lst x.2) (.tup x.2):=n0.casesOn (motive:=λo=>qO o=some x->o=cond x.1 (.lst x.2) (.tup x.2)) o (λ_ h=>congrArg (λx:Bool×List V=>cond x.1 (n0.lst x.2) (.tup x.2)) (si h)) (λ_ h=>congrArg (λx:Bool×List V=>cond x.1 (n0.lst x.2) (.tup x.2)) (si h)) (λ_=>A0) (λ_ _=>A0) (λ_=>A0) (λ_=>A0) (λ_=>A0) (λ_ _ _=>A0) (λ_=>A0) A0 A0 (λ_ _=>A0) (λ_=>A0)
theorem Ib:Hb o=some x->o= .dS x:=n0.casesOn (motive:=λo=>Hb o=some x->o= .dS x) o (λ_=>A0) (λ_=>A0) (λ_=>A0) (λ_ _=>A0) (λ_ h=>congrArg n0.dS (si h)) (λ_=>A0) (λ_=>A0) (λ_ _ _=>A0) (λ_=>A0) A0 A0 (λ_ _=>A0) (λ_=>A0)
theorem Jb:BX o=some x->o= .dI x:=n0.casesOn (motive:=λo=>BX o=some x->o= .dI x) o (λ_=>A0) (λ_=>A0) (λ_=>A0) (λ_ _=>A0) (λ_=>A0) (λ_ h=>congrArg n0.dI (si h)) (λ_=>A0) (λ_ _ _=>A0) (λ_=>A0) A0 A0 (λ_ _=>A0) (λ_=>A0)
theorem fS:DX o=some x->o= .dT x:=n0.casesOn (motive:=λo=>DX o=some x->o= .dT x) o (λ_=>A0) (λ_=>A0) (λ_=>A0) (λ_ _=>A0) (λ_=>A0) (λ_=>A0) (λ_ h=>congrArg n0.dT (si h)) (λ_ _ _=>A0) (λ_=>A0) A0 A0 (λ_ _=>A0) (λ_=>A0)
theorem kO:kX o=some x->o= .dN x.1 x.2:=n0.casesOn (motive:=λo=>kX o=some x->o= .dN x.1 x.2) o (λ_=>A0) (λ_=>A0) (λ_=>A0) (λ_ _=>A0) (λ_=>A0) (λ_=>A0) (λ_=>A0) (λ_ _ _=>A0) (λ_=>A0) A0 A0 (λ_ _ h=>congrArg (λx:Bool×List Ent=>n0.dN x.1 x.2) (si h)) (λ_=>A0)
noncomputable def uC{α:Type}(f:n0->Option α)(H:List n0)(v:V):Option α:=(rV v).bind λi=>(ct H i).bind f
noncomputable def tD(d:Dt):Option (List Dt):=Dt.casesOn (motive_1:=λ_=>Option (List Dt)) d none (λ_ _=>none) (λ_ _=>none) (λ_=>none) (λ_ _=>none) some (λ_=>none) (λ_ _ _=>none)
noncomputable def lD(d:Dt):Option (List Dt):=Dt.casesOn (motive_1:=λ_=>Option (List Dt)) d none (λ_ _=>none) (λ_ _=>none) (λ_=>none) (λ_ _=>none) (λ_=>none) some (λ_ _ _=>none)
noncomputable def dt(d:Dt):Option (Bool×List Dt):=Dt.casesOn (motive_1:=λ_=>Option (Bool×List Dt)) d none (λ_ _=>none) (λ_ _=>none) (λ_=>none) (λ_ _=>none) (λl=>some (false,l)) (λl=>some (true,l)) (λ_ _ _=>none)
noncomputable def iD(d:Dt):Option (Bool×Int):=Dt.casesOn (motive_1:=λ_=>Option (Bool×Int)) d none (λ_ _=>none) (λs n=>some (s,n)) (λ_=>none) (λ_ _=>none) (λ_=>none) (λ_=>none) (λ_ _ _=>none)
noncomputable def sD(d:Dt):Option Str:=Dt.casesOn (motive_1:=λ_=>Option Str) d none (λ_ _=>none) (λ_ _=>none) some (λ_ _=>none) (λ_=>none) (λ_=>none) (λ_ _ _=>none)
noncomputable def yD(d:Dt):Option (Bool×List UInt8):=Dt.casesOn (motive_1:=λ_=>Option (Bool×List UInt8)) d none (λ_ _=>none) (λ_ _=>none) (λ_=>none) (λs b=>some (s,b)) (λ_=>none) (λ_=>none) (λ_ _ _=>none)
theorem yG:tD d=some x->d= .tup x:=Dt.casesOn (motive_1:=λd=>tD d=some x->d= .tup x) d A0 (λ_ _=>A0) (λ_ _=>A0) (λ_=>A0) (λ_ _=>A0) (λ_ h=>congrArg Dt.tup (si h)) (λ_=>A0) (λ_ _ _=>A0)
theorem Zd:lD d=some x->d= .lst x:=Dt.casesOn (motive_1:=λd=>lD d=some x->d= .lst x) d A0 (λ_ _=>A0) (λ_ _=>A0) (λ_=>A0) (λ_ _=>A0) (λ_=>A0) (λ_ h=>congrArg Dt.lst (si h)) (λ_ _ _=>A0)
theorem Uj:dt d=some x->d=cond x.1 (.lst x.2) (.tup x.2):=Dt.casesOn (motive_1:=λd=>dt d=some x->d=cond x.1 (.lst x.2) (.tup x.2)) d A0 (λ_ _=>A0) (λ_ _=>A0) (λ_=>A0) (λ_ _=>A0) (λ_ h=>congrArg (λx:Bool×List Dt=>cond x.1 (Dt.lst x.2) (.tup x.2)) (si h)) (λ_ h=>congrArg (λx:Bool×List Dt=>cond x.1 (Dt.lst x.2) (.tup x.2)) (si h)) (λ_ _ _=>A0)
theorem z8:iD d=some x->d= .int x.1 x.2:=Dt.casesOn (motive_1:=λd=>iD d=some x->d= .int x.1 x.2) d A0 (λ_ _=>A0) (λ_ _ h=>congrArg (λx:Bool×Int=>Dt.int x.1 x.2) (si h)) (λ_=>A0) (λ_ _=>A0) (λ_=>A0) (λ_=>A0) (λ_ _ _=>A0)
theorem gS:sD d=some x->d= .str x:=Dt.casesOn (motive_1:=λd=>sD d=some x->d= .str x) d A0 (λ_ _=>A0) (λ_ _=>A0) (λ_ h=>congrArg Dt.str (si h)) (λ_ _=>A0) (λ_=>A0) (λ_=>A0) (λ_ _ _=>A0)
theorem nQ:yD d=some x->d= .bytes x.1 x.2:=Dt.casesOn (motive_1:=λd=>yD d=some x->d= .bytes x.1 x.2) d A0 (λ_ _=>A0) (λ_ _=>A0) (λ_=>A0) (λ_ _ h=>congrArg (λx:Bool×List UInt8=>Dt.bytes x.1 x.2) (si h)) (λ_=>A0) (λ_=>A0) (λ_ _ _=>A0)
noncomputable def Lb(H:List n0)(v:V):Option (Bool×List V):=Option.rec (motive:=λ_=>Option (Bool×List V)) ((mV v).bind λd=>(dt d).map λp=>(p.1,p.2.map V.T5)) (λi=>(ct H i).bind qO) (rV v)
noncomputable def qM(n:Int):Option Nat:=Int.rec (motive:=λ_=>Option Nat) some (λ_=>none) n
theorem FE(h:qM n=some k):n=(k:Int):=by
 induction n using Int.casesOn with
 |ofNat m=>exact congrArg Int.ofNat (si h)
 |negSucc m=>exact A0 h
noncomputable def two{α:Type}(l:List α):Option (α×α):=List.rec (motive:=λ_=>Option (α×α)) none (λa r _=>List.rec (motive:=λ_=>Option (α×α)) none (λb q _=>List.rec (motive:=λ_=>Option (α×α)) (some (a,b)) (λ_ _ _=>none) q) r) l
noncomputable def one{α:Type}(l:List α):Option α:=List.rec (motive:=λ_=>Option α) none (λa r _=>List.rec (motive:=λ_=>Option α) (some a) (λ_ _ _=>none) r) l
theorem A8(h:one l=some p):l=[p]:=by
 induction l using H5 with
 |nil=>exact A0 h
 |cons a r=>
  induction r using H5 with
  |nil=>exact congrArg (λp=>[p]) (si h)
  |cons _ _=>exact A0 h
theorem J7{α:Type}{l:List α}{p:α×α}(h:two l=some p):l=[p.1,p.2]:=by
 induction l using H5 with
 |nil=>exact A0 h
 |cons a r=>
  induction r using H5 with
  |nil=>exact A0 h
  |cons b r=>
   induction r using H5 with
   |nil=>exact congrArg (λp:α×α=>[p.1,p.2]) (si h)
   |cons _ _=>exact A0 h
noncomputable def iS(e:Expr):Option (Str×Pos):=Expr.casesOn (motive_1:=λ_=>Option (Str×Pos)) e (λ_ _ _=>none) (λ_ _ _=>none) (λ_ _ _ _=>none) (λ_ _ _=>none) (λ_ _ _ _=>none) (λ_ _ _ _=>none) (λ_ _ _=>none) (λ_ _ _=>none) (λ_ _ _ _=>none) (λ_ _ _ _=>none) (λ_ _ _ _ _=>none) (λ_ _ _ _=>none) (λ_ _=>none) (λ_ _=>none) (λ_ _=>none) (λ_ _ _ _=>none) (λ_ _ _ _=>none) (λ_ _ _ _=>none) (λ_ _=>none) (λ_ _ _=>none) (λ_ _ _=>none) (λ_ _ _=>none) (λ_ _=>none) (λx p=>some (x,p)) (λ_ _=>none) (λ_ _ _=>none) (λ_ _ _ _=>none)
theorem aH:iS e=some x->e=Expr.Name x.1 x.2:=Expr.casesOn (motive_1:=λe=>iS e=some x->e=Expr.Name x.1 x.2) e (λ_ _ _=>A0) (λ_ _ _=>A0) (λ_ _ _ _=>A0) (λ_ _ _=>A0) (λ_ _ _ _=>A0) (λ_ _ _ _=>A0) (λ_ _ _=>A0) (λ_ _ _=>A0) (λ_ _ _ _=>A0) (λ_ _ _ _=>A0) (λ_ _ _ _ _=>A0) (λ_ _ _ _=>A0) (λ_ _=>A0) (λ_ _=>A0) (λ_ _=>A0) (λ_ _ _ _=>A0) (λ_ _ _ _=>A0) (λ_ _ _ _=>A0) (λ_ _=>A0) (λ_ _ _=>A0) (λ_ _ _=>A0) (λ_ _ _=>A0) (λ_ _=>A0) (λ_ _ h=>congrArg (λx:Str×Pos=>Expr.Name x.1 x.2) (si h)) (λ_ _=>A0) (λ_ _ _=>A0) (λ_ _ _ _=>A0)
noncomputable def EX(e:Expr):Option (List Expr×Nat×Pos):=Expr.casesOn (motive_1:=λ_=>Option (List Expr×Nat×Pos)) e (λ_ _ _=>none) (λ_ _ _=>none) (λ_ _ _ _=>none) (λ_ _ _=>none) (λ_ _ _ _=>none) (λ_ _ _ _=>none) (λ_ _ _=>none) (λ_ _ _=>none) (λ_ _ _ _=>none) (λ_ _ _ _=>none) (λ_ _ _ _ _=>none) (λ_ _ _ _=>none) (λ_ _=>none) (λ_ _=>none) (λ_ _=>none) (λ_ _ _ _=>none) (λ_ _ _ _=>none) (λ_ _ _ _=>none) (λ_ _=>none) (λ_ _ _=>none) (λ_ _ _=>none) (λ_ _ _=>none) (λ_ _=>none) (λ_ _=>none) (λ_ _=>none) (λx k p=>some (x,k,p)) (λ_ _ _ _=>none)
theorem cH:EX e=some x->e=Expr.Tuple x.1 x.2.1 x.2.2:=Expr.casesOn (motive_1:=λe=>EX e=some x->e=Expr.Tuple x.1 x.2.1 x.2.2) e (λ_ _ _=>A0) (λ_ _ _=>A0) (λ_ _ _ _=>A0) (λ_ _ _=>A0) (λ_ _ _ _=>A0) (λ_ _ _ _=>A0) (λ_ _ _=>A0) (λ_ _ _=>A0) (λ_ _ _ _=>A0) (λ_ _ _ _=>A0) (λ_ _ _ _ _=>A0) (λ_ _ _ _=>A0) (λ_ _=>A0) (λ_ _=>A0) (λ_ _=>A0) (λ_ _ _ _=>A0) (λ_ _ _ _=>A0) (λ_ _ _ _=>A0) (λ_ _=>A0) (λ_ _ _=>A0) (λ_ _ _=>A0) (λ_ _ _=>A0) (λ_ _=>A0) (λ_ _=>A0) (λ_ _=>A0) (λ_ _ _ h=>congrArg (λx:List Expr×Nat×Pos=>Expr.Tuple x.1 x.2.1 x.2.2) (si h)) (λ_ _ _ _=>A0)
noncomputable def Su(e:Expr):Option (Option Expr×Option Expr×Option Expr×Pos):=Expr.casesOn (motive_1:=λ_=>Option (Option Expr×Option Expr×Option Expr×Pos)) e (λ_ _ _=>none) (λ_ _ _=>none) (λ_ _ _ _=>none) (λ_ _ _=>none) (λ_ _ _ _=>none) (λ_ _ _ _=>none) (λ_ _ _=>none) (λ_ _ _=>none) (λ_ _ _ _=>none) (λ_ _ _ _=>none) (λ_ _ _ _ _=>none) (λ_ _ _ _=>none) (λ_ _=>none) (λ_ _=>none) (λ_ _=>none) (λ_ _ _ _=>none) (λ_ _ _ _=>none) (λ_ _ _ _=>none) (λ_ _=>none) (λ_ _ _=>none) (λ_ _ _=>none) (λ_ _ _=>none) (λ_ _=>none) (λ_ _=>none) (λ_ _=>none) (λ_ _ _=>none) (λa b c d=>some (a,b,c,d))
theorem Vj:Su e=some x->e=Expr.Slice x.1 x.2.1 x.2.2.1 x.2.2.2:=Expr.casesOn (motive_1:=λe=>Su e=some x->e=Expr.Slice x.1 x.2.1 x.2.2.1 x.2.2.2) e (λ_ _ _=>A0) (λ_ _ _=>A0) (λ_ _ _ _=>A0) (λ_ _ _=>A0) (λ_ _ _ _=>A0) (λ_ _ _ _=>A0) (λ_ _ _=>A0) (λ_ _ _=>A0) (λ_ _ _ _=>A0) (λ_ _ _ _=>A0) (λ_ _ _ _ _=>A0) (λ_ _ _ _=>A0) (λ_ _=>A0) (λ_ _=>A0) (λ_ _=>A0) (λ_ _ _ _=>A0) (λ_ _ _ _=>A0) (λ_ _ _ _=>A0) (λ_ _=>A0) (λ_ _ _=>A0) (λ_ _ _=>A0) (λ_ _ _=>A0) (λ_ _=>A0) (λ_ _=>A0) (λ_ _=>A0) (λ_ _ _=>A0) (λa b c d h=>congrArg (λx:Option Expr×Option Expr×Option Expr×Pos=>Expr.Slice x.1 x.2.1 x.2.2.1 x.2.2.2) (si h))
noncomputable def Tu(e:Expr):Option (Expr×Str×Pos):=Expr.casesOn (motive_1:=λ_=>Option (Expr×Str×Pos)) e (λ_ _ _=>none) (λ_ _ _=>none) (λ_ _ _ _=>none) (λ_ _ _=>none) (λ_ _ _ _=>none) (λ_ _ _ _=>none) (λ_ _ _=>none) (λ_ _ _=>none) (λ_ _ _ _=>none) (λ_ _ _ _=>none) (λ_ _ _ _ _=>none) (λ_ _ _ _=>none) (λ_ _=>none) (λ_ _=>none) (λ_ _=>none) (λ_ _ _ _=>none) (λ_ _ _ _=>none) (λ_ _ _ _=>none) (λ_ _=>none) (λ_ _ _=>none) (λa b c=>some (a,b,c)) (λ_ _ _=>none) (λ_ _=>none) (λ_ _=>none) (λ_ _=>none) (λ_ _ _=>none) (λ_ _ _ _=>none)
theorem Wj:Tu e=some x->e=Expr.Attribute x.1 x.2.1 x.2.2:=Expr.casesOn (motive_1:=λe=>Tu e=some x->e=Expr.Attribute x.1 x.2.1 x.2.2) e (λ_ _ _=>A0) (λ_ _ _=>A0) (λ_ _ _ _=>A0) (λ_ _ _=>A0) (λ_ _ _ _=>A0) (λ_ _ _ _=>A0) (λ_ _ _=>A0) (λ_ _ _=>A0) (λ_ _ _ _=>A0) (λ_ _ _ _=>A0) (λ_ _ _ _ _=>A0) (λ_ _ _ _=>A0) (λ_ _=>A0) (λ_ _=>A0) (λ_ _=>A0) (λ_ _ _ _=>A0) (λ_ _ _ _=>A0) (λ_ _ _ _=>A0) (λ_ _=>A0) (λ_ _ _=>A0) (λa b c h=>congrArg (λx:Expr×Str×Pos=>Expr.Attribute x.1 x.2.1 x.2.2) (si h)) (λ_ _ _=>A0) (λ_ _=>A0) (λ_ _=>A0) (λ_ _=>A0) (λ_ _ _=>A0) (λ_ _ _ _=>A0)
noncomputable def Uu(e:Expr):Option (Expr×List Comprehension×Scope×Pos):=Expr.casesOn (motive_1:=λ_=>Option (Expr×List Comprehension×Scope×Pos)) e (λ_ _ _=>none) (λ_ _ _=>none) (λ_ _ _ _=>none) (λ_ _ _=>none) (λ_ _ _ _=>none) (λ_ _ _ _=>none) (λ_ _ _=>none) (λ_ _ _=>none) (λa b c d=>some (a,b,c,d)) (λ_ _ _ _=>none) (λ_ _ _ _ _=>none) (λ_ _ _ _=>none) (λ_ _=>none) (λ_ _=>none) (λ_ _=>none) (λ_ _ _ _=>none) (λ_ _ _ _=>none) (λ_ _ _ _=>none) (λ_ _=>none) (λ_ _ _=>none) (λ_ _ _=>none) (λ_ _ _=>none) (λ_ _=>none) (λ_ _=>none) (λ_ _=>none) (λ_ _ _=>none) (λ_ _ _ _=>none)
theorem Xj:Uu e=some x->e=Expr.ListComp x.1 x.2.1 x.2.2.1 x.2.2.2:=Expr.casesOn (motive_1:=λe=>Uu e=some x->e=Expr.ListComp x.1 x.2.1 x.2.2.1 x.2.2.2) e (λ_ _ _=>A0) (λ_ _ _=>A0) (λ_ _ _ _=>A0) (λ_ _ _=>A0) (λ_ _ _ _=>A0) (λ_ _ _ _=>A0) (λ_ _ _=>A0) (λ_ _ _=>A0) (λa b c d h=>congrArg (λx:Expr×List Comprehension×Scope×Pos=>Expr.ListComp x.1 x.2.1 x.2.2.1 x.2.2.2) (si h)) (λ_ _ _ _=>A0) (λ_ _ _ _ _=>A0) (λ_ _ _ _=>A0) (λ_ _=>A0) (λ_ _=>A0) (λ_ _=>A0) (λ_ _ _ _=>A0) (λ_ _ _ _=>A0) (λ_ _ _ _=>A0) (λ_ _=>A0) (λ_ _ _=>A0) (λ_ _ _=>A0) (λ_ _ _=>A0) (λ_ _=>A0) (λ_ _=>A0) (λ_ _=>A0) (λ_ _ _=>A0) (λ_ _ _ _=>A0)
noncomputable def Vu(e:Expr):Option (Expr×List Expr×List Keyword×Pos):=Expr.casesOn (motive_1:=λ_=>Option (Expr×List Expr×List Keyword×Pos)) e (λ_ _ _=>none) (λ_ _ _=>none) (λ_ _ _ _=>none) (λ_ _ _=>none) (λ_ _ _ _=>none) (λ_ _ _ _=>none) (λ_ _ _=>none) (λ_ _ _=>none) (λ_ _ _ _=>none) (λ_ _ _ _=>none) (λ_ _ _ _ _=>none) (λ_ _ _ _=>none) (λ_ _=>none) (λ_ _=>none) (λ_ _=>none) (λ_ _ _ _=>none) (λf a k p=>some (f,a,k,p)) (λ_ _ _ _=>none) (λ_ _=>none) (λ_ _ _=>none) (λ_ _ _=>none) (λ_ _ _=>none) (λ_ _=>none) (λ_ _=>none) (λ_ _=>none) (λ_ _ _=>none) (λ_ _ _ _=>none)
theorem Yj:Vu e=some x->e=Expr.Call x.1 x.2.1 x.2.2.1 x.2.2.2:=Expr.casesOn (motive_1:=λe=>Vu e=some x->e=Expr.Call x.1 x.2.1 x.2.2.1 x.2.2.2) e (λ_ _ _=>A0) (λ_ _ _=>A0) (λ_ _ _ _=>A0) (λ_ _ _=>A0) (λ_ _ _ _=>A0) (λ_ _ _ _=>A0) (λ_ _ _=>A0) (λ_ _ _=>A0) (λ_ _ _ _=>A0) (λ_ _ _ _=>A0) (λ_ _ _ _ _=>A0) (λ_ _ _ _=>A0) (λ_ _=>A0) (λ_ _=>A0) (λ_ _=>A0) (λ_ _ _ _=>A0) (λ_ _ _ _ h=>congrArg (λx:Expr×List Expr×List Keyword×Pos=>Expr.Call x.1 x.2.1 x.2.2.1 x.2.2.2) (si h)) (λ_ _ _ _=>A0) (λ_ _=>A0) (λ_ _ _=>A0) (λ_ _ _=>A0) (λ_ _ _=>A0) (λ_ _=>A0) (λ_ _=>A0) (λ_ _=>A0) (λ_ _ _=>A0) (λ_ _ _ _=>A0)
noncomputable def cN(e:Expr):Option (Str×List Expr):=(Vu e).bind λc=>gO c.2.2.1.isEmpty ((iS c.1).map λp=>(p.1,c.2.1))
theorem Wu(h:cN e=some x):∃p q,e= .Call (.Name x.1 p) x.2 [] q:=u3 h λc e1 h=>A4 h λg h=>B5 h λn e2 h=>by
 subst h;exact⟨n.2,c.2.2.2,by rw[Yj e1,aH e2,List.isEmpty_iff.mp g]⟩
noncomputable def ae(e:Expr):Bool:=Nat.beq e.ctorIdx 7
noncomputable def tyB(s:String)(v:V):Bool:=V.casesOn (motive:=λ_=>Bool) v false (λ_ _=>false) (λ_ _=>false) (λ_=>false) (λ_ _=>false) (λ_=>false) (λ_=>false) (λ_=>false) (λ_ _=>false) (λ_=>false) (λn=>decide (n=s)) (λ_=>false)
theorem Zj:tyB s v=true->v= .ty s:=V.casesOn (motive:=λv=>tyB s v=true->v= .ty s) v G2 (λ_ _=>G2) (λ_ _=>G2) (λ_=>G2) (λ_ _=>G2) (λ_=>G2) (λ_=>G2) (λ_=>G2) (λ_ _=>G2) (λ_=>G2) (λ_ h=>congrArg V.ty (of_decide_eq_true h)) (λ_=>G2)
noncomputable def fe(o:n0):Option n0:=n0.casesOn (motive:=λ_=>Option n0) o (λ_=>none) (λ_=>none) (λ_=>none) (λ_ _=>none) (λ_=>none) (λ_=>none) (λ_=>none) (λ_ _ _=>none) some none none (λ_ _=>none) (λ_=>none)
theorem ak:fe o=some x->o= .D4 x:=n0.casesOn (motive:=λo=>fe o=some x->o= .D4 x) o (λ_=>A0) (λ_=>A0) (λ_=>A0) (λ_ _=>A0) (λ_=>A0) (λ_=>A0) (λ_=>A0) (λ_ _ _=>A0) (λ_ h=>congrArg n0.D4 (si h)) A0 A0 (λ_ _=>A0) (λ_=>A0)
noncomputable def mO(o:Option NameKind):Bool:=Option.rec (motive:=λ_=>Bool) false (λk=>NameKind.casesOn (motive:=λ_=>Bool) k true false false false false) o
theorem VH(h:mO o=true):o=some .local:=by
 induction o using opQ with
 |none=>exact G2 h
 |some k=>induction k using PySem.NameKind.casesOn<;>first|rfl|exact G2 h
noncomputable def Dt.je(v:V):Option Dt:=V.casesOn (motive:=λ_=>Option Dt) v (some .none) (λs b=>some (.bool s b)) (λs n=>some (.int s n)) (λx=>some (.str x)) (λs b=>some (.bytes s b)) (λ_=>Option.none) some (λ_=>Option.none) (λ_ _=>Option.none) (λ_=>Option.none) (λ_=>Option.none) (λ_=>Option.none)
noncomputable def zG(f:V->Option Dt)(l:List V):Option (List Dt):=List.rec (motive:=λ_=>Option (List Dt)) (some []) (λv _ ih=>(f v).bind λd=>ih.map λds=>d::ds) l
noncomputable def FX{α β:Type}(o:Option α)(f:α->Option β)(d:Option β):Option β:=Option.rec (motive:=λ_=>Option β) d f o
theorem B9{α β:Type}{o:Option α}{f:α->Option β}{d:Option β}{y:β}{G:Prop}(h:FX o f d=some y)(k:∀a,o=some a->f a=some y->G)(n:d=some y->G):G:=by
 induction o using opQ with
 |none=>exact n h
 |some a=>exact k a rfl h
noncomputable def rM(l:Bool)(ds:List Dt):Dt:=bif l then .lst ds else .tup ds
noncomputable def dat(H:List n0)(n:Nat):V->Option Dt:=Nat.rec (motive:=λ_=>V->Option Dt) Dt.je (λ_ ih v=>FX (rV v) (λi=>(ct H i).bind λo=>(qO o).bind λp=>(zG ih p.2).map (rM p.1)) (Dt.je v)) n
noncomputable def nD(d:Dt):Bool:=Dt.casesOn (motive_1:=λ_=>Bool) d true (λ_ _=>false) (λ_ _=>false) (λ_=>false) (λ_ _=>false) (λ_=>false) (λ_=>false) (λ_ _ _=>false)
noncomputable def bD(d:Dt):Option (Bool×Bool):=Dt.casesOn (motive_1:=λ_=>Option (Bool×Bool)) d none (λs b=>some (s,b)) (λ_ _=>none) (λ_=>none) (λ_ _=>none) (λ_=>none) (λ_=>none) (λ_ _ _=>none)
theorem Xu:nD d=true->d= .none:=Dt.casesOn (motive_1:=λd=>nD d=true->d= .none) d (λ_=>rfl) (λ_ _=>G2) (λ_ _=>G2) (λ_=>G2) (λ_ _=>G2) (λ_=>G2) (λ_=>G2) (λ_ _ _=>G2)
theorem Yu:bD d=some x->d= .bool x.1 x.2:=Dt.casesOn (motive_1:=λd=>bD d=some x->d= .bool x.1 x.2) d A0 (λ_ _ h=>congrArg (λx:Bool×Bool=>Dt.bool x.1 x.2) (si h)) (λ_ _=>A0) (λ_=>A0) (λ_ _=>A0) (λ_=>A0) (λ_=>A0) (λ_ _ _=>A0)
noncomputable def ft(s:Bool)(a c:List UInt8):Bool×Bool:=bif s then(true,a==c) else bif Nat.beq a.length c.length then(false,a==c) else(false,false)
noncomputable def jS(x y:Bool×Bool):Bool×Bool:=bif (!x.1&& !x.2)||(!y.1&& !y.2) then(false,false) else(x.1||y.1,x.2&&y.2)
noncomputable def vA{α:Type}(l:List α):Bool:=List.rec (motive:=λ_=>Bool) true (λ_ _ _=>false) l
mutual
noncomputable def R8:Dt->Dt->Option (Bool×Bool)
 | .none,b=>gO (nD b) (some (false,true))
 | .bool s a,b=>(bD b).map λp=>(s||p.1,a==p.2)
 | .int s a,b=>(iD b).map λp=>(s||p.1,decide (a=p.2))
 | .str a,b=>(sD b).map λc=>(false,sq a c)
 | .bytes s a,b=>(yD b).map λp=>ft (s||p.1) a p.2
 | .tup a,b=>(tD b).bind λc=>IA a c
 | .lst a,b=>(lD b).bind λc=>IA a c
 | .obj ..,_=>none
noncomputable def IA:List Dt->List Dt->Option (Bool×Bool)
 |[],c=>some (false,vA c)
 |a::r,c=>List.casesOn (motive:=λ_=>Option (Bool×Bool)) c (some (false,false)) λb q=>(R8 a b).bind λx=>(IA r q).map λy=>jS x y
end
theorem kS:(ft s a c).2=(a==c):=by
 induction s using Q2 with
 |true=>exact rfl
 |false=>
  show(bif Nat.beq a.length c.length then(false,a==c) else(false,false)).2=(a==c);induction h:Nat.beq a.length c.length using Q2 with
  |true=>exact rfl
  |false=>exact(beq_eq_false_iff_ne.mpr λe=>G2 (h.symm.trans (by rw[e];exact Nat.beq_refl _))).symm
theorem mS:(jS x y).2=(x.2&&y.2):=by
 obtain⟨s,v⟩:=x;obtain⟨t,w⟩:=y;induction s using Q2<;>induction v using Q2<;>induction t using Q2<;>induction w using Q2<;>rfl
mutual
noncomputable def dep:Dt->Nat
 | .tup ds=>oQ ds+1
 | .lst ds=>oQ ds+1
 |_=>0
noncomputable def oQ:List Dt->Nat
 |[]=>0
 |d::ds=>max (dep d) (oQ ds)
end
noncomputable def small(a:Int):Bool:=Nat.blt a.natAbs (2^63)
noncomputable def fk(op:Operator)(s:Bool)(m:Int)(t:Bool)(n:Int)(σ:St)(Q:K1):Prop:=match op with
 | .Add=>Q (.int (s||t) (m+n)) σ
 | .Sub=>Q (.int (s||t) (m -n)) σ
 | .Mult=>ask (s||t) (small m||small n) (Q (.int (s||t) (m*n)) σ)
 | .FloorDiv=>ask t (decide (n≠0)&&small n) (Q (.int (s||t) (m.fdiv n)) σ)
 | .Mod=>ask t (decide (n≠0)&&small n) (Q (.int (s||t) (m.fmod n)) σ)
 | .LShift=>ask (s||t) (small m&&decide (0<=n)&&decide (n<=1000)) (Q (.int (s||t) (m*2^n.toNat)) σ)
 | .RShift=>gd (!t&&decide (0<=n)) (Q (.int s (m.fdiv (2^n.toNat))) σ)
 | .BitAnd=>Q (.int (s||t) (Builtin.bitAnd m n)) σ
 | .BitOr=>Q (.int (s||t) (Builtin.bitOr m n)) σ
 | .Pow=>gd (!(s||t)) (gd (small m&&decide (0<=n)&&decide (n<=1000)) (Q (.int false (m^n.toNat)) σ))
 |_=>No 5
noncomputable def isAdd:Operator->Bool
 | .Add=>true
 |_=>false
noncomputable def isMul:Operator->Bool
 | .Mult=>true
 |_=>false
noncomputable def nS(xs:List V)(n:Int):Option (List V):=match n with
 | .ofNat k=>(match k with
  |0=>some []
  |k+1=>(match k with|0=>some xs|_+1=>none))
 |_=>none
noncomputable def ke(op:Operator)(a b:V)(σ:St)(Q:K1):Prop:=
 w7 (iV a) (λp=>on (iV b) 9 λq=>fk op p.1 p.2 q.1 q.2 σ Q)
 (w7 (yV a) (λp=>on (yV b) 6 λq=>gd (isAdd op&&Nat.ble (p.2.length+q.2.length) 10000) (Q (.bytes (p.1||q.1) (p.2++q.2)) σ))
 (on (rV a) 9 λi=>on (lA σ.heap i) 210 λxs=>
  w7 (rV b) (λj=>on (lA σ.heap j) 211 λys=>gd (isAdd op&&Nat.ble (xs.length+ys.length) 1000) (Q (.ref σ.new) (σ.push (.lst (xs++ys)))))
  (on (iV b) 8 λq=>on (nS xs q.2) 7 λzs=>gd (isMul op&& !q.1&&Nat.beq xs.length 1) (Q (.ref σ.new) (σ.push (.lst zs))))))
noncomputable def H6:Nat:=6
noncomputable def Zu(a b:V)(σ:St)(Kb:Bool->Bool->Prop):Prop:=on (dat σ.heap H6 a) 10 λx=>on (dat σ.heap H6 b) 11 λy=>gd (Nat.ble (dep x) 50) (on (R8 x y) 12 λp=>Kb p.1 p.2)
noncomputable def jk(a b:V)(H:List n0):Bool:=Option.rec (motive:=λ_=>Bool) false (λl=> !vA l) (uC UH H a)&&Option.rec (motive:=λ_=>Bool) false vA (uC UH H b)
noncomputable def jt(a b:V)(σ:St)(Kb:Bool->Bool->Prop):Prop:=uG (jk a b σ.heap) (Kb false false) (Zu a b σ Kb)
noncomputable def memC(s v:Bool)(q:Bool×Bool):Bool×Bool:=bif (!s&&v)||(!q.1&&q.2) then(false,true) else(s||q.1,v||q.2)
noncomputable def nk(s:Bool)(n:Int)(l:List Dt):Option (Bool×Bool):=List.rec (motive:=λ_=>Option (Bool×Bool)) (some (false,false)) (λd _ ih=>(iD d).bind λp=>ih.map λq=>memC (s||p.1) (decide (p.2=n)) q) l
noncomputable def pk(k:Str)(l:List Dt):Option Bool:=List.rec (motive:=λ_=>Option Bool) (some false) (λd _ ih=>(sD d).bind λx=>ih.map λw=>sq x k||w) l
noncomputable def qk(x:Dt)(ds:List Dt):Option (Bool×Bool):=FX (iD x) (λp=>nk p.1 p.2 ds) ((sD x).bind λk=>(pk k ds).map λw=>(false,w))
noncomputable def gv(a b:V)(σ:St)(Kb:Bool->Bool->Prop):Prop:=on (dat σ.heap H6 a) 13 λx=>
 w7 (uC BX σ.heap b) (λes=>on (iD x) 15 λp=>gd (!p.1) (Kb false (es.any λe=>decide (e.1=p.2))))
 (w7 (uC DX σ.heap b) (λes=>on (iD x) 130 λp=>gd (vA es&& !p.1) (Kb false false))
 (w7 (uC Hb σ.heap b) (λes=>on (sD x) 131 λk=>Kb false (lk k es).isSome)
 (on ((dat σ.heap H6 b).bind tD) 17 λds=>on (qk x ds) 16 λp=>Kb p.1 p.2)))
noncomputable def nV(v:V):Bool:=V.casesOn (motive:=λ_=>Bool) v true (λ_ _=>false) (λ_ _=>false) (λ_=>false) (λ_ _=>false) (λ_=>false) (λ_=>false) (λ_=>false) (λ_ _=>false) (λ_=>false) (λ_=>false) (λ_=>false)
noncomputable def WH(v:V):Bool:=V.casesOn (motive:=λ_=>Bool) v true (λ_ _=>false) (λ_ _=>false) (λ_=>false) (λ_ _=>false) (λ_=>false) nD (λ_=>false) (λ_ _=>false) (λ_=>false) (λ_=>false) (λ_=>false)
noncomputable def WJ(f:Int->Int->Bool)(k:Nat)(a b:V)(σ:St)(Q:K1):Prop:=on (iV a) k λp=>on (iV b) k λq=>Q (.bool (p.1||q.1) (f p.2 q.2)) σ
noncomputable def T8(op:CmpOp)(a b:V)(σ:St)(Q:K1):Prop:=match op with
 | .Eq=>jt a b σ λs v=>Q (.bool s v) σ
 | .NotEq=>jt a b σ λs v=>Q (.bool s (!v)) σ
 | .In=>gv a b σ λs v=>Q (.bool s v) σ
 | .NotIn=>gv a b σ λs v=>Q (.bool s (!v)) σ
 | .Is=>gd (nV b) (Q (.bool false (WH a)) σ)
 | .IsNot=>gd (nV b) (Q (.bool false (!WH a)) σ)
 | .Lt=>WJ (λm n=>decide (m<n)) 22 a b σ Q
 | .LtE=>WJ (λm n=>decide (m<=n)) 23 a b σ Q
 | .Gt=>WJ (λm n=>decide (n<m)) 24 a b σ Q
 | .GtE=>WJ (λm n=>decide (n<=m)) 25 a b σ Q
noncomputable def I6(v:V)(σ:St)(Kt Kf:St->Prop):Prop:=V.casesOn (motive:=λ_=>Prop) v (Kf σ) (λs b=>br s b σ Kt Kf) (λs n=>br s (decide (n≠0)) σ Kt Kf) (λ_=>No 26) (λ_ _=>No 26) (λ_=>No 26) (λ_=>No 26) (λ_=>No 26) (λ_ _=>No 26) (λ_=>No 26) (λ_=>No 26) (λ_=>No 26)
noncomputable def oS(σ:St)(v:V):Option (List V):=(Lb σ.heap v).map λp=>p.2
noncomputable def pD(x:Dt)(es:List (Dt×V×V)):(σ:St)->(St->Prop)->(V->St->Prop)->Prop:=List.rec (motive:=λ_=>St->(St->Prop)->(V->St->Prop)->Prop) (λσ Kn _=>Kn σ)
 (λe _ ih σ Kn Ks=>on (R8 e.1 x) 27 λp=>br p.1 p.2 σ (λF1=>Ks e.2.2 F1) (λF1=>ih F1 Kn Ks)) es
noncomputable def pz(n:Int)(l:List (Int×V)):Option V:=List.rec (motive:=λ_=>Option V) none (λe _ ih=>Bool.rec (motive:=λ_=>Option V) ih (some e.2) (decide (e.1=n))) l
noncomputable def rk(n:Int)(v:V)(l:List (Int×V)):List (Int×V):=List.rec (motive:=λ_=>List (Int×V)) [(n,v)] (λe r ih=>Bool.rec (motive:=λ_=>List (Int×V)) (e::ih) ((e.1,v)::r) (decide (e.1=n))) l
noncomputable def oO(d:Dt):Bool:=(iD d).isSome
noncomputable def sM(f:Dt->Bool)(ds:List Dt):Bool:=List.rec (motive:=λ_=>Bool) true (λd _ ih=>Bool.rec (motive:=λ_=>Bool) false ih (f d)) ds
noncomputable def AG(f:Dt->Bool)(d:Dt):Bool:=Option.rec (motive:=λ_=>Bool) false (λds=> !ds.isEmpty&&sM f ds) (tD d)
noncomputable def Mb:Dt->Bool:=AG oO
noncomputable def XJ(d:Dt):Bool:=(((tD d).bind two).bind λp=>(iD p.1).bind λ_=>yD p.2).isSome
noncomputable def sk:Dt->Bool:=AG XJ
noncomputable def B8(d:Dt):Bool:=Mb d||sk d
noncomputable def pick(l:List V):Int->St->K1->Prop:=List.rec (motive:=λ_=>Int->St->K1->Prop) (λ_ _ _=>No 212)
 (λx r ih n σ Q=>List.rec (motive:=λ_=>Prop) (Q x σ) (λ_ _ _=>br true (decide (n=0)) σ (λF1=>Q x F1) (λF1=>ih (n -1) F1 Q)) r) l
noncomputable def YJ(l:List V):Option (Bool×List Int):=List.rec (motive:=λ_=>Option (Bool×List Int)) (some (false,[])) (λv _ ih=>(iV v).bind λp=>ih.map λq=>(p.1||q.1,p.2::q.2)) l
noncomputable def wk(l:List V):Option (List (List UInt8)):=List.rec (motive:=λ_=>Option (List (List UInt8))) (some []) (λv _ ih=>(yV v).bind λp=>ih.map λq=>p.2::q) l
noncomputable def Nb(xs:List V)(n:Int)(σ:St)(Q:K1):Prop:=(0<=n/\n<(xs.length:Int))/\w7 (YJ xs) (λp=>Q (.int true (p.2.getD n.toNat 0)) σ) (w7 (wk xs) (λl=>Q (.bytes true (l.getD n.toNat [])) σ) (pick xs n σ Q))
noncomputable def Q1(nb:Bool)(k:UInt8×UInt8):Dt:=match nb with
 |true=> .tup [.tup [.int false 7,.bytes true [k.1]],.tup [.int false 7,.bytes true [k.2]]]
 |false=> .tup [.int true (k.1.toNat:Int),.int true (k.2.toNat:Int)]
noncomputable def T6(k:UInt8×UInt8)(s:Int)(n:List UInt8):Dt:=
 .lst [.tup [.str "chassis",.int false 7,.bytes true [k.1]],.tup [.str "port",.int false 7,.bytes true [k.2]],.tup [.str "time",.int true s],.tup [.str "name",.bytes true n]]
noncomputable def C8(nb:Bool)(e:Ent):Dt:=match nb with
 |true=> .obj 51 ["rows","until"] [T6 e.k e.s e.n,.int true e.FA]
 |false=> .tup [.bytes true e.n,.int true e.FA]
noncomputable def C6(nb:Bool)(e:Ent):Dt×V×V:=(Q1 nb e.k,.W0 (Q1 nb e.k),.W0 (C8 nb e))
noncomputable def U8(k:UInt8×UInt8)(e:Ent):Bool:=e.k.1==k.1&&e.k.2==k.2
noncomputable def C5(k:UInt8×UInt8)(l:List Ent):Option Ent:=List.rec (motive:=λ_=>Option Ent) none (λe _ ih=>bif U8 k e then some e else ih) l
theorem xk(k:UInt8×UInt8):C5 k []=none:=rfl
theorem D8(k:UInt8×UInt8)(e:Ent)(r:List Ent):C5 k (e::r)=bif U8 k e then some e else C5 k r:=rfl
noncomputable def W4(k:UInt8×UInt8)(es:List Ent):Ent:=(C5 k es).getD Ju
noncomputable def D6(k:UInt8×UInt8)(l:List Ent):List Ent:=List.rec (motive:=λ_=>List Ent) [] (λe r ih=>bif U8 k e then r else e::ih) l
theorem me(k:UInt8×UInt8):D6 k []=[]:=rfl
theorem JA(k:UInt8×UInt8)(e:Ent)(r:List Ent):D6 k (e::r)=bif U8 k e then r else e::D6 k r:=rfl
noncomputable def E6(e:Ent)(l:List Ent):List Ent:=List.rec (motive:=λ_=>List Ent) [e] (λx r ih=>bif U8 e.k x then e::r else x::ih) l
theorem rS(e:Ent):E6 e []=[e]:=rfl
theorem C9(e x:Ent)(r:List Ent):E6 e (x::r)=bif U8 e.k x then e::r else x::E6 e r:=rfl
noncomputable def oct(n:Int):UInt8:=n.toNat.toUInt8
noncomputable def GX(d:Dt):Option (Dt×Dt):=(tD d).bind two
noncomputable def yk(x:Str)(d:Dt):Bool:=Option.rec (motive:=λ_=>Bool) false (λc=>sq c x) (sD d)
noncomputable def nt(d:Dt):Bool:=Option.rec (motive:=λ_=>Bool) false (λp=> !p.1&&decide (p.2=7)) (iD d)
noncomputable def jv(d:Dt):Option UInt8:=(yD d).bind λp=>one p.2
noncomputable def NR(d:Dt):Option UInt8:=(GX d).bind λp=>gO (nt p.1) (jv p.2)
noncomputable def zk(x:Str)(d:Dt):Option (List Dt):=(tD d).bind λl=>List.rec (motive:=λ_=>Option (List Dt)) none (λa r _=>gO (yk x a) (some r)) l
noncomputable def mv(x:Str)(d:Dt):Option UInt8:=(zk x d).bind λl=>(two l).bind λp=>gO (nt p.1) (jv p.2)
noncomputable def MD(nb:Bool)(x:Dt):Option (Prop×(UInt8×UInt8)):=(GX x).bind λp=>Bool.rec (motive:=λ_=>Option (Prop×(UInt8×UInt8)))
 ((iD p.1).bind λa=>(iD p.2).map λc=>((0<=a.2/\a.2<256/\0<=c.2/\c.2<256),(oct a.2,oct c.2)))
 ((NR p.1).bind λy=>(NR p.2).map λz=>(True,(y,z))) nb
noncomputable def qz(d:Dt):Option Int:=(zk "time" d).bind λl=>(one l).bind λa=>(iD a).map λp=>p.2
noncomputable def rz(d:Dt):Option (List UInt8):=(zk "name" d).bind λl=>(one l).bind λa=>(yD a).map λp=>p.2
noncomputable def uz(d:Dt):Option (Dt×Dt×Dt×Dt):=(lD d).bind λl=>List.rec (motive:=λ_=>Option (Dt×Dt×Dt×Dt)) none (λa r _=>List.rec (motive:=λ_=>Option (Dt×Dt×Dt×Dt)) none (λb q _=>(two q).map λp=>(a,b,p.1,p.2)) r) l
noncomputable def sS(x:Dt):Option ((UInt8×UInt8)×Int×List UInt8):=(uz x).bind λp=>(mv "chassis" p.1).bind λy=>(mv "port" p.2.1).bind λz=>(qz p.2.2.1).bind λs=>(rz p.2.2.2).map λn=>((y,z),s,n)
noncomputable def oD(d:Dt):Option (Nat×List Str×List Dt):=Dt.casesOn (motive_1:=λ_=>Option (Nat×List Str×List Dt)) d none (λ_ _=>none) (λ_ _=>none) (λ_=>none) (λ_ _=>none) (λ_=>none) (λ_=>none) (λc xs ds=>some (c,xs,ds))
theorem Ak:oD d=some x->d= .obj x.1 x.2.1 x.2.2:=Dt.casesOn (motive_1:=λd=>oD d=some x->d= .obj x.1 x.2.1 x.2.2) d A0 (λ_ _=>A0) (λ_ _=>A0) (λ_=>A0) (λ_ _=>A0) (λ_=>A0) (λ_=>A0) (λ_ _ _ h=>congrArg (λx:Nat×List Str×List Dt=>Dt.obj x.1 x.2.1 x.2.2) (si h))
noncomputable def oe(nb:Bool)(k:UInt8×UInt8)(x:Dt):Option (Prop×Ent):=Bool.rec (motive:=λ_=>Option (Prop×Ent))
 ((GX x).bind λp=>(yD p.1).bind λn=>(iD p.2).map λFA=>(True,⟨k,0,n.2,FA.2⟩))
 ((oD x).bind λo=>gO (Nat.beq o.1 51) ((two o.2.1).bind λq=>gO (sq q.1 "rows"&&sq q.2 "until") ((two o.2.2).bind λd=>(sS d.1).bind λr=>(iD d.2).map λFA=>((r.1.1=k.1/\r.1.2=k.2),⟨k,r.2.1,r.2.2,FA.2⟩)))) nb
noncomputable def nO(o:n0):Option (Nat×List (Str×V)):=n0.casesOn (motive:=λ_=>Option (Nat×List (Str×V))) o (λ_=>none) (λ_=>none) (λ_=>none) (λc fs=>some (c,fs)) (λ_=>none) (λ_=>none) (λ_=>none) (λ_ _ _=>none) (λ_=>none) none none (λ_ _=>none) (λ_=>none)
theorem Bk:nO o=some x->o= .inst x.1 x.2:=n0.casesOn (motive:=λo=>nO o=some x->o= .inst x.1 x.2) o (λ_=>A0) (λ_=>A0) (λ_=>A0) (λ_ _ h=>congrArg (λx:Nat×List (Str×V)=>n0.inst x.1 x.2) (si h)) (λ_=>A0) (λ_=>A0) (λ_=>A0) (λ_ _ _=>A0) (λ_=>A0) A0 A0 (λ_ _=>A0) (λ_=>A0)
noncomputable def ND(f:V->List n0->Option (Dt×List n0))(vs:List V):List n0->Option (List Dt×List n0):=List.rec (motive:=λ_=>List n0->Option (List Dt×List n0)) (λH=>some ([],H)) (λv _ ih H=>(f v H).bind λa=>(ih a.2).map λc=>(a.1::c.1,c.2)) vs
noncomputable def XH(f:V->List n0->Option (Dt×List n0))(H:List n0)(o:n0):Option (Dt×List n0):=Option.rec (motive:=λ_=>Option (Dt×List n0))
 ((nO o).bind λq=>(ND f (q.2.map (·.2)) H).map λr=>(.obj q.1 (q.2.map (·.1)) r.1,r.2)) (λq=>(ND f q.2 H).map λr=>(cond q.1 (.lst r.1) (.tup r.1),r.2)) (qO o)
noncomputable def N4(n:Nat):V->List n0->Option (Dt×List n0):=Nat.rec (motive:=λ_=>V->List n0->Option (Dt×List n0)) (λ_ _=>none)
 (λ_ f v H=>Option.rec (motive:=λ_=>Option (Dt×List n0)) ((Dt.je v).map λd=>(d,H)) (λi=>(J0 H i).bind λo=>XH f (upd H i .any) o) (rV v)) n
noncomputable def lX(a c:UInt8×UInt8):Bool:=a.1<c.1||(a.1==c.1&&(a.2<c.2||a.2==c.2))
noncomputable def OD(e:Ent)(l:List Ent):List Ent:=List.rec (motive:=λ_=>List Ent) [e] (λx r ih=>bif lX e.k x.k then e::x::r else x::ih) l
theorem YH(e:Ent):OD e []=[e]:=rfl
theorem LA(e x:Ent)(r:List Ent):OD e (x::r)=bif lX e.k x.k then e::x::r else x::OD e r:=rfl
noncomputable def T2(l:List Ent):List Ent:=List.rec (motive:=λ_=>List Ent) [] (λe _ ih=>OD e ih) l
theorem ZH:T2 []=[]:=rfl
theorem BC(e:Ent)(r:List Ent):T2 (e::r)=OD e (T2 r):=rfl
noncomputable def itemF(xs:List V)(p:Bool×Int)(σ:St)(Q:K1):Prop:=uG p.1 (gd (Nat.ble xs.length 100000) (Nb xs p.2 σ Q)) (on (qM p.2) 34 λk=>gd (Nat.ble k 100000) (on (J0 xs k) 30 λv=>Q v σ))
noncomputable def pe(a i:V)(σ:St)(Q:K1):Prop:=
 w7 (iV i) (λp=>w7 (Lb σ.heap a) (λq=>itemF q.2 p σ Q) (gd (!p.1)
  (w7 (yV a) (λy=>on (qM p.2) 34 λk=>gd (Nat.ble y.2.length 100000) (on (J0 y.2 k) 28 λc=>Q (.int y.1 (c.toNat:Int)) σ))
   (on (uC BX σ.heap a) 32 λes=>on (pz p.2 es) 29 λv=>Q v σ))))
 (w7 (sV i) (λx=>on (uC Hb σ.heap a) 37 λes=>on (lk x es) 36 λv=>Q v σ)
 (on (dat σ.heap H6 i) 40 λx=>w7 (uC DX σ.heap a) (λes=>gd (B8 x) (pD x es σ (λ_=>No 39) (λv F1=>Q v F1)))
  (on (uC kX σ.heap a) 41 λe=>on (MD e.1 x) 215 λz=>z.1/\(C5 z.2 e.2).isSome=true/\Q (V.T5 (C8 e.1 (W4 z.2 e.2))) σ)))
noncomputable def cut{α:Type}(l:List α)(lo hi:Nat):List α:=(l.drop lo).take (hi -lo)
noncomputable def se(d:Nat)(o:Option Int):Option Nat:=Option.rec (motive:=λ_=>Option Nat) (some d) qM o
noncomputable def part(n:Nat)(lo hi:Option Int):Option (Nat×Nat):=gO (Nat.ble n 100000&&(lo.isSome||hi.isSome)) ((se 0 lo).bind λa=>(se n hi).bind λc=>gO (Nat.ble a c&&Nat.ble c n) (some (a,c)))
noncomputable def tM(a:V)(lo hi:Option Int)(σ:St)(Q:K1):Prop:=
 w7 (yV a) (λy=>on (part y.2.length lo hi) 43 λp=>Q (.bytes y.1 (cut y.2 p.1 p.2)) σ) (on (Lb σ.heap a) 46 λq=>uG q.1
  (on (part q.2.length lo hi) 44 λp=>Q (.ref σ.new) (σ.push (.lst (cut q.2 p.1 p.2))))
  (on (lo.bind qM) 45 λk=>gd (Nat.ble 1 k&&hi.isNone&&(Nat.ble k q.2.length&&Nat.ble q.2.length 100000)) (Q (.ref σ.new) (σ.push (.tup (q.2.drop k))))))
noncomputable def te:List (Nat×List Str):=[(10,[⟨#[116,97,114,103,101,116]⟩,⟨#[115,111,117,114,99,101]⟩,⟨#[116,97,103,115]⟩,⟨#[107,105,110,100]⟩,⟨#[112,97,121,108,111,97,100]⟩]),(50,[⟨#[105,110,116,101,114,118,97,108]⟩,⟨#[104,111,108,100]⟩,⟨#[102,97,115,116,95,105,110,116,101,114,118,97,108]⟩,⟨#[102,97,115,116,95,109,97,110,121]⟩]),(51,[⟨#[114,111,119,115]⟩,⟨#[117,110,116,105,108]⟩]),(52,[⟨#[114,111,119,115]⟩,⟨#[105,115,95,117,112]⟩,⟨#[119,97,105,116]⟩,⟨#[102,97,115,116]⟩,⟨#[110,101,105,103,104,98,111,117,114,115]⟩]),(53,[⟨#[109,97,99]⟩,⟨#[116,105,109,101,115]⟩,⟨#[109,111,115,116]⟩,⟨#[112,111,114,116,115]⟩])]
noncomputable def aj{α:Type}(n:Nat)(l:List (Nat×α)):Option α:=List.rec (motive:=λ_=>Option α) none (λp _ ih=>bif Nat.beq p.1 n then some p.2 else ih) l
noncomputable def Ck(x:Str)(l:List Str):Bool:=List.rec (motive:=λ_=>Bool) false (λy _ ih=>bif sq y x then true else ih) l
noncomputable def ZJ(c:Nat)(x:Str):Bool:=Option.rec (motive:=λ_=>Bool) false (Ck x) (aj c te)
noncomputable def vz(x:Str)(l:List Str):List Dt->Option Dt:=List.rec (motive:=λ_=>List Dt->Option Dt) (λ_=>none) (λy _ ih ds=>List.rec (motive:=λ_=>Option Dt) none (λd r _=>bif sq y x then some d else ih r) ds) l
noncomputable def tS(v:V):Bool:=match v with| .bi _=>false|_=>true
noncomputable def nv(o:n0):Option (Nat×List (Str×V)):=n0.casesOn (motive:=λ_=>Option (Nat×List (Str×V))) o (λ_=>none) (λ_=>none) (λ_=>none) (λc fs=>some (c,fs)) (λ_=>none) (λ_=>none) (λ_=>none) (λ_ _ _=>none) (λ_=>none) none none (λ_ _=>none) (λ_=>none)
theorem Dk:nv o=some x->o= .inst x.1 x.2:=n0.casesOn (motive:=λo=>nv o=some x->o= .inst x.1 x.2) o (λ_=>A0) (λ_=>A0) (λ_=>A0) (λ_ _ h=>congrArg (λx:Nat×List (Str×V)=>n0.inst x.1 x.2) (si h)) (λ_=>A0) (λ_=>A0) (λ_=>A0) (λ_ _ _=>A0) (λ_=>A0) A0 A0 (λ_ _=>A0) (λ_=>A0)
noncomputable def ot(H:List n0)(i:Nat):Option (Nat×List (Str×V)):=(J0 H i).bind nv
theorem uS(h:ot H i=some x):J0 H i=some (.inst x.1 x.2):=u3 h λo e h=>e.trans (congrArg some (Dk h))
noncomputable def vS(a:V)(x:Str)(σ:St)(Q:K1):Prop:=w7 (rV a) (λi=>on (ot σ.heap i) 51 λp=>on (lk x p.2) 50 λv=>gd (ZJ p.1 x&&tS v) (Q v σ))
 (on ((mV a).bind oD) 53 λp=>on (vz x p.2.1 p.2.2) 52 λd=>gd (ZJ p.1 x) (Q (V.T5 d) σ))
noncomputable def ue(H:List n0)(j:Nat):Bool:=Option.rec (motive:=λ_=>Bool) false (λes=>es.isEmpty) ((J0 H j).bind DX)
noncomputable def we(x:Str)(v:V)(H:List n0):List n0:=Option.rec (motive:=λ_=>List n0) H (λj=>Bool.rec (motive:=λ_=>List n0) H
 (Bool.rec (motive:=λ_=>List n0) (Bool.rec (motive:=λ_=>List n0) H (upd H j (.dN false [])) (sq x "known")) (upd H j (.dN true [])) (sq x "neighbours")) (ue H j)) (rV v)
noncomputable def HX:List (Str×V)->List n0->List n0
 |[],H=>H
 |p::r,H=>HX r (we p.1 p.2 H)
noncomputable def HE(a:V)(x:Str)(v:V)(σ:St)(K:St->Prop):Prop:=on (rV a) 55 λi=>on (ot σ.heap i) 54 λp=>gd (ZJ p.1 x&&Nat.ble p.2.length 50) (K {σ with heap:=we x v (upd σ.heap i (.inst p.1 (put x v p.2)))})
noncomputable def dput(x:Dt)(k v:V)(done es:List (Dt×V×V))(σ:St)(K:List (Dt×V×V)->St->Prop):Prop:=List.rec (motive:=λ_=>List (Dt×V×V)->St->Prop) (λdone σ=>K (done++[(x,k,v)]) σ)
 (λe r ih done σ=>on (R8 e.1 x) 56 λp=>br p.1 p.2 σ (λF1=>K (done++(e.1,e.2.1,v)::r) F1) (λF1=>ih (done++[e]) F1)) es done σ
noncomputable def K7(a i v:V)(σ:St)(K:St->Prop):Prop:=on (rV a) 63 λj=>on (J0 σ.heap j) 62 λo=>
 w7 (UH o) (λxs=>on (iV i) 58 λp=>on (qM p.2) 58 λk=>gd (!p.1&&(Nat.blt k xs.length&&Nat.ble xs.length 100000)) (K (σ.set j (.lst (upd xs k v)))))
 (w7 (Hb o) (λes=>on (sV i) 59 λx=>gd (Nat.ble es.length 1000) (K {σ with heap:=we x v (upd σ.heap j (.dS (put x v es)))}))
 (w7 (BX o) (λes=>on (iV i) 60 λp=>gd (!p.1&&Nat.ble es.length 1000) (K (σ.set j (.dI (rk p.2 v es)))))
 (w7 (DX o) (λes=>w7 (iV i) (λp=>gd (!p.1&&es.isEmpty) (K (σ.set j (.dI [(p.2,v)])))) (on (dat σ.heap H6 i) 61 λx=>gd (B8 x&&Nat.ble es.length 1000) (dput x i v [] es σ λIE F1=>K (F1.set j (.dT IE)))))
 (on (kX o) 62 λe=>on (N4 5 i σ.heap) 221 λx=>on (MD e.1 x.1) 220 λc=>c.1/\on (N4 5 v x.2) 218 λy=>on (oe e.1 c.2 y.1) 217 λd=>d.1/\(e.2.length<100/\K {σ with heap:=upd y.2 j (.dN e.1 (E6 d.2 e.2))})))))
noncomputable def BG{α:Type}(cmp:Nat->Nat->Option Bool):KasT α->Option α
 | .ret a=>some a
 | .ask i j k=>(cmp i j).bind λc=>BG cmp (k c)
noncomputable def dH(d:Dt):Option (Int×Int):=(GX d).bind λp=>(iD p.1).bind λa=>(iD p.2).bind λc=>gO (!a.1&& !c.1) (some (a.2,c.2))
noncomputable def Ek(ds:List Dt)(i j:Nat):Option Bool:=(J0 ds i).bind λx=>(J0 ds j).bind λy=>(dH x).bind λa=>(dH y).map λc=>decide (a.1<c.1)||(decide (a.1=c.1)&&decide (a.2<c.2))
noncomputable def xS(xs:List V)(σ:St)(Q:K1):Prop:=on (zG (dat σ.heap H6) xs) 66 λds=>on (BG (Ek ds) (kas_sort xs.length)) 65 λp=>
 gd (Nat.ble 2 xs.length&&Nat.blt xs.length 64&&(ds.all λd=>(dH d).isSome)&&p.toList.all λi=>Nat.blt i xs.length) (Q (.ref σ.new) (σ.push (.lst (p.toList.map λi=>(J0 xs i).getD .none))))
noncomputable def Ob(v:V)(σ:St)(Q:K1):Prop:=w7 (uC kX σ.heap v) (λe=>e.2.length<=3/\Q (.ref σ.new) (σ.push (.lst ((T2 e.2).map λx=> .W0 (Q1 e.1 x.k)))))
 (w7 (uC BX σ.heap v) (λes=>w7 (one es) (λx=>Q (.ref σ.new) (σ.push (.lst [.int false x.1])))
  (on (two es) 231 λp=>Q (.ref σ.new) (σ.push (.lst (match decide (p.2.1<p.1.1) with|true=>[.int false p.2.1,.int false p.1.1]|false=>[.int false p.1.1,.int false p.2.1])))))
 (w7 (uC DX σ.heap v) (λes=>xS (es.map λe=>e.2.1) σ Q) (on (uC UH σ.heap v) 232 λxs=>xS xs σ Q)))
noncomputable def R3(l:List Int):Bool:=l.all λn=>decide (0<=n)&&decide (n<256)
noncomputable def qt(l:List Int):List UInt8:=l.map λn=>n.toNat.toUInt8
noncomputable def yS(l:List V):Option (Bool×List UInt8):=List.rec (motive:=λ_=>Option (Bool×List UInt8)) (some (false,[])) (λv _ ih=>(yV v).bind λp=>ih.map λq=>(p.1||q.1,p.2++q.2)) l
noncomputable def bI(k:Nat)(σ:St)(Q:K1):Prop:=gd (Nat.ble k 100000) (Q (.int false k) σ)
noncomputable def Gk(v:V)(σ:St)(Q:K1):Prop:=w7 (uC kX σ.heap v) (λe=>e.2.length<100/\Q (.int true (e.2.length:Int)) σ)
 (w7 (yV v) (λy=>bI y.2.length σ Q) (w7 (Lb σ.heap v) (λq=>bI q.2.length σ Q) (w7 (uC BX σ.heap v) (λes=>bI es.length σ Q) (on (uC Hb σ.heap v) 67 λes=>bI es.length σ Q))))
noncomputable def IX(f:Int->Int->Bool)(args:List V)(σ:St)(Q:K1):Prop:=on (two args) 68 λp=>on (iV p.1) 68 λa=>on (iV p.2) 68 λc=>br (a.1||c.1) (f a.2 c.2) σ (λF1=>Q (.int c.1 c.2) F1) (λF1=>Q (.int a.1 a.2) F1)
noncomputable def Hk(n:String)(args:List V)(σ:St)(Q:K1):Prop:=
 uG (decide (n="len")) (on (one args) 67 λv=>Gk v σ Q) (uG (decide (n="min")) (IX (λa c=>decide (c<a)) args σ Q)
 (uG (decide (n="max")) (IX (λa c=>decide (a<c)) args σ Q) (uG (decide (n="sorted")) (on (one args) 68 λv=>Ob v σ Q) (No 68))))
noncomputable def bV(v:V):Option (Bool×Bool):=V.rec (motive:=λ_=>Option (Bool×Bool)) none (λs c=>some (s,c)) (λ_ _=>none) (λ_=>none) (λ_ _=>none) (λ_=>none) (λ_=>none) (λ_=>none) (λ_ _=>none) (λ_=>none) (λ_=>none) (λ_=>none) v
theorem pv:bV v=some p->v= .bool p.1 p.2:=V.rec (motive:=λv=>bV v=some p->v= .bool p.1 p.2) A0 (λ_ _ h=>congrArg (λp:Bool×Bool=>V.bool p.1 p.2) (si h)) (λ_ _=>A0) (λ_=>A0) (λ_ _=>A0) (λ_=>A0) (λ_=>A0) (λ_=>A0) (λ_ _=>A0) (λ_=>A0) (λ_=>A0) (λ_=>A0) v
noncomputable def xe(v:V)(σ:St)(Q:K1):Prop:=w7 (yV v) (λy=>Q (.bytes y.1 y.2) σ) (on (uC UH σ.heap v) 70 λxs=>on (YJ xs) 69 λp=>
 uG p.1 ((R3 p.2=true/\xs.length<=100000)/\Q (.bytes true (qt p.2)) σ) (gd (R3 p.2&&Nat.ble xs.length 100000) (Q (.bytes false (qt p.2)) σ)))
noncomputable def ye(v:V)(σ:St)(Q:K1):Prop:=w7 (uC UH σ.heap v) (λxs=>gd (Nat.ble xs.length 100000) (Q (.ref σ.new) (σ.push (.tup xs)))) (on (uC tO σ.heap v) 72 λ_=>Q v σ)
noncomputable def ze(args:List V)(σ:St)(Q:K1):Prop:=w7 (one args) (λv=>on (iV v) 74 λp=>Q (.ref σ.new) (σ.push (.w9 0 p.2 1)))
 (w7 (two args) (λv=>on (iV v.1) 74 λa=>on (iV v.2) 74 λc=>gd (!a.1&& !c.1) (Q (.ref σ.new) (σ.push (.w9 a.2 c.2 1))))
 (on args.head? 74 λv=>on (iV v) 74 λa=>on (two args.tail) 74 λv=>on (iV v.1) 74 λc=>on (iV v.2) 74 λd=>gd (!a.1&& !c.1&& !d.1&&(decide (d.2≠0)&&small d.2)) (Q (.ref σ.new) (σ.push (.w9 a.2 c.2 d.2)))))
noncomputable def wz(n:String)(args:List V)(σ:St)(Q:K1):Prop:=
 uG (decide (n="bytes")) (on (one args) 74 λv=>xe v σ Q) (uG (decide (n="tuple")) (on (one args) 74 λv=>ye v σ Q)
 (uG (decide (n="int")) (on (one args) 74 λv=>on (bV v) 74 λp=>br p.1 p.2 σ (λF1=>Q (.int false 1) F1) (λF1=>Q (.int false 0) F1)) (uG (decide (n="range")) (ze args σ Q) (No 74))))
inductive MK where
 |mt (c j:Nat)
 |app (i:Nat)
 |get (i:Nat)
 |pop (i:Nat)
 |join
noncomputable def yz(i:Nat)(o:n0)(x:Str):Option MK:=Option.rec (motive:=λ_=>Option MK) (Option.rec (motive:=λ_=>Option MK)
 ((nO o).bind λq=>Option.rec (motive:=λ_=>Option MK) (gO (!(sq x "__init__")) ((zE q.1 x).map λj=> .mt q.1 j)) (λ_=>none) (lk x q.2))
 (λ_=>Bool.rec (motive:=λ_=>Option MK) (gO (sq x "pop") (some (.pop i))) (some (.get i)) (sq x "get")) (kX o)) (λ_=>gO (sq x "append") (some (.app i))) (UH o)
noncomputable def pO(σ:St)(ov:V)(x:Str):Option MK:=Option.rec (motive:=λ_=>Option MK) ((yV ov).bind λy=>gO (!y.1&&y.2.isEmpty&&sq x "join") (some .join)) (λi=>(J0 σ.heap i).bind λo=>yz i o x) (rV ov)
noncomputable def qv(i:Nat)(args:List V)(σ:St)(Q:K1):Prop:=on (lA σ.heap i) 78 λxs=>on (one args) 78 λv=>gd (Nat.ble xs.length 100000) (Q .none (σ.set i (.lst (xs++[v]))))
noncomputable def Pb(args:List V)(σ:St)(Q:K1):Prop:=on (one args) 77 λv=>on (rV v) 77 λi=>on (lA σ.heap i) 76 λxs=>on (yS xs) 75 λp=>gd (Nat.ble p.2.length 10000&&Nat.beq xs.length 4) (Q (.bytes p.1 p.2) σ)
noncomputable def JX(i:Nat)(kv:V)(σ:St)(K:Bool->List Ent->UInt8×UInt8->Prop):Prop:=on ((J0 σ.heap i).bind kX) 224 λe=>on (dat σ.heap H6 kv) 223 λd=>on (MD e.1 d) 222 λz=>z.1/\K e.1 e.2 z.2
noncomputable def Ik(i:Nat)(args:List V)(σ:St)(Q:K1):Prop:=on (one args) 224 λkv=>JX i kv σ λnb es k=>br true (C5 k es).isSome σ (λF1=>Q (V.T5 (C8 nb (W4 k es))) F1) (λF1=>Q .none F1)
noncomputable def Jk(i:Nat)(args:List V)(σ:St)(Q:K1):Prop:=w7 (one args) (λkv=>JX i kv σ λnb es k=>es.length<100/\((C5 k es).isSome=true/\Q (V.T5 (C8 nb (W4 k es))) (σ.set i (.dN nb (D6 k es)))))
 (on (two args) 225 λp=>JX i p.1 σ λnb es k=>es.length<100/\br true (C5 k es).isSome σ (λF1=>Q (V.T5 (C8 nb (W4 k es))) (F1.set i (.dN nb (D6 k es)))) (λF1=>Q p.2 F1))
noncomputable def cO(o:n0):Option (Option V):=n0.casesOn (motive:=λ_=>Option (Option V)) o (λ_=>none) (λ_=>none) some (λ_ _=>none) (λ_=>none) (λ_=>none) (λ_=>none) (λ_ _ _=>none) (λ_=>none) none none (λ_ _=>none) (λ_=>none)
theorem Kk:cO o=some x->o= .cell x:=n0.casesOn (motive:=λo=>cO o=some x->o= .cell x) o (λ_=>A0) (λ_=>A0) (λ_ h=>congrArg n0.cell (si h)) (λ_ _=>A0) (λ_=>A0) (λ_=>A0) (λ_=>A0) (λ_ _ _=>A0) (λ_=>A0) A0 A0 (λ_ _=>A0) (λ_=>A0)
noncomputable def Ae(x:Str)(fr:J2)(σ:St)(Q:K1):Prop:=on (lk x fr.O3) 92 λi=>on ((J0 σ.heap i).bind cO) 91 λo=>on o 91 λv=>Q v σ
noncomputable def zS(x:Str)(sc:Scope)(fr:J2)(σ:St)(Q:K1):Prop:=on (lk x sc.names) 93 λk=>NameKind.casesOn (motive:=λ_=>Prop) k (on (lk x fr.loc) 88 λv=>Q v σ) (Ae x fr σ Q) (Ae x fr σ Q) (No 90) (on (Xi x) 89 λv=>Q v σ)
noncomputable def JE(x:Str)(v:V)(sc:Scope)(fr:J2)(σ:St)(K:J2->St->Prop):Prop:=on (lk x sc.names) 96 λk=>NameKind.casesOn (motive:=λ_=>Prop) k (K {fr with loc:=put x v fr.loc} σ)
 (on (lk x fr.O3) 95 λi=>on ((J0 σ.heap i).bind cO) 94 λ_=>K fr (σ.set i (.cell (some v)))) (No 96) (No 96) (No 96)
noncomputable def ME:Expr->Bool
 | .Call (.Name _ _) [] [] _=>false
 |_=>true
noncomputable def pQ(e:Expr):Bool:=Nat.beq e.ctorIdx 26
noncomputable def CC(e:Expr):Bool:=Nat.beq e.ctorIdx 8||(Nat.beq e.ctorIdx 9||Nat.beq e.ctorIdx 10)
noncomputable def isStar(e:Expr):Bool:=Nat.beq e.ctorIdx 22
noncomputable def Lk:V->Bool
 | .bi _=>true
 | .ty _=>true
 | .fn _=>true
 | .cl i=>(zE i "__init__").isSome
 |_=>false
noncomputable def rv(c:Const):Option Str:=Const.casesOn (motive:=λ_=>Option Str) c none (λ_=>none) (λ_=>none) (λ_=>none) (λ_ _=>none) some (λ_=>none) none
noncomputable def Mk(e:Expr):Option Str:=match e with
 | .Constant c _ _=>rv c
 |_=>none
noncomputable def Nk(k:Option Expr):Option Str:=k.bind Mk
noncomputable def Qb(ks:List (Option Expr)):Bool:=ks.all λk=>(Nk k).isSome
noncomputable def noStar(l:List Expr):Bool:=List.rec (motive:=λ_=>Bool) true (λe _ ih=>Bool.rec (motive:=λ_=>Bool) ih false (isStar e)) l
theorem W9{t:Expr}{ts:List Expr}{G:Prop}(h:noStar (t::ts)=true)(k:isStar t=false->noStar ts=true->G):G:=by
 have h:Bool.rec (motive:=λ_=>Bool) (noStar ts) false (isStar t)=true:=h;induction e:isStar t using Q2 with
 |true=>rw[e] at h;exact G2 h
 |false=>rw[e] at h;exact k e h
section
variable(R:Rec)
noncomputable def nG(es:List Expr)(sc:Scope)(fr:J2):St->(List V->St->Prop)->Prop:=List.rec (motive:=λ_=>St->(List V->St->Prop)->Prop) (λσ Q=>Q [] σ)
 (λe _ ih σ Q=>gd (!isStar e) (R.ev e sc fr σ λv P0=>ih P0 λvs M1=>Q (v::vs) M1)) es
noncomputable def sv(ks:List (Option Expr))(es:List Expr)(sc:Scope)(fr:J2)(σ:St)(Q:List (Str×V)->St->Prop):Prop:=List.rec (motive:=λ_=>List Expr->St->(List (Str×V)->St->Prop)->Prop) (λes σ Q=>uG es.isEmpty (Q [] σ) (No 97))
 (λk _ ih es σ Q=>on (Nk k) 97 λx=>List.casesOn (motive:=λ_=>Prop) es (No 97) λe es=>R.ev e sc fr σ λv P0=>ih es P0 λvs M1=>Q ((x,v)::vs) M1) ks es σ Q
noncomputable def opt(o:Option Expr)(sc:Scope)(fr:J2)(σ:St)(Q:Option Int->St->Prop):Prop:=w7 o (λe=>R.ev e sc fr σ λv P0=>on (iV v) 98 λp=>Q (some p.2) P0) (Q none σ)
noncomputable def Rb(T:Expr->Scope->J2->St->(St->Prop)->(St->Prop)->Prop)(op:BoolOp)(sc:Scope)(fr:J2)(xs:List Expr):St->(St->Prop)->(St->Prop)->Prop:=List.rec (motive:=λ_=>St->(St->Prop)->(St->Prop)->Prop)
 (λσ Kt Kf=>BoolOp.casesOn (motive:=λ_=>Prop) op (Kt σ) (Kf σ))
 (λx _ ih σ Kt Kf=>BoolOp.casesOn (motive:=λ_=>Prop) op (T x sc fr σ (λP0=>ih P0 Kt Kf) Kf) (T x sc fr σ Kt (λP0=>ih P0 Kt Kf))) xs
noncomputable def Pk(c:Const):Option Bool:=Const.casesOn (motive:=λ_=>Option Bool) c none some (λ_=>none) (λ_=>none) (λ_ _=>none) (λ_=>none) (λ_=>none) none
noncomputable def Qk(T:Expr->Scope->J2->St->(St->Prop)->(St->Prop)->Prop)(e:Expr)(sc:Scope)(fr:J2)(σ:St)(Kt Kf:St->Prop):Prop:=match e with
 | .UnaryOp op x _=>UnaryOp.casesOn (motive:=λ_=>Prop) op (No 204) (T x sc fr σ Kf Kt) (No 204) (No 204)
 | .BoolOp op xs _=>Rb T op sc fr xs σ Kt Kf
 | .Compare l os rs _=>w7 (two os) (λo=>on (two rs) 204 λr=>gd (!behindInMarks o.2 r.2) (R.ev l sc fr σ λa P0=>R.ev r.1 sc fr P0 λb M1=>T8 o.1 a b M1 λc v5=>
  I6 c v5 (λvC=>R.ev r.2 sc fr vC λd KX=>T8 o.2 b d KX λc2 LX=>I6 c2 LX Kt Kf) Kf))
  (on (one os) 204 λo=>on (one rs) 204 λr=>gd (!behindInMarks o r) (R.ev l sc fr σ λa P0=>R.ev r sc fr P0 λb M1=>T8 o a b M1 λc v5=>I6 c v5 Kt Kf))
 | .Name .. =>R.ev e sc fr σ λv P0=>I6 v P0 Kt Kf
 | .Attribute .. =>R.ev e sc fr σ λv P0=>I6 v P0 Kt Kf
 | .Subscript .. =>R.ev e sc fr σ λv P0=>I6 v P0 Kt Kf
 | .Call .. =>R.ev e sc fr σ λv P0=>I6 v P0 Kt Kf
 | .Constant c _ _=>on (Pk c) 204 λb=>uG b (Kt σ) (Kf σ)
 |_=>No 204
noncomputable def OR(n:Nat):Expr->Scope->J2->St->(St->Prop)->(St->Prop)->Prop:=Nat.rec (motive:=λ_=>Expr->Scope->J2->St->(St->Prop)->(St->Prop)->Prop) (λ_ _ _ _ _ _=>No 99) (λ_ ih=>Qk R ih) n
noncomputable def AS(a:Int)(st:Int):Nat->List V
 |0=>[]
 |n+1=> .int false a::AS (a+st) st n
noncomputable def OE(a b st:Int):Nat:=match decide (st=1) with|true=>(b -a).toNat|false=>(a -b).toNat
noncomputable def MX(a b st:Int):Bool:=decide (-1000000<a)&&decide (a<1000000)&&decide (-1000000<b)&&decide (b<1000000)&&(decide (st=1)||decide (st= -1))
noncomputable abbrev w5:=V⊕(V×V)
noncomputable abbrev m9:=List (Nat×n0)
noncomputable def itL(q:n0):Option (List w5):=n0.casesOn (motive:=λ_=>Option (List w5)) q (λxs=>some (xs.map .inl)) (λ_=>none) (λ_=>none) (λ_ _=>none) (λes=>some (es.map λe=> .inl (.str e.1))) (λ_=>none) (λes=>some (es.map λe=> .inl e.2.1)) (λ_ _ _=>none) (λ_=>none) none none (λ_ _=>none) (λ_=>none)
noncomputable def zz(i:Nat)(o:n0):Option (m9×List w5):=n0.casesOn (motive:=λ_=>Option (m9×List w5)) o (λxs=>some ([(i,.lst xs)],xs.map .inl)) (λxs=>some ([],xs.map .inl)) (λ_=>none) (λ_ _=>none) (λ_=>none) (λ_=>none) (λes=>some ([(i,.dT es)],es.map λe=> .inl e.2.1))
 (λa b st=>gO (MX a b st) (some ([(i,.w9 a b st)],(AS a st (OE a b st)).map .inl))) (λq=>(itL q).map λl=>([],l)) none none (λ_ _=>none) (λ_=>none)
noncomputable def L7(σ:St)(v:V):Option (m9×List w5):=FX (yV v) (λp=>some ([],p.2.map λc=> .inl (.int p.1 (c.toNat:Int)))) (FX (rV v) (λi=>(J0 σ.heap i).bind (zz i)) ((mV v).bind λd=>(dt d).map λp=>([],p.2.map λd=> .inl (V.T5 d))))
noncomputable def D5(σ:St)(v:V):Option (m9×List V):=FX (rV v) (λi=>(J0 σ.heap i).bind λo=>FX (UH o) (λxs=>some ([(i,.lst xs)],xs)) ((fe o).bind λq=>(UH q).map λxs=>([],xs))) ((mV v).bind λd=>(lD d).map λds=>([],ds.map V.T5))
noncomputable def E4(l:m9):St->St:=List.rec (motive:=λ_=>St->St) (λσ=>σ) (λp _ ih σ=>ih (σ.set p.1 (.D4 p.2))) l
noncomputable def rO(x:Str)(sc:Scope):Option V:=(lk x sc.names).bind λk=>NameKind.casesOn (motive:=λ_=>Option V) k none none none none (Xi x)
noncomputable def CA(n:Nat)(l:List V):List w5:=List.rec (motive:=λ_=>Nat->List w5) (λ_=>[]) (λx _ ih n=> .inr (.int false (n:Int),x)::ih (n+1)) l n
noncomputable def aK(l:List V):List V->List w5:=List.rec (motive:=λ_=>List V->List w5) (λ_=>[]) (λx _ ih r=>List.rec (motive:=λ_=>List w5) [] (λy ys _=> .inr (x,y)::ih ys) r) l
noncomputable def tv:m9->m9->Bool
 |[(i,_)],[(j,_)]=> !(Nat.beq i j)
 |_,_=>true
noncomputable def gN(s:String)(iter:Expr)(sc:Scope):Option (List Expr):=(cN iter).bind λp=>(rO p.1 sc).bind λv=>gO (tyB s v) (some p.2)
noncomputable def P4(t:Expr)(iter:Expr)(sc:Scope)(fr:J2)(σ:St)(K:m9->List w5->St->Prop):Prop:=gd (!ae iter)
 (w7 (gN "enumerate" iter sc) (λargs=>gd (noStar args&&(EX t).isSome) (nG R args sc fr σ λvs P0=>on (one vs) 236 λv=>on (D5 P0 v) 200 λp=>K p.1 (CA 0 p.2) P0))
 (w7 (gN "zip" iter sc) (λargs=>gd (noStar args&&(EX t).isSome) (nG R args sc fr σ λvs P0=>on (two vs) 237 λv=>on (D5 P0 v.1) 201 λp=>on (D5 P0 v.2) 201 λq=>gd (tv p.1 q.1) (K (p.1++q.1) (aK p.2 q.2) P0)))
 (R.ev iter sc fr σ λv P0=>on (L7 P0 v) 203 λp=>K p.1 p.2 P0)))
noncomputable def Sb(f:Expr->V->Scope->J2->St->(J2->St->Prop)->Prop)(sc:Scope)(ts:List Expr):List V->J2->St->(J2->St->Prop)->Prop:=List.rec (motive:=λ_=>List V->J2->St->(J2->St->Prop)->Prop)
 (λxs fr σ K=>List.casesOn (motive:=λ_=>Prop) xs (K fr σ) λ_ _=>No 103)
 (λt _ ih xs fr σ K=>List.casesOn (motive:=λ_=>Prop) xs (No 103) λx r=>f t x sc fr σ λV8 F1=>ih r V8 F1 K) ts
noncomputable def uv(f:Expr->V->Scope->J2->St->(J2->St->Prop)->Prop)(t:Expr)(v:V)(sc:Scope)(fr:J2)(σ:St)(K:J2->St->Prop):Prop:=Expr.casesOn (motive_1:=λ_=>Prop) t (λ_ _ _=>No 102) (λ_ _ _=>No 102) (λ_ _ _ _=>No 102) (λ_ _ _=>No 102) (λ_ _ _ _=>No 102) (λ_ _ _ _=>No 102) (λ_ _ _=>No 102) (λ_ _ _=>No 102) (λ_ _ _ _=>No 102) (λ_ _ _ _=>No 102) (λ_ _ _ _ _=>No 102) (λ_ _ _ _=>No 102) (λ_ _=>No 102) (λ_ _=>No 102) (λ_ _=>No 102) (λ_ _ _ _=>No 102) (λ_ _ _ _=>No 102) (λ_ _ _ _=>No 102) (λ_ _=>No 102) (λ_ _ _=>No 102) (λo x _=>R.ev o sc fr σ λov P0=>HE ov x v P0 λM1=>K fr M1) (λo i _=>R.ev o sc fr σ λov P0=>R.ev i sc fr P0 λiv M1=>K7 ov iv v M1 λv5=>K fr v5) (λ_ _=>No 102) (λx _=>JE x v sc fr σ K) (λ_ _=>No 102) (λts _ _=>on (oS σ v) 101 λxs=>gd (noStar ts&&Nat.beq ts.length xs.length) (Sb f sc ts xs fr σ K)) (λ_ _ _ _=>No 102)
noncomputable def asg(n:Nat):Expr->V->Scope->J2->St->(J2->St->Prop)->Prop:=Nat.rec (motive:=λ_=>Expr->V->Scope->J2->St->(J2->St->Prop)->Prop) (λ_ _ _ _ _ _=>No 100) (λ_ ih=>uv R ih) n
noncomputable def asg.CG(n:Nat)(ts:List Expr)(xs:List V)(sc:Scope)(fr:J2)(σ:St)(K:J2->St->Prop):Prop:=Sb (asg R n) sc ts xs fr σ K
noncomputable def n6(t:Expr)(it:w5)(sc:Scope)(fr:J2)(σ:St)(K:J2->St->Prop):Prop:=Sum.casesOn (motive:=λ_=>Prop) it (λv=>asg R 4 t v sc fr σ K) λp=>on (EX t) 104 λts=>gd (noStar ts.1&&Nat.beq ts.1.length 2) (asg.CG R 3 ts.1 [p.1,p.2] sc fr σ K)
noncomputable def Rk(elt:Expr)(ifs:List Expr)(sc:Scope)(n9:J2)(acc:List V)(N:List V->St->Prop)(P0:St):Prop:=List.casesOn (motive:=λ_=>Prop) ifs (R.ev elt sc n9 P0 λv M1=>N (acc++[v]) M1)
 λc r=>List.casesOn (motive:=λ_=>Prop) r (OR R 8 c sc n9 P0 (λM1=>R.ev elt sc n9 M1 λv v5=>N (acc++[v]) v5) (λM1=>N acc M1)) λ_ _=>No 105
noncomputable def F4(elt:Expr)(t:Expr)(ifs:List Expr)(sc:Scope)(l:List w5):J2->St->List V->(List V->St->Prop)->Prop:=List.rec (motive:=λ_=>J2->St->List V->(List V->St->Prop)->Prop) (λ_ σ acc Q=>Q acc σ)
 (λit _ ih fr σ acc Q=>n6 R t it sc fr σ λn9 P0=>Rk R elt ifs sc n9 acc (λBe M1=>ih n9 M1 Be Q) P0) l
noncomputable def Q4(bs:List (Str×V))(l:List (Str×NameKind)):List (Str×Nat)->St->List (Str×Nat)×St:=List.rec (motive:=λ_=>List (Str×Nat)->St->List (Str×Nat)×St) (λacc σ=>(acc,σ))
 (λp _ ih acc σ=>NameKind.casesOn (motive:=λ_=>List (Str×Nat)×St) p.2 (ih acc σ) (ih ((p.1,σ.new)::acc) (σ.push (.cell (lk p.1 bs)))) (ih acc σ) (ih acc σ) (ih acc σ)) l
noncomputable def o9(sc:Scope)(O3:List (Str×Nat))(l:List (Str×NameKind)):Option (List (Str×Nat)):=List.rec (motive:=λ_=>Option (List (Str×Nat))) (some [])
 (λp _ ih=>NameKind.casesOn (motive:=λ_=>Option (List (Str×Nat))) p.2 ih ih ((lk p.1 O3).bind λi=>(lk p.1 sc.names).bind λk=>NameKind.casesOn (motive:=λ_=>Option (List (Str×Nat))) k none (ih.map λl=>(p.1,i)::l) (ih.map λl=>(p.1,i)::l) none none) ih ih) l
noncomputable def Ce(o:Option NameKind):NameKind:=Option.rec (motive:=λ_=>NameKind) .free (λk=>NameKind.casesOn (motive:=λ_=>NameKind) k .free .cell .free .free .free) o
noncomputable def QD(sc:Scope)(l:List (Str×NameKind)):List (Str×NameKind):=l.map λp=>(p.1,NameKind.casesOn (motive:=λ_=>NameKind) p.2 .local .cell (Ce (lk p.1 sc.names)) .globalExplicit .globalImplicit)
noncomputable def isFun(k:ScopeKind):Bool:=Nat.beq k.ctorIdx 1
noncomputable def NX(Y4:Scope):Bool:=isFun Y4.kind&&Gb (Y4.names.map (·.1))&&ZG "__debug__" (Y4.names.map (·.1))&&ZG "__classdict__" (Y4.names.map (·.1))
noncomputable def eH(elt:Expr)(gs:List Comprehension)(Y4:Scope)(sc:Scope)(fr:J2)(σ:St)(Q:K1):Prop:=on (one gs) 113 λg=>gd (NX Y4&&decide (g.is_async=0)) (on (o9 sc fr.O3 Y4.names) 238 λcl=>
 P4 R g.target g.iter sc fr σ λl its P0=>gd (Nat.ble its.length 1000) (F4 R elt g.target g.ifs {Y4 with names:=QD sc Y4.names} its ⟨[],(Q4 [] Y4.names cl (E4 l P0)).1⟩ (Q4 [] Y4.names cl (E4 l P0)).2 [] λvs v5=>Q (.ref v5.new) (v5.push (.lst vs))))
noncomputable def BS(m:MK)(ov:V)(vs:List V)(σ:St)(Q:K1):Prop:=MK.rec (motive:=λ_=>Prop) (λc j=>R.call (.mt c j) (ov::vs) σ Q) (λi=>qv i vs σ Q) (λi=>Ik i vs σ Q) (λi=>Jk i vs σ Q) (Pb vs σ Q) m
noncomputable def CS(fv:V)(vs:List V)(σ:St)(Q:K1):Prop:=V.rec (motive:=λ_=>Prop) (No 118) (λ_ _=>No 118) (λ_ _=>No 118) (λ_=>No 118) (λ_ _=>No 118) (λ_=>No 118) (λ_=>No 118) (λi=>R.call (.fn i) vs σ Q) (λ_ _=>No 118) (λi=>R.call (.cl i) vs σ Q) (λn=>wz n vs σ Q) (λn=>Hk n vs σ Q) fv
noncomputable def Sk(c:Const):Option V:=Const.casesOn (motive:=λ_=>Option V) c (some .none) (λb=>some (.bool false b)) (λi=>some (.int false i)) (λ_=>none) (λ_ _=>none) (λx=>some (.str x)) (λb=>some (.bytes false b)) none
noncomputable def Az(op:UnaryOp)(x:Expr)(sc:Scope)(fr:J2)(σ:St)(Q:K1):Prop:=UnaryOp.casesOn (motive:=λ_=>Prop) op (No 108) (R.ev x sc fr σ λv P0=>I6 v P0 (λM1=>Q (.bool false false) M1) (λM1=>Q (.bool false true) M1)) (No 108) (R.ev x sc fr σ λv P0=>on (iV v) 107 λp=>Q (.int p.1 (-p.2)) P0)
noncomputable def Uk(e:Expr)(sc:Scope)(fr:J2)(σ:St)(Q:K1):Prop:=match e with
 | .Constant c _ _=>on (Sk c) 106 λv=>Q v σ
 | .Name x _=>zS x sc fr σ Q
 | .Tuple es _ _=>gd (Nat.ble es.length 1000) (nG R es sc fr σ λvs P0=>Q (.ref P0.new) (P0.push (.tup vs)))
 | .List es _=>gd (Nat.ble es.length 1000) (nG R es sc fr σ λvs P0=>Q (.ref P0.new) (P0.push (.lst vs)))
 | .Dict ks es _=>uG (vA ks) (gd (vA es) (Q (.ref σ.new) (σ.push (.dT []))))
  (gd (Nat.ble ks.length 15&&Nat.beq ks.length es.length&&Qb ks) (sv R ks es sc fr σ λvs P0=>gd (Gb (vs.map (·.1))) (Q (.ref P0.new) (({P0 with heap:=HX vs P0.heap}:St).push (.dS vs)))))
 | .BinOp l op r _=>R.ev l sc fr σ λa P0=>R.ev r sc fr P0 λb M1=>ke op a b M1 Q
 | .UnaryOp op x _=>Az R op x sc fr σ Q
 | .Compare l ops cs _=>on (one ops) 109 λo=>on (one cs) 109 λr=>gd (!behindInMarks o r) (R.ev l sc fr σ λa P0=>R.ev r sc fr P0 λb M1=>T8 o a b M1 Q)
 | .BoolOp op xs _=>on (two xs) 110 λp=>BoolOp.casesOn (motive:=λ_=>Prop) op (R.ev p.1 sc fr σ λv P0=>I6 v P0 (λM1=>R.ev p.2 sc fr M1 Q) (λM1=>Q v M1)) (R.ev p.1 sc fr σ λv P0=>I6 v P0 (λM1=>Q v M1) (λM1=>R.ev p.2 sc fr M1 Q))
 | .IfExp t a b _=>OR R 8 t sc fr σ (λP0=>R.ev a sc fr P0 Q) (λP0=>R.ev b sc fr P0 Q)
 | .Attribute o x _=>gd (ME o) (R.ev o sc fr σ λv P0=>vS v x P0 Q)
 | .Subscript o i _=>uG (pQ i) (on (Su i) 111 λp=>gd p.2.2.1.isNone (R.ev o sc fr σ λv P0=>opt R p.1 sc fr P0 λl M1=>opt R p.2.1 sc fr M1 λh v5=>tM v l h v5 Q)) (R.ev o sc fr σ λv P0=>R.ev i sc fr P0 λiv M1=>pe v iv M1 Q)
 | .ListComp elt gs Y4 _=>eH R elt gs Y4 sc fr σ Q
 | .Call f args rt p=>gd (vA rt) (w7 (Tu f) (λa=>gd (ME a.1&&Nat.beq a.2.2.endLine p.line&&Nat.blt args.length 29&&noStar args) (R.ev a.1 sc fr σ λov P0=>on (pO P0 ov a.2.1) 114 λm=>nG R args sc fr P0 λvs M1=>BS R m ov vs M1 Q))
  (on (iS f) 119 λa=>gd (noStar args) (R.ev (.Name a.1 a.2) sc fr σ λfv P0=>gd (Lk fv) (nG R args sc fr P0 λvs M1=>CS R fv vs M1 Q))))
 |_=>No 116
noncomputable def bj(K:KS)(a:J2->St->Prop):KS:=λf fr σ=>Fl.casesOn (motive:=λ_=>Prop) f (a fr σ) (K .next fr σ) (a fr σ) (λv=>K (.ret v) fr σ)
noncomputable def Bz(K:KS)(a:J2->St->Prop):KS:=λf fr σ=>Fl.casesOn (motive:=λ_=>Prop) f (a fr σ) (K .brk fr σ) (K .cont fr σ) (λv=>K (.ret v) fr σ)
noncomputable def U5(t:Expr)(body:List Stmt)(sc:Scope)(l:List w5):J2->St->KS->Prop:=List.rec (motive:=λ_=>J2->St->KS->Prop) (λfr σ K=>K .next fr σ)
 (λit _ ih fr σ K=>n6 R t it sc fr σ λn9 P0=>R.ex body sc n9 P0 (bj K λq9 M1=>ih q9 M1 K)) l
noncomputable def cI(t:Expr)(body:List Stmt)(sc:Scope)(n:Nat):J2->St->KS->Prop:=Nat.rec (motive:=λ_=>J2->St->KS->Prop) (λ_ _ _=>No 239)
 (λ_ ih fr σ K=>OR R 8 t sc fr σ (λP0=>R.ex body sc fr P0 (bj K λq9 M1=>ih q9 M1 K)) (λP0=>K .next fr P0)) n
noncomputable def uD(sc:Scope)(ts:List Expr):Option (List Str):=List.rec (motive:=λ_=>Option (List Str)) (some []) (λe _ ih=>(iS e).bind λp=>gO (mO (lk p.1 sc.names)) (ih.map λl=>p.1::l)) ts
noncomputable def DS(sc:Scope)(ts:List Expr):Bool:=List.rec (motive:=λ_=>Bool) false (λe _ ih=>Option.rec (motive:=λ_=>Bool) true (λp=>Option.rec (motive:=λ_=>Bool) false (λk=>NameKind.casesOn (motive:=λ_=>Bool) k ih true true true true) (lk p.1 sc.names)) (iS e)) ts
noncomputable def OX(sc:Scope)(t e:Expr):Bool:=Option.rec (motive:=λ_=>Bool) (!(Nat.beq t.ctorIdx 24)) (λts=>Option.rec (motive:=λ_=>Bool) true (λvs=>Option.rec (motive:=λ_=>Bool) (DS sc ts.1) (λl=>Gb l&& !(vs.1.all (constantsAlone 8))) (uD sc ts.1)) (EX e)) (EX t)
noncomputable def JJ(s:Stmt)(sc:Scope)(fr:J2)(σ:St)(K:KS):Prop:=match s with
 | .Expr e _=>gd (!CC e) (R.ev e sc fr σ λ_ P0=>K .next fr P0)
 | .Return o _=>w7 o (λe=>R.ev e sc fr σ λv P0=>K (.ret v) fr P0) (K (.ret .none) fr σ)
 | .Assign ts e _=>on (one ts) 117 λt=>w7 (Uu e) (λc=>gd (!isStar t) (eH R c.1 c.2.1 c.2.2.1 sc fr σ λv P0=>asg R 4 t v sc fr P0 λq9 M1=>K .next q9 M1))
  (gd (!isStar t&& !CC e&&OX sc t e) (R.ev e sc fr σ λv P0=>asg R 4 t v sc fr P0 λq9 M1=>K .next q9 M1))
 | .If t a b _=>OR R 8 t sc fr σ (λP0=>R.ex a sc fr P0 K) (λP0=>R.ex b sc fr P0 K)
 | .For t iter body orelse _=>gd (vA orelse) (P4 R t iter sc fr σ λl its P0=>U5 R t body sc its fr (E4 l P0) K)
 | .While t body orelse p=>gd (vA orelse) (cI R t body sc 64 fr σ K)
 | .Try body hs orelse fin _=>gd (!vA hs&&vA orelse&&vA fin) (R.ex body sc fr σ K)
 | .Break _=>K .brk fr σ
 | .Continue _=>K .cont fr σ
 | .Pass _=>K .next fr σ
 |_=>No 122
noncomputable def yv(l:List Stmt):Scope->J2->St->KS->Prop:=List.rec (motive:=λ_=>Scope->J2->St->KS->Prop) (λ_ fr σ K=>K .next fr σ)
 (λs _ ih sc fr σ K=>JJ R s sc fr σ (Bz K λn9 P0=>ih sc n9 P0 K)) l
noncomputable def locals(sc:Scope)(bs:List (Str×V)):List (Str×V):=bs.filter λb=>mO (lk b.1 sc.names)
noncomputable def Tb(f:V):Bool:=V.rec (motive:=λ_=>Bool) false (λ_ _=>false) (λ_ _=>false) (λ_=>false) (λ_ _=>false) (λ_=>false) (λ_=>false) (λ_=>false) (λi j=>Nat.beq i 50&&Nat.beq j 0) (λ_=>false) (λ_=>false) (λ_=>false) f
noncomputable def bindG(f:V)(d:Vi)(args:List V):Option (List (Str×V)):=Bool.rec (motive:=λ_=>Option (List (Str×V))) (gO (Tb f&&Nat.beq args.length 3) (some (d.ps.zip (args++[.int false 1,.int false 4])))) (some (d.ps.zip args)) (Nat.beq args.length d.ps.length)
noncomputable def Cz(f:V):Option Nat:=V.rec (motive:=λ_=>Option Nat) none (λ_ _=>none) (λ_ _=>none) (λ_=>none) (λ_ _=>none) (λ_=>none) (λ_=>none) (λ_=>none) (λ_ _=>none) some (λ_=>none) (λ_=>none) f
theorem Vk(h:Cz f=some c):f= .cl c:=by induction f using V.casesOn<;>first|exact A0 h|exact congrArg V.cl (si h)
noncomputable def ES(f:V):Bool:=V.rec (motive:=λ_=>Bool) true (λ_ _=>false) (λ_ _=>false) (λ_=>false) (λ_ _=>false) (λ_=>false) (λ_=>false) (λ_=>false) (λ_ _=>false) (λ_=>false) (λ_=>false) (λ_=>false) f
theorem PX(h:ES f=true):f= .none:=by induction f using V.casesOn<;>first|rfl|exact G2 h
noncomputable def E8(f:V)(args:List V)(σ:St)(Q:K1):Prop:=
 w7 (Cz f) (λc=>on (zE c "__init__") 123 λj=>R.call (.mt c j) (.ref σ.new::args) (σ.push (.inst c [])) λv P0=>uG (ES v) (Q (.ref σ.new) P0) (No 234))
 (on (yX f) 126 λd=>on (bindG f d args) 125 λbs=>R.ex d.body d.sc ⟨locals d.sc bs,(Q4 bs d.sc.names [] σ).1⟩ (Q4 bs d.sc.names [] σ).2 λfl _ M1=>Fl.casesOn (motive:=λ_=>Prop) fl (Q .none M1) (No 124) (No 124) (λv=>Q v M1))
end
noncomputable abbrev oG:=V->List V->St->K1->Option Prop
noncomputable def GS(C:oG)(R:Rec):Rec:=⟨Uk R,yv R,λf args σ Q=>w7 (C f args σ Q) (λP=>P) (E8 R f args σ Q)⟩
noncomputable def run(C:oG):Nat->Rec
 |0=>⟨λ_ _ _ _ _=>No 127,λ_ _ _ _ _=>No 128,λ_ _ _ _=>No 129⟩
 |n+1=>GS C (run C n)
noncomputable def HS:oG:=λ_ _ _ _=>none
local macro_rules
  | `(tactic| rewrite [$e:term]) => `(tactic| first | refine Mine.Internal.rwg $e ?_ | rewrite (config := {}) [$e:term])
  | `(tactic| rewrite [$r:rwRule, $rs,*]) => `(tactic| (rewrite [$r]; rewrite [$rs,*]))
noncomputable def allB{α:Type}(f:α->Bool)(l:List α):Bool:=List.rec (motive:=λ_=>Bool) true (λa _ ih=>Bool.rec (motive:=λ_=>Bool) false ih (f a)) l
theorem Z6(h:allB f l=true):∀a∈l,f a=true:=by
 induction l with
 |nil=>exactλa m=>nomatch m
 |cons a r ih=>
  have h:Bool.rec (motive:=λ_=>Bool) false (allB f r) (f a)=true:=h;intro x m;induction e:f a using Q2 with
  |true=>rw[e] at h;exact(M4.mp m).elim (λq=>q▸e) (ih h x)
  |false=>rw[e] at h;exact G2 h
noncomputable def zv:List (Nat×Addr):=[(12,109),(13,116),(14,123),(15,130),(16,137),(17,144),(34,153),(35,160),(36,167),(37,174),(38,181),(39,186),(40,191),(41,198),(42,205),(43,212),(44,219),(45,224),
 (55,420),(56,427),(57,434),(58,441),(59,448),(60,453),(61,460),(62,467),(63,474),(64,479),(65,484),(66,489),(67,494),(68,499),(69,506)]
noncomputable def Dz:List (Nat×List Addr):=[(10,[84,89,97]),(50,[239,246]),(51,[267]),(52,[288,295,302]),(53,[324,331,338,345,352,359,366,373,380,387,394,401,406])]
noncomputable def clA:List (Nat×Addr):=[(2,44),(3,56),(4,68),(10,100),(50,249),(51,270),(52,305),(53,409)]
noncomputable def J6:V->Option Addr
 | .fn i=>aj i zv
 | .mt i j=>(aj i Dz).bind λl=>J0 l j
 | .cl i=>aj i clA
 |_=>none
theorem U0:∀(l:List α)(n:Nat),J0 l n=l[n]?
 |[],n=>by simp[mB,A9,x8]
 |a::l,0=>by simp[mB,A9,x8]
 |a::l,n+1=>by simp[x8,U0 l n]
theorem K3:∀(l:List α)(n:Nat)(b:α),upd l n b=l.set n b
 |[],n,b=>by simp[iO,PJ,yE]
 |a::l,0,b=>by simp[iO,PJ,yE]
 |a::l,n+1,b=>by simp[yE,K3 l n b]
inductive RO where
 |one (a:Addr) (o:Obj)
 |two (a dx:Addr) (o od:Obj)
 |V5 (a:Addr) (l:List (Addr×Obj))
 |big (a:Addr) (l:List (Addr×Obj))
noncomputable def RO.addr:RO->Addr
 | .one a _=>a
 | .two a _ _ _=>a
 | .V5 a _=>a
 | .big a _=>a
noncomputable def RO.led:RO->List (Addr×Obj)
 | .one a o=>[(a,o)]
 | .two a dx o od=>[(a,o),(dx,od)]
 | .V5 _ l=>l
 | .big _ l=>l
noncomputable def RO.fz:RO->List (Addr×Obj)
 | .V5 _ l=>l
 |_=>[]
noncomputable def L0(rs:List RO):List (Addr×Obj):=rs.flatMap RO.fz
theorem RO.s7{r:RO}{p:Addr×Obj}(h:p∈r.fz):p∈r.led:=by induction r using RO.casesOn<;>first|exact h|cases h
noncomputable def led(rs:List RO):List (Addr×Obj):=rs.flatMap RO.led
theorem j4{rs:List RO}{p:Addr×Obj}(h:p∈L0 rs):p∈led rs:=by
 refine u0 (List.mem_flatMap.mp h) λr hr hp=> ?_;exact List.mem_flatMap.mpr ⟨r,hr,RO.s7 hp⟩
noncomputable def adr(rs:List RO)(i:Nat):Option Addr:=(J0 rs i).map RO.addr
theorem g5(a b:List RO):led (a++b)=led a++led b:=by simp[led]
theorem B3(h:J0 rs i=some r):∀p∈r.led,p∈led rs:=λp hp=>by
 rw[U0] at h;exact List.mem_flatMap.mpr ⟨r,List.mem_of_getElem? h,hp⟩
noncomputable def QX:List Str->List DictEntry->Prop
 |[],es=>es=[]
 |x::xs,es=>∃e q,es=e::q/\(∃t,e.key= .str x t)/\QX xs q
mutual
noncomputable def G3(F:Addr->Obj->Prop):Dt->Value->Prop
 | .none,v=>v= .none
 | .bool _ b,v=>v= .bool b
 | .int _ n,v=>∃t,v= .int n t
 | .str x,v=>∃t,v= .str x t
 | .bytes _ b,v=>∃t,v= .bytes b.toArray t
 | .tup ds,v=>∃a vs n,v= .ref a/\F a (seqObj "tuple" (List.toArray vs) n)/\O4 F ds vs
 | .lst ds,v=>∃a vs n,v= .ref a/\F a (seqObj "list" (List.toArray vs) n)/\O4 F ds vs
 | .obj c xs ds,v=>∃a dx C es n,v= .ref a/\J6 (.cl c)=some C/\F a (instObj C dx)/\F dx (dictOf es n)/\QX xs es/\O4 F ds (es.map (·.val))
noncomputable def O4(F:Addr->Obj->Prop):List Dt->List Value->Prop
 |[],vs=>vs=[]
 |d::ds,vs=>∃v r,vs=v::r/\G3 F d v/\O4 F ds r
end
mutual
theorem G3.mono{F G:Addr->Obj->Prop}(h:∀a o,F a o->G a o):∀{d:Dt}{v:Value},G3 F d v->G3 G d v
 | .none,v,x=>x
 | .bool _ _,v,x=>x
 | .int _ _,v,x=>x
 | .str _,v,x=>x
 | .bytes _ _,v,x=>x
 | .tup ds,v,x=>by
  refine T3 x λa vs n e f r=> ?_;clear x;exact⟨a,vs,n,e,h _ _ f,O4.mono h r⟩
 | .lst ds,v,x=>by
  refine T3 x λa vs n e f r=> ?_;clear x;exact⟨a,vs,n,e,h _ _ f,O4.mono h r⟩
 | .obj c xs ds,v,x=>by
  refine Fb x λa dx C es n e hc f g k r=> ?_;clear x;exact⟨a,dx,C,es,n,e,hc,h _ _ f,h _ _ g,k,O4.mono h r⟩
theorem O4.mono{F G:Addr->Obj->Prop}(h:∀a o,F a o->G a o):∀{ds:List Dt}{vs:List Value},O4 F ds vs->O4 G ds vs
 |[],vs,x=>x
 |d::ds,vs,x=>by
  refine U1 x λv r e f g=> ?_;clear x;exact⟨v,r,e,G3.mono h f,O4.mono h g⟩
end
noncomputable def mX(b:Heap)(rs:List RO)(a:Addr)(o:Obj):Prop:=b.get? a=some o\/(a,o)∈led rs
noncomputable def IsT(o:Obj):Prop:=o.cls= .type "tuple"/\∃xs n,o.data= .seq xs n
noncomputable def KF(b:Heap)(rs:List RO)(a:Addr)(o:Obj):Prop:=IsT o/\mX b rs a o
noncomputable def MA(b:Heap)(rs:List RO)(a:Addr)(o:Obj):Prop:=b.get? a=some o\/(a,o)∈L0 rs
theorem MA.inR(h:MA b rs a o):mX b rs a o:=h.imp id j4
noncomputable def E2(b:Heap)(rs:List RO):V->Value->Prop
 | .none,v=>v= .none
 | .bool _ c,v=>v= .bool c
 | .int _ n,v=>∃t,v= .int n t
 | .str x,v=>∃t,v= .str x t
 | .bytes _ c,v=>∃t,v= .bytes c.toArray t
 | .ref i,v=>∃a,adr rs i=some a/\v= .ref a
 | .W0 d,v=>G3 (MA b rs) d v
 | .ty n,v=>v= .type n
 | .bi n,v=>v= .builtin n
 | .fn i,v=>∃a,J6 (.fn i)=some a/\v= .ref a
 | .mt i j,v=>∃a,J6 (.mt i j)=some a/\v= .ref a
 | .cl i,v=>∃a,J6 (.cl i)=some a/\v= .ref a
noncomputable def V0(b:Heap)(rs:List RO):List V->List Value->Prop
 |[],vs=>vs=[]
 |x::xs,vs=>∃v r,vs=v::r/\E2 b rs x v/\V0 b rs xs r
structure Ext(rs rs':List RO):Prop where
 at_:∀i a,adr rs i=some a->adr rs' i=some a
 tup:∀a o,(a,o)∈led rs->IsT o->(a,o)∈led rs'
 fz:∀p∈L0 rs,p∈L0 rs'
theorem Ext.refl(rs:List RO):Ext rs rs:=⟨λ_ _ h=>h,λ_ _ h _=>h,λ_ h=>h⟩
theorem Ext.trans(x:Ext a b)(y:Ext b c):Ext a c:=⟨λi p h=>y.at_ i p (x.at_ i p h),λp o h t=>y.tup p o (x.tup p o h t) t,λp h=>y.fz p (x.fz p h)⟩
theorem MA.ext(x:Ext rs rs')(h:MA b rs a o):MA b rs' a o:=h.imp id (x.fz _)
theorem E2.ext(x:Ext rs rs')(h:E2 b rs a v):E2 b rs' a v:=by
 cases a with
 |ref i=>exact Exists.imp (λa q=>⟨x.at_ i a q.1,q.2⟩) h
 |W0 d=>exact G3.mono (λ_ _=>MA.ext x) h
 |_=>exact h
theorem V0.cons{b:Heap}{rs:List RO}{x:V}{xs:List V}{v:Value}{vs:List Value}(h:E2 b rs x v)(r:V0 b rs xs vs):V0 b rs (x::xs) (v::vs):=⟨v,vs,rfl,h,r⟩
@[elab_as_elim] theorem V0.un {b:Heap} {rs:List RO} {x:V} {xs:List V} {us:List Value} {M:List Value->Prop} (h:V0 b rs (x::xs) us) (k:∀v r,E2 b rs x v->V0 b rs xs r->M (v::r)):M us:=U1 h λv r e a c=>e▸k v r a c
@[elab_as_elim] theorem V0.ni {b:Heap} {rs:List RO} {us:List Value} {M:List Value->Prop} (h:V0 b rs [] us) (k:M []):M us:=(show us=[] from h)▸k
theorem V0.ext{b:Heap}{rs rs':List RO}(x:Ext rs rs'){xs:List V}{vs:List Value}(h:V0 b rs xs vs):V0 b rs' xs vs:=by
 induction xs generalizing vs with
 |nil=>exact h
 |cons y ys ih=>
  refine h.un λv r a c=> ?_;exact .cons (a.ext x) (ih c)
theorem KF.ext(x:Ext rs rs')(h:KF b rs a o):KF b rs' a o:=⟨h.1,h.2.imp id λk=>x.tup a o k h.1⟩
theorem V0.nil:V0 b rs [] []:=rfl
theorem V0.length{b:Heap}{rs:List RO}{xs:List V}{vs:List Value}(h:V0 b rs xs vs):vs.length=xs.length:=by
 induction xs generalizing vs with
 |nil=>
  refine h.ni ?_;rfl
 |cons y ys ih=>
  refine h.un λv r a c=> ?_;exact congrArg Nat.succ (ih c)
theorem V0.append{b:Heap}{rs:List RO}{xs ys:List V}{vs ws:List Value}(h:V0 b rs xs vs)(k:V0 b rs ys ws):V0 b rs (xs++ys) (vs++ws):=by
 induction xs generalizing vs with
 |nil=>
  refine h.ni ?_;exact k
 |cons y zs ih=>
  refine h.un λv r a c=> ?_;exact .cons a (ih c)
theorem V0.get{b:Heap}{rs:List RO}{xs:List V}{vs:List Value}{i:Nat}{x:V}(h:V0 b rs xs vs)(e:J0 xs i=some x):∃v,vs[i]? =some v/\E2 b rs x v:=by
 induction xs generalizing vs i with
 |nil=>exact A0 e
 |cons y ys ih=>
  refine h.un λv r a c=> ?_;cases i with
  |zero=>exact⟨v,rfl,si e▸a⟩
  |succ i=>exact ih (vs:=r) c e
theorem V0.take{b:Heap}{rs:List RO}{xs:List V}{vs:List Value}(k:Nat)(h:V0 b rs xs vs):V0 b rs (xs.take k) (vs.take k):=by
 induction k generalizing xs vs with
 |zero=>exact rfl
 |succ k ih=>
  cases xs with
  |nil=>
   refine h.ni ?_;exact rfl
  |cons y ys=>
   refine h.un λv r a c=> ?_;exact .cons a (ih c)
theorem V0.drop{b:Heap}{rs:List RO}{xs:List V}{vs:List Value}(k:Nat)(h:V0 b rs xs vs):V0 b rs (xs.drop k) (vs.drop k):=by
 induction k generalizing xs vs with
 |zero=>exact h
 |succ k ih=>
  cases xs with
  |nil=>
   refine h.ni ?_;exact rfl
  |cons y ys=>
   refine h.un λv r a c=> ?_;exact ih c
theorem G3.vt(h:G3 (MA b rs) d v):E2 b rs (V.T5 d) v:=by
 induction d using Dt.casesOn<;>exact h
theorem O4.vs:∀{vs:List Value},O4 (MA b rs) ds vs->V0 b rs (ds.map V.T5) vs:=by
 induction ds with
 |nil=>
  intro _ h;exact h
 |cons d ds ih=>
  intro _ h;refine U1 h λv r e a c=> ?_;clear h;exact⟨v,r,e,a.vt,ih c⟩
noncomputable def uB(b:Heap)(rs:List RO):List (Str×V)->List DictEntry->Prop
 |[],es=>es=[]
 |p::r,es=>∃e q,es=e::q/\(∃t,e.key= .str p.1 t)/\E2 b rs p.2 e.val/\uB b rs r q
noncomputable def t7{κ:Type}(b:Heap)(rs:List RO):List (κ×V)->List (κ×Value)->Prop
 |[],l4=>l4=[]
 |p::r,l4=>∃v q,l4=(p.1,v)::q/\E2 b rs p.2 v/\t7 b rs r q
noncomputable abbrev qQ:= @t7 Str
noncomputable abbrev RX:= @t7 Int
set_option genInjectivity false in
structure E5(w:World) where
 K:Type
 dec:DecidableEq K
 knd: @HeapKind E1 w K dec
 rd:Dt->Option K
 sO:∀{h:Heap}{d:Dt}{a:Addr}{k:K},rd d=some k->G3 (λa o=>o.cls= .type "tuple"/\h.get? a=some o) d (.ref a)-> @HeapKind.is E1 w K dec knd h k a
 PE:∀{d d':Dt}{k k':K}{s v:Bool},rd d=some k->rd d'=some k'->R8 d d'=some (s,v)->(v=true↔k=k')
 QE:∀{d d':Dt}{k:K}{r:Bool×Bool},B8 d'=true->rd d=some k->rd d'=none->R8 d d'=some r->False
 ref:∀{F:Addr->Obj->Prop}{d:Dt}{v:Value}{k:K},rd d=some k->G3 F d v->∃a,v= .ref a
 room:∀{A:Around},A.units+50<cLine-> @HeapKind.room E1 w K dec knd A
noncomputable def W8{w:World}(D:E5 w)(b:Heap)(rs:List RO):List (Dt×V×V)->List (D.K×Addr×Value)->Prop
 |[],xs=>xs=[]
 |p::r,xs=>∃k a v q,xs=(k,a,v)::q/\D.rd p.1=some k/\G3 (KF b rs) p.1 (.ref a)/\E2 b rs p.2.1 (.ref a)/\E2 b rs p.2.2 v/\W8 D b rs r q
noncomputable def M7{w:World}(D:E5 w)(b:Heap)(rs:List RO)(es:List (Dt×V×V))(o:Obj):Prop:=
 ∃arr ep xs,o.ExactDict/\o.data= .dict arr ep/\arr.toList=xs.map (@entryOfKey E1 w D.K D.dec D.knd)/\(xs.map (·.1)).Nodup/\W8 D b rs es xs
noncomputable def De(a c st:Int)(t u v:Tok)(o:Obj):Prop:=∀h:Heap,∀r,h.get? r=some o->IsRange h r a c st t u v
noncomputable def rQ(b:Heap)(rs:List RO)(v:Option V)(c:Option Value):Prop:=Option.rec (motive:=λ_=>Prop) (Option.rec (motive:=λ_=>Prop) True (λ_=>False) c) (λv=>Option.rec (motive:=λ_=>Prop) False (E2 b rs v) c) v
theorem rQ.ext(X:Ext rs rs')(h:rQ b rs v c):rQ b rs' v c:=by
 induction v using opQ<;>induction c using opQ<;>first|exact h|exact E2.ext X h
noncomputable def P2(w:World)(b:Heap)(rs:List RO):n0->RO->Prop
 | .lst xs,r=>∃a vs n,r= .one a (seqObj "list" (List.toArray vs) n)/\V0 b rs xs vs
 | .tup xs,r=>∃a vs n,r= .one a (seqObj "tuple" (List.toArray vs) n)/\V0 b rs xs vs
 | .cell v,r=>∃a o c,r= .one a o/\o.data= .cell c/\rQ b rs v c
 | .inst c fs,r=>∃a dx C es n,r= .two a dx (instObj C dx) (dictOf es n)/\J6 (.cl c)=some C/\uB b rs fs es
 | .dS es,r=>∃a o l4,r= .one a o/\o.IsDictOf (strKind E1 w) l4/\qQ b rs es l4
 | .dI es,r=>∃a o l4,r= .one a o/\o.IsDictOf (intKind E1 w) l4/\RX b rs es l4
 | .dT es,r=>∃a o,r= .one a o/\((es=[]/\o.IsDictOf (strKind E1 w) []/\o.IsDictOf (intKind E1 w) [])\/∃D:E5 w,M7 D b rs es o)
 | .w9 x y st,r=>∃a o t u v,r= .one a o/\o.cls≠.type "tuple"/\De x y st t u v o
 | .D4 o,r=>∃a ob l,r= .V5 a l/\(a,ob)∈L0 rs/\P2 w b rs o (.one a ob)
 | .L0,r=>∃a l,r= .V5 a l
 | .dN nb es,r=>∃a o,r= .one a o/\((es.map (C6 nb)=[]/\o.IsDictOf (strKind E1 w) []/\o.IsDictOf (intKind E1 w) [])\/∃D:E5 w,M7 D b rs (es.map (C6 nb)) o)
 | .box P,r=>∃a l f p,r= .big a l/\(∀i x,f i=some x->adr rs i=some x)/\(∀q∈p,q∈L0 rs)/\P w b f p a l
 | .any,_=>True
inductive F2{α β:Type}(R:α->β->Prop):List α->List β->Prop
 |nil:F2 R [] []
 |cons {a b l m} (h:R a b) (t:F2 R l m):F2 R (a::l) (b::m)
theorem F2.map{α β γ:Type}{R:β->γ->Prop}{g:α->β}{f:α->γ}{l:List α}(h:∀x∈l,R (g x) (f x)):F2 R (l.map g) (l.map f):=by
 induction l with
 |nil=>exact .nil
 |cons a l ih=>exact .cons (h a M3) (ih λx z=>h x (a5 _ z))
theorem F2.to(h:∀x∈l,R x (f x)):F2 R l (l.map f):=by
 induction l with
 |nil=>exact .nil
 |cons a l ih=>exact .cons (h a M3) (ih λx z=>h x (a5 _ z))
theorem F2.refl(h:∀x∈l,R x x):F2 R l l:=by
 induction l with
 |nil=>exact .nil
 |cons a l ih=>exact .cons (h a M3) (ih λx z=>h x (a5 _ z))
theorem F2.flip(k:∀a b,R a b->S b a)(h:F2 R l m):F2 S m l:=by
 induction h with
 |nil=>exact .nil
 |cons h t ih=>exact .cons (k _ _ h) ih
noncomputable def PR{κ:Type}(R:V->V->Prop)(p q:κ×V):Prop:=p.1=q.1/\R p.2 q.2
noncomputable def TR(R:V->V->Prop)(K:Dt->V->Prop)(p q:Dt×V×V):Prop:=p.1=q.1/\K q.1 q.2.1/\R p.2.1 q.2.1/\R p.2.2 q.2.2
inductive AR(R:V->V->Prop)(K:Dt->V->Prop):n0->n0->Prop
 |lst {xs ys} (h:F2 R xs ys):AR R K (.lst xs) (.lst ys)
 |tup {xs ys} (h:F2 R xs ys):AR R K (.tup xs) (.tup ys)
 |RE:AR R K (.cell none) (.cell none)
 |cell {v u} (h:R v u):AR R K (.cell (some v)) (.cell (some u))
 |inst {c xs ys} (h:F2 (PR R) xs ys):AR R K (.inst c xs) (.inst c ys)
 |dS {xs ys} (h:F2 (PR R) xs ys):AR R K (.dS xs) (.dS ys)
 |dI {xs ys} (h:F2 (PR R) xs ys):AR R K (.dI xs) (.dI ys)
 |dT {xs ys} (h:F2 (TR R K) xs ys):AR R K (.dT xs) (.dT ys)
 |w9 {x y z}:AR R K (.w9 x y z) (.w9 x y z)
 |D4 {o o'} (h:AR R K o o'):AR R K (.D4 o) (.D4 o')
 |L0:AR R K .L0 .L0
 |dN {nb es} (h:F2 (TR R K) (es.map (C6 nb)) (es.map (C6 nb))):AR R K (.dN nb es) (.dN nb es)
 |box {P} (h:∀v,R v v):AR R K (.box P) (.box P)
 |any:AR R K .any .any
theorem AR.flip{R S:V->V->Prop}{K L:Dt->V->Prop}(k:∀a b,R a b->S b a)(l:∀d v,L d v){o o':n0}(h:AR R K o o'):AR S L o' o:=by
 have p:∀{κ:Type}(a b:κ×V),PR R a b->PR S b a:=λa b z=>⟨z.1.symm,k _ _ z.2⟩;have t:∀a b,TR R K a b->TR S L b a:=λa b z=>⟨z.1.symm,l _ _,k _ _ z.2.2.1,k _ _ z.2.2.2⟩;induction h with
 |lst h=>exact .lst (h.flip k)
 |tup h=>exact .tup (h.flip k)
 |RE=>exact .RE
 |cell h=>exact .cell (k _ _ h)
 |inst h=>exact .inst (h.flip p)
 |dS h=>exact .dS (h.flip p)
 |dI h=>exact .dI (h.flip p)
 |dT h=>exact .dT (h.flip t)
 |w9=>exact .w9
 |D4 _ ih=>exact .D4 ih
 |L0=>exact .L0
 |dN h=>exact .dN (h.flip t)
 |box h=>exact .box λv=>k _ _ (h v)
 |any=>exact .any
theorem AR.refl{R:V->V->Prop}{K:Dt->V->Prop}(k:∀v,R v v)(l:∀d v,K d v)(o:n0):AR R K o o:=by
 have p:∀{κ:Type}{l:List (κ×V)},F2 (PR R) l l:=F2.refl λx _=>⟨rfl,k _⟩;have t:∀{l:List (Dt×V×V)},F2 (TR R K) l l:=F2.refl λx _=>⟨rfl,l _ _,k _,k _⟩;induction o with
 |lst xs=>exact .lst (.refl λv _=>k v)
 |tup xs=>exact .tup (.refl λv _=>k v)
 |cell v=>cases v with
  |none=>exact .RE
  |some v=>exact .cell (k v)
 |inst=>exact .inst p
 |dS=>exact .dS p
 |dI=>exact .dI p
 |dT=>exact .dT t
 |w9=>exact .w9
 |D4 o ih=>exact .D4 ih
 |L0=>exact .L0
 |dN=>exact .dN t
 |box=>exact .box k
 |any=>exact .any
structure Tr(b:Heap)(rs rs':List RO)(R:V->V->Prop)(K:Dt->V->Prop):Prop where
 v:∀v v' u,R v v'->E2 b rs v u->E2 b rs' v' u
 k:∀d v a,K d v->G3 (KF b rs) d (.ref a)->E2 b rs' v (.ref a)->G3 (KF b rs') d (.ref a)
 p:∀q∈L0 rs,q∈L0 rs'
section
variable{w:World}{b:Heap}{rs rs':List RO}{R:V->V->Prop}{K:Dt->V->Prop}(T:Tr b rs rs' R K)
include T
theorem Tr.vs{xs ys:List V}(h:F2 R xs ys){us:List Value}(z:V0 b rs xs us):V0 b rs' ys us:=by
 induction h generalizing us with
 |nil=>exact z
 |cons h _ ih=>
  refine z.un λv r a c=> ?_;exact .cons (T.v _ _ _ h a) (ih c)
theorem Tr.es(h:F2 (PR R) xs ys)(z:uB b rs xs us):uB b rs' ys us:=by
 induction h generalizing us with
 |nil=>exact z
 |cons h _ ih=>exact YG z λe q x k v r=>⟨e,q,x,h.1▸k,T.v _ _ _ h.2 v,ih r⟩
theorem Tr.ps(h:F2 (PR R) xs ys)(z:t7 b rs xs us):t7 b rs' ys us:=by
 induction h generalizing us with
 |nil=>exact z
 |cons h _ ih=>exact U1 z λv q x a r=>⟨v,q,h.1▸x,T.v _ _ _ h.2 a,ih r⟩
theorem Tr.ts{D:E5 w}{xs ys:List (Dt×V×V)}(h:F2 (TR R K) xs ys){us:List (D.K×Addr×Value)}(z:W8 D b rs xs us):W8 D b rs' ys us:=by
 induction h generalizing us with
 |nil=>exact z
 |cons h _ ih=>exact tB z λk a v q x y d c r=>have c':=T.v _ _ _ h.2.2.1 c;⟨k,a,v,q,x,h.1▸y,T.k _ _ _ h.2.1 (h.1▸d) c',c',T.v _ _ _ h.2.2.2 r.1,ih r.2⟩
theorem Tr.dict{D:E5 w}{xs ys:List (Dt×V×V)}(h:F2 (TR R K) xs ys){o:Obj}(z:M7 D b rs xs o):M7 D b rs' ys o:=BE z λa e us x1 x2 x3 x4 x5=>⟨a,e,us,x1,x2,x3,x4,T.ts h x5⟩
theorem Tr.dT{xs ys:List (Dt×V×V)}(h:F2 (TR R K) xs ys){r:RO}(z:P2 w b rs (.dT xs) r):P2 w b rs' (.dT ys) r:=
 A3 z λa o e q=>⟨a,o,e,q.imp (λy=>⟨by cases h with|nil=>rfl|cons _ _=>exact Rj y.1,y.2⟩) (Exists.imp λ_=>T.dict h)⟩
theorem Tr.o{o o':n0}(h:AR R K o o'):∀{r:RO},P2 w b rs o r->P2 w b rs' o' r:=by
 induction h with
 |lst h=>exactλ{r} z=>V3 z λa vs n e q=>⟨a,vs,n,e,T.vs h q⟩
 |tup h=>exactλ{r} z=>V3 z λa vs n e q=>⟨a,vs,n,e,T.vs h q⟩
 |RE=>exactλ{r} z=>T3 z λa o c e d q=>⟨a,o,c,e,d,by
  cases c with
  |none=>exact q
  |some u=>exact q⟩
 |cell h=>exactλ{r} z=>T3 z λa o c e d q=>⟨a,o,c,e,d,by
  cases c with
  |none=>exact q
  |some u=>exact T.v _ _ _ h q⟩
 |inst h=>exactλ{r} z=>EE z λa dx C es n e d q=>⟨a,dx,C,es,n,e,d,T.es h q⟩
 |dS h=>exactλ{r} z=>T3 z λa o c e d q=>⟨a,o,c,e,d,T.ps h q⟩
 |dI h=>exactλ{r} z=>T3 z λa o c e d q=>⟨a,o,c,e,d,T.ps h q⟩
 |dT h=>exact T.dT h
 |w9=>exactλ{r} z=>z
 |D4 _ ih=>exactλ{r} z=>T3 z λa ob l e m q=>⟨a,ob,l,e,T.p _ m,ih q⟩
 |L0=>exactλ{r} z=>z
 |dN h=>exact T.dT h
 |box h=>exactλ{r} z=>pB z λa l f p e h1 h2 h3=>⟨a,l,f,p,e,λi x q=>u0 (T.v (.ref i) _ _ (h _) ⟨x,h1 i x q,rfl⟩) λy e1 e2=>(Value.ref.inj e2)▸e1,λq hq=>T.p q (h2 q hq),h3⟩
 |any=>exactλ{r} z=>z
end
theorem Ext.tr(x:Ext rs rs'):Tr b rs rs' Eq λ_ _=>True:=⟨λv v' u e z=>e▸z.ext x,λd v a _ z _=>z.mono λ_ _=>KF.ext x,x.fz⟩
theorem uB.ext(x:Ext rs rs')(h:uB b rs fs es):uB b rs' fs es:=x.tr.es (.refl λ_ _=>⟨rfl,rfl⟩) h
theorem t7.ext(x:Ext rs rs')(h:t7 b rs es l4):t7 b rs' es l4:=x.tr.ps (.refl λ_ _=>⟨rfl,rfl⟩) h
theorem W8.ext(x:Ext rs rs')(h:W8 D b rs es xs):W8 D b rs' es xs:=x.tr.ts (.refl λ_ _=>⟨rfl,trivial,rfl,rfl⟩) h
theorem P2.ext(x:Ext rs rs')(h:P2 w b rs o r):P2 w b rs' o r:=x.tr.o (.refl (λ_=>rfl) (λ_ _=>trivial) o) h
noncomputable abbrev OG:=OsState×Array GenState
structure Cx where
 fs:List (Addr×(Str->Option Value))
 os:List (Addr×Obj)
 og:OG
structure M0(w:World)(b:Heap)(cx:Cx)(H:List n0)(rs:List RO)(h:Heap)(og:OG):Prop where
 keep:∀a o,b.get? a=some o->h.get? a=some o
 ns:∀p∈cx.fs,h.Ns p.1 p.2/\b.get? p.1=none
 at_:∀p∈cx.os++led rs,h.get? p.1=some p.2/\b.get? p.1=none
 nd:(cx.fs.map (·.1)++(cx.os++led rs).map (·.1)).Nodup
 len:H.length=rs.length
 big:b.objs.size<=h.objs.size/\og=cx.og
 tab:adr rs 0=some 145
 ok:∀i o r,J0 H i=some o->J0 rs i=some r->P2 w b rs o r
section
variable{w:World}{b h h':Heap}{cx:Cx}{H:List n0}{rs:List RO}{og:OG}
theorem M0.lt(S:M0 w b cx H rs h og)(hp:p∈cx.os++led rs):p.1<h.objs.size:=Heap.lt_size (S.at_ p hp).1
theorem fH{a:Addr}(h:b.objs.size<=a):b.get? a=none:=Heap.get?_none_of_le h
theorem M0.inR(S:M0 w b cx H rs h og)(x:mX b rs a o):h.get? a=some o:=x.elim (S.keep a o) λm=>(S.at_ (a,o) (u5 _ m)).1
theorem M0.ref(S:M0 w b cx H rs h og)(e:J0 H i=some o):∃r,J0 rs i=some r/\P2 w b rs o r:=by
 rw[U0] at e;have hl:i<rs.length:=S.len▸(kQ.mp e).1;exact⟨rs[i],by rw[U0];exact jX hl,S.ok i o _ (by rw[U0];exact e) (by rw[U0];exact jX hl)⟩
theorem M0.Ub(S:M0 w b cx H rs h og)(x:MA b rs a o):h.get? a=some o:=S.inR x.inR
theorem M0.grown(S:M0 w b cx H rs h og)(k:∀a o,h.get? a=some o->h'.get? a=some o)(sz:h.objs.size<=h'.objs.size):M0 w b cx H rs h' og where
 keep:=λa o e=>k a o (S.keep a o e)
 ns:=λp hp=>⟨(S.ns p hp).1.keeps k,(S.ns p hp).2⟩
 at_:=λp hp=>⟨k p.1 p.2 (S.at_ p hp).1,(S.at_ p hp).2⟩
 nd:=S.nd
 len:=S.len
 big:=⟨V7 S.big.1 sz,S.big.2⟩
 tab:=S.tab
 ok:=S.ok
theorem N7(l:List α)(x:α):∀{i:Nat}{y:α},J0 (l++[x]) i=some y->(J0 l i=some y)\/(i=l.length/\y=x):=by
 intro i y h;rw[U0] at h;rw[U0];by_cases hi:i<l.length
 .rw[List.getElem?_append_left hi] at h;exact .inl h
 .rw[List.getElem?_append_right (gB.mp hi)] at h;have:i -l.length=0:=by
   have:=(kQ.mp h).1;simpa using this
  rw[this] at h;exact .inr ⟨by lia,by simpa using h.symm⟩
theorem Ext.push(rs:List RO)(r:RO):Ext rs (rs++[r]) where
 at_:=λi a e=>by
  unfold adr at e⊢;rw[U0] at e⊢;refine u0 (HJ.mp e) λx hx B0=> ?_;subst B0;rw[List.getElem?_append_left (kQ.mp hx).1,hx];rfl
 tup:=λa o m _=>by rw[g5];exact o7 _ m
 fz:=λp m=>by unfold L0 at m⊢;rw[List.flatMap_append];exact o7 _ m
theorem j7(rs:List RO)(r:RO):adr (rs++[r]) rs.length=some r.addr:=by
 unfold adr;rw[U0,List.getElem?_append_right (j6 _)];simp
theorem M0.more(S:M0 w b cx H rs h og)(new:∀p∈r.led,h.get? p.1=some p.2/\b.get? p.1=none/\p.1∉cx.fs.map (·.1)/\p.1∉(cx.os++led rs).map (·.1))(nd:(r.led.map (·.1)).Nodup)
 (ok:P2 w b (rs++[r]) o r):M0 w b cx (H++[o]) (rs++[r]) h og where
 keep:=S.keep
 ns:=S.ns
 at_:=λp hp=>by
  rw[g5,<-i7] at hp;rcases R5.mp hp with hp|hp
  .exact S.at_ p hp
  .have hp:p∈r.led:=by simpa[led] using hp
   exact⟨(new p hp).1,(new p hp).2.1⟩
 nd:=by
  have e:(cx.os++led (rs++[r])).map (·.1)=(cx.os++led rs).map (·.1)++r.led.map (·.1):=by simp[led]
  rw[e,<-i7];refine gD.mpr ⟨S.nd,nd,?_⟩;rintro a ha c hc rfl;refine u0 (z5.mp hc) λq hq B0=> ?_;subst B0;rcases R5.mp ha with ha|ha
  .exact(new q hq).2.2.1 ha
  .exact(new q hq).2.2.2 ha
 len:=by simp[S.len]
 big:=S.big
 tab:=(Ext.push rs r).at_ _ _ S.tab
 ok:=λi o' r' e1 e2=>by
  rcases N7 _ _ e1 with f1|⟨f1,g1⟩
  .rcases N7 _ _ e2 with f2|⟨f2,g2⟩
   .exact(S.ok i o' r' f1 f2).ext (.push rs r)
   .rw[U0] at f1;have:=(kQ.mp f1).1;rw[S.len,f2] at this;exact absurd this (Nat.lt_irrefl _)
  .rcases N7 _ _ e2 with f2|⟨f2,g2⟩
   .rw[U0] at f2;have:=(kQ.mp f2).1;rw[f1,S.len] at this;exact absurd this (Nat.lt_irrefl _)
   .subst g1 g2;exact ok
theorem M0.fresh(S:M0 w b cx H rs h og){a:Addr}(ha:h.objs.size<=a):b.get? a=none/\a∉cx.fs.map (·.1)/\a∉(cx.os++led rs).map (·.1):=by
 refine⟨fH (V7 S.big.1 ha),λhm=> ?_,λhm=> ?_⟩
 .refine u0 (z5.mp hm) λp hp B0=> ?_;subst B0;exact absurd (S.ns p hp).1.lt (gB.mpr ha)
 .refine u0 (z5.mp hm) λp hp B0=> ?_;subst B0;exact absurd (S.lt hp) (gB.mpr ha)
theorem M0.push(S:M0 w b cx H rs h og)(hf:ob.isFreed=false)(ok:P2 w b (rs++[.one h.objs.size ob]) o (.one h.objs.size ob)):M0 w b cx (H++[o]) (rs++[.one h.objs.size ob]) (h.push ob) og:=by
 have k:∀a o,h.get? a=some o->(h.push ob).get? a=some o:=λa o e=>Heap.get?_push_of_some _ e;have f:=S.fresh (j6 _);refine(S.grown k (by rw[Heap.size_push];exact Nat.le_succ _)).more (λp hp=> ?_) (by simp[RO.led]) ok;obtain rfl:p=(h.objs.size,ob):=by simpa[RO.led] using hp
 exact⟨Heap.get?_push_size _ hf,f.1,f.2.1,f.2.2⟩
end
theorem vB:∀{l:List α}{i:Nat}{r:α},J0 l i=some r->∃l1 l2,l=l1++r::l2/\l1.length=i/\∀x,upd l i x=l1++x::l2
 |a::l,0,r,h=>by obtain rfl:=si h;exact⟨[],l,rfl,rfl,λx=>rfl⟩
 |a::l,i+1,r,h=>by
  refine U1 (vB (l:=l) (i:=i) h) λl1 l2 e n u=> ?_;exact⟨a::l1,l2,by rw[e];rfl,by simp[n],λx=>by show a::upd l i x=_;rw[u _];rfl⟩
theorem i5(h:J0 (upd l i x) j=some y):(j≠i/\J0 l j=some y)\/(j=i/\y=x):=by
 rw[U0,K3] at h;rw[U0];by_cases e:j=i
 .subst e;right;rw[List.getElem?_set] at h;simp at h;exact⟨rfl,h.2.symm⟩
 .left;rw[List.getElem?_set_ne (Ne.symm e)] at h;exact⟨e,h⟩
section
theorem X9(e:J0 rs i=some r):∃l1 l2,led rs=l1++(r.led++l2)/\∀x,led (upd rs i x)=l1++(x.led++l2):=by
 refine U1 (vB e) λl1 l2 e1 _ u=> ?_;exact⟨led l1,led l2,by rw[e1];simp[led],λx=>by rw[u _];simp[led]⟩
theorem Ext.upd(e:J0 rs i=some r)(ha:r'.addr=r.addr)(hn:∀p∈r.led,¬IsT p.2)(hz:r.fz=[]:=by rfl):Ext rs (upd rs i r') where
 at_:=λj a q=>by
  unfold adr at q⊢;by_cases hj:j=i
  .subst hj;rw[e] at q;have:J0 (Mine.Internal.upd rs j r') j=some r':=by
    rw[U0,K3,List.getElem?_set_self];rw[U0] at e;exact(kQ.mp e).1
   rw[this];simpa[ha] using q
  .have:J0 (Mine.Internal.upd rs i r') j=J0 rs j:=by rw[U0,U0,K3,List.getElem?_set_ne (Ne.symm hj)]
   rw[this];exact q
 fz:=λp m=>by
  refine U1 (vB e) λl1 l2 e1 _ u=> ?_;rw[u _];rw[e1] at m;unfold L0 at m⊢;simp only[List.flatMap_append,List.flatMap_cons,hz,List.nil_append,R5] at m⊢;exact m.imp id .inr
 tup:=λa o m t=>by
  refine A3 (X9 e) λl1 l2 e1 u=> ?_;rw[e1] at m;rw[u _];rcases R5.mp m with m|m
  .exact o7 _ m
  .rcases R5.mp m with m|m
   .exact absurd t (hn _ m)
   .exact u5 _ (u5 _ m)
theorem M0.upd(S:M0 w b cx H rs h og)(e:J0 rs i=some r)(ha:r'.addr=r.addr)(hl:r'.led.map (·.1)=r.led.map (·.1))(hn:∀p∈r.led,¬IsT p.2)
 (k:∀a o,a∉r.led.map (·.1)->h.get? a=some o->h'.get? a=some o) (new:∀p∈r'.led,h'.get? p.1=some p.2) (sz:h.objs.size<=h'.objs.size) (ok:P2 w b (upd rs i r') o r') (hz:r.fz=[]:=by rfl):
 M0 w b cx (upd H i o) (upd rs i r') h' og/\Ext rs (upd rs i r'):=by
 have X:=Ext.upd e ha hn hz;refine A3 (X9 e) λl1 l2 e1 u=> ?_;have nd:(cx.fs.map (·.1)++(cx.os.map (·.1)++(l1.map (·.1)++(r.led.map (·.1)++l2.map (·.1))))).Nodup:=by have:=S.nd;rw[e1] at this;simpa using this
 have Av:=nd;have Bv:∀q∈cx.fs,q.1∉r.led.map (·.1):=by
  intro q hq hm;rw[gD] at Av;exact Av.2.2 _ (d5 hq) _ (u5 _ (u5 _ (o7 _ hm))) rfl
 replace nd:=(gD.mp nd).2.1
 have Wk:∀p∈r.led,p∈cx.os++led rs:=λp hp=>u5 _ (B3 e p hp);have Cv:∀q,q∈cx.os\/q∈l1\/q∈l2->q.1∉r.led.map (·.1):=by
  intro q hq hm;rw[gD] at nd;refine R2 nd λn1 n2 n3=> ?_;clear nd;rw[gD] at n2;refine R2 n2 λm1 m2 m3=> ?_;clear n2;rw[gD] at m2;refine R2 m2 λo1 o2 o3=> ?_;clear m2;rcases hq with hq|hq|hq
  .exact n3 _ (d5 hq) _ (u5 _ (o7 _ hm)) rfl
  .exact m3 _ (d5 hq) _ (o7 _ hm) rfl
  .exact o3 _ hm _ (d5 hq) rfl
 refine⟨⟨λa x q=>k a x (λhm=> ?_) (S.keep a x q),λp hp=>⟨(S.ns p hp).1.at' λo e=>k _ o (Bv p hp) e,(S.ns p hp).2⟩,λp hp=> ?_,?_,?_,⟨V7 S.big.1 sz,S.big.2⟩,X.at_ _ _ S.tab,λj p q e2 e3=> ?_⟩,X⟩
 .refine u0 (z5.mp hm) λp hp B0=> ?_;subst B0;have:=(S.at_ p (Wk p hp)).2;rw[this] at q;exact A0 q
 .rw[u] at hp;have old:∀q,q∈cx.os\/q∈l1\/q∈l2->h'.get? q.1=some q.2/\b.get? q.1=none:=by
   intro q hq;have hm:q∈cx.os++led rs:=by
    rw[e1];rcases hq with hq|hq|hq
    .exact o7 _ hq
    .exact u5 _ (o7 _ hq)
    .exact u5 _ (u5 _ (u5 _ hq))
   exact⟨k _ _ (Cv q hq) (S.at_ q hm).1,(S.at_ q hm).2⟩
  rcases R5.mp hp with hp|hp
  .exact old p (.inl hp)
  .rcases R5.mp hp with hp|hp
   .exact old p (.inr (.inl hp))
   .rcases R5.mp hp with hp|hp
    .refine⟨new p hp,?_⟩;have:p.1∈r.led.map (·.1):=hl▸d5 hp;refine u0 (z5.mp this) λq hq e=> ?_;rw[e.symm];exact(S.at_ q (Wk q hq)).2
    .exact old p (.inr (.inr hp))
 .rw[u _];simp only[w8,hl];simpa using Av
 .rw[K3,K3,MJ,MJ,S.len]
 .rcases i5 e2 with⟨n2,f2⟩|⟨n2,f2⟩
  .rcases i5 e3 with⟨n3,f3⟩|⟨n3,f3⟩
   .exact(S.ok j p q f2 f3).ext X
   .exact absurd n3 n2
  .rcases i5 e3 with⟨n3,f3⟩|⟨n3,f3⟩
   .exact absurd n2 n3
   .subst f2 f3;exact ok
end
theorem Ee(x:Str)(v:V)(H:List n0):we x v H=H\/∃j nb,J0 H j=some (.dT [])/\we x v H=upd H j (.dN nb []):=by
 unfold we;induction rV v using opQ with
 |none=>exact .inl rfl
 |some j=>
  dsimp only;induction e:ue H j using Q2 with
  |false=>exact .inl rfl
  |true=>
   have h:J0 H j=some (.dT []):=by
    unfold ue at e;induction q:(J0 H j).bind DX using opQ with
    |none=>rw[q] at e;exact G2 e
    |some es=>rw[q] at e;exact u3 q λo ho q=>by rw[ho,fS q,List.isEmpty_iff.mp e]
   dsimp only;induction sq x "neighbours" using Q2 with
   |true=>exact .inr ⟨j,true,h,rfl⟩
   |false=>induction sq x "known" using Q2 with
    |true=>exact .inr ⟨j,false,h,rfl⟩
    |false=>exact .inl rfl
theorem fI(S:M0 w b cx H rs h og):M0 w b cx (we x v H) rs h og:=by
 rcases Ee x v H with e|⟨j,nb,e,e'⟩
 .exact e.symm▸S
 .rw[e'];refine⟨S.keep,S.ns,S.at_,S.nd,by rw[K3,MJ];exact S.len,S.big,S.tab,λi o r e2 e3=> ?_⟩;rcases i5 e2 with⟨n2,f2⟩|⟨rfl,rfl⟩
  .exact S.ok i o r f2 e3
  .exact S.ok i (.dT []) r e e3
theorem IS(S:M0 w b cx H rs h og):M0 w b cx (HX l H) rs h og:=by
 induction l generalizing H with
 |nil=>exact S
 |cons p r ih=>exact ih (fI S)
noncomputable def bK(b:Heap)(rs:List RO)(l:List (Str×V))(m:Str->Option Value):Prop:=∀x a,lk x l=some a->∃v,m x=some v/\E2 b rs a v
noncomputable def D9(rs:List RO)(l:List (Str×Nat))(cs:List (Str×Addr)):Prop:=∀x i,lk x l=some i->∃a,cs.lookup x=some a/\adr rs i=some a
theorem bK.ext(x:Ext rs rs')(h:bK b rs l m):bK b rs' l m:=λy a e=>by
 refine u0 (h y a e) λv p q=> ?_;exact⟨v,p,q.ext x⟩
theorem D9.ext(x:Ext rs rs')(h:D9 rs l cs):D9 rs' l cs:=λy i e=>by
 refine u0 (h y i e) λa p q=> ?_;exact⟨a,p,x.at_ i a q⟩
structure W3(b:Heap)(cx:Cx)(rs:List RO)(env:Env)(sc:Scope)(fr:J2):Prop where
 fn:env.scope.kind= .function
 names:∀x k,lk x sc.names=some k->env.kindOf x=some k/\(x==("__debug__":Str))=false/\(x==("__classdict__":Str))=false
 glob:env.globals=mainGlobals
 blt:env.builtins=builtinsNs
 above:b.objs.size<=env.locals
 loc:∃m,(env.locals,m)∈cx.fs/\bK b rs fr.loc m
 O3:D9 rs fr.O3 env.cells
theorem W3.ext(x:Ext rs rs')(h:W3 b cx rs env sc fr):W3 b cx rs' env sc fr:=
 ⟨h.fn,h.names,h.glob,h.blt,h.above,let⟨m,p,r⟩:=h.loc;⟨m,p,r.ext x⟩,h.O3.ext x⟩
structure k3(w:World)(b:Heap):Prop where
 K:(KL w.params).In b
 code:∀t∈XG,b.CodeRec (.ref (t.a -1)) t.q
 top:∃mg mb,TopRead vw loose mg mb b
 sys:(b.get? sysModules).isSome=true
inductive PV(w:World)(b:Heap)(cx:Cx)(rs:List RO)(Q:K1)(v:Value)(s':Shared):Prop
 |mk (a:V) (σ:St) (rs':List RO) (q:Q a σ) (S:M0 w b cx σ.heap rs' s'.heap (s'.os,s'.gens)) (x:Ext rs rs') (o:E2 b rs' a v)
theorem PV.here(q:Q a σ)(S:M0 w b cx σ.heap rs' s'.heap (s'.os,s'.gens))(x:Ext rs rs')(h:E2 b rs' a v):PV w b cx rs Q v s':=⟨a,σ,rs',q,S,x,h⟩
theorem PV.from(x:Ext rs rs')(h:PV w b cx rs' Q v s'):PV w b cx rs Q v s':=let⟨a,σ,r2,q,S,y,k⟩:=h;⟨a,σ,r2,q,S,x.trans y,k⟩
theorem PV.go(h:wpAny (model E1 w) A p (PV w b cx rs Q) E s)(k:∀u s' a σ r,Q a σ->M0 w b cx σ.heap r s'.heap (s'.os,s'.gens)->Ext rs r->E2 b r a u->Φ u s'):wpAny (model E1 w) A p Φ E s:=wpAny_mono h (λu s' z=>by cases z with|mk a σ r q S x o=>exact k u s' a σ r q S x o) λ_ _ x=>x
theorem a7(x:Ext rs rs')(h:wpAny (model E1 w) A p (PV w b cx rs' Q) E s):wpAny (model E1 w) A p (PV w b cx rs Q) E s:=wpAny_mono h (λ_ _ z=> .from x z) λ_ _ x=>x
structure B2(A:Around)(n:Nat):Prop where
 handled:A.handled=none
 depth:A.depth+n+5<recursionLimit
 units:A.units+8*n+200<cLine
noncomputable def Z4(w:World)(b:Heap)(n:Nat)(R:Rec):Prop:=∀{e:Expr}{sc:Scope}{fr:J2}{σ:St}{Q:K1},R.ev e sc fr σ Q->
 ∀{A:Around}{E:Value->Shared->Prop}{s:Shared}{cx:Cx}{rs:List RO}{env:Env},B2 A n->M0 w b cx σ.heap rs s.heap (s.os,s.gens)->W3 b cx rs env sc fr->
  wpAny (model E1 w) A (eval e env) (PV w b cx rs Q) E s
theorem Ns.obj{h:Heap}{C:Addr}{m:Str->Option Value}(x:h.Ns C m):∃o,h.get? C=some o:=let⟨o,_,_,e,_⟩:=x;⟨o,e⟩
theorem uM{h:Heap}{fs:List (Addr×(Str->Option Value))}:(∀p∈fs,h.Ns p.1 p.2)->∃l:List (Addr×Obj),l.map (·.1)=fs.map (·.1)/\(∀p∈l,h.get? p.1=some p.2)/\∀h':Heap,(∀p∈l,h'.get? p.1=some p.2)->∀p∈fs,h'.Ns p.1 p.2:=by
 induction fs with
 |nil=>
  intro _;exact⟨[],rfl,(λ_ h=>by cases h),(λ_ _ _ h=>by cases h)⟩
 |cons q fs ih=>
  intro x;refine J3 (ih λp hp=>x p (a5 _ hp)) λl e p k=> ?_;refine V3 (x q M3) λo es ep ho r=> ?_;refine⟨(q.1,o)::l,by simp[e],λz hz=> ?_,λh' y z hz=> ?_⟩
  .rcases M4.mp hz with rfl|hz
   .exact ho
   .exact p z hz
  .rcases M4.mp hz with rfl|hz
   .exact⟨o,es,ep,y _ M3,r⟩
   .exact k h' (λz hz=>y z (a5 _ hz)) z hz
section
theorem M0.Fe(S:M0 w b cx H rs h og){L:Addr}{m:Str->Option Value}(hL:(L,m)∈cx.fs)(ha:b.objs.size<=L):
 ∃fr,Fr b L h m/\News b L h (fr++led rs)/\((fr++led rs).map (·.1)).Nodup/\∀h' m',Fr b L h' m'->∀H' rs',(∀y,m' y=m y)->News b L h' (fr++led rs')->(led rs').map (·.1)=(led rs).map (·.1)->H'.length=rs'.length->adr rs' 0=some 145->
  (∀i o r,J0 H' i=some o->J0 rs' i=some r->P2 w b rs' o r)->M0 w b cx H' rs' h' og:=by
 refine w6 (List.append_of_mem hL) λf1 f2 e=> ?_;refine J3 (uM (h:=h) (fs:=f1++f2) λp hp=>(S.ns p (by rw[e];rcases R5.mp hp with hp|hp<;>simp[hp])).1) λl el pl kl=> ?_;have nd:=S.nd;rw[e] at nd;have cK:((f1.map (·.1)++f2.map (·.1))++(cx.os++led rs).map (·.1)).Nodup/\L∉(f1.map (·.1)++f2.map (·.1))++(cx.os++led rs).map (·.1):=by
  have p:(L::((f1.map (·.1)++f2.map (·.1))++(cx.os++led rs).map (·.1))).Nodup:=by
   refine(List.Perm.nodup_iff ?_).mp nd;simp only[w8,R6,i7,List.cons_append];exact List.perm_middle
  exact⟨(H7.mp p).2,(H7.mp p).1⟩
 have hn:=S.ns _ hL;refine⟨l++cx.os,⟨hn.1,S.keep,ha⟩,λp hp=> ?_,?_,λh' m' F H' rs' em N yt len tab ok=>⟨F.keep,λp hp=> ?_,λp hp=> ?_,?_,len,⟨V7 ha (Nat.le_of_lt F.ns.lt),S.big.2⟩,tab,ok⟩⟩
 .rw[i7] at hp;rcases R5.mp hp with hp|hp
  .have hm:p.1∈f1.map (·.1)++f2.map (·.1):=by rw[w8.symm,el.symm];exact d5 hp
   refine⟨pl p hp,λq=>cK.2 (o7 _ (q▸hm)),?_⟩;rw[<-w8] at hm;refine u0 (z5.mp hm) λz hz ez=> ?_;rw[ez.symm];exact(S.ns z (by rw[e];rcases R5.mp hz with hz|hz<;>simp[hz])).2
  .exact⟨(S.at_ p hp).1,λq=>cK.2 (u5 _ (q▸d5 hp)),(S.at_ p hp).2⟩
 .rw[i7,w8,el,w8];exact cK.1
 .by_cases q:p=(L,m)
  .subst q;exact⟨(funext em:m'=m)▸F.ns,hn.2⟩
  .have W7:p∈f1++f2:=by
    rw[e] at hp;rcases R5.mp hp with hp|hp
    .exact o7 _ hp
    .rcases M4.mp hp with hp|hp
     .exact absurd hp q
     .exact u5 _ hp
   exact⟨kl h' (λz hz=>(N z (by simp[hz])).1) p W7,(S.ns p hp).2⟩
 .have:p∈(l++cx.os)++led rs':=by rw[i7];exact u5 _ hp
  exact⟨(N p this).1,(N p this).2.2⟩
 .rw[w8,yt,w8.symm];exact S.nd
theorem M0.same(S:M0 w b cx H rs h og)(hL:(L,m)∈cx.fs)(ha:b.objs.size<=L):
 ∃fr,Fr b L h m/\News b L h (fr++led rs)/\((fr++led rs).map (·.1)).Nodup/\∀h',Fr b L h' m->News b L h' (fr++led rs)->M0 w b cx H rs h' og:=by
 refine I7 (S.Fe hL ha) λfr F N nd k=> ?_;exact⟨fr,F,N,nd,λh' F' N'=>k h' m F' H rs (λ_=>rfl) N' rfl S.len S.tab S.ok⟩
end
theorem uO(h:OJ a b=true):a=b:=by
 induction a generalizing b with
 |nil=>induction b using H5 with
  |nil=>rfl
  |cons _ _=>exact G2 h
 |cons x a ih=>induction b using H5 with
  |nil=>exact G2 h
  |cons y b=>
   induction e:Nat.beq x y using Q2 with
   |true=>rw[zC,e] at h;rw[V9 e,ih h]
   |false=>rw[zC,e] at h;exact G2 h
theorem gH:∀a:List Nat,OJ a a=true
 |[]=>rfl
 |a::x=>by rw[zC];rw[Nat.beq_refl _];exact gH x
theorem x6(h:sq a b=true):a=b:=by
 obtain⟨⟨l⟩⟩:=a;obtain⟨⟨m⟩⟩:=b;exact congrArg Str.mk (congrArg Array.mk (uO h))
theorem b7(a:Str):sq a a=true:=gH _
theorem JS:sq a b=true↔a=b:=⟨x6,λh=>h▸b7 a⟩
theorem O7(a b:Str):sq a b=(a==b):=by
 by_cases h:a=b
 .subst h;rw[b7 _];simp
 .induction q:sq a b using Q2 with
  |true=>exact absurd (x6 q) h
  |false=>exact(beq_eq_false_iff_ne.mpr h).symm
theorem Y9(x:Str)(l:List (Str×α)):lk x l=l.lookup x:=by
 induction l with
 |nil=>rfl
 |cons p r ih=>
  rw[d3,List.lookup_cons,O7,Bool.beq_comm,ih];cases x==p.1<;>rfl
noncomputable def Xk(d:Dt):Bool:=((zk "chassis" d).bind λl=>(two l).bind λp=>gO (yk "port" p.1&&yk "time" p.2) (some ())).isSome
noncomputable def Yk(v:V)(t:Tok):Option Value:=V.rec (motive:=λ_=>Option Value) none (λ_ _=>none) (λ_ n=>some (.int n t)) (λ_=>none) (λ_ _=>none) (λi=>gO (Nat.beq i 0) (some (.ref 145))) (λd=>gO (Xk d) (some (.ref 146))) (λi=>(J6 (.fn i)).map .ref) (λ_ _=>none) (λi=>(J6 (.cl i)).map .ref) (λn=>some (.type n)) (λn=>some (.builtin n)) v
noncomputable def Dv(u:Value):Tok:=Value.casesOn (motive:=λ_=>Tok) u 0 0 0 (λ_=>0) (λ_ t=>t) (λ_ _=>0) (λ_ _=>0) (λ_ _=>0) (λ_=>0) (λ_=>0) (λ_=>0)
noncomputable def Ge(v:V)(u:Value):Bool:=decide (Yk v (Dv u)=some u)
noncomputable def SX(P:Params)(p:Str×V):Bool:=Option.rec (motive:=λ_=>Bool) false (λo=>Option.rec (motive:=λ_=>Bool) (Option.rec (motive:=λ_=>Bool) false (λu=>Ge p.2 u&& !(sq p.1 "__name__")) (bootBuiltins p.1)) (λu=>Ge p.2 u) o) (nsIn (KL P) mainGlobals p.1)
theorem TX:∀P,(zj.all λr=>r.2.all λp=>SX P (⟨p.1.toArray⟩,p.2))=true:=by intro P;kernel_rfl
theorem u7(h:lk x l=some v):(x,v)∈l:=by
 induction l with
 |nil=>exact A0 h
 |cons p r ih=>
  rw[d3] at h;induction e:sq p.1 x using Q2 with
  |true=>rw[e] at h;exact si h▸x6 e▸M3
  |false=>rw[e] at h;exact a5 _ (ih h)
theorem gI(h:yk x d=true):d= .str x:=by
 unfold yk at h;induction e:sD d using opQ with
 |none=>rw[e] at h;exact G2 h
 |some c=>rw[e] at h;exact x6 h▸gS e
theorem vO(h:zk x d=some r):d= .tup (.str x::r):=u3 h λl e h=>by
 induction l using H5 with
 |nil=>exact A0 h
 |cons a q=>exact A4 h λg h=>by rw[yG e,gI g,si h]
theorem UX(B:k3 w b)(S:M0 w b cx H rs h og)(e:Yk v t=some u):E2 b rs v u:=by
 induction v using V.casesOn with
 |int s n=>exact⟨t,(si e).symm⟩
 |ref i=>exact A4 e λg e=>⟨145,V9 g▸S.tab,(si e).symm⟩
 |W0 d=>
  refine A4 e λg e=>si e▸ ?_;refine O0 (eO.mp g) λ_ g=> ?_;refine u3 g λl h1 g=>u3 g λp h2 g=>A4 g λg _=>R1 g λh3 h4=> ?_;rw[vO h1,J7 h2,gI h3,gI h4];exact⟨146,[.str "chassis" 402,.str "port" 403,.str "time" 404],0,rfl,.inl (B.K 146 Ab (by rfl)),_,_,rfl,⟨_,rfl⟩,_,_,rfl,⟨_,rfl⟩,_,_,rfl,⟨_,rfl⟩,rfl⟩
 |ty n=>exact(si e).symm
 |bi n=>exact(si e).symm
 |fn i=>exact B5 e λa h e=>⟨a,h,e.symm⟩
 |cl i=>exact B5 e λa h e=>⟨a,h,e.symm⟩
 |none=>exact A0 e
 |bool=>exact A0 e
 |str=>exact A0 e
 |bytes=>exact A0 e
 |mt=>exact A0 e
theorem wO(B:k3 w b)(S:M0 w b cx H rs h og)(e:Ge v u=true):E2 b rs v u:=UX B S (of_decide_eq_true e)
section
theorem VX(h:Wi n l=some r):(n,r)∈l:=by
 induction l with
 |nil=>exact A0 h
 |cons p l ih=>
  have h:Bool.rec (motive:=λ_=>Option _) (Wi n l) (some p.2) (Nat.beq p.1 n)=some r:=h;induction e:Nat.beq p.1 n using Q2 with
  |true=>rw[e] at h;exact si h▸V9 e▸M3
  |false=>rw[e] at h;exact a5 _ (ih h)
theorem WX(h:Ku x l=some v):(x,v)∈l:=by
 induction l with
 |nil=>exact A0 h
 |cons p l ih=>
  have h:Bool.rec (motive:=λ_=>Option _) (Ku x l) (some p.2) (OJ p.1 x)=some v:=h;induction e:OJ p.1 x using Q2 with
  |true=>rw[e] at h;exact si h▸uO e▸M3
  |false=>rw[e] at h;exact a5 _ (ih h)
theorem YX(h:Xi x=some v):SX P (x,v)=true:=u3 h λ_ e h=>by
 have:=xC.mp (xC.mp (TX P) _ (VX e)) _ (WX h);simpa using this
theorem k3.global(B:k3 w b)(S:M0 w b cx H rs s.heap (s.os,s.gens))(N:W3 b cx rs env sc fr)(e:Xi x=some v)(h:∀u,E2 b rs v u->Q u s):wpAny (model E1 w) A (loadGlobal env x) Q E s:=by
 have hm:SX w.params (x,v)=true:=YX e;refine w6 B.top λmg mb T=> ?_;have Tg:s.heap.Ns env.globals mg:=N.glob▸T.g.keeps S.keep;unfold SX at hm;induction hu:nsIn (KL w.params) mainGlobals x using opQ with
 |none=>rw[hu] at hm;exact G2 hm
 |some o=>
  rw[hu] at hm;induction o using opQ with
  |some u=>exact loadGlobal_global Tg (mg_of B.K T.g hu) (h u (wO B S hm))
  |none=>
   induction hb:bootBuiltins x using opQ with
   |none=>rw[hb] at hm;exact G2 hm
   |some u=>
    rw[hb] at hm;refine R1 hm λg1 g2=>loadGlobal_builtin Tg (mg_none_of B.K T.g hu) (by rw[N.blt];exact T.b.keeps S.keep) ((T.builtins x λq=> ?_).trans hb) (h u (wO B S g1));rw[q,b7] at g2;exact G2 g2
theorem xO(B:k3 w b)(S:M0 w b cx σ.heap rs s.heap (s.os,s.gens))(N:W3 b cx rs env sc fr)(h:zS x sc fr σ Q):wpAny (model E1 w) A (eval (.Name x pos) env) (PV w b cx rs Q) E s:=by
 refine E0 h λk hk h=> ?_;refine R2 (N.names _ _ hk) λhx hd hn=> ?_;have O3:Ae x fr σ Q->(∀{a u},env.cells.lookup x=some a->(∃o,s.heap.get? a=some o/\o.data= .cell (some u))->PV w b cx rs Q u s->wpAny (model E1 w) A (loadName env x) (PV w b cx rs Q) E s)->wpAny (model E1 w) A (eval (.Name x pos) env) (PV w b cx rs Q) E s:=λh go=>by
  refine E0 h λi hi h=>E0 h λc hc h=>E0 h λv hv h=>u3 hc λob ho hc=> ?_;rw[Kk hc,hv] at ho;refine u0 (N.O3 _ _ hi) λa ha LS=> ?_;obtain⟨r,hr,a',o,c,rfl,xB,ok⟩:=S.ref ho;have e:a'=a:=by unfold adr at LS;rw[hr] at LS;exact si LS
  induction c using opQ with
  |none=>exact ok.elim
  |some u=>exact wpAny_Name (go ha ⟨o,(S.at_ (a,o) (u5 _ (B3 (e▸hr) _ M3))).1,xB⟩ (.here h S (.refl rs) ok)) hd
 induction k using PySem.NameKind.casesOn with
 |«local»=>
  refine E0 h λv hv h=> ?_;refine u0 N.loc λm p r=> ?_;refine u0 (r _ _ hv) λu hu ok=> ?_;exact wpAny_Name (wpAny_loadName_local N.fn hx (S.ns _ p).1 hu (.here h S (.refl rs) ok)) hd
 |cell=>exact O3 h λa b c=>wpAny_loadName_cell N.fn hx a b c
 |free=>exact O3 h λa b c=>wpAny_loadName_free N.fn hx a b c hn
 |globalExplicit=>exact No.no h
 |globalImplicit=>exact E0 h λv hv h=>PySem.Calls.Name_function_global N.fn hx (B.global S N hv λu ok=> .here h S (.refl rs) ok) hd
end
theorem iH(h:gd b P):b=true/\P:=U3 h .intro
theorem yB(h:small a=true):a.natAbs<2^63:=by
 unfold small at h;exact v9 h
theorem SE(h:small a=true):Builtin.Int.intBits a<=64:=V7 (intBits_le (yB h)) (by decide)
theorem mul_fits(h:(small a||small c)=true):IntMulOk a c:=by
 rcases Bool.or_eq_true_iff.mp h with h|h
 .exact .of_left (SE h)
 .exact .of_right (SE h)
theorem dK(h:small y=true):Builtin.divisionGoesByPylong a y=false:=by
 refine PyProof.noPylong_of_log2 ?_;have:=yB h;by_cases h0:y.natAbs=0
 .rw[h0];decide+kernel
 .exact Nat.lt_trans ((Nat.log2_lt h0).mpr this) (by decide)
section
variable{w:World}{b:Heap}{A:Around}{E:Value->Shared->Prop}{s:Shared}{cx:Cx}{rs:List RO}{σ:St}{H:List n0}
theorem PV.int{Q:K1}{s0:Shared}{sg:Bool}{n:Int}{t:Nat}{k:Nat}(S:M0 w b cx σ.heap rs s.heap (s.os,s.gens))(q:Q (.int sg n) σ):PV w b cx rs Q (.int n t) {s with toks:=k}:= .here q S (.refl rs) ⟨t,rfl⟩
theorem M0.one(S:M0 w b cx H rs h og)(hr:J0 rs i=some (.one a o)):h.get? a=some o:=(S.at_ (a,o) (u5 _ (B3 hr _ (by simp[RO.led])))).1
theorem K6(hr:J0 rs i=some r)(h:E2 b rs (.ref i) u):u= .ref r.addr:=by
 refine u0 h λa LS B0=> ?_;clear h;subst B0;unfold adr at LS;rw[hr] at LS;exact congrArg Value.ref (si LS).symm
theorem PV.new{h0:Heap}{s':Shared}{Q:K1}{a:Addr}{ob:Obj}{o:n0}(S0:M0 w b cx H rs h0 og)(ha:h0.objs.size<=a)(S:M0 w b cx σ.heap rs s'.heap (s'.os,s'.gens))(g:s'.heap.get? a=some ob)
 (ok:P2 w b (rs++[.one a ob]) o (.one a ob)) (q:Q (.ref σ.new) (σ.push o)):PV w b cx rs Q (.ref a) s':=by
 have f:=S0.fresh ha;refine .here (rs':=rs++[.one a ob]) q (S.more (o:=o) (λp hp=> ?_) (by simp[RO.led]) ok) (Ext.push rs _) ⟨_,?_,rfl⟩
 .obtain rfl:p=(a,ob):=by simpa[RO.led] using hp
  exact⟨g,f.1,f.2.1,f.2.2⟩
 .show adr _ σ.heap.length=_;rw[S.len];exact j7 rs _
theorem PV.DC{Q:K1}{ob:Obj}{o:n0}(S:M0 w b cx σ.heap rs s.heap (s.os,s.gens))(hf:ob.isFreed=false)(ok:P2 w b (rs++[.one s.heap.objs.size ob]) o (.one s.heap.objs.size ob))(q:Q (.ref σ.new) (σ.push o)):
 PV w b cx rs Q (.ref s.heap.objs.size) {s with heap:=s.heap.push ob}:=
 .new (s':={s with heap:=s.heap.push ob}) S (j6 _) (S.grown (λa o e=>Heap.get?_push_of_some _ e) (by rw[Heap.size_push];exact Nat.le_succ _)) (Heap.get?_push_size _ hf) ok q
@[elab_as_elim] theorem E2.int {v:V} {u:Value} {p:Bool×Int} (o:E2 b rs v u) (e:iV v=some p) {P:Value->Prop} (k:∀t,P (.int p.2 t)):P u:=by
 rw[VJ e] at o;refine O0 o λt B0=> ?_;clear o;subst B0;exact k t
@[elab_as_elim] theorem E2.bytes {v:V} {u:Value} {p:Bool×List UInt8} (o:E2 b rs v u) (e:yV v=some p) {P:Value->Prop} (k:∀t,P (.bytes p.2.toArray t)):P u:=by
 rw[mQ e] at o;refine O0 o λt B0=> ?_;clear o;subst B0;exact k t
@[elab_as_elim] theorem M0.lst {h:Heap} (S:M0 w b cx H rs h og) {v:V} {u:Value} {i:Nat} {xs:List V} (o:E2 b rs v u) (e:rV v=some i) (l:lA H i=some xs) {P:Value->Prop} (k:∀p vs n,J0 rs i=some (.one p (seqObj "list" (List.toArray vs) n))->V0 b rs xs vs->P (.ref p)):P u:=by
 rw[uA e] at o;obtain⟨r,hr,a,vs,n,rfl,ok⟩:=S.ref (Xd l);exact K6 hr o▸k a vs n hr ok
theorem PV.list{h':Heap}{Q:K1}{xs:List V}{vs:List Value}(S:M0 w b cx σ.heap rs s.heap (s.os,s.gens))(S':M0 w b cx σ.heap rs h' (s.os,s.gens))(g:h'.get? s.heap.objs.size=some (seqObj "list" (List.toArray vs) 0))(ok:V0 b rs xs vs)(q:Q (.ref σ.new) (σ.push (.lst xs))):PV w b cx rs Q (.ref s.heap.objs.size) {s with heap:=h'}:=
 .new (s':={s with heap:=h'}) (o:= .lst xs) S (j6 _) S' g ⟨_,vs,0,rfl,ok.ext (Ext.push rs _)⟩ q
theorem He{op:Operator}{sa sc:Bool}{m n:Int}{t t':Tok}{Q:K1}(S:M0 w b cx σ.heap rs s.heap (s.os,s.gens))(h:fk op sa m sc n σ Q):wpAny (model E1 w) A (binaryOp op (.int m t) (.int n t')) (PV w b cx rs Q) E s:=by
 cases op with
 |Add=>exact add_int (PV.int (s0:=s) S h)
 |Sub=>exact sub_int (PV.int (s0:=s) S h)
 |Mult=>exact TH h λg h=>mul_int (PV.int (s0:=s) S h) (mul_fits g)
 |FloorDiv=>exact TH h λg h=>R1 g λg1 g2=>floordiv_int (of_decide_eq_true g1) (PV.int (s0:=s) S h) (.inl (dK g2))
 |Mod=>exact TH h λg h=>R1 g λg1 _=>mod_int' (of_decide_eq_true g1) (PV.int (s0:=s) S h)
 |LShift=>exact TH h λg h=>R1 g λg g3=>R1 g λg1 g2=>lshift_int_small (of_decide_eq_true g2) (Int.le_trans (of_decide_eq_true g3) (by decide)) (Nat.lt_trans (yB g1) (by decide)) (PV.int (s0:=s) S h)
 |RShift=>exact wG h λ_ g h=>rshift_int (of_decide_eq_true g) (PV.int (s0:=s) S h)
 |BitAnd=>exact and_int (PV.int (s0:=s) S h)
 |BitOr=>exact or_int (PV.int (s0:=s) S h)
 |Pow=>exact U3 h λ_ h=>Qu h λg1 g2 g3 h=>pow_int_small (of_decide_eq_true g2) (Int.le_trans (of_decide_eq_true g3) (by decide)) (Nat.lt_trans (yB g1) (by decide)) (PV.int (s0:=s) S h)
 |_=>exact No.no h
theorem eK(h:isAdd op=true):op= .Add:=by induction op using PySem.Operator.casesOn<;>first|rfl|exact G2 h
theorem MS(h:isMul op=true):op= .Mult:=by induction op using PySem.Operator.casesOn<;>first|rfl|exact G2 h
theorem sQ{xs zs:List V}{P:Int->List V->Prop}{n:Int}(h0:P 0 [])(h1:P 1 xs)(h:nS xs n=some zs):P n zs:=by
 induction n using Int.casesOn with
 |negSucc k=>exact A0 h
 |ofNat k=>
  induction k using iB with
  |zero=>exact si h▸h0
  |succ k=>
   induction k using iB with
   |zero=>exact si h▸h1
   |succ k=>exact A0 h
theorem Ie{op:Operator}{a c:V}{u v:Value}{Q:K1}{L:Addr}{m:Str->Option Value}(S:M0 w b cx σ.heap rs s.heap (s.os,s.gens))(hL:(L,m)∈cx.fs)(ha:b.objs.size<=L)(ou:E2 b rs a u)(ov:E2 b rs c v)
 (h:ke op a c σ Q):wpAny (model E1 w) A (binaryOp op u v) (PV w b cx rs Q) E s:=by
 refine K2 h (λp e h=>E0 h λq e' h=>ou.int e λt=>ov.int e' λt'=>He S h) λh=>K2 h (λp e h=>E0 h λq e' h=>wG h λg1 g2 h=> ?_) λh=>E0 h λi e h=>E0 h λxs hx h=> ?_
 .rw[eK g1];refine ou.bytes e λt=> ?_;refine ov.bytes e' λt'=> ?_;exact bytes_add_K (V7 (v9 g2) (by decide)) rfl λEz k=> .here h S (.refl rs) ⟨Ez,rfl⟩
 refine S.lst ou e hx λp vs n hr ok=> ?_;refine I7 (S.same hL ha) λfr F N nd back=> ?_;refine K2 h (λj e' h=>E0 h λys hy h=>wG h λg1 g2 h=> ?_) λh=>E0 h λq e' h=>E0 h λzs hz h=>Qu h λg1 g2 g3 hq=> ?_
 .rw[eK g1];refine S.lst ov e' hy λp2 ws n2 hr2 oX=> ?_;exact add_lists F N (vs:=vs) (ws:=ws) ⟨_,S.one hr,rfl,_,rfl⟩ ⟨_,S.one hr2,rfl,_,rfl⟩ (λh' F' N'=> .list S (back h' F' λp hp=>N' p (a5 _ hp)) (N' _ M3).1 (V0.append ok oX) h) (ok.length.symm▸oX.length.symm▸V7 (v9 g2) (by decide))
 .rw[MS g1];refine ov.int e' λt'=> ?_;refine O0 (List.length_eq_one_iff.mp (V9 g3)) λx B0=> ?_;subst B0;refine U1 ok λv r B0=> ?_;clear ok;subst B0;intro Fv x9;subst x9;have new:∀{zs' ws},V0 b rs zs' ws->Q (.ref σ.new) (σ.push (.lst zs'))->∀h',Fr b L h' m->News b L h' ((s.heap.objs.size,seqObj "list" (List.toArray ws) 0)::(fr++led rs))->PV w b cx rs Q (.ref s.heap.objs.size) {s with heap:=h'}:=λok h h' F' N'=> .list S (back h' F' λp hp=>N' p (a5 _ hp)) (N' _ M3).1 ok h;refine sQ (P:=λz zs=>Q (.ref σ.new) (σ.push (.lst zs))->wpAny (model E1 w) A (binaryOp .Mult (.ref p) (.int z t')) (PV w b cx rs Q) E s) (λh=> ?_) (λh=> ?_) hz hq
  .exact mul_list (items:= #[v]) F N (S.one hr) (by decide) (by decide) (by show 1*0<=2^24;decide) (new (zs':=[]) (ws:=[]) rfl h)
  .exact mul_list (items:= #[v]) F N (S.one hr) (by decide) (by decide) (by show 1*1<=2^24;decide) (new (zs':=[x]) (ws:=[v]) ⟨v,[],rfl,Fv,rfl⟩ h)
end
theorem UE(e:Nat->Bool)(n:Nat):(List.range (n+1)).all e=(e 0&&(List.range n).all λj=>e (j+1)):=by
 rw[List.range_succ_eq_map,List.all_cons,List.all_map];rfl
noncomputable def L6(A:Around)(s:Shared):List Value->List Value->Bool->Prop:=λus vs r=>
 ∃e:Nat->Bool,(∀j(h1:j<us.length)(h2:j<vs.length),EqAt A s us[j] vs[j] (e j))/\r=((List.range (min us.length vs.length)).all e&&us.length==vs.length)
theorem L6.nil:L6 A s [] [] true:=⟨λ_=>true,λj h=>absurd h (Nat.not_lt_zero _),rfl⟩
theorem L6.fK:L6 A s [] (v::vs) false:=⟨λ_=>true,λj h=>absurd h (Nat.not_lt_zero _),by simp⟩
theorem L6.zB:L6 A s (v::vs) [] false:=⟨λ_=>true,λj _ h=>absurd h (Nat.not_lt_zero _),by simp⟩
theorem L6.cons{A:Around}{s:Shared}{u v:Value}{us vs:List Value}{x r:Bool}(h:EqAt A s u v x)(k:L6 A s us vs r):L6 A s (u::us) (v::vs) (x&&r):=by
 refine u0 k λe he B0=> ?_;clear k;subst B0;refine⟨λj=>match j with|0=>x|j+1=>e j,λj h1 h2=> ?_,?_⟩
 .induction j using iB with
  |zero=>exact h
  |succ j=>exact he j (Nat.lt_of_succ_lt_succ h1) (Nat.lt_of_succ_lt_succ h2)
 .simp only[List.length_cons];rw[Nat.add_min_add_right,UE];simp[Bool.and_assoc]
theorem EqAt.tQ(hl:s.heap.IsTuple a us.toArray)(hb:s.heap.IsTuple c vs.toArray)(hu:A.units<cLine)(k:L6 A.in1 s us vs r):RcAt A s (.ref a) (.ref c) r:=by
 refine u0 k λe he B0=> ?_;clear k;subst B0;have:=RcAt.tuples (e:=e) hl hb hu λj h1 h2=>by simpa using he j (by simpa using h1) (by simpa using h2)
 simpa using this
theorem EqAt.NS(hl:s.heap.IsList a us.toArray)(hb:s.heap.IsList c vs.toArray)(hu:A.units<cLine)(k:L6 A.in1 s us vs r):RcAt A s (.ref a) (.ref c) r:=by
 refine u0 k λe he B0=> ?_;clear k;subst B0;by_cases hz:us.length=vs.length
 .have:=RcAt.lists (e:=e) hl hb (by simpa using hz) hu λj h1 h2=>by simpa using he j (by simpa using h1) (by simpa using h2)
  rw[show((List.range (min us.length vs.length)).all e&&us.length==vs.length)=(List.range us.toArray.size).all e from by simp[hz]];exact this
 .have:=RcAt.lists_lengths hl hb (by simpa using hz) hu;rw[show((List.range (min us.length vs.length)).all e&&us.length==vs.length)=false from by simp[hz]];exact this
theorem U6{h:Heap}{a:Addr}{vs:List Value}{n:Nat}(e:h.get? a=some (seqObj "tuple" vs.toArray n)):h.IsTuple a vs.toArray:=⟨_,e,rfl,n,rfl⟩
theorem H4{h:Heap}{a:Addr}{vs:List Value}{n:Nat}(e:h.get? a=some (seqObj "list" vs.toArray n)):h.IsList a vs.toArray:=⟨_,e,rfl,n,rfl⟩
section
theorem VE(x y:List UInt8)(t u:Tok):EqAt A s (.bytes x.toArray t) (.bytes y.toArray u) (x==y):=λprog w E Q h=>by
 refine eqBool_bytes ?_;rw[show decide (x=y)=(x==y) from by by_cases e:x=y<;>simp[e]];exact h
noncomputable def ZX(l:Bool):String:=cond l "list" "tuple"
theorem yO{n m:String}{us vs:List Value}{k l:Nat}(h:seqObj n us.toArray k=seqObj m vs.toArray l):us=vs:=by
 injection h with _ _ h _;injection h with h _;exact congrArg Array.toList h
theorem AB{F:Addr->Obj->Prop}{l:Bool}{ds:List Dt}{u:Value}{G:Prop}(h:G3 F (rM l ds) u)(k:∀a vs n,u= .ref a->F a (seqObj (ZX l) (List.toArray vs) n)->O4 F ds vs->G):G:=by
 induction l using Q2<;>exact T3 h k
theorem Z9:R8 (.tup a) (.tup c)=IA a c:=rfl
theorem cE:IA (a::r) (b::q)=(R8 a b).bind λx=>(IA r q).map λy=>jS x y:=rfl
theorem aY:IA [] []=some (false,true):=rfl
theorem iI:R8 (.int s a) (.int t c)=some (s||t,decide (a=c)):=rfl
theorem OS:R8 (.bytes s a) (.bytes t c)=some (ft (s||t) a c):=rfl
theorem vM(h:R8 a b=some x)(k:R8 c d=some y):IA [a,c] [b,d]=some (jS x (jS y (false,true))):=by rw[cE,cE,h,k];rfl
theorem QS:R8 (.tup [.int false 7,.bytes true [a]]) (.tup [.int false 7,.bytes s [c]])=some (true,a==c):=by
 rw[Z9,vM iI OS];show some (true,true&&(((a==c)&&true)&&true))=_;rw[Bool.and_true _,Bool.and_true _,Bool.true_and]
mutual
inductive uQ(F:Addr->Obj->Prop):Nat->Bool->Value->Value->Prop
 |none {n}:uQ F n true .none .none
 |bool {n} (a c:Bool):uQ F n (a==c) (.bool a) (.bool c)
 |int {n} (a c:Int) (t t':Tok):uQ F n (decide (a=c)) (.int a t) (.int c t')
 |str {n} (a c:Str) (t t':Tok):uQ F n (sq a c) (.str a t) (.str c t')
 |bytes {n} (a c:List UInt8) (t t':Tok):uQ F n (a==c) (.bytes a.toArray t) (.bytes c.toArray t')
 |seq (l:Bool) {n r p q us vs k k'} (hp:F p (seqObj (ZX l) (List.toArray us) k)) (hq:F q (seqObj (ZX l) (List.toArray vs) k')) (h:QR F n r us vs):uQ F (n+1) r (.ref p) (.ref q)
inductive QR(F:Addr->Obj->Prop):Nat->Bool->List Value->List Value->Prop
 |nil {n}:QR F n true [] []
 |nc {n v vs}:QR F n false [] (v::vs)
 |cn {n v vs}:QR F n false (v::vs) []
 |cons {n x m y u v us vs} (h:uQ F n x u v) (k:QR F m y us vs):QR F (max n m) (x&&y) (u::us) (v::vs)
end
section
theorem RS{l:Bool}{a c:List Dt}{d':Dt}{n:Nat}{f:List Dt->Option (Bool×Bool)}(ih:∀{c:List Dt}{r:Bool×Bool}{us vs:List Value},f c=some r->O4 F a us->O4 F c vs->QR F n r.2 us vs){r:Bool×Bool}{u v:Value}(e:d'=rM l c)(k:f c=some r)(x:G3 F (rM l a) u)(y:G3 F d' v):uQ F (n+1) r.2 u v:=
 AB x λp us n e1 hp xs=>AB (show G3 F (rM l c) v from e▸y) λq vs n' e2 hq ys=>e1▸e2▸.seq _ hp hq (ih k xs ys)
theorem Vb:∀{d':Dt}{r:Bool×Bool}{u v:Value},R8 d d'=some r->G3 F d u->G3 F d' v->uQ F (dep d) r.2 u v:=by
 refine Dt.rec (motive_1:=λd=>∀{d':Dt}{r:Bool×Bool}{u v:Value},R8 d d'=some r->G3 F d u->G3 F d' v->uQ F (dep d) r.2 u v) (motive_2:=λds=>∀{cj:List Dt}{r:Bool×Bool}{us vs:List Value},IA ds cj=some r->O4 F ds us->O4 F cj vs->QR F (oQ ds) r.2 us vs) ?_ ?_ ?_ ?_ ?_ ?_ ?_ ?_ ?_ ?_ d
 .intro d' r u v h x y;refine A4 h λg h=> ?_;rw[Xu g] at y;rw[show u= .none from x,show v= .none from y,(si h).symm];exact .none
 .intro s a d' r u v h x y;refine B5 h λp e h=> ?_;rw[Yu e] at y;rw[show u= .bool a from x,show v= .bool p.2 from y,h.symm];exact .bool _ _
 .intro s a d' r u v h x y;refine B5 h λp e h=> ?_;rw[z8 e] at y;exact O0 x λt e1=>O0 y λt' e2=>e1▸e2▸h▸.int _ _ _ _
 .intro a d' r u v h x y;refine B5 h λp e h=> ?_;rw[gS e] at y;exact O0 x λt e1=>O0 y λt' e2=>e1▸e2▸h▸.str _ _ _ _
 .intro s a d' r u v h x y;refine B5 h λp e h=> ?_;rw[nQ e] at y;rw[h.symm,kS];exact O0 x λt e1=>O0 y λt' e2=>e1▸e2▸.bytes _ _ _ _
 .intro a ih d' r u v h x y;exact u3 h λc e k=>RS (l:=false) ih (yG e) k x y
 .intro a ih d' r u v h x y;exact u3 h λc e k=>RS (l:=true) ih (Zd e) k x y
 .intro c xs ds _ d' r u v h x y;exact A0 h
 .intro cj r us vs h x y;rw[show us=[] from x,(si h).symm];induction cj using H5 with
  |nil=>rw[show vs=[] from y];exact .nil
  |cons _ _=>exact A3 y λ_ _ e _=>e▸.nc
 .intro d ds ih1 Zk cj r us vs h x y;refine U1 x λu Fz e x1 x2=> ?_;subst e;induction cj using H5 with
  |nil=>rw[show vs=[] from y,(si h).symm];exact .cn
  |cons d' q=>
   refine U1 y λv Gv e y1 y2=> ?_;subst e;refine u3 h λp e1 h=>B5 h λp' e2 h=> ?_;rw[h.symm,mS];exact .cons (ih1 e1 x1 y1) (Zk e2 x2 y2)
theorem bY(fn:∀a o o',F a o->F a o'->o=o')(h:QR F n r us vs):us=vs->r=true:=by
 refine QR.rec (motive_1:=λn r u v _=>u=v->r=true) (motive_2:=λn r us vs _=>us=vs->r=true) ?_ ?_ ?_ ?_ ?_ ?_ ?_ ?_ ?_ ?_ h
 .intro n e;exact rfl
 .intro n a c e;exact Value.bool.inj e▸beq_self_eq_true a
 .intro n a c t t' e;exact decide_eq_true (Value.int.inj e).1
 .intro n a c t t' e;exact(Value.str.inj e).1▸b7 a
 .intro n a c t t' e;exact beq_iff_eq.mpr (congrArg Array.toList (Value.bytes.inj e).1)
 .intro l n r p q us vs k k' hp hq h ih e;exact ih (yO (fn _ _ _ hp (Value.ref.inj e▸hq)))
 .intro n e;exact rfl
 .intro n v vs e;exact Zi e
 .intro n v vs e;exact Rj e
 .intro n x m y u v us vs h k i1 i2 e;rw[i1 (List.cons.inj e).1,i2 (List.cons.inj e).2];rfl
end
theorem zO{h:Heap}:∀a o o',h.get? a=some o->h.get? a=some o'->o=o':=λa o o' e e'=>si (e.symm.trans e')
theorem TS{A:Around}{n:Nat}(h:A.units+(n+1)<cLine):A.in1.units+n<cLine:=by show A.units+1+n<_;lia
theorem jI(a c:Int):decide (a=c)=(a==c):=by by_cases e:a=c<;>simp[e]
theorem EqAt.bl{A:Around}{l:Bool}{a c:Addr}{us vs:List Value}{k k' n:Nat}{r:Bool}(hl:s.heap.get? a=some (seqObj (ZX l) us.toArray k))(hb:s.heap.get? c=some (seqObj (ZX l) vs.toArray k'))(hu:A.units+(n+1)<cLine)(q:L6 A.in1 s us vs r):RcAt A s (.ref a) (.ref c) r:=by
 induction l using Q2 with
 |true=>exact EqAt.NS (H4 hl) (H4 hb) (NH (jB _ _) hu) q
 |false=>exact EqAt.tQ (U6 hl) (U6 hb) (NH (jB _ _) hu) q
noncomputable abbrev HF(s:Shared)(a:Addr)(o:Obj):Prop:=s.heap.get? a=some o
theorem Wb{n:Nat}{r:Bool}{u v:Value}(h:uQ (HF s) n r u v):∀{A:Around},A.units+n<cLine->EqAt A s u v r:=by
 refine uQ.rec (motive_1:=λn r u v _=>∀{A:Around},A.units+n<cLine->EqAt A s u v r) (motive_2:=λn r us vs _=>∀{A:Around},A.units+n<cLine->L6 A s us vs r) ?_ ?_ ?_ ?_ ?_ ?_ ?_ ?_ ?_ ?_ h
 .intro n A hu;exact EqAt.same _
 .intro n a c A hu;exact EqAt.bool_bool _ _
 .intro n a c t t' A hu;exact jI a c▸EqAt.int_int _ _ _ _
 .intro n a c t t' A hu;exact O7 a c▸EqAt.str_str _ _ _ _
 .intro n a c t t' A hu;exact VE _ _ _ _
 .intro l n r p q us vs k k' hp hq h ih A hu;by_cases e:p=q
  .rw[bY zO h (yO (zO _ _ _ hp (e▸hq))),e];exact EqAt.same _
  .exact .of_refs e (EqAt.bl hp hq hu (ih (TS hu)))
 .intro n A hu;exact .nil
 .intro n v vs A hu;exact .fK
 .intro n v vs A hu;exact .zB
 .intro n x m y u v us vs h k i1 i2 A hu;exact .cons (i1 (NH (Nat.add_le_add_left (Nat.le_max_left _ _) _) hu)) (i2 (NH (Nat.add_le_add_left (Nat.le_max_right _ _) _) hu))
theorem Je(h:QR (HF s) n r us vs):∀{A:Around},A.units+n<cLine->L6 A s us vs r:=by
 refine QR.rec (motive_1:=λ_ _ _ _ _=>True) (motive_2:=λn r us vs _=>∀{A:Around},A.units+n<cLine->L6 A s us vs r) ?_ ?_ ?_ ?_ ?_ ?_ ?_ ?_ ?_ ?_ h
 .intro n;trivial
 .intro n a c;trivial
 .intro n a c t t';trivial
 .intro n a c t t';trivial
 .intro n a c t t';trivial
 .intro l n r p q us vs k k' hp hq h ih;trivial
 .intro n A hu;exact .nil
 .intro n v vs A hu;exact .fK
 .intro n v vs A hu;exact .zB
 .intro n x m y u v us vs h k _ i2 A hu;exact .cons (Wb h (NH (Nat.add_le_add_left (Nat.le_max_left _ _) _) hu)) (i2 (NH (Nat.add_le_add_left (Nat.le_max_right _ _) _) hu))
theorem US(h:R8 d d'=some r)(x:G3 (HF s) d u)(y:G3 (HF s) d' v)(hu:A.units+dep d<cLine):EqAt A s u v r.2:=Wb (Vb h x y) hu
end
theorem cY.tQ(hl:s.heap.IsTuple a us.toArray)(hb:s.heap.IsTuple c vs.toArray)(hu:A.units<cLine)(k:L6 A.in1 s us vs r):RcNeAt A s (.ref a) (.ref c) (!r):=by
 refine u0 k λe he B0=> ?_;clear k;subst B0;have:=RcNeAt.tuples (e:=e) hl hb hu λj h1 h2=>by simpa using he j (by simpa using h1) (by simpa using h2)
 simpa using this
theorem cY.NS(hl:s.heap.IsList a us.toArray)(hb:s.heap.IsList c vs.toArray)(hu:A.units<cLine)(k:L6 A.in1 s us vs r):RcNeAt A s (.ref a) (.ref c) (!r):=by
 refine u0 k λe he B0=> ?_;clear k;subst B0;by_cases hz:us.length=vs.length
 .have:=RcNeAt.lists (e:=e) hl hb (by simpa using hz) hu λj h1 h2=>by simpa using he j (by simpa using h1) (by simpa using h2)
  rw[show((List.range (min us.length vs.length)).all e&&us.length==vs.length)=(List.range us.toArray.size).all e from by simp[hz]];exact this
 .have:=RcNeAt.lists_lengths hl hb (by simpa using hz) hu;rw[show((List.range (min us.length vs.length)).all e&&us.length==vs.length)=false from by simp[hz]];exact this
section
theorem Ke(h:uQ (HF s) n r u v)(hu:A.units+n<cLine):RcAt A s u v r/\RcNeAt A s u v (!r):=by
 cases h with
 |none=>exact⟨λprog w E Q q=>EqNone.eq_none_none q,.none_none⟩
 |bool a c=>exact⟨λprog w E Q q=>eq_bool q,.bool_bool _ _⟩
 |int a c t t'=>rw[jI];exact⟨λprog w E Q q=>PyProof.Rows.eq_int q,.int_int _ _ _ _⟩
 |str a c t t'=>rw[O7];exact⟨λprog w E Q q=>PyProof.Rows.eq_str q,.str_str _ _ _ _⟩
 |bytes a c t t'=>exact⟨λprog w E Q q=>eq_bytes q,λprog w E Q q=>ne_bytes (by simpa[bne] using q)⟩
 |seq l hp hq h=>
  have k:=Je h (TS hu);refine⟨EqAt.bl hp hq hu k,?_⟩;induction l using Q2 with
  |true=>exact cY.NS (H4 hp) (H4 hq) (NH (jB _ _) hu) k
  |false=>exact cY.tQ (U6 hp) (U6 hq) (NH (jB _ _) hu) k
theorem Le(h:R8 d d'=some r)(x:G3 (HF s) d u)(y:G3 (HF s) d' v)(hu:A.units+dep d<cLine):RcAt A s u v r.2/\RcNeAt A s u v (!r.2):=Ke (Vb h x y) hu
end
section
noncomputable def zt(rs:List RO)(i:Nat)(r:RO):Prop:=∃r',J0 rs i=some r'/\r'.addr=r.addr/\∀p∈r.led,p∈led rs
theorem WE(h:zt rs i r):∀p∈r.led,p∈led rs:=λp hp=>by
 refine J3 h λr' h1 _ h3=> ?_;clear h;exact h3 p hp
theorem AO(hr:zt rs i r)(h:E2 b rs (.ref i) u):u= .ref r.addr:=by
 refine J3 hr λr' h1 h2 _=> ?_;clear hr;rw[h2.symm];exact K6 h1 h
theorem M0.a0c(S:M0 w b cx H rs h og)(hr:zt rs i (.one a o)):h.get? a=some o:=(S.at_ (a,o) (u5 _ (WE hr _ (by simp[RO.led])))).1
theorem Me(o:n0):o.Ui=o\/∃q,o= .D4 q:=by induction o using n0.casesOn<;>first|exact .inl rfl|exact .inr ⟨_,rfl⟩
theorem VS(S:M0 w b cx H rs h og)(e:ct H i=some o):∃r,zt rs i r/\P2 w b rs o r:=B5 e λo' h' e=>by
 rcases Me o' with q|⟨q,rfl⟩
 .refine u0 (S.ref h') λr hr ok=> ?_;exact⟨r,⟨r,hr,rfl,B3 hr⟩,e▸q.symm▸ok⟩
 .obtain⟨r,hr,a,ob,l,rfl,m,ok⟩:=S.ref h';exact⟨.one a ob,⟨_,hr,rfl,λp hp=>l9.mp hp▸j4 m⟩,e▸ok⟩
theorem M0.obj{α:Type}{h:Heap}(S:M0 w b cx H rs h og){f:n0->Option α}{v:V}{u:Value}{x:α}(o:E2 b rs v u)(e:uC f H v=some x){G:Prop}(k:∀r ob,f ob=some x->(∀p∈r.led,p∈led rs)->P2 w b rs ob r->u= .ref r.addr->G):G:=u3 e λi ei e=>u3 e λob eo e=>by
 refine u0 (VS S eo) λr hr ok=> ?_;exact k r ob e (WE hr) ok (AO hr (uA ei▸o))
theorem M0.in1(S:M0 w b cx H rs h og)(k:∀p∈(RO.one a o).led,p∈led rs):h.get? a=some o:=S.inR (.inr (k _ M3))
@[elab_as_elim] theorem M0.dI {h:Heap} (S:M0 w b cx H rs h og) {v:V} {u:Value} {es:List (Int×V)} (o:E2 b rs v u) (e:uC BX H v=some es) {P:Value->Prop} (k:∀p ob l4,(p,ob)∈led rs->ob.IsDictOf (intKind E1 w) l4->RX b rs es l4->P (.ref p)):P u:=S.obj o e λr ob eo m ok eu=>by
 rw[Jb eo] at ok;refine T3 ok λa o l4 B0=> ?_;clear ok;subst B0;intro hd ok;exact eu▸k a o l4 (m _ M3) hd ok
@[elab_as_elim] theorem M0.dS {h:Heap} (S:M0 w b cx H rs h og) {v:V} {u:Value} {es:List (Str×V)} (o:E2 b rs v u) (e:uC Hb H v=some es) {P:Value->Prop} (k:∀p ob l4,(p,ob)∈led rs->ob.IsDictOf (strKind E1 w) l4->qQ b rs es l4->P (.ref p)):P u:=S.obj o e λr ob eo m ok eu=>by
 rw[Ib eo] at ok;refine T3 ok λa o l4 B0=> ?_;clear ok;subst B0;intro hd ok;exact eu▸k a o l4 (m _ M3) hd ok
noncomputable def RR(w:World)(b:Heap)(rs:List RO)(es:List (Dt×V×V))(o:Obj):Prop:=(es=[]/\o.IsDictOf (strKind E1 w) []/\o.IsDictOf (intKind E1 w) [])\/∃D:E5 w,M7 D b rs es o
@[elab_as_elim] theorem M0.dT {h:Heap} (S:M0 w b cx H rs h og) {v:V} {u:Value} {es:List (Dt×V×V)} (o:E2 b rs v u) (e:uC DX H v=some es) {P:Value->Prop} (k:∀p ob,(p,ob)∈led rs->RR w b rs es ob->P (.ref p)):P u:=S.obj o e λr ob eo m ok eu=>by
 rw[fS eo] at ok;refine A3 ok λa o B0=> ?_;clear ok;subst B0;intro ok;exact eu▸k a o (m _ M3) ok
@[elab_as_elim] theorem M0.dN {h:Heap} (S:M0 w b cx H rs h og) {v:V} {u:Value} {e:Bool×List Ent} (o:E2 b rs v u) (e':uC kX H v=some e) {P:Value->Prop} (k:∀p ob,(p,ob)∈led rs->RR w b rs (e.2.map (C6 e.1)) ob->P (.ref p)):P u:=S.obj o e' λr ob eo m ok eu=>by
 rw[kO eo] at ok;refine A3 ok λa o B0=> ?_;clear ok;subst B0;intro ok;exact eu▸k a o (m _ M3) ok
@[elab_as_elim] theorem M0.sq {h:Heap} (S:M0 w b cx H rs h og) {v:V} {u:Value} {q:Bool×List V} (o:E2 b rs v u) (e:Lb H v=some q) {P:Value->Prop} (k:∀p vs n,mX b rs p (seqObj (ZX q.1) (List.toArray vs) n)->V0 b rs q.2 vs->P (.ref p)):P u:=by
 induction hr:rV v using opQ with
 |some i=>
  have e:uC qO H v=some q:=by unfold Lb at e;unfold uC;rw[hr] at e⊢;exact e
  refine S.obj o e λr ob eo m ok eu=> ?_;rw[Yd eo] at ok;obtain⟨l,xs⟩:=q;induction l using Q2<;>(refine V3 ok λa vs n B0=> ?_;clear ok;subst B0;intro ok;exact eu▸k a vs n (.inr (m _ M3)) ok)
 |none=>
  unfold Lb at e;rw[hr] at e;refine u3 e λd ed e=>B5 e λp ep e=> ?_;rw[AX ed,Uj ep] at o;subst e;exact AB (F:=MA b rs) (l:=p.1) (ds:=p.2) o λa vs n e hp hv=>e▸k a vs n hp.inR hv.vs
theorem Xb(e:Dt.je v=some d)(x:E2 b rs v u):G3 (mX b rs) d u:=by
 induction v using V.casesOn with
 |none=>exact si e▸(show G3 _ .none u from x)
 |bool s c=>exact si e▸(show G3 _ (.bool s c) u from x)
 |int s n=>exact si e▸(show G3 _ (.int s n) u from x)
 |str y=>exact si e▸(show G3 _ (.str y) u from x)
 |bytes s c=>exact si e▸(show G3 _ (.bytes s c) u from x)
 |W0 d=>exact si e▸G3.mono (λ_ _ e=>e.inR) x
 |_=>exact A0 e
theorem kI(hf:∀{v d u},f v=some d->E2 b rs v u->G3 F d u)(e:zG f vs=some ds)(x:V0 b rs vs us):O4 F ds us:=by
 induction vs generalizing ds us with
 |nil=>
  refine x.ni ?_;exact si e▸rfl
 |cons v vs ih=>
  refine x.un λu r x1 x2=> ?_;exact u3 e λd hd e=>B5 e λl hl e=>e▸⟨u,r,rfl,hf hd x1,ih hl x2⟩
theorem Oe{l:Bool}{xs:List V}{r:RO}{G:Prop}(h:P2 w b rs (cond l (.lst xs) (.tup xs)) r)(k:∀a vs n,r= .one a (seqObj (ZX l) (List.toArray vs) n)->V0 b rs xs vs->G):G:=by
 induction l using Q2<;>exact V3 h k
theorem BO{h:Heap}(S:M0 w b cx H rs h og)(n:Nat){v:V}{d:Dt}{u:Value}(e:dat H n v=some d)(x:E2 b rs v u):G3 (mX b rs) d u:=by
 induction n generalizing v d u with
 |zero=>exact Xb e x
 |succ n ih=>
  refine B9 e (λi hi e=>u3 e λo ho e=>u3 e λp hp e=>B5 e λds Pe e=>u0 (VS S ho) λr hR ok=>Oe (Yd hp▸ok) λa vs k er z=> ?_) λe=>Xb e x;subst er;rw[AO hR (show E2 b rs (.ref i) u from uA hi▸x),e.symm];have y:O4 (mX b rs) ds vs:=kI ih Pe z;have m:mX b rs a (seqObj (ZX p.1) vs.toArray k):= .inr (WE hR _ M3);cases h:p.1<;>rw[h] at m<;>exact⟨a,vs,k,rfl,m,y⟩
theorem NA(S:M0 w b cx H rs h og)(n:Nat)(e:dat H n v=some d)(x:E2 b rs v u):G3 (λa o=>h.get? a=some o) d u:=(BO S n e x).mono λ_ _ z=>S.inR z
end
noncomputable def il(n:Int):Value->Bool
 | .int m _=>decide (m=n)
 |_=>false
noncomputable def jl(k:Str):Value->Bool
 | .str x _=>sq x k
 |_=>false
theorem Qe:(memC s v q).2=(v||q.2):=by
 obtain⟨t,w⟩:=q;induction s using Q2<;>induction v using Q2<;>induction t using Q2<;>induction w using Q2<;>rfl
theorem dY(h:nk sg n ds=some r)(y:O4 F ds vs):r.2=vs.any (il n)/\∀y∈vs,∃m t,y= .int m t:=by
 induction ds generalizing vs r with
 |nil=>rw[show vs=[] from y,(si h).symm];exact⟨rfl,λ_ h=>absurd h v8⟩
 |cons d ds ih=>
  refine u3 h λp e1 h=>B5 h λq e2 h=>U1 y λv Gv e y1 y2=> ?_;rw[z8 e1] at y1;refine O0 y1 λt e'=> ?_;have i:=ih e2 y2;subst e e';exact⟨by rw[h.symm,Qe,i.1];rfl,λy hy=>(M4.mp hy).elim (λe=>⟨_,_,e⟩) (i.2 y)⟩
theorem eY(h:pk k ds=some r)(y:O4 F ds vs):r=vs.any (jl k)/\∀y∈vs,∃m t,y= .str m t:=by
 induction ds generalizing vs r with
 |nil=>rw[show vs=[] from y,(si h).symm];exact⟨rfl,λ_ h=>absurd h v8⟩
 |cons d ds ih=>
  refine u3 h λp e1 h=>B5 h λq e2 h=>U1 y λv Gv e y1 y2=> ?_;rw[gS e1] at y1;refine O0 y1 λt e'=> ?_;have i:=ih e2 y2;subst e e';exact⟨by rw[h.symm,i.1];rfl,λy hy=>(M4.mp hy).elim (λe=>⟨_,_,e⟩) (i.2 y)⟩
section
variable{w:World}{b:Heap}{A:Around}{E:Value->Shared->Prop}{s:Shared}{cx:Cx}{rs:List RO}{σ:St}{H:List n0}{Q:Value->Shared->Prop}
noncomputable def Bt(w:World)(A:Around)(E:Value->Shared->Prop)(s:Shared)(u v:Value)(r:Bool):Prop:=∀{Q:Value->Shared->Prop},((∀k,Q (.bool r) {s with toks:=k})->wpAny (model E1 w) A (compareOp .In u v) Q E s)/\((∀k,Q (.bool (!r)) {s with toks:=k})->wpAny (model E1 w) A (compareOp .NotIn u v) Q E s)
theorem WS{u:Value}{a:Addr}{vs:List Value}{r:Bool}{n:Nat}(e:Value->Bool)(h1:r=vs.any e)(h2:∀y∈vs,EqAt A.in1 s y u (e y))(ht:s.heap.get? a=some (seqObj "tuple" vs.toArray n)):Bt w A E s u (.ref a) r:=λ{Q}=>
 have h2:∀y,y∈vs.toArray->EqAt A.in1 s y u (e y):=λy hy=>h2 y (List.mem_toArray.mp hy)
 ⟨λq=>in_tupleAt e (U6 ht) h2 (by simpa[<-h1] using q s.toks),λq=>notIn_tupleAt e (U6 ht) h2 (by simpa[<-h1] using q s.toks)⟩
theorem Se{x:Dt}{u:Value}{a:Addr}{ds:List Dt}{vs:List Value}{r:Bool×Bool}{n:Nat}(h:qk x ds=some r)(hx:G3 (HF s) x u)(hy:O4 (HF s) ds vs)(ht:s.heap.get? a=some (seqObj "tuple" vs.toArray n)):Bt w A E s u (.ref a) r.2:=by
 refine B9 h (λp e h=> ?_) λh=>u3 h λk e h=>B5 h λz e1 h=> ?_
 .rw[z8 e] at hx;refine O0 hx λt e=> ?_;subst e;have m:=dY h hy;exact WS (il p.2) m.1 (λy hy=>w6 (m.2 y hy) λm t' e=>e▸(show EqAt _ _ _ _ (decide (m=p.2)) from jI m p.2▸EqAt.int_int _ _ _ _)) ht
 .rw[gS e] at hx;refine O0 hx λt e=> ?_;subst e;have m:=eY e1 hy;exact WS (jl k) (h▸m.1) (λy hy=>w6 (m.2 y hy) λm t' e=>e▸(show EqAt _ _ _ _ (sq m k) from O7 m k▸EqAt.str_str _ _ _ _)) ht
theorem aA(B:k3 w b)(h:b.get? a=none):(a==sysModules)=false:=by
 refine beq_eq_false_iff_ne.mpr λe=> ?_;have:=B.sys;rw[<-e,h] at this;exact G2 this
theorem gK{κ:Type}[DecidableEq κ]{es:List (κ×V)}{l4:List (κ×Value)}{n:κ}(h:t7 b rs es l4):(valueAt l4 n).isSome=es.any λe=>decide (e.1=n):=by
 induction es generalizing l4 with
 |nil=>rw[show l4=[] from h];rfl
 |cons p es ih=>
  refine U1 h λv q e _ k=> ?_;subst e;have i:=ih k;unfold valueAt at i⊢;rw[List.find?_cons,List.any_cons];by_cases e:p.1=n
  .simp[e]
  .simp[e,<-i]
theorem Te:(es.any λe=>decide (e.1=n))=(lk n es).isSome:=by
 induction es with
 |nil=>rfl
 |cons p es ih=>
  rw[List.any_cons,ih,d3,O7,(show decide (p.1=n)=(p.1==n) by by_cases e:p.1=n<;>simp[e]).symm];cases decide (p.1=n)<;>rfl
theorem wM{κ:Type}[DecidableEq κ]{knd:KeyKind E1 w κ}{k:κ}{u:Value}{p:Addr}{ob:Obj}{l4:List (κ×Value)}{r:Bool}(B:k3 w b)(S:M0 w b cx σ.heap rs s.heap (s.os,s.gens))(m:(p,ob)∈led rs)(hd:ob.IsDictOf knd l4)(hk:knd.is k u=true)(e:(valueAt l4 k).isSome=r):Bt w A E s u (.ref p) r:=λ{Q}=>
 have hm:=(Heap.dictOf_iff.mpr ⟨ob,S.inR (.inr m),hd⟩).mapOf;have ns:=aA B (S.at_ (p,ob) (u5 _ m)).2
 ⟨λq=>wpAny_in_of hk ns hm (e▸q _),λq=>wpAny_notIn_of hk ns hm (e▸q _)⟩
theorem RR.Hv(h:RR w b rs [] o):o.IsDictOf (intKind E1 w) []:=by
 refine Or.elim h (λz=>z.2.2) λz=>Exists.elim z λD z=>BE z λarr ep xs h1 h2 h3 h4 h5=> ?_;rw[show xs=[] from h5] at h3;exact⟨#[],ep,h1,by rw[h2,show arr= #[] by simpa using h3],(λe he=>by simp at he),.nil,.nil⟩
theorem XS(h:vA l=true):l=[]:=by
 induction l using H5 with
 |nil=>rfl
 |cons _ _=>exact G2 h
theorem Ue(h:(!vA l)=true):∃x r,l=x::r:=by
 induction l using H5 with
 |nil=>exact G2 h
 |cons x r=>exact⟨x,r,rfl⟩
theorem YS(h:Option.rec (motive:=λ_=>Bool) false f o=true):∃a,o=some a/\f a=true:=by
 induction o using opQ with
 |none=>exact G2 h
 |some a=>exact⟨a,rfl,h⟩
theorem ZS(e:iD x=some p)(h:G3 F x u):(intKind E1 w).is p.2 u=true:=by
 rw[z8 e] at h;exact O0 h λt e=>by rw[e];exact beq_self_eq_true _
theorem Yb{a c:V}{u v:Value}{Kb:Bool->Bool->Prop}(B:k3 w b)(S:M0 w b cx σ.heap rs s.heap (s.os,s.gens))(ou:E2 b rs a u)(ov:E2 b rs c v)(h:gv a c σ Kb):∃sg r,Kb sg r/\Bt w A E s u v r:=by
 refine E0 h λx hx h=> ?_;have dx:=NA S _ hx ou;refine K2 h (λes he h=>E0 h λp ep h=>U3 h λg h=> ?_) λh=>K2 h (λes he h=>E0 h λp ep h=>wG h λg1 g2 h=> ?_) λh=>K2 h (λes he h=>E0 h λk ek h=> ?_) λh=>E0 h λds Pe h=>E0 h λr hr h=>u3 Pe λy hy e=> ?_
 .refine S.dI ov he λq ob l4 m hd ok=> ?_;exact⟨_,_,h,wM B S m hd (ZS ep dx) (gK ok)⟩
 .rw[XS g1] at he;refine S.dT ov he λq ob m hd=> ?_;exact⟨_,_,h,wM B S m hd.Hv (ZS ep dx) rfl⟩
 .refine S.dS ov he λq ob l4 m hd ok=> ?_;refine⟨_,_,h,wM B S m hd (k:=k) ?_ ((gK ok).trans Te)⟩;rw[gS ek] at dx;exact O0 dx λt e=>by rw[e];exact beq_self_eq_true k
 .have dv:=NA S _ hy ov;rw[yG e] at dv;exact T3 dv λp vs n e hp hv=>e▸⟨_,_,h,Se hr dx hv hp⟩
theorem PV.bool{Q:K1}{k:Nat}{sg r:Bool}(S:M0 w b cx σ.heap rs s.heap (s.os,s.gens))(q:Q (.bool sg r) σ):PV w b cx rs Q (.bool r) {s with toks:=k}:= .here q S (.refl rs) rfl
theorem iK(h:E2 b rs a u):(u==Value.none)=WH a:=by
 have x1:∀{α:Type}{f:α->Value},(∃t,u=f t)->(∀t,(f t==Value.none)=false)->(u==Value.none)=false:=λh k=>O0 h λt e=>e▸k t;have x2:∀{α:Type}{f:α->Value}{P:α->Prop},(∃t,P t/\u=f t)->(∀t,(f t==Value.none)=false)->(u==Value.none)=false:=λh k=>u0 h λt _ e=>e▸k t;induction a using V.casesOn with
 |W0 d=>
  induction d using Dt.casesOn with
  |none=>rw[show u= .none from h];rfl
  |bool=>rw[show u= .bool _ from h];rfl
  |int=>exact x1 h λ_=>rfl
  |str=>exact x1 h λ_=>rfl
  |bytes=>exact x1 h λ_=>rfl
  |tup=>exact V3 h λt _ _ e _=>e▸rfl
  |lst=>exact V3 h λt _ _ e _=>e▸rfl
  |obj=>exact UJ h λt _ _ _ _ e _=>e▸rfl
 |none=>rw[show u= .none from h];rfl
 |bool=>rw[show u= .bool _ from h];rfl
 |int=>exact x1 h λ_=>rfl
 |str=>exact x1 h λ_=>rfl
 |bytes=>exact x1 h λ_=>rfl
 |ref=>exact x2 h λ_=>rfl
 |fn=>exact x2 h λ_=>rfl
 |mt=>exact x2 h λ_=>rfl
 |cl=>exact x2 h λ_=>rfl
 |ty=>rw[show u= .type _ from h];rfl
 |bi=>rw[show u= .builtin _ from h];rfl
theorem ml:nV v=true->v= .none:=V.casesOn (motive:=λv=>nV v=true->v= .none) v (λ_=>rfl) (λ_ _=>G2) (λ_ _=>G2) (λ_=>G2) (λ_ _=>G2) (λ_=>G2) (λ_=>G2) (λ_=>G2) (λ_ _=>G2) (λ_=>G2) (λ_=>G2) (λ_=>G2)
theorem Zb(hA:B2 A n)(S:M0 w b cx σ.heap rs s.heap (s.os,s.gens))(ou:E2 b rs a u)(ov:E2 b rs c v)(h:jt a c σ Kb):∃sg r,Kb sg r/\RcAt A s u v r/\RcNeAt A s u v (!r):=by
 have hl:A.units+51<cLine:=NH (Nat.add_le_add_left (V7 (by decide) (kB 200 (8*n))) _) (Nat.add_assoc _ _ _▸hA.units);refine G6 h (λe h=>R1 e λe1 e2=>u0 (YS e1) λxs f1 g1=>u0 (YS e2) λys f2 g2=> ?_) λ_ h=>E0 h λx hx h=>E0 h λy hy h=>U3 h λg h=>E0 h λp hp h=> ?_
 .rw[XS g2] at f2;refine w6 (Ue g1) λx0 xr e=> ?_;subst e;refine S.obj ou f1 λr1 o1 l1 m1 bc eu=>S.obj ov f2 λr2 o2 l2 m2 oX ev=> ?_;rw[xG l1] at bc;rw[xG l2] at oX;refine V3 bc λa1 vs1 k1 q1 z1=>V3 oX λa2 vs2 k2 q2 z2=>U1 z1 λv0 vr e _ _=> ?_;subst q1 q2 e;rw[eu,ev];rw[show vs2=[] from z2] at m2⊢;have hl:A.units<cLine:=NH (jB _ _) hl;exact⟨_,_,h,EqAt.NS (H4 (S.in1 m1)) (H4 (S.in1 m2)) hl L6.zB,cY.NS (H4 (S.in1 m1)) (H4 (S.in1 m2)) hl L6.zB⟩
 .exact⟨_,_,h,Le hp (NA S _ hx ou) (NA S _ hy ov) (NH (Nat.add_le_add_left (V7 (v9 g) (by decide)) _) hl)⟩
theorem lI{op:CmpOp}{a c:V}{u v:Value}{Q:K1}{n:Nat}(B:k3 w b)(hA:B2 A n)(S:M0 w b cx σ.heap rs s.heap (s.os,s.gens))(ou:E2 b rs a u)(ov:E2 b rs c v)
 (h:T8 op a c σ Q):wpAny (model E1 w) A (compareOp op u v) (PV w b cx rs Q) E s:=by
 have two:∀{f:Int->Int->Bool}{k:Nat},WJ f k a c σ Q->∃m t n t',u= .int m t/\v= .int n t'/\PV w b cx rs Q (.bool (f m n)) s:=λh=>E0 h λp e1 h=>E0 h λq e2 h=>
  O0 (show∃t,u= .int p.2 t from(show E2 b rs (.int p.1 p.2) u from VJ e1▸ou)) λt x1=>O0 (show∃t,v= .int q.2 t from(show E2 b rs (.int q.1 q.2) v from VJ e2▸ov)) λt' x2=>⟨_,_,_,_,x1,x2,PV.bool (k:=s.toks) S h⟩
 cases op with
 |Eq=>exact U1 (Zb hA S ou ov h) λsg r q k _=>cmp_ofEq (k E1 w E _ (PV.bool (k:=s.toks) S q))
 |NotEq=>exact U1 (Zb hA S ou ov h) λsg r q _ k=>cmp_ofNotEq (k E1 w E _ (PV.bool (k:=s.toks) S q))
 |In=>exact A3 (Yb (A:=A) (E:=E) (Kb:=λs v=>Q (.bool s v) σ) B S ou ov h) λsg r q k=>k.1 λk=>PV.bool S q
 |NotIn=>exact A3 (Yb (A:=A) (E:=E) (Kb:=λs v=>Q (.bool s (!v)) σ) B S ou ov h) λsg r q k=>k.2 λk=>PV.bool S q
 |Is=>
  refine U3 h λg h=> ?_;rw[ml g] at ov;rw[show v= .none from ov];refine is_none ?_;rw[iK ou];exact PV.bool (k:=s.toks) S h
 |IsNot=>
  refine U3 h λg h=> ?_;rw[ml g] at ov;rw[show v= .none from ov];refine isNot_none ?_;rw[iK ou];exact PV.bool (k:=s.toks) S h
 |Lt=>exact BA (two (f:=λm n=>decide (m<n)) (k:=22) h) λm t n t' e1 e2 q=>e1▸e2▸PyProof.Rows.lt_int q
 |LtE=>exact BA (two (f:=λm n=>decide (m<=n)) (k:=23) h) λm t n t' e1 e2 q=>e1▸e2▸PyProof.Rows.le_int q
 |Gt=>exact BA (two (f:=λm n=>decide (n<m)) (k:=24) h) λm t n t' e1 e2 q=>e1▸e2▸PyProof.Rows.gt_int q
 |GtE=>exact BA (two (f:=λm n=>decide (n<=m)) (k:=25) h) λm t n t' e1 e2 q=>e1▸e2▸PyProof.Rows.ge_int q
end
theorem F8:∀{fs:List (Str×V)}{es:List DictEntry},uB b rs fs es->(∀v,lk x fs=some v->∃u,getL x es=some (some u)/\E2 b rs v u)/\(lk x fs=none->getL x es=some none)
 |[],es,h=>by obtain rfl:=h;exact⟨(λv e=>by exact A0 e),(λ_=>rfl)⟩
 |p::fs,es,h=>by
  refine YG h λe q B0=> ?_;clear h;subst B0;intro x9;refine O0 x9 λt hk=> ?_;clear x9;intro hv r;have ih:=F8 (x:=x) r;have hs:e.key.isStr x=sq p.1 x:=by rw[hk,O7];rfl
  have hr:e.refKey=false:=by unfold DictEntry.refKey;rw[hk]
  simp only[d3];induction hx:sq p.1 x using Q2 with
  |true=>
   refine⟨(λv e'=> ?_),(λe'=>by exact MR e')⟩;obtain rfl:=si e';exact⟨e.val,by unfold getL;rw[List.find?_cons,hs,hx],hv⟩
  |false=>
   have key:getL x (e::q)=getL x q:=by
    unfold getL;rw[List.find?_cons,hs,hx,List.any_cons,hr];rfl
   rw[key];exact ih
theorem jK(hu:E2 b rs v u):∀{es:List DictEntry},uB b rs fs es->uB b rs (put x v fs) (putL x hsh (.str x t) u es):=by
 induction fs with
 |nil=>
  intro es h;obtain rfl:=h;exact⟨_,[],rfl,⟨t,rfl⟩,hu,rfl⟩
 |cons p fs ih=>
  intro es h;refine YG h λe q B0=> ?_;clear h;subst B0;intro x9;refine O0 x9 λt' hk=> ?_;clear x9;intro hv r;have hs:e.key.isStr x=sq p.1 x:=by rw[hk,O7];rfl
  unfold putL;rw[lB];rw[hs];induction hx:sq p.1 x using Q2 with
  |true=>exact⟨_,q,rfl,⟨t',hk⟩,hu,r⟩
  |false=>exact⟨e,_,rfl,⟨t',hk⟩,hv,ih r⟩
theorem aT:∀{es:List DictEntry},uB b rs fs es->es.length=fs.length:=by
 induction fs with
 |nil=>
  intro es h;obtain rfl:=h;rfl
 |cons p fs ih=>
  intro es h;refine YG h λe q B0=> ?_;clear h;subst B0;intro _ _ r;simp[ih r]
theorem fY:(put x v fs).length<=fs.length+1:=by
 induction fs with
 |nil=>
  simp[fO]
 |cons p fs ih=>
  rw[lB];induction sq p.1 x using Q2 with
  |true=>exact Nat.le_succ _
  |false=>exact Nat.succ_le_succ ih
theorem Ve(k:QX xs es)(v:O4 F ds (es.map (·.val)))(h:vz x xs ds=some d):∃u,getL x es=some (some u)/\G3 F d u:=by
 induction xs generalizing ds es with
 |nil=>exact A0 h
 |cons y ys ih=>
  induction ds using H5 with
  |nil=>exact A0 h
  |cons d0 ds=>
   refine U1 k λe q z1 z2 k2=>O0 z2 λt hk=> ?_;subst z1;refine U1 v λu r hu v1 v2=>D0 (List.cons.inj hu) λhu1 hu2=> ?_;have hs:e.key.isStr x=sq y x:=by rw[hk,O7];rfl
   have hr:e.refKey=false:=by unfold DictEntry.refKey;rw[hk]
   refine Sj h (λhx h=>⟨u,by subst hu1;unfold getL;rw[List.find?_cons,hs,hx],si h▸v1⟩) λhx h=> ?_;refine u0 (ih k2 (hu2▸v2) h) λz z1 z2=>⟨z,?_,z2⟩;have key:getL x (e::q)=getL x q:=by
    unfold getL;rw[List.find?_cons,hs,hx,List.any_cons,hr];rfl
   rw[key];exact z1
noncomputable def EC(P:Params)(C:Addr)(x:Str):Bool:=plainGet (KL P) C x&&hasDictIn (KL P) C&&(findIn (KL P) (.ref C) x==some none)&&(takerIn (KL P) C x==some none)&&plainOver (KL P) C&&(findIn (KL P) (.ref C) "__setattr__"==some (some (.builtin "object.__setattr__")))
theorem bT:∀P,allB (λp:Nat×List Str=>allB (λx=>Option.rec (motive:=λ_=>Bool) false (λC=>EC P C x) (J6 (.cl p.1))) p.2) te=true:=by intro P;kernel_rfl
theorem dE(h:aj n l=some v):(n,v)∈l:=by
 induction l with
 |nil=>exact A0 h
 |cons p r ih=>exact Sj h (λe h=>V9 e▸si h▸M3) λ_ h=>a5 _ (ih h)
theorem cT(h:Ck x l=true):x∈l:=by
 induction l with
 |nil=>exact G2 h
 |cons y r ih=>exact Sj h (λe _=>x6 e▸M3) λ_ h=>a5 _ (ih h)
theorem xM(P:Params)(h:ZJ c x=true)(hc:J6 (.cl c)=some C):EC P C x=true:=by
 unfold ZJ at h;induction e:aj c te using opQ with
 |none=>rw[e] at h;exact G2 h
 |some l=>
  rw[e] at h;have:=Z6 (Z6 (bT P) _ (dE e)) _ (cT h);exact(congrArg (λo=>Option.rec (motive:=λ_=>Bool) false (λC=>EC P C x) o) hc).symm.trans this
theorem vQ:(∀p∈pre,p.1≠d)->(∀p∈post,p.1≠d)->Upd d o o' (pre++(d,o)::post) (pre++(d,o')::post):=by
 induction pre with
 |nil=>intro _ h;exact .head h
 |cons p pre ih=>intro h k;exact .tail (h p M3) (ih (λq hq=>h q (a5 _ hq)) k)
section
theorem M0.two(S:M0 w b cx H rs h og)(hr:J0 rs i=some (.two a dx o od)):h.get? a=some o/\h.get? dx=some od:=
 ⟨(S.at_ (a,o) (u5 _ (B3 hr _ (by simp[RO.led])))).1,(S.at_ (dx,od) (u5 _ (B3 hr _ (by simp[RO.led])))).1⟩
theorem jH(h:E2 b rs v u)(hn:tS v=true):handedIn u=true:=by
 induction v using V.casesOn with
 |W0 d=>
  induction d using Dt.casesOn
  .subst h;rfl
  .subst h;rfl
  .refine O0 h λt B0=> ?_;clear h;subst B0;rfl
  .refine O0 h λt B0=> ?_;clear h;subst B0;rfl
  .refine O0 h λt B0=> ?_;clear h;subst B0;rfl
  .refine V3 h λt _ _ B0=> ?_;clear h;subst B0;intro _;rfl
  .refine V3 h λt _ _ B0=> ?_;clear h;subst B0;intro _;rfl
  .refine UJ h λt _ _ _ _ B0=> ?_;clear h;subst B0;intro _;rfl
 |none=>obtain rfl:=h;rfl
 |bool=>obtain rfl:=h;rfl
 |int=>refine O0 h λt B0=> ?_;clear h;subst B0;rfl
 |str=>refine O0 h λt B0=> ?_;clear h;subst B0;rfl
 |bytes=>refine O0 h λt B0=> ?_;clear h;subst B0;rfl
 |ref=>refine u0 h λt _ B0=> ?_;clear h;subst B0;rfl
 |fn=>refine u0 h λt _ B0=> ?_;clear h;subst B0;rfl
 |mt=>refine u0 h λt _ B0=> ?_;clear h;subst B0;rfl
 |cl=>refine u0 h λt _ B0=> ?_;clear h;subst B0;rfl
 |ty=>obtain rfl:=h;rfl
 |bi=>exact G2 hn
theorem gY(B:k3 w b)(S:M0 w b cx σ.heap rs s.heap (s.os,s.gens))(hL:(L,m)∈cx.fs)(ha:b.objs.size<=L)(ou:E2 b rs a u)
 (h:vS a x σ Q):wpAny (model E1 w) A (getAttr u x expr) (PV w b cx rs Q) E s:=by
 refine K2 h (λi e h=>E0 h λf hi h=>E0 h λv hv h=>wG h λg1 g2 h=> ?_) λh=>E0 h λf e h=>E0 h λd hd h=>U3 h λg h=>u3 e λm e1 e2=> ?_
 .obtain⟨r,hr,p,dx,C,es,n,rfl,hc,ok⟩:=S.ref (uS hi);rw[uA e] at ou;rw[K6 hr ou];refine D0 (S.two hr) λh1 h2=> ?_;refine u0 ((F8 ok).1 v hv) λuu e1 e2=> ?_;have ck:=xM w.params g1 hc;unfold EC at ck;simp only[JD,beq_iff_eq] at ck;refine I7 (S.same hL ha) λfr F N nd back=> ?_;exact get_own F B.K ⟨h1,rfl,rfl,h2⟩ ck.1.1.1.1.1 ck.1.1.1.1.2 ck.1.1.1.2 rfl e1 (jH e2 g2) (.here (s':={s with toks:=s.toks+1}) h S (.refl rs) e2)
 .rw[AX e1,Ak e2] at ou;refine Fb ou λp dx C es n B0 hc h1 h2 k1 k2=> ?_;subst B0;refine I7 (S.same hL ha) λfr F N nd back=> ?_;have g1:=S.inR h1.inR;have g2:=S.inR h2.inR;refine u0 (Ve k1 k2 hd) λuu e1 e2=> ?_;have ck:=xM w.params g hc;unfold EC at ck;simp only[JD,beq_iff_eq] at ck;have ov:E2 b rs (V.T5 d) uu:=e2.vt;have nb:tS (V.T5 d)=true:=by induction d using Dt.casesOn<;>rfl
  exact get_own F B.K ⟨g1,rfl,rfl,g2⟩ ck.1.1.1.1.1 ck.1.1.1.1.2 ck.1.1.1.2 rfl e1 (jH ov nb) (.here (s':={s with toks:=s.toks+1}) h S (.refl rs) ov)
end
section
variable{w:World}{b:Heap}{A:Around}{E:Value->Shared->Prop}{s:Shared}{cx:Cx}{rs:List RO}{σ:St}{H:List n0}
theorem eT{h:Heap}(S:M0 w b cx H rs h og){i:Nat}{r r':RO}{o:n0}(X:Ext rs (upd rs i r'))(ok:P2 w b (upd rs i r') o r'):
 ∀j p q,J0 (upd H i o) j=some p->J0 (upd rs i r') j=some q->P2 w b (upd rs i r') p q:=λj p q e2 e3=>by
 rcases i5 e2 with⟨n2,f2⟩|⟨n2,f2⟩
 .rcases i5 e3 with⟨n3,f3⟩|⟨n3,f3⟩
  .exact(S.ok j p q f2 f3).ext X
  .exact absurd n3 n2
 .rcases i5 e3 with⟨n3,f3⟩|⟨n3,f3⟩
  .exact absurd n2 n3
  .subst f2 f3;exact ok
theorem CO{h:Heap}(S:M0 w b cx H rs h og){i:Nat}{r':RO}{o:n0}:(upd H i o).length=(upd rs i r').length:=by
 rw[K3,K3,MJ,MJ,S.len]
theorem M0.ql{h:Heap}(S:M0 w b cx H rs h og){L:Addr}{m:Str->Option Value}(hL:(L,m)∈cx.fs)(ha:b.objs.size<=L){i:Nat}{r:RO}(hr:J0 rs i=some r)(hn:∀p∈r.led,¬IsT p.2)(hz:r.fz=[]:=by rfl):
 ∃pre post,Fr b L h m/\News b L h (pre++(r.led++post))/\((pre++(r.led++post)).map (·.1)).Nodup/\
  ∀{h':Heap}{r':RO}{o:n0},r'.addr=r.addr->r'.led.map (·.1)=r.led.map (·.1)->Fr b L h' m->News b L h' (pre++(r'.led++post))->P2 w b (Mine.Internal.upd rs i r') o r'->M0 w b cx (Mine.Internal.upd H i o) (Mine.Internal.upd rs i r') h' og/\Ext rs (Mine.Internal.upd rs i r'):=by
 refine I7 (S.Fe hL ha) λfr F N nd back=> ?_;refine A3 (X9 hr) λl1 l2 e1 u=> ?_;refine⟨fr++l1,l2,F,?_,?_,λ{h' r' o} ea el F' N' ok=> ?_⟩
 .rw[i7,e1.symm];exact N
 .rw[i7,e1.symm];exact nd
 .have X:=Ext.upd (r':=r') hr ea hn hz;refine⟨back h' m F' _ _ (λ_=>rfl) (by rw[u _,<-i7];exact N') ?_ (CO S) (X.at_ _ _ S.tab) (eT (r:=r) S X ok),X⟩;rw[u _,e1];simp[el]
theorem yM{a v:V}{u z:Value}{x:Str}{K:St->Prop}{L:Addr}{m:Str->Option Value}(B:k3 w b)(S:M0 w b cx σ.heap rs s.heap (s.os,s.gens))(hL:(L,m)∈cx.fs)(ha:b.objs.size<=L)(ou:E2 b rs a u)(ov:E2 b rs v z)
 (h:HE a x v σ K):wpAny (model E1 w) A (setAttr u x z) (λ_ s'=>∃F1 rs',K F1/\M0 w b cx F1.heap rs' s'.heap (s'.os,s'.gens)/\Ext rs rs') E s:=by
 refine E0 h λi e h=>E0 h λf hi h=>wG h λg1 g2 h=> ?_;obtain⟨r,hr,p,dx,C,es,n,rfl,hc,ok⟩:=S.ref (uS hi);rw[uA e] at ou;rw[K6 hr ou];refine D0 (S.two hr) λh1 h2=> ?_;have ck:=xM w.params g1 hc;unfold EC at ck;simp only[JD,beq_iff_eq] at ck;refine YG (S.ql hL ha hr (by intro q hq;simp[RO.led] at hq;rcases hq with rfl|rfl<;>simp[IsT])) λpre post F N nd back=> ?_;have hl:(getL x es).isSome=true:=by
  induction e:lk x f.2 using opQ with
  |none=>rw[(F8 ok).2 e];rfl
  |some v=>refine u0 ((F8 ok).1 v e) λu q _=> ?_;rw[q];rfl
 simp only[RO.led,List.cons_append,List.nil_append] at N nd;have cK:(∀q∈pre++[(p,instObj C dx)],q.1≠dx)/\∀q∈post,q.1≠dx:=by
  rw[show pre++(p,instObj C dx)::(dx,dictOf es n)::post=(pre++[(p,instObj C dx)])++(dx,dictOf es n)::post by simp] at nd;rw[w8,R6,gD] at nd;refine⟨λq hq e=>nd.2.2 q.1 (d5 hq) dx M3 e,λq hq e=> ?_⟩;exact(H7.mp nd.2.1).1 (z5.mpr ⟨q,hq,e⟩)
 refine set_dict F B.K (by rw[show pre++(p,instObj C dx)::(dx,dictOf es n)::post=(pre++[(p,instObj C dx)])++(dx,dictOf es n)::post by simp] at N;exact N) ⟨h1,rfl,rfl,h2⟩ rfl ck.2 ck.1.2 ck.1.1.2 ck.1.1.1.1.2 hl rfl (vQ cK.1 cK.2) ?_ λh' F' N'=> ?_
 .have:=fY (x:=x) (v:=v) (fs:=f.2);have q:=v9 g2;rw[aT (jK (hsh:=PyData.keyHash w.params x) (t:=s.toks+1) ov ok)];lia
 .have X:Ext rs (Mine.Internal.upd rs i (.two p dx (instObj C dx) (dictOf (putL x (PyData.keyHash w.params x) (.str x (s.toks+1)) z es) (putN x es n)))):=
   Ext.upd hr rfl (by intro q hq;simp[RO.led] at hq;rcases hq with rfl|rfl<;>simp[IsT])
  have:=back (h':=h') (r':= .two p dx (instObj C dx) (dictOf (putL x (PyData.keyHash w.params x) (.str x (s.toks+1)) z es) (putN x es n))) (o:= .inst f.1 (put x v f.2)) rfl rfl F' (by simpa[RO.led] using N')
   ⟨p,dx,C,_,_,rfl,hc,jK (ov.ext X) (ok.ext X)⟩
  exact⟨_,_,h,fI this.1,this.2⟩
theorem vD{sg r:Bool}{Kt Kf:St->Prop}(h:br sg r σ Kt Kf):∃F1,F1.heap=σ.heap/\(r=true->Kt F1)/\(r=false->Kf F1):=by
 obtain⟨H,tp⟩:=σ;induction sg using Q2 with
 |false=>induction r using Q2 with
  |true=>exact⟨_,rfl,λ_=>h,vG⟩
  |false=>exact⟨_,rfl,G2,λ_=>h⟩
 |true=>
  induction tp using H5 with
  |nil=>exact No.no h
  |cons d rr=>induction d using Q2 with
   |true=>exact(show r=true/\Kt ⟨H,rr⟩ from h).elim λe h=>⟨⟨H,rr⟩,rfl,λ_=>h,λe'=>vG (e.symm.trans e')⟩
   |false=>exact(show r=false/\Kf ⟨H,rr⟩ from h).elim λe h=>⟨⟨H,rr⟩,rfl,λe'=>G2 (e.symm.trans e'),λ_=>h⟩
theorem We{v:V}{u:Value}{Kt Kf:St->Prop}{Q:Bool->Shared->Prop}(ou:E2 b rs v u)(h:I6 v σ Kt Kf)(q:∀r F1,F1.heap=σ.heap->(r=true->Kt F1)->(r=false->Kf F1)->Q r s):wpAny (model E1 w) A (truthy u) Q E s:=by
 cases v with
 |none=>rw[show u= .none from ou];exactλ_ _ _=>q false σ rfl G2 λ_=>h
 |bool sg c=>rw[show u= .bool c from ou];exact J3 (vD h) λF1 e k1 k2=>wpAny_truthy_bool (q _ F1 e k1 k2)
 |int sg n=>exact O0 ou λt e=>e▸J3 (vD h) λF1 e k1 k2=>PyProof.Rows.truthy_int (q _ F1 e (λx=>k1 (by simpa using x)) (λx=>k2 (by simpa using x)))
 |_=>exact No.no h
end
theorem sub_eq(h:pQ slice=false)(o i:Value):subscripted slice false o i=operate [o,i] (getItem o i):=by
 induction slice using PySem.Expr.casesOn<;>first|rfl|exact vG h
section
variable{w:World}{b:Heap}{A:Around}{E:Value->Shared->Prop}{s:Shared}{cx:Cx}{rs:List RO}{σ:St}{H:List n0}
theorem mI{K:Type}[DecidableEq K](k n:K)(v:Value)(q:List (K×Value)):valueAt ((k,v)::q) n=if k=n then some v else valueAt q n:=by
 unfold valueAt;rw[List.find?_cons];by_cases e:k=n<;>simp[e]
theorem t7.get{K:Type}[DecidableEq K]{c:K->Bool}{n:K}(hc:∀k,c k=true↔k=n){es:List (K×V)}{l4:List (K×Value)}{v:V}(h:t7 b rs es l4)(e:List.rec (motive:=λ_=>Option V) none (λp _ ih=>Bool.rec (motive:=λ_=>Option V) ih (some p.2) (c p.1)) es=some v):∃u,valueAt l4 n=some u/\E2 b rs v u:=by
 induction es generalizing l4 with
 |nil=>exact A0 e
 |cons p es ih=>
  refine U1 h λz q B0=> ?_;clear h;subst B0;intro hz k;rw[mI];induction hp:c p.1 using Q2 with
  |true=>
   rw[if_pos ((hc _).mp hp)];simp only[hp] at e;exact⟨z,rfl,si e▸hz⟩
  |false=>
   rw[if_neg λx=>by rw[(hc _).mpr x] at hp;exact vG hp];simp only[hp] at e;exact ih k e
theorem fT{es:List (Int×V)}{l4:List (Int×Value)}{n:Int}{v:V}(h:RX b rs es l4)(e:pz n es=some v):∃u,valueAt l4 n=some u/\E2 b rs v u:=t7.get (c:=λk=>decide (k=n)) (λ_=>decide_eq_true_iff) h e
theorem gT{es:List (Str×V)}{l4:List (Str×Value)}{n:Str}{v:V}(h:qQ b rs es l4)(e:lk n es=some v):∃u,valueAt l4 n=some u/\E2 b rs v u:=t7.get (c:=λk=>sq k n) (λ_=>JS) h e
theorem zM{K:Type}[DecidableEq K](k n:K)(a:Addr)(v:Value)(q:List (K×Addr×Value)):atKey ((k,a,v)::q) n=if k=n then some (a,v) else atKey q n:=by
 unfold atKey;rw[List.find?_cons];by_cases e:k=n<;>simp[e]
theorem jT{D:E5 w}{x:Dt}{k:D.K}(hx:D.rd x=some k){es:List (Dt×V×V)}{xs:List (D.K×Addr×Value)}{σ:St}{Kn:St->Prop}{Ks:V->St->Prop}(t:W8 D b rs es xs)(h:pD x es σ Kn Ks):
 ∃F1,F1.heap=σ.heap/\((@atKey D.K D.dec xs k=none/\Kn F1)\/∃v p,@atKey D.K D.dec xs k=some p/\E2 b rs v p.2/\Ks v F1):=by
 induction es generalizing xs σ with
 |nil=>obtain rfl:=t;exact⟨σ,rfl,.inl ⟨rfl,h⟩⟩
 |cons e es ih=>
  refine DE t λk' a v q B0=> ?_;clear t;subst B0;intro h1 h2 h3 h4 h5;refine E0 h λp hr h=> ?_;refine J3 (vD h) λF1 IE y1 y2=> ?_;have iff:=D.PE (v:=p.2) h1 hx hr
  letI:=D.dec
  rw[zM];by_cases eq:k'=k
  .rw[if_pos eq];exact⟨F1,IE,.inr ⟨e.2.2,(a,v),rfl,h4,y1 (iff.mpr eq)⟩⟩
  .rw[if_neg eq];refine u0 (ih h5 (y2 (Bool.eq_false_iff.mpr λq=>eq (iff.mp q)))) λM1 e2 z=> ?_;exact⟨M1,e2.trans IE,z⟩
theorem M7.at(S:M0 w b cx H rs h og)(hg:h.get? p=some o)(d:M7 D b rs es o):∃xs,@Heap.DictOfH E1 w D.K D.dec D.knd h p xs/\W8 D b rs es xs:=by
 refine BE d λarr ep xs h1 h2 h3 h4 h5=> ?_;clear d;have is:∀{es xs},W8 D b rs es xs->∀x∈xs,@HeapKind.is E1 w D.K D.dec D.knd h x.1 x.2.1:=λ{es}=>by
  induction es with
  |nil=>intro xs t x hx;obtain rfl:xs=[]:=t;cases hx
  |cons e es ih=>
   intro xs t x hx;refine DE t λk a v q B0=> ?_;clear t;subst B0;intro r1 r2 r3 r4 r5;rcases M4.mp hx with rfl|hx
   .exact D.sO r1 (r2.mono λa o z=>⟨z.1.1,S.inR z.2⟩)
   .exact ih r5 x hx
 exact⟨xs,⟨o,arr,ep,hg,h1,h2,h3,is h5,h4⟩,h5⟩
noncomputable def Kinds(w:World):Prop:=∀d,B8 d=true->∃D:E5 w,∃k,D.rd d=some k
noncomputable abbrev TF(F:Addr->Obj->Prop):Addr->Obj->Prop:=λa o=>IsT o/\F a o
theorem G3.tup:G3 F (.tup ds) u↔∃a vs n,u= .ref a/\F a (seqObj "tuple" (List.toArray vs) n)/\O4 F ds vs:=Iff.rfl
theorem rl(h:iD d=some p)(x:G3 F d u):G3 G d u:=by rw[z8 h] at x⊢;exact x
theorem hY(h:oO d=true)(x:G3 F d u):G3 (TF F) d u:=by
 refine O0 (eO.mp h) λp e=> ?_;exact rl e x
theorem Xe(hf:∀{d u},f d=true->G3 F d u->G3 (TF F) d u)(h:sM f ds=true)(x:O4 F ds vs):O4 (TF F) ds vs:=by
 induction ds generalizing vs with
 |nil=>exact x
 |cons d ds ih=>
  refine U1 x λv r B0=> ?_;clear x;subst B0;intro x1 x2;induction e:f d using Q2 with
  |true=>simp only[sM,e] at h;exact⟨v,r,rfl,hf e x1,ih h x2⟩
  |false=>simp only[sM,e] at h;exact G2 h
theorem kT(hf:∀{d u},f d=true->G3 F d u->G3 (TF F) d u)(h:AG f d=true)(x:G3 F d u):G3 (TF F) d u:=by
 unfold AG at h;induction e:tD d using opQ with
 |none=>rw[e] at h;exact G2 h
 |some ds=>
  rw[e] at h;rw[yG e] at x⊢;refine T3 (G3.tup.mp x) λa vs n B0=> ?_;subst B0;intro hp xs;exact R1 h λ_ h=>G3.tup.mpr ⟨a,vs,n,rfl,⟨⟨rfl,_,_,rfl⟩,hp⟩,Xe hf h xs⟩
theorem kK(h:XJ d=true):∃s n t y,d= .tup [.int s n,.bytes t y]:=by
 refine O0 (eO.mp h) λy h=> ?_;exact u3 h λp e h=>u3 e λl e1 e2=>u3 h λi e3 e4=>⟨i.1,i.2,y.1,y.2,by rw[yG e1,J7 e2,z8 e3,nQ e4]⟩
theorem iY(h:XJ d=true)(x:G3 F d u):G3 (TF F) d u:=by
 refine TJ (kK h) λs n t y B0=> ?_;subst B0;refine T3 (G3.tup.mp x) λa vs n B0=> ?_;subst B0;intro hp xs;exact G3.tup.mpr ⟨a,vs,n,rfl,⟨⟨rfl,_,_,rfl⟩,hp⟩,xs⟩
theorem DO(h:Mb d=true)(x:G3 F d u):G3 (TF F) d u:=kT hY h x
theorem nI(h:B8 d=true)(x:G3 F d u):G3 (TF F) d u:=(Bool.or_eq_true_iff.mp h).elim (λh=>DO h x) λh=>kT iY h x
theorem key_is{D:E5 w}{h:Heap}{x:Dt}{k:D.K}{u:Value}(hx:D.rd x=some k)(dx:G3 (λa o=>h.get? a=some o) x u)(ht:B8 x=true):∃a,u= .ref a/\ @HeapKind.is E1 w D.K D.dec D.knd h k a:=by
 refine O0 (D.ref hx dx) λa B0=> ?_;subst B0;exact⟨a,rfl,D.sO hx ((nI ht dx).mono λ_ _ z=>⟨z.1.1,z.2⟩)⟩
theorem mT(g:B8 x=true)(t:W8 D b rs es xs)(OA:es≠[])(h:pD x es σ Kn Ks):∃k,D.rd x=some k:=by
 induction es using H5 with
 |nil=>exact absurd rfl OA
 |cons e es=>
  refine BA t λk' a v q B0=> ?_;clear t;subst B0;intro h1 _;exact E0 h λp hr h=>by
   induction e:D.rd x using opQ with
   |none=>exact(D.QE g h1 e hr).elim
   |some k=>exact⟨k,rfl⟩
theorem X8(h:GX d=some p):d= .tup [p.1,p.2]:=u3 h λl e h=>by rw[yG e,J7 h]
theorem XE(h:(!c)=true):c=false:=by
 induction c using Q2 with
 |false=>rfl
 |true=>exact G2 h
theorem EO(h:nt d=true):d= .int false 7:=by
 unfold nt at h;induction e:iD d using opQ with
 |none=>rw[e] at h;exact G2 h
 |some p=>rw[e] at h;exact R1 h λa c=>by rw[z8 e,of_decide_eq_true c,XE a]
theorem FO(h:jv d=some x):∃s,d= .bytes s [x]:=u3 h λp e h=>⟨p.1,by rw[nQ e,A8 h]⟩
theorem GO(h:NR d=some x):∃s,d= .tup [.int false 7,.bytes s [x]]:=u3 h λp e h=>A4 h λg h=>(FO h).imp λs q=>by rw[X8 e,EO g,q]
theorem HO(h:mv y d=some x):∃s,d= .tup [.str y,.int false 7,.bytes s [x]]:=u3 h λl e h=>u3 h λp e2 h=>A4 h λg h=>(FO h).imp λs q=>by rw[vO e,J7 e2,EO g,q]
inductive oT(nb:Bool):Dt->Prop->UInt8×UInt8->Prop
 |nb (e:nb=true) (s t:Bool) (k:UInt8×UInt8):oT nb (.tup [.tup [.int false 7,.bytes s [k.1]],.tup [.int false 7,.bytes t [k.2]]]) True k
 |kn (e:nb=false) (s:Bool) (a:Int) (t:Bool) (d:Int):oT nb (.tup [.int s a,.int t d]) (0<=a/\a<256/\0<=d/\d<256) (oct a,oct d)
theorem oI(h:MD nb x=some (c,k)):oT nb x c k:=u3 h λp e h=>by
 induction nb using Q2 with
 |true=>
  refine u3 h λy e1 h=>B5 h λz e2 h=> ?_;refine O0 (GO e1) λs h1=> ?_;refine O0 (GO e2) λt h2=> ?_;cases h
  rw[X8 e,h1,h2];exact .nb rfl s t (y,z)
 |false=>
  refine u3 h λy e1 h=>B5 h λz e2 h=> ?_;cases h
  rw[X8 e,z8 e1,z8 e2];exact .kn rfl _ _ _ _
theorem k7(h:MD nb x=some (c,k)):B8 x=true:=by cases oI h<;>rfl
theorem sI(h0:0<=a)(h1:a<256)(u:UInt8):((u.toNat:Int)=a)↔(u=oct a):=by
 refine O0 (Int.eq_ofNat_of_zero_le h0) λn B0=> ?_;subst B0;have hn:n<256:=Int.ofNat_lt.mp h1;have e:(oct (n:Int)).toNat=n:=Nat.mod_eq_of_lt hn;exact⟨λq=>UInt8.toNat_inj.mp ((Int.ofNat_inj.mp q).trans e.symm),λq=>q▸congrArg Int.ofNat e⟩
theorem JO(h0:0<=a)(h1:a<256)(u:UInt8):decide ((u.toNat:Int)=a)=(u==oct a):=by
 rw[decide_eq_decide.mpr (sI h0 h1 u)];rfl
theorem eE(h:MD nb x=some (c,k))(hc:c)(e:Ent):R8 (Q1 nb e.k) x=some (true,U8 k e):=by
 cases oI h with
 |nb e0 s t=>
  subst e0;show R8 (.tup [.tup _,.tup _]) _=_;rw[Z9,vM QS QS];show some (true,_&&(_&&true))=some (true,_&&_);rw[Bool.and_true _]
 |kn e0 s a t d=>
  subst e0;show R8 (.tup [.int true _,.int true _]) _=_;rw[Z9,vM iI iI,JO hc.1 hc.2.1 _,JO hc.2.2.1 hc.2.2.2 _];show some (true,_&&(_&&true))=some (true,_&&_);rw[Bool.and_true _]
theorem Ye(h:MD nb x=some (c,k))(hc:c)
 (q:w7 (C5 k es) (λe=>Ks (.W0 (C8 nb e)) ⟨H,t⟩) (Kn ⟨H,t⟩)):∃tp,pD x (es.map (C6 nb)) ⟨H,tp⟩ Kn Ks:=by
 induction es with
 |nil=>exact⟨t,q⟩
 |cons e es ih=>
  have dk:R8 (C6 nb e).1 x=some (true,U8 k e):=eE h hc e;rw[D8] at q;have go:∀{tp},br true (U8 k e) ⟨H,tp⟩ (λF1=>Ks (.W0 (C8 nb e)) F1) (λF1=>pD x (es.map (C6 nb)) F1 Kn Ks)->pD x ((e::es).map (C6 nb)) ⟨H,tp⟩ Kn Ks:=λz=>by
   show on (R8 (C6 nb e).1 x) 27 _;rw[dk];exact z
  induction hk:U8 k e using Q2 with
  |true=>rw[hk] at q;exact⟨true::t,go ⟨hk,q⟩⟩
  |false=>
   rw[hk] at q;refine O0 (ih q) λtp z=> ?_;exact⟨false::tp,go ⟨hk,z⟩⟩
theorem lK(nb:Bool)(e:Ent):V.T5 (C8 nb e)= .W0 (C8 nb e):=by induction nb using Q2<;>rfl
theorem B2.room{n:Nat}(hA:B2 A n):A.in1.units+50<cLine:=NH (by show A.units+1+50<=A.units+8*n+200;lia) hA.units
theorem KO{i:V}{v:Value}{p:Addr}{o:Obj}{es:List (Dt×V×V)}{x:Dt}{value slice:Expr}{Ze:St}{Ks:V->St->Prop}{Φ:Value->Shared->Prop}{n:Nat}(hA:B2 A n)(hs:pQ slice=false)(S:M0 w b cx σ.heap rs s.heap (s.os,s.gens))(hg:s.heap.get? p=some o)
 (ok:RR w b rs es o) (dx:G3 (λa o=>s.heap.get? a=some o) x v) (g:B8 x=true)
 (h:pD x es Ze (λ_=>No 39) Ks) (jY:∀a z F1 tk,F1.heap=Ze.heap->Ks a F1->E2 b rs a z->Φ z {s with toks:=tk}):wpAny (model E1 w) A (subscriptTail value slice (.ref p) v) Φ E s:=by
 have OA:es≠[]:=λe=>No.no (e▸h:pD x [] Ze (λ_=>No 39) Ks);rcases ok with ok|⟨D,d⟩
 .exact absurd ok.1 OA
 .refine u0 (d.at S hg) λxs hm tk=> ?_;refine O0 (mT g tk OA h) λk hk=> ?_;refine u0 (jT hk tk h) λF1 e' B0=> ?_;rcases B0 with z|⟨vv,pp,e1,e2,q⟩
  .exact No.no z.2
  .refine u0 (key_is hk dx g) λaa B0=> ?_;subst B0;intro pT
   letI:=D.dec
   exact tail_any hm.typeIs slot_dict_getitem.lookup (wpAny_getItem_heap (D.room hA.room) pT hm e1 (jY _ _ _ _ e' q e2)) (sub_eq hs _ _)
theorem wQ(h:YJ xs=some p)(x:V0 b rs xs vs)(hk:k<xs.length):∃z,vs[k]? =some z/\E2 b rs (.int true (p.2.getD k 0)) z:=by
 induction xs generalizing vs p k with
 |nil=>exact absurd hk (Nat.not_lt_zero _)
 |cons v xs ih=>
  refine U1 x λu r B0=> ?_;clear x;subst B0;intro x1 x2;exact u3 h λi e h=>B5 h λq e2 h=>by
   subst h;induction k using iB with
   |zero=>rw[VJ e] at x1;exact⟨u,rfl,x1⟩
   |succ k=>exact ih (p:=q) e2 x2 (Nat.lt_of_succ_lt_succ hk)
theorem rT(h:wk xs=some l)(x:V0 b rs xs vs)(hk:k<xs.length):∃z,vs[k]? =some z/\E2 b rs (.bytes true (l.getD k [])) z:=by
 induction xs generalizing vs l k with
 |nil=>exact absurd hk (Nat.not_lt_zero _)
 |cons v xs ih=>
  refine U1 x λu r B0=> ?_;clear x;subst B0;intro x1 x2;exact u3 h λi e h=>B5 h λq e2 h=>by
   subst h;induction k using iB with
   |zero=>rw[mQ e] at x1;exact⟨u,rfl,x1⟩
   |succ k=>exact ih (l:=q) e2 x2 (Nat.lt_of_succ_lt_succ hk)
theorem sT{Q:K1}{xs:List V}{vs:List Value}{k:Nat}{σ:St}(h:pick xs (k:Int) σ Q)(ok:V0 b rs xs vs)(hk:k<xs.length):∃z a F1,vs[k]? =some z/\F1.heap=σ.heap/\Q a F1/\E2 b rs a z:=by
 induction xs generalizing vs k σ with
 |nil=>exact No.no h
 |cons x r ih=>
  refine U1 ok λu q B0=> ?_;clear ok;subst B0;intro x1 x2;induction r using H5 with
  |nil=>
   obtain rfl:k=0:=Nat.lt_one_iff.mp hk;exact⟨u,x,σ,rfl,rfl,h,x1⟩
  |cons y r=>
   refine J3 (vD (show br true (decide ((k:Int)=0)) σ (λF1=>Q x F1) (λF1=>pick (y::r) ((k:Int) -1) F1 Q) from h)) λF1 e' y1 y2=> ?_;induction k using iB with
   |zero=>exact⟨u,x,F1,rfl,e',y1 rfl,x1⟩
   |succ k=>
    refine jO (ih (Int.add_sub_cancel (k:Int) 1▸y2 rfl) x2 (Nat.lt_of_succ_lt_succ hk)) λz a M1 z1 z2 z3 z4=> ?_;exact⟨z,a,M1,z1,z2.trans e',z3,z4⟩
theorem tT{Q:K1}{xs:List V}{vs:List Value}{n:Int}(h:Nb xs n σ Q)(ok:V0 b rs xs vs):∃k:Nat,n=(k:Int)/\k<xs.length/\∃z a F1,vs[k]? =some z/\F1.heap=σ.heap/\Q a F1/\E2 b rs a z:=by
 refine D0 h λB0=> ?_;clear h;refine D0 B0 λh0 h1=> ?_;clear B0;intro h;refine O0 (Int.eq_ofNat_of_zero_le h0) λk B0=> ?_;subst B0;have hk:k<xs.length:=Int.ofNat_lt.mp h1;refine⟨k,rfl,hk,K2 h (λp e h=> ?_) λh=>K2 h (λl e h=> ?_) λh=>sT h ok hk⟩
 .refine u0 (wQ e ok hk) λz z1 z2=> ?_;exact⟨z,_,σ,z1,rfl,h,z2⟩
 .refine u0 (rT e ok hk) λz z1 z2=> ?_;exact⟨z,_,σ,z1,rfl,h,z2⟩
theorem LO{l:Bool}{p:Addr}{vs:List Value}{n k:Nat}{t:Tok}{z:Value}{value slice:Expr}{Q:Value->Shared->Prop}(hs:pQ slice=false)(hg:s.heap.get? p=some (seqObj (ZX l) (List.toArray vs) n))(hl:k<=100000)(e:vs[k]? =some z)(q:Q z s):wpAny (model E1 w) A (subscriptTail value slice (.ref p) (.int (k:Int) t)) Q E s:=by
 have hk:k<vs.length:=(kQ.mp e).1;have lt:(k:Int)<2^63:=Int.ofNat_lt.mpr (NH hl (by decide));induction l using Q2 with
 |true=>exact tail_any (H4 hg).typeIs PySem.slot_list_getitem.lookup (getItem_listL (H4 hg) (Int.natCast_nonneg k) lt e q) (sub_eq hs _ _)
 |false=>
  refine item_tupleT (t:=p) (U6 hg) (Int.le_trans (by decide) (Int.natCast_nonneg k)) lt ?_ e q (sub_eq hs _ _);unfold seqIndex?;rw[if_neg (Int.not_lt.mpr (Int.natCast_nonneg k))];exact if_pos (by rw[decide_eq_true (Int.natCast_nonneg k),decide_eq_true (Int.ofNat_lt.mpr hk)];rfl)
theorem af{a i:V}{u v:Value}{value slice:Expr}{Q:K1}{n:Nat}(B:k3 w b)(hA:B2 A n)(hs:pQ slice=false)(S:M0 w b cx σ.heap rs s.heap (s.os,s.gens))(ou:E2 b rs a u)(ov:E2 b rs i v)
 (h:pe a i σ Q):wpAny (model E1 w) A (subscriptTail value slice u v) (PV w b cx rs Q) E s:=by
 refine K2 h (λp e h=> ?_) λh=>K2 h (λx e h=>E0 h λes he h=>E0 h λz hz h=> ?_) λh=>E0 h λx hx h=>K2 h (λes he h=>U3 h λg h=> ?_) λh=>E0 h λe he h=>E0 h λz hk h=> ?_
 .refine ov.int e λt=> ?_;refine K2 h (λq eq h=> ?_) λh=>U3 h λ_ h=>K2 h (λy ey h=>E0 h λk ek h=>U3 h λg h=>E0 h λc hc h=> ?_) λh=>E0 h λes he h=>E0 h λz hz h=> ?_
  .refine S.sq ou eq λp' vs nn hp ok=> ?_;refine G6 h (λ_ h=>U3 h λg h=> ?_) λ_ h=>E0 h λk ek h=>U3 h λg h=>E0 h λvv hv h=> ?_
   .obtain⟨k,ek,hk,z,a,F1,z1,z2,z3,z4⟩:=tT h ok;exact ek▸LO hs (S.inR hp) (V7 (Nat.le_of_lt hk) (v9 g)) z1 (.here z3 (z2▸S) (.refl rs) z4)
   .refine u0 (ok.get hv) λz e1 e2=> ?_;exact FE ek▸LO hs (S.inR hp) (v9 g) e1 (.here h S (.refl rs) e2)
  .refine ou.bytes ey λt'=> ?_;rw[U0] at hc;have Y8:=(kQ.mp hc).1;rw[FE ek];refine tail_any (typeIs_bytes s y.2.toArray t') FB.slot_bytes_getitem.lookup (getItem_bytes (V7 (v9 g) (by decide)) (Int.natCast_nonneg k) (Int.ofNat_lt.mpr Y8) ?_) (sub_eq hs _ _);refine .here (s':={s with toks:=s.toks+1}) h S (.refl rs) ⟨s.toks,?_⟩;show Value.int (((y.2.getD k 0).toNat:Nat):Int) _=_;rw[List.getD_eq_getElem?_getD,hc];rfl
  .refine S.dI ou he λp' o l4 hp hd ok=> ?_;refine u0 (fT ok hz) λu e1 e2=> ?_;have hm:=(Heap.dictOf_iff.mpr ⟨o,S.inR (.inr hp),hd⟩).mapOf;exact tail_any hm.typeIs slot_dict_getitem.lookup (wpAny_getItem_of (knd:=intKind E1 w) (k:=p.2) (by simp[intKind,Value.isInt]) hm e1 (.here (s':={s with toks:=s.toks+1}) h S (.refl rs) e2)) (sub_eq hs _ _)
 .rw[Tj e] at ov;refine O0 ov λt B0=> ?_;clear ov;subst B0;refine S.dS ou he λp' o l4 hp hd ok=> ?_;refine u0 (gT ok hz) λu e1 e2=> ?_;have hm:=(Heap.dictOf_iff.mpr ⟨o,S.inR (.inr hp),hd⟩).mapOf;exact tail_any hm.typeIs slot_dict_getitem.lookup (wpAny_getItem_of (knd:=PySem.strKind E1 w) (k:=x) (by simp[PySem.strKind,Value.isStrOf]) hm e1 (.here (s':={s with toks:=s.toks+1}) h S (.refl rs) e2)) (sub_eq hs _ _)
 .refine S.dT ou he λp' o hp ok=> ?_;exact KO (σ:=σ) (i:=i) hA hs S (S.inR (.inr hp)) ok (NA S _ hx ov) g h λa z F1 tk e' q o=> .here (s':={s with toks:=tk}) q (e'▸S) (.refl rs) o
 .refine S.dN ou he λp' o hp ok=> ?_;refine R2 h ?_;clear h;intro hc hf h;refine O0 (eO.mp hf) λen hn=> ?_;refine O0 (Ye (H:=σ.heap) (t:=[]) (Kn:=λ_=>No 39) (Ks:=λv _=>v= .W0 (C8 e.1 en)) hk hc (es:=e.2) (by rw[hn];rfl)) λtp dz=> ?_;rw[show W4 z.2 e.2=en by unfold W4;rw[hn];rfl,lK] at h;exact KO (σ:=σ) (i:=i) hA hs S (S.inR (.inr hp)) ok (NA S _ hx ov) (k7 hk) dz λa z F1 tk e' q o=> .here (s':={s with toks:=tk}) (q.symm▸h) S (.refl rs) (q▸o)
end
theorem tI(h:isStar e=false)(rest:List Expr)(env:Env):starEach (e::rest) env=(false,eval e env)::starEach rest env:=by
 induction e using PySem.Expr.casesOn<;>first|rfl|exact vG h
section
inductive Iv(w:World)(b:Heap)(cx:Cx)(rs:List RO)(Q:List V->St->Prop)(us:List Value)(s':Shared):Prop
 |mk (vs:List V) (σ:St) (rs':List RO) (q:Q vs σ) (S:M0 w b cx σ.heap rs' s'.heap (s'.os,s'.gens)) (x:Ext rs rs') (o:V0 b rs' vs us)
theorem AM(G1:Z4 w b n R)(hA:B2 A n)(pos:Pos)(h:nG R es sc fr σ Q)(S:M0 w b cx σ.heap rs s.heap (s.os,s.gens))(N:W3 b cx rs env sc fr):
 wpAny (model E1 w) A (spliced (backTo pos (starEach es env))) (λus s'=>us.length=es.length/\Iv w b cx rs Q us s') E s:=by
 induction es generalizing σ Q s rs with
 |nil=>exact wpAny_items_nil ⟨rfl,[],σ,rs,h,S,.refl rs,rfl⟩
 |cons e es ih=>
  refine U3 h λg h=>wpAny_items_cons (PV.go (G1 h hA S N) λu U2 v P0 r1 q S1 X1 o1=>wpAny_mono (ih q S1 (N.ext X1)) (λus y4 F6=> ?_) λ_ _ x=>x) (tI (XE g) _ _);obtain⟨l,vs,M1,r2,q2,S2,X2,o2⟩:=F6;exact⟨congrArg Nat.succ l,v::vs,M1,r2,q2,S2,X1.trans X2,V0.cons (o1.ext X2) o2⟩
theorem kH(h:k<=1000):k<=sizeLine:=by rw[sizeLine_eq];exact V7 (by assumption) (kB _ _)
theorem uT(G1:Z4 w b n R)(hA:B2 A n)(S:M0 w b cx σ.heap rs s.heap (s.os,s.gens))(N:W3 b cx rs env sc fr)
 (h:gd (Nat.ble es.length 1000) (nG R es sc fr σ λvs P0=>Q (.ref P0.new) (P0.push (.tup vs)))):wpAny (model E1 w) A (eval (.Tuple es k pos) env) (PV w b cx rs Q) E s:=by
 refine D0 (iH h) λg h=> ?_;refine wpAny_Tuple (wpAny_mono (AM G1 hA pos h S N) (λus U2 Y3=> ?_) λ_ _ x=>x);obtain⟨l,vs,P0,r1,q,S1,X1,o1⟩:=Y3;refine⟨kH (l▸v9 g),.from X1 (.DC (o:= .tup vs) (ob:=seqObj "tuple" us.toArray 0) S1 rfl ⟨_,us,0,rfl,o1.ext (Ext.push _ _)⟩ q)⟩
theorem kY(G1:Z4 w b n R)(hA:B2 A n)(S:M0 w b cx σ.heap rs s.heap (s.os,s.gens))(N:W3 b cx rs env sc fr)
 (h:gd (Nat.ble es.length 1000) (nG R es sc fr σ λvs P0=>Q (.ref P0.new) (P0.push (.lst vs)))):wpAny (model E1 w) A (eval (.List es pos) env) (PV w b cx rs Q) E s:=by
 refine D0 (iH h) λg h=> ?_;refine wpAny_List (wpAny_mono (AM G1 hA pos h S N) (λus U2 Y3=> ?_) λ_ _ x=>x);obtain⟨l,vs,P0,r1,q,S1,X1,o1⟩:=Y3;refine⟨kH (l▸v9 g),.from X1 (.DC (o:= .lst vs) (ob:=seqObj "list" us.toArray 0) S1 rfl ⟨_,us,0,rfl,o1.ext (Ext.push _ _)⟩ q)⟩
theorem vT(G1:Z4 w b n R)(hA:B2 A n)(S:M0 w b cx σ.heap rs s.heap (s.os,s.gens))(N:W3 b cx rs env sc fr)
 (h:R.ev l sc fr σ λa P0=>R.ev r sc fr P0 λc M1=>ke op a c M1 Q):wpAny (model E1 w) A (eval (.BinOp l op r pos) env) (PV w b cx rs Q) E s:=by
 refine u0 N.loc λm hL _=> ?_;refine wpAny_BinOp (PV.go (G1 h hA S N) λu U2 a P0 r1 q1 S1 X1 o1=> ?_);refine PV.go (G1 q1 hA S1 (N.ext X1)) λv y4 c M1 r2 q2 S2 X2 o2=> ?_;exact a7 (X1.trans X2) (Ie S2 hL N.above (o1.ext X2) o2 q2)
theorem BM(B:k3 w b)(G1:Z4 w b n R)(hA:B2 A n)(S:M0 w b cx σ.heap rs s.heap (s.os,s.gens))(N:W3 b cx rs env sc fr)(hm:behindInMarks op r=false)
 (h:R.ev l sc fr σ λa P0=>R.ev r sc fr P0 λc M1=>T8 op a c M1 Q):wpAny (model E1 w) A (eval (.Compare l [op] [r] pos) env) (PV w b cx rs Q) E s:=by
 refine wpAny_Compare1 (PV.go (G1 h hA S N) λu U2 a P0 r1 q1 S1 X1 o1=> ?_) hm;refine PV.go (G1 q1 hA S1 (N.ext X1)) λv y4 c M1 r2 q2 S2 X2 o2=> ?_;exact a7 (X1.trans X2) (lI B hA S2 (o1.ext X2) o2 q2)
theorem uI(B:k3 w b)(G1:Z4 w b n R)(hA:B2 A n)(S:M0 w b cx σ.heap rs s.heap (s.os,s.gens))(N:W3 b cx rs env sc fr)(hs:pQ i=false)
 (h:R.ev o sc fr σ λa P0=>R.ev i sc fr P0 λc M1=>pe a c M1 Q):wpAny (model E1 w) A (eval (.Subscript o i pos) env) (PV w b cx rs Q) E s:=by
 refine Subscript_ (PV.go (G1 h hA S N) λu U2 a P0 r1 q1 S1 X1 o1=> ?_);refine PV.go (G1 q1 hA S1 (N.ext X1)) λv y4 c M1 r2 q2 S2 X2 o2=> ?_;exact a7 (X1.trans X2) (af B hA hs S2 (o1.ext X2) o2 q2)
theorem xT(S:M0 w b cx σ.heap rs s.heap (s.os,s.gens))
 (h:on (Sk c) 106 λv=>Q v σ):wpAny (model E1 w) A (eval (.Constant c k pos) env) (PV w b cx rs Q) E s:=by
 induction c using Const.casesOn with
 |int i=>exact wpAny_Constant_int (.here (s':={s with toks:=s.toks+1}) h S (.refl rs) ⟨_,rfl⟩)
 |str x=>exact wpAny_Constant_str (.here (s':={s with toks:=s.toks+1}) h S (.refl rs) ⟨_,rfl⟩)
 |bytes z=>exact Constant_bytes (.here (s':={s with toks:=s.toks+1}) h S (.refl rs) ⟨_,rfl⟩)
 |none=>exact wpAny_Constant_none (.here h S (.refl rs) rfl)
 |bool z=>exact wpAny_Constant_bool (.here h S (.refl rs) rfl)
 |_=>exact No.no h
end
theorem MO(h:ME o=true):attributeBase o attr env whole=whole:=by
 induction o using PySem.Expr.casesOn with
 |Call f as ks p=>
  induction as using H5 with
  |cons _ _=>clear h;induction f using PySem.Expr.casesOn<;>rfl
  |nil=>induction ks using H5 with
   |cons _ _=>clear h;induction f using PySem.Expr.casesOn<;>rfl
   |nil=>induction f using PySem.Expr.casesOn<;>first|rfl|exact G2 h
 |_=>rfl
section
theorem vI(B:k3 w b)(G1:Z4 w b n R)(hA:B2 A n)(S:M0 w b cx σ.heap rs s.heap (s.os,s.gens))(N:W3 b cx rs env sc fr)
 (hp:ME o=true) (h:R.ev o sc fr σ λa P0=>vS a x P0 Q):wpAny (model E1 w) A (eval (.Attribute o x pos) env) (PV w b cx rs Q) E s:=by
 refine u0 N.loc λm hL _=> ?_;show wpAny _ _ (do let o'<-attributeBase o x env (eval o env);standAt pos.atName;let r<-holding [o'] (getAttr o' x true);letTemporaryGo o o' r;pure r) _ _ _;rw[MO hp];refine wpAny_bind (PV.go (G1 h hA S N) λu U2 a P0 r1 q1 S1 X1 o1=> ?_);refine wpAny_bind (wpAny_standAt (wpAny_bind (wpAny_holding (wpAny_mono (gY B S1 hL N.above o1 q1) (λr y4 F6=> ?_) λ_ _ x=>x))));exact wpAny_bind (wpAny_letTemporaryGo (wpAny_pure (.from X1 F6)))
inductive PT(w:World)(b:Heap)(cx:Cx)(rs:List RO)(Kt Kf:St->Prop)(r:Bool)(s':Shared):Prop
 |mk (σ:St) (rs':List RO) (q:if r then Kt σ else Kf σ) (S:M0 w b cx σ.heap rs' s'.heap (s'.os,s'.gens)) (x:Ext rs rs')
theorem PT.from(x:Ext rs rs')(h:PT w b cx rs' Kt Kf r s'):PT w b cx rs Kt Kf r s':=let⟨σ,r2,q,S,y⟩:=h;⟨σ,r2,q,S,x.trans y⟩
theorem PT.go(h:wpAny (model E1 w) A p (PT w b cx rs Kt Kf) E s)(k:∀r s' σ r1,(if r then Kt σ else Kf σ)->M0 w b cx σ.heap r1 s'.heap (s'.os,s'.gens)->Ext rs r1->Φ r s'):wpAny (model E1 w) A p Φ E s:=wpAny_mono h (λr s' z=>by cases z with|mk σ r1 q S x=>exact k r s' σ r1 q S x) λ_ _ x=>x
theorem BB(X:Ext rs r1)(h:wpAny (model E1 w) A p (PT w b cx r1 Kt Kf) E s):wpAny (model E1 w) A p (PT w b cx rs Kt Kf) E s:=wpAny_mono h (λ_ _ z=> .from X z) λ_ _ x=>x
theorem PA(S:M0 w b cx σ.heap rs s.heap (s.os,s.gens))(ou:E2 b rs v u)(h:I6 v σ Kt Kf):wpAny (model E1 w) A (truthy u) (PT w b cx rs Kt Kf) E s:=
 We ou h λr F1 e k1 k2=>⟨F1,rs,by induction r using Q2;exact k2 rfl;exact k1 rfl,e▸S,.refl rs⟩
theorem bA(G1:Z4 w b n R)(hA:B2 A n)(S:M0 w b cx σ.heap rs s.heap (s.os,s.gens))(N:W3 b cx rs env sc fr)(he:isTrue e env (eval e env)=(do let v<-eval e env;standAt e.pos;holding [v] (truthy v)))
 (h:R.ev e sc fr σ λv P0=>I6 v P0 Kt Kf):wpAny (model E1 w) A (isTrue e env (eval e env)) (PT w b cx rs Kt Kf) E s:=by
 refine wpAny_isTrue_value (PV.go (G1 h hA S N) λu U2 a P0 r1 q1 S1 X1 o1=> ?_) he;exact BB X1 (PA S1 o1 q1)
noncomputable def NO(w:World)(b:Heap)(A:Around)(E:Value->Shared->Prop)(cx:Cx)(env:Env)(sc:Scope)(fr:J2)(T:Expr->Scope->J2->St->(St->Prop)->(St->Prop)->Prop):Prop:=
 ∀{e:Expr}{σ:St}{Kt Kf:St->Prop}{s:Shared}{rs:List RO},T e sc fr σ Kt Kf->M0 w b cx σ.heap rs s.heap (s.os,s.gens)->W3 b cx rs env sc fr->wpAny (model E1 w) A (isTrue e env (eval e env)) (PT w b cx rs Kt Kf) E s
theorem lY(yT:NO w b A E cx env sc fr T)(h:Rb T op sc fr xs σ Kt Kf)(S:M0 w b cx σ.heap rs s.heap (s.os,s.gens))(N:W3 b cx rs env sc fr):wpAny (model E1 w) A (allTrue op xs env) (PT w b cx rs Kt Kf) E s:=by
 induction xs generalizing σ s rs with
 |nil=>
  cases op with
  |And=>exact wpAny_allTrue_And_nil ⟨σ,rs,h,S,.refl rs⟩
  |Or=>exact wpAny_allTrue_Or_nil ⟨σ,rs,h,S,.refl rs⟩
 |cons x xs ih=>
  cases op with
  |And=>
   refine wpAny_allTrue_And_cons (PT.go (yT h S N) λr U2 P0 r1 q1 S1 X1=> ?_);induction r using Q2 with
   |true=>exact BB X1 (ih q1 S1 (N.ext X1))
   |false=>exact⟨P0,r1,q1,S1,X1⟩
  |Or=>
   refine wpAny_allTrue_Or_cons (PT.go (yT h S N) λr U2 P0 r1 q1 S1 X1=> ?_);induction r using Q2 with
   |false=>exact BB X1 (ih q1 S1 (N.ext X1))
   |true=>exact⟨P0,r1,q1,S1,X1⟩
theorem mY(B:k3 w b)(G1:Z4 w b n R)(hA:B2 A n)(yT:NO w b A E cx env sc fr T):NO w b A E cx env sc fr (Qk R T):=by
 intro e σ Kt Kf s rs h S N;induction e using PySem.Expr.casesOn with
 |UnaryOp op x p=>
  cases op with
  |Not=>exact isTrue_not (PT.go (yT h S N) λr U2 P0 r1 q1 S1 X1=>⟨P0,r1,by induction r using Q2<;>exact q1,S1,X1⟩)
  |_=>exact No.no h
 |BoolOp op xs p=>exact wpAny_isTrue_BoolOp (lY yT h S N)
 |Compare l os rr p=>
  refine K2 h (λo eo h=>E0 h λr er h=>U3 h λg h=> ?_) λh=>E0 h λo eo h=>E0 h λr er h=>U3 h λg h=> ?_
  .rw[J7 eo,J7 er];refine isTrue_chain (rs:=[]) (ops:=[]) (PV.go (G1 h hA S N) λu U2 a P0 r1 q1 S1 X1 p1=> ?_) (XE g);refine test_link (PV.go (G1 q1 hA S1 (N.ext X1)) λv y4 c M1 r2 q2 S2 X2 p2=> ?_);refine PV.go (lI B hA S2 (p1.ext X2) p2 q2) λz P7 d v5 r3 q3 S3 X3 p3=> ?_;refine PT.go (PA S3 p3 q3) λt CM vC r4 q4 S4 X4=> ?_;have X:=((X1.trans X2).trans X3).trans X4;induction t using Q2 with
   |false=>exact⟨vC,r4,q4,S4,X⟩
   |true=>
    refine test_last (PV.go (G1 q4 hA S4 (N.ext X)) λv bf f KX r5 q5 S5 X5 p5=> ?_);refine PV.go (lI B hA S5 (p2.ext ((X3.trans X4).trans X5)) p5 q5) λz s₆ gg LX r6 q6 S6 X6 p6=> ?_;exact BB ((X.trans X5).trans X6) (PA S6 p6 q6)
  .rw[A8 eo,A8 er];refine wpAny_isTrue_Compare1 (PV.go (G1 h hA S N) λu U2 a P0 r1 q1 S1 X1 o1=> ?_) (XE g);refine PV.go (G1 q1 hA S1 (N.ext X1)) λv y4 c M1 r2 q2 S2 X2 o2=> ?_;refine PV.go (lI B hA S2 (o1.ext X2) o2 q2) λz P7 d v5 r3 q3 S3 X3 o3=> ?_;exact BB ((X1.trans X2).trans X3) (PA S3 o3 q3)
 |Name=>exact bA G1 hA S N rfl h
 |Attribute=>exact bA G1 hA S N rfl h
 |Subscript=>exact bA G1 hA S N rfl h
 |Call=>exact bA G1 hA S N rfl h
 |Constant c k p=>
  refine E0 h λz e h=> ?_;cases c with
  |bool q=>
   refine wpAny_isTrue_value (wpAny_Constant_bool (wpAny_truthy_bool ⟨σ,rs,?_,S,.refl rs⟩)) rfl;obtain rfl:=si e;induction q using Q2<;>exact h
  |_=>exact A0 e
 |_=>exact No.no h
theorem wI(B:k3 w b)(G1:Z4 w b n R)(hA:B2 A n)(k:Nat):NO w b A E cx env sc fr (OR R k):=by
 induction k with
 |zero=>intro e σ Kt Kf s rs h;exact No.no h
 |succ k ih=>exact mY B G1 hA ih
theorem zT(G1:Z4 w b n R)(hA:B2 A n)(S:M0 w b cx σ.heap rs s.heap (s.os,s.gens))(N:W3 b cx rs env sc fr)
 (h:Az R op x sc fr σ Q):wpAny (model E1 w) A (eval (.UnaryOp op x pos) env) (PV w b cx rs Q) E s:=by
 induction op using UnaryOp.casesOn
 .exact No.no h
 .refine wpAny_UnaryOp (wpAny_mono (G1 h hA S N) (λu U2 Y3=>not_of ?_) λ_ _ x=>x);obtain⟨a,P0,r1,q1,S1,X1,o1⟩:=Y3;refine PT.go (PA S1 o1 q1) λr y4 M1 r2 q2 S2 X2=> ?_;induction r using Q2 with
  |true=>exact .here q2 S2 (X1.trans X2) rfl
  |false=>exact .here q2 S2 (X1.trans X2) rfl
 .exact No.no h
 .refine wpAny_UnaryOp (PV.go (G1 h hA S N) λu U2 a P0 r1 q1 S1 X1 o1=> ?_);refine E0 q1 λp e q1=> ?_;rw[VJ e] at o1;exact O0 o1 λt B0=>B0▸PyProof.Rows.neg_int (.here (s':={U2 with toks:=U2.toks+1}) q1 S1 X1 ⟨_,rfl⟩)
theorem cf(G1:Z4 w b n R)(hA:B2 A n)(S:M0 w b cx σ.heap rs s.heap (s.os,s.gens))(N:W3 b cx rs env sc fr)
 (h:R.ev x sc fr σ λv P0=>I6 v P0 (λM1=>Q v M1) (λM1=>R.ev y sc fr M1 Q)):wpAny (model E1 w) A (eval (.BoolOp .Or [x,y] pos) env) (PV w b cx rs Q) E s:=by
 refine wpAny_Or2 (PV.go (G1 h hA S N) λu U2 a P0 r1 q1 S1 X1 o1=> ?_);refine PT.go (PA S1 o1 q1) λr y4 M1 r2 q2 S2 X2=> ?_;induction r using Q2 with
 |true=>exact .here q2 S2 (X1.trans X2) (o1.ext X2)
 |false=>exact a7 (X1.trans X2) (G1 q2 hA S2 (N.ext (X1.trans X2)))
theorem nY(G1:Z4 w b n R)(hA:B2 A n)(S:M0 w b cx σ.heap rs s.heap (s.os,s.gens))(N:W3 b cx rs env sc fr)
 (h:R.ev x sc fr σ λv P0=>I6 v P0 (λM1=>R.ev y sc fr M1 Q) (λM1=>Q v M1)):wpAny (model E1 w) A (eval (.BoolOp .And [x,y] pos) env) (PV w b cx rs Q) E s:=by
 refine wpAny_And2 (PV.go (G1 h hA S N) λu U2 a P0 r1 q1 S1 X1 o1=> ?_);refine PT.go (PA S1 o1 q1) λr y4 M1 r2 q2 S2 X2=> ?_;induction r using Q2 with
 |false=>exact .here q2 S2 (X1.trans X2) (o1.ext X2)
 |true=>exact a7 (X1.trans X2) (G1 q2 hA S2 (N.ext (X1.trans X2)))
theorem CT(B:k3 w b)(G1:Z4 w b n R)(hA:B2 A n)(S:M0 w b cx σ.heap rs s.heap (s.os,s.gens))(N:W3 b cx rs env sc fr)
 (h:OR R k t sc fr σ (λP0=>R.ev x sc fr P0 Q) (λP0=>R.ev y sc fr P0 Q)):wpAny (model E1 w) A (eval (.IfExp t x y pos) env) (PV w b cx rs Q) E s:=by
 refine wpAny_IfExp (PT.go (wI B G1 hA k h S N) λr U2 P0 r1 q1 S1 X1=> ?_);induction r using Q2 with
 |true=>exact a7 X1 (G1 q1 hA S1 (N.ext X1))
 |false=>exact a7 X1 (G1 q1 hA S1 (N.ext X1))
end
theorem OO(h:se d o=some k):o=some (k:Int)\/(o=none/\k=d):=by
 induction o using opQ with
 |none=>exact .inr ⟨rfl,(si h).symm⟩
 |some i=>exact .inl (congrArg some (FE h))
inductive FC(n a c:Nat):Option Int->Option Int->Prop
 |run (h1:a<=c) (h2:c<=n):FC n a c (some (a:Int)) (some (c:Int))
 |from(h1:a<=c) (h2:c=n):FC n a c (some (a:Int)) none
 |df (h1:a=0) (h2:c<=n):FC n a c none (some (c:Int))
theorem QO{n:Nat}{p:Nat×Nat}{lo hi:Option Int}(h:part n lo hi=some p):n<=100000/\FC n p.1 p.2 lo hi:=A4 h λg h=>u3 h λa ea h=>u3 h λc ec h=>A4 h λg2 h=>by
 obtain rfl:=si h;refine R1 g λg1 g0=>R1 g2 λg2 g3=>⟨v9 g1,?_⟩;have l2:=v9 g2;have l3:=v9 g3;rcases OO ea with rfl|⟨rfl,rfl⟩<;>rcases OO ec with rfl|⟨rfl,rfl⟩
 .exact .run l2 l3
 .exact .from l2 rfl
 .exact .df rfl l3
 .exact G2 g0
theorem oY{vs:List Value}{a c:Nat}{lo hi:Option Int}(h:FC vs.length a c lo hi):slicePick vs.toArray lo hi none=(cut vs a c).toArray:=by
 cases h with
 |run h1 h2=>rw[slicePick_run _ _ _ (by simpa using h2) h1];rfl
 |«from» h1 h2=>
  rw[slicePick_from _ _ (by simpa using h2▸h1)];unfold cut;rw[List.take_of_length_le (by simp[h2])]
 |df h1 h2=>rw[slicePick_upto _ _ (by simpa using h2),h1];rfl
theorem CB(h:k<=n):clipAt n (k:Int)=k:=by rw[clipAt_nat];exact Nat.min_eq_left h
theorem DT{bs:List UInt8}{a c:Nat}{lo hi:Option Int}(h:FC bs.length a c lo hi):KBy.picked bs.toArray lo hi=(cut bs a c).toArray:=by
 rw[picked_eq];cases h with
 |run h1 h2=>simp only[Option.elim,List.size_toArray,CB h2,CB (V7 h1 h2)];rfl
 |«from» h1 h2=>subst h2;simp only[Option.elim,List.size_toArray,CB h1];rfl
 |df h1 h2=>subst h1;simp only[Option.elim,List.size_toArray,CB h2];rfl
theorem V0.cut(a c:Nat)(h:V0 b rs xs vs):V0 b rs (Mine.Internal.cut xs a c) (Mine.Internal.cut vs a c):=V0.take _ (V0.drop _ h)
section
theorem E9(h:k<=100000):k<=sizeLine:=V7 h (by rw[sizeLine_eq];decide)
inductive ff(w:World)(b:Heap)(A:Around)(E:Value->Shared->Prop)(cx:Cx)(rs:List RO)(Q:K1)(s:Shared)(u sl:Value):Prop
 |mk (T:String) (id:String) (t:s.TypeIs u T) (l:typeLookup (.type T) "__getitem__"=pure (some (.builtin id))) (h:wpAny (model E1 w) A (getItem u sl) (PV w b cx rs Q) E s)
theorem ET{a:V}{u l h:Value}{lo hi:Option Int}{sl:Addr}{Q:K1}(S:M0 w b cx σ.heap rs s.heap (s.os,s.gens))(ou:E2 b rs a u)(hs:s.heap.IsSliceOf sl l h .none)(pl:IsPart l lo)(ph:IsPart h hi)
 (q:tM a lo hi σ Q):ff w b A E cx rs Q s u (.ref sl):=by
 refine K2 q (λy e q=>E0 q λp hp q=> ?_) λq=>E0 q λx e q=> ?_
 .refine ou.bytes e λt=> ?_;refine D0 (QO hp) λhl hp=> ?_;refine⟨_,_,typeIs_bytes s y.2.toArray t,FB.slot_bytes_getitem.lookup,getItem_meets (typeIs_bytes _ _ _) (by decide) FB.slot_bytes_getitem FB.entry_bytes_getitem (FB.args_bytes_getitem_2 _ _) (meets_slice2 y.2.toArray t sl pl ph) ⟨hs,V7 (size_picked_le _ _ _) (E9 hl),λt' k=> ?_⟩⟩;rw[DT hp];exact .here (s':={s with toks:=k}) q S (.refl rs) ⟨t',rfl⟩
 .refine S.sq ou e λp vs nn hg ok=> ?_;obtain⟨c,xs⟩:=x;induction c using Q2 with
  |true=>
   refine E0 (show on (part xs.length lo hi) 44 _ from q) λpp hp q=> ?_;have hl:=H4 (S.inR hg);rw[<-ok.length] at hp;refine D0 (QO hp) λhn hp=> ?_;refine⟨_,_,hl.typeIs,PySem.slot_list_getitem.lookup,wpAny_getItem_list_slice hl hs pl ph .none (by simp) ?_ (E9 hn)⟩;rw[oY hp];exact .DC (o:= .lst (cut xs pp.1 pp.2)) (ob:=seqObj "list" (List.toArray (cut vs pp.1 pp.2)) 0) S rfl ⟨_,_,0,rfl,(ok.cut _ _).ext (Ext.push _ _)⟩ q
  |false=>
   refine E0 (show on (lo.bind qM) 45 _ from q) λk hk q=>u3 hk λi ei hk=>wG q λg g2 qq=>R1 g λg0 g1=>R1 g2 λg2 g3=> ?_;rw[<-ok.length] at g2 g3;obtain rfl:=Option.isNone_iff_eq_none.mp g1;obtain rfl:=ei;obtain rfl:=FE hk;cases pl with
   |int _ t=>
    cases ph
    have ht:IsTup s.heap p vs.toArray:=U6 (S.inR hg);exact⟨_,_,ht.typeIs,slot_tuple_getitem.lookup,getItem_tuple_from (a:=k) (u:=t) ht hs (v9 g0) (v9 g2) (.DC (o:= .tup (xs.drop k)) (ob:=seqObj "tuple" (List.toArray (vs.drop k)) 0) S rfl ⟨_,_,0,rfl,(ok.drop k).ext (Ext.push _ _)⟩ qq) (E9 (v9 g3))⟩
end
section
variable{w:World}{b:Heap}{n:Nat}{R:Rec}{A:Around}{E:Value->Shared->Prop}{s:Shared}{cx:Cx}{rs:List RO}{env:Env}{sc:Scope}{fr:J2}{σ:St}
inductive PP(w:World)(b:Heap)(cx:Cx)(rs:List RO)(Q:Option Int->St->Prop)(v:Value)(s':Shared):Prop
 |mk (i:Option Int) (σ:St) (rs':List RO) (q:Q i σ) (S:M0 w b cx σ.heap rs' s'.heap (s'.os,s'.gens)) (x:Ext rs rs') (p:IsPart v i)
theorem HT(G1:Z4 w b n R)(hA:B2 A n)(S:M0 w b cx σ.heap rs s.heap (s.os,s.gens))(N:W3 b cx rs env sc fr)(h:opt R e sc fr σ Q):wpAny (model E1 w) A (evalPart e env) (PP w b cx rs Q) E s:=by
 induction e using opQ with
 |none=>exact wpAny_pure ⟨none,σ,rs,h,S,.refl rs,.none⟩
 |some e=>
  rw[evalPart_some];refine PV.go (G1 h hA S N) λu U2 a P0 r1 q1 S1 X1 o1=>E0 q1 λp e q=> ?_;refine o1.int e λt=> ?_;exact⟨_,P0,r1,q,S1,X1,.int _ _⟩
theorem DM(G1:Z4 w b n R)(hA:B2 A n)(S:M0 w b cx σ.heap rs s.heap (s.os,s.gens))(N:W3 b cx rs env sc fr){o:Expr}{lo hi:Option Expr}{p pos:Pos}{Q:K1}
 (h:R.ev o sc fr σ λv P0=>opt R lo sc fr P0 λl M1=>opt R hi sc fr M1 λh v5=>tM v l h v5 Q):wpAny (model E1 w) A (eval (.Subscript o (.Slice lo hi none p) pos) env) (PV w b cx rs Q) E s:=by
 refine Subscript_ (PV.go (G1 h hA S N) λu U2 a P0 r1 q1 S1 X1 o1=> ?_);refine wpAny_Slice (wpAny_mono (HT G1 hA S1 (N.ext X1) q1) (λlv y4 F6=> ?_) λ_ _ x=>x);obtain⟨l,M1,r2,q2,S2,X2,p2⟩:=F6;refine wpAny_mono (HT G1 hA S2 (N.ext (X1.trans X2)) q2) (λhv P7 mK=> ?_) λ_ _ x=>x;obtain⟨hh,v5,r3,q3,S3,X3,p3⟩:=mK;rw[evalPart_none _];refine wpAny_pure ?_;have S4:M0 w b cx v5.heap r3 (P7.heap.push {cls:= .type "slice",data:= .fields #[lv,hv,.none]}) (P7.os,P7.gens):=S3.grown (λa o e=>Heap.get?_push_of_some _ e) (by rw[Heap.size_push];exact Nat.le_succ _);have X:=(X1.trans X2).trans X3;obtain⟨T,id,hT,hl,hg⟩:=ET (A:=A) (E:=E) (s:={P7 with heap:=P7.heap.push {cls:= .type "slice",data:= .fields #[lv,hv,.none]}}) S4 (o1.ext (X2.trans X3)) (Heap.IsSliceOf.new P7.heap lv hv .none) p2 p3 q3;exact tail_any hT hl (a7 X hg) (ops:=[.ref P7.heap.objs.size,u]) rfl
noncomputable def vl(b:Heap)(rs:List RO):Fl->Flow->Prop
 | .next,.next=>True
 | .brk,.brk=>True
 | .cont,.cont=>True
 | .ret v,.ret u=>E2 b rs v u
 |_,_=>False
noncomputable def Cx.put(cx:Cx)(L:Addr)(m:Str->Option Value):Cx:=⟨(L,m)::cx.fs,cx.os,cx.og⟩
structure o4(b:Heap)(rs:List RO)(env:Env)(sc:Scope)(fr:J2)(m:Str->Option Value):Prop where
 fn:env.scope.kind= .function
 names:∀x k,lk x sc.names=some k->env.kindOf x=some k/\(x==("__debug__":Str))=false/\(x==("__classdict__":Str))=false
 glob:env.globals=mainGlobals
 blt:env.builtins=builtinsNs
 above:b.objs.size<=env.locals
 loc:bK b rs fr.loc m
 O3:D9 rs fr.O3 env.cells
theorem o4.ok{m:Str->Option Value}(N:o4 b rs env sc fr m):W3 b (cx.put env.locals m) rs env sc fr:=⟨N.fn,N.names,N.glob,N.blt,N.above,⟨m,M3,N.loc⟩,N.O3⟩
theorem o4.ext(x:Ext rs rs')(N:o4 b rs env sc fr m):o4 b rs' env sc fr m:=⟨N.fn,N.names,N.glob,N.blt,N.above,N.loc.ext x,N.O3.ext x⟩
inductive PS(w:World)(b:Heap)(cx:Cx)(env:Env)(sc:Scope)(rs:List RO)(K:KS)(f:Flow)(s':Shared):Prop
 |mk (g:Fl) (fr:J2) (σ:St) (rs':List RO) (m:Str->Option Value) (q:K g fr σ) (S:M0 w b (cx.put env.locals m) σ.heap rs' s'.heap (s'.os,s'.gens)) (N:o4 b rs' env sc fr m) (x:Ext rs rs') (o:vl b rs' g f)
noncomputable def xI(w:World)(b:Heap)(n:Nat)(R:Rec):Prop:=∀{l:List Stmt}{sc:Scope}{fr:J2}{σ:St}{K:KS},R.ex l sc fr σ K->
 ∀{A:Around}{E:Value->Shared->Prop}{s:Shared}{cx:Cx}{rs:List RO}{env:Env}{m:Str->Option Value},B2 A n->M0 w b (cx.put env.locals m) σ.heap rs s.heap (s.os,s.gens)->o4 b rs env sc fr m->
  wpAny (model E1 w) A (execs l env) (PS w b cx env sc rs K) E s
theorem PS.from{K:KS}{f:Flow}{s':Shared}{rs':List RO}(x:Ext rs rs')(h:PS w b cx env sc rs' K f s'):PS w b cx env sc rs K f s':=let⟨g,fr,σ,r2,m,q,S,N,y,o⟩:=h;⟨g,fr,σ,r2,m,q,S,N,x.trans y,o⟩
inductive PF(w:World)(b:Heap)(cx:Cx)(env:Env)(sc:Scope)(rs:List RO)(K:J2->St->Prop)(s':Shared):Prop
 |mk (fr:J2) (σ:St) (rs':List RO) (m:Str->Option Value) (q:K fr σ) (S:M0 w b (cx.put env.locals m) σ.heap rs' s'.heap (s'.os,s'.gens)) (N:o4 b rs' env sc fr m) (x:Ext rs rs')
theorem M0.xl{h h':Heap}{H:List n0}{L:Addr}{m m':Str->Option Value}(S:M0 w b (cx.put L m) H rs h og)(hn:h'.Ns L m')(hs:Heap.SameBut L h h'):M0 w b (cx.put L m') H rs h' og:=by
 have nd:=S.nd;have hb:=(S.ns (L,m) M3).2;have Gz:=(H7.mp (show(L::(cx.fs.map (·.1)++(cx.os++led rs).map (·.1))).Nodup from nd)).1;refine⟨λa o e=>(hs.2 a λq=>by rw[q,hb] at e;exact A0 e).trans (S.keep a o e),λp hp=> ?_,λp hp=> ?_,nd,S.len,by rw[hs.1];exact S.big,S.tab,S.ok⟩
 .rcases M4.mp hp with rfl|hp
  .exact⟨hn,hb⟩
  .have:=S.ns p (a5 _ hp);exact⟨this.1.sameBut hs λq=>Gz (o7 _ (q▸d5 hp)),this.2⟩
 .have:=S.at_ p hp;exact⟨(hs.2 p.1 λq=>Gz (u5 _ (q▸d5 hp))).trans this.1,this.2⟩
theorem PS.go{K:KS}{p:Sem Flow}{Φ:Flow->Shared->Prop}(h:wpAny (model E1 w) A p (PS w b cx env sc rs K) E s)(k:∀f s' g fr σ r m,K g fr σ->M0 w b (cx.put env.locals m) σ.heap r s'.heap (s'.os,s'.gens)->o4 b r env sc fr m->Ext rs r->vl b r g f->Φ f s'):wpAny (model E1 w) A p Φ E s:=wpAny_mono h (λf s' z=>by cases z with|mk g fr σ r m q S N x o=>exact k f s' g fr σ r m q S N x o) λ_ _ x=>x
theorem PF.go{K:J2->St->Prop}{p:Sem Unit}{Φ:Unit->Shared->Prop}(h:wpAny (model E1 w) A p (λ_ s'=>PF w b cx env sc rs K s') E s)(k:∀u s' fr σ r m,K fr σ->M0 w b (cx.put env.locals m) σ.heap r s'.heap (s'.os,s'.gens)->o4 b r env sc fr m->Ext rs r->Φ u s'):wpAny (model E1 w) A p Φ E s:=wpAny_mono h (λu s' z=>by cases z with|mk fr σ r m q S N x=>exact k u s' fr σ r m q S N x) λ_ _ x=>x
theorem cc(h:x≠y):sq x y=false:=by
 induction e:sq x y using Q2 with
 |false=>rfl
 |true=>exact absurd (x6 e) h
theorem EM:lk y (put x v l)=if y=x then some v else lk y l:=by
 induction l with
 |nil=>
  rw[fO,d3,oM];by_cases e:y=x
  .rw[if_pos e,e,b7 _]
  .rw[if_neg e,cc (Ne.symm e)]
 |cons p l ih=>
  rw[lB,d3];induction h:sq p.1 x using Q2 with
  |true=>
   show lk y ((p.1,v)::l)=_;rw[d3,x6 h];by_cases e:y=x
   .rw[if_pos e,e,b7 _]
   .rw[if_neg e,cc (Ne.symm e)]
  |false=>
   show lk y (p::put x v l)=_;rw[d3,ih];by_cases e:y=x
   .rw[if_pos e,if_pos e,e,h]
   .rw[if_neg e,if_neg e]
theorem pY(e:o.data= .cell c):¬IsT o:=λh=>by obtain⟨_,_,_,q⟩:=h;exact nomatch e.symm.trans q
theorem nK{K:J2->St->Prop}{x:Str}{v:V}{u:Value}{m:Str->Option Value}(S:M0 w b (cx.put env.locals m) σ.heap rs s.heap (s.os,s.gens))(N:o4 b rs env sc fr m)(ov:E2 b rs v u)(h:JE x v sc fr σ K):
 wpAny (model E1 w) A (storeName env x u) (λ_ s'=>PF w b cx env sc rs K s') E s:=by
 refine E0 h λk hk h=> ?_;have hx:=(N.names _ _ hk).1;induction k using PySem.NameKind.casesOn with
 |«local»=>
  refine wpAny_storeName_local hx (S.ns (env.locals,m) M3).1 (λh' hn hs=>⟨_,σ,rs,_,h,S.xl hn hs,⟨N.fn,N.names,N.glob,N.blt,N.above,λy a e=> ?_,N.O3⟩,.refl rs⟩) (by rw[N.fn];rfl);rw[EM] at e;by_cases q:y=x
  .rw[if_pos q] at e;exact⟨u,by simp[q],si e▸ov⟩
  .rw[if_neg q] at e;refine u0 (N.loc y a e) λz e1 e2=> ?_;exact⟨z,by simpa[q] using e1,e2⟩
 |cell=>
  refine E0 h λi hi h=>E0 h λv0 hv h=>u3 hv λob ho hv=> ?_;rw[Kk hv] at ho;refine u0 (N.O3 _ _ hi) λa ha LS=> ?_;obtain⟨r,hr,a',o,c,rfl,xB,ok⟩:=S.ref ho;obtain rfl:a'=a:=by unfold adr at LS;rw[hr] at LS;exact si LS
  refine wpAny_storeName_cell N.fn hx ha ⟨o,S.one hr,xB⟩ λh' lH hs=> ?_;refine u0 lH λo' fE hd2=> ?_;clear lH;have nT:∀p∈(RO.one a' o).led,¬IsT p.2:=λp hp=>l9.mp hp▸pY xB;have X:=Ext.upd (r':= .one a' o') hr rfl nT;have:=S.upd (h':=h') (o:= .cell (some v)) (r':= .one a' o') hr rfl rfl nT (λz oz hz e=>(hs.2 z λq=>hz (l9.mpr q)).trans e) (λp hp=>l9.mp hp▸fE) (OH hs.1.symm)
   ⟨a',o',some u,rfl,hd2,ov.ext X⟩
  exact⟨fr,_,_,m,h,this.1,N.ext this.2,this.2⟩
 |free=>exact No.no h
 |globalExplicit=>exact No.no h
 |globalImplicit=>exact No.no h
end
section
theorem J4(h:J0 l i=some y):J0 (upd l i x) i=some x:=by
 rw[U0,K3,List.getElem?_set_self];rw[U0] at h;exact(kQ.mp h).1
theorem Z3(h:j≠i):J0 (upd l i x) j=J0 l j:=by
 rw[U0,K3,List.getElem?_set_ne (Ne.symm h),U0]
theorem QA(e:J0 rs i=some r):Ext rs (upd rs i (.V5 r.addr r.led))/\led (upd rs i (.V5 r.addr r.led))=led rs/\∀p∈r.led,p∈L0 (upd rs i (.V5 r.addr r.led)):=by
 refine U1 (vB e) λl1 l2 e1 _ u=> ?_;have el:led (upd rs i (.V5 r.addr r.led))=led rs:=by rw[u _,e1];simp[led,RO.led]
 refine⟨⟨λj a q=> ?_,λa o m _=>el▸m,λp m=> ?_⟩,el,λp m=> ?_⟩
 .unfold adr at q⊢;by_cases hj:j=i
  .subst hj;rw[J4 e];rw[e] at q;exact q
  .rw[Z3 hj];exact q
 .rw[u _];rw[e1] at m;unfold L0 at m⊢;simp only[List.flatMap_append,List.flatMap_cons,R5] at m⊢;exact m.imp id (Or.imp (λz=>RO.s7 z) id)
 .rw[u _];unfold L0;simp only[List.flatMap_append,List.flatMap_cons,R5];exact .inr (.inl m)
theorem YE(S:M0 w b cx H rs h og)(e:J0 rs i=some r):M0 w b cx (upd H i .any) (upd rs i (.V5 r.addr r.led)) h og:=by
 refine R2 (QA e) λX el _=> ?_;refine⟨S.keep,S.ns,by rw[el];exact S.at_,by rw[el];exact S.nd,?_,S.big,X.at_ _ _ S.tab,λj p q e2 e3=> ?_⟩
 .rw[K3,K3,MJ,MJ,S.len]
 .rcases i5 e2 with⟨n2,f2⟩|⟨n2,f2⟩
  .rcases i5 e3 with⟨n3,f3⟩|⟨n3,f3⟩
   .exact(S.ok j p q f2 f3).ext X
   .exact absurd n3 n2
  .subst f2;trivial
theorem qY(h:uB b rs fs es):V0 b rs (fs.map (·.2)) (es.map (·.val))/\QX (fs.map (·.1)) es:=by
 induction fs generalizing es with
 |nil=>obtain rfl:=h;exact⟨rfl,rfl⟩
 |cons p fs ih=>
  refine YG h λe q B0=> ?_;clear h;subst B0;intro hk hv r;exact⟨⟨_,_,rfl,hv,(ih r).1⟩,e,q,rfl,hk,(ih r).2⟩
inductive yl(w:World)(b h:Heap)(cx:Cx)(H:List n0)(rs:List RO)(og:OG)(P:List RO->Prop):Prop
 |mk (rs':List RO) (S:M0 w b cx H rs' h og) (X:Ext rs rs') (p:P rs')
noncomputable def dc(w:World)(b h:Heap)(cx:Cx)(f:V->List n0->Option (Dt×List n0)):Prop:=∀{v:V}{u:Value}{H:List n0}{q:Dt×List n0}{rs:List RO}{og:OG},f v H=some q->M0 w b cx H rs h og->E2 b rs v u->yl w b h cx q.2 rs og λr=>G3 (MA b r) q.1 u
theorem SO(ih:dc w b h cx f)(e:ND f vs H=some q)(S:M0 w b cx H rs h og)(x:V0 b rs vs us):yl w b h cx q.2 rs og λr=>O4 (MA b r) q.1 us:=by
 induction vs generalizing us H q rs with
 |nil=>obtain rfl:=si e;exact⟨rs,S,.refl rs,x⟩
 |cons v vs Zk=>
  refine U1 x λu r B0=> ?_;clear x;subst B0;intro x1 x2;refine u3 e λa e1 e=>B5 e λc e2 e=> ?_;subst e;obtain⟨r1,S1,X1,o1⟩:=ih e1 S x1;obtain⟨r2,S2,X2,o2⟩:=Zk e2 S1 (x2.ext X1);exact⟨r2,S2,X1.trans X2,u,r,rfl,o1.mono λ_ _=>MA.ext X2,o2⟩
theorem jf(e:Dt.je v=some d)(x:E2 b rs v u):G3 (MA b rs) d u:=by
 induction v using V.casesOn<;>first|exact A0 e|exact si e▸x
theorem yI(n:Nat):dc w b h cx (N4 n):=by
 induction n with
 |zero=>intro v u H q rs og e _ _;exact A0 e
 |succ n ih=>
  intro v u H q rs og e S x;induction hv:rV v using opQ with
  |none=>
   have e:(Dt.je v).map (λd=>(d,H))=some q:=by unfold N4 at e;simpa only[hv] using e
   exact B5 e λd e1 e=>e▸⟨rs,S,.refl rs,jf e1 x⟩
  |some i=>
   have e:((J0 H i).bind λo=>XH (N4 n) (upd H i .any) o)=some q:=by unfold N4 at e⊢;simpa only[hv] using e
   refine u3 e λo ho e=> ?_;refine u0 (S.ref ho) λr hr ok=> ?_;have eu:=K6 hr (uA hv▸x);refine R2 (QA hr) λX el hp=> ?_;induction hq:qO o using opQ with
   |none=>
    have e:((nO o).bind λq=>(ND (N4 n) (q.2.map (·.2)) (upd H i .any)).map λr=>(Dt.obj q.1 (q.2.map (·.1)) r.1,r.2))=some q:=by unfold XH at e;simpa only[hq] using e
    refine u3 e λz ez e=>B5 e λl e1 e=> ?_;subst e;rw[Bk ez] at ok;refine EE ok λa dx C es k B0=> ?_;clear ok;subst B0;intro hc ok;refine D0 (qY ok) λv1 v2=> ?_;obtain⟨r2,S2,X2,o2⟩:=SO ih e1 (YE S hr) (v1.ext X);exact⟨r2,S2,X.trans X2,a,dx,C,es,k,eu,hc,.inr (X2.fz _ (hp _ M3)),.inr (X2.fz _ (hp _ (a5 _ M3))),v2,o2⟩
   |some z=>
    have e:((ND (N4 n) z.2 (upd H i .any)).map λr=>(cond z.1 (Dt.lst r.1) (.tup r.1),r.2))=some q:=by unfold XH at e;simpa only[hq] using e
    refine B5 e λl e1 e=> ?_;subst e;rw[Yd hq] at ok;obtain⟨c,xs⟩:=z;induction c using Q2<;>
    .refine V3 ok λa vs k B0=> ?_;clear ok;subst B0;intro ok;obtain⟨r2,S2,X2,o2⟩:=SO ih e1 (YE S hr) (ok.ext X);exact⟨r2,S2,X.trans X2,a,vs,k,eu,.inr (X2.fz _ (hp _ M3)),o2⟩
noncomputable def gc(f:V->List n0->Option (Dt×List n0))(j:Nat)(nb:Bool)(es:List Ent):Prop:=∀{v:V}{H:List n0}{q:Dt×List n0},f v H=some q->J0 H j=some (.dN nb es)->J0 q.2 j=some (.dN nb es)
theorem ic(ih:gc f j nb es)(e:ND f vs H=some q)(h:J0 H j=some (.dN nb es)):J0 q.2 j=some (.dN nb es):=by
 induction vs generalizing H q with
 |nil=>exact si e▸h
 |cons v vs Zk=>exact u3 e λa e1 e=>B5 e λc e2 e=>e▸Zk (q:=c) e2 (ih e1 h)
theorem jc(n:Nat):gc (N4 n) j nb es:=by
 induction n with
 |zero=>intro v H q e _;exact A0 e
 |succ n ih=>
  intro v H q e h;induction hv:rV v using opQ with
  |none=>
   have e:(Dt.je v).map (λd=>(d,H))=some q:=by unfold N4 at e;simpa only[hv] using e
   exact B5 e λd _ e=>e▸h
  |some i=>
   have e:((J0 H i).bind λo=>XH (N4 n) (upd H i .any) o)=some q:=by unfold N4 at e⊢;simpa only[hv] using e
   refine u3 e λo ho e=> ?_;have ne:(∀x,o≠.dN nb x)->J0 (upd H i .any) j=some (.dN nb es):=λk=>by
    by_cases hj:j=i
    .rw[hj,ho] at h;exact absurd (si h) (k es)
    .rw[Z3 hj];exact h
   induction hq:qO o using opQ with
   |none=>
    have e:((nO o).bind λq=>(ND (N4 n) (q.2.map (·.2)) (upd H i .any)).map λr=>(Dt.obj q.1 (q.2.map (·.1)) r.1,r.2))=some q:=by unfold XH at e;simpa only[hq] using e
    exact u3 e λz ez e=>B5 e λl e1 e=>e▸ic ih e1 (ne λx q=>A0 (q▸ez:nO (.dN nb x)=some z))
   |some z=>
    have e:((ND (N4 n) z.2 (upd H i .any)).map λr=>(cond z.1 (Dt.lst r.1) (.tup r.1),r.2))=some q:=by unfold XH at e;simpa only[hq] using e
    exact B5 e λl e1 e=>e▸ic ih e1 (ne λx q=>A0 (q▸hq:qO (.dN nb x)=some z))
end
theorem V0.upd(hy:E2 b rs y w)(h:V0 b rs xs vs):V0 b rs (Mine.Internal.upd xs i y) (vs.set i w):=by
 induction xs generalizing vs i with
 |nil=>obtain rfl:=h;exact rfl
 |cons x xs ih=>
  refine U1 h λv r B0=> ?_;clear h;subst B0;intro a c;induction i using iB with
  |zero=>exact⟨w,r,rfl,hy,c⟩
  |succ i=>exact⟨v,r.set i w,rfl,a,ih c⟩
theorem oK{K:Type}[DecidableEq K]{p:K×Value}{q:List (K×Value)}{k:K}{v:Value}(nd:((p::q).map (·.1)).Nodup):stored (p::q) k v=if p.1=k then(p.1,v)::q else p::stored q k v:=by
 unfold stored;by_cases e:p.1=k
 .have:q.map (λkv=>if kv.1=k then(kv.1,v) else kv)=q:=by
   conv=>rhs;rw[<-List.map_id q]
   refine List.map_congr_left λkv zl=> ?_;have ne:¬kv.1=k:=λh=>(H7.mp nd).1 (by show p.1∈q.map (·.1);rw[e,h.symm];exact d5 zl);simp[ne]
  simp[e,this]
 .simp only[List.any_cons,e,decide_false,Bool.false_or,R6,if_false]
  split
  .rfl
  .rfl
section
variable{w:World}{b:Heap}{n:Nat}{R:Rec}{A:Around}{E:Value->Shared->Prop}{s:Shared}{cx:Cx}{rs:List RO}{env:Env}{sc:Scope}{fr:J2}{σ:St}{H:List n0}
theorem M0.IT(S:M0 w b cx H rs h og)(hr:J0 rs i=some (.one p o))(hn:¬IsT o)(hs:Heap.SameBut p h h')(hg:h'.get? p=some o')
 (ok:Ext rs (Mine.Internal.upd rs i (.one p o'))->P2 w b (Mine.Internal.upd rs i (.one p o')) x (.one p o')):M0 w b cx (Mine.Internal.upd H i x) (Mine.Internal.upd rs i (.one p o')) h' og/\Ext rs (Mine.Internal.upd rs i (.one p o')):=by
 have dj:∀q∈(RO.one p o).led,¬IsT q.2:=λq hq=>l9.mp hq▸hn;exact S.upd (r':= .one p o') hr rfl rfl dj (λz oz hz e=>(hs.2 z λq=>hz (l9.mpr q)).trans e) (λq hq=>l9.mp hq▸hg) (OH hs.1.symm) (ok (Ext.upd (r':= .one p o') hr rfl dj))
theorem t7.put{K:Type}[DecidableEq K]{c:K->Bool}{x:K}(hc:∀k,c k=true↔k=x){v:V}{u:Value}(hu:E2 b rs v u){es:List (K×V)}{l4:List (K×Value)}(h:t7 b rs es l4)(nd:(l4.map (·.1)).Nodup):t7 b rs (List.rec (motive:=λ_=>List (K×V)) [(x,v)] (λp r ih=>Bool.rec (motive:=λ_=>List (K×V)) (p::ih) ((p.1,v)::r) (c p.1)) es) (stored l4 x u):=by
 induction es generalizing l4 with
 |nil=>obtain rfl:=h;exact⟨u,[],rfl,hu,rfl⟩
 |cons p es ih=>
  refine U1 h λz q B0=> ?_;clear h;subst B0;intro hz k;rw[oK nd];induction e:c p.1 using Q2 with
  |true=>rw[if_pos ((hc _).mp e)];simp only[e];exact⟨u,q,rfl,hu,k⟩
  |false=>rw[if_neg λh=>vG (((hc _).mpr h).symm.trans e)];simp only[e];exact⟨z,_,rfl,hz,ih k (H7.mp nd).2⟩
theorem t7.len(h:t7 b rs es l4):l4.length=es.length:=by
 induction es generalizing l4 with
 |nil=>obtain rfl:=h;rfl
 |cons p es ih=>refine U1 h λz q B0=> ?_;clear h;subst B0;intro hz k;exact congrArg Nat.succ (ih k)
theorem xQ{K:Type}[DecidableEq K]{knd:KeyKind E1 w K}{o:Obj}{l4:List (K×Value)}(h:o.IsDictOf knd l4):¬IsT o:=λt=>by
 refine U1 h λ_ _ _ e _=> ?_;clear h;obtain⟨_,_,_,q⟩:=t;exact nomatch e.symm.trans q
theorem TO{K:Type}[DecidableEq K]{knd:KeyKind E1 w K}{o:Obj}{l4:List (K×Value)}(h:o.IsDictOf knd l4):(l4.map (·.1)).Nodup:=by
 refine SJ h λ_ _ _ _ _ _ q=> ?_;clear h;exact q
inductive PO(w:World)(b:Heap)(cx:Cx)(rs:List RO)(K:St->Prop)(s':Shared):Prop
 |mk (σ:St) (rs':List RO) (q:K σ) (S:M0 w b cx σ.heap rs' s'.heap (s'.os,s'.gens)) (x:Ext rs rs')
theorem JT(h:k<=1000):k<=sizeLine:=V7 h (by rw[sizeLine_eq];decide)
theorem RA{K0:Type}[DecidableEq K0]{knd:KeyKind E1 w K0}{j:Nat}{p:Addr}{o:Obj}{x:K0}{iv z:Value}{l4:List (K0×Value)}{y:n0}{K:St->Prop}{F1:St}(S:M0 w b cx σ.heap rs s.heap (s.os,s.gens))(hr:J0 rs j=some (.one p o))(hd:o.IsDictOf knd l4)(hk:knd.is x iv=true)(hl:l4.length<=1000)
 (ok:∀o',o'.IsDictOf knd (stored l4 x z)->Ext rs (Mine.Internal.upd rs j (.one p o'))->P2 w b (Mine.Internal.upd rs j (.one p o')) y (.one p o')) (q:K F1) (e:∀{rs' h'},M0 w b cx (Mine.Internal.upd σ.heap j y) rs' h' (s.os,s.gens)->M0 w b cx F1.heap rs' h' (s.os,s.gens)):wpAny (model E1 w) A (setItem (.ref p) iv z) (λ_ s'=>PO w b cx rs K s') E s:=by
 refine wpAny_setItem_pairs (knd:=knd) (k:=x) hk (Heap.dictOf_iff.mpr ⟨o,S.one hr,hd⟩) (λh' zI hs=> ?_) (JT hl);refine u0 (Heap.dictOf_iff.mp zI) λo' fE xB=> ?_;have:=S.IT (x:=y) hr (xQ hd) hs fE λX=>ok o' xB X;exact⟨_,_,q,e this.1,this.2⟩
theorem pK{a i v:V}{u iv z:Value}{K:St->Prop}(S:M0 w b cx σ.heap rs s.heap (s.os,s.gens))(ou:E2 b rs a u)(oi:E2 b rs i iv)(ov:E2 b rs v z)
 (h:K7 a i v σ K) (nT:∀j es,a= .ref j->J0 σ.heap j=some (.dT es)->K7 a i v σ K->wpAny (model E1 w) A (setItem u iv z) (λ_ s'=>PO w b cx rs K s') E s)
 (nN:∀j nb es,a= .ref j->J0 σ.heap j=some (.dN nb es)->K7 a i v σ K->wpAny (model E1 w) A (setItem u iv z) (λ_ s'=>PO w b cx rs K s') E s):wpAny (model E1 w) A (setItem u iv z) (λ_ s'=>PO w b cx rs K s') E s:=by
 refine E0 h λj ej h1=>E0 h1 λo ho h1=> ?_;have eu:∀{r},J0 rs j=some r->u= .ref r.addr:=λhr=>K6 hr (uA ej▸ou);refine K2 h1 (λxs hx h=>E0 h λp ep h=>E0 h λk ek h=>wG h λ_ g h=>R1 g λg1 g2=> ?_) λh1=>K2 h1 (λes he h=>E0 h λx ex h=>U3 h λg h=> ?_) λh1=>K2 h1 (λes he h=>E0 h λp ep h=>wG h λ_ g h=> ?_) λh1=>
  K2 h1 (λes he _=>nT j es (uA ej) (fS he▸ho) h) λh1=>E0 h1 λe he _=>nN j e.1 e.2 (uA ej) (kO he▸ho) h
 .rw[xG hx] at ho;obtain⟨r,hr,p',vs,nn,rfl,ok⟩:=S.ref ho;rw[eu hr];refine oi.int ep λt=> ?_;rw[FE ek];have g1:k<vs.length:=ok.length▸v9 g1;have g2:vs.length<=100000:=ok.length▸v9 g2;refine ki_setAt (n:=nn) (items:=vs.toArray) (S.one hr) (Int.natCast_nonneg k) (Int.ofNat_lt.mpr (MH g1 (V7 g2 (by decide)))) (Int.ofNat_lt.mpr g1) ?_;have hg:=get?_update_seq (S.one hr) (·.setIfInBounds (k:Int).toNat z);rw[show(vs.toArray.setIfInBounds (k:Int).toNat z)=(vs.set k z).toArray by simp] at hg;have:=S.IT (x:= .lst (Mine.Internal.upd xs k v)) hr (λt=>absurd t.1 (by show Value.type "list"≠Value.type "tuple";decide)) (Heap.SameBut.update s.heap p' _) hg (λX=>⟨p',_,_,rfl,V0.upd (ov.ext X) (ok.ext X)⟩);exact⟨_,_,h,this.1,this.2⟩
 .rw[Ib he] at ho;obtain⟨r,hr,p,o,l4,rfl,hd,ok⟩:=S.ref ho;rw[eu hr];rw[Tj ex] at oi;refine O0 oi λt B0=> ?_;clear oi;subst B0;exact RA (knd:=strKind E1 w) (x:=x) (y:= .dS (put x v es)) S hr hd (by simp[PySem.strKind,Value.isStrOf]) (ok.len▸v9 g) (λo' xB X=>⟨p,o',_,rfl,xB,t7.put (c:=λk=>sq k x) (λ_=>JS) (ov.ext X) (ok.ext X) (TO hd)⟩) h fI
 .rw[Jb he] at ho;obtain⟨r,hr,p',o,l4,rfl,hd,ok⟩:=S.ref ho;rw[eu hr];refine oi.int ep λt=> ?_;exact RA (knd:=intKind E1 w) (x:=p.2) (y:= .dI (rk p.2 v es)) S hr hd (by simp[intKind,Value.isInt]) (ok.len▸v9 g) (λo' xB X=>⟨p',o',_,rfl,xB,t7.put (c:=λk=>decide (k=p.2)) (λ_=>decide_eq_true_iff) (ov.ext X) (ok.ext X) (TO hd)⟩) h id
end
theorem AI{K:Type}[DecidableEq K]{p:K×Addr×Value}{q:List (K×Addr×Value)}{k:K}{a:Addr}{v:Value}(nd:((p::q).map (·.1)).Nodup):storedH (p::q) k a v=if p.1=k then(p.1,p.2.1,v)::q else p::storedH q k a v:=by
 unfold storedH;by_cases e:p.1=k
 .have:q.map (putAt k v)=q:=by
   conv=>rhs;rw[<-List.map_id q]
   refine List.map_congr_left λkv zl=> ?_;have ne:¬kv.1=k:=λh=>(H7.mp nd).1 (by show p.1∈q.map (·.1);rw[e,h.symm];exact d5 zl);simp[putAt,ne]
  simp[atKey,e,putAt,this]
 .have:atKey (p::q) k=atKey q k:=by unfold atKey;simp[e]
  rw[this,if_neg e]
  split
  .simp[putAt,e]
  .rfl
section
theorem ZE(h:W8 D b rs es xs):xs.length=es.length:=by
 induction es generalizing xs with
 |nil=>obtain rfl:=h;rfl
 |cons p es ih=>refine DE h λk a v q B0=> ?_;clear h;subst B0;intro _ _ _ _ r;exact congrArg Nat.succ (ih r)
theorem rY{D:E5 w}{x:Dt}{k:D.K}{kv v:V}{a:Addr}{u:Value}(hx:D.rd x=some k)(h1:G3 (KF b rs) x (.ref a))(h2:E2 b rs kv (.ref a))(h3:E2 b rs v u)
 {es:List (Dt×V×V)} {xs:List (D.K×Addr×Value)} {σ:St} {done:List (Dt×V×V)} {K:List (Dt×V×V)->St->Prop} (t:W8 D b rs es xs) (nd:(xs.map (·.1)).Nodup) (h:dput x kv v done es σ K):
  ∃F1 IE,F1.heap=σ.heap/\K (done++IE) F1/\W8 D b rs IE (@storedH D.K D.dec xs k a u):=by
 induction es generalizing xs σ done with
 |nil=>
  obtain rfl:=t;exact⟨σ,[(x,kv,v)],rfl,h,k,a,u,[],rfl,hx,h1,h2,h3,rfl⟩
 |cons e es ih=>
  refine DE t λk' a' v' q B0=> ?_;clear t;subst B0;intro r1 r2 r3 r4 r5;refine E0 h λp hr h=> ?_;refine J3 (vD h) λF1 IE y1 y2=> ?_;have iff:=D.PE (v:=p.2) r1 hx hr
  letI:=D.dec
  rw[AI nd];by_cases eq:k'=k
  .rw[if_pos eq];exact⟨F1,_,IE,y1 (iff.mpr eq),k',a',u,q,rfl,r1,r2,r3,h3,r5⟩
  .rw[if_neg eq];refine U1 (ih r5 (H7.mp nd).2 (y2 (Bool.eq_false_iff.mpr λq=>eq (iff.mp q)))) λM1 Hz e2 z t2=> ?_;exact⟨M1,e::Hz,e2.trans IE,List.append_cons done e Hz▸z,k',a',v',_,rfl,r1,r2,r3,r4,t2⟩
theorem sY{D:E5 w}{x:Dt}{kv v:V}{es:List (Dt×V×V)}{xs:List (D.K×Addr×Value)}{K:List (Dt×V×V)->St->Prop}{done:List (Dt×V×V)}(g:B8 x=true)(t:W8 D b rs es xs)(OA:es≠[])(h:dput x kv v done es σ K):∃k,D.rd x=some k:=by
 induction es using H5 with
 |nil=>exact absurd rfl OA
 |cons e es=>
  refine BA t λk' a v q B0=> ?_;clear t;subst B0;intro h1 _;refine E0 h λp hr _=> ?_;induction e:D.rd x using opQ with
  |none=>exact(D.QE g h1 e hr).elim
  |some k=>exact⟨k,rfl⟩
theorem UO(h:o.IsDictOf (PySem.strKind E1 w) []):M7 D b rs [] o:=by
 refine SJ h λes ep h1 h2 h3 h4 h5=> ?_;clear h;induction Iz:es.toList using H5 with
 |nil=>exact⟨es,ep,[],h1,h2,Iz,.nil,rfl⟩
 |cons x r=>rw[Iz] at h4;cases h4
theorem M7.mf(h:M7 D b rs es o):¬IsT o:=λt=>by
 refine T3 h λ_ _ _ _ e _=> ?_;clear h;obtain⟨_,_,_,q⟩:=t;rw[e] at q;injection q
theorem VO{j:Nat}{v kv:V}{iv z:Value}{p:Addr}{o:Obj}{es:List (Dt×V×V)}{x:Dt}{Ze:St}{Kf:List (Dt×V×V)->St->Prop}{H:List n0}(Kd:Kinds w)(hA:B2 A n)(S:M0 w b cx H rs s.heap (s.os,s.gens))(hr:J0 rs j=some (.one p o))
 (ok:RR w b rs es o) (dk:G3 (KF b rs) x iv) (g:B8 x=true) (Fv:E2 b rs kv iv) (ov:E2 b rs v z) (hl:es.length<=1000)
 (h:dput x kv v [] es Ze Kf) {Φ:Unit->Shared->Prop}
 (jY:∀IE F1 h' o' tk,Kf IE F1->F1.heap=Ze.heap->(∀y,(∀rs',Ext rs rs'->(∃D:E5 w,M7 D b rs' IE o')->P2 w b rs' y (.one p o'))->M0 w b cx (Mine.Internal.upd H j y) (Mine.Internal.upd rs j (.one p o')) h' (s.os,s.gens))->Ext rs (Mine.Internal.upd rs j (.one p o'))->Φ () {s with heap:=h',toks:=tk}):
 wpAny (model E1 w) A (setItem (.ref p) iv z) Φ E s:=by
 have dx:G3 (λa o=>s.heap.get? a=some o) x iv:=dk.mono λ_ _ z=>S.inR z.2;have go:∀{D:E5 w}{k:D.K},M7 D b rs es o->D.rd x=some k->wpAny (model E1 w) A (setItem (.ref p) iv z) Φ E s:=by
  intro D k d hk;refine u0 (d.at S (S.one hr)) λxs hm tk=> ?_;have nd:(xs.map (·.1)).Nodup:=by refine AA hm λ_ _ _ _ _ _ _ _ q=> ?_;clear hm;exact q
  refine u0 (key_is hk dx g) λaa B0=> ?_;subst B0;intro pT;refine U1 (rY hk dk Fv ov tk nd h) λF1 IE e' q t'=> ?_
  letI:=D.dec
  refine wpAny_setItem_heap (D.room hA.room) pT hm (λh' zI hs=> ?_) (JT (ZE tk▸hl));refine AA zI λo' arr ep fE h1 h2 h3 h4 h5=> ?_;clear zI;exact jY IE F1 h' o' _ q e' (λy hy=>(S.IT (x:=y) hr d.mf hs fE (λX=>hy _ X ⟨D,arr,ep,_,h1,h2,h3,h5,t'.ext X⟩)).1) (Ext.upd (r':= .one p o') hr rfl λq hq=>l9.mp hq▸d.mf)
 rcases ok with⟨rfl,hd,_⟩|⟨D,d⟩
 .obtain⟨D,k,hk⟩:=Kd x g;exact go (UO hd) hk
 .by_cases OA:es=[]
  .subst OA;obtain⟨D',k,hk⟩:=Kd x g;refine BE d λarr ep xs h1 h2 h3 h4 h5=> ?_;clear d;obtain rfl:xs=[]:=h5;exact go (D:=D') ⟨arr,ep,[],h1,h2,h3,.nil,rfl⟩ hk
  .refine u0 (d.at S (S.one hr)) λxs hm tk=> ?_;refine O0 (sY g tk OA h) λk hk=> ?_;exact go d hk
theorem RR.ints(ok:RR w b rs [] o):o.IsDictOf (intKind E1 w) []:=by
 rcases ok with⟨_,_,hd⟩|⟨D,arr,ep,xs,h1,h2,h3,h4,h5⟩
 .exact hd
 .obtain rfl:xs=[]:=h5;obtain rfl:arr= #[]:=by simpa using h3
  exact⟨#[],ep,h1,h2,(λe he=>absurd he (Array.not_mem_empty e)),.nil,.nil⟩
theorem qK{j:Nat}{i v:V}{u iv z:Value}{K:St->Prop}{es:List (Dt×V×V)}(Kd:Kinds w)(hA:B2 A n)(S:M0 w b cx σ.heap rs s.heap (s.os,s.gens))(ou:E2 b rs (.ref j) u)(oi:E2 b rs i iv)(ov:E2 b rs v z)
 (he:J0 σ.heap j=some (.dT es)) (h:K7 (.ref j) i v σ K):wpAny (model E1 w) A (setItem u iv z) (λ_ s'=>PO w b cx rs K s') E s:=by
 obtain⟨r,hr,p,o,rfl,ok⟩:=S.ref he;rw[K6 hr ou];refine E0 (show on (J0 σ.heap j) 62 _ from h) λo' ho h=> ?_;obtain rfl:n0.dT es=o':=si (he.symm.trans ho);have h:w7 (iV i) (λp=>gd (!p.1&&es.isEmpty) (K (σ.set j (.dI [(p.2,v)])))) (on (dat σ.heap H6 i) 61 λx=>gd (B8 x&&Nat.ble es.length 1000) (dput x i v [] es σ λIE F1=>K (F1.set j (.dT IE)))):=h;refine K2 h (λq eq h=>wG h λ_ g hq=> ?_) λh=>E0 h λx hx h=>wG h λg1 g2 h=> ?_
 .obtain rfl:=List.isEmpty_iff.mp g;refine oi.int eq λt=> ?_;exact RA (knd:=intKind E1 w) (x:=q.2) (y:= .dI [(q.2,v)]) S hr (RR.ints ok) (by simp[intKind,Value.isInt]) (Nat.zero_le _) (λo' xB X=>⟨p,o',_,rfl,xB,z,[],rfl,ov.ext X,rfl⟩) hq id
 .refine VO (o:=o) Kd hA S hr ok ((nI g1 (BO S _ hx oi)).mono λ_ _ z=>z) g1 oi ov (v9 g2) h λIE F1 h' o' tk q e' k X=>⟨_,_,q,?_,X⟩;show M0 w b cx (Mine.Internal.upd F1.heap j (.dT IE)) _ _ _;rw[e'];exact k (.dT IE) λrs' _ d=>⟨p,o',rfl,.inr d⟩
theorem o5(u:UInt8):oct (u.toNat:Int)=u:=((sI (Int.natCast_nonneg _) (Int.ofNat_lt.mpr u.toNat_lt) u).mp rfl).symm
theorem iE(h0:0<=a)(h1:a<256):((oct a).toNat:Int)=a:=(sI h0 h1 _).mpr rfl
theorem MT(u:UInt8):0<=(u.toNat:Int)/\(u.toNat:Int)<256:=⟨Int.natCast_nonneg _,Int.ofNat_lt.mpr u.toNat_lt⟩
theorem eA(nb:Bool)(k:UInt8×UInt8):∃c,MD nb (Q1 nb k)=some (c,k)/\c:=by
 induction nb using Q2 with
 |true=>exact⟨True,rfl,trivial⟩
 |false=>
  refine⟨(0<=(k.1.toNat:Int)/\(k.1.toNat:Int)<256/\0<=(k.2.toNat:Int)/\(k.2.toNat:Int)<256),?_,(MT k.1).1,(MT k.1).2,MT k.2⟩;show some (_,oct (k.1.toNat:Int),oct (k.2.toNat:Int))=_;rw[o5 _,o5 _]
theorem NT(h:MD nb x=some (c,k))(hc:c)(d:G3 F x u):G3 F (Q1 nb k) u:=by
 cases oI h with
 |nb e=>subst e;exact d
 |kn e=>
  subst e;simp only[Q1,iE hc.1 hc.2.1,iE hc.2.2.1 hc.2.2.2];exact d
theorem tY(h:uz x=some p):x= .lst [p.1,p.2.1,p.2.2.1,p.2.2.2]:=u3 h λl e h=>by
 rw[Zd e];induction l using H5 with
 |nil=>exact A0 h
 |cons a l=>induction l using H5 with
  |nil=>exact A0 h
  |cons b l=>exact B5 h λq e h=>by rw[J7 e,h.symm]
theorem uY(h:qz x=some s):∃u,x= .tup [.str "time",.int u s]:=u3 h λl e h=>u3 h λa e1 h=>B5 h λp e2 h=>⟨p.1,by rw[vO e,A8 e1,z8 e2,h]⟩
theorem vY(h:rz x=some s):∃u,x= .tup [.str "name",.bytes u s]:=u3 h λl e h=>u3 h λa e1 h=>B5 h λp e2 h=>⟨p.1,by rw[vO e,A8 e1,nQ e2,h]⟩
theorem rK(h:sS x=some (k,sec,nm)):∃s t u v,x= .lst [.tup [.str "chassis",.int false 7,.bytes s [k.1]],.tup [.str "port",.int false 7,.bytes t [k.2]],.tup [.str "time",.int u sec],.tup [.str "name",.bytes v nm]]:=by
 refine u3 h λp e h=>u3 h λy e1 h=>u3 h λz e2 h=>u3 h λs e3 h=>B5 h λn e4 h=> ?_;refine O0 (HO e1) λs1 h1=> ?_;refine O0 (HO e2) λs2 h2=> ?_;refine O0 (uY e3) λs3 h3=> ?_;refine O0 (vY e4) λs4 h4=> ?_;cases h
 exact⟨s1,s2,s3,s4,by rw[tY e,h1,h2,h3,h4]⟩
theorem OT(h:sS x=some (k,sec,nm))(d:G3 F x u):G3 F (T6 k sec nm) u:=by
 refine TJ (rK h) λs t v z B0=> ?_;subst B0;exact d
theorem QT(h:oe nb k x=some (c,e))(hc:c)(d:G3 F x u):G3 F (C8 nb e) u/\e.k=k:=by
 induction nb using Q2 with
 |false=>
  refine u3 h λp e1 h=>u3 h λn e2 h=>B5 h λFA e3 h=> ?_;cases h
  rw[X8 e1,nQ e2,z8 e3] at d;exact⟨d,rfl⟩
 |true=>
  refine u3 h λo e1 h=>A4 h λg1 h=>u3 h λq e2 h=>A4 h λg2 h=>u3 h λdd e3 h=>u3 h λr e4 h=>B5 h λFA e5 h=>R1 g2 λg2 g3=> ?_;cases h
  rw[Ak e1,V9 g1,J7 e2,J7 e3,x6 g2,x6 g3,z8 e5] at d;obtain⟨a,dx,C,es,n,f1,f2,f3,f4,f5,v1,r1,f6,d1,v2,r2,f7,d2,f8⟩:=d;refine⟨?_,rfl⟩;exact⟨a,dx,C,es,n,f1,f2,f3,f4,f5,v1,r1,f6,Prod.ext (x:=r.1) (y:=k) hc.1 hc.2▸OT e4 d1,v2,r2,f7,d2,f8⟩
theorem Al(q:Kf (done++(E6 e es).map (C6 nb)) ⟨H,t⟩):
 ∃tp,dput (Q1 nb e.k) (.W0 (Q1 nb e.k)) (.W0 (C8 nb e)) done (es.map (C6 nb)) ⟨H,tp⟩ Kf:=by
 induction es generalizing done with
 |nil=>exact⟨t,q⟩
 |cons x es ih=>
  refine u0 (eA nb e.k) λc hk hc=> ?_;have dk:R8 (C6 nb x).1 (Q1 nb e.k)=some (true,U8 e.k x):=eE hk hc x;have go:∀{tp},br true (U8 e.k x) ⟨H,tp⟩ (λF1=>Kf (done++((C6 nb x).1,(C6 nb x).2.1,.W0 (C8 nb e))::es.map (C6 nb)) F1) (λF1=>dput (Q1 nb e.k) (.W0 (Q1 nb e.k)) (.W0 (C8 nb e)) (done++[C6 nb x]) (es.map (C6 nb)) F1 Kf)->dput (Q1 nb e.k) (.W0 (Q1 nb e.k)) (.W0 (C8 nb e)) done ((x::es).map (C6 nb)) ⟨H,tp⟩ Kf:=λz=>by
   show on (R8 (C6 nb x).1 (Q1 nb e.k)) 56 _;rw[dk];exact z
  rw[C9] at q;induction hx:U8 e.k x using Q2 with
  |true=>
   rw[hx] at q;refine⟨true::t,go ⟨hx,?_⟩⟩;have:x.k=e.k:=R1 hx λh1 h2=>Prod.ext (beq_iff_eq.mp h1) (beq_iff_eq.mp h2);simpa[C6,this] using q
  |false=>
   rw[hx] at q;refine O0 (ih (done:=done++[C6 nb x]) (by simpa using q)) λtp z=> ?_;exact⟨false::tp,go ⟨hx,z⟩⟩
theorem nf(h:G3 (MA b rs) (Q1 nb k) u):G3 (KF b rs) (Q1 nb k) u:=by
 refine u0 (eA nb k) λc hk _=> ?_;exact(nI (k7 hk) h).mono λ_ _ z=>⟨z.1,z.2.inR⟩
theorem tK{j:Nat}{i v:V}{u iv z:Value}{K:St->Prop}{nb:Bool}{es:List Ent}(Kd:Kinds w)(hA:B2 A n)(S:M0 w b cx σ.heap rs s.heap (s.os,s.gens))(ou:E2 b rs (.ref j) u)(oi:E2 b rs i iv)(ov:E2 b rs v z)
 (he:J0 σ.heap j=some (.dN nb es)) (h:K7 (.ref j) i v σ K):wpAny (model E1 w) A (setItem u iv z) (λ_ s'=>PO w b cx rs K s') E s:=by
 refine E0 (show on (J0 σ.heap j) 62 _ from h) λo' ho h=> ?_;obtain rfl:n0.dN nb es=o':=si (he.symm.trans ho);have h:on (N4 5 i σ.heap) 221 λx=>on (MD nb x.1) 220 λc=>c.1/\on (N4 5 v x.2) 218 λy=>on (oe nb c.2 y.1) 217 λd=>d.1/\(es.length<100/\K {σ with heap:=upd y.2 j (.dN nb (E6 d.2 es))}):=h;refine E0 h λx e1 h=>E0 h λc hk h=>E0 h.2 λy e2 q=>E0 q λd hv qq=> ?_;obtain⟨r1,S1,X1,o1⟩:=yI 5 e1 S oi;obtain⟨r2,S2,X2,o2⟩:=yI 5 e2 S1 (ov.ext X1);obtain⟨r,hr,p,o,rfl,ok⟩:=S2.ref (jc 5 e2 (jc 5 e1 he));rw[K6 hr (ou.ext (X1.trans X2))];obtain⟨c,k⟩:=c;obtain⟨c2,e⟩:=d;refine D0 (QT hv qq.1 o2) λdv B0=> ?_;subst B0;have Jz:G3 (MA b r2) (Q1 nb e.k) iv:=NT hk h.1 (o1.mono λ_ _=>MA.ext X2);refine u0 (eA nb e.k) λc3 Bl hc3=> ?_;refine O0 (Al (nb:=nb) (e:=e) (H:=y.2) (t:=σ.LD) (Kf:=λIE _=>IE=(E6 e es).map (C6 nb)) (es:=es) (done:=[]) rfl) λtp z=> ?_;refine VO (o:=o) Kd hA S2 hr ok (nf Jz) (k7 Bl) (kv:= .W0 (Q1 nb e.k)) (v:= .W0 (C8 nb e)) Jz dv (by rw[KD _];exact V7 (Nat.le_of_lt qq.2.1) (by decide)) z λIE F1 h' o' tk eq e' kk X=> ?_;subst eq;exact⟨_,_,qq.2.2,kk (.dN nb (E6 e es)) λrs' _ d=>⟨p,o',rfl,.inr d⟩,(X1.trans X2).trans X⟩
end
theorem BI(h:isStar t=false)(rest:List Expr)(env:Env):assignEach (t::rest) env=(false,assign t env)::assignEach rest env:=by
 induction t using PySem.Expr.casesOn<;>first|rfl|exact vG h
section
theorem WO(ht:isStar t=false)
 (h:wpAny M A (eval value env) (λv U2=>wpAny M A (assign t env v) (λ_=>Q .next) E U2) E s)
 (hs:swapsWithSole [t] value pos.line env=pure false) (hw:swappedStores [t] value env=pure none):
 wpAny M A (exec (.Assign [t] value pos) env) Q E s:=by
 rw[exec_Assign];refine wpAny_bind (wpAny_standAt ?_);rw[hs];refine wpAny_bind (wpAny_pure ?_);rw[if_neg (by decide)];refine wpAny_bind (wpAny_mono h (λv U2 Y3=> ?_) λ_ _ x=>x);rw[hw];refine wpAny_bind (wpAny_pure ?_);rw[BI ht];show wpAny M A (do assignAll v [assign t env];pure .next) Q E U2;exact wpAny_bind (wpAny_mono Y3 (λ_ _ x=>wpAny_pure x) λ_ _ x=>x)
theorem PF.from{K:J2->St->Prop}{s':Shared}{rs':List RO}(x:Ext rs rs')(h:PF w b cx env sc rs' K s'):PF w b cx env sc rs K s':=let⟨fr,σ,r2,m,q,S,N,y⟩:=h;⟨fr,σ,r2,m,q,S,N,x.trans y⟩
theorem HM{K:J2->St->Prop}{x:Str}{p:Pos}{v:V}{u:Value}{m:Str->Option Value}(S:M0 w b (cx.put env.locals m) σ.heap rs s.heap (s.os,s.gens))(N:o4 b rs env sc fr m)(ov:E2 b rs v u)(h:JE x v sc fr σ K):
 wpAny (model E1 w) A (assign (.Name x p) env u) (λ_ s'=>PF w b cx env sc rs K s') E s:=assign_Name (nK S N ov h)
theorem IM(B:k3 w b)(G1:Z4 w b n R)(hA:B2 A n){K:J2->St->Prop}{o:Expr}{x:Str}{p:Pos}{v:V}{u:Value}{m:Str->Option Value}(S:M0 w b (cx.put env.locals m) σ.heap rs s.heap (s.os,s.gens))(N:o4 b rs env sc fr m)(ov:E2 b rs v u)
 (h:R.ev o sc fr σ λa P0=>HE a x v P0 λM1=>K fr M1):
 wpAny (model E1 w) A (assign (.Attribute o x p) env u) (λ_ s'=>PF w b cx env sc rs K s') E s:=by
 show wpAny _ _ (do let ov<-holding [u] (eval o env);standAt p.atName;holding [u,ov] (setAttr ov x u);release [u,ov] []) _ _ _;refine wpAny_bind (wpAny_holding (wpAny_mono (G1 h hA S N.ok) (λz U2 Y3=> ?_) λ_ _ x=>x));obtain⟨a,P0,r1,q1,S1,X1,o1⟩:=Y3;refine wpAny_bind (wpAny_standAt (wpAny_bind (wpAny_holding (wpAny_mono (yM B S1 M3 N.above o1 (ov.ext X1) q1) (λ_ y4 F6=> ?_) λ_ _ x=>x))));refine U1 F6 λM1 r2 q2 S2 X2=> ?_;clear F6;exact wpAny_release' ⟨fr,M1,r2,m,q2,S2,N.ext (X1.trans X2),X1.trans X2⟩
theorem DG(o i:Expr)(p:Pos)(env:Env)(u:Value):assign (.Subscript o i p) env u=(do
 let ov<-holding [u] (eval o env);let iv<-holding [u,ov] (eval i env)
 standAt p
 holding [u,ov,iv] (setItem ov iv u)
 release (match i with| .Slice _ _ none _=>[iv,u,ov]|_=>[u,ov,iv]) []):=rfl
theorem yQ(Kd:Kinds w)(G1:Z4 w b n R)(hA:B2 A n){K:J2->St->Prop}{o i:Expr}{p:Pos}{v:V}{u:Value}{m:Str->Option Value}(S:M0 w b (cx.put env.locals m) σ.heap rs s.heap (s.os,s.gens))(N:o4 b rs env sc fr m)(ov:E2 b rs v u)
 (h:R.ev o sc fr σ λa P0=>R.ev i sc fr P0 λiv M1=>K7 a iv v M1 λv5=>K fr v5):
 wpAny (model E1 w) A (assign (.Subscript o i p) env u) (λ_ s'=>PF w b cx env sc rs K s') E s:=by
 rw[DG];refine wpAny_bind (wpAny_holding (wpAny_mono (G1 h hA S N.ok) (λz U2 Y3=> ?_) λ_ _ x=>x));obtain⟨a,P0,r1,q1,S1,X1,o1⟩:=Y3;refine wpAny_bind (wpAny_holding (wpAny_mono (G1 q1 hA S1 (N.ext X1).ok) (λy y4 F6=> ?_) λ_ _ x=>x));obtain⟨c,M1,r2,q2,S2,X2,o2⟩:=F6;have oa:=o1.ext X2;have Jv:=ov.ext (X1.trans X2);have st:wpAny (model E1 w) A (setItem z y u) (λ_ s'=>PO w b (cx.put env.locals m) r2 (λv5=>K fr v5) s') E y4:=
  pK S2 oa o2 Jv q2 (λj es e he=>by subst e;exactλq2=>qK Kd hA S2 oa o2 Jv he q2) (λj nb es e he=>by subst e;exactλq2=>tK Kd hA S2 oa o2 Jv he q2)
 refine wpAny_bind (wpAny_standAt (wpAny_bind (wpAny_holding (wpAny_mono st (λ_ P7 mK=> ?_) λ_ _ x=>x))));obtain⟨v5,r3,q3,S3,X3⟩:=mK;exact wpAny_release' ⟨fr,v5,r3,m,q3,S3,N.ext ((X1.trans X2).trans X3),(X1.trans X2).trans X3⟩
end
theorem mH(h:CC e=false)(l:Nat)(env:Env)(t:Option Expr):swapsWith e t l env=pure false:=by
 induction e using PySem.Expr.casesOn<;>first|rfl|exact vG h
section
theorem PS.one{K:KS}{g:Fl}{f:Flow}(S:M0 w b (cx.put env.locals m) σ.heap rs s.heap (s.os,s.gens))(N:o4 b rs env sc fr m)(h:K g fr σ)(o:vl b rs g f):PS w b cx env sc rs K f s:=⟨g,fr,σ,rs,m,h,S,N,.refl rs,o⟩
theorem zQ(G1:Z4 w b n R)(hA:B2 A n){K:KS}{e:Expr}{p:Pos}(S:M0 w b (cx.put env.locals m) σ.heap rs s.heap (s.os,s.gens))(N:o4 b rs env sc fr m)
 (h:R.ev e sc fr σ λv P0=>K (.ret v) fr P0):wpAny (model E1 w) A (exec (.Return (some e) p) env) (PS w b cx env sc rs K) E s:=by
 refine wpAny_Return_some (wpAny_mono (G1 h hA S N.ok) (λu U2 Y3=> ?_) λ_ _ x=>x);obtain⟨a,P0,r1,q1,S1,X1,o1⟩:=Y3;exact .from X1 (PS.one S1 (N.ext X1) q1 o1)
theorem wY(G1:Z4 w b n R)(hA:B2 A n){K:KS}{e:Expr}{p:Pos}(S:M0 w b (cx.put env.locals m) σ.heap rs s.heap (s.os,s.gens))(N:o4 b rs env sc fr m)
 (h:gd (!CC e) (R.ev e sc fr σ λ_ P0=>K .next fr P0)):wpAny (model E1 w) A (exec (.Expr e p) env) (PS w b cx env sc rs K) E s:=by
 refine D0 (iH h) λg h=> ?_;rw[exec_Expr env e p (by unfold interactive;rw[N.fn];rfl) (mH (by simpa using g) _ _ _)];refine wpAny_bind (wpAny_standAt (wpAny_bind (wpAny_mono (G1 h hA S N.ok) (λu U2 Y3=> ?_) λ_ _ x=>x)));obtain⟨a,P0,r1,q1,S1,X1,o1⟩:=Y3;exact wpAny_dropValue (.from X1 (PS.one S1 (N.ext X1) q1 trivial))
theorem Dl(B:k3 w b)(G1:Z4 w b n R)(wA:xI w b n R)(hA:B2 A n){K:KS}{t:Expr}{x y:List Stmt}{p:Pos}{k:Nat}(S:M0 w b (cx.put env.locals m) σ.heap rs s.heap (s.os,s.gens))(N:o4 b rs env sc fr m)
 (h:OR R k t sc fr σ (λP0=>R.ex x sc fr P0 K) (λP0=>R.ex y sc fr P0 K)):wpAny (model E1 w) A (exec (.If t x y p) env) (PS w b cx env sc rs K) E s:=by
 refine wpAny_If (wpAny_mono (wI B G1 hA k h S N.ok) (λr U2 Y3=> ?_) λ_ _ x=>x);obtain⟨P0,r1,q1,S1,X1⟩:=Y3;induction r using Q2 with
 |true=>exact wpAny_mono (wA q1 hA S1 (N.ext X1)) (λ_ _ z=> .from X1 z) λ_ _ x=>x
 |false=>exact wpAny_mono (wA q1 hA S1 (N.ext X1)) (λ_ _ z=> .from X1 z) λ_ _ x=>x
theorem RT{K:KS}{p:Pos}(S:M0 w b (cx.put env.locals m) σ.heap rs s.heap (s.os,s.gens))(N:o4 b rs env sc fr m)(h:K .brk fr σ):wpAny (model E1 w) A (exec (.Break p) env) (PS w b cx env sc rs K) E s:=wpAny_Break (PS.one S N h trivial)
theorem uK{K:KS}{p:Pos}(S:M0 w b (cx.put env.locals m) σ.heap rs s.heap (s.os,s.gens))(N:o4 b rs env sc fr m)(h:K .cont fr σ):wpAny (model E1 w) A (exec (.Continue p) env) (PS w b cx env sc rs K) E s:=wpAny_Continue (PS.one S N h trivial)
theorem xY{K:KS}{p:Pos}(S:M0 w b (cx.put env.locals m) σ.heap rs s.heap (s.os,s.gens))(N:o4 b rs env sc fr m)(h:K .next fr σ):wpAny (model E1 w) A (exec (.Pass p) env) (PS w b cx env sc rs K) E s:=wpAny_Pass (PS.one S N h trivial)
noncomputable def kc(w:World)(b:Heap)(n:Nat)(R:Rec):Prop:=∀{st:Stmt}{sc:Scope}{fr:J2}{σ:St}{K:KS},JJ R st sc fr σ K->
 ∀{A:Around}{E:Value->Shared->Prop}{s:Shared}{cx:Cx}{rs:List RO}{env:Env}{m:Str->Option Value},B2 A n->M0 w b (cx.put env.locals m) σ.heap rs s.heap (s.os,s.gens)->o4 b rs env sc fr m->
  wpAny (model E1 w) A (exec st env) (PS w b cx env sc rs K) E s
theorem pf(h1:kc w b n R)(hA:B2 A n){l:List Stmt}{fr:J2}{σ:St}{K:KS}{s:Shared}{rs:List RO}{m:Str->Option Value}(h:yv R l sc fr σ K)(S:M0 w b (cx.put env.locals m) σ.heap rs s.heap (s.os,s.gens))(N:o4 b rs env sc fr m):
 wpAny (model E1 w) A (execs l env) (PS w b cx env sc rs K) E s:=by
 induction l generalizing fr σ s rs m with
 |nil=>exact wpAny_execs_nil (PS.one S N h trivial)
 |cons st l ih=>
  refine wpAny_execs_cons (wpAny_mono (h1 (st:=st) (K:=Bz K λn9 P0=>yv R l sc n9 P0 K) h hA S N) (λf U2 Y3=> ?_) λ_ _ x=>x);obtain⟨g,n9,P0,r1,m1,q1,S1,N1,X1,o1⟩:=Y3;induction g using Fl.casesOn<;>cases f<;>first|exact o1.elim|skip
  .exact wpAny_mono (ih q1 S1 N1) (λ_ _ z=> .from X1 z) λ_ _ x=>x
  .exact .from X1 (PS.one S1 N1 q1 trivial)
  .exact .from X1 (PS.one S1 N1 q1 trivial)
  .exact .from X1 (PS.one S1 N1 q1 o1)
end
section
variable{w:World}{b:Heap}{n:Nat}{R:Rec}{A:Around}{E:Value->Shared->Prop}{s:Shared}{cx:Cx}{rs:List RO}{env:Env}{sc:Scope}{fr:J2}{σ:St}{m:Str->Option Value}
@[elab_as_elim] theorem V0.one {args:List V} {us:List Value} {v:V} (o:V0 b rs args us) (e:Mine.Internal.one args=some v) {P:List Value->Prop} (k:∀u,E2 b rs v u->P [u]):P us:=by
 rw[A8 e] at o;refine U1 o λu r B0=> ?_;clear o;subst B0;intro ou x9;subst x9;exact k u ou
@[elab_as_elim] theorem V0.two {args:List V} {us:List Value} {p:V×V} (o:V0 b rs args us) (e:Mine.Internal.two args=some p) {P:List Value->Prop} (k:∀u u',E2 b rs p.1 u->E2 b rs p.2 u'->P [u,u']):P us:=by
 rw[J7 e] at o;obtain⟨u,r,rfl,ou,u',r',rfl,El,rfl⟩:=o;exact k u u' ou El
theorem UT{sg c:Bool}{v1 v2:V}{Q:K1}{h':Heap}{tk:Nat}{u:Value}(S':M0 w b cx σ.heap rs h' (s.os,s.gens))(h:br sg c σ (λF1=>Q v1 F1) (λF1=>Q v2 F1))(o1:c=true->E2 b rs v1 u)(o2:c=false->E2 b rs v2 u):PV w b cx rs Q u {s with heap:=h',toks:=tk}:=by
 refine J3 (vD h) λF1 e k1 k2=> ?_;induction c using Q2 with
 |true=>exact .here (s':={s with heap:=h',toks:=tk}) (k1 rfl) (e▸S') (.refl rs) (o1 rfl)
 |false=>exact .here (s':={s with heap:=h',toks:=tk}) (k2 rfl) (e▸S') (.refl rs) (o2 rfl)
theorem rf{args:List V}{us:List Value}{Q:K1}{L:Addr}{m:Str->Option Value}(hA:B2 A n)(S:M0 w b cx σ.heap rs s.heap (s.os,s.gens))(hL:(L,m)∈cx.fs)(ha:b.objs.size<=L)(os:V0 b rs args us)
 (h:IX (λa c=>decide (c<a)) args σ Q):wpAny (model E1 w) A (call (.builtin "min") us) (PV w b cx rs Q) E s:=by
 refine E0 h λp e h=>E0 h λa ea h=>E0 h λc ec h=>os.two e λu u' o o'=>o.int ea λt=>o'.int ec λt'=> ?_;refine I7 (S.same hL ha) λfr F N nd back=> ?_;refine min_two_N hA.handled F N λh' tk F' N'=>UT (back h' F' N') h (λq=> ?_) λq=> ?_
 .rw[if_pos (of_decide_eq_true q),if_pos (of_decide_eq_true q)];exact⟨_,rfl⟩
 .rw[if_neg (of_decide_eq_false q),if_neg (of_decide_eq_false q)];exact⟨_,rfl⟩
theorem sf{args:List V}{us:List Value}{Q:K1}{L:Addr}{m:Str->Option Value}(hA:B2 A n)(S:M0 w b cx σ.heap rs s.heap (s.os,s.gens))(hL:(L,m)∈cx.fs)(ha:b.objs.size<=L)(os:V0 b rs args us)
 (h:IX (λa c=>decide (a<c)) args σ Q):wpAny (model E1 w) A (call (.builtin "max") us) (PV w b cx rs Q) E s:=by
 refine E0 h λp e h=>E0 h λa ea h=>E0 h λc ec h=>os.two e λu u' o o'=>o.int ea λt=>o'.int ec λt'=> ?_;refine I7 (S.same hL ha) λfr F N nd back=> ?_;refine max_two_N hA.handled F N λh' tk F' N'=>UT (back h' F' N') h (λq=> ?_) λq=> ?_
 .rw[if_pos (of_decide_eq_true q:c.2>a.2),if_pos (of_decide_eq_true q:c.2>a.2)];exact⟨_,rfl⟩
 .rw[if_neg (of_decide_eq_false q:¬c.2>a.2),if_neg (of_decide_eq_false q:¬c.2>a.2)];exact⟨_,rfl⟩
theorem jE{k l tk:Nat}{Q:K1}{t:Tok}(S:M0 w b cx σ.heap rs s.heap (s.os,s.gens))(h:Q (.int false k) σ)(e:l=k):PV w b cx rs Q (.int (l:Int) t) {s with toks:=tk}:=e▸.here (s':={s with toks:=tk}) h S (.refl rs) ⟨_,rfl⟩
theorem uf{k:Nat}(h:k<=100000):(k:Int)<2^63:=Int.ofNat_lt.mpr (NH h (by decide))
theorem vf{v:V}{u:Value}{Q:K1}(B:k3 w b)(S:M0 w b cx σ.heap rs s.heap (s.os,s.gens))(ov:E2 b rs v u)(h:w7 (yV v) (λy=>bI y.2.length σ Q) (w7 (Lb σ.heap v) (λq=>bI q.2.length σ Q) (w7 (uC BX σ.heap v) (λes=>bI es.length σ Q) (on (uC Hb σ.heap v) 67 λes=>bI es.length σ Q)))):wpAny (model E1 w) A (call (.builtin "len") [u]) (PV w b cx rs Q) E s:=by
 have Kz:∀{K:Type}[DecidableEq K]{knd:KeyKind E1 w K}{p:Addr}{ob:Obj}{l4:List (K×Value)}{k:Nat},(p,ob)∈led rs->ob.IsDictOf knd l4->l4.length=k->bI k σ Q->wpAny (model E1 w) A (call (.builtin "len") [.ref p]) (PV w b cx rs Q) E s:=λ{K _ knd p ob l4 k} hp hd e h=>U3 h λg h=>
  call_len_dict (aA B (S.at_ (p,ob) (u5 _ hp)).2) (Heap.dictOf_iff.mpr ⟨ob,S.inR (.inr hp),hd⟩) (uf (e▸v9 g)) (jE S h e)
 refine K2 h (λy e h=>ov.bytes e λt=>U3 h λg h=> ?_) λh=>K2 h (λq e h=>S.sq ov e λp vs nn hp ok=>U3 h λg h=> ?_) λh=>K2 h (λes e h=>S.dI ov e λp ob l4 hp hd ok=>Kz hp hd ok.len h) λh=>E0 h λes e h=>S.dS ov e λp ob l4 hp hd ok=>Kz hp hd ok.len h
 .exact len_bytes (V7 (v9 g) (by decide)) (jE S h rfl)
 .have hz:(vs.toArray.size:Int)<2^63:=uf (V7 (OH ok.length) (v9 g));obtain⟨l,xs⟩:=q;induction l using Q2 with
  |true=>exact PyProof.Rows.len_list (H4 (S.inR hp)) hz (jE S h ok.length)
  |false=>exact PyProof.Rows.len_tuple (t:=p) (U6 (S.inR hp)) hz (jE S h ok.length)
end
section
variable{w:World}{b:Heap}{n:Nat}{R:Rec}{A:Around}{E:Value->Shared->Prop}{s:Shared}{cx:Cx}{rs:List RO}{env:Env}{sc:Scope}{fr:J2}{σ:St}{m:Str->Option Value}
theorem xf:¬IsT (seqObj "list" a k):=λt=>absurd t.1 (by show Value.type "list"≠Value.type "tuple";decide)
theorem AQ{i:Nat}{u z:Value}{v:V}{xs:List V}{Q:K1}(S:M0 w b cx σ.heap rs s.heap (s.os,s.gens))(hx:J0 σ.heap i=some (.lst xs))(ou:E2 b rs (.ref i) u)(ov:E2 b rs v z)(hl:xs.length<=100000)
 (h:Q .none (σ.set i (.lst (xs++[v])))):wpAny (model E1 w) A (call (.builtin "list.append") [u,z]) (PV w b cx rs Q) E s:=by
 obtain⟨r,hr,p,vs,nn,rfl,ok⟩:=S.ref hx;rw[K6 hr ou];refine append_at (hsz:=E9 (V7 (OH ok.length) hl)) (S.one hr) λh' hs fE=> ?_;have Gl:h'.get? p=some (seqObj "list" (List.toArray (vs++[z])) (nn+1)):=by have Il:h'.get? p=_:=fE;rw[Il];simp
 have:=S.IT (x:= .lst (xs++[v])) hr xf hs Gl (λX=>⟨p,vs++[z],nn+1,rfl,V0.append (ok.ext X) (V0.cons (ov.ext X) rfl)⟩);exact .here (s':={s with heap:=h'}) h this.1 this.2 rfl
end
section
variable{w:World}{b:Heap}{n:Nat}{A:Around}{E:Value->Shared->Prop}{s:Shared}{cx:Cx}{rs:List RO}{σ:St}
theorem VT{Q:K1}{ob:Obj}{o:n0}{k:Nat}(S:M0 w b cx σ.heap rs s.heap (s.os,s.gens))(hf:ob.isFreed=false)(ok:P2 w b (rs++[.one s.heap.objs.size ob]) o (.one s.heap.objs.size ob))(q:Q (.ref σ.new) (σ.push o)):
 PV w b cx rs Q (.ref s.heap.objs.size) {s with heap:=s.heap.push ob,toks:=k}:=
 .new (s':={s with heap:=s.heap.push ob,toks:=k}) S (j6 _) (S.grown (λa o e=>Heap.get?_push_of_some _ e) (by rw[Heap.size_push];exact Nat.le_succ _)) (Heap.get?_push_size _ hf) ok q
theorem BQ{a:Int}{t:Tok}{Q:K1}(S:M0 w b cx σ.heap rs s.heap (s.os,s.gens))(h:Q (.ref σ.new) (σ.push (.w9 0 a 1))):wpAny (model E1 w) A (call (.type "range") [.int a t]) (PV w b cx rs Q) E s:=
 call_range_1 (VT (o:= .w9 0 a 1) S rfl ⟨_,_,s.toks,t,s.toks+1,rfl,by simp,λh r e=>e⟩ h)
theorem CQ{a c:Int}{t u:Tok}{Q:K1}(S:M0 w b cx σ.heap rs s.heap (s.os,s.gens))(h:Q (.ref σ.new) (σ.push (.w9 a c 1))):wpAny (model E1 w) A (call (.type "range") [.int a t,.int c u]) (PV w b cx rs Q) E s:=
 call_range_2 (VT (o:= .w9 a c 1) S rfl ⟨_,_,t,u,s.toks,rfl,by simp,λh r e=>e⟩ h)
theorem DQ{a c d:Int}{t u v:Tok}{Q:K1}(S:M0 w b cx σ.heap rs s.heap (s.os,s.gens))(hd:d≠0)(hs:small d=true)(h:Q (.ref σ.new) (σ.push (.w9 a c d))):wpAny (model E1 w) A (call (.type "range") [.int a t,.int c u,.int d v]) (PV w b cx rs Q) E s:=
 call_range_3 hd (VT (o:= .w9 a c d) S rfl ⟨_,_,t,u,v,rfl,by simp,λh r e=>e⟩ h) (.inl (dK hs))
theorem M0.WT(S:M0 w b cx H rs h og)(k:∀a o,h.get? a=some o->h'.get? a=some o)(big:b.objs.size<=h'.objs.size):M0 w b cx H rs h' og:=
 ⟨λa o e=>k a o (S.keep a o e),λp hp=>⟨(S.ns p hp).1.keeps k,(S.ns p hp).2⟩,λp hp=>⟨k p.1 p.2 (S.at_ p hp).1,(S.at_ p hp).2⟩,S.nd,S.len,⟨big,S.big.2⟩,S.tab,S.ok⟩
theorem JM{L:Addr}{m:Str->Option Value}(hL:(L,m)∈cx.fs)(ha:b.objs.size<=L){p:Addr}{vs:List Value}{nn:Nat}{xs:List V}{Q:K1}(S:M0 w b cx σ.heap rs s.heap (s.os,s.gens))(hg:s.heap.get? p=some (seqObj "list" vs.toArray nn))(ok:V0 b rs xs vs)(hl:vs.length<=100000)(h:Q (.ref σ.new) (σ.push (.tup xs))):
 wpAny (model E1 w) A (call (.type "tuple") [.ref p]) (PV w b cx rs Q) E s:=by
 refine call_tuple_list (H4 hg) (λh' hk=> ?_) (E9 hl);have S':=S.WT hk (V7 ha (Nat.le_of_lt ((S.ns _ hL).1.keeps hk).lt));exact .DC (s:={s with heap:=h'}) (o:= .tup xs) (ob:=seqObj "tuple" vs.toArray 0) S' rfl ⟨_,vs,0,rfl,ok.ext (Ext.push _ _)⟩ h
end
section
theorem XT(h:YJ xs=some p)(x:V0 b rs xs vs):IntsAre vs p.2:=by
 induction xs generalizing vs p with
 |nil=>obtain rfl:=si h;obtain rfl:=x;exact .nil
 |cons v xs ih=>
  refine U1 x λu r B0=> ?_;clear x;subst B0;intro x1 x2;refine u3 h λi e h=>B5 h λq e2 h=> ?_;subst h;refine x1.int e λt=> .cons _ _ (ih (p:=q) e2 x2)
theorem LM(h:R3 l=true):∀k∈l,0<=k/\k<256:=λk hk=>by
 have:=xC.mp h k hk;simpa using this
theorem MM(hA:B2 A n)(hL:(L,m)∈cx.fs)(ha:b.objs.size<=L)(S:M0 w b cx σ.heap rs s.heap (s.os,s.gens))(hg:s.heap.get? p=some (seqObj "list" vs.toArray nn))(ok:V0 b rs xs vs)(hl:vs.length<=100000)
 (e:YJ xs=some p') (hb:R3 p'.2=true) (h:Q (.bytes sg' (qt p'.2)) σ):wpAny (model E1 w) A (call (.type "bytes") [.ref p]) (PV w b cx rs Q) E s:=by
 refine call_bytes_ints (H4 hg) (XT e ok) (LM hb) (E9 hl) hA.handled λh' t k hk=> ?_;have S':=S.WT hk (V7 ha (Nat.le_of_lt ((S.ns _ hL).1.keeps hk).lt));exact .here (s':={s with heap:=h',toks:=k}) h S' (.refl rs) ⟨t,rfl⟩
end
noncomputable def bindTo(t:FT)(us:List Value):List (Str×Value):=((QJ (V2 t.f)).args.map (·.arg)).zip us
noncomputable def nA(t:FT):Nat:=(QJ (V2 t.f)).args.length
noncomputable def wK(g:Nat->Value)(n:Nat):List Value:=(List.range n).map g
theorem args_eq(h:us.length=n):us=wK (λi=>us.getD i .none) n:=by
 subst h;refine List.ext_getElem (by simp[wK]) λi h1 h2=> ?_;simp[wK,h1]
noncomputable def yf(t:FT)(x:Sem (List (Str×Value))):Sem (List (Str×Value)):=match t.dV with| .none=>x|_=>pure []
theorem FQ(g:Nat->Value):(XG.map λt=>yf t (bindArgs t.data ⟨wK g (nA t),[]⟩))=XG.map λt=>yf t (pure (bindTo t (wK g (nA t)))):=by kernel_rfl
theorem YT(h:t∈XG)(hd:t.dV= .none)(hl:us.length=nA t):bindArgs t.data ⟨us,[]⟩=pure (bindTo t us):=by
 have:=List.map_inj_left.mp (FQ λi=>us.getD i .none) t h;unfold yf at this;rw[hd,<-args_eq hl] at this;exact this
theorem F9(h:ZG x l=true):x∉l:=by
 induction l with
 |nil=>exactλm=>nomatch m
 |cons y r ih=>exactλm=>Sj h (λ_ h=>G2 h) λe h=>(M4.mp m).elim (λq=>G2 (e.symm.trans (q▸b7 x))) (ih h)
theorem aF(h:Gb l=true):l.Nodup:=by
 induction l with
 |nil=>exact List.nodup_nil
 |cons x r ih=>exact Sj h (λe h=>H7.mpr ⟨F9 e,ih h⟩) λ_ h=>G2 h
noncomputable def oc(o:Option NameKind):Bool:=Option.rec (motive:=λ_=>Bool) false (λk=>NameKind.casesOn (motive:=λ_=>Bool) k false true false false false) o
noncomputable def Kv(o:Option NameKind):Bool:=mO o||oc o
theorem XO(h:oc o=true):o=some .cell:=by
 induction o using opQ with
 |none=>exact G2 h
 |some k=>induction k using PySem.NameKind.casesOn<;>first|rfl|exact G2 h
noncomputable def Lv(k:ScopeKind):Bool:=decide (k= .function)
noncomputable def tc(t:FT):Bool:=
 let sc:=Q3 (V2 t.f);let ps:=(QJ (V2 t.f)).args.map (·.arg)
 Gb (sc.names.map (·.1))&&Gb ps&&allB (λp=>Kv (lk p sc.names)) ps&& !sc.isCoroutine&& !sc.isGenerator&&Lv sc.kind
  &&ZG "__debug__" (sc.names.map (·.1))&&ZG "__classdict__" (sc.names.map (·.1))
theorem yY:allB tc XG=true:=by kernel_rfl
noncomputable def Ct(f:V):Option (Nat×Option Nat):=V.rec (motive:=λ_=>Option (Nat×Option Nat)) none (λ_ _=>none) (λ_ _=>none) (λ_=>none) (λ_ _=>none) (λ_=>none) (λ_=>none) (λi=>some (i,none)) (λi j=>some (i,some j)) (λ_=>none) (λ_=>none) (λ_=>none) f
noncomputable def vFn(p:Nat×Option Nat):V:=Option.rec (motive:=λ_=>V) (.fn p.1) (λj=> .mt p.1 j) p.2
theorem uc(h:Ct f=some p):f=vFn p:=by induction f using V.casesOn<;>first|exact A0 h|exact si h▸rfl
noncomputable def GQ(f g:V):Bool:=decide (Ct f=Ct g)&&(Ct f).isSome
theorem YO(h:GQ f g=true):f=g:=R1 h λh1 h2=>by
 refine O0 (eO.mp h2) λp hp=> ?_;rw[uc hp,uc ((of_decide_eq_true h1).symm.trans hp)]
theorem zY:allB (λp:Nat×Addr=>XG.any λt=>GQ t.f (.fn p.1)&&Nat.beq t.a p.2) zv=true:=by kernel_rfl
noncomputable def Mv:List Addr->Nat->List (Nat×Addr)
 |[],_=>[]
 |a::r,j=>(j,a)::Mv r (j+1)
theorem AY(h:J0 l j=some a):(k+j,a)∈Mv l k:=by
 induction l generalizing j k with
 |nil=>exact A0 h
 |cons x l ih=>induction j using iB with
  |zero=>exact si h▸M3
  |succ j=>exact a5 _ (Nat.add_right_comm k 1 j▸ih (k:=k+1) h)
theorem BY:allB (λp:Nat×List Addr=>allB (λq:Nat×Addr=>XG.any λt=>GQ t.f (.mt p.1 q.1)&&Nat.beq t.a q.2) (Mv p.2 0)) Dz=true:=by kernel_rfl
theorem ZT(h:(XG.any λt=>GQ t.f f&&Nat.beq t.a a)=true):∃t∈XG,t.f=f/\t.a=a:=by
 refine u0 (List.any_eq_true.mp h) λt ht e=> ?_;exact R1 e λe1 e2=>⟨t,ht,YO e1,V9 e2⟩
theorem Jl(h:J6 f=some a)(hf:(yX f).isSome=true):∃t∈XG,t.f=f/\t.a=a:=by
 induction f using V.casesOn with
 |fn i=>exact ZT (Z6 zY _ (dE h))
 |mt i j=>exact u3 h λl hl hj=>ZT (by simpa using Z6 (Z6 BY _ (dE hl)) _ (AY (k:=0) hj))
 |_=>exact G2 hf
theorem zf(h:yX f=some d):d.ps=(QJ (V2 f)).args.map (·.arg)/\d.body=bodyOf (V2 f)/\d.sc=Q3 (V2 f):=by
 have key:∀{s:Stmt},ZR s=some d->d.ps=(QJ s).args.map (·.arg)/\d.body=bodyOf s/\d.sc=Q3 s:=λ{s} h=>by
  cases s with
  |FunctionDef=>obtain rfl:=si h;exact⟨rfl,rfl,rfl⟩
  |_=>exact A0 h
 induction f using V.casesOn with
 |fn i=>exact key h
 |mt i j=>exact u3 h λs hs h=>(show V2 (.mt i j)=s by show(J0 (PH (yj i)) j).getD _=s;rw[hs];rfl)▸key h
 |_=>exact A0 h
noncomputable abbrev Kl:=qQ
theorem t7.names{κ:Type}{b:Heap}{rs:List RO}{bs:List (κ×V)}{us:List (κ×Value)}(h:t7 b rs bs us):us.map (·.1)=bs.map (·.1):=by
 induction bs generalizing us with
 |nil=>obtain rfl:=h;rfl
 |cons p bs ih=>refine U1 h λu q B0=> ?_;clear h;subst B0;intro a c;exact congrArg (p.1::·) (ih c)
theorem t7.at{b:Heap}{rs:List RO}{x:Str}{bs:List (Str×V)}{us:List (Str×Value)}(h:t7 b rs bs us):(∀v,lk x bs=some v->∃u,lk x us=some u/\E2 b rs v u)/\(lk x bs=none->lk x us=none):=by
 induction bs generalizing us with
 |nil=>obtain rfl:=h;exact⟨λ_ e=>A0 e,λ_=>rfl⟩
 |cons p bs ih=>
  refine U1 h λu q B0=> ?_;clear h;subst B0;intro a c;simp only[d3];induction sq p.1 x using Q2 with
  |true=>exact⟨λv e=>⟨u,rfl,si e▸a⟩,λe=>MR e⟩
  |false=>exact ih c
theorem V0.zip{κ:Type}{b:Heap}{rs:List RO}{ps:List κ}{args:List V}{us:List Value}(x:V0 b rs args us):t7 b rs (ps.zip args) (ps.zip us):=by
 induction args generalizing ps us with
 |nil=>obtain rfl:=x;induction ps using H5<;>exact rfl
 |cons a args ih=>
  refine U1 x λu r B0=> ?_;clear x;subst B0;intro x1 x2;induction ps using H5 with
  |nil=>exact rfl
  |cons p ps=>exact⟨u,_,rfl,x1,ih x2⟩
theorem xK:∀{us:List (Str×Value)}{m:Str->Option Value},(us.map (·.1)).Nodup->bindL k us m x=(match lk x us with|some v=>if k x=some .local then some v else m x|none=>m x)
 |[],m,_=>rfl
 |(y,v)::r,m,nd=>by
  refine D0 (H7.mp nd) λn1 n2=> ?_;have ih:=λm=>xK (k:=k) (x:=x) (us:=r) (m:=m) n2;unfold bindL;simp only[d3];rw[ih _];by_cases e:y=x
  .subst e;rw[b7 _];have:lk y r=none:=by
    induction q:lk y r using opQ with
    |none=>rfl
    |some z=>exact absurd (d5 (f:=(·.1)) (u7 q)) n1
   rw[this];by_cases hk:k y=some .local<;>simp[hk]
  .have:sq y x=false:=by cases q:sq y x;rfl;exact absurd (x6 q) e
   rw[this];have e':¬x=y:=λh=>e h.symm;cases lk x r<;>simp only
   .by_cases hk:k y=some .local<;>simp[hk,e']
   .by_cases hk:k y=some .local<;>simp[hk,e']
theorem yK:∀{us:List (Str×Value)}{m:Str->Option Value},(us.map (·.1)).Nodup->bindC k us m x=(match lk x us with|some v=>if k x=some .local then m x else some v|none=>m x)
 |[],m,_=>rfl
 |(y,v)::r,m,nd=>by
  refine D0 (H7.mp nd) λn1 n2=> ?_;have ih:=λm=>yK (k:=k) (x:=x) (us:=r) (m:=m) n2;unfold bindC;simp only[d3];rw[ih _];by_cases e:y=x
  .subst e;rw[b7 _];have:lk y r=none:=by
    induction q:lk y r using opQ with
    |none=>rfl
    |some z=>exact absurd (d5 (f:=(·.1)) (u7 q)) n1
   rw[this];by_cases hk:k y=some .local<;>simp[hk]
  .have:sq y x=false:=by cases q:sq y x;rfl;exact absurd (x6 q) e
   rw[this];have e':¬x=y:=λh=>e h.symm;cases lk x r<;>simp only
   .by_cases hk:k y=some .local<;>simp[hk,e']
   .by_cases hk:k y=some .local<;>simp[hk,e']
theorem zK:locals sc (p::r)=if lk p.1 sc.names=some .local then p::locals sc r else locals sc r:=by
 unfold locals;rw[nM];induction lk p.1 sc.names using opQ with
 |none=>rfl
 |some k=>induction k using PySem.NameKind.casesOn<;>rfl
theorem GC:∀{bs:List (Str×V)},lk x (locals sc bs)=some a->lk x bs=some a/\lk x sc.names=some .local
 |[],h=>by exact A0 h
 |p::r,h=>by
  rw[zK] at h;by_cases e:lk p.1 sc.names=some .local
  .rw[if_pos e] at h;have c:∀l:List (Str×V),lk x (p::l)=(match sq p.1 x with|true=>some p.2|false=>lk x l):=λl=>d3;rw[c] at h⊢;induction hx:sq p.1 x using Q2 with
   |true=>
    rw[hx] at h;obtain rfl:=si h;exact⟨rfl,by rw[(x6 hx).symm];exact e⟩
   |false=>
    rw[hx] at h;exact GC (sc:=sc) h
  .rw[if_neg e] at h;refine D0 (GC (sc:=sc) h) λh1 h2=> ?_;refine⟨?_,h2⟩;simp only[d3];induction hx:sq p.1 x using Q2 with
   |true=>
    rw[x6 hx] at e;exact absurd h2 e
   |false=>exact h1
theorem q8{p:Str×Addr}{names:List (Str×NameKind)}:∀{n:Nat}{acc:List (Str×Addr)},p∈cellsFrom n names acc↔p∈acc\/p∈cellsFrom n names []:=by
 induction names with
 |nil=>
  intro n acc;simp[cellsFrom]
 |cons Ll r ih=>
  obtain⟨x,k⟩:=Ll;intro n acc;unfold cellsFrom
  split
  .rw[ih (acc:=(x,n)::acc),ih (acc:=[(x,n)])];simp only[M4,v8,or_false];constructor
   .rintro((h|h)|h)
    .exact .inr (.inl h)
    .exact .inl h
    .exact .inr (.inr h)
   .rintro(h|h|h)
    .exact .inl (.inr h)
    .exact .inl (.inl h)
    .exact .inr h
  .exact ih
section
noncomputable def bF(b:Heap)(rs:List RO)(h:Heap)(bs:List (Str×V))(x:Str)(c:Addr):Prop:=
 ∃o cv,h.get? c=some o/\o.data= .cell cv/\rQ b rs (lk x bs) cv
theorem bF.ext{rs rs':List RO}{h:Heap}{bs:List (Str×V)}{x:Str}{c:Addr}(X:Ext rs rs')(z:bF b rs h bs x c):bF b rs' h bs x c:=by
 refine U1 z λo cv h1 h2 h3=> ?_;clear z;exact⟨o,cv,h1,h2,h3.ext X⟩
theorem AK{h:Heap}{bs:List (Str×V)}{names:List (Str×NameKind)}:∀{n:Nat}{acc:List (Str×Nat)}{cacc:List (Str×Addr)}{σ:St}{rs:List RO},
 M0 w b cx σ.heap rs h og->(∀p∈cx.fs,p.1<n)->(∀p∈cx.os++led rs,p.1<n)->b.objs.size<=n->(∀x c,(x,c)∈cellsFrom n names []->bF b rs h bs x c)->D9 rs acc cacc->
 ∃rs',M0 w b cx (Q4 bs names acc σ).2.heap rs' h og/\Ext rs rs'/\D9 rs' (Q4 bs names acc σ).1 (cellsFrom n names cacc):=by
 induction names with
 |nil=>
  intro n acc cacc σ rs S _ _ _ _ C;exact⟨rs,S,.refl rs,C⟩
 |cons Ll r ih=>
  obtain⟨x,k⟩:=Ll;intro n acc cacc σ rs S h1 h2 h3 h4 C;by_cases hk:k= .cell
  .subst hk;have e1:cellsFrom n ((x,NameKind.cell)::r) cacc=cellsFrom (n+1) r ((x,n)::cacc):=rfl;have e2:Q4 bs ((x,NameKind.cell)::r) acc σ=Q4 bs r ((x,σ.new)::acc) (σ.push (.cell (lk x bs))):=rfl;rw[e1,e2];refine U1 (h4 x n (by show(x,n)∈cellsFrom (n+1) r [(x,n)];exact q8.mpr (.inl M3))) λo cv g1 g2 g3=> ?_;have X:=Ext.push rs (.one n o);have S':M0 w b cx (σ.push (.cell (lk x bs))).heap (rs++[.one n o]) h og:=by
    refine S.more (r:= .one n o) (λp hp=> ?_) (by simp[RO.led]) ⟨n,o,cv,rfl,g2,?_⟩
    .obtain rfl:p=(n,o):=by simpa[RO.led] using hp
     refine⟨g1,fH h3,λhm=> ?_,λhm=> ?_⟩
     .refine u0 (z5.mp hm) λq hq e=> ?_;have:=h1 q hq;rw[e] at this;exact Nat.lt_irrefl _ this
     .refine u0 (z5.mp hm) λq hq e=> ?_;have:=h2 q hq;rw[e] at this;exact Nat.lt_irrefl _ this
    .exact g3.ext X
   obtain⟨rs',S2,X2,C2⟩:=ih (n:=n+1) (acc:=(x,σ.new)::acc) (cacc:=(x,n)::cacc) S' (λp hp=>Nat.lt_succ_of_lt (h1 p hp)) (λp hp=>by
    rw[g5,<-i7] at hp;rcases R5.mp hp with hp|hp
    .exact Nat.lt_succ_of_lt (h2 p hp)
    .obtain rfl:p=(n,o):=by simpa[RO.led,led] using hp
     exact Nat.lt_succ_self n) (Nat.le_succ_of_le h3) (λy c hy=>(h4 y c (by show(y,c)∈cellsFrom (n+1) r [(x,n)];exact q8.mpr (.inr hy))).ext X) (λy i e=>by
    rw[d3] at e;rw[List.lookup_cons];induction hx:sq x y using Q2 with
    |true=>
     rw[hx] at e;obtain rfl:=si e;refine⟨n,?_,?_⟩
     .rw[O7,Bool.beq_comm] at hx;rw[hx]
     .have:=j7 rs (.one n o);rw[<-S.len] at this;exact this
    |false=>
     rw[hx] at e;refine u0 (C y i e) λa q1 q2=> ?_;refine⟨a,?_,X.at_ _ _ q2⟩;rw[O7,Bool.beq_comm] at hx;rw[hx];exact q1)
   exact⟨rs',S2,X.trans X2,C2⟩
  .have Ml:(k==NameKind.cell)=false:=by induction k using PySem.NameKind.casesOn<;>first|rfl|exact absurd rfl hk
   have e1:∀c,cellsFrom n ((x,k)::r) c=cellsFrom n r c:=λc=>by show(if _ then _ else _)=_;rw[Ml];rfl
   have e2:Q4 bs ((x,k)::r) acc σ=Q4 bs r acc σ:=by induction k using PySem.NameKind.casesOn<;>first|rfl|exact absurd rfl hk
   rw[e1 _,e2];exact ih S h1 h2 h3 (λy c hy=>h4 y c (by rw[e1 _];exact hy)) C
theorem M0.frame(S:M0 w b cx H rs h og)(k:∀a o,h.get? a=some o->h'.get? a=some o)(hn:h'.Ns h.objs.size m):M0 w b (cx.put h.objs.size m) H rs h' og:=by
 have f:=S.fresh (j6 _);refine⟨λa o e=>k a o (S.keep a o e),λp hp=> ?_,λp hp=>⟨k _ _ (S.at_ p hp).1,(S.at_ p hp).2⟩,?_,S.len,⟨V7 S.big.1 (Nat.le_of_lt hn.lt),S.big.2⟩,S.tab,S.ok⟩
 .rcases M4.mp hp with rfl|hp
  .exact⟨hn,f.1⟩
  .exact⟨(S.ns p hp).1.keeps k,(S.ns p hp).2⟩
 .show(h.objs.size::(cx.fs.map (·.1)++(cx.os++led rs).map (·.1))).Nodup;refine H7.mpr ⟨λhm=> ?_,S.nd⟩;rcases R5.mp hm with hm|hm
  .exact f.2.1 hm
  .exact f.2.2 hm
theorem M0.left(S:M0 w b (cx.put L m) H rs h og):M0 w b cx H rs h og:=
 ⟨S.keep,λp hp=>S.ns p (a5 _ hp),S.at_,(H7.mp (show(L::(cx.fs.map (·.1)++(cx.os++led rs).map (·.1))).Nodup from S.nd)).2,S.len,S.big,S.tab,S.ok⟩
end
theorem DB:∀{l:List (Addr×α)}{a:Addr}{o:α},(l.map (·.1)).Nodup->(a,o)∈l->l.lookup a=some o
 |p::r,a,o,nd,h=>by
  refine D0 (H7.mp nd) λn1 n2=> ?_;rw[show p=(p.1,p.2) from rfl,List.lookup_cons];rcases M4.mp h with e|h
  .rw[e.symm];simp
  .have:¬a=p.1:=λe=>n1 (by show p.1∈_;rw[e.symm];exact d5 (f:=(·.1)) h);have:(a==p.1)=false:=by simpa using this
   rw[this];exact DB n2 h
theorem Nl:KA.Nodup:=by decide
theorem NM(h:(a,o)∈KL P):(KL P).lookup a=some o:=DB ((Cb P)▸Nl) h
theorem Ol(P:Params)(h:t∈XG):(KL P).lookup t.a=some t.obj:=NM (u5 _ (d5 (f:=λt=>(t.a,t.obj)) h))
theorem cF{names:List (Str×NameKind)}:∀{n:Nat}{y:Str}{c:Addr},(names.map (·.1)).Nodup->(y,c)∈cellsFrom n names []->names.lookup y=some .cell:=by
 induction names with
 |nil=>
  intro _ _ _ _ h;cases h
 |cons Ll r ih9=>
  obtain⟨x,k⟩:=Ll;intro n y c nd h;refine D0 (H7.mp nd) λn1 n2=> ?_;have go:∀{n},(y,c)∈cellsFrom n r []->((x,k)::r).lookup y=some .cell:=λ{n} h=>by
   have ih:=ih9 n2 h;rw[List.lookup_cons];have:¬y=x:=λe=>n1 (by show x∈_;rw[e.symm];rw[<-Y9] at ih;exact d5 (f:=(·.1)) (u7 ih));rw[show(y==x)=false from by simpa using this];exact ih
  by_cases hk:k= .cell
  .subst hk;have e1:cellsFrom n ((x,NameKind.cell)::r) []=cellsFrom (n+1) r [(x,n)]:=rfl;rw[e1] at h;rcases q8.mp h with h|h
   .obtain⟨rfl,rfl⟩:y=x/\c=n:=by simpa using h
    rw[List.lookup_cons];simp
   .exact go h
  .have Ml:(k==NameKind.cell)=false:=by induction k using PySem.NameKind.casesOn<;>first|rfl|exact absurd rfl hk
   have e1:cellsFrom n ((x,k)::r) []=cellsFrom n r []:=by show(if _ then _ else _)=_;rw[Ml];rfl
   rw[e1] at h;exact go h
set_option tactic.hygienic true in
theorem EG:∀{n:Nat}{acc:List (Str×Addr)},((cellsFrom n names acc).map (·.1))=List.reverse ((names.filter λx=>x.2== .cell).map (·.1))++acc.map (·.1):=by
 induction names with
 |nil=>intro n acc;simp[cellsFrom]
 |cons p r ih=>
  intro n acc;obtain⟨x,k⟩:=p;unfold cellsFrom;rw[nM]
  split
  .rename_i e;rw[ih];simp
  .rename_i e;rw[ih]
theorem CI(h:(names.map (·.1)).Nodup):((cellsFrom n names []).map (·.1)).Nodup:=by
 rw[EG];simp only[List.map_nil,VG];exact(List.reverse_perm _).nodup_iff.mpr ((List.filter_sublist.map _).nodup h)
section
noncomputable abbrev Pl(Q:K1):KS:=λfl _ M1=>Fl.casesOn (motive:=λ_=>Prop) fl (Q .none M1) (No 124) (No 124) (λv=>Q v M1)
theorem B2.deeper(h:B2 A (n+1))(env:Env):B2 (A.deeper env) n:=⟨h.handled,by have:=h.depth;show A.depth+1+n+5<_;lia,by have:=h.units;show A.units+3+8*n+200<_;lia⟩
theorem B2.less(h:B2 A n)(hk:k<=n):B2 A k:=⟨h.handled,by have:=h.depth;lia,by have:=h.units;lia⟩
theorem aU(B:k3 w b)(wA:xI w b n R)(hA:B2 A (n+1)){t:FT}(ht:t∈XG){us:List Value}{bs:List (Str×V)}{binds:List (Str×Value)}{Q:K1}
 (hb:BindsTo s t.data ⟨us,[]⟩ binds) (ok:Kl b rs bs binds) (hn:bs.map (·.1)=(QJ (V2 t.f)).args.map (·.arg)) (S:M0 w b cx σ.heap rs s.heap (s.os,s.gens))
 (h:R.ex (bodyOf (V2 t.f)) (Q3 (V2 t.f)) ⟨locals (Q3 (V2 t.f)) bs,(Q4 bs (Q3 (V2 t.f)).names [] σ).1⟩ (Q4 bs (Q3 (V2 t.f)).names [] σ).2 (Pl Q)):
 codeAny (model E1 w) A (.call (.ref t.a) ⟨us,[]⟩) (λr s'=>match r with| .ok (.ret v)=>PV w b cx rs Q v s'|_=>False) s:=by
 have ck:=Z6 yY t ht;unfold tc at ck;simp only[JD,Bool.not_eq_true'] at ck;refine D0 ck λB0=> ?_;clear ck;refine D0 B0 λx9=> ?_;clear B0;refine D0 x9 λSR=> ?_;clear x9;refine D0 SR λgj=> ?_;clear SR;refine D0 gj λLz=> ?_;clear gj;refine D0 Lz λMz=> ?_;clear Lz;refine D0 Mz λc1 c2=> ?_;clear Mz;intro c3;intro c4;intro c5;intro c6;intro c7;intro c8;have hk:(Q3 (V2 t.f)).kind= .function:=of_decide_eq_true c6;have ho:s.heap.get? t.a=some t.obj:=S.keep _ _ (B.K t.a t.obj (Ol _ ht));refine w6 B.top λmg mb T=> ?_;have Nz:=ok.names;have nd:(binds.map (·.1)).Nodup:=by rw[Nz,hn];exact aF c2
 have Et:s.heap.CodeRec (.ref (t.a -1)) t.q:=by
  refine pB (B.code t ht) λc o vs tk e h1 h2 h3=> ?_;exact⟨c,o,vs,tk,e,S.keep _ _ h1,h2,h3⟩
 refine codeAny_call_function (fd:=t.data) (body:=bodyOf (V2 t.f)) (by have:=hA.depth;lia) ho rfl c4 c5 rfl Et (hb _ _ _ _ ?_);refine wpAny_newFunctionEnv_cells hk (λx hx=> ?_) λenv he s' x=> ?_
 .have hp:x.1∈(QJ (V2 t.f)).args.map (·.arg):=by rw[hn.symm,Nz.symm];exact d5 hx
  have:=Z6 c3 _ hp;rw[Y9] at this;show(Q3 (V2 t.f)).names.lookup x.1=_\/((Q3 (V2 t.f)).names.lookup x.1=_/\_);exact(Bool.or_eq_true _ _▸this).elim (λq=> .inl (VH q)) λq=> .inr ⟨XO q,cellsFrom_some _ _ _ (.inl (XO q))⟩
 .subst he;refine⟨(T.nolimit.keeps S.keep).keeps x.toInCall.keep,codeAny_func ?_⟩;refine A3 x.done λY3 tk B0=> ?_;subst B0;intro _;have k₁:=x.toInCall.keep;have S1:=S.frame k₁ x.toInCall.ns;have Oz:(((Q3 (V2 t.f)).names).map (·.1)).Nodup:=aF c1;have Wi:∀y k,lk y (Q3 (V2 t.f)).names=some k->y∈((Q3 (V2 t.f)).names).map (·.1):=λy k e=>d5 (f:=(·.1)) (u7 e);have hc:∀y c,(y,c)∈cellsFrom (s.heap.objs.size+1) (Q3 (V2 t.f)).names []->bF b rs Y3 bs y c:=λy c hy=>by
   have hnd:((cellsFrom (s.heap.objs.size+1) (Q3 (V2 t.f)).names []).map (·.1)).Nodup:=CI Oz;refine u0 (x.cell y c (lookup_of_mem_nodup hnd hy)) λo e1 e2=> ?_;refine⟨o,_,e1,e2,?_⟩;have Ql:(Q3 (V2 t.f)).names.lookup y=some .cell:=cF Oz hy;rw[yK nd];have q:=ok.at (x:=y);induction hb:lk y bs using opQ with
   |none=>rw[q.2 hb];trivial
   |some v=>
    refine u0 (q.1 v hb) λu q1 q2=> ?_;rw[q1];have:∀{c:Prop}[Decidable c],¬c->rQ b rs (some v) (if c then(λ_=>none:Str->Option Value) y else some u):=λhc=>by rw[if_neg hc];exact q2
    refine this ?_;show¬(Q3 (V2 t.f)).names.lookup y=_;rw[Ql];decide
  obtain⟨FG,S2,X2,C2⟩:=AK (bs:=bs) (names:=(Q3 (V2 t.f)).names) (n:=s.heap.objs.size+1) (acc:=[]) (cacc:=[]) S1 (λp hp=>by
   rcases M4.mp hp with rfl|hp
   .exact Nat.lt_succ_self _
   .exact Nat.lt_succ_of_lt (S.ns p hp).1.lt) (λp hp=>Nat.lt_succ_of_lt (S.lt hp)) (Nat.le_succ_of_le S.big.1) hc (λ_ _ e=>by exact A0 e)
  .refine wpAny_mono (wA h (hA.deeper _) (E:=λ_ _=>False) (cx:=cx) (rs:=FG) (m:=_) S2 ⟨hk,λy k e=>⟨?_,?_,?_⟩,rfl,rfl,S.big.1,?_,C2⟩) (λfl s' hl=> ?_) λ_ _ z=>False.elim z
   .show(Q3 (V2 t.f)).names.lookup y=_;rw[<-Y9];exact e
   .exact beq_eq_false_iff_ne.mpr λq=>F9 c7 (q▸Wi y k e)
   .exact beq_eq_false_iff_ne.mpr λq=>F9 c8 (q▸Wi y k e)
   .intro y a e;refine D0 (GC e) λe1 e2=> ?_;refine u0 ((ok.at (x:=y)).1 a e1) λu q1 q2=> ?_;refine⟨u,?_,q2.ext X2⟩;rw[xK nd,q1];dsimp only;rw[if_pos];show(Q3 (V2 t.f)).names.lookup y=_;rw[<-Y9];exact e2
   .obtain⟨g,fr,M1,I3,m2,q,S3,N3,X3,o3⟩:=hl;induction g using Fl.casesOn<;>cases fl<;>first|exact o3.elim|skip
    .exact⟨_,M1,I3,q,S3.left,X2.trans X3,rfl⟩
    .exact absurd q (by intro z;cases z)
    .exact absurd q (by intro z;cases z)
    .exact⟨_,M1,I3,q,S3.left,X2.trans X3,o3⟩
end
theorem r8(f:α->β):∀(l:List α)(i:Nat),(l.map f).eraseIdx i=(l.eraseIdx i).map f
 |[],_=>rfl
 |_::_,0=>rfl
 |a::l,i+1=>by simp[r8 f l i]
section
variable{prog:Program}{w:World}{K:Type}[DecidableEq K](knd:HeapKind prog w K){k:K}(d a:Addr)
theorem OM(hd:(d==sysModules)=false):
 MeetsIn prog w (Builtin.«dict.__len__» ⟨[.ref d],[]⟩) (λ_ R s=>∃xs,s.heap.DictOfH knd d xs/\R (.ok (.ret (.int xs.length s.toks))) {s with toks:=s.toks+1}):=
 .of_wp λA R s h=>by
  refine u0 h ?_;clear h;intro xs hm h;refine AA hm λo es ep ho hc HQ he vc hn=> ?_;clear hm;show wpAny _ _ (dictSize d>>=_) _ _ s;unfold dictSize;refine wpAny_bind (wpAny_bind (wpAny_dictEntries ho HQ (wpAny_pure ?_)));show wpAny _ _ (Builtin.Dict.pendingCount d>>=_) _ _ s;refine wpAny_bind (wpAny_pendingCount_other hd ?_);refine wpAny_ret_mkInt ?_;rw[Nat.add_zero _,size_of_entries he];exact h
theorem IQ(hd:(d==sysModules)=false)(hm:s.heap.DictOfH knd d xs)(a0d:(xs.length:Int)<2^63)
 (h:Q (.int xs.length (s.toks+1)) {s with toks:=s.toks+1+1}):wpAny (model prog w) A (call (.builtin "len") [.ref d]) Q E s:=by
 refine Calls.call_function_entry kind_len plain_len entry_len (args_len1 _) ?_;unfold Builtin.«len»;refine wpAny_bind (m:=oneArg "len" _) (wpAny_pure ?_);refine wpAny_bind (m:=callSpecial? (.ref d) (Str.ofString "__len__")) (wpAny_callSpecial?_slot (name:=Str.ofString "__len__") hm.typeIs F.slot_dict_len
  (call_meetsIn F.slot_dict_len hm.typeIs F.entry_dict_len (F.args_dict_len_1 _) (OM knd d hd) ⟨xs,hm,?_⟩))
 show wpAny _ _ _ _ _ {s with toks:=s.toks+1};refine wpAny_bind (wpAny_holding (wpAny_pure ?_));refine wpAny_bind (wpAny_letGo ?_);show wpAny _ _ (if((xs.length:Nat):Int)<0 then _ else _) _ _ _;rw[if_neg (by lia)];show wpAny _ _ (if((xs.length:Nat):Int)≥2^63 then _ else _) _ _ _;rw[if_neg (by lia)];exact wpAny_bind (wpAny_mkInt (wpAny_pure ⟨_,rfl,h⟩))
variable{knd}{d a}
theorem bU(hu:knd.room A)(PM:knd.is s.heap k a)(hm:s.heap.DictOfH knd d xs)
 (Rl:(∀(j:Nat)(p:Addr×Value),xs[j]?≠some (k,p))->Q none {s with toks:=s.toks+knd.draws k})
 (Sl:∀j p e,xs[j]? =some (k,p)->e.val=p.2->∀h',h'.DictOfH knd d (xs.eraseIdx j)->Heap.SameBut d s.heap h'->Q (some e) {s with heap:=h',toks:=s.toks+knd.draws k})
 (hsz:xs.length<=sizeLine):wpAny (model prog w) A (Builtin.Dict.takeOut d (.ref a)) Q E s:=by
 refine AA hm λo es ep ho hc hd he vc hn=> ?_;clear hm;unfold Builtin.Dict.takeOut
 try with_reducible refine wpAny_holding ?_
 refine wpAny_bind (knd.pyHash hu PM ?_);refine wpAny_bind (wpAny_dictFind_heap (s:={s with toks:=s.toks+knd.draws k}) hu PM ho hd he vc hn ?_ ?_)
 .intro JQ;exact wpAny_pure (Rl JQ)
 .intro j p hj;refine wpAny_bind (wpAny_dictEntries (s:={s with toks:=s.toks+knd.draws k}) ho hd ?_);rw[entry_at he j,hj];have hes:es.size<=sizeLine:=by rw[size_of_entries he];exact hsz
  refine wpAny_bind (wpAny_updateDictKeys (hz:=hes) (s:={s with toks:=s.toks+knd.draws k}) ho hd (wpAny_pure (Sl j p (entryOfKey knd (k,p)) hj rfl _ ⟨_,_,ep+1,Heap.get?_update_self _ ho (Obj.isFreed_of_dict (Obj.data_mapDictKeys hd _)),
   hc.mapDictKeys _,Obj.data_mapDictKeys hd _,?_,?_,?_⟩ (Heap.SameBut.update ..))))
  .obtain⟨l⟩:=es;simp only[List.eraseIdxIfInBounds_toArray] at he⊢;rw[he,r8]
  .intro x hx;exact knd.keeps (vc x (List.mem_of_mem_eraseIdx hx)) ho hd (Heap.SameBut.update ..)
  .rw[<-r8];exact(List.eraseIdx_sublist _ _).nodup hn
theorem QM{es:Array DictEntry}{xs:List (K×Addr×Value)}(he:es.toList=xs.map (entryOfKey knd)):es.isEmpty=xs.isEmpty:=by
 have:=size_of_entries he;induction xs using H5 with
 |nil=>simp at this;simp[this]
 |cons x r=>simp at this;simp[Array.isEmpty,this]
theorem ZO{A:Around}{E:Value->Shared->Prop}{s:Shared}{xs:List (K×Addr×Value)}{α:Type}{N:Option DictEntry->Sem α}{Q:α->Shared->Prop}(hu:knd.room A)(PM:knd.is s.heap k a)(hm:s.heap.DictOfH knd d xs)(hsz:xs.length<=sizeLine)
 (h0:(∀(j:Nat)(p:Addr×Value),xs[j]?≠some (k,p))->∀tk,wpAny (model prog w) A (N none) Q E {s with toks:=tk})
 (h1:∀j p e,xs[j]? =some (k,p)->e.val=p.2->∀h' tk,h'.DictOfH knd d (xs.eraseIdx j)->Heap.SameBut d s.heap h'->wpAny (model prog w) A (N (some e)) Q E {s with heap:=h',toks:=tk}):
 wpAny (model prog w) A (do
  let empty<-if(keyPart (.ref a)).isSome then pure false else do pure (<-dictEntries d).isEmpty
  let old<-if empty then rule "dict.pop.empty";pure none else Builtin.Dict.takeOut d (.ref a)
  N old) Q E s:=by
 refine AA (id hm) λo es ep ho hc HQ he vc hn=> ?_;refine wpAny_bind (wpAny_dictEntries ho HQ (wpAny_bind (wpAny_pure ?_)));induction Pz:es.isEmpty using Q2 with
 |true=>
  refine wpAny_bind (wpAny_rule (wpAny_bind (wpAny_pure (h0 (λj p q=> ?_) s.toks))));rw[QM he] at Pz;rw[List.isEmpty_iff.mp Pz] at q;exact nomatch q
 |false=>exact wpAny_bind (bU hu PM hm (λJQ=>h0 JQ _) (λj p e hj Af h' zI RD=>h1 j p e hj Af h' _ zI RD) hsz)
theorem dF(hd:(d==sysModules)=false)(rest:List Value)(Ul:rest=[]\/∃dflt,rest=[dflt]):
 MeetsIn prog w (Builtin.«dict.pop» ⟨.ref d:: .ref a::rest,[]⟩) (λA R s=>knd.room A.in1/\∃k xs,knd.is s.heap k a/\s.heap.DictOfH knd d xs/\xs.length<=sizeLine/\
  ((∀(j:Nat)(p:Addr×Value),xs[j]?≠some (k,p))->∃dflt,rest=[dflt]/\∀tk,R (.ok (.ret dflt)) {s with toks:=tk})/\
  ∀j p,xs[j]? =some (k,p)->∀h' tk,h'.DictOfH knd d (xs.eraseIdx j)->Heap.SameBut d s.heap h'->R (.ok (.ret p.2)) {s with heap:=h',toks:=tk}):=
 .of_wp λA R s h=>by
  obtain⟨hu,k,xs,PM,hm,hsz,h1,h2⟩:=h;unfold Builtin.«dict.pop»;refine wpAny_bind ?_;unfold Builtin.Dict.keyAndDefault;refine wpAny_bind (wpAny_notOrdered_dict hm.typeIs ?_);have hit:∀{e:DictEntry}{p:Addr×Value}{j:Nat}{h':Heap}{tk:Nat},xs[j]? =some (k,p)->e.val=p.2->h'.DictOfH knd d (xs.eraseIdx j)->Heap.SameBut d s.heap h'->R (.ok (.ret e.val)) {s with heap:=h',toks:=tk}:=λhj Af zI RD=>by rw[Af];exact h2 _ _ hj _ _ zI RD
  rcases Ul with rfl|⟨dflt,rfl⟩
  .refine wpAny_pure (ZO hu PM hm hsz (λJQ=> ?_) λj p e hj Af h' tk zI RD=> ?_)
   .refine u0 (h1 JQ) λ_ q _=> ?_;exact nomatch q
   .exact wpAny_bind (wpAny_letGo (wpAny_pure ⟨e.val,rfl,hit hj Af zI RD⟩))
  .refine wpAny_pure (ZO hu PM hm hsz (λJQ tk=> ?_) λj p e hj Af h' tk zI RD=> ?_)
   .refine u0 (h1 JQ) λ_ q hR=> ?_;cases q
    exact wpAny_bind (wpAny_missedRemoval_other hd (wpAny_bind (wpAny_rule (wpAny_pure ⟨dflt,rfl,hR tk⟩))))
   .exact wpAny_bind (wpAny_letGo (wpAny_pure ⟨e.val,rfl,hit hj Af zI RD⟩))
end
section
variable{w:World}{b:Heap}{n:Nat}{A:Around}{E:Value->Shared->Prop}{s:Shared}{cx:Cx}{rs:List RO}{σ:St}
theorem Nv(d:M7 D b rs [] o):M7 D' b rs [] o:=by
 refine BE d λarr ep xs h1 h2 h3 h4 h5=> ?_;clear d;obtain rfl:xs=[]:=h5;exact⟨arr,ep,[],h1,h2,h3,.nil,rfl⟩
theorem DY(Kd:Kinds w){nb:Bool}{es:List Ent}{o:Obj}{x:Dt}{c:Prop}{k:UInt8×UInt8}(hk:MD nb x=some (c,k))(hc:c)(ok:RR w b rs (es.map (C6 nb)) o):
 ∃(D:E5 w)(kk:D.K),D.rd x=some kk/\M7 D b rs (es.map (C6 nb)) o:=by
 rcases ok with⟨e,hd,_⟩|⟨D,d⟩
 .obtain⟨D,kk,h⟩:=Kd x (k7 hk);rw[e];exact⟨D,kk,h,UO hd⟩
 .induction es using H5 with
  |nil=>
   obtain⟨D',kk,h⟩:=Kd x (k7 hk);exact⟨D',kk,h,Nv d⟩
  |cons e es=>
   have d':=d;obtain⟨arr,ep,xs,h1,h2,h3,h4,k',a,v,q,e1,r1,_⟩:=d;induction e2:D.rd x using opQ with
   |none=>exact(D.QE (k7 hk) r1 e2 (eE hk hc e)).elim
   |some kk=>exact⟨D,kk,e2,d'⟩
inductive cU{D:E5 w}(b:Heap)(rs:List RO)(nb:Bool)(k:UInt8×UInt8)(kk:D.K)(es:List Ent)(xs:List (D.K×Addr×Value)):Prop
 |no (h:C5 k es=none) (n:∀(j:Nat)(p:Addr×Value),xs[j]?≠some (kk,p))
 |at(e:Ent) (h:C5 k es=some e) (j:Nat) (p:Addr×Value) (hj:xs[j]? =some (kk,p)) (o:E2 b rs (.W0 (C8 nb e)) p.2) (t:W8 D b rs ((D6 k es).map (C6 nb)) (xs.eraseIdx j))
theorem Bf{D:E5 w}{nb:Bool}{x:Dt}{c:Prop}{k:UInt8×UInt8}{kk:D.K}(hk:MD nb x=some (c,k))(hc:c)(hr:D.rd x=some kk){es:List Ent}{xs:List (D.K×Addr×Value)}(t:W8 D b rs (es.map (C6 nb)) xs):cU b rs nb k kk es xs:=by
 induction es generalizing xs with
 |nil=>obtain rfl:=t;exact .no rfl λj p=>nofun
 |cons e0 es ih=>
  refine DE t λk' a v q B0=> ?_;clear t;subst B0;intro r1 r2 r3 r4 r5;have iff:=D.PE r1 hr (eE hk hc e0);induction hh:U8 k e0 using Q2 with
  |true=>
   have ek:k'=kk:=iff.mp hh;exact .at e0 (by rw[D8];rw[hh];rfl) 0 (a,v) (by rw[ek];rfl) r4 (by rw[JA];rw[hh];exact r5)
  |false=>
   have ne:¬k'=kk:=λq=>G2 (hh.symm.trans (iff.mpr q));have hf:C5 k (e0::es)=C5 k es:=by show(bif U8 k e0 then _ else _)=_;rw[hh];rfl
   cases ih r5 with
   |no h n=>
    refine .no (hf.trans h) λj p hj=> ?_;induction j using iB with
    |zero=>exact ne (congrArg (·.1) (si hj))
    |succ j=>exact n j p hj
   |«at» e h j p hj o t=>exact .at e (hf.trans h) (j+1) p hj o (by rw[JA];rw[hh];exact⟨k',a,v,q.eraseIdx j,rfl,r1,r2,r3,r4,t⟩)
theorem dU(B:k3 w b)(S:M0 w b cx σ.heap rs s.heap (s.os,s.gens)){i:Nat}{p:Addr}{o:Obj}(hr:J0 rs i=some (.one p o)):(p==sysModules)=false:=aA B (S.at_ (p,o) (u5 _ (B3 hr _ (by simp[RO.led])))).2
theorem DI(B:k3 w b)(Kd:Kinds w)(S:M0 w b cx σ.heap rs s.heap (s.os,s.gens)){i:Nat}{kv:V}{u uk:Value}(ou:E2 b rs (.ref i) u)(ok:E2 b rs kv uk){K:Bool->List Ent->UInt8×UInt8->Prop}(h:JX i kv σ K){G:Prop}
 (go:∀nb es k p o a(D:E5 w)(kk:D.K) xs,K nb es k->J0 rs i=some (.one p o)->u= .ref p->uk= .ref a->¬IsT o-> @HeapKind.is E1 w D.K D.dec D.knd s.heap kk a-> @Heap.DictOfH E1 w D.K D.dec D.knd s.heap p xs->(xs.map (·.1)).Nodup->xs.length=es.length->cU b rs nb k kk es xs->G):G:=by
 refine E0 h λe he h=>E0 h λx hx h=>E0 h λz hk h=>u3 he λob ho he=> ?_;rw[kO he] at ho;obtain⟨r,hr,p,o,rfl,d⟩:=S.ref ho;obtain⟨D,kk,Qz,d⟩:=DY Kd hk h.1 d;refine u0 (d.at S (S.one hr)) λxs hm tk=> ?_;refine u0 (key_is Qz (NA S _ hx ok) (k7 hk)) λa B0=> ?_;subst B0;intro pT;exact go e.1 e.2 z.2 p o a D kk xs h.2 hr (K6 hr ou) rfl d.mf pT hm (by refine AA hm λ_ _ _ _ _ _ _ _ q=> ?_;clear hm;exact q) ((ZE tk).trans (KD ..)) (Bf hk h.1 Qz tk)
theorem aP(h:C5 k es=some e):V.T5 (C8 nb (W4 k es))= .W0 (C8 nb e):=by unfold W4;rw[h];exact lK nb e
theorem EY(B:k3 w b)(Kd:Kinds w)(hA:B2 A n)(S:M0 w b cx σ.heap rs s.heap (s.os,s.gens)){i:Nat}{args:List V}{us:List Value}{u:Value}{Q:K1}(ou:E2 b rs (.ref i) u)(os:V0 b rs args us)(h:Ik i args σ Q):
 wpAny (model E1 w) A (call (.builtin "dict.get") (u::us)) (PV w b cx rs Q) E s:=by
 refine E0 h λkv e h=> ?_;refine os.one e λuk ok=> ?_;refine DI B Kd S ou ok h λnb es k p o a D kk xs h hr eu ek nT pT hm nd len Ft=> ?_;subst eu ek
 letI:=D.dec
 refine call_meetsIn F.slot_dict_get hm.typeIs F.entry_dict_get (F.args_dict_get_2 _ _) (meetsH_dict_get D.knd p a (dU B S hr)) ⟨D.room hA.room,kk,xs,pT,hm,?_⟩;refine J3 (vD h) λF1 e' y1 y2=> ?_;cases Ft with
 |no h n=>
  rw[atKey_none_of_get n];exact .here (s':={s with toks:=_}) (y2 (by rw[h];rfl)) (e'▸S) (.refl rs) rfl
 |«at» e h j pp hj o t=>
  rw[atKey_of_get nd hj];exact .here (s':={s with toks:=_}) (aP h▸y1 (by rw[h];rfl)) (e'▸S) (.refl rs) o
theorem FY(B:k3 w b)(Kd:Kinds w)(hA:B2 A n)(S:M0 w b cx σ.heap rs s.heap (s.os,s.gens)){i:Nat}{args:List V}{us:List Value}{u:Value}{Q:K1}(ou:E2 b rs (.ref i) u)(os:V0 b rs args us)(h:Jk i args σ Q):
 wpAny (model E1 w) A (call (.builtin "dict.pop") (u::us)) (PV w b cx rs Q) E s:=by
 have gone:∀{nb es k p o}{D:E5 w}{kk:D.K}{xs:List (D.K×Addr×Value)},J0 rs i=some (.one p o)->¬IsT o->cU b rs nb k kk es xs->(xs.map (·.1)).Nodup->∀{j:Nat}{pp:Addr×Value}{h':Heap}{jj:Nat}{F1:St},F1.heap=σ.heap->xs[j]? =some (kk,pp)-> @Heap.DictOfH E1 w D.K D.dec D.knd h' p (xs.eraseIdx j)->Heap.SameBut p s.heap h'->((C5 k es).isSome=true->Q (V.T5 (C8 nb (W4 k es))) (F1.set i (.dN nb (D6 k es))))->PV w b cx rs Q pp.2 {s with heap:=h',toks:=jj}:=by
  intro nb es k p o D kk xs hr nT Ft nd j pp h' jj F1 e' hj zI hs q;cases Ft with
  |no h n=>exact absurd hj (n _ _)
  |«at» e h j0 p0 kj oo t=>
   obtain rfl:j=j0:=(List.getElem?_inj (l:=xs.map (·.1)) (by rw[KD _];exact(kQ.mp hj).1) nd).mp (by rw[LJ,LJ,hj,kj];rfl);obtain rfl:pp=p0:=congrArg (·.2) (si (hj.symm.trans kj));refine AA zI λo' arr ep fE h1 h2 h3 h4 h5=> ?_;clear zI;have this:=S.IT (x:= .dN nb (D6 k es)) hr nT hs fE (λX=>⟨p,o',rfl,.inr ⟨D,arr,ep,_,h1,h2,h3,h5,t.ext X⟩⟩);refine .here (s':={s with heap:=h',toks:=jj}) (aP h▸q (by rw[h];rfl)) ?_ this.2 (oo.ext this.2);show M0 w b cx (Mine.Internal.upd F1.heap i (.dN nb (D6 k es))) _ _ _;rw[e'];exact this.1
 refine K2 h (λkv e h=> ?_) λh=>E0 h λq e h=> ?_
 .refine os.one e λuk ok=> ?_;refine DI B Kd S ou ok h λnb es k p o a D kk xs h hr eu ek nT pT hm nd len Ft=> ?_;subst eu ek
  letI:=D.dec
  refine call_meetsIn F.slot_dict_pop hm.typeIs F.entry_dict_pop (F.args_dict_pop_2 _ _) (dF (knd:=D.knd) (dU B S hr) [] (.inl rfl)) ⟨D.room hA.room,kk,xs,pT,hm,E9 (len▸V7 (Nat.le_of_lt h.1) (by decide)),λJQ=> ?_,λj pp hj h' jj zI hs=>gone hr nT Ft nd rfl hj zI hs λ_=>h.2.2⟩;cases Ft with
  |no f n=>rw[f] at h;exact G2 h.2.1
  |«at» e f j p hj o t=>exact absurd hj (JQ _ _)
 .refine os.two e λuk ud ok od=> ?_;refine DI B Kd S ou ok h λnb es k p o a D kk xs h hr eu ek nT pT hm nd len Ft=> ?_;subst eu ek;refine J3 (vD h.2) λF1 e' y1 y2=> ?_
  letI:=D.dec
  refine call_meetsIn F.slot_dict_pop hm.typeIs F.entry_dict_pop (F.args_dict_pop_3 _ _ _) (dF (knd:=D.knd) (dU B S hr) [ud] (.inr ⟨_,rfl⟩)) ⟨D.room hA.room,kk,xs,pT,hm,E9 (len▸V7 (Nat.le_of_lt h.1) (by decide)),λJQ=>⟨ud,rfl,λjj=> ?_⟩,λj pp hj h' jj zI hs=>gone hr nT Ft nd e' hj zI hs y1⟩;cases Ft with
  |no f n=>exact .here (s':={s with toks:=_}) (y2 (by rw[f];rfl)) (e'▸S) (.refl rs) od
  |«at» e f j p hj o t=>exact absurd hj (JQ _ _)
theorem GY(B:k3 w b)(S:M0 w b cx σ.heap rs s.heap (s.os,s.gens))(ou:E2 b rs v u)(h:Gk v σ Q):wpAny (model E1 w) A (call (.builtin "len") [u]) (PV w b cx rs Q) E s:=by
 refine K2 h (λe he h=>S.dN ou he λp o hp ok=> ?_) λh=>vf B S ou h;have ns:=aA B (S.at_ (p,o) (u5 _ hp)).2;have fin:∀{l:Nat}{tk:Nat}{t:Tok},l=e.2.length->PV w b cx rs Q (.int (l:Int) t) {s with toks:=tk}:=λ{l tk t} q=>q▸.here (s':={s with toks:=tk}) h.2 S (.refl rs) ⟨_,rfl⟩;have lt:∀{l:Nat},l=e.2.length->(l:Int)<2^63:=λq=>uf (q▸V7 (Nat.le_of_lt h.1) (by decide));rcases ok with⟨e0,hd,_⟩|⟨D,d⟩
 .have e0:0=e.2.length:=(congrArg List.length e0).symm.trans (KD ..);exact call_len_dict ns (Heap.dictOf_iff.mpr ⟨o,S.inR (.inr hp),hd⟩) (lt e0) (fin e0)
 .refine u0 (d.at S (S.inR (.inr hp))) λxs hm tk=> ?_;have hlen:=(ZE tk).trans (KD ..)
  letI:=D.dec
  exact IQ D.knd p ns hm (lt hlen) (fin hlen)
end
theorem GG:Slot "bytes" (cmpInfo .Lt).2.1 "bytes.__lt__":=
 .of (owner:="bytes") (n:="__lt__") (by rw[typeLookup_type,builtinLookup_eq_fast];kernel_rfl) (by decide+kernel) (by decide+kernel) (by decide+kernel)
  (by first|exact .inl (by decide+kernel)|exact .inr (by decide+kernel)) (by rw[isSubtype_type];kernel_rfl)
theorem fF:entryFor table "bytes.__lt__"=some Builtin.«bytes.__lt__»:=entryFor_of_tree (by kernel_rfl)
theorem HG(a b:Value):argsOk "bytes.__lt__" ⟨[a,b],[]⟩:=by
 unfold argsOk;rw[signature?_of (id:="bytes.__lt__") (n:=['_','_','t','l','_','_']) (o:=['s','e','t','y','b']) (by kernel_rfl) FB.owner_bytes];kernel_rfl
theorem gF(b c:Array UInt8)(t u:Tok):Gives (Builtin.«bytes.__lt__» ⟨[.bytes b t,.bytes c u],[]⟩) (.val (.bool (Builtin.Bytes.order b.toList c.toList== .lt))):=by
 refine .of_wp λM A E s Q hq=> ?_;show wpAny M A (isInstance (.bytes c u) (.type "bytes")>>=λr=>_) _ E s;refine wpAny_bind (wpAny_isInstance (typeIs_bytes s c u) F.sub_bytes_bytes ?_);exact wpAny_pure ⟨_,rfl,hq⟩
section
theorem eU(a c:UInt8)(t u:Tok)(h:Q (.bool (decide (a<c))) s):wpAny (model prog w) A (compareOp .Lt (.bytes #[a] t) (.bytes #[c] u)) Q E s:=by
 refine compareOp_gives (op:= .Lt) (typeIs_bytes s #[a] t) (typeIs_bytes s #[c] u) GG fF (HG _ _) (gF #[a] #[c] t u) (λe=>nomatch e) ?_;show Q (.bool (Builtin.Bytes.order [a] [c]== .lt)) s;have:(Builtin.Bytes.order [a] [c]== .lt)=decide (a<c):=by
  unfold Builtin.Bytes.order;by_cases h1:a<c
  .simp[h1]
  .by_cases h2:a>c
   .simp[h1,h2]
   .simp[h1,h2,Builtin.Bytes.order]
 rw[this];exact h
end
open AutoSeq1 (wpAny_loadPart')
theorem RM(l b:Addr)(x1 x2 y1 y2:Value)(n n2:Nat)(e:Bool):
 Meets (Builtin.«tuple.__lt__» ⟨[.ref l,.ref b],[]⟩)
  (λA R s=>s.heap.get? l=some {cls:= .type "tuple",dict:=none,data:= .seq #[x1,x2] n,slots:= #[]}/\s.heap.get? b=some {cls:= .type "tuple",dict:=none,data:= .seq #[y1,y2] n2,slots:= #[]}/\
   EqAt A.in1 s x1 y1 true/\EqAt A.in1 s x2 y2 e/\(e=true->R (.ok (.ret (.bool false))) s)/\
   (e=false->∀(prog:Program)(w:World)(E:Value->Shared->Prop),wpAny (model prog w) A.in1 (richCompare .Lt x2 y2) (λv s'=>R (.ok (.ret v)) s') E s)):=
 .of_wp λprog w A R s h=>by
  obtain⟨hp,g,d,tk,os⟩:=s;refine Eb h λhl hb he1 he2 Ov JQ=> ?_;clear h;have f2:=AutoSeq1.sub_tuple_tuple
  wp_walk using wpAny_loadPart' hl,wpAny_loadPart' hb,wpAny_forIn_list _ (λrest b s'=>b.1=none/\s'=⟨hp,g,d,tk,os⟩/\(rest=[(x1,y1),(x2,y2)]\/rest=[(x2,y2)]\/(rest=[]/\e=true))) _
  case turn=>
   intro B0;obtain⟨y,x⟩:=B0;intro rest b s' x9;refine R2 x9 λVl SR=> ?_;clear x9;subst SR;intro gj;rcases gj with hz|hz|hz
   .cases hz
    refine wpAny_bind (he1 prog w _ _ ?_)
    wp_walk
    exact⟨rfl,rfl,.inr (.inl rfl)⟩
   .cases hz
    refine wpAny_bind (he2 prog w _ _ ?_);induction e using Q2 with
    |true=>
     wp_walk
     exact⟨rfl,rfl,.inr (.inr ⟨rfl,rfl⟩)⟩
    |false=>
     simp only[Bool.not_false,if_true];refine wpAny_bind (wpAny_rule (wpAny_bind (wpAny_mono (JQ rfl prog w _) (λv s' hv=> ?_) λ_ _ x=>x)))
     wp_walk
     exact⟨_,rfl,hv⟩
   .exact absurd hz.1 (by simp)
  case fin=>
   intro B0;obtain⟨b1,b2⟩:=B0;intro s' x9;refine R2 x9 λVl SR=> ?_;clear x9;subst SR;intro gj;rcases gj with hz|hz|⟨_,hz⟩
   .exact Zi hz
   .exact Zi hz
   .simp only at Vl;subst Vl hz
    wp_walk
    exact⟨_,rfl,Ov rfl⟩
  case h=>
   exact⟨rfl,rfl,.inl rfl⟩
noncomputable def fU(a c:UInt8×UInt8):Bool:=a.1<c.1||(a.1==c.1&&a.2<c.2)
section
theorem G3.two{F:Addr->Obj->Prop}{d e:Dt}{u:Value}{G:Prop}(h:G3 F (.tup [d,e]) u)(k:∀p x y n,u= .ref p->F p (seqObj "tuple" (List.toArray [x,y]) n)->G3 F d x->G3 F e y->G):G:=by
 obtain⟨p,vs,n,rfl,hp,x1,r1,rfl,h1,x2,r2,rfl,h2,rfl⟩:=h;exact k p x1 x2 n rfl hp h1 h2
theorem G3.HC{F:Addr->Obj->Prop}{s:Bool}{m:Int}{u:Value}{G:Prop}(h:G3 F (.int s m) u)(k:∀t,u= .int m t->G):G:=by
 exact O0 h k
theorem bP{a b c d:Int}{u v:Value}{sa sb sc sd:Bool}{Q:Bool->Shared->Prop}(hu:G3 (λp o=>s.heap.get? p=some o) (.tup [.int sa a,.int sb b]) u)(hv:G3 (λp o=>s.heap.get? p=some o) (.tup [.int sc c,.int sd d]) v)
 (h:Q (decide (a<c)||(decide (a=c)&&decide (b<d))) s):wpAny (model E1 w) A (keyLt' (tuples' true) u v) Q E s:=by
 refine hu.two λp x1 x2 n eu hp h1 h2=>hv.two λq y1 y2 m ev hq h3 h4=>h1.HC λt1 i1=>h2.HC λt2 i2=>h3.HC λt3 i3=>h4.HC λt4 i4=> ?_;subst eu ev i1 i2 i3 i4;refine kat_lt hp rfl hq rfl (kat_cons (wpAny_eqBool_int ?_));by_cases e1:a=c
 .subst e1;rw[beq_self_eq_true _];refine kat_yes (kat_cons (wpAny_eqBool_int ?_));by_cases e2:b=d
  .subst e2;rw[beq_self_eq_true _];refine kat_yes (kat_nil ?_);simpa using h
  .rw[beq_eq_false_iff_ne.mpr e2];refine kat_no ?_;show wpAny _ _ (oneLt' false _ _) _ _ _;refine kat_one _ _ (PyProof.Rows.lt_int ?_);show Q (decide (b<d)) s;simpa using h
 .rw[beq_eq_false_iff_ne.mpr e1];refine kat_no ?_;show wpAny _ _ (oneLt' true _ _) _ _ _;refine oneLt_int ?_;simpa[e1] using h
theorem Rz(a c:UInt8):R8 (.tup [.int false 7,.bytes true [a]]) (.tup [.int false 7,.bytes true [c]])=some (true,a==c):=QS
theorem G3.nH{F:Addr->Obj->Prop}{a:UInt8}{u:Value}{G:Prop}(h:G3 F (.bytes true [a]) u)(k:∀t,u= .bytes (List.toArray [a]) t->G):G:=by
 exact O0 h k
theorem Sz{a c:UInt8}{u v:Value}{Q:Bool->Shared->Prop}(hu:G3 (λp o=>s.heap.get? p=some o) (.tup [.int false 7,.bytes true [a]]) u)(hv:G3 (λp o=>s.heap.get? p=some o) (.tup [.int false 7,.bytes true [c]]) v)(hA:A.units+5<cLine)(ne:a≠c)
 (h:Q (decide (a<c)) s):wpAny (model E1 w) A (oneLt' false u v) Q E s:=by
 refine hu.two λp x1 x2 n eu hp h1 h2=>hv.two λq y1 y2 m ev hq h3 h4=>h1.HC λt1 i1=>h2.nH λt2 i2=>h3.HC λt3 i3=>h4.nH λt4 i4=> ?_;subst eu ev i1 i2 i3 i4;refine kat_one _ _ ?_;refine richCompare_meets_room (op:= .Lt) ⟨_,hp,rfl⟩ ⟨_,hq,rfl⟩ F.slot_tuple_lt F.entry_tuple_lt (F.args_tuple_lt_2 _ _) (RM p q _ _ _ _ n m (a==c))
  ⟨hp,hq,?_,?_,λe=> ?_,λ_ prog w E=> ?_⟩ (by lia)
 .exact EqAt.int_int 7 t1 7 t3
 .rw[show(a==c)=([a]==[c]) from(Bool.and_true _).symm];exact VE (A:=A.in1) (s:=s) [a] [c] t2 t4
 .exact absurd (beq_iff_eq.mp e) ne
 .exact eU a c t2 t4 ⟨(λx=>nomatch x),h⟩
theorem HY{nb:Bool}{k k':UInt8×UInt8}{u v:Value}{Q:Bool->Shared->Prop}(hu:G3 (λp o=>s.heap.get? p=some o) (Q1 nb k) u)(hv:G3 (λp o=>s.heap.get? p=some o) (Q1 nb k') v)(hA:A.units+10<cLine)
 (h:Q (fU k k') s):wpAny (model E1 w) A (keyLt' (tuples' (!nb)) u v) Q E s:=by
 induction nb using Q2 with
 |false=>
  refine bP hu hv ?_;have e1:∀a c:UInt8,decide ((a.toNat:Int)<(c.toNat:Int))=decide (a<c):=λa c=>decide_eq_decide.mpr (by rw[UInt8.lt_iff_toNat_lt];lia);have e2:∀a c:UInt8,decide ((a.toNat:Int)=(c.toNat:Int))=(a==c):=λa c=>by
   rw[show(a==c)=decide (a=c) from rfl];refine decide_eq_decide.mpr ⟨λe=>UInt8.toNat_inj.mp (by lia),λe=>by rw[e]⟩
  rw[e1,e1,e2];exact h
 |true=>
  refine G3.two hu λp x1 x2 n eu hp Tz Uz=>G3.two hv λq y1 y2 m ev hq Vz Wz=> ?_;subst eu ev;have room:∀c,A.units+dep (.tup [.int false 7,.bytes true [c]])<cLine:=λc=>by show A.units+(max (max 0 (max 0 0)+1 -1) 0+1)<cLine;lia
  have q1:=US (A:=A) (Rz k.1 k'.1) Tz Vz (room _);have q2:=US (A:=A) (Rz k.2 k'.2) Uz Wz (room _);refine kat_lt hp rfl hq rfl (kat_cons (q1 _ _ _ _ ?_));by_cases e1:k.1=k'.1
  .rw[show(true,k.1==k'.1).2=true from beq_iff_eq.mpr e1];refine kat_yes (kat_cons (q2 _ _ _ _ ?_));by_cases e2:k.2=k'.2
   .rw[show(true,k.2==k'.2).2=true from beq_iff_eq.mpr e2];refine kat_yes (kat_nil ?_);have:fU k k'=false:=by unfold fU;rw[e1,e2];simp
    rw[this] at h;exact h
   .rw[show(true,k.2==k'.2).2=false from beq_eq_false_iff_ne.mpr e2];refine kat_no (Sz Uz Wz (by lia) e2 ?_);have:fU k k'=decide (k.2<k'.2):=by unfold fU;rw[e1];simp
    rw[this.symm];exact h
  .rw[show(true,k.1==k'.1).2=false from beq_eq_false_iff_ne.mpr e1];refine kat_no (Sz Tz Vz (by lia) e1 ?_);have:fU k k'=decide (k.1<k'.1):=by unfold fU;simp[e1]
   rw[this.symm];exact h
end
noncomputable def G8(h:Heap)(d:Addr)(es:Array DictEntry)(ep:Nat):Prop:=∃o,h.get? d=some o/\o.ExactDict/\o.data= .dict es ep
theorem G8.typeIs{s:Shared}{d:Addr}{es ep}(h:G8 s.heap d es ep):s.TypeIs (.ref d) "dict":=by refine J3 h λo ho hc hd=> ?_;clear h;exact⟨o,ho,hc.1⟩
theorem G8.lt(x:G8 h d es ep):d<h.objs.size:=let⟨_,ho,_⟩:=x;Heap.lt_size ho
theorem G8.at'(x:G8 h d es ep)(e:∀o,h.get? d=some o->h'.get? d=some o):G8 h' d es ep:=let⟨o,ho,r⟩:=x;⟨o,e _ ho,r⟩
section
theorem BK{d:Addr}{es:Array DictEntry}{ep:Nat}{Q:Value->Shared->Prop}(hd:(d==sysModules)=false)(hm:G8 s.heap d es ep)
 (hQ:Q (.ref s.heap.objs.size) {s with heap:=s.heap.push {cls:= .type "dict_keyiterator",data:= .fields #[.ref d,.int 0 0,.int es.size 0,.int ep 0]}}):
 wpAny (model prog w) A (pyIter (.ref d)) Q E s:=by
 refine J3 (id hm) λo ho hc HQ=> ?_;have hT:s.TypeIs (.ref d) "dict":=hm.typeIs;refine wpAny_pyIter_slot hT F.slot_dict_iter (wpAny_call_entry F.slot_dict_iter hT F.entry_dict_iter ?_ (F.args_dict_iter_1 _));unfold Builtin.«dict.__iter__»;refine wpAny_bind ?_;unfold Builtin.Dict.dictSlotNone;refine wpAny_bind (wpAny_notOrdered_dict hT ?_);show wpAny _ _ (pure (Value.ref d)) _ _ s;refine wpAny_pure ?_;show wpAny _ _ (Builtin.Dict.showsAll d>>=_) _ _ s;unfold Builtin.Dict.showsAll;rw[if_neg (by rw[hd];exact Bool.false_ne_true)];refine wpAny_bind (wpAny_pure ?_);refine wpAny_bind (wpAny_dictEntries ho HQ ?_);refine wpAny_bind (wpAny_dictEpoch ho HQ ?_);refine wpAny_bind (wpAny_newObj_type (wpAny_pure ⟨_,rfl,"dict_keyiterator",_,⟨_,Heap.get?_push_size _ rfl,rfl⟩,F.slot_dict_keyiterator_next.lookup,?_⟩));simpa[rawInt] using hQ
theorem gU(hit:s.heap.IsKeyIter it d i es.size ep)(hm:G8 s.heap d es ep)(Y8:i<es.size)
 (hQ:∀h',h'.IsKeyIter it d (i+1) es.size ep->Heap.SameBut it s.heap h'->Q (some es[i].key) {s with heap:=h'}):
 wpAny (model prog w) A (pyNext (.ref it)) Q E s:=by
 refine J3 (id hit) λo ho hc hd=> ?_;refine J3 (id hm) λod Wl Et Xl=> ?_;unfold pyNext;refine wpAny_bind (wpAny_attempt (wpAny_callSpecial?_slot (name:=Str.ofString "__next__") hit.typeIs F.slot_dict_keyiterator_next
  (wpAny_call_entry F.slot_dict_keyiterator_next hit.typeIs F.entry_dict_keyiterator_next ?_ (F.args_dict_keyiterator_next_1 _))))
 refine wpAny_bind (wpAny_pure ?_);refine wpAny_bind ?_;refine wpAny_bind ?_;first|refine wpAny_bind (wpAny_typeNameOfWhole_keyiter hit.typeIs (wpAny_pure ?_))|refine wpAny_bind (wpAny_typeNameOf_keyiter hit.typeIs (wpAny_pure ?_))
 refine wpAny_bind (wpAny_fieldsOf ho hd ?_);have Cf:Builtin.Dict_items.ownsTuple "dict_keyiterator"=false:=by decide
 rw[Cf];show wpAny _ _ (if(Value.ref d==Value.none)=true then _ else _) _ _ s;rw[if_neg (show¬((Value.ref d==Value.none)=true) from Bool.false_ne_true)];refine wpAny_bind (wpAny_pure ?_);refine wpAny_bind (wpAny_dictEntries Wl Xl ?_);rw[if_neg (by simp)];refine wpAny_bind (wpAny_pure ?_);refine wpAny_bind (wpAny_dictEpoch Wl Xl ?_);rw[if_neg (by simp)];refine wpAny_pure ?_;dsimp only;rw[show(if(i:Int)<0 then none else es[(i:Int).toNat]?)=some es[i] by rw[if_neg (show¬((i:Int)<0) from by lia),Int.toNat_natCast,Array.getElem?_eq_getElem Y8]];refine wpAny_bind ?_;first|refine wpAny_bind (wpAny_typeNameOfWhole_keyiter hit.typeIs (wpAny_pure ?_))|refine wpAny_bind (wpAny_typeNameOf_keyiter hit.typeIs (wpAny_pure ?_))
 refine wpAny_bind (wpAny_isOneOf_keyiter hit.typeIs ?_);show wpAny _ _ (setField (.ref it) 1 (rawInt ((i:Int)+1))>>=_) _ _ s;refine wpAny_bind (wpAny_setField ho hd (by simp) ?_);have IY:(s.heap.update it (Obj.mapFields (·.setIfInBounds 1 (rawInt ((i:Int)+1))))).IsKeyIter it d (i+1) es.size ep:=
  ⟨_,Heap.get?_update_self _ ho (Obj.isFreed_of_fields (Obj.data_mapFields hd _)),(Obj.cls_mapFields ..).trans hc,by rw[Obj.data_mapFields hd _];simp[rawInt]⟩
 refine wpAny_bind (wpAny_holding ?_);refine wpAny_bind (wpAny_isOneOf_keyiter (s:={s with heap:=s.heap.update it (Obj.mapFields (·.setIfInBounds 1 (rawInt ((i:Int)+1))))}) IY.typeIs ?_);show wpAny _ _ (pure es[i].key) _ _ _;exact wpAny_pure (wpAny_pure ⟨_,rfl,wpAny_pure (hQ _ IY (Heap.SameBut.update ..))⟩)
theorem JY(hh:A.handled=none)(hit:s.heap.IsKeyIter it d i es.size ep)(hm:G8 s.heap d es ep)(hge:es.size<=i)
 (hQ:∀h',Heap.ExtBut it s.heap h'->Q none {s with heap:=h'}):wpAny (model prog w) A (pyNext (.ref it)) Q E s:=by
 refine J3 (id hit) λo ho hc hd=> ?_;refine J3 (id hm) λod Wl Et Xl=> ?_;unfold pyNext;refine wpAny_bind (wpAny_attempt (wpAny_callSpecial?_slot (name:=Str.ofString "__next__") hit.typeIs F.slot_dict_keyiterator_next
  (wpAny_call_entry F.slot_dict_keyiterator_next hit.typeIs F.entry_dict_keyiterator_next ?_ (F.args_dict_keyiterator_next_1 _))))
 refine wpAny_bind (wpAny_pure ?_);refine wpAny_bind ?_;refine wpAny_bind ?_;first|refine wpAny_bind (wpAny_typeNameOfWhole_keyiter hit.typeIs (wpAny_pure ?_))|refine wpAny_bind (wpAny_typeNameOf_keyiter hit.typeIs (wpAny_pure ?_))
 refine wpAny_bind (wpAny_fieldsOf ho hd ?_);have Cf:Builtin.Dict_items.ownsTuple "dict_keyiterator"=false:=by decide
 rw[Cf];show wpAny _ _ (if(Value.ref d==Value.none)=true then _ else _) _ _ s;rw[if_neg (show¬((Value.ref d==Value.none)=true) from Bool.false_ne_true)];refine wpAny_bind (wpAny_pure ?_);refine wpAny_bind (wpAny_dictEntries Wl Xl ?_);rw[if_neg (by simp)];refine wpAny_bind (wpAny_pure ?_);refine wpAny_bind (wpAny_dictEpoch Wl Xl ?_);rw[if_neg (by simp)];refine wpAny_pure ?_;dsimp only;rw[show(if(i:Int)<0 then none else es[(i:Int).toNat]?)=none by rw[if_neg (show¬((i:Int)<0) from by lia),Int.toNat_natCast,Array.getElem?_eq_none hge]];refine wpAny_bind ?_;first|refine wpAny_bind (wpAny_typeNameOfWhole_keyiter hit.typeIs (wpAny_pure ?_))|refine wpAny_bind (wpAny_typeNameOf_keyiter hit.typeIs (wpAny_pure ?_))
 show wpAny _ _ (setField (.ref it) 0 .none>>=_) _ _ s;refine wpAny_bind (wpAny_setField ho hd (by simp) ?_);show wpAny _ _ (newExc (.type "StopIteration") []>>=_) _ _ _;refine wpAny_bind ?_;unfold newExc newTuple;refine wpAny_bind (wpAny_newObj_type ?_ (by size_fits));refine wpAny_bind (m:=firstArgMember _ _) (wpAny_of_eq (a:=Value.none) (by first|rfl|(simp only[firstArgMember];rfl)) ?_);refine wpAny_newObj_type ?_ (by size_fits);unfold raiseNew;refine wpAny_bind (wpAny_handled ?_);rw[show A.in1.handled=none from hh];refine wpAny_bind (wpAny_pure (wpAny_throw ?_));refine wpAny_bind (wpAny_isInstance (T:="StopIteration") (b:=true) ⟨_,Heap.get?_push_size _ rfl,rfl⟩ isSubtype_stop ?_);exact wpAny_pure (hQ _ (((Heap.SameBut.update ..).extBut.push _).push _))
noncomputable def Df(es:Array DictEntry)(i:Nat)(v:Value):Prop:=∃e,es[i]? =some e/\v=e.key
theorem oH(hh:A.handled=none)(I d:Addr)(OA:d≠I)(es:Array DictEntry)(ep:Nat):
 Walks prog w A I [I,d] [I] es.size (Df es) (λi h=>h.IsKeyIter I d i es.size ep/\G8 h d es ep) where
 sub:=λb hb=>by simp at hb;simp[hb]
 frame:=λ_ _ _ st hk=>⟨st.1.at λo e=>hk I (by simp) o e,st.2.at' λo e=>hk d (by simp) o e⟩
 item:=λi s Q E hi st hQ=>by
  refine gU st.1 st.2 hi λh' IY RD=> ?_;exact hQ _ h' s.toks ⟨es[i],by simp[hi],rfl⟩ ⟨IY,st.2.at' λo e=>RD.extBut _ _ OA e⟩ λb o hb e=>RD.extBut b o (λh=>hb (by simp[h])) e
 done:=λs Q E st hQ=>JY hh st.1 st.2 (j6 _) λh' Ht=>hQ h' s.toks λb o hb e=>Ht b o (λh=>hb (by simp[h])) e
 self:=λ_ _ _ _ st hQ=>wpAny_pyIter_keyiter st.1 hQ
theorem cP{d:Addr}{es:Array DictEntry}{ep:Nat}(lo:(d==sysModules)=false):KdlSrc prog w "dict" d d es.size (Df es) (λh=>G8 h d es ep) where
 type:=λ_ hm=>hm.typeIs
 there:=λ_ hm=>⟨hm.lt,hm.lt⟩
 keep:=λ_ _ hm hk=>hm.at' λo e=>hk d (.inl rfl) o e
 notList:=by decide
 notTuple:=by decide
 hint:=λ_ _ _ _ hm hq=>kdl_hint_dict hm.typeIs hq
 iter:=λ_ _ hh hm=>⟨_,_,(λ_ _ hq=>BK lo hm hq),oH hh _ d (Nat.ne_of_lt hm.lt) es ep,⟨⟨_,Heap.get?_push_size _ rfl,rfl,rfl⟩,hm.at' λo e=>Heap.get?_push_of_some _ e⟩⟩
end
noncomputable def Q6(k:UInt8×UInt8):Nat:=256*k.1.toNat+k.2.toNat
theorem dP(a c:UInt8×UInt8):fU a c=decide (Q6 a<Q6 c):=by
 have h1:=a.1.toNat_lt;have h2:=a.2.toNat_lt;have h3:=c.1.toNat_lt;have h4:=c.2.toNat_lt;unfold fU Q6;rw[Bool.eq_iff_iff];simp only[Bool.or_eq_true,JD,decide_eq_true_eq,beq_iff_eq,UInt8.lt_iff_toNat_lt,<-UInt8.toNat_inj];lia
theorem fP(a c:UInt8×UInt8):lX a c=decide (Q6 a<=Q6 c):=by
 have h1:=a.1.toNat_lt;have h2:=a.2.toNat_lt;have h3:=c.1.toNat_lt;have h4:=c.2.toNat_lt;unfold lX Q6;rw[Bool.eq_iff_iff];simp only[Bool.or_eq_true,JD,decide_eq_true_eq,beq_iff_eq,UInt8.lt_iff_toNat_lt,<-UInt8.toNat_inj];lia
noncomputable def Ef(M:List (List Bool))(i j:Nat):Option Bool:=(J0 M i).bind λr=>J0 r j
noncomputable def iU(es:List Ent)(i j:Nat):Option Bool:=(J0 es i).bind λx=>(J0 es j).map λy=>fU x.k y.k
theorem EB(f:α->β)(l:List α)(i:Nat):J0 (l.map f) i=(J0 l i).map f:=by
 induction l generalizing i with
 |nil=>rfl
 |cons a l ih=>induction i using iB with
  |zero=>rfl
  |succ i=>exact ih i
theorem gP(es:List Ent):iU es=Ef (es.map λx=>es.map λy=>fU x.k y.k):=by
 funext i j
 unfold iU Ef;rw[EB];induction J0 es i using opQ with
 |none=>rfl
 |some x=>exact(EB ..).symm
theorem jU:∀{es:List Ent},2<=es.length->es.length<=3->∃p,BG (iU es) (kas_sort es.length)=some p/\p.toList.map (λi=>(J0 es i).map (·.k))=(T2 es).map (λe=>some e.k)
 |[],h,_=>by simp at h
 |[_],h,_=>by simp at h
 |[a,b],_,_=>by
  rw[gP _];simp only[R6,List.map_nil,dP,List.length_cons,List.length_nil,Nat.lt_irrefl,decide_false,ZH,BC,YH,LA,fP];by_cases h1:Q6 b.k<Q6 a.k
  .have h2:¬Q6 a.k<Q6 b.k:=by lia
   have h3:¬Q6 a.k<=Q6 b.k:=by lia
   simp only[h1,h2,h3,decide_true,decide_false];exact⟨#[1,0],by decide+kernel,rfl⟩
  .have h3:Q6 a.k<=Q6 b.k:=by exact gB.mp (by assumption)
   by_cases h2:Q6 a.k<Q6 b.k
   .simp only[h1,h2,h3,decide_true,decide_false];exact⟨#[0,1],by decide+kernel,rfl⟩
   .simp only[h1,h2,h3,decide_true,decide_false];exact⟨#[0,1],by decide+kernel,rfl⟩
 |[a,b,c],_,_=>by
  rw[gP _];have le:∀p q:Nat,decide (p<=q)= !decide (q<p):=λp q=>by by_cases h:q<p<;>simp[h]<;>exact gB.mp (by assumption)
  by_cases h1:Q6 a.k<Q6 b.k<;>by_cases h2:Q6 b.k<Q6 a.k<;>by_cases h3:Q6 b.k<Q6 c.k<;>by_cases h4:Q6 c.k<Q6 b.k<;>by_cases h5:Q6 a.k<Q6 c.k<;>by_cases h6:Q6 c.k<Q6 a.k<;>first|(exfalso;lia)|skip;all_goals
   simp only[R6,List.map_nil,dP,List.length_cons,List.length_nil,Nat.lt_irrefl,decide_false,ZH,BC,YH,LA,fP,le,h1,h2,h3,h4,h5,h6,decide_true,Bool.not_true,Bool.not_false,cond_true,cond_false]
  all_goals first
   |exact⟨#[0,1,2],by decide+kernel,rfl⟩
   |exact⟨#[0,2,1],by decide+kernel,rfl⟩
   |exact⟨#[1,0,2],by decide+kernel,rfl⟩
   |exact⟨#[1,2,0],by decide+kernel,rfl⟩
   |exact⟨#[2,0,1],by decide+kernel,rfl⟩
   |exact⟨#[2,1,0],by decide+kernel,rfl⟩
 |_::_::_::_::_,_,h=>by simp at h
theorem SM:(∀p∈pre,p.1≠d)->(∀p∈post,p.1≠d)->UpdF d o (pre++(d,o)::post) (λo'=>pre++(d,o')::post):=by
 induction pre with
 |nil=>intro _ h;exact .head h
 |cons p pre ih=>intro h k;exact .tail (h p M3) (ih (λq hq=>h q (a5 _ hq)) k)
theorem EI{α:Type}{cmp:Nat->Nat->Option Bool}{ask:Nat->Nat->(Bool->Shared->Prop)->Shared->Prop}{G:α->Shared->Prop}{s:Shared}(h:∀i j c,cmp i j=some c->∀Q:Bool->Shared->Prop,Q c s->ask i j Q s):
 ∀{t:KasT α}{a:α},BG cmp t=some a->G a s->t.kasWp ask G s
 | .ret _,_,e,g=>by obtain rfl:=si e;exact g
 | .ask i j k,a,e,g=>by
  show ask i j (λb s'=>(k b).kasWp ask G s') s;exact u3 e λc q e=>h i j c q _ (EI h e g)
section
theorem pH{xs:List V}{vs:List Value}(ok:V0 b rs xs vs){p:List Nat}:(∀i∈p,i<xs.length)->V0 b rs (p.map λi=>(J0 xs i).getD .none) (p.map λi=>vs.getD i .none):=by
 induction p with
 |nil=>
  intro _;exact rfl
 |cons i p ih=>
  intro h;have hi:=h i M3;have e:J0 xs i=some xs[i]:=by rw[U0];exact jX hi
  refine u0 (ok.get e) λv v1 v2=> ?_;refine⟨v,p.map λi=>vs.getD i .none,?_,?_,ih λj hj=>h j (a5 _ hj)⟩
  .show vs.getD i .none::_=_;rw[List.getD_eq_getElem?_getD,v1];rfl
  .show E2 b rs ((J0 xs i).getD .none) v;rw[e];exact v2
theorem M0.Yl(S:M0 w b cx H rs h og)(hL:(L,m)∈cx.fs)(ha:b.objs.size<=L)(hr:J0 rs i=some r)(hn:∀p∈r.led,¬IsT p.2)(hz:r.fz=[]:=by rfl):
 ∃pre post,Fr b L h m/\News b L h (pre++(r.led++post))/\((pre++(r.led++post)).map (·.1)).Nodup/\(∀q∈led rs,q∈pre++(r.led++post))/\
  ∀{h':Heap}{r':RO}{o:n0},r'.addr=r.addr->r'.led.map (·.1)=r.led.map (·.1)->Fr b L h' m->News b L h' (pre++(r'.led++post))->P2 w b (Mine.Internal.upd rs i r') o r'->M0 w b cx (Mine.Internal.upd H i o) (Mine.Internal.upd rs i r') h' og/\Ext rs (Mine.Internal.upd rs i r'):=by
 refine I7 (S.Fe hL ha) λfr F N nd back=> ?_;refine A3 (X9 hr) λl1 l2 e1 u=> ?_;refine⟨fr++l1,l2,F,?_,?_,λq hq=> ?_,λ{h' r' o} ea el F' N' ok=> ?_⟩
 .rw[i7,e1.symm];exact N
 .rw[i7,e1.symm];exact nd
 .rw[i7,e1.symm];exact u5 _ hq
 .have X:=Ext.upd (r':=r') hr ea hn hz;refine⟨back h' m F' _ _ (λ_=>rfl) (by rw[u _,<-i7];exact N') ?_ (CO S) (X.at_ _ _ S.tab) (eT (r:=r) S X ok),X⟩;rw[u _,e1];simp[el]
noncomputable def Ff(w:World)(b:Heap)(cx:Cx)(H:List n0)(rs:List RO)(i:Nat)(D:Addr)(xs:List V)(h':Heap)(og:OG):Prop:=
 ∃vs c,M0 w b cx (upd H i (.lst xs)) (upd rs i (.one D (seqObj "list" (List.toArray vs) c))) h' og/\Ext rs (upd rs i (.one D (seqObj "list" (List.toArray vs) c)))
theorem kU{L:Addr}{m:Str->Option Value}(S:M0 w b cx H rs s.heap (s.os,s.gens))(hL:(L,m)∈cx.fs)(ha:b.objs.size<=L){i:Nat}{D:Addr}{vs:List Value}{c0:Nat}{xs:List V}(hr:J0 rs i=some (.one D (seqObj "list" vs.toArray c0)))(ok:V0 b rs xs vs)
 (h2:2<=xs.length) (Qv:xs.length<64) {κ:SortKind} {cmp:Nat->Nat->Option Bool} {p:Array Nat} (FI:BG cmp (kas_sort xs.length)=some p) (hp:∀i∈p.toList,i<xs.length) {Q:Value->Shared->Prop}
 (Zl:∀s':Shared,(∀a o,KF b rs a o->s'.heap.get? a=some o)->∀Q':SortKind->Shared->Prop,Q' κ s'->wpAny (model E1 w) A.in1 (keyKind' vs.toArray) Q' (λ_ _=>False) s')
 (Rv:∀s':Shared,(∀a o,KF b rs a o->s'.heap.get? a=some o)->∀i j c,cmp i j=some c->∀Q':Bool->Shared->Prop,Q' c s'->kas_ask E1 w A.in1 κ vs i j Q' s')
 (hQ:∀h',Ff w b cx H rs i D (p.toList.map λi=>(J0 xs i).getD .none) h' (s.os,s.gens)->Q .none {s with heap:=h'}):wpAny (model E1 w) A (call (.builtin "list.sort") [.ref D]) Q E s:=by
 have nT:∀{xs c},¬IsT (seqObj "list" xs c):=λ{xs c} t=>by refine D0 t λq _=> ?_;clear t;simp at q
 refine SJ (S.Yl hL ha hr (by intro q hq;simp[RO.led] at hq;subst hq;exact nT)) λpre post F N nd mem back=> ?_;simp only[RO.led,List.cons_append,List.nil_append] at N nd mem;have cK:(∀q∈pre,q.1≠D)/\∀q∈post,q.1≠D:=by
  rw[w8,R6,gD] at nd;refine⟨λq hq e=>nd.2.2 q.1 (d5 hq) D M3 e,λq hq e=> ?_⟩;exact(H7.mp nd.2.1).1 (z5.mpr ⟨q,hq,e⟩)
 have U:=λo=>SM (d:=D) (o:=o) cK.1 cK.2;have hl:=ok.length;refine kat_lsort (its:=vs.toArray) (n:=c0) (vs:=vs) F N (U _) (by simp) (by lia) (by lia) λe1 h' F' N'=> ?_;have kf:∀{h':Heap}{o':Obj},Fr b L h' m->News b L h' (pre++(D,o')::post)->(∀a o,KF b rs a o->h'.get? a=some o):=by
  intro h' o' F' N' a o k;rcases k.2 with k2|k2
  .exact F'.keep _ _ k2
  .have e:=(S.at_ (a,o) (u5 _ k2)).1;have ne:a≠D:=λq=>by
    have e2:=S.one hr;rw[q] at e;rw[e2] at e;obtain rfl:=si e;exact nT k.1
   have hm:(a,o)∈pre++post:=by
    rcases R5.mp (mem _ k2) with q|q
    .exact o7 _ q
    .rcases M4.mp q with q|q
     .cases q;exact absurd rfl ne
     .exact u5 _ q
   exact(N' (a,o) (by rcases R5.mp hm with hm|hm<;>simp[hm])).1
 refine Zl _ (kf F' N') _ ?_;rw[hl];refine EI (Rv _ (kf F' N')) FI ?_;refine KasFin.intro F' N' (U _) λKY c cm dm=>hQ KY ⟨_,c,back rfl rfl cm (by simpa[RO.led] using dm) ?_⟩;have X:Ext rs (Mine.Internal.upd rs i (.one D (seqObj "list" (List.toArray (p.toList.map λi=>vs.getD i .none)) c))):=Ext.upd (r':= .one D _) hr rfl (by intro q hq;simp[RO.led] at hq;subst hq;exact nT);exact⟨D,_,c,rfl,pH (ok.ext X) hp⟩
end
section
theorem M0.lU(S:M0 w b cx H rs h og)(hL:(L,m)∈cx.fs)(ha:b.objs.size<=L):
 ∃news,Fr b L h m/\News b L h news/\(∀p∈led rs,p∈news)/\
  ∀{h':Heap}{D:Addr}{ob:Obj}{o:n0},Fr b L h' m->News b L h' ((D,ob)::news)->(∀q∈news,q.1<D)->P2 w b (rs++[.one D ob]) o (.one D ob)->M0 w b cx (H++[o]) (rs++[.one D ob]) h' og:=by
 refine w6 (List.append_of_mem hL) λf1 f2 e=> ?_;refine J3 (uM (h:=h) (fs:=f1++f2) λp hp=>(S.ns p (by rw[e];rcases R5.mp hp with hp|hp<;>simp[hp])).1) λl el pl kl=> ?_;have nd:=S.nd;rw[e] at nd;have cK:((f1.map (·.1)++f2.map (·.1))++(cx.os++led rs).map (·.1)).Nodup/\L∉(f1.map (·.1)++f2.map (·.1))++(cx.os++led rs).map (·.1):=by
  have p:(L::((f1.map (·.1)++f2.map (·.1))++(cx.os++led rs).map (·.1))).Nodup:=by
   refine(List.Perm.nodup_iff ?_).mp nd;simp only[w8,R6,i7,List.cons_append];exact List.perm_middle
  exact⟨(H7.mp p).2,(H7.mp p).1⟩
 have hn:=S.ns _ hL;refine⟨l++(cx.os++led rs),⟨hn.1,S.keep,ha⟩,λp hp=> ?_,(λp hp=>u5 _ (u5 _ hp)),λ{h' D ob o} F N lt ok=> ?_⟩
 .rcases R5.mp hp with hp|hp
  .have hm:p.1∈f1.map (·.1)++f2.map (·.1):=by rw[w8.symm,el.symm];exact d5 hp
   refine⟨pl p hp,λq=>cK.2 (o7 _ (q▸hm)),?_⟩;rw[<-w8] at hm;refine u0 (z5.mp hm) λz hz ez=> ?_;rw[ez.symm];exact(S.ns z (by rw[e];rcases R5.mp hz with hz|hz<;>simp[hz])).2
  .exact⟨(S.at_ p hp).1,λq=>cK.2 (u5 _ (q▸d5 hp)),(S.at_ p hp).2⟩
 .have S':M0 w b cx H rs h' og:=by
   refine⟨F.keep,λp hp=> ?_,λp hp=> ?_,S.nd,S.len,⟨V7 ha (Nat.le_of_lt F.ns.lt),S.big.2⟩,S.tab,S.ok⟩
   .by_cases q:p=(L,m)
    .subst q;exact⟨F.ns,hn.2⟩
    .have W7:p∈f1++f2:=by
      rw[e] at hp;rcases R5.mp hp with hp|hp
      .exact o7 _ hp
      .rcases M4.mp hp with hp|hp
       .exact absurd hp q
       .exact u5 _ hp
     exact⟨kl h' (λz hz=>(N z (a5 _ (o7 _ hz))).1) p W7,(S.ns p hp).2⟩
   .exact⟨(N p (a5 _ (u5 _ hp))).1,(S.at_ p hp).2⟩
  have nD:=N (D,ob) M3;refine S'.more (r:= .one D ob) (λp hp=> ?_) (by simp[RO.led]) ok;obtain rfl:p=(D,ob):=by simpa[RO.led] using hp
  refine⟨nD.1,nD.2.2,λhm=> ?_,λhm=> ?_⟩
  .refine u0 (z5.mp hm) λz hz ez=> ?_;by_cases q:z=(L,m)
   .subst q;exact nD.2.1 ez.symm
   .have Sv:z∈f1++f2:=by
     rw[e] at hz;rcases R5.mp hz with hz|hz
     .exact o7 _ hz
     .rcases M4.mp hz with hz|hz
      .exact absurd hz q
      .exact u5 _ hz
    have:z.1∈l.map (·.1):=by rw[el];exact d5 Sv
    refine u0 (z5.mp this) λy hy ey=> ?_;have:=lt y (o7 _ hy);rw[ey,ez] at this;exact Nat.lt_irrefl _ this
  .refine u0 (z5.mp hm) λz hz ez=> ?_;have:=lt z (u5 _ hz);rw[ez] at this;exact Nat.lt_irrefl _ this
theorem CK{h₀:Heap}{L D:Addr}{m:Str->Option Value}{news:List (Addr×Obj)}{vs:List Value}{c0:Nat}{Q:Value->Shared->Prop}(F:Fr h₀ L s.heap m)(N:News h₀ L s.heap ((D,seqObj "list" vs.toArray c0)::news))(OA:∀p∈news,p.1≠D)(h2:vs.length<2)
 (h:∀h' c,Fr h₀ L h' m->News h₀ L h' ((D,seqObj "list" vs.toArray c)::news)->Q .none {s with heap:=h'}):wpAny (model E1 w) A (call (.builtin "list.sort") [.ref D]) Q E s:=by
 have z:=N _ M3;refine wpAny_call_entry PyProof.Rows.slot_list_sort ⟨_,z.1,rfl⟩ PyProof.Rows.entry_list_sort ?_ (PyProof.Rows.args_list_sort _);have ho:=z.1;have s1:=Heap.SameBut.update s.heap D (Obj.mapSeq λ_=>(#[]:Array Value));obtain⟨e1,iP⟩:∃e1,(s.heap.update D (Obj.mapSeq λ_=>(#[]:Array Value))).get? D=some (seqObj "list" #[] e1):=⟨_,get?_update_seq ho λ_=> #[]⟩;have F3:Fr h₀ L (((s.heap.update D (Obj.mapSeq λ_=>(#[]:Array Value))).push (seqObj "tuple" vs.toArray 0)).push (seqObj "list" #[] 0)) m:=((kas_fr F s1 z.2.1 z.2.2).push _).push _;have N2:News h₀ L (((s.heap.update D (Obj.mapSeq λ_=>(#[]:Array Value))).push (seqObj "tuple" vs.toArray 0)).push (seqObj "list" #[] 0)) news:=
  (kas_news (λp hp=>N p (a5 _ hp)) s1 OA).grown λb x e=>Heap.get?_push_of_some _ (Heap.get?_push_of_some _ e)
 have Il:(((s.heap.update D (Obj.mapSeq λ_=>(#[]:Array Value))).push (seqObj "tuple" vs.toArray 0)).push (seqObj "list" #[] 0)).get? D=some (seqObj "list" #[] e1):=Heap.get?_push_of_some _ (Heap.get?_push_of_some _ iP);rw[list_sort_plain _];refine wpAny_bind (listItems_at ho rfl ?_);refine wpAny_bind (listUpdate_at ho rfl ?_ (by rw[List.size_toArray,sizeLine_eq];lia) (Nat.zero_le _));refine wpAny_bind (seqEpoch_at iP rfl ?_);refine wpAny_bind (wpAny_newTuple ?_ (by show vs.length<=_;rw[sizeLine_eq];lia));refine wpAny_bind (wpAny_newList ?_ (Nat.zero_le _));refine wpAny_holding ?_;show wpAny _ _ _ _ _ {s with heap:=((s.heap.update D (Obj.mapSeq λ_=>(#[]:Array Value))).push (seqObj "tuple" vs.toArray 0)).push (seqObj "list" #[] 0)};dsimp only;have Xz:vs.toArray.size<2:=by rw[List.size_toArray];assumption
 rw[if_pos Xz,if_pos Xz];refine wpAny_bind (wpAny_pure ?_);rw[StateT.run_pure];refine wpAny_bind (wpAny_pure ?_);dsimp only;have Tv:(arrOf (SortSt.mk' general' (vs.toArray.zip vs.toArray) #[] 7 none)).map (·.2)=vs.toArray:=by
  show((vs.toArray.zip vs.toArray).map (·.2))=_;simp only[List.zip_toArray,List.map_toArray];congr 1;exact List.map_snd_zip (j6 _)
 rw[Tv];have s2:=Heap.SameBut.update (((s.heap.update D (Obj.mapSeq λ_=>(#[]:Array Value))).push (seqObj "tuple" vs.toArray 0)).push (seqObj "list" #[] 0)) D (Obj.mapSeq λ_=>vs.toArray);obtain⟨c2,hc2⟩:∃c2,((((s.heap.update D (Obj.mapSeq λ_=>(#[]:Array Value))).push (seqObj "tuple" vs.toArray 0)).push (seqObj "list" #[] 0)).update D (Obj.mapSeq λ_=>vs.toArray)).get? D=some (seqObj "list" vs.toArray c2):=⟨_,get?_update_seq Il λ_=>vs.toArray⟩;refine wpAny_bind (seqEpoch_at Il rfl ?_);refine wpAny_bind (listUpdate_at Il rfl ?_ (Nat.zero_le _) (by rw[List.size_toArray,sizeLine_eq];lia));simp only[bne_self_eq_false,IJ,if_false];refine wpAny_pure ⟨_,rfl,h _ c2 (kas_fr F3 s2 z.2.1 z.2.2) λp hp=> ?_⟩;rcases M4.mp hp with rfl|hp
 .exact⟨hc2,z.2⟩
 .exact kas_news N2 s2 OA p hp
end
section
structure IC(w:World)(b:Heap)(rs:List RO)(vs:List Value)(κ:SortKind)(cmp:Nat->Nat->Option Bool):Prop where
 kind:∀(A:Around)(s:Shared),A.units+10<cLine->(∀a o,KF b rs a o->s.heap.get? a=some o)->∀Q:SortKind->Shared->Prop,Q κ s->wpAny (model E1 w) A (keyKind' vs.toArray) Q (λ_ _=>False) s
 ask:∀(A:Around)(s:Shared),A.units+10<cLine->(∀a o,KF b rs a o->s.heap.get? a=some o)->∀i j c,cmp i j=some c->∀Q:Bool->Shared->Prop,Q c s->kas_ask E1 w A κ vs i j Q s
theorem GB(h:O4 F ds vs)(e:J0 ds i=some d):G3 F d (vs.getD i .none):=by
 induction ds generalizing vs i with
 |nil=>exact A0 e
 |cons x ds ih=>
  refine U1 h λv r B0=> ?_;clear h;subst B0;intro x y;induction i using iB with
  |zero=>exact si e▸x
  |succ i=>exact(ih y e:G3 F d (r.getD i .none))
theorem IB(h:dH d=some p):d= .tup [.int false p.1,.int false p.2]:=u3 h λq e h=>u3 h λa ea h=>u3 h λc ec h=>A4 h λg h=>R1 g λg1 g2=>by
 rw[X8 e,z8 ea,z8 ec,XE g1,XE g2,(si h).symm]
theorem tQ{h:Heap}{F:Addr->Obj->Prop}{G:Value->Prop}{ds:List Dt}{vs:List Value}(x:O4 F ds vs)(k:∀d∈ds,∀v,G3 F d v->∃a f r n,v= .ref a/\h.get? a=some (seqObj "tuple" (List.toArray (f::r)) n)/\G f):∃fs,KatTups h vs fs/\fs.length=vs.length/\∀f∈fs,G f:=by
 induction ds generalizing vs with
 |nil=>obtain rfl:=x;exact⟨[],trivial,rfl,λf hf=>nomatch hf⟩
 |cons d ds ih=>
  refine U1 x λv r B0=> ?_;clear x;subst B0;intro x1 x2;refine J3 (ih x2 λd hd=>k d (a5 _ hd)) λfs t1 t2 t3=> ?_;refine BA (k d M3 v x1) λa f us n B0=> ?_;subst B0;intro ha hg;exact⟨f::fs,KatTups.cons ha rfl rfl rfl t1,congrArg Nat.succ t2,λg hf=>(M4.mp hf).elim (λe=>e▸hg) (t3 g)⟩
theorem G3.fst(x:G3 F (.tup (d::ds)) v):∃a f r n,v= .ref a/\F a (seqObj "tuple" (List.toArray (f::r)) n)/\G3 F d f:=by
 obtain⟨a,us,n,e,ha,f,r,rfl,y,_⟩:=G3.tup.mp x;exact⟨a,f,r,n,e,ha,y⟩
theorem It{A:Around}(h:A.units+10<cLine):A.units+1<cLine:=NH (Nat.add_le_add_left (by decide) _) h
theorem rH{A:Around}{s:Shared}{vs:List Value}{ds:List Dt}(h2:0<vs.length)(x:O4 (λa o=>s.heap.get? a=some o) ds vs)(k:∀d∈ds,∃sg n r,d= .tup (.int sg n::r))(hA:A.units+10<cLine){Q:SortKind->Shared->Prop}(q:Q (tuples' true) s):wpAny (model E1 w) A (keyKind' vs.toArray) Q (λ_ _=>False) s:=by
 obtain⟨fs,t1,t2,t3⟩:=tQ (G:=λf=>∃n t,f=Value.int n t) x λd hd v y=>by
  refine Pj (k d hd) λsg n r B0=> ?_;subst B0;obtain⟨a,f,r,m,e,ha,t,ef⟩:=y.fst;exact⟨a,f,r,m,e,ha,n,t,ef⟩
 exact kat_kind (T:= .type "int") t1 (t2▸h2) (λv hv=>by refine w6 (t3 v hv) λn t B0=> ?_;subst B0;exact Looks.of_pure rfl) rfl q
theorem mU(x:O4 (KF b rs) ds vs)(e:ds.all (λd=>(dH d).isSome)=true)(h2:0<vs.length):IC w b rs vs (tuples' true) (Ek ds) where
 kind:=λA s hA kf Q q=>rH h2 (x.mono kf) (λd hd=>by
  refine O0 (eO.mp (xC.mp e d hd)) λp hp=> ?_;exact⟨_,_,_,IB hp⟩) hA q
 ask:=λA s hA kf i j c hc Q q=>by
  refine u3 hc λdx hx hc=>u3 hc λdy hy hc=>u3 hc λp1 e1 hc=>B5 hc λp2 e2 hc=> ?_;subst hc;exact bP (IB e1▸GB (x.mono kf) hx) (IB e2▸GB (x.mono kf) hy) q
theorem nU{nb:Bool}{es:List Ent}{vs:List Value}(x:O4 (KF b rs) (es.map λe=>Q1 nb e.k) vs)(h2:0<vs.length):IC w b rs vs (tuples' (!nb)) (iU es) where
 kind:=λA s hA kf Q q=>by
  induction nb using Q2 with
  |false=>exact rH h2 (x.mono kf) (λd hd=>by refine u0 (z5.mp hd) λe _ B0=> ?_;subst B0;exact⟨_,_,_,rfl⟩) hA q
  |true=>
   obtain⟨fs,t1,t2,t3⟩:=tQ (G:=λf=>∃a o,f=Value.ref a/\s.heap.get? a=some o/\o.cls= .type "tuple") (x.mono kf) λd hd v y=>by
    refine u0 (z5.mp hd) λe _ B0=> ?_;subst B0;refine BA y.fst λa f r m e ha z=> ?_;refine T3 (G3.tup.mp z) λc us k ef hc _=> ?_;exact⟨a,f,r,m,e,ha,c,_,ef,hc,rfl⟩
   exact kat_kind (T:= .type "tuple") t1 (t2▸h2) (λv hv=>by refine U1 (t3 v hv) λa o B0=> ?_;subst B0;intro ho hc;exact hc▸(Looks.ld ho).andThen .now) rfl q
 ask:=λA s hA kf i j c hc Q q=>by
  refine u3 hc λex hx hc=>B5 hc λey hy hc=> ?_;subst hc;exact HY (GB (d:=Q1 nb ex.k) (i:=i) (x.mono kf) (by rw[EB,hx];rfl)) (GB (d:=Q1 nb ey.k) (i:=j) (x.mono kf) (by rw[EB,hy];rfl)) hA q
noncomputable def Gf(ns:List Int)(i j:Nat):Option Bool:=(J0 ns i).bind λx=>(J0 ns j).map λy=>decide (x<y)
theorem jF(h:IntsAre vs ns)(e:J0 ns i=some x):∃t,vs.getD i .none= .int x t:=by
 induction h generalizing i with
 |nil=>exact A0 e
 |cons y t h ih=>
  induction i using iB with
  |zero=>exact⟨t,by rw[(si e).symm];rfl⟩
  |succ i=>exact ih e
theorem TM(h:IntsAre vs ns):∀v∈vs,∃x t,v= .int x t:=by
 induction h with
 |nil=>exactλv hv=>nomatch hv
 |cons x t h ih=>exactλv hv=>(M4.mp hv).elim (λe=>⟨x,t,e⟩) (ih v)
theorem oU(x:IntsAre vs ns)(h2:2<=vs.length):IC w b rs vs oneType' (Gf ns) where
 kind:=λA s hA kf Q q=>kas_kind (T:= .type "int") h2 (λv hv=>by refine w6 (TM x v hv) λn t B0=> ?_;subst B0;exact Looks.of_pure rfl) (by decide) rfl q
 ask:=λA s hA kf i j c hc Q q=>by
  refine u3 hc λp hx hc=>B5 hc λr hy hc=> ?_;subst hc;refine O0 (jF x hx) λt1 z1=> ?_;refine O0 (jF x hy) λt2 z2=> ?_;unfold kas_ask;rw[z1,z2];exact kat_lt_int q
end
section
variable{w:World}{b:Heap}{n:Nat}{A:Around}{E:Value->Shared->Prop}{s:Shared}{cx:Cx}{rs:List RO}{σ:St}{H:List n0}{L:Addr}{m:Str->Option Value}
theorem JB(hA:B2 A n)(hk:k<=5):A.units+k+10<cLine:=by have:=hA.units;lia
theorem wc(h:keys.length=arr.size)(hP:∀(j:Nat)(v:Value),keys[j]? =some v->Df arr j v):keys=arr.toList.map (·.key):=by
 apply List.ext_getElem?;intro j;rw[LJ,Array.getElem?_toList (xs:=arr)];induction e:keys[j]? using opQ with
 |some v=>
  refine u0 (hP j v e) λz z1 z2=> ?_;rw[z1,z2];rfl
 |none=>
  have hj:arr.size<=j:=by rw[h.symm];exact List.getElem?_eq_none_iff.mp e
  rw[Array.getElem?_eq_none hj];rfl
theorem DA(hA:B2 A n)(S:M0 w b cx σ.heap rs s.heap (s.os,s.gens))(hL:(L,m)∈cx.fs)(ha:b.objs.size<=L){p:Addr}{o:Obj}{arr:Array DictEntry}{ep:Nat}(hg:s.heap.get? p=some o)(hx:o.ExactDict)(hd:o.data= .dict arr ep)(lo:(p==sysModules)=false){xs:List V}(ok:V0 b rs xs (arr.toList.map (·.key)))(h2:xs.length<2)
 {Q:K1} (h:Q (.ref σ.new) (σ.push (.lst xs))):wpAny (model E1 w) A (call (.builtin "sorted") [.ref p]) (PV w b cx rs Q) E s:=by
 refine I7 (S.lU hL ha) λnews F N mem back=> ?_;have hl:=ok.length;have hz:arr.size=xs.length:=by rw[KD,Array.length_toList] at hl;exact hl
 refine kdu_sorted (cP (es:=arr) (ep:=ep) lo) hA.handled F N ⟨o,hg,hx,hd⟩ (by rw[sizeLine_eq];lia) λD h' tk vs F' N' lt hn hP=> ?_;have hk:=wc hn hP;refine CK (c0:=0) F' N' (λq hq e=>by have:=lt q hq;rw[e] at this;exact Nat.lt_irrefl _ this) (by lia) λKY c cm dm=> ?_;have X:=Ext.push rs (.one D (seqObj "list" vs.toArray c));have S2:M0 w b cx (σ.push (.lst xs)).heap (rs++[.one D (seqObj "list" vs.toArray c)]) KY _:=back (o:= .lst xs) cm dm lt ⟨D,vs,c,rfl,(hk.symm▸ok:V0 b rs xs vs).ext X⟩;refine .here (s':={s with heap:=KY,toks:=tk}) h S2 X ⟨D,?_,rfl⟩;show adr _ σ.heap.length=_;rw[S.len];exact j7 rs _
theorem DK(l:List α)(x y:α):upd (l++[x]) l.length y=l++[y]:=by rw[K3,List.set_append_right _ _ (j6 _)];simp
theorem pU(l:List α)(x:α):J0 (l++[x]) l.length=some x:=by rw[U0,List.getElem?_append_right (j6 _)];simp
theorem SA(hA:B2 A n)(S:M0 w b cx σ.heap rs s.heap (s.os,s.gens))(hL:(L,m)∈cx.fs)(ha:b.objs.size<=L){p:Addr}{o:Obj}{arr:Array DictEntry}{ep:Nat}(hg:s.heap.get? p=some o)(hx:o.ExactDict)(hd:o.data= .dict arr ep)(lo:(p==sysModules)=false){xs:List V}(ok:V0 b rs xs (arr.toList.map (·.key)))(h2:2<=xs.length)(Qv:xs.length<64)
 {κ:SortKind} {cmp:Nat->Nat->Option Bool} {q:Array Nat} (K:IC w b rs (arr.toList.map (·.key)) κ cmp) (FI:BG cmp (kas_sort xs.length)=some q) (hq:∀i∈q.toList,i<xs.length)
 {Q:K1} (h:Q (.ref σ.new) (σ.push (.lst (q.toList.map λi=>(J0 xs i).getD .none)))):wpAny (model E1 w) A (call (.builtin "sorted") [.ref p]) (PV w b cx rs Q) E s:=by
 refine I7 (S.lU hL ha) λnews F N mem back=> ?_;have hl:=ok.length;have hz:arr.size=xs.length:=by rw[KD,Array.length_toList] at hl;exact hl
 refine kdu_sorted (cP (es:=arr) (ep:=ep) lo) hA.handled F N ⟨o,hg,hx,hd⟩ (by rw[sizeLine_eq];lia) λD h' tk vs F' N' lt hn hP=> ?_;have hk:=wc hn hP;have X:=Ext.push rs (.one D (seqObj "list" vs.toArray 0));have Yz:V0 b (rs++[.one D (seqObj "list" vs.toArray 0)]) xs vs:=(hk.symm▸ok:V0 b rs xs vs).ext X;have S':M0 w b cx (σ.heap++[.lst xs]) (rs++[.one D (seqObj "list" vs.toArray 0)]) h' _:=back F' N' lt ⟨D,vs,0,rfl,Yz⟩;subst hk;refine kU (s:={s with heap:=h',toks:=tk}) S' hL ha (pU rs _) Yz h2 Qv FI hq (λs' kf Q' q'=>K.kind _ s' (JB hA (k:=2) (by exact kB _ _)) (λa o k=>kf a o (k.ext X)) Q' q') (λs' kf i j c hc Q' q'=>K.ask _ s' (JB hA (k:=2) (by exact kB _ _)) (λa o k=>kf a o (k.ext X)) i j c hc Q' q') λKY hs=> ?_;refine A3 hs λGv c S2 X2=> ?_;clear hs;rw[DK] at S2 X2;rw[show rs.length=σ.heap.length from S.len.symm,DK] at S2;refine .here (s':={s with heap:=KY,toks:=tk}) h S2 (X.trans X2) ⟨D,?_,rfl⟩;show adr _ σ.heap.length=_;rw[S.len];exact j7 rs _
theorem UM(hA:B2 A n)(S:M0 w b cx σ.heap rs s.heap (s.os,s.gens))(hL:(L,m)∈cx.fs)(ha:b.objs.size<=L){p:Addr}{vs:List Value}{c0:Nat}(hg:s.heap.get? p=some (seqObj "list" vs.toArray c0)){xs:List V}(ok:V0 b rs xs vs)(h2:2<=xs.length)(Qv:xs.length<64)
 {κ:SortKind} {cmp:Nat->Nat->Option Bool} {q:Array Nat} (K:IC w b rs vs κ cmp) (FI:BG cmp (kas_sort xs.length)=some q) (hq:∀i∈q.toList,i<xs.length)
 {Q:K1} (h:Q (.ref σ.new) (σ.push (.lst (q.toList.map λi=>(J0 xs i).getD .none)))):wpAny (model E1 w) A (call (.builtin "sorted") [.ref p]) (PV w b cx rs Q) E s:=by
 refine I7 (S.lU hL ha) λnews F N mem back=> ?_;have hl:=ok.length;refine kat_sorted F N (H4 hg) (by lia) (by lia) λD e1 h' F' N' lt=> ?_;have kf:∀a o,KF b rs a o->h'.get? a=some o:=λa o k=>k.2.elim (F'.keep a o) λz=>(N' (a,o) (a5 _ (mem _ z))).1;refine K.kind _ _ (JB hA (k:=2) (by exact kB _ _)) kf _ ?_;rw[hl];refine EI (λi j c hc Q' q'=>K.ask _ _ (JB hA (k:=2) (by exact kB _ _)) kf i j c hc Q' q') FI ?_;refine KasFin.intro F' N' (.head λq hq e=>by have:=lt q hq;rw[e] at this;exact Nat.lt_irrefl _ this) λKY c cm dm=> ?_;have X:=Ext.push rs (.one D (seqObj "list" (List.toArray (q.toList.map λi=>vs.getD i .none)) c));have S2:M0 w b cx (σ.push (.lst (q.toList.map λi=>(J0 xs i).getD .none))).heap (rs++[.one D (seqObj "list" (List.toArray (q.toList.map λi=>vs.getD i .none)) c)]) KY _:=back (o:= .lst (q.toList.map λi=>(J0 xs i).getD .none)) cm dm lt ⟨D,_,c,rfl,(pH ok hq).ext X⟩;refine .here (s':={s with heap:=KY}) h S2 X ⟨D,?_,rfl⟩;show adr _ σ.heap.length=_;rw[S.len];exact j7 rs _
end
section
variable{w:World}{b:Heap}{n:Nat}{A:Around}{E:Value->Shared->Prop}{s:Shared}{cx:Cx}{rs:List RO}{σ:St}{H:List n0}{L:Addr}{m:Str->Option Value}
theorem jP{D:E5 w}{es:List (Dt×V×V)}{xs:List (D.K×Addr×Value)}(h:W8 D b rs es xs):V0 b rs (es.map (·.2.1)) (xs.map λx=> .ref x.2.1)/\O4 (KF b rs) (es.map (·.1)) (xs.map λx=> .ref x.2.1):=by
 induction es generalizing xs with
 |nil=>obtain rfl:=h;exact⟨rfl,rfl⟩
 |cons p es ih=>
  refine DE h λk a v q B0=> ?_;clear h;subst B0;intro h1 h2 h3 h4 h5;exact⟨⟨_,_,rfl,h3,(ih h5).1⟩,_,_,rfl,h2,(ih h5).2⟩
inductive Raw(b:Heap)(rs:List RO)(vs:List V)(ds:List Dt)(o:Obj):Prop
 |mk (arr:Array DictEntry) (ep:Nat) (h1:o.ExactDict) (h2:o.data= .dict arr ep) (v:V0 b rs vs (arr.toList.map (·.key))) (d:O4 (KF b rs) ds (arr.toList.map (·.key)))
theorem RR.raw{es:List (Dt×V×V)}{o:Obj}(d:RR w b rs es o):Raw b rs (es.map (·.2.1)) (es.map (·.1)) o:=by
 rcases d with⟨rfl,⟨es,ep,h1,h2,h3,h4,h5⟩,_⟩|⟨D,arr,ep,xs,h1,h2,h3,h4,h5⟩
 .cases e:es.toList with
  |nil=>exact⟨es,ep,h1,h2,by rw[e];exact rfl,by rw[e];exact rfl⟩
  |cons x r=>rw[e] at h4;cases h4
 .have e:arr.toList.map (·.key)=xs.map λx=>Value.ref x.2.1:=by rw[h3,yC];rfl
  exact⟨arr,ep,h1,h2,e▸(jP h5).1,e▸(jP h5).2⟩
theorem LY(x:O4 (mX b rs) ds vs)(e:ds.all (λd=>(dH d).isSome)=true):O4 (KF b rs) ds vs:=by
 induction ds generalizing vs with
 |nil=>exact x
 |cons d ds ih=>
  refine U1 x λv r B0=> ?_;clear x;subst B0;intro x1 x2;refine R1 e λe1 e2=>⟨v,r,rfl,DO ?_ x1,ih x2 e2⟩;refine O0 (eO.mp e1) λp hp=> ?_;rw[IB hp];rfl
theorem KQ(h:Pairs (intKind E1 w) l l4)(x:RX b rs es l4):V0 b rs (es.map λe=>V.int false e.1) (l.map (·.key))/\IntsAre (l.map (·.key)) (es.map (·.1)):=by
 induction es generalizing l l4 with
 |nil=>obtain rfl:=x;cases h;exact⟨rfl,.nil⟩
 |cons p es ih=>
  refine U1 x λv q B0=> ?_;clear x;subst B0;intro _ x2;cases h with
  | @cons e0 l' _ _ h1 h2 h3=>
   refine D0 (ih h3 x2) λi1 i2=> ?_;obtain⟨t,hk⟩:∃t,e0.key= .int p.1 t:=by
    have h1:e0.key.isInt p.1=true:=h1;cases e:e0.key with
    |int i0 t0=>rw[e] at h1;exact⟨t0,by rw[show i0=p.1 by simpa[Value.isInt] using h1]⟩
    |_=>rw[e] at h1;exact G2 h1
   exact⟨⟨e0.key,_,rfl,⟨t,hk⟩,i1⟩,by rw[R6,R6,hk];exact .cons _ _ i2⟩
theorem EK{xs:List V}{keys:List Value}(S:M0 w b cx σ.heap rs s.heap (s.os,s.gens))(ok:V0 b rs xs keys){Q:K1}(h:xS xs σ Q){G:Prop}
 (go:∀{cmp:Nat->Nat->Option Bool}{q:Array Nat},IC w b rs keys (tuples' true) cmp->BG cmp (kas_sort xs.length)=some q->(∀i∈q.toList,i<xs.length)->2<=xs.length->xs.length<64->Q (.ref σ.new) (σ.push (.lst (q.toList.map λi=>(J0 xs i).getD .none)))->G):G:=by
 refine E0 h λds Pe h=>E0 h λq hq h=>U3 h λg h=>R1 g λg g4=>R1 g λg g3=>R1 g λg1 g2=> ?_;have g1:=v9 g1;exact go (mU (LY (kI (λe x=>BO S _ e x) Pe ok) g3) g3 (ok.length▸MH (by decide) g1)) hq (λi hi=>v9 (xC.mp g4 i hi)) g1 (v9 g2) h
theorem LQ(h:es.length<2):T2 es=es:=by
 cases es with
 |nil=>rfl
 |cons a es=>cases es with
  |nil=>rfl
  |cons c es=>exact absurd h (gB.mpr (kB 2 _))
theorem MQ(h2:2<=es.length)(h3:es.length<=3):∃q,BG (iU es) (kas_sort es.length)=some q/\(∀i∈q.toList,i<es.length)/\(q.toList.map λi=>(J0 (es.map λe=>V.W0 (Q1 nb e.k)) i).getD .none)=(T2 es).map λe=>V.W0 (Q1 nb e.k):=by
 refine u0 (jU h2 h3) λq q1 q2=> ?_;refine⟨q,q1,λi hi=> ?_,?_⟩
 .have:(J0 es i).map (·.k)∈(T2 es).map (λe=>some e.k):=by rw[q2.symm];exact d5 (f:=λi=>(J0 es i).map (·.k)) hi
  refine u0 (z5.mp this) λz _ hz=> ?_;exact B5 hz.symm λx e _=>by rw[U0] at e;exact(kQ.mp e).1
 .have e2:=congrArg (List.map λo:Option (UInt8×UInt8)=>(o.map λk=>V.W0 (Q1 nb k)).getD .none) q2;rw[yC,yC] at e2;refine Eq.trans (List.map_congr_left λi _=> ?_) e2;show _=(((J0 es i).map (·.k)).map λk=>V.W0 (Q1 nb k)).getD .none;rw[EB];cases J0 es i<;>rfl
theorem qU:BG (Gf [x,y]) (kas_sort 2)=some (match decide (y<x) with|true=> #[1,0]|false=> #[0,1]):=by
 have e1:Gf [x,y]=Ef [[decide (x<x),decide (x<y)],[decide (y<x),decide (y<y)]]:=by
  funext i j
  rcases i with _|_|i<;>rcases j with _|_|j<;>rfl
 rw[e1];simp only[Int.lt_irrefl,decide_false];by_cases h1:y<x
 .simp only[h1,Int.not_lt.mpr (Int.le_of_lt h1),decide_true,decide_false];decide+kernel
 .by_cases h2:x<y<;>(simp only[h1,h2,decide_true,decide_false];decide+kernel)
theorem rU(B:k3 w b)(hA:B2 A n)(S:M0 w b cx σ.heap rs s.heap (s.os,s.gens))(hL:(L,m)∈cx.fs)(ha:b.objs.size<=L){v:V}{u:Value}{Q:K1}(ou:E2 b rs v u)(h:Ob v σ Q):wpAny (model E1 w) A (call (.builtin "sorted") [u]) (PV w b cx rs Q) E s:=by
 have lo:∀{p o},(p,o)∈led rs->(p==sysModules)=false:=λhp=>aA B (S.at_ _ (u5 _ hp)).2;refine K2 h (λe he h=> ?_) λh=>K2 h (λes he h=> ?_) λh=>K2 h (λes he h=> ?_) λh=>E0 h λxs he h=> ?_
 .refine S.dN ou he λp o hp ok=> ?_;obtain⟨arr,ep,h1,h2,h3,h4⟩:=ok.raw;rw[yC] at h3 h4;have hl:(e.2.map (λx=>V.W0 (Q1 e.1 x.k))).length=e.2.length:=KD ..;by_cases hs:e.2.length<2
  .have h:=h.2;rw[LQ hs] at h;exact DA hA S hL ha (S.inR (.inr hp)) h1 h2 (lo hp) h3 (hl.symm▸hs) h
  .refine J3 (MQ (nb:=e.1) (gB.mp hs) h.1) λq q1 q2 q3=> ?_;rw[<-hl] at q1 q2 hs;exact SA hA S hL ha (S.inR (.inr hp)) h1 h2 (lo hp) h3 (gB.mp hs) (hl.symm▸NH h.1 (by decide)) (nU h4 (h3.length.symm▸MH (by decide) (gB.mp hs))) q1 q2 (q3.symm▸h.2)
 .refine S.dI ou he λp o l4 hp hd ok=> ?_;refine SJ hd λarr ep h1 h2 h3 h4 h5=> ?_;clear hd;refine D0 (KQ h4 ok) λk1 k2=> ?_;refine K2 h (λx ex h=> ?_) λh=>E0 h λq ex h=> ?_
  .rw[A8 ex] at k1;exact DA hA S hL ha (S.inR (.inr hp)) h1 h2 (lo hp) k1 (by show 1<2;decide) h
  .rw[J7 ex] at k1 k2;refine SA hA S hL ha (S.inR (.inr hp)) h1 h2 (lo hp) k1 (by show 2<=2;decide) (by show 2<64;decide) (oU (ns:=[q.1.1,q.2.1]) k2 (by rw[k1.length];exact j6 2)) qU (λi hi=> ?_) ?_
   .generalize decide (q.2.1<q.1.1)=bb at hi
    have:i=0\/i=1:=by induction bb using Q2<;>simpa[or_comm] using hi
    rcases this with rfl|rfl<;>(show _<2;decide)
   .generalize decide (q.2.1<q.1.1)=bb at h⊢
    induction bb using Q2<;>exact h
 .refine S.dT ou he λp o hp ok=> ?_;obtain⟨arr,ep,h1,h2,h3,h4⟩:=ok.raw;exact EK S h3 h λ{cmp q} K FI hq g1 g2 h'=>SA hA S hL ha (S.inR (.inr hp)) h1 h2 (lo hp) h3 g1 g2 K FI hq h'
 .refine S.obj ou he λr ob eo m' ok eu=> ?_;rw[xG eo] at ok;refine V3 ok λp vs nn B0=> ?_;clear ok;subst B0;intro ok;rw[eu];exact EK S ok h λ{cmp q} K FI hq g1 g2 h'=>UM hA S hL ha (S.in1 m') ok g1 g2 K FI hq h'
end
theorem r9:Slot "bytes" "join" "bytes.join":=
 .of (owner:="bytes") (n:="join") (by rw[typeLookup_type,builtinLookup_eq_fast];kernel_rfl) (by decide+kernel) (by decide+kernel) (by decide+kernel)
  (by first|exact .inl (by decide+kernel)|exact .inr (by decide+kernel)) (by rw[isSubtype_type];kernel_rfl)
theorem JC:entryFor table "bytes.join"=some Builtin.«bytes.join»:=entryFor_of_tree (by kernel_rfl)
theorem UD:typeOf (.builtin "bytes.join")=pure (.type "method_descriptor"):=by show builtinType _=_;rw[builtinType_eq_fast];kernel_rfl
theorem VD(a b:Value):argsOk "bytes.join" ⟨[a,b],[]⟩:=by
 unfold argsOk;rw[signature?_of (id:="bytes.join") (n:=['n','i','o','j']) (o:=['s','e','t','y','b']) (by kernel_rfl) FB.owner_bytes];kernel_rfl
theorem MY{id:String}{b:Array UInt8}{t:Tok}:Builtin.Bytes.takeBuffer? id (.bytes b t) 0=pure (some (b,none)):=by
 unfold Builtin.Bytes.takeBuffer?;rw[show((0:Int)==Builtin.Bytes.fullReadOnly)=false from by decide+kernel,KBy.special_eq KBy.look_buffer,KBy.own_buffer,KBy.buffer_eq];kernel_rfl
theorem GI(id:String):Builtin.Bytes.takeBufferQuiet? id (.bytes b t) 0=pure (some (b,none)):=by
 unfold Builtin.Bytes.takeBufferQuiet?;rw[MY];rfl
theorem join_loop{prog:Program}{w:World}{A:Around}{E:Value->Shared->Prop}{s:Shared}{α β γ:Type}{f:Nat->Array α×List β->Sem (ForInStep (Array α×List β))}{g:γ->α}{g':γ->β}{c1 c2 c3 c4:γ}{ks:List Nat}{Q:Array α×List β->Shared->Prop}(hk:ks=[0,1,2,3])
 (step:∀k c a(cs:List γ),[c1,c2,c3,c4][k]? =some c->wpAny (model prog w) A (f k (a,cs.map g')) (λr s'=>r= .yield (a.push (g c),cs.map g'++[g' c])/\s'=s) E s) (h:Q (#[g c1,g c2,g c3,g c4],[g' c1,g' c2,g' c3,g' c4]) s):wpAny (model prog w) A (forIn ks ((#[],[]):Array α×List β) f) Q E s:=by
 subst hk;have go:∀{k:Nat}{c:γ}{a:Array α}{cs:List γ}{r:List Nat},[c1,c2,c3,c4][k]? =some c->wpAny (model prog w) A (forIn r (a.push (g c),cs.map g'++[g' c]) f) Q E s->wpAny (model prog w) A (forIn (k::r) (a,cs.map g') f) Q E s:=λ{k c a cs r} e h=>by
  rw[List.forIn_cons];refine wpAny_bind (wpAny_mono (step k c a cs e) (λr s' q=> ?_) λ_ _ x=>x);rw[q.1,q.2];exact h
 refine go (cs:=[]) rfl (go (cs:=[c1]) rfl (go (cs:=[c1,c2]) rfl (go (cs:=[c1,c2,c3]) rfl ?_)));rw[List.forIn_nil];exact wpAny_pure h
theorem kE(h0:wpAny (model prog w) A (Builtin.Bytes.joinLetGo r kp) Q E s0):wpAny (model prog w) A (Builtin.Bytes.joinLetGo ((x,none)::r) kp) Q E s0:=by
 rw[Builtin.Bytes.joinLetGo]
 .first
   |exact wpAny_bind (wpAny_letGo h0)
   |(dsimp only;exact wpAny_bind (wpAny_letGo h0))
   |exact wpAny_bind (wpAny_pure (wpAny_bind (wpAny_letGo h0)))
 .intro _ e;exact A0 e
theorem NY(cs:List (Array UInt8×Tok)):((cs.map λc=>(Value.bytes c.1 c.2,(none:Option Value))).any λx=>x.1.onHeap)=false:=by
 induction cs with
 |nil=>rfl
 |cons c cs ih=>exact ih
theorem VM{prog:Program}{w:World}{t:Tok}{l:Addr}{x1 x2 x3 x4:Array UInt8}{t1 t2 t3 t4:Tok}{n:Nat}:
 MeetsIn prog w (Builtin.«bytes.join» ⟨[.bytes #[] t,.ref l],[]⟩) (λ_ R s=>s.heap.get? l=some (seqObj "list" #[.bytes x1 t1,.bytes x2 t2,.bytes x3 t3,.bytes x4 t4] n)/\x1.size+x2.size+x3.size+x4.size<=16777216/\∀u k,R (.ok (.ret (.bytes (x1++x2++x3++x4) u))) {s with toks:=k}):=
 .of_wp λA R s⟨hl,hz,h⟩=>by
  unfold Builtin.«bytes.join» Builtin.Bytes.joinM;refine wpAny_bind (wpAny_pure ?_);dsimp only;rw[if_pos (by decide)];unfold Builtin.Bytes.joinItems;refine wpAny_bind (wpAny_bind (wpAny_typeOf (T:="list") ⟨_,hl,rfl⟩ ?_));rw[if_pos (by decide)];refine wpAny_pure (wpAny_bind (wpAny_seqItems hl rfl ?_));dsimp only;rw[if_pos (by decide),Std.Legacy.Range.forIn_eq_forIn_range'];refine wpAny_bind (join_loop (g:=λc:Array UInt8×Tok=>c.1) (g':=λc=>(Value.bytes c.1 c.2,none)) (c1:=(x1,t1)) (c2:=(x2,t2)) (c3:=(x3,t3)) (c4:=(x4,t4)) (by simp[Std.Legacy.Range.size,List.range']) (λk c a cs e=> ?_) ?_)
  .have hv: #[Value.bytes x1 t1,.bytes x2 t2,.bytes x3 t3,.bytes x4 t4].getD k .none= .bytes c.1 c.2:=by
    rcases k with _|_|_|_|k<;>first|exact A0 e|(rw[(si e).symm];rfl)
   refine wpAny_bind (wpAny_seqItems hl rfl ?_);dsimp only;rw[if_neg (by exactλq=>G2 ((NY cs).symm.trans q)),hv];refine wpAny_bind (wpAny_holding (wpAny_of_eq (GI _) ?_));dsimp only;refine wpAny_bind (wpAny_seqItems hl rfl ?_);dsimp only;rw[if_neg (by simp)];exact wpAny_pure ⟨rfl,rfl⟩
  .refine wpAny_bind (wpAny_pure ?_);dsimp only;rw[if_neg (by rw[show Array.foldl (λ(a:Nat)(x:Array UInt8)=>a+x.size) ((#[]:Array UInt8).size*(#[x1,x2,x3,x4].size -1)) #[x1,x2,x3,x4]=x1.size+x2.size+x3.size+x4.size by simp,KBy.tooLong_not hz];simp)];rw[show Builtin.Bytes.joined #[] #[x1,x2,x3,x4].toList=x1++x2++x3++x4 by simp[Builtin.Bytes.joined]];refine wpAny_bind (wpAny_mkBytes ?_ (by rw[sizeLine_eq];simp only[Array.size_append];assumption));refine wpAny_bind (wpAny_holding (wpAny_point (wpAny_bind (kE (kE (kE (kE ?_)))))));rw[Builtin.Bytes.joinLetGo];exact wpAny_pure (wpAny_pure ⟨_,rfl,h _ _⟩)
section
theorem Z8(h:yS (x::r)=some p):∃s0 b0 q,x= .bytes s0 b0/\yS r=some q/\p.2=b0++q.2:=u3 h λy e h=>B5 h λq e2 h=>⟨y.1,y.2,q,mQ e,e2,by rw[h.symm]⟩
theorem four(h:l.length=4):∃a b c d,l=[a,b,c,d]:=by
 have n:∀{k j:Nat}{G:Prop},k+1=0->G:=λh=>absurd h (Nat.succ_ne_zero _);induction l using H5 with
 |nil=>exact n (j:=0) h.symm
 |cons a l=>induction l using H5 with
  |nil=>exact n (j:=0) (Nat.succ.inj h).symm
  |cons b l=>induction l using H5 with
   |nil=>exact n (j:=0) (Nat.succ.inj (Nat.succ.inj h)).symm
   |cons c l=>induction l using H5 with
    |nil=>exact n (j:=0) (Nat.succ.inj (Nat.succ.inj (Nat.succ.inj h))).symm
    |cons d l=>induction l using H5 with
     |nil=>exact⟨a,b,c,d,rfl⟩
     |cons e l=>exact n (j:=0) (Nat.succ.inj (Nat.succ.inj (Nat.succ.inj (Nat.succ.inj h))))
theorem sU(S:M0 w b cx σ.heap rs s.heap (s.os,s.gens))(os:V0 b rs args us)(h:Pb args σ Q):wpAny (model E1 w) A (call (.builtin "bytes.join") (.bytes #[] t::us)) (PV w b cx rs Q) E s:=by
 refine E0 h λv e h=>E0 h λi ei h=>E0 h λxs hx h=>E0 h λp hp h=>wG h λg1 g2 hq=> ?_;refine os.one e λu ou=> ?_;refine S.lst ou ei hx λa vs nn hr ok=> ?_;have g2:=V9 g2;refine TJ (four g2) λx1 x2 x3 x4 B0=> ?_;subst B0;refine T3 (Z8 hp) λs1 b1 p1 B0=> ?_;subst B0;intro hp h1;refine T3 (Z8 hp) λs2 b2 p2 B0=> ?_;subst B0;intro hp h2;refine T3 (Z8 hp) λs3 b3 p3 B0=> ?_;subst B0;intro hp h3;refine T3 (Z8 hp) λs4 b4 p4 B0=> ?_;subst B0;intro hp h4;have hb:p.2=b1++b2++b3++b4:=by rw[h1,h2,h3,h4,(si hp).symm];simp
 obtain⟨v1,_,rfl,⟨t1,rfl⟩,v2,_,rfl,⟨t2,rfl⟩,v3,_,rfl,⟨t3,rfl⟩,v4,_,rfl,⟨t4,rfl⟩,rfl⟩:=ok;refine call_meetsIn r9 (typeIs_bytes s _ _) JC (VD _ _) VM ⟨S.one hr,?_,λu k=> .here (s':={s with toks:=k}) hq S (.refl rs) ⟨u,?_⟩⟩
 .have:=v9 g1;rw[hb] at this;simp only[List.size_toArray,o8] at this⊢;exact V7 (by assumption) (kB _ _)
 .rw[hb];simp
theorem OY(B:k3 w b)(hA:B2 A n)(S:M0 w b cx σ.heap rs s.heap (s.os,s.gens))(hL:(L,m)∈cx.fs)(ha:b.objs.size<=L)(os:V0 b rs args us)(h:Hk nm args σ Q):wpAny (model E1 w) A (call (.builtin nm) us) (PV w b cx rs Q) E s:=by
 refine G6 h (λe h=>E0 h λv ev h=> ?_) λ_ h=>G6 h (λe h=> ?_) λ_ h=>G6 h (λe h=> ?_) λ_ h=>G6 h (λe h=>E0 h λv ev h=> ?_) λ_ h=>No.no h
 .rw[of_decide_eq_true e];refine os.one ev λu ou=>GY B S ou h
 .rw[of_decide_eq_true e];exact rf hA S hL ha os h
 .rw[of_decide_eq_true e];exact sf hA S hL ha os h
 .rw[of_decide_eq_true e];refine os.one ev λu ou=>rU B hA S hL ha ou h
end
theorem FK:typeLookup (.type "bytes") "__bytes__"=pure (some (.builtin "bytes.__bytes__")):=by rw[typeLookup_type,builtinLookup_eq_fast];kernel_rfl
section
theorem mF(hQ:Q (.bytes x t) s):
 codeAny (model prog w) A (.call (.builtin "bytes.__new__") ⟨[.type "bytes",.bytes x t],[]⟩) (wants Q E) s:=by
 refine codeAny_of_tree ?_;show wpAny _ A.in1 (do checkBuiltinCall "bytes.__new__" ⟨[.type "bytes",.bytes x t],[]⟩;again (.builtin "bytes.__new__" ⟨[.type "bytes",.bytes x t],[]⟩)) _ _ s;refine wpAny_bind (wpAny_of_eq (F.bm_newCall _) (wpAny_pure ⟨plainId_quiet F.bm_plain _,codeAny_builtin F.bm_entry ?_⟩));rw[Around.under_plainId F.bm_plain _];unfold Builtin.«bytes.__new__»;refine wpAny_bind (wpAny_of_eq (a:=true) rfl ?_);refine bm_if_false rfl ?_;refine wpAny_bind (wpAny_of_eq F.bm_sub ?_);refine bm_if_false rfl ?_;refine wpAny_bind (wpAny_of_eq (F.bm_bind _) ?_);refine wpAny_bind (wpAny_of_eq (a:=()) rfl ?_);refine wpAny_bind (wpAny_of_eq (a:=()) rfl ?_);refine bm_if_false rfl ?_;refine wpAny_bind (wpAny_of_eq (KBy.special_eq FK) ?_);refine wpAny_bind (wpAny_rule ?_);refine wpAny_bind (wpAny_of_eq (a:= .type "bytes") rfl ?_);refine bm_if_true rfl ?_;exact wpAny_pure hQ
theorem WD(hQ:Q (.bytes x t) s):wpAny (model prog w) A (call (.type "bytes") [.bytes x t]) Q E s:=by
 refine callType_codes (Q₁:=λobj U2=>U2.TypeIs obj "bytes"/\Q obj U2) F.bm_called (F.bm_typeCall _) F.entry_object_init
  (mF ⟨PySem.W.typeIs_bytes _ _ _,hQ⟩) λobj U2 Y3=> ?_
 exact⟨Y3.1,F.args_object_init_2 obj _,object_init_meets F.bm_called.init.lookup F.bm_called.made (by decide) prog w A.in1 _ U2 ⟨Y3.1,rfl,Y3.2⟩⟩
end
section
theorem Hf(B:k3 w b)(hA:B2 A n)(S:M0 w b cx σ.heap rs s.heap (s.os,s.gens))(hL:(L,m)∈cx.fs)(ha:b.objs.size<=L)(os:V0 b rs args us)(h:wz nm args σ Q):wpAny (model E1 w) A (call (.type nm) us) (PV w b cx rs Q) E s:=by
 refine G6 h (λe h=>E0 h λv ev h=> ?_) λ_ h=>G6 h (λe h=>E0 h λv ev h=> ?_) λ_ h=>G6 h (λe h=>E0 h λv ev h=>E0 h λp ep h=> ?_) λ_ h=>G6 h (λe h=> ?_) λ_ h=>No.no h
 .rw[of_decide_eq_true e];refine os.one ev λu ou=> ?_;refine K2 h (λy ey h=> ?_) λh=>E0 h λxs hx h=>E0 h λp hp h=> ?_
  .refine ou.bytes ey λt=> ?_;exact WD (.here h S (.refl rs) ⟨t,rfl⟩)
  .refine S.obj ou hx λr ob eo hm ok eu=> ?_;rw[xG eo] at ok;refine V3 ok λa vs nn B0=> ?_;clear ok;subst B0;intro ok;rw[eu];have go:∀{sg},R3 p.2=true->xs.length<=100000->Q (.bytes sg (qt p.2)) σ->wpAny (model E1 w) A (call (.type "bytes") [.ref a]) (PV w b cx rs Q) E s:=λg1 g2 h=>MM hA hL ha S (S.in1 hm) ok (ok.length.symm▸g2) hp g1 h;exact G6 h (λ_ h=>go h.1.1 h.1.2 h.2) λ_ h=>wG h λg1 g2 h=>go g1 (v9 g2) h
 .rw[of_decide_eq_true e];refine os.one ev λu ou=> ?_;refine K2 h (λxs hx h=>U3 h λg h=> ?_) λh=>E0 h λxs hx h=> ?_
  .refine S.obj ou hx λr ob eo hm ok eu=> ?_;rw[xG eo] at ok;refine V3 ok λa vs nn B0=> ?_;clear ok;subst B0;intro ok;rw[eu];exact JM hL ha S (S.in1 hm) ok (ok.length.symm▸v9 g) h
  .refine S.obj ou hx λr ob eo hm ok eu=> ?_;rw[Ru eo] at ok;refine V3 ok λa vs nn B0=> ?_;clear ok;subst B0;intro ok;exact eu.symm▸call_tuple_same (U6 (S.in1 hm)) (.here h S (.refl rs) (eu▸ou))
 .rw[of_decide_eq_true e];refine os.one ev λu ou=> ?_;rw[pv ep] at ou;obtain rfl:=ou;refine call_int_bool (UT (s:=s) (h':=s.heap) (tk:=s.toks+1) S h (λq=>⟨s.toks,?_⟩) λq=>⟨s.toks,?_⟩)<;>rw[q]<;>rfl
 .rw[of_decide_eq_true e];refine K2 h (λv ev h=>E0 h λp ep h=> ?_) λh=>K2 h (λv ev h=>E0 h λa ea h=>E0 h λc ec h=>U3 h λ_ h=> ?_) λh=>E0 h λv ev h=>E0 h λa ea h=>E0 h λv' ev' h=>E0 h λc ec h=>E0 h λd ed h=>wG h λ_ g hq=>R1 g λg1 g2=> ?_
  .refine os.one ev λu ou=> ?_;refine ou.int ep λt=>BQ S h
  .refine os.two ev λu u' ou El=> ?_;refine ou.int ea λt=> ?_;refine El.int ec λt'=>CQ S h
  .induction args using H5 with
   |nil=>exact A0 ev
   |cons x args=>
    obtain rfl:=si ev;refine U1 os λu us B0=> ?_;clear os;subst B0;intro ou os;refine ou.int ea λt=> ?_;refine os.two ev' λu u' ou El=> ?_;refine ou.int ec λt'=> ?_;refine El.int ed λEz=>DQ S (of_decide_eq_true g1) g2 hq
end
noncomputable def KC(w:World)(b:Heap)(n:Nat)(R:Rec):Prop:=∀{f:V}{args:List V}{σ:St}{Q:K1},R.call f args σ Q->
 ∀{A:Around}{s:Shared}{cx:Cx}{rs:List RO}{u:Value}{us:List Value}{L:Addr}{m:Str->Option Value},B2 A n->M0 w b cx σ.heap rs s.heap (s.os,s.gens)->(L,m)∈cx.fs->b.objs.size<=L->E2 b rs f u->V0 b rs args us->
  codeAny (model E1 w) A (.call u ⟨us,[]⟩) (λr s'=>match r with| .ok (.ret v)=>PV w b cx rs Q v s'|_=>False) s
noncomputable def Uv:List (V×Addr):=[(.mt 10 2,90),(.mt 50 0,232),(.mt 53 0,317)]
noncomputable def xc(f:V):Option (V×Addr):=Uv.find? λp=>GQ f p.1
theorem kP:allB (λt:FT=>decide (t.dV=(Option.rec (motive:=λ_=>Value) .none (λp=> .ref p.2) (xc t.f)))) XG=true:=by kernel_rfl
section
theorem Jf(B:k3 w b)(k:∀a o,b.get? a=some o->s.heap.get? a=some o)(ht:t∈XG)(hl:us.length=nA t):BindsTo s t.data ⟨us,[]⟩ (bindTo t us):=by
 have ck:=of_decide_eq_true (Z6 kP t ht);induction e:xc t.f using opQ with
 |none=>rw[e] at ck;exact .of_eq (YT ht ck hl)
 |some p=>
  rw[e] at ck;have at_:∀{a:Addr}{o:Obj},(a,o)∈KL w.params->s.heap.get? a=some o:=λh=>k _ _ (B.K _ _ (NM h));have ef:=YO (List.find?_some (p:=λp:V×Addr=>GQ t.f p.1) e);have hp:=List.mem_of_find?_eq_some e;obtain⟨a0,f,q,pm,dV⟩:=t;obtain rfl:f=p.1:=ef;obtain rfl:dV= .ref p.2:=ck;rw[args_eq hl]
  generalize (λi=>us.getD i .none)=g
  rcases M4.mp hp with rfl|hp
  .exact BindsTo.of_defaults (o:=Bj) rfl (at_ (by simp[KL])) rfl rfl rfl
  rcases M4.mp hp with rfl|hp
  .exact BindsTo.of_defaults (o:=bS) rfl (at_ (by simp[KL])) rfl rfl rfl
  .obtain rfl:=l9.mp hp;exact BindsTo.of_defaults (o:=Bb) rfl (at_ (by simp[KL])) rfl rfl rfl
theorem PY(h:Tb f=true):f= .mt 50 0:=by
 induction f using V.casesOn with
 |mt i j=>exact R1 h λh1 h2=>by rw[V9 h1,V9 h2]
 |_=>exact G2 h
theorem QY{α β:Type}{l:List α}{k:List β}(h:k.length=l.length):(l.zip k).map (·.1)=l:=List.map_fst_zip (OH h.symm)
theorem tU(B:k3 w b)(wA:xI w b n R)(hA:B2 A (n+1))(S:M0 w b cx σ.heap rs s.heap (s.os,s.gens)){f:V}{d:Vi}(hd:yX f=some d){u:Value}{args:List V}{us:List Value}{Q:K1}(of:E2 b rs f u)(os:V0 b rs args us){bs:List (Str×V)}(hb:bindG f d args=some bs)
 (h:R.ex d.body d.sc ⟨locals d.sc bs,(Q4 bs d.sc.names [] σ).1⟩ (Q4 bs d.sc.names [] σ).2 (Pl Q)):
 codeAny (model E1 w) A (.call u ⟨us,[]⟩) (λr s'=>match r with| .ok (.ret v)=>PV w b cx rs Q v s'|_=>False) s:=by
 obtain⟨a,ha,rfl⟩:∃a,J6 f=some a/\u= .ref a:=by
  induction f using V.casesOn<;>first|exact of|exact A0 hd
 refine J3 (Jl ha (by rw[hd];rfl)) λt ht tf ta=> ?_;subst tf ta;refine R2 (zf hd) λe1 e2 e3=> ?_;rw[e2,e3] at h;have go:∀{as:List V}{vs:List Value},bs=d.ps.zip as->vs.length=d.ps.length->V0 b rs as vs->BindsTo s t.data ⟨us,[]⟩ (d.ps.zip vs)->codeAny (model E1 w) A (.call (.ref t.a) ⟨us,[]⟩) (λr s'=>match r with| .ok (.ret v)=>PV w b cx rs Q v s'|_=>False) s:=λ{as vs} eb hl ok hbt=>by
  have ok:Kl b rs bs (d.ps.zip vs):=eb▸ok.zip;exact aU B wA hA ht hbt ok (ok.names.symm.trans ((QY hl).trans e1)) S h
 unfold bindG at hb;induction g:Nat.beq args.length d.ps.length using Q2 with
 |true=>
  rw[g] at hb;have hl:=os.length.trans (V9 g);exact go (si hb).symm hl os (e1▸Jf B S.keep ht (hl.trans (by rw[e1,KD _];rfl)))
 |false=>
  rw[g] at hb;refine A4 hb λg hq=>R1 g λg1 g2=> ?_;have ck:t.dV=_:=of_decide_eq_true (Z6 kP t ht);obtain⟨a0,f,q,pm,dV⟩:=t;obtain rfl:=PY g1;obtain rfl:dV= .ref 232:=ck.trans (by kernel_rfl);have h3:=os.length.trans (V9 g2);refine go (vs:=us++[.int 1 542,.int 4 543]) (si hq).symm (by rw[e1,o8,h3];kernel_rfl) (os.append (ys:=[.int false 1,.int false 4]) (ws:=[.int 1 542,.int 4 543]) ⟨_,_,rfl,⟨542,rfl⟩,_,_,rfl,⟨543,rfl⟩,rfl⟩) ?_;rw[e1,args_eq h3]
  generalize (λi=>us.getD i .none)=g
  exact BindsTo.of_defaults (o:=bS) rfl (S.keep _ _ (B.K _ _ (NM (by simp[KL])))) rfl rfl rfl
end
theorem Lf(C:Addr)(us:List Value):Code.weight (.builtin "type.__call__" ⟨.ref C::us,[]⟩)=1:=by kernel_rfl
theorem Mf(C:Addr)(us:List Value):Code.cUnits (.builtin "type.__call__" ⟨.ref C::us,[]⟩)<=3:=by
 have:Code.cUnits (.builtin "type.__call__" ⟨.ref C::us,[]⟩)=Code.cUnits (.builtin "type.__call__" ⟨[],[]⟩):=by kernel_rfl
 rw[this];decide+kernel
noncomputable def Nf(P:Params):Bool:=Sd.all λp=>Option.rec (motive:=λ_=>Bool) false (λC=>makesIn (KL P) C&&keepIn (KL P) (.ref C)&&p.2.all λq=>Option.rec (motive:=λ_=>Bool) false (λf=>
 (findIn (KL P) (.ref C) q.1==some (some (.ref f)))&&isFn (KL P) (.ref f)&&keepIn (KL P) (.ref f)&&(sq q.1 "__init__"||plainGet (KL P) C q.1)) (J6 (.mt p.1 q.2))) (J6 (.cl p.1))
theorem RY:∀P,Nf P=true:=by intro P;kernel_rfl
theorem SY:∀P,allB (λp:Nat×Addr=>keepIn (KL P) (.ref p.2)) zv=true:=by intro P;kernel_rfl
theorem NQ(h:zE c x=some j):∃l,(c,l)∈Sd/\(x,j)∈l:=u3 h λp hp h=>
 ⟨p.2,(V9 (List.find?_some (p:=λp:Nat×List (Str×Nat)=>Nat.beq p.1 c) hp):p.1=c)▸List.mem_of_find?_eq_some hp,u7 h⟩
structure jm(P:Params)(c j:Nat)(x:Str)(C f:Addr):Prop where
 cls:J6 (.cl c)=some C
 Zz:J6 (.mt c j)=some f
 make:makesIn (KL P) C=true
 km:keepIn (KL P) (.ref C)=true
 find:findIn (KL P) (.ref C) x=some (some (.ref f))
 fn:isFn (KL P) (.ref f)=true
 keep:keepIn (KL P) (.ref f)=true
 get:sq x "__init__"=false->plainGet (KL P) C x=true
theorem WM(P:Params)(h:zE c x=some j):∃C f,jm P c j x C f:=by
 refine u0 (NQ h) λl h1 h2=> ?_;have ck:=xC.mp (RY P) _ h1;induction hC:J6 (.cl c) using opQ with
 |none=>rw[hC] at ck;exact G2 ck
 |some C=>
  rw[hC] at ck;refine R1 ck λk k2=>R1 k λk0 k1=> ?_;have k2:=xC.mp k2 _ h2;induction hf:J6 (.mt c j) using opQ with
  |none=>rw[hf] at k2;exact G2 k2
  |some f=>
   rw[hf] at k2;exact R1 k2 λz z4=>R1 z λz z3=>R1 z λz1 z2=>⟨C,f,hC,hf,k0,k1,beq_iff_eq.mp z1,z2,z3,λe=>(Bool.or_eq_true_iff.mp z4).resolve_left λq=>vG (q.symm.trans e)⟩
section
variable{w:World}{b:Heap}{n:Nat}{R:Rec}{A:Around}{E:Value->Shared->Prop}{s:Shared}{cx:Cx}{rs:List RO}{σ:St}{L:Addr}{m:Str->Option Value}
theorem B2.make(h:B2 A (n+1))(C:Addr)(us:List Value):B2 (A.under (.builtin "type.__call__" ⟨.ref C::us,[]⟩)) n:=by
 refine⟨h.handled,?_,?_⟩
 .have:=h.depth;show A.depth+Code.weight _+n+5<_;rw[Lf];lia
 .have:=h.units;have:=Mf C us;show A.units+Code.cUnits _+8*n+200<_;lia
theorem M0.mm(S:M0 w b cx H rs h og)(hL:(L,m)∈cx.fs)(ha:b.objs.size<=L):
 ∃news,Fr b L h m/\News b L h news/\∀{h':Heap}{x dx:Addr}{ox od:Obj}{o:n0},Fr b L h' m->News b L h' ((x,ox)::(dx,od)::news)->(∀q∈news,q.1<dx)->dx<x->P2 w b (rs++[.two x dx ox od]) o (.two x dx ox od)->
  M0 w b cx (H++[o]) (rs++[.two x dx ox od]) h' og:=by
 refine w6 (List.append_of_mem hL) λf1 f2 e=> ?_;refine J3 (uM (h:=h) (fs:=f1++f2) λp hp=>(S.ns p (by rw[e];rcases R5.mp hp with hp|hp<;>simp[hp])).1) λl el pl kl=> ?_;have nd:=S.nd;rw[e] at nd;have cK:L∉(f1.map (·.1)++f2.map (·.1))++(cx.os++led rs).map (·.1):=by
  have p:(L::((f1.map (·.1)++f2.map (·.1))++(cx.os++led rs).map (·.1))).Nodup:=by
   refine(List.Perm.nodup_iff ?_).mp nd;simp only[w8,R6,i7,List.cons_append];exact List.perm_middle
  exact(H7.mp p).1
 have hn:=S.ns _ hL;refine⟨l++(cx.os++led rs),⟨hn.1,S.keep,ha⟩,λp hp=> ?_,λ{h' x dx ox od o} F N lt Jt ok=> ?_⟩
 .rcases R5.mp hp with hp|hp
  .have hm:p.1∈f1.map (·.1)++f2.map (·.1):=by rw[w8.symm,el.symm];exact d5 hp
   refine⟨pl p hp,λq=>cK (o7 _ (q▸hm)),?_⟩;rw[<-w8] at hm;refine u0 (z5.mp hm) λz hz ez=> ?_;rw[ez.symm];exact(S.ns z (by rw[e];rcases R5.mp hz with hz|hz<;>simp[hz])).2
  .exact⟨(S.at_ p hp).1,λq=>cK (u5 _ (q▸d5 hp)),(S.at_ p hp).2⟩
 .have up:∀{p:Addr×Obj},p∈l++(cx.os++led rs)->p∈(x,ox)::(dx,od)::(l++(cx.os++led rs)):=λhp=>a5 _ (a5 _ hp);have S':M0 w b cx H rs h' og:=by
   refine⟨F.keep,λp hp=> ?_,λp hp=> ?_,S.nd,S.len,⟨V7 ha (Nat.le_of_lt F.ns.lt),S.big.2⟩,S.tab,S.ok⟩
   .by_cases q:p=(L,m)
    .subst q;exact⟨F.ns,hn.2⟩
    .have W7:p∈f1++f2:=by
      rw[e] at hp;rcases R5.mp hp with hp|hp
      .exact o7 _ hp
      .rcases M4.mp hp with hp|hp
       .exact absurd hp q
       .exact u5 _ hp
     exact⟨kl h' (λz hz=>(N z (up (o7 _ hz))).1) p W7,(S.ns p hp).2⟩
   .exact⟨(N p (up (u5 _ hp))).1,(S.at_ p hp).2⟩
  have nX:=N (x,ox) M3;have nD:=N (dx,od) (a5 _ M3);have fresh:∀{p:Addr×Obj},(p=(x,ox)\/p=(dx,od))->p.1∉cx.fs.map (·.1)/\p.1∉(cx.os++led rs).map (·.1):=by
   intro p hp;have ge:dx<=p.1:=by rcases hp with rfl|rfl;exact Nat.le_of_lt Jt;exact j6 _
   have jk:p.1≠L:=by rcases hp with rfl|rfl;exact nX.2.1;exact nD.2.1
   refine⟨λhm=> ?_,λhm=> ?_⟩
   .refine u0 (z5.mp hm) λz hz ez=> ?_;by_cases q:z=(L,m)
    .subst q;exact jk ez.symm
    .have Sv:z∈f1++f2:=by
      rw[e] at hz;rcases R5.mp hz with hz|hz
      .exact o7 _ hz
      .rcases M4.mp hz with hz|hz
       .exact absurd hz q
       .exact u5 _ hz
     have:z.1∈l.map (·.1):=by rw[el];exact d5 Sv
     refine u0 (z5.mp this) λy hy ey=> ?_;have h1:=lt y (o7 _ hy);rw[ey,ez] at h1;exact Nat.lt_irrefl _ (MH h1 ge)
   .refine u0 (z5.mp hm) λz hz ez=> ?_;have h1:=lt z (u5 _ hz);rw[ez] at h1;exact Nat.lt_irrefl _ (MH h1 ge)
  refine S'.more (r:= .two x dx ox od) (λp hp=> ?_) ?_ ok
  .have W7:p=(x,ox)\/p=(dx,od):=by simpa[RO.led] using hp
   have fr:=fresh W7;rcases W7 with rfl|rfl
   .exact⟨nX.1,nX.2.2,fr.1,fr.2⟩
   .exact⟨nD.1,nD.2.2,fr.1,fr.2⟩
  .simp only[RO.led,R6,List.map_nil];refine H7.mpr ⟨λhm=> ?_,by simp⟩;have:x=dx:=by simpa using hm
   exact Nat.ne_of_gt Jt this
theorem Of(B:k3 w b)(IG:KC w b n R)(hA:B2 A (n+1))(S:M0 w b cx σ.heap rs s.heap (s.os,s.gens))(hL:(L,m)∈cx.fs)(ha:b.objs.size<=L){c j:Nat}(hj:zE c "__init__"=some j){u:Value}{args:List V}{us:List Value}{Q:K1}(ou:E2 b rs (.cl c) u)(os:V0 b rs args us)
 (h:R.call (.mt c j) (.ref σ.new::args) (σ.push (.inst c [])) λv P0=>uG (ES v) (Q (.ref σ.new) P0) (No 234)):
 codeAny (model E1 w) A (.call u ⟨us,[]⟩) (λr s'=>match r with| .ok (.ret v)=>PV w b cx rs Q v s'|_=>False) s:=by
 refine w6 (WM w.params hj) λC f K=> ?_;refine u0 ou λa ha' B0=> ?_;clear ou;subst B0;have:a=C:=si (ha'.symm.trans K.cls);subst this;refine J3 (S.mm hL ha) λnews F N back=> ?_;refine make_K F N (B.K.keeps S.keep) K.make K.find (beq_iff_eq.mp K.fn) λx dx h' F' N' lt Jt=> ?_;have X:=Ext.push rs (.two x dx (instObj a dx) (dictOf [] 0));have S':M0 w b cx (σ.push (.inst c [])).heap (rs++[.two x dx (instObj a dx) (dictOf [] 0)]) h' _:=back F' N' lt Jt ⟨x,dx,a,[],0,rfl,K.cls,rfl⟩;have hx:E2 b (rs++[.two x dx (instObj a dx) (dictOf [] 0)]) (.ref σ.new) (.ref x):=⟨x,by show adr _ σ.heap.length=_;rw[S.len];exact j7 rs _,rfl⟩;refine codeAny_mono (IG h (s:={s with heap:=h'}) (hA.make a us) S' hL ha (u:= .ref f) ⟨f,K.Zz,rfl⟩ (V0.cons hx (os.ext X))) λr s' z=> ?_;rcases r with e|(v|_|_|_)<;>first|exact z.elim|skip;obtain⟨av,P0,r1,q,S1,X1,o1⟩:=z;exact G6 q (λe q=>by rw[PX e] at o1;exact⟨o1,_,P0,r1,q,S1,X.trans X1,hx.ext X1⟩) λ_ q=>No.no q
theorem uU(B:k3 w b)(wA:xI w b n R)(IG:KC w b n R):∀{f:V}{args:List V}{σ:St}{Q:K1},E8 R f args σ Q->
 ∀{A:Around}{s:Shared}{cx:Cx}{rs:List RO}{u:Value}{us:List Value}{L:Addr}{m:Str->Option Value},B2 A (n+1)->M0 w b cx σ.heap rs s.heap (s.os,s.gens)->(L,m)∈cx.fs->b.objs.size<=L->E2 b rs f u->V0 b rs args us->
  codeAny (model E1 w) A (.call u ⟨us,[]⟩) (λr s'=>match r with| .ok (.ret v)=>PV w b cx rs Q v s'|_=>False) s:=by
 intro f args σ Q h A s cx rs u us L m hA S hL ha of os;exact K2 h (λc ec h=>E0 h λj hj h=>Of B IG hA S hL ha hj (Vk ec▸of) os h) λh=>E0 h λd hd h=>E0 h λbs hb h=>tU B wA hA S hd of os hb h
end
theorem GK(h:noStar es=true):(backTo pos (starEach es env)).any (·.1)=false/\(backTo pos (starEach es env)).all (λx=> !x.1)=true:=by
 induction es with
 |nil=>exact⟨rfl,rfl⟩
 |cons e es ih=>
  refine W9 h λhs h=> ?_;rw[tI hs];exact ih h
noncomputable def LC(w:World)(b:Heap)(u:Value):Prop:=∀h:Heap,(∀a o,b.get? a=some o->h.get? a=some o)->∃k,(k=Keeper.frame\/k=Keeper.machine\/k=Keeper.boundFrame)/\Looks (model E1 w) h (keeperOf u) k
section
theorem MC(B:k3 w b)(h:keepIn (KL w.params) (.ref a)=true):LC w b (.ref a):=λh' k=>keeps_K h h' (B.K.keeps k)
theorem G9(n:String):LC w b (.builtin n):=λh k=>⟨.machine,.inr (.inl rfl),Looks.of_pure rfl⟩
theorem HK(n:String):LC w b (.type n):=λh k=>⟨.machine,.inr (.inl rfl),Looks.of_pure rfl⟩
theorem H9(G1:Z4 w b n R)(hA:B2 A n)(S:M0 w b cx σ.heap rs s.heap (s.os,s.gens))(N:W3 b cx rs env sc fr)(hk:LC w b u)(hs:noStar es=true)
 (h:nG R es sc fr σ Q) (hc:∀us s',Iv w b cx rs Q us s'->wpAny (model E1 w) A (call u (first++us) []) Φ E s'):wpAny (model E1 w) A (callWith pos u first (backTo pos (starEach es env)) []) Φ E s:=by
 refine callWith_of (P:=λh=>∀a o,b.get? a=some o->h.get? a=some o) (by rw[(GK hs).1];rfl) hk ?_;have ev:=AM G1 hA pos h S N (E:=E);have fin:∀us s',us.length=es.length/\Iv w b cx rs Q us s'->(∀a o,b.get? a=some o->s'.heap.get? a=some o)/\wpAny (model E1 w) A (call u (first++us) []) Φ E s':=λus s' z=>⟨by obtain⟨_,vs,P0,r1,q,S1,_,_⟩:=z;exact S1.keep,hc us s' z.2⟩;induction es using H5 with
 |nil=>
  unfold nG at h;exact evalArgs_nil3 (fin [] s ⟨rfl,[],σ,rs,h,S,.refl rs,rfl⟩)
 |cons e es=>
  have RD:isStar e=false:=W9 hs λx _=>x;rw[tI RD] at ev⊢;exact evalArgs_plain (wpAny_mono ev (λus s' z=>fin us s' z) λ_ _ x=>x)
theorem HI(X:Ext rs rs')(h:codeAny (model E1 w) A (.call u ⟨us,[]⟩) (λr s'=>match r with| .ok (.ret v)=>PV w b cx rs' Q v s'|_=>False) s):wpAny (model E1 w) A (call u us []) (PV w b cx rs Q) E s:=
 wpAny_call (codeAny_mono h λr s' z=>by rcases r with e|(v|_|_|_)<;>first|exact z.elim|exact .from X z)
theorem IK(B:k3 w b)(G1:Z4 w b n R)(IG:KC w b n R)(hA:B2 A n)(S:M0 w b cx σ.heap rs s.heap (s.os,s.gens))(N:W3 b cx rs env sc fr)
 (h:gd (noStar args) (R.ev (.Name y q) sc fr σ λfv P0=>gd (Lk fv) (nG R args sc fr P0 λvs M1=>CS R fv vs M1 Q))):wpAny (model E1 w) A (eval (.Call (.Name y q) args [] pos) env) (PV w b cx rs Q) E s:=by
 refine U3 h λg h=> ?_;refine u0 N.loc λm hL _=> ?_;rw[arm_eval_Call_Name'];refine wpAny_bind (PV.go (G1 h hA S N) λu U2 fv P0 r1 q1 S1 X1 o1=>U3 q1 λg1 q1=> ?_);have go:LC w b u->(∀{us s'}{vs:List V}{M1:St}{r2:List RO},CS R fv vs M1 Q->M0 w b cx M1.heap r2 s'.heap (s'.os,s'.gens)->Ext r1 r2->V0 b r2 vs us->wpAny (model E1 w) A (call u us) (PV w b cx r2 Q) E s')->wpAny (model E1 w) A (callWith pos u [] (backTo pos (starEach args env)) []) (PV w b cx rs Q) E U2:=λhk k=>H9 G1 hA S1 (N.ext X1) hk g q1 λus s' z=>by
  cases z with
  |mk vs M1 r2 q2 S2 X2 o2=>exact a7 (X1.trans X2) (k q2 S2 X2 o2)
 show wpAny _ _ (callWith pos u [] (backTo pos (starEach args env)) []) _ _ _;induction fv using V.casesOn with
 |bi nm=>
  obtain rfl:u= .builtin nm:=o1;exact go (G9 nm) λq2 S2 X2 o2=>OY B hA S2 hL N.above o2 q2
 |ty nm=>
  obtain rfl:u= .type nm:=o1;exact go (HK nm) λq2 S2 X2 o2=>Hf B hA S2 hL N.above o2 q2
 |fn i=>
  refine u0 (id o1) λa ha B0=> ?_;subst B0;exact go (MC B (Z6 (SY w.params) _ (dE ha))) λq2 S2 X2 o2=>HI (.refl _) (IG q2 hA S2 hL N.above (o1.ext X2) o2)
 |cl i=>
  refine u0 (id o1) λa ha B0=> ?_;subst B0;refine O0 (eO.mp (show(zE i "__init__").isSome=true from g1)) λj hj=> ?_;refine w6 (WM w.params hj) λC f K=> ?_;exact go (MC B (si (ha.symm.trans K.cls)▸K.km)) λq2 S2 X2 o2=>HI (.refl _) (IG q2 hA S2 hL N.above (o1.ext X2) o2)
 |_=>exact G2 g1
structure Pf(w:World)(b:Heap)(n:Nat)(R:Rec)(A:Around)(E:Value->Shared->Prop)(cx:Cx)(rs:List RO)(s:Shared)(ov:V)(u:Value)(x:Str)(mk:MK)(f:Value):Prop where
 get:∀{Q':Value×List Value->Shared->Prop}{pl:Sem Bool},Q' (f,[u]) s->wpAny (model E1 w) A (getMethod u x pl) Q' E s
 keep:LC w b f
 run:∀{us s'}{vs:List V}{M1:St}{r2:List RO}{Q:K1},BS R mk ov vs M1 Q->M0 w b cx M1.heap r2 s'.heap (s'.os,s'.gens)->Ext rs r2->V0 b r2 vs us->wpAny (model E1 w) A (call f (u::us)) (PV w b cx r2 Q) E s'
theorem vU(B:k3 w b)(Kd:Kinds w)(IG:KC w b n R)(hA:B2 A n)(S:M0 w b cx σ.heap rs s.heap (s.os,s.gens))(hL:(L,m)∈cx.fs)(ha:b.objs.size<=L)(o:E2 b rs ov u)(h:pO σ ov x=some mk):∃f,Pf w b n R A E cx rs s ov u x mk f:=by
 unfold pO at h;induction hv:rV ov using opQ with
 |none=>
  rw[hv] at h;refine u3 h λy ey h=>A4 h λg h=>R1 g λg g3=>R1 g λg1 g2=> ?_;obtain rfl:=si h;obtain rfl:=x6 g3;have hy:=mQ ey;rw[List.isEmpty_iff.mp g2] at hy;rw[hy] at o;refine O0 o λt B0=> ?_;clear o;subst B0;exact⟨.builtin "bytes.join",λq=>getMethod_builtin (typeIs_bytes s _ _) FB.plainAttrs_bytes r9 UD (λa e=>nomatch e) q,G9 _,λq S2 X2 o2=>sU S2 o2 q⟩
 |some i=>
  rw[hv] at h;have o':E2 b rs (.ref i) u:=uA hv▸o;refine u3 h λob ho h=> ?_;refine u0 (S.ref ho) λr hr ok=> ?_;have eu:=K6 hr o';unfold yz at h;induction hl:UH ob using opQ with
  |some xs=>
   rw[hl] at h;refine A4 h λg h=> ?_;obtain rfl:=si h;obtain rfl:=x6 g;rw[xG hl] at ok;refine V3 ok λp vs nn B0=> ?_;clear ok;subst B0;intro ok;refine⟨.builtin "list.append",λq=>by rw[eu] at q⊢;exact getMethod_list_append (S.one hr) rfl rfl q,G9 _,λq S2 X2 o2=>E0 q λMt hx q=>E0 q λv ev q=>U3 q λg q=> ?_⟩;refine o2.one ev λz oz=>AQ S2 (Xd hx) (o'.ext X2) oz (v9 g) q
  |none=>
   rw[hl] at h;induction hd:kX ob using opQ with
   |some e=>
    rw[hd] at h;rw[kO hd] at ok;refine A3 ok λp ob B0=> ?_;clear ok;subst B0;intro ok;have hx:ob.ExactDict:=by
     rcases ok with⟨_,⟨_,_,h1,_⟩,_⟩|⟨D,_,_,_,h1,_⟩<;>exact h1
    have get:∀{n id}{Q':Value×List Value->Shared->Prop}{pl:Sem Bool},Slot "dict" n id->typeOf (.builtin id)=pure (.type "method_descriptor")->Q' (.builtin id,[u]) s->wpAny (model E1 w) A (getMethod u n pl) Q' E s:=λsl ty q=>by
     rw[eu] at q⊢;exact getMethod_builtin ⟨ob,S.one hr,hx.1⟩ F.plainAttrs_dict sl ty (λa e=>by cases e;exact⟨ob,S.one hr,hx.2.1⟩) q
    induction hg:sq x "get" using Q2 with
    |true=>
     rw[hg] at h;obtain rfl:=si h;obtain rfl:=x6 hg;exact⟨.builtin "dict.get",λq=>get F.slot_dict_get F.type_dict_get q,G9 _,λq S2 X2 o2=>EY B Kd hA S2 (o'.ext X2) o2 q⟩
    |false=>
     rw[hg] at h;refine A4 h λg h=> ?_;obtain rfl:=si h;obtain rfl:=x6 g;exact⟨.builtin "dict.pop",λq=>get F.slot_dict_pop F.type_dict_pop q,G9 _,λq S2 X2 o2=>FY B Kd hA S2 (o'.ext X2) o2 q⟩
   |none=>
    rw[hd] at h;refine u3 h λq hq h=> ?_;induction hx:lk x q.2 using opQ with
    |some _=>rw[hx] at h;exact A0 h
    |none=>
     rw[hx] at h;refine A4 h λg h=>B5 h λj hj h=> ?_;subst h;refine w6 (WM w.params hj) λC f K=> ?_;rw[Bk hq] at ok;refine EE ok λp dx C' es nn B0=> ?_;clear ok;subst B0;intro hc ok;obtain rfl:C'=C:=si (hc.symm.trans K.cls);refine D0 (S.two hr) λz1 z2=> ?_;refine I7 (S.same hL ha) λfrr F Nw nd back=> ?_;exact⟨.ref f,λq=>by rw[eu] at q⊢;exact method_inst F B.K ⟨z1,rfl,rfl,z2⟩ (K.get (XE g)) K.find K.fn ((F8 ok).2 hx) q,MC B K.keep,λq S2 X2 o2=>HI (.refl _) (IG q hA S2 hL ha ⟨f,K.Zz,rfl⟩ (V0.cons (o.ext X2) o2))⟩
theorem JK(B:k3 w b)(Kd:Kinds w)(G1:Z4 w b n R)(IG:KC w b n R)(hA:B2 A n)(S:M0 w b cx σ.heap rs s.heap (s.os,s.gens))(N:W3 b cx rs env sc fr)
 (h:gd (ME o&&Nat.beq ap.endLine pos.line&&Nat.blt args.length 29&&noStar args) (R.ev o sc fr σ λov P0=>on (pO P0 ov x) 114 λm=>nG R args sc fr P0 λvs M1=>BS R m ov vs M1 Q)):wpAny (model E1 w) A (eval (.Call (.Attribute o x ap) args [] pos) env) (PV w b cx rs Q) E s:=by
 refine U3 h λg h=>R1 g λg g4=>R1 g λg g3=>R1 g λg1 g2=> ?_;have g2:=V9 g2;refine u0 N.loc λm hL _=> ?_;rw[arm_eval_Call,MO g1];refine wpAny_bind (PV.go (G1 h hA S N) λu U2 ov P0 r1 q1 S1 X1 o1=>E0 q1 λmk hk q1=> ?_);refine O0 (vU (E:=E) B Kd IG hA S1 hL N.above o1 hk) λf M=> ?_;have om:methodCallForm (args.length+([]:List Keyword).length) (backTo pos (starEach args env)) (backToKw pos (keywordEach [] env))=true:=by
  unfold methodCallForm;rw[(GK g4).2];exact decide_eq_true (Nat.lt_succ_of_lt (v9 g3))
 have Vv:methodCallPos true o env ap pos=pure pos:=by unfold methodCallPos;simp[g2]
 refine wpAny_bind (wpAny_standAt ?_);unfold methodCall;rw[om];refine wpAny_bind (wpAny_holding (M.get ?_));refine wpAny_bind (wpAny_of_eq Vv ?_);exact H9 G1 hA S1 (N.ext X1) M.keep g4 q1 λus s' z=>by
  cases z with
  |mk vs M1 r2 q2 S2 X2 o2=>exact a7 (X1.trans X2) (M.run q2 S2 X2 o2)
end
theorem XM{K:Type}[DecidableEq K]{l4 acc:List (K×Value)}(nd:((acc++l4).map (·.1)).Nodup):merged acc l4=acc++l4:=by
 induction l4 generalizing acc with
 |nil=>exact(VG acc).symm
 |cons p l4 ih=>
  have h:stored acc p.1 p.2=acc++[p]:=by
   unfold stored;rw[if_neg];rw[List.any_eq_true];intro B0;refine u0 B0 λkv zl e=> ?_;clear B0;rw[w8,gD] at nd;exact nd.2.2 kv.1 (d5 zl) p.1 M3 (of_decide_eq_true e)
  have e:acc++p::l4=(acc++[p])++l4:=List.append_cons ..;show merged (stored acc p.1 p.2) l4=_;rw[h,e];rw[e] at nd;exact ih nd
section
variable{w:World}{b:Heap}{n:Nat}{R:Rec}{A:Around}{E:Value->Shared->Prop}{s:Shared}{cx:Cx}{rs:List RO}{env:Env}{sc:Scope}{fr:J2}{σ:St}
theorem Qf(h:Mk e=some x):∃k p,e= .Constant (.str x) k p:=by
 induction e using PySem.Expr.casesOn with
 |Constant c k p=>cases c with
  |str y=>exact⟨k,p,by rw[si h]⟩
  |_=>exact A0 h
 |_=>exact A0 h
inductive PD(w:World)(b:Heap)(cx:Cx)(rs:List RO)(Q:List (Str×V)->St->Prop)(ps:List (Value×Value))(s':Shared):Prop
 |mk (vs:List (Str×V)) (σ:St) (rs':List RO) (l4:List (Str×Value)) (q:Q vs σ) (S:M0 w b cx σ.heap rs' s'.heap (s'.os,s'.gens)) (x:Ext rs rs') (c:Carries (PySem.strKind E1 w) ps l4) (o:qQ b rs' vs l4)
theorem Rf(G1:Z4 w b n R)(hA:B2 A n)(pos:Pos)(h:sv R ks es sc fr σ Q)(S:M0 w b cx σ.heap rs s.heap (s.os,s.gens))(N:W3 b cx rs env sc fr):
 wpAny (model E1 w) A (evalPairs (pairTrees ks es env pos)) (PD w b cx rs Q) E s:=by
 induction ks generalizing es σ Q s rs with
 |nil=>
  induction es using H5 with
  |nil=>exact pairTrees_nil_walk ⟨[],σ,rs,[],h,S,.refl rs,trivial,rfl⟩
  |cons e es=>exact No.no h
 |cons k ks ih=>
  refine E0 h λx ex h=>u3 ex λe ek ex=> ?_;refine w6 (Qf ex) λkk p B0=> ?_;subst B0;subst ek;induction es using H5 with
  |nil=>exact No.no h
  |cons e es=>
   refine pairTrees_cons_walk (wpAny_Constant_str ?_);refine PV.go (G1 h hA (s:={s with toks:=s.toks+1}) S N) λu y4 v P0 r1 q1 S1 X1 o1=> ?_;refine wpAny_mono (ih (Q:=λvs M1=>Q ((x,v)::vs) M1) q1 S1 (N.ext X1)) (λps P7 mK=> ?_) λ_ _ x=>x;obtain⟨vs,M1,r2,l4,q2,S2,X2,c2,o2⟩:=mK;exact⟨(x,v)::vs,M1,r2,(x,u)::l4,q2,S2,X1.trans X2,⟨by simp[PySem.strKind,Value.isStrOf],rfl,c2⟩,u,l4,rfl,o1.ext X2,o2⟩
theorem M0.yc(S:M0 w b cx H rs h og)(k:∀a o,h.get? a=some o->h'.get? a=some o)(sz:h.objs.size<=h'.objs.size)(ha:h.objs.size<=a)(g:h'.get? a=some o):M0 w b ⟨cx.fs,(a,o)::cx.os,cx.og⟩ H rs h' og:=by
 have f:=S.fresh ha;have S':=S.grown k sz;refine⟨S'.keep,S'.ns,λp hp=> ?_,?_,S'.len,S'.big,S'.tab,S'.ok⟩
 .rcases M4.mp hp with rfl|hp
  .exact⟨g,f.1⟩
  .exact S'.at_ p hp
 .have e:cx.fs.map (·.1)++(((a,o)::cx.os)++led rs).map (·.1)=cx.fs.map (·.1)++a::(cx.os++led rs).map (·.1):=by simp
  show(cx.fs.map (·.1)++(((a,o)::cx.os)++led rs).map (·.1)).Nodup;rw[e];refine(List.perm_middle.nodup_iff).mpr (H7.mpr ⟨λhm=> ?_,S.nd⟩);rcases R5.mp hm with hm|hm
  .exact f.2.1 hm
  .exact f.2.2 hm
theorem M0.wU(S:M0 w b ⟨cx.fs,(a,o)::cx.os,cx.og⟩ H rs h og)(hs:Heap.SameBut a h h')(g:h'.get? a=some o')(ok:P2 w b (rs++[.one a o']) x (.one a o')):M0 w b cx (H++[x]) (rs++[.one a o']) h' og:=by
 have e:cx.fs.map (·.1)++(((a,o)::cx.os)++led rs).map (·.1)=cx.fs.map (·.1)++a::(cx.os++led rs).map (·.1):=by simp
 have nd:=S.nd;rw[show(⟨cx.fs,(a,o)::cx.os,cx.og⟩:Cx).fs.map (·.1)++((⟨cx.fs,(a,o)::cx.os,cx.og⟩:Cx).os++led rs).map (·.1)=cx.fs.map (·.1)++a::(cx.os++led rs).map (·.1) from e] at nd;refine D0 (H7.mp (List.perm_middle.nodup_iff.mp nd)) λn1 n2=> ?_;have hb:=(S.at_ (a,o) (by simp)).2;have S':M0 w b cx H rs h' og:=by
  refine⟨λp q z=>(hs.2 p λy=>by rw[y,hb] at z;exact A0 z).trans (S.keep p q z),λp hp=> ?_,λp hp=> ?_,n2,S.len,by rw[hs.1];exact S.big,S.tab,S.ok⟩
  .have:=S.ns p hp;exact⟨this.1.sameBut hs λq=>n1 (o7 _ (q▸d5 hp)),this.2⟩
  .have:=S.at_ p (a5 _ hp);exact⟨(hs.2 p.1 λq=>n1 (u5 _ (q▸d5 hp))).trans this.1,this.2⟩
 refine S'.more (r:= .one a o') (λp hp=> ?_) (by simp[RO.led]) ok;obtain rfl:p=(a,o'):=by simpa[RO.led] using hp
 exact⟨g,hb,λhm=>n1 (o7 _ hm),λhm=>n1 (u5 _ hm)⟩
theorem xU(S:M0 w b cx σ.heap rs s.heap (s.os,s.gens)){pos:Pos}{Q:K1}(h:Q (.ref σ.new) (σ.push (.dT []))):wpAny (model E1 w) A (eval (.Dict [] [] pos) env) (PV w b cx rs Q) E s:=by
 refine wpAny_Dict_empty ?_;refine .DC (o:= .dT []) (ob:={cls:= .type "dict",data:= .dict #[]}) S rfl ⟨_,_,rfl,.inl ⟨rfl,⟨#[],0,⟨rfl,rfl,rfl⟩,rfl,(λe he=>by simp at he),.nil,.nil⟩,⟨#[],0,⟨rfl,rfl,rfl⟩,rfl,(λe he=>by simp at he),.nil,.nil⟩⟩⟩ h
theorem TY(G1:Z4 w b n R)(hA:B2 A n)(S:M0 w b cx σ.heap rs s.heap (s.os,s.gens))(N:W3 b cx rs env sc fr){ks:List (Option Expr)}{es:List Expr}{pos:Pos}{Q:K1}(h0:ks≠[])
 (h:gd (Nat.ble ks.length 15&&Nat.beq ks.length es.length&&Qb ks) (sv R ks es sc fr σ λvs P0=>gd (Gb (vs.map (·.1))) (Q (.ref P0.new) (({P0 with heap:=HX vs P0.heap}:St).push (.dS vs))))):
 wpAny (model E1 w) A (eval (.Dict ks es pos) env) (PV w b cx rs Q) E s:=by
 refine Qu h λg1 g2 g h=> ?_;have g1:=v9 g1;have g2:=V9 g2;have Sf:ks.all (·.isSome)=true:=xC.mpr λk hk=>by
  induction k using opQ with
  |some _=>rfl
  |none=>exact G2 (xC.mp g _ hk)
 have S0:M0 w b ⟨cx.fs,(s.heap.objs.size,({cls:= .type "dict",data:= .dict #[]}:Obj))::cx.os,cx.og⟩ σ.heap rs (s.heap.push {cls:= .type "dict",data:= .dict #[]}) (s.os,s.gens):=
  S.yc (λa o e=>Heap.get?_push_of_some _ e) (by rw[Heap.size_push];exact Nat.le_succ _) (j6 _) (Heap.get?_push_size _ rfl)
 have N0:W3 b ⟨cx.fs,(s.heap.objs.size,({cls:= .type "dict",data:= .dict #[]}:Obj))::cx.os,cx.og⟩ rs env sc fr:=⟨N.fn,N.names,N.glob,N.blt,N.above,N.loc,N.O3⟩;refine wpAny_Dict_walk (knd:=PySem.strKind E1 w) Sf g2 h0 g1 ?_;refine wpAny_mono (Rf G1 hA pos h (s:={s with heap:=s.heap.push {cls:= .type "dict",data:= .dict #[]}}) S0 N0) (λps U2 Y3=> ?_) λ_ _ x=>x;obtain⟨vs,P0,r1,l4,q,S1,X1,c1,o1⟩:=Y3;refine U3 q λg3 q=> ?_;have at0:=(S1.at_ (s.heap.objs.size,({cls:= .type "dict",data:= .dict #[]}:Obj)) (by simp)).1;have nd:(l4.map (·.1)).Nodup:=by rw[o1.names];exact aF g3
 refine⟨l4,c1,Heap.dictOf_iff.mpr ⟨_,at0,#[],0,⟨rfl,rfl,rfl⟩,rfl,(λe he=>by simp at he),.nil,.nil⟩,λh' hm hs=> ?_⟩;rw[XM (by simpa using nd)] at hm;refine u0 (Heap.dictOf_iff.mp hm) λo' fE xB=> ?_;have X2:=Ext.push r1 (.one s.heap.objs.size o');have S2:=(IS (l:=vs) S1).wU (x:= .dS vs) hs fE ⟨_,o',_,rfl,xB,o1.ext X2⟩;refine .here (s':={U2 with heap:=h',toks:=U2.toks+ps.length}) q ?_ (X1.trans X2) ⟨s.heap.objs.size,?_,rfl⟩
 .exact S2
 .show adr _ P0.heap.length=_;rw[S1.len];exact j7 r1 _
end
section
variable{w:World}{b h h':Heap}{cx cx':Cx}{H H':List n0}{rs rs':List RO}
structure Own(b:Heap)(cx:Cx)(rs:List RO)(c:Addr):Prop where
 base:b.get? c=none
 free:c∉cx.fs.map (·.1)++(cx.os++led rs).map (·.1)
noncomputable def Still(b:Heap)(cx:Cx)(rs:List RO)(c:Addr):Prop:=∃o,MA b rs c o\/(c,o)∈cx.os\/((c,o)∈led rs/\IsT o)
theorem Still.ext(X:Ext rs rs')(ho:∀p∈cx.os,p∈cx'.os)(x:Still b cx rs c):Still b cx' rs' c:=by
 refine O0 x λo q=> ?_;clear x;refine⟨o,q.imp (MA.ext X) (Or.imp (ho _) λz=>⟨X.tup _ _ z.1 z.2,z.2⟩)⟩
theorem Still.get(S:M0 w b cx H rs h og)(q:MA b rs c o\/(c,o)∈cx.os\/((c,o)∈led rs/\IsT o)):h.get? c=some o:=by
 rcases q with q|q|q
 .exact S.Ub q
 .exact(S.at_ _ (o7 _ q)).1
 .exact(S.at_ _ (u5 _ q.1)).1
theorem Still.step(x:Still b cx rs c)(S:M0 w b cx H rs h og)(S':M0 w b cx' H' rs' h' qm)(X:Ext rs rs')(ho:∀p∈cx.os,p∈cx'.os)(e:h.get? c=some o):h'.get? c=some o:=by
 refine O0 x λo' q=> ?_;clear x;have e1:=Still.get S q;rw[e] at e1;obtain rfl:=si e1;exact Still.get S' (q.imp (MA.ext X) (Or.imp (ho _) λz=>⟨X.tup _ _ z.1 z.2,z.2⟩))
theorem M0.off{L:Addr}{m:Str->Option Value}(S:M0 w b cx H rs h og)(hL:(L,m)∈cx.fs)(ha:b.objs.size<=L){wr:List Addr}(own:∀c∈wr,Own b cx rs c)(k:∀a o,a∉wr->h.get? a=some o->h'.get? a=some o):M0 w b cx H rs h' og:=by
 have nsk:∀p∈cx.fs,h'.Ns p.1 p.2:=λp hp=>(S.ns p hp).1.at' λo e=>k _ o (λhm=>(own _ hm).free (o7 _ (d5 hp))) e;refine⟨λa o e=>k a o (λhm=> ?_) (S.keep a o e),λp hp=>⟨nsk p hp,(S.ns p hp).2⟩,λp hp=>⟨k _ _ (λhm=>(own _ hm).free (u5 _ (d5 hp))) (S.at_ p hp).1,(S.at_ p hp).2⟩,S.nd,S.len,?_,S.tab,S.ok⟩
 .have:=(own a hm).base;rw[this] at e;exact A0 e
 .exact⟨Nat.le_of_lt (NH ha (nsk _ hL).lt),S.big.2⟩
theorem M0.YM(S:M0 w b cx H rs h og)(nd:(l.map (·.1)).Nodup)(own:∀p∈l,Own b cx rs p.1)(at_:∀p∈l,h.get? p.1=some p.2):M0 w b ⟨cx.fs,l++cx.os,cx.og⟩ H rs h og:=by
 refine⟨S.keep,S.ns,λp hp=> ?_,?_,S.len,S.big,S.tab,S.ok⟩
 .rcases R5.mp hp with hp|hp
  .rcases R5.mp hp with hp|hp
   .exact⟨at_ p hp,(own p hp).base⟩
   .exact S.at_ p (o7 _ hp)
  .exact S.at_ p (u5 _ hp)
 .have e:cx.fs.map (·.1)++((l++cx.os)++led rs).map (·.1)=cx.fs.map (·.1)++(l.map (·.1)++(cx.os++led rs).map (·.1)):=by simp
  show(cx.fs.map (·.1)++((l++cx.os)++led rs).map (·.1)).Nodup;rw[e];refine(List.perm_append_comm_assoc _ _ _).nodup_iff.mpr (gD.mpr ⟨nd,S.nd,?_⟩);rintro a ha c hc rfl;refine u0 (z5.mp ha) λp hp B0=> ?_;subst B0;exact(own p hp).free hc
theorem M0.ZM(S:M0 w b ⟨cx.fs,l++cx.os,cx.og⟩ H rs h og):M0 w b cx H rs h og/\(∀p∈l,Own b cx rs p.1)/\∀p∈l,h.get? p.1=some p.2:=by
 have nd:(cx.fs.map (·.1)++((l++cx.os)++led rs).map (·.1)).Nodup:=S.nd;have e:cx.fs.map (·.1)++((l++cx.os)++led rs).map (·.1)=cx.fs.map (·.1)++(l.map (·.1)++(cx.os++led rs).map (·.1)):=by simp
 rw[e] at nd;refine R2 (gD.mp ((List.perm_append_comm_assoc _ _ _).nodup_iff.mp nd)) λn1 n2 n3=> ?_;refine⟨⟨S.keep,S.ns,λp hp=>S.at_ p ?_,n2,S.len,S.big,S.tab,S.ok⟩,λp hp=>⟨(S.at_ p ?_).2,λhm=>n3 _ (d5 hp) _ hm rfl⟩,λp hp=>(S.at_ p ?_).1⟩
 .rcases R5.mp hp with hp|hp
  .exact o7 _ (u5 _ hp)
  .exact u5 _ hp
 .exact o7 _ (o7 _ hp)
 .exact o7 _ (o7 _ hp)
theorem aN{wr:List Addr}:(∀c∈wr,∃o,h.get? c=some o)->∃l:List (Addr×Obj),l.map (·.1)=wr/\∀p∈l,h.get? p.1=some p.2:=by
 induction wr with
 |nil=>
  intro _;exact⟨[],rfl,λ_ hp=>by cases hp⟩
 |cons c wr ih=>
  intro x;refine u0 (ih λc hc=>x c (a5 _ hc)) λl e q=> ?_;refine O0 (x c M3) λo ho=> ?_;refine⟨(c,o)::l,by simp[e],λp hp=> ?_⟩;rcases M4.mp hp with rfl|hp
  .exact ho
  .exact q p hp
end
section
variable{w:World}{b:Heap}{n:Nat}{R:Rec}{A:Around}{E:Value->Shared->Prop}{s:Shared}{cx:Cx}{rs:List RO}{env:Env}{sc:Scope}{fr:J2}{σ:St}{m:Str->Option Value}
noncomputable def OQ(b:Heap)(rs:List RO)(h:Heap):w5->Value->Prop
 | .inl x,v=>E2 b rs x v
 | .inr (x,y),v=>∃T u z,v= .ref T/\h.IsTuple T #[u,z]/\E2 b rs x u/\E2 b rs y z
theorem OQ.ext{rs':List RO}(X:Ext rs rs'){h:Heap}{x:w5}{v:Value}(o:OQ b rs h x v):OQ b rs' h x v:=by
 induction x using Sum.casesOn with
 |inl y=>exact E2.ext X o
 |inr y=>exact jO o λT u z e t p q=>⟨T,u,z,e,t,p.ext X,q.ext X⟩
structure lP(w:World)(b:Heap)(A:Around)(target:Expr)(cx:Cx)(rs:List RO)(its:List w5)(I:Addr)(h:Heap)(fp wr ow:List Addr)(P Md:Nat->Value->Heap->Prop)(St:Nat->Heap->Prop):Prop where
 W:KTurns E1 w A target I fp wr its.length P Md St
 st:St 0 h
 nd:ow.Nodup
 zc:∀c∈wr,c∈ow
 own:∀c∈ow,Own b cx rs c
 alive:∀i h,St i h->∀c∈ow,∃o,h.get? c=some o
 nF:∀c∈fp,c∈ow\/Still b cx rs c
 items:∀i v h' x,P i v h'->its[i]? =some x->OQ b rs h' x v
 self:∀(s:Shared)(Q:Value->Shared->Prop)(E:Value->Shared->Prop),St 0 s.heap->Q (.ref I) s->wpAny (model E1 w) A (pyIter (.ref I)) Q E s
noncomputable def Over(w:World)(b:Heap)(A:Around)(target:Expr)(cx:Cx)(rs:List RO)(its:List w5)(it:Value)(h:Heap):Prop:=∃I fp wr ow P Md St,it= .ref I/\lP w b A target cx rs its I h fp wr ow P Md St
noncomputable def oF(w:World)(b:Heap)(n:Nat)(R:Rec):Prop:=∀{t:Expr}{it:w5}{sc:Scope}{fr:J2}{σ:St}{K:J2->St->Prop},n6 R t it sc fr σ K->
 ∀{A:Around}{E:Value->Shared->Prop}{s:Shared}{cx:Cx}{rs:List RO}{env:Env}{m:Str->Option Value}{v:Value},B2 A n->M0 w b (cx.put env.locals m) σ.heap rs s.heap (s.os,s.gens)->o4 b rs env sc fr m->OQ b rs s.heap it v->
  wpAny (model E1 w) A (assign t env v) (λ_ s'=>PF w b cx env sc rs K s') E s
inductive rm(w:World)(b:Heap)(cx:Cx)(rs:List RO)(env:Env)(sc:Scope)(R:Rec)(t:Expr)(body:List Stmt)(its:List w5)(K:KS)(ow:List Addr)(St:Nat->Heap->Prop)(j:Nat)(s':Shared):Prop
 |mk (i:Nat) (F1:Mine.Internal.St) (r':List RO) (m':Str->Option Value) (V8:J2) (hi:i<=its.length) (hj:j=its.length -i) (S:M0 w b (cx.put env.locals m') F1.heap r' s'.heap (s'.os,s'.gens)) (N:o4 b r' env sc V8 m') (X:Ext rs r') (h:U5 R t body sc (its.drop i) V8 F1 K) (st:St i s'.heap) (own:∀c∈ow,Own b (cx.put env.locals m') r' c)
theorem bN(wA:xI w b n R)(eN:oF w b n R)(hA:B2 A n){t:Expr}{body:List Stmt}{its:List w5}{K:KS}{it:Value}{Φ:Result->Shared->Prop}(h:U5 R t body sc its fr σ K)
 (S:M0 w b (cx.put env.locals m) σ.heap rs s.heap (s.os,s.gens)) (N:o4 b rs env sc fr m) (O:Over w b A t (cx.put env.locals m) rs its it s.heap) (jY:∀f s',PS w b cx env sc rs K f s'->Φ (.ok f) s'):
 codeAny (model E1 w) A (.forLoop t it body [] env) Φ s:=by
 refine Qj O λI fp wr ow P Md St eI O=> ?_;rw[eI];refine codeAny_forLoop_any (rm w b cx rs env sc R t body its K ow St) (λj s1 z=> ?_) its.length ⟨0,σ,rs,m,fr,Nat.zero_le _,rfl,S,N,.refl rs,h,O.st,O.own⟩;obtain⟨i,P0,r1,m1,n9,hi,hj,S1,N1,X1,h1,Tf,iN⟩:=z;rw[hj];by_cases Y8:i<its.length
 .refine O.W.item i _ _ _ Y8 Tf λv h2 sm md Vf=>O.W.go i v _ _ _ md λh3 hP yU Bl=> ?_;have S3:M0 w b (cx.put env.locals m1) P0.heap r1 h3 _:=S1.off M3 N1.above iN λa o ha e=>Bl a o (λz=>ha (O.zc _ z)) (Vf a o (λz=>ha (O.zc _ z)) e);refine u0 (aN (O.alive (i+1) h3 yU)) λl hl zU=> ?_;have S4:M0 w b ((⟨cx.fs,l++cx.os,cx.og⟩:Cx).put env.locals m1) P0.heap r1 h3 _:=S3.YM (hl▸O.nd) (λp hp=>iN _ (hl▸d5 hp)) zU;have e:its.drop i=its[i]::its.drop (i+1):=List.drop_eq_getElem_cons Y8;rw[e] at h1;refine wpAny_mono (eN (K:=λq9 M1=>R.ex body sc q9 M1 (bj K λlj v5=>U5 R t body sc (its.drop (i+1)) lj v5 K)) h1 hA (s:={s1 with heap:=h3,toks:=sm}) S4 N1 ((O.items i v h3 _ hP (by simp[Y8])).ext X1)) (λ_ s4 h4=> ?_) λ_ _ x=>x;obtain⟨AU,vC,r4,m4,q4,S5,N5,X5⟩:=h4;refine wpAny_mono (wA q4 hA S5 N5) (λf s5 h5=> ?_) λ_ _ x=>x;obtain⟨g,Nt,KX,r5,m5,q5,S6,N6,X6,o6⟩:=h5;refine R2 (M0.ZM (cx:=cx.put env.locals m5) S6) λS7 II Wv=> ?_;have X7:=X1.trans (X5.trans X6);have next:∀(q:U5 R t body sc (its.drop (i+1)) Nt KX K),∃k,k<its.length -i/\rm w b cx rs env sc R t body its K ow St k s5:=λq=>by
   refine⟨its.length -(i+1),Nat.sub_succ_lt_self _ _ Y8,i+1,KX,r5,m5,Nt,Y8,rfl,S7,N6,X7,q,O.W.frame _ _ _ yU λc hc o e=> ?_,λc hc=>u0 (z5.mp (hl▸hc:c∈l.map (·.1))) λp hp z=>z▸II p hp⟩;rcases O.nF c hc with hw|hs
   .refine u0 (z5.mp (hl▸hw:c∈l.map (·.1))) λp hp z=> ?_;rw[<-z] at e⊢;exact si ((zU p hp).symm.trans e)▸Wv p hp
   .exact(Still.ext (cx':=cx.put env.locals m1) X1 (λ_ z=>z) hs).step S3 S7 (X5.trans X6) (λ_ z=>z) e
  induction g using Fl.casesOn<;>cases f<;>first|exact o6.elim|skip
  .exact next q5
  .exact jY _ _ ⟨.next,Nt,KX,r5,m5,q5,S7,N6,X7,trivial⟩
  .exact next q5
  .exact jY _ _ ⟨.ret _,Nt,KX,r5,m5,q5,S7,N6,X7,o6⟩
 .have ie:i=its.length:=Nat.le_antisymm hi (gB.mp Y8);rw[ie] at h1 Tf;rw[List.drop_length] at h1;refine O.W.done _ _ _ Tf λh2 sm Vf=>wpAny_execs_nil ?_;have S3:M0 w b (cx.put env.locals m1) P0.heap r1 h2 _:=S1.off M3 N1.above iN λa o ha e=>Vf a o (λz=>ha (O.zc _ z)) e;exact jY _ _ ⟨.next,n9,P0,r1,m1,h1,S3,N1,X1,trivial⟩
end
section
theorem I9(S:M0 w b cx H rs h og)(e0:J0 H i=some o)(e:J0 rs i=some (.one a ob)):M0 w b cx (upd H i (.D4 o)) (upd rs i (.V5 a [(a,ob)])) h og/\Ext rs (upd rs i (.V5 a [(a,ob)]))/\(a,ob)∈L0 (upd rs i (.V5 a [(a,ob)])):=by
 refine R2 (QA e) λX el hp=> ?_;have X':Ext rs (upd rs i (.V5 a [(a,ob)])):=X;have yt:led (upd rs i (.V5 a [(a,ob)]))=led rs:=el;refine⟨⟨S.keep,S.ns,by rw[yt];exact S.at_,by rw[yt];exact S.nd,?_,S.big,X'.at_ _ _ S.tab,λj p q e2 e3=> ?_⟩,X',hp (a,ob) (by simp[RO.led])⟩
 .rw[K3,K3,MJ,MJ,S.len]
 .rcases i5 e2 with⟨n2,f2⟩|⟨n2,f2⟩
  .rcases i5 e3 with⟨n3,f3⟩|⟨n3,f3⟩
   .exact(S.ok j p q f2 f3).ext X'
   .exact absurd n3 n2
  .rcases i5 e3 with⟨n3,f3⟩|⟨n3,f3⟩
   .exact absurd n2 n3
   .subst f2 f3;exact⟨a,ob,_,rfl,hp (a,ob) (by simp[RO.led]),(S.ok i o _ e0 e).ext X'⟩
theorem Over.walks{its:List w5}{I:Addr}{fp wr:List Addr}{k:Nat}{P:Nat->Value->Prop}{St:Nat->Heap->Prop}(W:Walks E1 w A I fp wr k P St)(hk:k=its.length)
 (hgo:∀i v(s:Shared)(Q:Unit->Shared->Prop)(E:Value->Shared->Prop),St i s.heap->Q () s->wpAny (model E1 w) A (letOwnedTupleGo t (.ref I) v) Q E s)
 (st:St 0 h) (nd:wr.Nodup) (own:∀c∈wr,Own b cx rs c) (alive:∀i h,St i h->∀c∈wr,∃o,h.get? c=some o) (nF:∀c∈fp,c∈wr\/Still b cx rs c)
 (items:∀i v x h',P i v->its[i]? =some x->OQ b rs h' x v):Over w b A t cx rs its (.ref I) h:=by
 subst hk;exact⟨I,fp,wr,wr,_,_,St,rfl,KTurns.ofWalks W hgo,st,nd,(λ_ z=>z),own,alive,nF,λi v h' x hp hx=>items i v x h' hp hx,λs Q E st q=>W.self 0 s Q E st q⟩
theorem M0.own(S:M0 w b cx H rs h og)(ha:h.objs.size<=a):Own b cx rs a:=by
 refine R2 (S.fresh ha) λf1 f2 f3=> ?_;exact⟨f1,λhm=>(R5.mp hm).elim f2 f3⟩
theorem LK(hit:IsRangeIter s'.heap I x y z)(h:Q' () s'):
 wpAny (model E1 w) A (letOwnedTupleGo target (.ref I) v) Q' E s':=by
 unfold letOwnedTupleGo;induction target using PySem.Expr.casesOn<;>first
  |exact wpAny_pure h
  |(cases v<;>first
   |exact wpAny_pure h
   |(refine wpAny_bind (wpAny_load hit ?_);exact wpAny_pure h))
theorem NK(hit:KBw.IsBytesIter s'.heap I d u i)(h:Q' () s'):
 wpAny (model E1 w) A (letOwnedTupleGo target (.ref I) v) Q' E s':=by
 refine J3 hit λo ho hc hd=> ?_;clear hit;unfold letOwnedTupleGo;induction target using PySem.Expr.casesOn<;>first
  |exact wpAny_pure h
  |(cases v<;>first
   |exact wpAny_pure h
   |(refine wpAny_bind (wpAny_load ho ?_);rw[hc,hd];exact wpAny_pure h))
theorem mE{xs:List V}{i:Nat}{x:w5}(h:(xs.map Sum.inl)[i]? =some x):∃y,x= .inl y/\J0 xs i=some y:=by
 rw[LJ] at h;refine u0 (HJ.mp h) λy hy B0=> ?_;subst B0;exact⟨y,rfl,by rw[U0];exact hy⟩
noncomputable def a6(w:World)(b:Heap)(A:Around)(t:Expr)(cx:Cx)(rs:List RO)(H:List n0)(its:List w5)(it:Value)(s':Shared):Prop:=M0 w b cx H rs s'.heap (s'.os,s'.gens)/\Over w b A t cx rs its it s'.heap
theorem NC(hh:A.handled=none)(S:M0 w b cx H rs s.heap (s.os,s.gens)){a:Addr}{xs:List V}{vs:List Value}(hl:s.heap.IsList a vs.toArray)(hs:Still b cx rs a)(ok:V0 b rs xs vs):
 wpAny (model E1 w) A (pyIter (.ref a)) (a6 w b A t cx rs H (xs.map .inl)) E s:=by
 have Y8:a<s.heap.objs.size:=by refine u0 hl λ_ e _=> ?_;clear hl;exact Heap.lt_size e
 refine wpAny_pyIter_list hl ⟨S.grown (λ_ _ e=>Heap.get?_push_of_some _ e) (by rw[Heap.size_push];exact Nat.le_succ _),?_⟩;refine Over.walks (Walks.list hh s.heap.objs.size a (Nat.ne_of_lt Y8) vs.toArray) (by simp[ok.length]) (λi v s Q E st q=>letGo_listiter st.1 q)
  ⟨⟨_,Heap.get?_push_size _ rfl,rfl,rfl⟩,hl.at λo e=>Heap.get?_push_of_some _ e⟩ (by simp) (λc hc=> ?_) (λi h st c hc=> ?_) (λc hc=> ?_) (λi v x h' hp hx=> ?_)
 .rw[l9.mp hc];exact S.own (j6 _)
 .refine u0 st.1 λo ho _=> ?_;exact⟨o,by rw[l9.mp hc];exact ho⟩
 .rcases M4.mp hc with rfl|hc
  .exact .inl (by simp)
  .rw[l9.mp hc];exact .inr hs
 .refine u0 (mE hx) λy B0=> ?_;subst B0;intro hy;refine u0 (ok.get hy) λu hu o=> ?_;have W7:vs[i]? =some v:=by simpa using hp
  rw[W7] at hu;obtain rfl:=si hu;exact o
theorem pF(hh:A.handled=none)(S:M0 w b cx H rs s.heap (s.os,s.gens)){a:Addr}{xs:List V}{vs:List Value}(hl:s.heap.IsTuple a vs.toArray)(hs:Still b cx rs a)(ok:V0 b rs xs vs):
 wpAny (model E1 w) A (pyIter (.ref a)) (a6 w b A t cx rs H (xs.map .inl)) E s:=by
 have Y8:a<s.heap.objs.size:=by refine u0 hl λ_ e _=> ?_;clear hl;exact Heap.lt_size e
 refine wpAny_pyIter_tuple hl ⟨S.grown (λ_ _ e=>Heap.get?_push_of_some _ e) (by rw[Heap.size_push];exact Nat.le_succ _),?_⟩;refine Over.walks (Walks.tuple hh s.heap.objs.size a (Nat.ne_of_lt Y8) vs.toArray) (by simp[ok.length]) (λi v s Q E st q=>letGo_tupleiter st.1 q)
  ⟨⟨_,Heap.get?_push_size _ rfl,rfl,rfl⟩,hl.at λo e=>Heap.get?_push_of_some _ e⟩ (by simp) (λc hc=> ?_) (λi h st c hc=> ?_) (λc hc=> ?_) (λi v x h' hp hx=> ?_)
 .rw[l9.mp hc];exact S.own (j6 _)
 .refine u0 st.1 λo ho _=> ?_;exact⟨o,by rw[l9.mp hc];exact ho⟩
 .rcases M4.mp hc with rfl|hc
  .exact .inl (by simp)
  .rw[l9.mp hc];exact .inr hs
 .refine u0 (mE hx) λy B0=> ?_;subst B0;intro hy;refine u0 (ok.get hy) λu hu o=> ?_;have W7:vs[i]? =some v:=by simpa using hp
  rw[W7] at hu;obtain rfl:=si hu;exact o
end
section
theorem rF(B:k3 w b)(hh:A.handled=none)(S:M0 w b cx H rs s.heap (s.os,s.gens))(hg:s.heap.get? a=some o)(hb:b.get? a=none)(hx:o.ExactDict)(hd:o.data= .dict es ep)(hs:Still b cx rs a)(hl:es.size=xs.length)
 (ok:∀i e x,es[i]? =some e->J0 xs i=some x->E2 b rs x e.key):
 wpAny (model E1 w) A (pyIter (.ref a)) (a6 w b A t cx rs H (xs.map .inl)) E s:=by
 have hm:G8 s.heap a es ep:=⟨o,hg,hx,hd⟩;have Y8:a<s.heap.objs.size:=hm.lt;refine BK (aA B hb) hm ⟨S.grown (λ_ _ e=>Heap.get?_push_of_some _ e) (by rw[Heap.size_push];exact Nat.le_succ _),?_⟩;refine Over.walks (oH hh s.heap.objs.size a (Nat.ne_of_lt Y8) es ep) (by simp[hl]) (λi v s Q E st q=>letGo_keyiter st.1 q)
  ⟨⟨_,Heap.get?_push_size _ rfl,rfl,rfl⟩,hm.at' λo e=>Heap.get?_push_of_some _ e⟩ (by simp) (λc hc=> ?_) (λi h st c hc=> ?_) (λc hc=> ?_) (λi v x h' hp hx=> ?_)
 .rw[l9.mp hc];exact S.own (j6 _)
 .refine u0 st.1 λo ho _=> ?_;exact⟨o,by rw[l9.mp hc];exact ho⟩
 .rcases M4.mp hc with rfl|hc
  .exact .inl (by simp)
  .rw[l9.mp hc];exact .inr hs
 .refine u0 (mE hx) λy B0=> ?_;subst B0;intro hy;refine u0 hp λe he B0=> ?_;clear hp;subst B0;exact ok i e y he hy
theorem BU:∀{a st:Int},(AS a st n).length=n:=by
 induction n with
 |zero=>
  intro _ _;exact rfl
 |succ n ih=>
  intro a st;exact congrArg Nat.succ ih
theorem OK:∀{n i:Nat}{a st:Int}{x:V},J0 (AS a st n) i=some x->x= .int false (a+i*st)
 |0,_,_,_,_,h=>by exact A0 h
 |n+1,0,a,st,x,h=>by obtain rfl:=si h;simp
 |n+1,i+1,a,st,x,h=>by
  rw[OK (n:=n) (i:=i) (a:=a+st) h];congr 1
  push_cast
  rw[Int.add_mul,Int.one_mul _];lia
theorem Wf{x y st:Int}(h:MX x y st=true):Builtin.Range.small x y st=true/\Builtin.Range.rangeSize x y st=(OE x y st:Int):=by
 unfold MX at h;simp only[JD,Bool.or_eq_true,decide_eq_true_eq] at h;refine D0 h λB0=> ?_;clear h;refine D0 B0 λx9=> ?_;clear B0;refine D0 x9 λSR=> ?_;clear x9;refine D0 SR λh1 h2=> ?_;clear SR;intro h3;intro h4;intro h5;have key:Builtin.Range.rangeSize x y st=(OE x y st:Int)/\(st=1\/st= -1):=by
  refine⟨?_,h5⟩;unfold Builtin.Range.rangeSize OE;rcases h5 with rfl|rfl
  .simp
   split<;>lia
  .simp
   split<;>lia
 have hn:(0:Int)<=(OE x y st:Int)/\(OE x y st:Int)<2000001:=by
  refine⟨Int.natCast_nonneg _,?_⟩;unfold OE
  split<;>lia
 refine⟨?_,key.1⟩;unfold Builtin.Range.small Builtin.Range.rangeFitsLong;rw[key.1];rcases key.2 with rfl|rfl<;>simp<;>lia
theorem jN(hh:A.handled=none)(S:M0 w b cx H rs s.heap (s.os,s.gens)){a:Addr}{x y st:Int}{t1 t2 t3:Tok}(hr:IsRange s.heap a x y st t1 t2 t3)(hB:MX x y st=true):
 wpAny (model E1 w) A (pyIter (.ref a)) (a6 w b A t cx rs H ((AS x st (OE x y st)).map .inl)) E s:=by
 refine D0 (Wf hB) λh1 h2=> ?_;refine wpAny_pyIter_range hr h1 ⟨S.grown (λ_ _ e=>Heap.get?_push_of_some _ e) (by rw[Heap.size_push];exact Nat.le_succ _),?_⟩;refine Over.walks (Walks.range hh s.heap.objs.size x st (OE x y st)) (by simp[BU]) (λi v s Q E st q=>LK st q)
  ?_ (by simp) (λc hc=> ?_) (λi h st c hc=> ?_) (λc hc=> .inl hc) (λi v x h' hp hx=> ?_)
 .have e1:x+((0:Nat):Int)*st=x:=by simp
  have e2:((OE x y st:Nat):Int) -((0:Nat):Int)=Builtin.Range.rangeSize x y st:=by rw[h2];simp
  show IsRangeIter _ _ (x+((0:Nat):Int)*st) (((OE x y st:Nat):Int) -((0:Nat):Int)) st;rw[e1,e2];exact Heap.get?_push_size _ rfl
 .rw[l9.mp hc];exact S.own (j6 _)
 .exact⟨_,by rw[l9.mp hc];exact st⟩
 .refine u0 (mE hx) λy B0=> ?_;subst B0;intro hy;rw[OK hy];exact hp
theorem kN(hh:A.handled=none)(S:M0 w b cx H rs s.heap (s.os,s.gens)){c:List UInt8}{u:Tok}{sy:Bool}:
 wpAny (model E1 w) A (pyIter (.bytes c.toArray u)) (a6 w b A t cx rs H (c.map λx=> .inl (.int sy (x.toNat:Int)))) E s:=by
 refine KBw.pyIter_bytes ⟨S.grown (λ_ _ e=>Heap.get?_push_of_some _ e) (by rw[Heap.size_push];exact Nat.le_succ _),?_⟩;refine Over.walks (KBw.walks hh s.heap.objs.size c.toArray u) (by simp) (λi v s Q E st q=>NK st q)
  ⟨_,Heap.get?_push_size _ rfl,rfl,rfl⟩ (by simp) (λc hc=> ?_) (λi h st c hc=> ?_) (λc hc=> .inl hc) (λi v x h' hp hx=> ?_)
 .rw[l9.mp hc];exact S.own (j6 _)
 .refine u0 st λo ho _=> ?_;clear st;exact⟨o,by rw[l9.mp hc];exact ho⟩
 .refine A3 hp λy k hy B0=> ?_;clear hp;subst B0;have Ot:c[i]? =some y:=by simpa using hy
  rw[LJ,Ot] at hx;obtain rfl:=si hx;exact⟨k,rfl⟩
end
section
noncomputable def Ac(w:World)(b:Heap)(A:Around)(t:Expr)(cx:Cx)(rs:List RO)(σ:St)(its:List w5)(it:Value)(s':Shared):Prop:=∃rs',M0 w b cx σ.heap rs' s'.heap (s'.os,s'.gens)/\Ext rs rs'/\Over w b A t cx rs' its it s'.heap
theorem a6.q(X:Ext rs rs')(h:wpAny (model E1 w) A (pyIter u) (a6 w b A t cx rs' σ.heap its) E s):wpAny (model E1 w) A (pyIter u) (Ac w b A t cx rs σ its) E s:=
 wpAny_mono h (λit s' z=>⟨rs',z.1,X,z.2⟩) λ_ _ x=>x
theorem t6(h:(a,o)∈L0 rs):Still b cx rs a:=⟨o,.inl (.inr h)⟩
theorem Bc{w:World}{D:E5 w}{es:List (Dt×V×V)}{xs:List (D.K×Addr×Value)}:∀{es xs},W8 D b rs es xs->xs.length=es.length/\∀i x,J0 (es.map λe=>e.2.1) i=some x->∃y,xs[i]? =some y/\E2 b rs x (.ref y.2.1)
 |[],_,h=>by obtain rfl:=h;exact⟨rfl,λi x e=>by induction i using iB<;>exact A0 e⟩
 |p::es,_,h=>by
  refine DE h λk a v q B0=> ?_;clear h;subst B0;intro _ _ o _ r;refine D0 (Bc (w:=w) (D:=D) (es:=[]) (xs:=[]) r) λh1 h2=> ?_;refine⟨by simp[h1],λi x e=> ?_⟩;induction i using iB with
  |zero=>obtain rfl:=si e;exact⟨_,rfl,o⟩
  |succ i=>refine u0 (h2 i x e) λy hy q=> ?_;exact⟨y,by simpa using hy,q⟩
theorem tm:∀{l4:List (Str×Value)},qQ b rs es l4->l4.length=es.length/\∀i x,J0 (es.map λe=>V.str e.1) i=some x->∃y,l4[i]? =some y/\x= .str y.1:=by
 induction es with
 |nil=>
  intro _ h;obtain rfl:=h;exact⟨rfl,λi x e=>by induction i using iB<;>exact A0 e⟩
 |cons p es ih=>
  intro _ h;refine U1 h λv q B0=> ?_;clear h;subst B0;intro _ r;refine D0 (ih r) λh1 h2=> ?_;refine⟨by simp[h1],λi x e=> ?_⟩;induction i using iB with
  |zero=>obtain rfl:=si e;exact⟨_,rfl,rfl⟩
  |succ i=>refine u0 (h2 i x e) λy hy q=> ?_;exact⟨y,by simpa using hy,q⟩
theorem mP(B:k3 w b)(hh:A.handled=none)(S:M0 w b cx H rs s.heap (s.os,s.gens)){i:Nat}{a:Addr}{o:Obj}{es:List (Dt×V×V)}(hg:(a,o)∈L0 rs)(ok:P2 w b rs (.dT es) (.one a o)):
 wpAny (model E1 w) A (pyIter (.ref a)) (a6 w b A t cx rs H ((es.map λe=>e.2.1).map .inl)) E s:=by
 have g:=S.at_ (a,o) (u5 _ (j4 hg));refine A3 ok ?_;clear ok;intro a' o' e ok;cases e
 rcases ok with⟨rfl,⟨arr,ep,hx,hd,_,hp,_⟩,_⟩|⟨D,arr,ep,xs,hx,hd,hl,_,ts⟩
 .refine rF B hh S g.1 g.2 hx hd (t6 hg) ?_ λi e x he hx=>by induction i using iB<;>exact A0 hx
  have:=hp.length;simpa using this
 .refine D0 (Bc (es:=[]) (xs:=[]) ts) λh1 h2=> ?_;refine rF B hh S g.1 g.2 hx hd (t6 hg) ?_ λi e x he hx=> ?_
  .have:=congrArg List.length hl;simp[h1] at this;simpa using this
  .refine u0 (h2 i x hx) λy hy q=> ?_;have:= @entry_at E1 w D.K D.dec D.knd arr xs hl i;rw[he,hy] at this;obtain rfl:=si this;exact q
theorem UY(B:k3 w b)(hh:A.handled=none)(S:M0 w b cx H rs s.heap (s.os,s.gens))(hg:(a,o)∈L0 rs)(ok:P2 w b rs (.dS es) (.one a o)):
 wpAny (model E1 w) A (pyIter (.ref a)) (a6 w b A t cx rs H ((es.map λe=>V.str e.1).map .inl)) E s:=by
 have g:=S.at_ (a,o) (u5 _ (j4 hg));refine T3 ok λa' o' l4 e B0=> ?_;clear ok;refine SJ B0 λarr ep hx hd _ hp _=> ?_;clear B0;intro ok;cases e
 refine D0 (tm ok) λh1 h2=> ?_;refine rF B hh S g.1 g.2 hx hd (t6 hg) ?_ λi e x he hx=> ?_
 .have:=hp.length;rw[h1] at this;simpa using this
 .refine u0 (h2 i x hx) λy hy B0=> ?_;subst B0;have q:=(hp.get? (i:=i) (e:=e) (k:=y.1) (v:=y.2) (by simpa using he) hy).1;exact Value.isStrOf_shape q
theorem PQ(B:k3 w b)(hh:A.handled=none){v:V}{u:Value}{l:m9}{its:List w5}(h:L7 σ v=some (l,its))(S:M0 w b cx σ.heap rs s.heap (s.os,s.gens))(o:E2 b rs v u):
 wpAny (model E1 w) A (pyIter u) (Ac w b A t cx rs (E4 l σ) its) E s:=by
 refine B9 h (λp e h=> ?_) λh=>B9 h (λi e h=>u3 h λob hx h=> ?_) λh=>u3 h λd e h=>B5 h λp e2 h=> ?_
 .cases si h
  rw[mQ e] at o;exact O0 o λk e=>e▸a6.q (.refl rs) (σ:=σ) (kN hh S)
 .rw[uA e] at o;refine u0 (S.ref hx) λr hr ok=> ?_;rw[K6 hr o];induction ob using n0.casesOn with
  |w9 x y st=>
   refine A4 h λg h=>EE ok λa ob t1 t2 t3 er hc ho=> ?_;cases si h
   subst er;refine R2 (I9 S hx hr) λS1 X1 m1=> ?_;exact a6.q X1 (σ:=E4 [(i,.w9 x y st)] σ) (jN hh S1 (ho _ _ (S.at_ (a,ob) (u5 _ (B3 hr _ M3))).1) g)
  |D4 q=>
   refine B5 h λl' e3 h=>T3 ok λa ob ll er m0 z=> ?_;cases h
   subst er;induction q using n0.casesOn with
   |lst xs=>
    obtain rfl:=si e3;refine V3 z λa' vs k e y=> ?_;cases e
    exact a6.q (.refl rs) (σ:=σ) (NC hh S (H4 (S.Ub (.inr m0))) (t6 m0) y)
   |dS es=>
    obtain rfl:=si e3;have:=UY (t:=t) (E:=E) B hh S m0 z;rw[yC] at this;exact a6.q (.refl rs) (σ:=σ) this
   |dT es=>
    obtain rfl:=si e3;have:=mP (i:=i) (t:=t) (E:=E) B hh S m0 z;rw[yC] at this;exact a6.q (.refl rs) (σ:=σ) this
   |_=>exact A0 e3
  |dT es=>
   cases si h
   refine A3 (id ok) λa ob er _=> ?_;subst er;refine R2 (I9 S hx hr) λS1 X1 m1=> ?_;have:=mP (i:=i) (t:=t) (E:=E) B hh S1 m1 (ok.ext X1);rw[yC] at this;exact a6.q X1 (σ:=E4 [(i,.dT es)] σ) this
  |lst xs=>
   cases si h
   refine V3 ok λa vs k er z=> ?_;subst er;refine R2 (I9 S hx hr) λS1 X1 m1=> ?_;exact a6.q X1 (σ:=E4 [(i,.lst xs)] σ) (NC hh S1 (H4 (S1.Ub (.inr m1))) (t6 m1) (z.ext X1))
  |tup xs=>
   cases si h
   refine V3 ok λa vs k er z=> ?_;subst er;have m1:(a,seqObj "tuple" (List.toArray vs) k)∈led rs:=B3 hr _ M3;exact a6.q (.refl rs) (σ:=σ) (pF hh S (U6 (S.at_ _ (u5 _ m1)).1) ⟨_,.inr (.inr ⟨m1,rfl,_,_,rfl⟩)⟩ z)
  |_=>exact A0 h
 .cases h
  rw[AX e,Uj e2] at o;refine AB (F:=MA b rs) (l:=p.1) (ds:=p.2) o λa vs n eu f ok=> ?_;rw[eu];cases hp:p.1<;>rw[hp] at f
  .have:=pF (t:=t) (E:=E) hh S (U6 (S.Ub f)) ⟨_,.inl f⟩ ok.vs;rw[yC] at this;exact a6.q (.refl rs) (σ:=σ) this
  .have:=NC (t:=t) (E:=E) hh S (H4 (S.Ub f)) ⟨_,.inl f⟩ ok.vs;rw[yC] at this;exact a6.q (.refl rs) (σ:=σ) this
end
section
variable{w:World}{b h:Heap}{n:Nat}{R:Rec}{A:Around}{E:Value->Shared->Prop}{s:Shared}{cx:Cx}{rs:List RO}{env:Env}{sc:Scope}{fr:J2}{σ:St}{H:List n0}{t:Expr}
theorem Over.CU{elts:List Expr}{kk:Nat}{pos:Pos}{its:List w5}{I:Addr}{fp wr ow:List Addr}{k:Nat}{Pt:Nat->Array Value->Prop}{St:Nat->Heap->Prop}{Mid:Nat->Addr->Heap->Prop}(W:WalksU E1 w A I fp wr k Pt St Mid)(hk:k=its.length)
 (st:St 0 h) (nd:ow.Nodup) (zc:∀c∈wr,c∈ow) (own:∀c∈ow,Own b cx rs c) (alive:∀i h,St i h->∀c∈ow,∃o,h.get? c=some o) (nF:∀c∈fp,c∈ow\/Still b cx rs c)
 (items:∀i vals x,Pt i vals->its[i]? =some x->∃y z u v,x= .inr (y,z)/\vals= #[u,v]/\E2 b rs y u/\E2 b rs z v):Over w b A (.Tuple elts kk pos) cx rs its (.ref I) h:=by
 subst hk;refine⟨I,fp,wr,ow,_,_,St,rfl,KTurns.ofWalksU W,st,nd,zc,own,alive,nF,λi v h' x hp hx=> ?_,λs Q E st q=>W.self 0 s Q E st q⟩;refine U1 hp λT vals B0=> ?_;clear hp;subst B0;intro hP hT;refine pB (items i vals x hP hx) λy z u v B0=> ?_;subst B0;intro x9;subst x9;intro o1 o2;exact⟨T,u,v,rfl,hT,o1,o2⟩
theorem sH:∀{xs:List V}{k i:Nat}{x:w5},(CA k xs)[i]? =some x->∃y,J0 xs i=some y/\x= .inr (.int false ((k+i:Nat):Int),y)
 |[],_,_,_,h=>by exact A0 h
 |y::xs,k,0,x,h=>by obtain rfl:=si h;exact⟨y,rfl,rfl⟩
 |y::xs,k,i+1,x,h=>by
  refine u0 (sH (xs:=xs) (k:=k+1) (i:=i) h) λz h1 h2=> ?_;refine⟨z,h1,?_⟩;rw[h2];congr 3;lia
theorem QQ:∀{k:Nat},(CA k xs).length=xs.length:=by
 induction xs with
 |nil=>
  intro _;exact rfl
 |cons y xs ih=>
  intro k;exact congrArg Nat.succ ih
theorem PK:∀{xs ys:List V}{i:Nat}{x:w5},(aK xs ys)[i]? =some x->∃y z,J0 xs i=some y/\J0 ys i=some z/\x= .inr (y,z)
 |[],_,_,_,h=>by exact A0 h
 |_::_,[],_,_,h=>by exact A0 h
 |y::xs,z::ys,0,x,h=>by obtain rfl:=si h;exact⟨y,z,rfl,rfl,rfl⟩
 |y::xs,z::ys,i+1,x,h=>by
  refine U1 (PK (xs:=xs) (ys:=ys) (i:=i) h) λp q h1 h2 h3=> ?_;exact⟨p,q,h1,h2,h3⟩
theorem QK:∀{xs ys:List V},(aK xs ys).length=min xs.length ys.length
 |[],_=>(Nat.zero_min _).symm
 |_::_,[]=>rfl
 |y::xs,z::ys=>(congrArg Nat.succ QK).trans (Nat.succ_min_succ _ _).symm
theorem sF{v:V}{u:Value}{l:m9}{xs:List V}(h:D5 σ v=some (l,xs))(S:M0 w b cx σ.heap rs s.heap (s.os,s.gens))(o:E2 b rs v u):
 ∃rs' a vs,u= .ref a/\M0 w b cx (E4 l σ).heap rs' s.heap (s.os,s.gens)/\Ext rs rs'/\s.heap.IsList a vs.toArray/\Still b cx rs' a/\V0 b rs' xs vs:=by
 refine B9 h (λi e h=>u3 h λob hx h=>u0 (S.ref hx) λr hr ok=>B9 h (λMt e2 h=> ?_) λh=>u3 h λq e2 h=>B5 h λMt e3 h=> ?_) λh=>u3 h λd e h=>B5 h λds e2 h=> ?_
 .cases si h
  rw[xG e2] at ok hx;rw[uA e] at o;refine V3 ok λa vs k er z=> ?_;subst er;refine R2 (I9 S hx hr) λS1 X1 m1=> ?_;exact⟨_,a,vs,K6 hr o,S1,X1,H4 (S1.Ub (.inr m1)),t6 m1,z.ext X1⟩
 .cases h
  rw[ak e2,xG e3] at ok;rw[uA e] at o;refine T3 ok λa ob ll er m0 z=>V3 z λa' vs k e' y=> ?_;subst er;cases e'
  exact⟨rs,a,vs,K6 hr o,S,.refl rs,H4 (S.Ub (.inr m0)),t6 m0,y⟩
 .cases h
  rw[AX e,Zd e2] at o;exact AB (F:=MA b rs) (l:=true) (ds:=ds) o λa vs n eu f ok=>⟨rs,a,vs,eu,S,.refl rs,H4 (S.Ub f),⟨_,.inl f⟩,ok.vs⟩
theorem RQ(hh:A.handled=none)(S:M0 w b cx H rs s.heap (s.os,s.gens)){elts:List Expr}{kk:Nat}{pos:Pos}{a:Addr}{xs:List V}{vs:List Value}(hl:s.heap.IsList a vs.toArray)(hs:Still b cx rs a)(ok:V0 b rs xs vs):
 wpAny (model E1 w) A (call (.type "enumerate") [.ref a]) (λxv U2=>wpAny (model E1 w) A (pyIter xv) (a6 w b A (.Tuple elts kk pos) cx rs H (CA 0 xs)) E U2) E s:=by
 have Y8:a<s.heap.objs.size:=by refine u0 hl λ_ e _=> ?_;clear hl;exact Heap.lt_size e
 refine call_enumerate_list hl λh' hE hI hsz hk=> ?_;refine wpAny_pyIter_enum hE ⟨S.grown hk (by rw[hsz];exact jB _ _),?_⟩;refine Over.CU (ow:=[s.heap.objs.size+1,s.heap.objs.size]) (WalksT.enumerate hh (s.heap.objs.size+1) s.heap.objs.size a (Nat.succ_ne_self _) (ktu_ne 1 Y8) (Nat.ne_of_lt Y8) vs.toArray).toU (by simp[QQ,ok.length]) ⟨⟨.none,hE⟩,hI,hl.at λo e=>hk a o e⟩
  (by simp) (λc hc=>hc) (λc hc=> ?_) (λi h st c hc=> ?_) (λc hc=> ?_) (λi vals x hp hx=> ?_)
 .rcases M4.mp hc with rfl|hc
  .exact S.own (Nat.le_succ _)
  .rw[l9.mp hc];exact S.own (j6 _)
 .refine R2 st λB0=> ?_;clear st;refine O0 B0 λold he=> ?_;clear B0;intro x9;refine u0 x9 λoi hoi _=> ?_;clear x9;intro _;rcases M4.mp hc with rfl|hc
  .exact⟨_,he⟩
  .rw[l9.mp hc];exact⟨oi,hoi⟩
 .have Vl:c=s.heap.objs.size+1\/c=s.heap.objs.size\/c=a:=by simpa using hc
  rcases Vl with rfl|rfl|rfl
  .exact .inl (by simp)
  .exact .inl (by simp)
  .exact .inr hs
 .refine A3 hp λt1 x' mN B0=> ?_;clear hp;subst B0;refine u0 (sH hx) λy hy B0=> ?_;subst B0;refine u0 (ok.get hy) λu hu o=> ?_;have W7:vs[i]? =some x':=by simpa using mN
  rw[W7] at hu;obtain rfl:=si hu;refine⟨_,_,_,_,rfl,rfl,⟨t1,?_⟩,o⟩;simp
theorem DU(hh:A.handled=none)(S:M0 w b cx H rs s.heap (s.os,s.gens)){elts:List Expr}{kk:Nat}{pos:Pos}{a c:Addr}{xs ys:List V}{vs us:List Value}(Qt:s.heap.IsList a vs.toArray)(hs1:Still b cx rs a)(bc:V0 b rs xs vs)(nP:s.heap.IsList c us.toArray)(Xv:Still b cx rs c)(oX:V0 b rs ys us):
 wpAny (model E1 w) A (call (.type "zip") [.ref a,.ref c]) (λxv U2=>wpAny (model E1 w) A (pyIter xv) (a6 w b A (.Tuple elts kk pos) cx rs H (aK xs ys)) E U2) E s:=by
 have Yv:a<s.heap.objs.size:=by refine u0 Qt λ_ e _=> ?_;clear Qt;exact Heap.lt_size e
 have Zv:c<s.heap.objs.size:=by refine u0 nP λ_ e _=> ?_;clear nP;exact Heap.lt_size e
 have D:ZipApart (s.heap.objs.size+4) (s.heap.objs.size+2) (s.heap.objs.size+3) s.heap.objs.size (s.heap.objs.size+1) a c:=ktu_apart _ _ _ Yv Zv;refine call_zip_2 Qt nP λh' hz aw bw hi1 um hsz hk=> ?_;refine wpAny_pyIter_zip hz ⟨S.grown hk (by rw[hsz];exact jB _ _),?_⟩;refine Over.CU (ow:=[s.heap.objs.size+4,s.heap.objs.size+2,s.heap.objs.size+3,s.heap.objs.size,s.heap.objs.size+1]) (WalksT.zip2 hh _ _ _ _ _ _ _ D vs.toArray us.toArray).toU (by simp[QK,bc.length,oX.length]) ⟨hz,aw,⟨_,_,bw⟩,hi1,um,Qt.at λo e=>hk a o e,nP.at λo e=>hk c o e⟩
  (by simp) (λc hc=>by simp at hc⊢;rcases hc with rfl|rfl|rfl|rfl<;>simp) (λd hd=> ?_) (λi h st d hd=> ?_) (λd hd=> ?_) (λi vals x hp hx=> ?_)
 .have xB:d=s.heap.objs.size+4\/d=s.heap.objs.size+2\/d=s.heap.objs.size+3\/d=s.heap.objs.size\/d=s.heap.objs.size+1:=by simpa using hd
  exact S.own (by rcases xB with rfl|rfl|rfl|rfl|rfl<;>first|exact j6 _|exact jB _ _)
 .refine Eb st λhz aw B0=> ?_;clear st;refine w6 B0 λp q bw=> ?_;clear B0;intro x9;refine u0 x9 λo1 iP _=> ?_;clear x9;intro SR;refine u0 SR λo2 Gl _=> ?_;clear SR;intro _;have xB:d=s.heap.objs.size+4\/d=s.heap.objs.size+2\/d=s.heap.objs.size+3\/d=s.heap.objs.size\/d=s.heap.objs.size+1:=by simpa using hd
  rcases xB with rfl|rfl|rfl|rfl|rfl
  .exact⟨_,hz⟩
  .exact⟨_,aw⟩
  .exact⟨_,bw⟩
  .exact⟨_,iP⟩
  .exact⟨_,Gl⟩
 .have xB:d=s.heap.objs.size+4\/d=s.heap.objs.size+2\/d=s.heap.objs.size+3\/d=s.heap.objs.size\/d=s.heap.objs.size+1\/d=a\/d=c:=by simpa using hd
  rcases xB with rfl|rfl|rfl|rfl|rfl|rfl|rfl
  .exact .inl (by simp)
  .exact .inl (by simp)
  .exact .inl (by simp)
  .exact .inl (by simp)
  .exact .inl (by simp)
  .exact .inr hs1
  .exact .inr Xv
 .refine U1 hp λp q hp1 wm B0=> ?_;clear hp;subst B0;refine U1 (PK hx) λy z hy hz B0=> ?_;subst B0;refine u0 (bc.get hy) λu hu o=> ?_;refine u0 (oX.get hz) λv hv o'=> ?_;have W7:vs[i]? =some p:=by simpa using hp1
  have hq':us[i]? =some q:=by simpa using wm
  rw[W7] at hu;rw[hq'] at hv;obtain rfl:=si hu;obtain rfl:=si hv;exact⟨_,_,_,_,rfl,rfl,o,o'⟩
end
section
theorem VY(h:rO f sc=some v)(q:Q v σ):zS f sc fr σ Q:=u3 h λk e h=>by
 show on (lk f sc.names) 93 _;rw[e];induction k using PySem.NameKind.casesOn with
 |globalImplicit=>
  show on (Xi f) 89 _;rw[show Xi f=some v from h];exact q
 |_=>exact A0 h
inductive xm(w:World)(b:Heap)(A:Around)(t:Expr)(cx:Cx)(rs:List RO)(K:m9->List w5->St->Prop)(it:Value)(s':Shared):Prop
 |mk (l:m9) (its:List w5) (P0:St) (rs':List RO) (q:K l its P0) (S:M0 w b cx (E4 l P0).heap rs' s'.heap (s'.os,s'.gens)) (x:Ext rs rs') (o:Over w b A t cx rs' its it s'.heap)
theorem JI:E4 (l++k) σ=E4 k (E4 l σ):=by
 induction l generalizing σ with
 |nil=>rfl
 |cons p l ih=>exact ih
theorem oN(h1:D5 σ u=some (l,xs))(h2:D5 σ v=some (k,ys))(g:tv l k=true):D5 (E4 l σ) v=some (k,ys):=by
 refine B9 h1 (λi e1 h=>u3 h λob hx h=>B9 h (λMt e2 h=> ?_) λh=>u3 h λq e2 h=>B5 h λMt e3 h=> ?_) λh=>u3 h λd e h=>B5 h λds e2 h=> ?_
 .cases si h
  unfold D5 at h2⊢;induction hr:rV v using opQ with
  |none=>rw[hr] at h2;exact h2
  |some j=>
   rw[hr] at h2;have h2:((J0 σ.heap j).bind λo=>FX (UH o) (λxs=>some ([(j,n0.lst xs)],xs)) ((fe o).bind λq=>(UH q).map λxs=>([],xs)))=some (k,ys):=h2;by_cases ij:j=i
   .rw[ij,hx] at h2;have h2:FX (UH ob) (λxs=>some ([(i,n0.lst xs)],xs)) ((fe ob).bind λq=>(UH q).map λxs=>([],xs))=some (k,ys):=h2;rw[e2] at h2;cases si h2
    exact G2 ((show(!(Nat.beq i i))=false by rw[Nat.beq_refl _];rfl).symm.trans g)
   .show((J0 (upd σ.heap i (.D4 (.lst xs))) j).bind _)=_;rw[Z3 ij];exact h2
 .cases h;exact h2
 .cases h;exact h2
theorem OC{iter:Expr}{K:m9->List w5->St->Prop}(h:P4 R t iter sc fr σ K)(env:Env):∀x,foldedSetIterable iter env x=pure x:=by
 induction iter using PySem.Expr.casesOn<;>first|(intro x;rfl)|exact No.no h
theorem EU(h:gN s iter sc=some args):∃f p q,iter= .Call (.Name f p) args [] q/\rO f sc=some (.ty s):=
 u3 h λc e1 h=>u3 h λv e2 h=>A4 h λg h=>w6 (Wu e1) λp q e=>⟨c.1,p,q,si h▸e,Zj g▸e2⟩
theorem oP(B:k3 w b)(G1:Z4 w b n R)(hA:B2 A n)(S:M0 w b cx σ.heap rs s.heap (s.os,s.gens))(N:W3 b cx rs env sc fr)(hn:rO f sc=some (.ty nm))(g:noStar args=true)(h:nG R args sc fr σ Q)
 (hc:∀{us vs M1 r2 s'},Q vs M1->M0 w b cx M1.heap r2 s'.heap (s'.os,s'.gens)->Ext rs r2->V0 b r2 vs us->wpAny (model E1 w) A (call (.type nm) us) Φ E s'):wpAny (model E1 w) A (eval (.Call (.Name f q) args [] p) env) Φ E s:=by
 rw[arm_eval_Call_Name'];refine wpAny_bind (wpAny_mono (xO B S N (Q:=λv F1=>v= .ty nm/\F1=σ) (VY hn ⟨rfl,rfl⟩)) (λu U2 Y3=> ?_) λ_ _ x=>x);obtain⟨fv,Ze,r0,⟨rfl,rfl⟩,S0,X0,o0⟩:=Y3;rw[show u= .type nm from o0];refine H9 G1 hA S0 (N.ext X0) (HK _) g h λus s' z=> ?_;obtain⟨vs,M1,r2,q2,S2,X2,o2⟩:=z;exact hc q2 S2 (X0.trans X2) o2
theorem RK(B:k3 w b)(G1:Z4 w b n R)(hA:B2 A n){iter:Expr}{K:m9->List w5->St->Prop}(h:P4 R t iter sc fr σ K)(S:M0 w b cx σ.heap rs s.heap (s.os,s.gens))(N:W3 b cx rs env sc fr):
 wpAny (model E1 w) A (eval iter env) (λx s1=>wpAny (model E1 w) A (pyIter x) (xm w b A t cx rs K) E s1) E s:=by
 refine U3 h λ_ h=>K2 h (λargs e h=>wG h λg1 g2 h=> ?_) λh=>K2 h (λargs e h=>wG h λg1 g2 h=> ?_) λh=> ?_
 .refine V3 (EU e) λf p q ei hn=>Exists.elim (eO.mp g2) λtp et=> ?_;rw[ei,cH et];refine oP B G1 hA S N hn g1 h λ{us vs M1 r2 s'} q2 S2 X2 o2=>E0 q2 λv e1 q2=>E0 q2 λp hx q2=> ?_;refine o2.one e1 λu ou=> ?_;refine AA (sF hx S2 ou) λr3 a Fz eu S3 X3 hl hs ok=> ?_;rw[eu];exact wpAny_mono (RQ hA.handled S3 hl hs ok) (λxv s4 h4=>wpAny_mono h4 (λit s5 z=>⟨p.1,_,M1,r3,q2,z.1,X2.trans X3,z.2⟩) λ_ _ x=>x) λ_ _ x=>x
 .refine V3 (EU e) λf p q ei hn=>Exists.elim (eO.mp g2) λtp et=> ?_;rw[ei,cH et];refine oP B G1 hA S N hn g1 h λ{us vs M1 r2 s'} q2 S2 X2 o2=>E0 q2 λv e1 q2=>E0 q2 λp hx q2=>E0 q2 λq hy q2=>U3 q2 λg3 q2=> ?_;refine o2.two e1 λu1 u2 ou1 ou2=> ?_;refine AA (sF hx S2 ou1) λr3 a Fz eu S3 X3 hl hs ok=> ?_;rw[eu];refine AA (sF (oN hx hy g3) S3 (ou2.ext X3)) λr4 c us2 eu2 S4 X4 nP Xv oX=> ?_;rw[eu2];rw[<-JI] at S4;exact wpAny_mono (DU hA.handled S4 hl (hs.ext X4 λ_ z=>z) (ok.ext X4) nP Xv oX) (λxv s4 h4=>wpAny_mono h4 (λit s5 z=>⟨p.1++q.1,_,M1,r4,q2,z.1,(X2.trans X3).trans X4,z.2⟩) λ_ _ x=>x) λ_ _ x=>x
 .refine wpAny_mono (G1 h hA S N) (λu U2 Y3=> ?_) λ_ _ x=>x;obtain⟨v,P0,r1,q1,S1,X1,o1⟩:=Y3;refine E0 q1 λp e q1=>wpAny_mono (PQ (t:=t) B hA.handled e S1 o1) (λit y4 F6=> ?_) λ_ _ x=>x;exact J3 F6 λr2 S2 X2 O2=>⟨p.1,p.2,P0,r2,q1,S2,X1.trans X2,O2⟩
end
section
variable{prog:Program}{w:World}{A:Around}{E:Value->Shared->Prop}{s:Shared}
theorem SQ(OA:t≠it)(n:Nat):∀(i:Nat)(s:Shared)(Q:List Value->Shared->Prop),s.heap.IsListIter it t i->s.heap.IsList t items->i+n<=items.size->
 (∀h',h'.IsListIter it t (i+n)->Heap.SameBut it s.heap h'->Q ((items.toList.drop i).take n) {s with heap:=h'})->wpAny (model prog w) A (draw (.ref it) n) Q E s:=by
 induction n with
 |zero=>
  intro i s Q hit _ _ hQ;show wpAny _ _ (pure []) Q E s;exact wpAny_pure (by simpa using hQ s.heap hit (Heap.SameBut.refl ..))
 |succ n ih=>
  intro i s Q hit ht hle hQ;have Y8:i<items.size:=by lia
  show wpAny _ _ (pyNext (.ref it)>>=_) Q E s;refine wpAny_bind (wpAny_pyNext_list_item hit ht (x:=items[i]) (by simp[Y8]) λY3 pN SK=> ?_);refine wpAny_bind (wpAny_holding (ih (i+1) _ _ pN (ht.extBut SK.extBut OA) (by lia) λF6 Xf ym=>wpAny_pure ?_));have hd:items.toList.drop i=items[i]::items.toList.drop (i+1):=by simp[List.drop_eq_getElem_cons,Y8]
  have:=hQ F6 (by rw[show i+(n+1)=i+1+n by lia];exact Xf) (SK.trans ym);rw[hd,List.take_succ_cons] at this;exact this
theorem H8(hh:A.handled=none)(ht:s.heap.IsList t items)
 (hQ:∀h',Heap.ExtBut s.heap.objs.size s.heap h'->Q items.toList {s with heap:=h'}):wpAny (model prog w) A (unpackItems (.ref t) items.size none) Q E s:=by
 have Y8:t≠s.heap.objs.size:=by refine u0 ht λo ho _=> ?_;clear ht;exact Nat.ne_of_lt (Heap.lt_size ho)
 unfold unpackItems;refine wpAny_bind ?_
 .unfold notIterableAtAll;refine wpAny_bind (wpAny_specialOf ht.typeIs slot_list_iter.lookup ?_);refine wpAny_pure ?_;simp only[IJ,if_false];refine wpAny_bind (wpAny_holding (wpAny_pyIter_list ht ?_));have hp:(s.heap.push {cls:= .type "list_iterator",data:= .fields #[.ref t,.int 0 0]}).IsList t items:=ht.at λo e=>Heap.get?_push_of_some _ e;refine wpAny_bind (wpAny_holding (SQ Y8 items.size 0 _ _ ⟨_,Heap.get?_push_size _ rfl,rfl,rfl⟩ hp (by lia) λY3 pN SK=> ?_));have Sf:List.take items.size (List.drop 0 items.toList)=items.toList:=by
   rw[List.drop_zero];exact List.take_of_length_le (by simp)
  rw[Sf];rw[if_neg (by simp)];have zm:Y3.IsList t items:=hp.extBut SK.extBut Y8;refine wpAny_bind (wpAny_holding (wpAny_pyNext_list_end hh pN zm (by simp) λF6 Am=> ?_));simp only[Option.isSome_none,IJ,if_false];refine wpAny_pure (hQ F6 λb o hb e=>Am b o hb (SK.extBut b o hb (Heap.get?_push_of_some _ e)))
theorem LB(hh:A.handled=none)(ht:s.heap.IsList t items)
 (hn:(assignEach elts env).length=items.size) (Bm:(assignEach elts env).findIdx? (·.1)=none)
 (h:∀h',Heap.ExtBut s.heap.objs.size s.heap h'->wpAny (model prog w) A (assignInOrder ((assignEach elts env).map (·.2)) items.toList) Q E {s with heap:=h'}):
 wpAny (model prog w) A (assign (.Tuple elts x1 pos) env (.ref t)) Q E s:=by
 rw[arm_assign_Tuple];refine wpAny_bind (wpAny_standAt ?_);unfold unpack;rw[hn,Bm];exact wpAny_bind (wpAny_holding (H8 hh ht h))
end
theorem TK:(assignEach ts env).length=ts.length:=by
 induction ts with
 |nil=>rfl
 |cons t ts ih=>induction t using PySem.Expr.casesOn<;>exact congrArg Nat.succ ih
theorem tH(h:noStar ts=true):(assignEach ts env).findIdx? (·.1)=none:=by
 induction ts with
 |nil=>rfl
 |cons t ts ih=>
  refine W9 h λe h=> ?_;rw[BI e,List.findIdx?_cons,ih h];rfl
section
variable{w:World}{b:Heap}{n:Nat}{R:Rec}{A:Around}{E:Value->Shared->Prop}{s:Shared}{cx:Cx}{rs:List RO}{env:Env}{sc:Scope}{fr:J2}{σ:St}
noncomputable def FU(w:World)(b:Heap)(n k:Nat)(R:Rec):Prop:=∀{t:Expr}{v:V}{sc:Scope}{fr:J2}{σ:St}{K:J2->St->Prop},asg R k t v sc fr σ K->
 ∀{A:Around}{E:Value->Shared->Prop}{s:Shared}{cx:Cx}{rs:List RO}{env:Env}{m:Str->Option Value}{u:Value},B2 A n->M0 w b (cx.put env.locals m) σ.heap rs s.heap (s.os,s.gens)->o4 b rs env sc fr m->E2 b rs v u->
  wpAny (model E1 w) A (assign t env u) (λ_ s'=>PF w b cx env sc rs K s') E s
theorem WY{k:Nat}(Zf:FU w b n k R)(hA:B2 A n){ts:List Expr}{xs:List V}{K:J2->St->Prop}{m:Str->Option Value}{us:List Value}(h:asg.CG R k ts xs sc fr σ K)(hs:noStar ts=true)
 (S:M0 w b (cx.put env.locals m) σ.heap rs s.heap (s.os,s.gens)) (N:o4 b rs env sc fr m) (o:V0 b rs xs us):wpAny (model E1 w) A (assignInOrder ((assignEach ts env).map (·.2)) us) (λ_ s'=>PF w b cx env sc rs K s') E s:=by
 induction ts generalizing xs fr σ s rs m us with
 |nil=>induction xs using H5 with
  |nil=>
   refine o.ni ?_;exact wpAny_assignInOrder_none ⟨fr,σ,rs,m,h,S,N,.refl rs⟩
  |cons _ _=>exact No.no h
 |cons t ts ih=>induction xs using H5 with
  |nil=>exact No.no h
  |cons x xs=>
   refine W9 hs λe hs=> ?_;refine o.un λu r o1 o2=> ?_;rw[BI e];refine wpAny_assignInOrder_more (wpAny_mono (Zf (K:=λV8 F1=>asg.CG R k ts xs sc V8 F1 K) h hA S N o1) (λ_ U2 Y3=> ?_) λ_ _ x=>x);obtain⟨n9,P0,r1,m1,q1,S1,N1,X1⟩:=Y3;exact wpAny_mono (ih q1 hs S1 N1 (o2.ext X1)) (λ_ _ z=> .from X1 z) λ_ _ x=>x
theorem pP{k:Nat}(Zf:FU w b n k R)(hA:B2 A n){ts:List Expr}{kk:Nat}{pos:Pos}{xs:List V}{K:J2->St->Prop}{m:Str->Option Value}{a:Addr}{us:List Value}(h:asg.CG R k ts xs sc fr σ K)(hs:noStar ts=true)(hl:ts.length=xs.length)
 (S:M0 w b (cx.put env.locals m) σ.heap rs s.heap (s.os,s.gens)) (N:o4 b rs env sc fr m) (o:V0 b rs xs us) (g:s.heap.IsTuple a us.toArray\/s.heap.IsList a us.toArray):
 wpAny (model E1 w) A (assign (.Tuple ts kk pos) env (.ref a)) (λ_ s'=>PF w b cx env sc rs K s') E s:=by
 have nx:∀h',Heap.ExtBut s.heap.objs.size s.heap h'->wpAny (model E1 w) A (assignInOrder ((assignEach ts env).map (·.2)) us.toArray.toList) (λ_ s'=>PF w b cx env sc rs K s') E {s with heap:=h'}:=λh' hx=>by
  have S':M0 w b (cx.put env.locals m) σ.heap rs h' _:=S.off (wr:=[]) M3 N.above (by simp) λa o _ e=>hx a o (Nat.ne_of_lt (Heap.lt_size e)) e;exact WY Zf hA (s:={s with heap:=h'}) h hs S' N (by simpa using o)
 rcases g with g|g
 .exact wpAny_assign_Tuple hA.handled g (by rw[TK,hl];simp[o.length]) (tH hs) nx
 .exact LB hA.handled g (by rw[TK,hl];simp[o.length]) (tH hs) nx
theorem qP{v:V}{u:Value}{xs:List V}{H:Cx}(S:M0 w b H σ.heap rs s.heap (s.os,s.gens))(o:E2 b rs v u)(h:oS σ v=some xs):∃a us,u= .ref a/\V0 b rs xs us/\(s.heap.IsTuple a us.toArray\/s.heap.IsList a us.toArray):=by
 refine B5 h λq e h=> ?_;refine S.sq o e λp vs n m ok=> ?_;have g:=S.inR m;refine⟨p,vs,rfl,h▸ok,?_⟩;cases hq:q.1<;>rw[hq] at g
 .exact .inl (U6 g)
 .exact .inr (H4 g)
theorem tF(B:k3 w b)(Kd:Kinds w)(G1:Z4 w b n R)(k:Nat):FU w b n k R:=by
 induction k with
 |zero=>intro t v sc fr σ K h;exact No.no h
 |succ k ih=>
  intro t v sc fr σ K h A E s cx rs env m u hA S N o;induction t using PySem.Expr.casesOn with
  |Name=>exact HM S N o h
  |Attribute=>exact IM B G1 hA S N o h
  |Subscript=>exact yQ Kd G1 hA S N o h
  |Tuple ts kk pos=>exact E0 h λxs e h=>wG h λg1 g2 h7=>U1 (qP S o e) λa us eu ok at_=>eu▸pP ih hA h7 g1 (V9 g2) S N ok at_
  |_=>exact No.no h
theorem nE(B:k3 w b)(Kd:Kinds w)(G1:Z4 w b n R):oF w b n R:=by
 intro t it sc fr σ K h A E s cx rs env m v hA S N o;cases it with
 |inl x=>exact tF B Kd G1 4 h hA S N o
 |inr p=>exact E0 h λts e h=>wG h λg1 g2 h7=>jO o λT u z ev tt o1 o2=>ev▸cH e▸pP (tF B Kd G1 3) hA h7 g1 (V9 g2) S N (us:=[u,z]) ⟨u,[z],rfl,o1,z,[],rfl,o2,rfl⟩ (.inl tt)
theorem ag(B:k3 w b)(Kd:Kinds w)(G1:Z4 w b n R)(wA:xI w b n R)(hA:B2 A n){K:KS}{t iter:Expr}{body:List Stmt}{p:Pos}{m:Str->Option Value}(S:M0 w b (cx.put env.locals m) σ.heap rs s.heap (s.os,s.gens))(N:o4 b rs env sc fr m)
 (h:P4 R t iter sc fr σ λl its P0=>U5 R t body sc its fr (E4 l P0) K):wpAny (model E1 w) A (exec (.For t iter body [] p) env) (PS w b cx env sc rs K) E s:=by
 refine wpAny_For (wpAny_mono (RK (t:=t) B G1 hA h S N.ok) (λx U2 Y3=>wpAny_mono Y3 (λit y4 F6=> ?_) λ_ _ x=>x) λ_ _ x=>x) (OC h env);obtain⟨l,its,P0,r1,q1,S1,X1,O1⟩:=F6;exact bN wA (nE B Kd G1) hA q1 S1 (N.ext X1) O1 λf s' z=> .from X1 z
end
section
theorem GU(B:k3 w b)(G1:Z4 w b n R)(wA:xI w b n R)(hA:B2 A n){K:KS}{t:Expr}{body:List Stmt}{p:Pos}{k:Nat}(S:M0 w b (cx.put env.locals m) σ.heap rs s.heap (s.os,s.gens))(N:o4 b rs env sc fr m)
 (h:cI R t body sc k fr σ K):wpAny (model E1 w) A (exec (.While t body [] p) env) (PS w b cx env sc rs K) E s:=by
 refine wpAny_While (codeAny_whileLoop (λj s'=>∃F1 r' m' V8,M0 w b (cx.put env.locals m') F1.heap r' s'.heap (s'.os,s'.gens)/\o4 b r' env sc V8 m'/\Ext rs r'/\cI R t body sc j V8 F1 K) ?_ k ⟨σ,rs,m,fr,S,N,.refl rs,h⟩);intro j s1 B0;refine pB B0 λP0 r1 m1 n9 S1 N1 X1 h1=> ?_;clear B0;cases j with
 |zero=>exact No.no h1
 |succ j=>
  refine wpAny_mono (wI B G1 hA 8 (show OR R 8 t sc n9 P0 (λP0=>R.ex body sc n9 P0 (bj K λq9 M1=>cI R t body sc j q9 M1 K)) (λP0=>K .next n9 P0) from h1) S1 N1.ok) (λr s2 h2=> ?_) λ_ _ x=>x;obtain⟨M1,r2,q2,S2,X2⟩:=h2;cases r with
  |false=>exact wpAny_execs_nil ⟨.next,n9,M1,r2,m1,q2,S2,N1.ext X2,X1.trans X2,trivial⟩
  |true=>
   refine wpAny_mono (wA q2 hA S2 (N1.ext X2)) (λf s3 h3=> ?_) λ_ _ x=>x;obtain⟨g,lj,v5,r3,m3,q3,S3,N3,X3,o3⟩:=h3;have X7:=X1.trans (X2.trans X3);induction g using Fl.casesOn<;>cases f<;>first|exact o3.elim|skip
   .exact⟨j,Nat.lt_succ_self j,v5,r3,m3,lj,S3,N3,X7,q3⟩
   .exact⟨.next,lj,v5,r3,m3,q3,S3,N3,X7,trivial⟩
   .exact⟨j,Nat.lt_succ_self j,v5,r3,m3,lj,S3,N3,X7,q3⟩
   .exact⟨.ret _,lj,v5,r3,m3,q3,S3,N3,X7,o3⟩
theorem bg(wA:xI w b n R)(hA:B2 A n){K:KS}{body:List Stmt}{h0:ExceptHandler}{hs:List ExceptHandler}{p:Pos}(S:M0 w b (cx.put env.locals m) σ.heap rs s.heap (s.os,s.gens))(N:o4 b rs env sc fr m)
 (h:R.ex body sc fr σ K):wpAny (model E1 w) A (exec (.Try body (h0::hs) [] [] p) env) (PS w b cx env sc rs K) E s:=by
 refine wpAny_Try_except (wpAny_mono (wA h hA S N) (λf s1 h1=> ?_) λ_ _ x=>x);cases f with
 |next=>exact wpAny_execs_nil h1
 |_=>exact h1
theorem JG{K:KS}{p:Pos}(S:M0 w b (cx.put env.locals m) σ.heap rs s.heap (s.os,s.gens))(N:o4 b rs env sc fr m)(h:K (.ret .none) fr σ):wpAny (model E1 w) A (exec (.Return none p) env) (PS w b cx env sc rs K) E s:=
 wpAny_Return_none (PS.one S N h rfl)
end
section
variable{w:World}{b:Heap}{n:Nat}{R:Rec}{A:Around}{E:Value->Shared->Prop}{s:Shared}{cx:Cx}{rs:List RO}{env:Env}{sc:Scope}{fr:J2}{σ:St}{m:Str->Option Value}
theorem uH(h:o9 sc O3 ((x,.free)::r)=some cl):∃k i l,(k= .cell\/k= .free)/\lk x sc.names=some k/\lk x O3=some i/\o9 sc O3 r=some l/\cl=(x,i)::l:=u3 h λi e1 h=>u3 h λk e2 h=>by
 induction k using PySem.NameKind.casesOn with
 |cell=>exact B5 h λl e3 h=>⟨_,i,l,.inl rfl,e2,e1,e3,h.symm⟩
 |free=>exact B5 h λl e3 h=>⟨_,i,l,.inr rfl,e2,e1,e3,h.symm⟩
 |_=>exact A0 h
theorem XY(C:D9 rs fr.O3 env.cells)(f:Str×NameKind->List (Str×Addr)->Sem (ForInStep (List (Str×Addr))))
 (hf:∀name kind cells,f (name,kind) cells=if kind== .free then(do let a<-cellOf env name;pure (.yield ((name,a)::cells))) else pure (.yield cells))
 {names:List (Str×NameKind)} {cl:List (Str×Nat)} (h:o9 sc fr.O3 names=some cl) (nd:(names.map (·.1)).Nodup) (acc:List (Str×Addr)):∃cR,forIn names acc f=pure cR/\
  (∀x i,lk x cl=some i->∃a,cR.lookup x=some a/\adr rs i=some a)/\∀x,x∉names.map (·.1)->cR.lookup x=acc.lookup x:=by
 induction names generalizing cl acc with
 |nil=>
  obtain rfl:=si h;exact⟨acc,by rw[List.forIn_nil],(λx i e=>A0 e),λ_ _=>rfl⟩
 |cons p r ih=>
  obtain⟨x,k⟩:=p;refine D0 (H7.mp (show(x::r.map (·.1)).Nodup from nd)) λn1 n2=> ?_;by_cases hk:k= .free
  .subst hk;refine BE (uH h) λ_ i l _ _ hi hl ec=> ?_;subst ec;refine u0 (C x i hi) λa ha hra=>J3 (ih hl n2 ((x,a)::acc)) λcR h1 h2 h3=>⟨cR,?_,λy j e=> ?_,λy hy=> ?_⟩
   .rw[List.forIn_cons,hf,if_pos (by decide)];have:cellOf env x=pure a:=by unfold cellOf;rw[ha]
    rw[this];exact h1
   .rw[d3] at e;induction hx:sq x y using Q2 with
    |true=>
     rw[hx] at e;obtain rfl:=si e;rw[(x6 hx).symm];refine⟨a,?_,hra⟩;rw[h3 x n1,List.lookup_cons];simp
    |false=>rw[hx] at e;exact h2 y j e
   .rw[h3 y (λq=>hy (a5 _ q)),List.lookup_cons];have:¬y=x:=λq=>hy (by rw[q];exact M3);rw[show(y==x)=false from by simpa using this]
  .have Ml:(k==NameKind.free)=false:=by induction k using PySem.NameKind.casesOn<;>first|rfl|exact absurd rfl hk
   have e2:o9 sc fr.O3 ((x,k)::r)=o9 sc fr.O3 r:=by induction k using PySem.NameKind.casesOn<;>first|rfl|exact absurd rfl hk
   rw[e2] at h;refine J3 (ih h n2 acc) λcR h1 h2 h3=>⟨cR,?_,h2,λy hy=>h3 y λq=>hy (a5 _ q)⟩;rw[List.forIn_cons,hf,Ml,if_neg (by decide)];exact h1
theorem uF(C:D9 rs fr.O3 env.cells){Y4:Scope}{cl:List (Str×Nat)}(h:o9 sc fr.O3 Y4.names=some cl)(nd:(Y4.names.map (·.1)).Nodup):∃cR,closureFor Y4 env=pure cR/\D9 rs cl cR:=by
 refine J3 (XY C (λx r=>match x with|(name,kind)=>if kind== .free then(do let a<-cellOf env name;pure (.yield ((name,a)::r))) else pure (.yield r)) (λ_ _ _=>rfl) h nd []) λcR h1 h2 _=> ?_;refine⟨cR,?_,h2⟩;unfold closureFor;have:(forIn Y4.names ([]:List (Str×Addr)) λx r=>match x with|(name,kind)=>if kind==NameKind.free then(do let a<-cellOf env name;pure (.yield ((name,a)::r))) else pure (.yield r))=(pure cR:Sem _):=h1;simp only[pure_bind,bind_pure];exact this
noncomputable def cg(sc:Scope)(y:Str)(k:NameKind):NameKind:=NameKind.casesOn (motive:=λ_=>NameKind) k .local .cell (Ce (lk y sc.names)) .globalExplicit .globalImplicit
theorem dg(hk:env.scope.kind= .function)(hn:∀x k,lk x sc.names=some k->env.kindOf x=some k){y:Str}{k0:NameKind}{r:List (Str×NameKind)}{O3 cl:List (Str×Nat)}(h:o9 sc O3 ((y,k0)::r)=some cl):
 (if(k0== .free&&env.scope.kind== .function&&env.kindOf y==some .cell)=true then(y,NameKind.cell) else(y,k0))=(y,cg sc y k0)/\∃l,o9 sc O3 r=some l:=by
 induction k0 using PySem.NameKind.casesOn with
 |free=>
  refine BE (uH h) λk i l kk hx _ hl _=>⟨?_,l,hl⟩;have e:cg sc y .free=k:=by
   show Ce (lk y sc.names)=k;rw[hx];exact kk.elim (λe=>by rw[e];rfl) λe=>by rw[e];rfl
  rw[e,hn y _ hx,hk];exact kk.elim (λe=>by rw[e];rfl) λe=>by rw[e];rfl
 |_=>exact⟨rfl,cl,h⟩
theorem fg(hk:env.scope.kind= .function)(hn:∀x k,lk x sc.names=some k->env.kindOf x=some k){names:List (Str×NameKind)}{cl:List (Str×Nat)}{x:Str}{k:NameKind}(hc:o9 sc fr.O3 names=some cl)(h:lk x (QD sc names)=some k):
 (names.map λ(n,k)=>if(k== .free&&env.scope.kind== .function&&env.kindOf n==some .cell) then(n,NameKind.cell) else(n,k)).lookup x=some k:=by
 induction names generalizing cl with
 |nil=>exact A0 h
 |cons p r ih=>
  obtain⟨y,k0⟩:=p;refine D0 (dg hk hn hc) λe hl=>Exists.elim hl λl hl=> ?_;have h:lk x ((y,cg sc y k0)::QD sc r)=some k:=h;rw[R6];show List.lookup x ((if(k0== .free&&env.scope.kind== .function&&env.kindOf y==some .cell)=true then(y,NameKind.cell) else(y,k0))::_)=_;rw[e,List.lookup_cons];rw[d3,O7,Bool.beq_comm] at h;induction hx:x==y using Q2 with
  |true=>rw[hx] at h;exact h
  |false=>rw[hx] at h;exact ih hl h
end
section
variable{prog:Program}{w:World}{A:Around}{R:Result->Shared->Prop}{s:Shared}
theorem xA(I:Nat->Shared->Prop)
 (turn:∀n s,I n s->wpAny (model prog w) A (pyNext it) (λr U2=>match r with
  |none=>R (.ok .next) U2
  |some v=>wpAny (model prog w) A (letOwnedTupleGo target it v) (λ_ Cc=>wpAny (model prog w) A (assign target env v) (λ_ y4=>
   wpAny (model prog w) A (forIn ifs true λc r=>if r=true then do let ok<-isTrue c env (eval c env);pure (ForInStep.yield ok) else pure (ForInStep.yield r)) (λok P7=>
    if ok=true then wpAny (model prog w) A (eval elt env) (λx CM=>
     wpAny (model prog w) A (call (.builtin "list.append") [acc,x]) (λ_ bf=>∃m,m<n/\I m bf) (notedBy (model prog w) A env λe s'=>R (.error e) s') CM) (notedBy (model prog w) A env λe s'=>R (.error e) s') P7
    else∃m,m<n/\I m P7) (notedBy (model prog w) A env λe s'=>R (.error e) s') y4) (notedBy (model prog w) A env λe s'=>R (.error e) s') Cc) (notedBy (model prog w) A env λe s'=>R (.error e) s') U2) (notedBy (model prog w) A env λe s'=>R (.error e) s') s)
 (n:Nat) (h:I n s):
 codeAny (model prog w) A (.compLoop (.ListComp elt [⟨target,iter,ifs,0⟩] scope pos) 0 it acc env) R s:=by
 refine codeAny_loop rfl I (λn s hI=> ?_) n h;show wpAny _ A ((compTurn (.ListComp elt [⟨target,iter,ifs,0⟩] scope pos) 0 it acc env).onRaise (λx=>do noteFrame x env;theTreesLotGoes x)) _ _ s;refine wpAny_noted ?_;rw[compTurn_list];refine wpAny_bind (wpAny_standAt (wpAny_bind (wpAny_mono (turn n s hI) (λr U2 Y3=> ?_) λ_ _ h'=>h')));induction r using opQ with
 |none=>exact wpAny_pure Y3
 |some v=>
  refine wpAny_bind (wpAny_mono Y3 (λ_ Cc Cm=> ?_) λ_ _ h'=>h');refine wpAny_bind (wpAny_mono Cm (λ_ y4 F6=>wpAny_bind (wpAny_mono F6 (λok P7 mK=> ?_) λ_ _ h'=>h')) λ_ _ h'=>h');induction ok using Q2 with
  |false=>exact wpAny_pure ⟨rfl,mK⟩
  |true=>
   exact wpAny_bind (wpAny_bind (wpAny_mono mK (λx CM cw=>wpAny_bind (wpAny_mono cw (λ_ bf dw=>wpAny_pure (wpAny_pure ⟨rfl,dw⟩)) λ_ _ h'=>h')) λ_ _ h'=>h'))
end
section
variable{w:World}{b h h':Heap}{n:Nat}{R:Rec}{A:Around}{E:Value->Shared->Prop}{s:Shared}{cx cxA cxB:Cx}{rs rsA UK:List RO}{env:Env}{sc:Scope}{fr:J2}{σ:St}{m:Str->Option Value}{H HA HB:List n0}
theorem Still.two(x:Still b cx rs c)(S:M0 w b cxA HA rsA h og)(S':M0 w b cxB HB UK h' qm)(XA:Ext rs rsA)(XB:Ext rs UK)(oA:∀p∈cx.os,p∈cxA.os)(oB:∀p∈cx.os,p∈cxB.os)(e:h.get? c=some o):h'.get? c=some o:=by
 refine O0 x λo' q=> ?_;clear x;have e1:=Still.get S (q.imp (MA.ext XA) (Or.imp (oA _) λz=>⟨XA.tup _ _ z.1 z.2,z.2⟩));rw[e] at e1;obtain rfl:=si e1;exact Still.get S' (q.imp (MA.ext XB) (Or.imp (oB _) λz=>⟨XB.tup _ _ z.1 z.2,z.2⟩))
theorem Still.Dm(S:M0 w b ⟨fs,(a,o)::cx.os,cx.og⟩ H rs h og)(x:Still b cx rs a):False:=by
 refine O0 x λo' q=> ?_;clear x;have hb:=(S.at_ (a,o) (by simp)).2;have nd:(fs.map (·.1)++(a::(cx.os++led rs).map (·.1))).Nodup:=by
  have:(fs.map (·.1)++(((a,o)::cx.os)++led rs).map (·.1)).Nodup:=S.nd;simpa using this
 have n1:=(H7.mp (gD.mp nd).2.1).1;rcases q with(q|q)|q|q
 .rw[hb] at q;exact A0 q
 .exact n1 (d5 (f:=(·.1)) (u5 _ (j4 q)))
 .exact n1 (d5 (f:=(·.1)) (o7 _ q))
 .exact n1 (d5 (f:=(·.1)) (u5 _ q.1))
theorem M0.Em{fs:List (Addr×(Str->Option Value))}{os:List (Addr×Obj)}{a:Addr}{o o':Obj}(S:M0 w b ⟨fs,(a,o)::os,go⟩ H rs h og)(hs:Heap.SameBut a h h')(g:h'.get? a=some o'):M0 w b ⟨fs,(a,o')::os,go⟩ H rs h' og:=by
 have e:fs.map (·.1)++(((a,o)::os)++led rs).map (·.1)=fs.map (·.1)++a::(os++led rs).map (·.1):=by simp
 have nd:(fs.map (·.1)++(((a,o)::os)++led rs).map (·.1)).Nodup:=S.nd;have cK:=nd;rw[e] at nd;refine D0 (H7.mp (List.perm_middle.nodup_iff.mp nd)) λn1 n2=> ?_;have hb:=(S.at_ (a,o) (by simp)).2;refine⟨λp q z=>(hs.2 p λy=>by rw[y,hb] at z;exact A0 z).trans (S.keep p q z),λp hp=> ?_,λp hp=> ?_,cK,S.len,by rw[hs.1];exact S.big,S.tab,S.ok⟩
 .have:=S.ns p hp;exact⟨this.1.sameBut hs λq=>n1 (o7 _ (q▸d5 hp)),this.2⟩
 .rcases M4.mp hp with rfl|hp
  .exact⟨g,hb⟩
  .have:=S.at_ p (a5 _ hp);exact⟨(hs.2 p.1 λq=>n1 (u5 _ (q▸d5 hp))).trans this.1,this.2⟩
noncomputable abbrev lo(us:List Value)(k:Nat):Obj:={cls:= .type "list",data:= .seq us.toArray k}
noncomputable def Cx.cmp(cx:Cx)(D:Addr)(us:List Value)(k:Nat)(L:Addr)(m:Str->Option Value):Cx:=⟨(L,m)::cx.fs,(D,lo us k)::cx.os,cx.og⟩
inductive Fm(w:World)(b:Heap)(cx:Cx)(rs:List RO)(env:Env)(sc:Scope)(R:Rec)(elt t:Expr)(ifs:List Expr)(its:List w5)(Q:List V->Mine.Internal.St->Prop)(D:Addr)(ow:List Addr)(St:Nat->Heap->Prop)(j:Nat)(s':Shared):Prop
 |mk (i:Nat) (F1:Mine.Internal.St) (r':List RO) (m':Str->Option Value) (V8:J2) (acc:List V) (us:List Value) (k:Nat) (hi:i<=its.length) (hj:j=its.length -i) (S:M0 w b (cx.cmp D us k env.locals m') F1.heap r' s'.heap (s'.os,s'.gens)) (N:o4 b r' env sc V8 m') (X:Ext rs r')
  (h:F4 R elt t ifs sc (its.drop i) V8 F1 acc Q) (st:St i s'.heap) (own:∀c∈ow,Own b (cx.cmp D us k env.locals m') r' c) (ov:V0 b r' acc us) (hu:us.length<=i)
section
variable{elt t:Expr}{ifs:List Expr}{its:List w5}{Q:List V->Mine.Internal.St->Prop}{D I:Addr}{fp wr ow:List Addr}{P Md:Nat->Value->Heap->Prop}{St:Nat->Heap->Prop}{h0 h3:Heap}{KG r1 r':List RO}{l:List (Addr×Obj)}{us:List Value}{i k:Nat}{m1 m4:Str->Option Value}{P0 F1:Mine.Internal.St}{s':Shared}{acc:List V}{AU:J2}{og:OG}
theorem comp_back(O:lP w b A t cx KG its I h0 fp wr ow P Md St)(hl:l.map (·.1)=ow)(zU:∀p∈l,h3.get? p.1=some p.2)(yU:St (i+1) h3)(S3:M0 w b (cx.cmp D us k env.locals m1) P0.heap r1 h3 og)(pX:Ext KG r1)(X:Ext r1 r')
 (S:M0 w b ((⟨cx.fs,l++(D,lo us k)::cx.os,cx.og⟩:Cx).put env.locals m4) F1.heap r' s'.heap (s'.os,s'.gens)):M0 w b (cx.cmp D us k env.locals m4) F1.heap r' s'.heap (s'.os,s'.gens)/\(∀c∈ow,Own b (cx.cmp D us k env.locals m4) r' c)/\St (i+1) s'.heap:=by
 refine R2 (M0.ZM (cx:=cx.cmp D us k env.locals m4) S) λS7 II Wv=>⟨S7,λc hc=> ?_,O.W.frame _ _ _ yU λc hc o e=> ?_⟩
 .exact u0 (z5.mp (hl▸hc:c∈l.map (·.1))) λp hp z=>z▸II p hp
 .rcases O.nF c hc with hw|hs
  .refine u0 (z5.mp (hl▸hw:c∈l.map (·.1))) λp hp z=> ?_;rw[<-z] at e⊢;exact si ((zU p hp).symm.trans e)▸Wv p hp
  .exact hs.two S3 S7 pX (pX.trans X) (λ_ z=>a5 _ z) (λ_ z=>a5 _ z) e
theorem vH(G1:Z4 w b n R)(hA:B2 A n)(hlen:its.length<=1000)(Y8:i<its.length)(hu:us.length<=i)(X1:Ext rs r1)(ov:V0 b r1 acc us)(O:lP w b A t cx KG its I h0 fp wr ow P Md St)(hl:l.map (·.1)=ow)(zU:∀p∈l,h3.get? p.1=some p.2)(yU:St (i+1) h3)(S3:M0 w b (cx.cmp D us k env.locals m1) P0.heap r1 h3 og)(pX:Ext KG r1)(X:Ext r1 r')
 (S:M0 w b ((⟨cx.fs,l++(D,lo us k)::cx.os,cx.og⟩:Cx).put env.locals m4) F1.heap r' s'.heap (s'.os,s'.gens)) (N:o4 b r' env sc AU m4) (q:R.ev elt sc AU F1 λv v5=>F4 R elt t ifs sc (its.drop (i+1)) AU v5 (acc++[v]) Q):
 wpAny (model E1 w) A (eval elt env) (λx CM=>wpAny (model E1 w) A (call (.builtin "list.append") [.ref D,x]) (λ_ s5=>∃j',j'<its.length -i/\Fm w b cx rs env sc R elt t ifs its Q D ow St j' s5) E CM) E s':=by
 refine wpAny_mono (G1 q hA S N.ok) (λx s6 h6=> ?_) λ_ _ x=>x;obtain⟨v6,LX,r6,q6,S6,X6,o6⟩:=h6;refine R2 (comp_back O hl zU yU S3 pX (X.trans X6) S6) λS7 II ew=> ?_;have g7:s6.heap.get? D=some (lo us k):=(S7.at_ (D,lo us k) M3).1;refine append_at (hsz:=by rw[sizeLine_eq];simp;lia) g7 λh8 hs8 g8=> ?_;have g8':h8.get? D=some (lo (us++[x]) (k+1)):=by rw[g8];simp
 have S8:M0 w b (cx.cmp D (us++[x]) (k+1) env.locals m4) LX.heap r6 h8 _:=S7.Em hs8 g8';refine⟨its.length -(i+1),Nat.sub_succ_lt_self _ _ Y8,i+1,LX,r6,m4,AU,acc++[v6],us++[x],k+1,Y8,rfl,S8,N.ext X6,X1.trans (X.trans X6),q6,O.W.frame _ _ _ ew λc hc o e=> ?_,λc hc=>⟨(II c hc).base,(II c hc).free⟩,V0.append ((ov.ext X).ext X6) (V0.cons o6 rfl),by rw[o8];exact Nat.succ_le_succ hu⟩;refine(hs8.2 c λhcD=> ?_).trans e;rw[hcD] at hc;rcases O.nF D hc with hw|hs
 .exact(II D hw).free (u5 _ M3)
 .exact(Still.Dm (cx:=cx) S7 (hs.ext (pX.trans (X.trans X6)) λ_ z=>z)).elim
end
theorem WK(B:k3 w b)(G1:Z4 w b n R)(eN:oF w b n R)(hA:B2 A n){elt t iter:Expr}{ifs:List Expr}{scope:Scope}{pos:Pos}{its:List w5}{Q:List V->St->Prop}{D I:Addr}{fp wr ow:List Addr}{P Md:Nat->Value->Heap->Prop}{St:Nat->Heap->Prop}{h0:Heap}{KG:List RO}{Φ:Result->Shared->Prop}
 (h:F4 R elt t ifs sc its fr σ [] Q) (hlen:its.length<=1000) (O:lP w b A t cx KG its I h0 fp wr ow P Md St) (st:St 0 s.heap) (X0:Ext KG rs)
 (S:M0 w b (cx.cmp D [] 0 env.locals m) σ.heap rs s.heap (s.os,s.gens)) (N:o4 b rs env sc fr m) (own:∀c∈ow,Own b (cx.cmp D [] 0 env.locals m) rs c)
 (jY:∀vs us F1 rs' m' k s',Q vs F1->M0 w b (cx.cmp D us k env.locals m') F1.heap rs' s'.heap (s'.os,s'.gens)->Ext rs rs'->V0 b rs' vs us->Φ (.ok .next) s'):
 codeAny (model E1 w) A (.compLoop (.ListComp elt [⟨t,iter,ifs,0⟩] scope pos) 0 (.ref I) (.ref D) env) Φ s:=by
 refine xA (Fm w b cx rs env sc R elt t ifs its Q D ow St) (λj s1 z=> ?_) its.length ⟨0,σ,rs,m,fr,[],[],0,Nat.zero_le _,rfl,S,N,.refl rs,h,st,own,rfl,j6 _⟩;obtain⟨i,P0,r1,m1,n9,acc,us,k,hi,hj,S1,N1,X1,h1,Tf,iN,Rt,hu⟩:=z;rw[hj];by_cases Y8:i<its.length
 .refine O.W.item i _ _ _ Y8 Tf λv h2 sm md Vf=>O.W.go i v _ _ _ md λh3 hP yU Bl=> ?_;have S3:M0 w b (cx.cmp D us k env.locals m1) P0.heap r1 h3 _:=S1.off M3 N1.above iN λa o ha e=>Bl a o (λz=>ha (O.zc _ z)) (Vf a o (λz=>ha (O.zc _ z)) e);refine u0 (aN (O.alive (i+1) h3 yU)) λl hl zU=> ?_;have S4:M0 w b ((⟨cx.fs,l++(D,lo us k)::cx.os,cx.og⟩:Cx).put env.locals m1) P0.heap r1 h3 _:=S3.YM (hl▸O.nd) (λp hp=>iN _ (hl▸d5 hp)) zU;have e:its.drop i=its[i]::its.drop (i+1):=List.drop_eq_getElem_cons Y8;rw[e] at h1;have pX:=X0.trans X1;refine wpAny_mono (eN (K:=λn9 P0=>Rk R elt ifs sc n9 acc (λBe M1=>F4 R elt t ifs sc (its.drop (i+1)) n9 M1 Be Q) P0) h1 hA (s:={s1 with heap:=h3,toks:=sm}) S4 N1 ((O.items i v h3 _ hP (by simp[Y8])).ext pX)) (λ_ s4 h4=> ?_) λ_ _ x=>x;obtain⟨AU,vC,r4,m4,q4,S5,N5,X5⟩:=h4;induction ifs using H5 with
  |nil=>exact wpAny_tests_nil (by rw[if_pos rfl];exact vH G1 hA hlen Y8 hu X1 Rt O hl zU yU S3 pX X5 S5 N5 q4)
  |cons c ifs=>
   induction ifs using H5 with
   |nil=>
    refine wpAny_tests_one (wpAny_mono (wI B G1 hA 8 (show OR R 8 c sc AU vC (λM1=>R.ev elt sc AU M1 λv v5=>F4 R elt t [c] sc (its.drop (i+1)) AU v5 (acc++[v]) Q) (λM1=>F4 R elt t [c] sc (its.drop (i+1)) AU M1 acc Q) from q4) S5 N5.ok) (λr s6 h6=> ?_) λ_ _ x=>x);obtain⟨LX,r6,q6,S6,X6⟩:=h6;have Tt:=X5.trans X6;induction r using Q2 with
    |true=>rw[if_pos rfl];exact vH G1 hA hlen Y8 hu X1 Rt O hl zU yU S3 pX Tt S6 (N5.ext X6) q6
    |false=>
     rw[if_neg Bool.false_ne_true];exact R2 (comp_back O hl zU yU S3 pX Tt S6) λS7 II ew=>⟨its.length -(i+1),Nat.sub_succ_lt_self _ _ Y8,i+1,LX,r6,m4,AU,acc,us,k,Y8,rfl,S7,N5.ext X6,X1.trans Tt,q6,ew,II,Rt.ext Tt,Nat.le_succ_of_le hu⟩
   |cons _ _=>exact No.no q4
 .have ie:i=its.length:=Nat.le_antisymm hi (gB.mp Y8);rw[ie] at h1 Tf;rw[List.drop_length] at h1;refine O.W.done _ _ _ Tf λh2 sm Vf=> ?_;have S3:M0 w b (cx.cmp D us k env.locals m1) P0.heap r1 h2 _:=S1.off M3 N1.above iN λa o ha e=>Vf a o (λz=>ha (O.zc _ z)) e;exact jY acc us P0 r1 m1 k _ h1 S3 X1 Rt
end
section
theorem HU
 (hQ:Q (newEnv scope s.heap.objs.size env.globals (cellsFrom (s.heap.objs.size+1) scope.names cR) env.qual none .none (some env) builtinsNs) {s with heap:=pushCells (s.heap.push {cls:= .type "dict",data:= .dict #[]}) scope.names}):
 wpAny M A (newFunctionEnv scope env.globals cR [] env.qual none .none (some env)) Q E s:=by
 simp only[newFunctionEnv,Option.isSome_some,if_true];refine wpAny_bind (wpAny_alloc ?_);refine wpAny_bind (wpAny_layCells _ (λname kind cells=>by cases hkc:kind==NameKind.cell<;>simp[hkc]) _ _ _ _ ?_);rw[show({s with heap:=s.heap.push {cls:= .type "dict",data:= .dict #[]}}:Shared).heap.objs.size=s.heap.objs.size+1 from Heap.size_push ..];rw[List.forIn_nil];exact wpAny_bind (wpAny_pure (wpAny_pure hQ))
theorem IU:(QD sc names).map (·.1)=names.map (·.1):=by
 unfold QD;rw[yC];rfl
theorem M0.leave(S:M0 w b (cx.put L m) H rs h og)(hs:Heap.SameBut L h h'):M0 w b cx H rs h' og:=by
 have nd:(L::(cx.fs.map (·.1)++(cx.os++led rs).map (·.1))).Nodup:=S.nd;have n1:=(H7.mp nd).1;have hb:=(S.ns (L,m) M3).2;have S':=S.left;refine⟨λp q z=>(hs.2 p λy=>by rw[y,hb] at z;exact A0 z).trans (S.keep p q z),λp hp=> ?_,λp hp=> ?_,S'.nd,S.len,by rw[hs.1];exact S.big,S.tab,S.ok⟩
 .have:=S'.ns p hp;exact⟨this.1.sameBut hs λq=>n1 (o7 _ (q▸d5 hp)),this.2⟩
 .have:=S'.at_ p hp;exact⟨(hs.2 p.1 λq=>n1 (u5 _ (q▸d5 hp))).trans this.1,this.2⟩
theorem KI(h:NX Y4=true):Y4.kind= .function/\(Y4.names.map (·.1)).Nodup/\("__debug__":Str)∉Y4.names.map (·.1)/\("__classdict__":Str)∉Y4.names.map (·.1):=by
 refine R1 h λh h4=>R1 h λh h3=>R1 h λh1 h2=>⟨?_,aF h2,F9 h3,F9 h4⟩;cases e:Y4.kind<;>rw[e] at h1<;>first|rfl|exact G2 h1
theorem XK(B:k3 w b)(G1:Z4 w b n R)(eN:oF w b n R)(hA:B2 A n){elt t iter:Expr}{ifs:List Expr}{Y4:Scope}{pos:Pos}{cR:List (Str×Addr)}{cl:List (Str×Nat)}{Q:K1}{use:Option (Value->Sem Unit)}{Φ:Value->Shared->Prop}
 (h:P4 R t iter sc fr σ λl its P0=>gd (Nat.ble its.length 1000) (F4 R elt t ifs {Y4 with names:=QD sc Y4.names} its ⟨[],(Q4 [] Y4.names cl (E4 l P0)).1⟩ (Q4 [] Y4.names cl (E4 l P0)).2 [] λvs v5=>Q (.ref v5.new) (v5.push (.lst vs))))
 (hB:NX Y4=true) (hc:o9 sc fr.O3 Y4.names=some cl) (hR:∀r,Ext rs r->D9 r cl cR) (S:M0 w b cx σ.heap rs s.heap (s.os,s.gens)) (N:W3 b cx rs env sc fr)
 (Gm:∀{a:V}{F1 rs' m' C D s'},Q a F1->M0 w b (cx.put C m') F1.heap rs' s'.heap (s'.os,s'.gens)->Ext rs rs'->E2 b rs' a (.ref D)->compPost (model E1 w) A E use Φ (.ref D) C (.ok .next) s'):
 wpAny (model E1 w) A (eval iter env) (λx U2=>wpAny (model E1 w) A (pyIter x) (λit y4=>wpAny (model E1 w) A (newList []) (λacc P7=>
  wpAny (model E1 w) A (newFunctionEnv Y4 env.globals cR [] env.qual none .none (some env)) (λHm CM=>
   codeAny (model E1 w) A (.compStart (.ListComp elt [⟨t,iter,ifs,0⟩] Y4 pos) 0 it acc {Hm with scope:=relabel Y4 env}) (compPost (model E1 w) A E use Φ acc Hm.locals) CM) E P7) E y4) E U2) E s:=by
 refine kD (KI hB) λb1 b2 b3 b4=> ?_;refine wpAny_mono (RK (t:=t) B G1 hA h S N) (λx U2 Y3=>wpAny_mono Y3 (λit y4 F6=> ?_) λ_ _ x=>x) λ_ _ x=>x;obtain⟨l,its,P0,r1,q1,S1,X1,I,fp,wr,ow,P,Md,St,rfl,O⟩:=F6;refine D0 (iH q1) λg1 q1=> ?_;refine wpAny_newObj_type (HU ?_);dsimp only
 generalize fw:y4.heap.push {cls:= .type "list",dict:=none,data:= .seq ([]:List Value).toArray}=H2
 have hC:H2.objs.size=y4.heap.objs.size+1:=by rw[fw.symm,Heap.size_push]
 have k2:∀a o,y4.heap.get? a=some o->H2.get? a=some o:=λa o e=>by rw[fw.symm];exact Heap.get?_push_of_some _ e
 have SD:M0 w b ⟨cx.fs,(y4.heap.objs.size,lo [] 0)::cx.os,cx.og⟩ (E4 l P0).heap r1 H2 _:=S1.yc k2 (by rw[hC];exact Nat.le_succ _) (j6 _) (by rw[fw.symm];exact Heap.get?_push_size _ rfl);have Im:∀c∈ow,c<y4.heap.objs.size:=λc hc=>by refine O0 (O.alive 0 _ O.st c hc) λo ho=> ?_;exact Heap.lt_size ho
 refine u0 (aN (h:=y4.heap) (wr:=ow) λc hc=>O.alive 0 _ O.st c hc) λlw gw Jm=> ?_;have Ut:M0 w b ⟨cx.fs,lw++(y4.heap.objs.size,lo [] 0)::cx.os,cx.og⟩ (E4 l P0).heap r1 H2 _:=SD.YM (gw▸O.nd) (λp hp=>by
  have W7:p.1∈ow:=gw▸d5 hp;refine⟨(O.own _ W7).base,λhm=> ?_⟩;rcases R5.mp hm with hm|hm
  .exact(O.own _ W7).free (o7 _ hm)
  .rcases M4.mp (show p.1∈y4.heap.objs.size::(cx.os++led r1).map (·.1) from hm) with e|hm
   .exact Nat.ne_of_lt (Im _ W7) e
   .exact(O.own _ W7).free (u5 _ hm)) λp hp=>k2 _ _ (Jm p hp)
 have kF:∀a o,H2.get? a=some o->(pushCells (H2.push {cls:= .type "dict",data:= .dict #[]}) Y4.names).get? a=some o:=λa o e=>pushCells_keeps _ _ a o (Heap.get?_push_of_some _ e);have hns:(pushCells (H2.push {cls:= .type "dict",data:= .dict #[]}) Y4.names).Ns H2.objs.size (λ_=>none):=(Heap.Ns.new H2 (.type "dict")).keeps (pushCells_keeps _ _);have SF:=Ut.frame kF hns;have ok:=cellsFrom_ok Y4.names (H2.push {cls:= .type "dict",data:= .dict #[]}) (H2.objs.size+1) [] ⟨λ_ _ hm=>(nomatch hm),List.Pairwise.nil⟩ (by rw[Heap.size_push];exact j6 _);rw[Heap.size_push] at ok;obtain⟨r2,S2',X2,C2⟩:=AK (bs:=[]) (names:=Y4.names) (n:=H2.objs.size+1) (acc:=cl) (cacc:=cR) SF (λp hp=>by
  rcases M4.mp hp with rfl|hp
  .exact Nat.lt_succ_self _
  .exact Nat.lt_succ_of_lt (Ut.ns p hp).1.lt) (λp hp=>Nat.lt_succ_of_lt (Ut.lt hp)) (Nat.le_succ_of_le Ut.big.1) (λy c hy=>by
  refine u0 ((ok.empty y c hy).1) λo e1 e2=> ?_;exact⟨o,none,e1,e2,trivial⟩) (hR r1 X1)
 refine R2 (M0.ZM (cx:=cx.cmp y4.heap.objs.size [] 0 H2.objs.size λ_=>none) S2') λS2 iw _=> ?_;have st2:St 0 (pushCells (H2.push {cls:= .type "dict",data:= .dict #[]}) Y4.names):=O.W.frame _ _ _ O.st λc _ o e=>kF _ _ (k2 _ _ e);have N2:o4 b r2 {newEnv Y4 H2.objs.size env.globals (cellsFrom (H2.objs.size+1) Y4.names cR) env.qual none .none (some env) builtinsNs with scope:=relabel Y4 env} {Y4 with names:=QD sc Y4.names} ⟨[],(Q4 [] Y4.names cl (E4 l P0)).1⟩ (λ_=>none):=by
  refine⟨b1,λx k e=> ?_,N.glob,N.blt,SD.big.1,(λx a e=>by exact A0 e),C2⟩;have hm:x∈Y4.names.map (·.1):=by rw[(IU (sc:=sc)).symm];exact d5 (f:=(·.1)) (u7 e)
  exact⟨fg N.fn (λx k e=>(N.names x k e).1) hc e,beq_eq_false_iff_ne.mpr λq=>b3 (q▸hm),beq_eq_false_iff_ne.mpr λq=>b4 (q▸hm)⟩
 have jw:∀c∈ow,Own b (cx.cmp y4.heap.objs.size [] 0 H2.objs.size λ_=>none) r2 c:=λc hc=>by
  refine u0 (z5.mp (gw▸hc:c∈lw.map (·.1))) λp hp B0=> ?_;subst B0;exact iw p hp
 have loop:∀P7:Shared,P7.heap=pushCells (H2.push {cls:= .type "dict",data:= .dict #[]}) Y4.names->P7.os=y4.os->P7.gens=y4.gens->codeAny (model E1 w) A (.compLoop (.ListComp elt [⟨t,iter,ifs,0⟩] Y4 pos) 0 (.ref I) (.ref y4.heap.objs.size) {newEnv Y4 H2.objs.size env.globals (cellsFrom (H2.objs.size+1) Y4.names cR) env.qual none .none (some env) builtinsNs with scope:=relabel Y4 env})
  (compPost (model E1 w) A E use Φ (.ref y4.heap.objs.size) H2.objs.size) P7:=λP7 e3 e4 e5=>by
  refine WK B G1 eN hA (env:={newEnv Y4 H2.objs.size env.globals (cellsFrom (H2.objs.size+1) Y4.names cR) env.qual none .none (some env) builtinsNs with scope:=relabel Y4 env}) q1 (v9 g1) O (e3▸st2) X2 (m:=λ_=>none) (by rw[e3,e4,e5];exact S2) N2 jw λvs us F1 rs' m' k s' q SS XX oo=> ?_;have X3:=Ext.push rs' (.one y4.heap.objs.size (lo us k));have ST:=M0.wU (cx:=cx.put H2.objs.size m') (x:= .lst vs) SS (Heap.SameBut.refl ..) (SS.at_ (y4.heap.objs.size,lo us k) M3).1 ⟨_,us,k,rfl,oo.ext X3⟩;refine Gm (F1:=F1.push (.lst vs)) q ST (((X1.trans X2).trans XX).trans X3) ⟨y4.heap.objs.size,?_,rfl⟩;show adr _ F1.heap.length=_;rw[SS.len];exact j7 rs' _
 exact codeAny_compStart_list (loop _ rfl rfl rfl) (O.self _ _ _ st2 (loop _ rfl rfl rfl))
end
section
theorem YK:∀{l:List (Str×α)}{x:Str}{k:α},(l.map (·.1)).Nodup->(x,k)∈l->l.lookup x=some k
 |(y,k0)::r,x,k,nd,hm=>by
  refine D0 (H7.mp (show(y::r.map (·.1)).Nodup from nd)) λn1 n2=> ?_;rw[List.lookup_cons];rcases M4.mp hm with e|hm
  .cases e;simp
  .have:¬x=y:=λe=>n1 (by rw[e.symm];exact d5 (f:=(·.1)) hm);rw[show(x==y)=false from by simpa using this];exact YK n2 hm
theorem vF{Y4:Scope}(nd:(Y4.names.map (·.1)).Nodup):∀x∈Y4.names,x.2= .local->Y4.names.lookup x.1=some .local:=λx hx e=>by
 have:(x.1,x.2)∈Y4.names:=hx;rw[e] at this;exact YK nd this
theorem wD(h:eH R elt gs Y4 sc fr σ Q):∃t iter ifs cl,gs=[⟨t,iter,ifs,0⟩]/\NX Y4=true/\o9 sc fr.O3 Y4.names=some cl/\
 P4 R t iter sc fr σ λl its P0=>gd (Nat.ble its.length 1000) (F4 R elt t ifs {Y4 with names:=QD sc Y4.names} its ⟨[],(Q4 [] Y4.names cl (E4 l P0)).1⟩ (Q4 [] Y4.names cl (E4 l P0)).2 [] λvs v5=>Q (.ref v5.new) (v5.push (.lst vs))):=by
 refine E0 h λg e h=>wG h λg1 g2 h=>E0 h λcl e2 h=> ?_;obtain⟨t,iter,ifs,a⟩:=g;have ha:a=0:=of_decide_eq_true g2;subst ha;exact⟨t,iter,ifs,cl,A8 e,g1,e2,h⟩
theorem xD(B:k3 w b)(G1:Z4 w b n R)(eN:oF w b n R)(hA:B2 A n){elt:Expr}{gs:List Comprehension}{Y4:Scope}{pos:Pos}{Q:K1}(h:eH R elt gs Y4 sc fr σ Q)(S:M0 w b cx σ.heap rs s.heap (s.os,s.gens))(N:W3 b cx rs env sc fr):
 wpAny (model E1 w) A (eval (.ListComp elt gs Y4 pos) env) (PV w b cx rs Q) E s:=by
 refine pB (wD h) λt iter ifs cl B0=> ?_;subst B0;intro hB hc h;refine kD (KI hB) λb1 b2 b3 b4=> ?_;refine u0 (uF N.O3 hc b2) λcR mw CR=> ?_;rw[eval_ListComp];refine wpAny_comprehension_free (use:=none) rfl (OC h env) mw b1 (vF b2) ?_;refine XK (use:=none) B G1 eN hA h hB hc (λr X=>CR.ext X) S N λ{a F1 rs' m' C D s'} q S' X' o=> ?_;exact⟨m',(S'.ns (C,m') M3).1,λh' RD=>⟨a,F1,rs',q,S'.leave RD,X',o⟩⟩
theorem M0.Dc{p q:Addr×(Str->Option Value)}{fs:List (Addr×(Str->Option Value))}{os:List (Addr×Obj)}(S:M0 w b ⟨p::q::fs,os,go⟩ H rs h og):M0 w b ⟨q::p::fs,os,go⟩ H rs h og:=by
 refine⟨S.keep,λx hx=>S.ns x ?_,S.at_,?_,S.len,S.big,S.tab,S.ok⟩
 .rcases M4.mp hx with rfl|hx
  .exact a5 _ M3
  .rcases M4.mp hx with rfl|hx
   .exact M3
   .exact a5 _ (a5 _ hx)
 .have nd:(p.1::q.1::(fs.map (·.1)++(os++led rs).map (·.1))).Nodup:=S.nd;exact(List.Perm.swap q.1 p.1 _).nodup_iff.mp nd
theorem JU(h:iS t=none):swapsWith (.ListComp elt gs Y4 cp) (some t) l env=pure false:=by induction t using PySem.Expr.casesOn<;>first|rfl|exact MR h
theorem I8(B:k3 w b)(Kd:Kinds w)(G1:Z4 w b n R)(hA:B2 A n){K:KS}{t elt:Expr}{gs:List Comprehension}{Y4:Scope}{cp pos:Pos}(S:M0 w b (cx.put env.locals m) σ.heap rs s.heap (s.os,s.gens))(N:o4 b rs env sc fr m)(ht:isStar t=false)
 (h:eH R elt gs Y4 sc fr σ λv P0=>asg R 4 t v sc fr P0 λq9 M1=>K .next q9 M1) (KU:swapsWith (.ListComp elt gs Y4 cp) (some t) pos.line env=pure false):
 wpAny (model E1 w) A (exec (.Assign [t] (.ListComp elt gs Y4 cp) pos) env) (PS w b cx env sc rs K) E s:=by
 refine WO ht (wpAny_mono (xD B G1 (nE B Kd G1) hA h S N.ok) (λv U2 Y3=> ?_) λ_ _ x=>x) KU (by induction t using PySem.Expr.casesOn<;>rfl);obtain⟨a,P0,r1,q1,S1,X1,o1⟩:=Y3;refine wpAny_mono (tF B Kd G1 4 q1 hA S1 (N.ext X1) o1) (λ_ y4 F6=> ?_) λ_ _ x=>x;obtain⟨q9,M1,r2,m2,q2,S2,N2,X2⟩:=F6;exact⟨.next,q9,M1,r2,m2,q2,S2,N2,X1.trans X2,trivial⟩
theorem LG(B:k3 w b)(Kd:Kinds w)(G1:Z4 w b n R)(hA:B2 A n){K:KS}{t elt:Expr}{gs:List Comprehension}{Y4:Scope}{cp pos:Pos}(S:M0 w b (cx.put env.locals m) σ.heap rs s.heap (s.os,s.gens))(N:o4 b rs env sc fr m)
 (h:gd (!isStar t) (eH R elt gs Y4 sc fr σ λv P0=>asg R 4 t v sc fr P0 λq9 M1=>K .next q9 M1)):
 wpAny (model E1 w) A (exec (.Assign [t] (.ListComp elt gs Y4 cp) pos) env) (PS w b cx env sc rs K) E s:=by
 refine U3 h λg h=> ?_;have ht:isStar t=false:=by simpa using g
 induction et:iS t using opQ with
 |none=>exact I8 B Kd G1 hA S N ht h (JU et)
 |some np=>
  have e:=aH et;have KU:∃bb,swapsWith (.ListComp elt gs Y4 cp) (some (.Name np.1 np.2)) pos.line env=pure bb:=⟨_,rfl⟩;refine O0 KU λbb KU=> ?_;rw[e] at h ht⊢;clear et e
  generalize np.1=x at h ht KU⊢
  generalize np.2=p at h ht KU⊢
  induction bb using Q2 with
  |false=>exact I8 B Kd G1 hA S N ht h KU
  |true=>
   refine pB (wD h) λt iter ifs cl B0=> ?_;subst B0;intro hB hc h;refine kD (KI hB) λb1 b2 b3 b4=> ?_;refine u0 (uF (N.ok (cx:=cx)).O3 hc b2) λcR mw CR=> ?_;rw[exec_Assign_Name_used _ _ _ _ KU];refine wpAny_bind (wpAny_standAt (wpAny_bind ?_));show wpAny _ A (do let _<-comprehension (.ListComp elt [⟨t,iter,ifs,0⟩] Y4 cp) Y4 env _ (newList []) false (eval iter env) (some (assign (.Name x p) env))) _ _ s;refine wpAny_bind (wpAny_mono (wpAny_comprehension_free (use:=some (assign (.Name x p) env)) (Q:=λ_ s'=>PS w b cx env sc rs K .next s') rfl (OC h env) mw b1 (vF b2) ?_) (λ_ s' hq=>wpAny_pure (wpAny_pure hq)) λ_ _ e=>e);refine XK (use:=some (assign (.Name x p) env)) (cx:=cx.put env.locals m) (Q:=λv P0=>asg R 4 (.Name x p) v sc fr P0 λq9 M1=>K .next q9 M1) B G1 (nE B Kd G1) hA h hB hc (λr X=>CR.ext X) S N.ok λ{a F1 rs' m' C D s'} q S' X' o=> ?_;have S2:M0 w b ((⟨(C,m')::cx.fs,cx.os,cx.og⟩:Cx).put env.locals m) F1.heap rs' s'.heap (s'.os,s'.gens):=S'.Dc;show wpAny _ A (assign (.Name x p) env (.ref D)) _ _ _;refine wpAny_mono (tF B Kd G1 4 q hA S2 (N.ext X') o) (λ_ y4 F6=> ?_) λ_ _ x=>x;obtain⟨q9,M1,r2,m2,q2,S3,N3,X3⟩:=F6;have S4:M0 w b ((cx.put env.locals m2).put C m') M1.heap r2 y4.heap (y4.os,y4.gens):=S3.Dc;exact⟨m',(S4.ns (C,m') M3).1,λh' RD=>⟨.next,q9,M1,r2,m2,q2,S4.leave RD,N3,X'.trans X3,trivial⟩⟩
end
section
noncomputable def UR(env:Env)(line:Nat):Expr->Option Str
 | .Name id pos=>if env.kindOf id==some .local&&pos.line==line then some id else none
 |_=>none
theorem LU:∀{ts:List Expr},(ts.filterMap (UR env line)).length<=ts.length:=λ{ts}=>List.length_filterMap_le _ _
theorem MU(h:iS t=none):UR env line t=none:=by induction t using PySem.Expr.casesOn<;>first|rfl|exact MR h
theorem ig(h:uD sc ts=some l)(e:(ts.filterMap (UR env line)).length=ts.length):ts.filterMap (UR env line)=l:=by
 induction ts generalizing l with
 |nil=>exact si h
 |cons t ts ih=>
  refine u3 h λp e1 h=>A4 h λg h=>B5 h λl' hl h=> ?_;rw[aH e1] at e⊢;by_cases c:(env.kindOf p.1==some .local&&p.2.line==line)=true
  .rw[List.filterMap_cons_some (show UR env line (.Name p.1 p.2)=some p.1 from if_pos c)] at e⊢;exact h▸congrArg (p.1::·) (ih hl (Nat.succ.inj e))
  .rw[List.filterMap_cons_none (show UR env line (.Name p.1 p.2)=none from if_neg c)] at e;exact absurd e (Nat.ne_of_lt (Nat.lt_succ_of_le LU))
theorem Km(hn:∀x k,lk x sc.names=some k->env.kindOf x=some k)(h:DS sc ts=true):(ts.filterMap (UR env line)).length<ts.length:=by
 induction ts with
 |nil=>exact G2 h
 |cons t ts ih=>
  have h:Option.rec (motive:=λ_=>Bool) true (λp=>Option.rec (motive:=λ_=>Bool) false (λk=>NameKind.casesOn (motive:=λ_=>Bool) k (DS sc ts) true true true true) (lk p.1 sc.names)) (iS t)=true:=h;induction et:iS t using opQ with
  |none=>rw[List.filterMap_cons_none (MU et)];exact Nat.lt_succ_of_le LU
  |some p=>
   rw[et] at h;have h:Option.rec (motive:=λ_=>Bool) false (λk=>NameKind.casesOn (motive:=λ_=>Bool) k (DS sc ts) true true true true) (lk p.1 sc.names)=true:=h;rw[aH et];induction hl:lk p.1 sc.names using opQ with
   |none=>rw[hl] at h;exact G2 h
   |some k=>
    rw[hl] at h;by_cases c:(env.kindOf p.1==some .local&&p.2.line==line)=true
    .rw[List.filterMap_cons_some (show UR env line (.Name p.1 p.2)=some p.1 from if_pos c)];have ek:k= .local:=si ((hn _ _ hl).symm.trans (R1 c λc _=>beq_iff_eq.mp c));subst ek;exact Nat.succ_lt_succ (ih h)
    .rw[List.filterMap_cons_none (show UR env line (.Name p.1 p.2)=none from if_neg c)];exact Nat.lt_succ_of_le LU
theorem jg(hB:OX sc t e=true)(hn:∀x k,lk x sc.names=some k->env.kindOf x=some k):swappedStores [t] e env=pure none\/∃ts k p l,t= .Tuple ts k p/\uD sc ts=some l/\l.Nodup/\swappedStores [t] e env=pure (some l):=by
 unfold OX at hB;induction et:EX t using opQ with
 |none=>
  left;rw[et] at hB;induction t using PySem.Expr.casesOn<;>first|rfl|exact MR et|exact G2 hB
 |some ts=>
  induction ee:EX e using opQ with
  |none=>left;rw[cH et];induction e using PySem.Expr.casesOn<;>first|rfl|exact MR ee
  |some vs=>
   rw[et,ee] at hB;have hB:Option.rec (motive:=λ_=>Bool) (DS sc ts.1) (λl=>Gb l&& !(vs.1.all (constantsAlone 8))) (uD sc ts.1)=true:=hB;rw[cH et,cH ee];have key:∀(line:Nat),((ts.1.filterMap (UR env line)).length !=ts.1.length)=true\/∃l,uD sc ts.1=some l/\l.Nodup/\vs.1.all (constantsAlone 8)=false/\ts.1.filterMap (UR env line)=l:=λline=>by
    by_cases hl:(ts.1.filterMap (UR env line)).length=ts.1.length
    .right;induction e1:uD sc ts.1 using opQ with
     |none=>rw[e1] at hB;exact absurd hl (Nat.ne_of_lt (Km hn hB))
     |some l=>rw[e1] at hB;exact R1 hB λh1 h2=>⟨l,rfl,aF h1,Bool.not_eq_true' _▸h2,ig e1 hl⟩
    .left;exact bne_iff_ne.mpr hl
   rcases key ((ts.1.head?.map (·.pos.line)).getD 0) with hk|⟨l,h1,h2,h3,h4⟩
   .left;unfold swappedStores;dsimp only
    split
    .rfl
    .split
     .rfl
     .rw[if_pos];rw[Bool.or_eq_true];left;exact hk
   .unfold swappedStores;dsimp only
    split
    .exact .inl rfl
    .split
     .exact .inl rfl
     .split
      .exact .inl rfl
      .split
       .exact .inl rfl
       .rw[if_neg (by rw[h3];decide)];exact .inr ⟨ts.1,ts.2.1,ts.2.2,l,rfl,h1,h2,congrArg (λz=>(pure (some z):Sem _)) h4⟩
end
noncomputable def zD(l:List Str):List V->List (Str×V)->List (Str×V):=List.rec (motive:=λ_=>List V->List (Str×V)->List (Str×V)) (λ_ L=>L) (λx _ ih vs L=>List.casesOn (motive:=λ_=>List (Str×V)) vs L λv vs=>ih vs (put x v L)) l
theorem sP(nd:l.Nodup)(hl:l.length=xs.length):(∀v,(y,v)∈l.zip xs->lk y (zD l xs L)=some v)/\(y∉l->lk y (zD l xs L)=lk y L):=by
 induction l generalizing xs L with
 |nil=>exact⟨λv h=>absurd h v8,λ_=>rfl⟩
 |cons x l ih=>induction xs using H5 with
  |nil=>exact absurd hl (Nat.succ_ne_zero _)
  |cons v xs=>
   refine D0 (H7.mp nd) λn1 n2=>D0 (ih (xs:=xs) (L:=put x v L) n2 (Nat.succ.inj hl)) λi1 i2=>⟨λu hu=> ?_,λhy=> ?_⟩
   .show lk y (zD l xs (put x v L))=some u;refine(M4.mp hu).elim (λe=> ?_) (i1 u);rw[i2 ((Prod.mk.inj e).1▸n1),EM,if_pos (Prod.mk.inj e).1,(Prod.mk.inj e).2]
   .show lk y (zD l xs (put x v L))=lk y L;rw[i2 λh=>hy (a5 _ h),EM,if_neg λe=>hy (by rw[e];exact M3)]
theorem YY{y:Str}{l:List Str}{xs:List V}(hl:l.length=xs.length)(h:y∈l):∃v,(y,v)∈l.zip xs:=by
 induction l generalizing xs with
 |nil=>exact absurd h v8
 |cons x l ih=>induction xs using H5 with
  |nil=>exact absurd hl (Nat.succ_ne_zero _)
  |cons v xs=>exact(M4.mp h).elim (λe=>⟨v,e▸M3⟩) λh=>Exists.imp (λ_=>a5 _) (ih (Nat.succ.inj hl) h)
theorem ZY{l:List Str}{xs:List V}(h:l.length=xs.length):l.reverse.zip xs.reverse=(l.zip xs).reverse:=(List.reverse_zipWith h).symm
theorem ZK{y:Str}{l:List Str}{xs:List V}{L:List (Str×V)}(nd:l.Nodup)(hl:l.length=xs.length):lk y (zD l.reverse xs.reverse L)=lk y (zD l xs L):=by
 have h1:=sP (y:=y) (L:=L) nd hl;have h2:=sP (y:=y) (L:=L) (l:=l.reverse) (xs:=xs.reverse) ((List.Perm.nodup_iff (List.reverse_perm l)).mpr nd) (by simpa using hl);by_cases hy:y∈l
 .refine O0 (YY hl hy) λv hv=> ?_;rw[h1.1 v hv,h2.1 v (by rw[ZY hl];exact List.mem_reverse.mpr hv)]
 .rw[h1.2 hy,h2.2 (by simpa using hy)]
theorem V0.reverse(h:V0 b rs xs vs):V0 b rs xs.reverse vs.reverse:=by
 induction xs generalizing vs with
 |nil=>
  refine h.ni ?_;exact rfl
 |cons x xs ih=>
  refine h.un λv r a c=> ?_;rw[List.reverse_cons,List.reverse_cons];exact V0.append (ih c) ⟨v,[],rfl,a,rfl⟩
noncomputable def NU(sc:Scope)(l:List Str):Prop:=∀x∈l,lk x sc.names=some .local
section
variable{w:World}{b:Heap}{n:Nat}{R:Rec}{A:Around}{E:Value->Shared->Prop}{s:Shared}{cx:Cx}{rs:List RO}{env:Env}{sc:Scope}{fr:J2}{σ:St}
theorem TQ(h:uD sc ts=some l):NU sc l:=by
 induction ts generalizing l with
 |nil=>exact si h▸λx hx=>absurd hx v8
 |cons t ts ih=>exact u3 h λp e1 h=>A4 h λg h=>B5 h λl' hl h=>h▸λy hy=>(M4.mp hy).elim (λe=>e▸VH g) (ih hl y)
theorem UQ{k:Nat}{ts:List Expr}{l:List Str}{xs:List V}{fr:J2}{K:J2->St->Prop}(h:uD sc ts=some l)(q:asg.CG R (k+1) ts xs sc fr σ K):l.length=xs.length/\K ⟨zD l xs fr.loc,fr.O3⟩ σ:=by
 induction ts generalizing l xs fr with
 |nil=>
  rw[(si h).symm];induction xs using H5 with
  |nil=>exact⟨rfl,q⟩
  |cons _ _=>exact No.no q
 |cons t ts ih=>induction xs using H5 with
  |nil=>exact No.no q
  |cons v xs=>
   refine u3 h λp e1 h=>A4 h λg h=>B5 h λl' hl h=> ?_;rw[aH e1] at q;have q:on (lk p.1 sc.names) 96 _:=q;rw[VH g] at q;have q:asg.CG R (k+1) ts xs sc {fr with loc:=put p.1 v fr.loc} σ K:=q;exact(ih hl q).elim λe2 q=>h▸⟨congrArg Nat.succ e2,q⟩
theorem VQ:∀{xs:List V}{us:List Value}{fr:J2}{s:Shared}{rs:List RO}{m:Str->Option Value},NU sc l->l.length=xs.length->M0 w b (cx.put env.locals m) σ.heap rs s.heap (s.os,s.gens)->o4 b rs env sc fr m->V0 b rs xs us->
 wpAny (model E1 w) A (assignInOrder (l.map λx=>bindName env x) us) (λ_ s'=>PF w b cx env sc rs (λV8 F1=>V8=⟨zD l xs fr.loc,fr.O3⟩/\F1=σ) s') E s:=by
 induction l with
 |nil=>
  intro xs us fr s rs m hl he S N o;induction xs using H5 with
  |cons _ _=>simp at he
  |nil=>
   obtain rfl:us=[]:=o;exact wpAny_assignInOrder_none ⟨fr,σ,rs,m,⟨rfl,rfl⟩,S,N,.refl rs⟩
 |cons x l ih=>
  intro xs us fr s rs m hl he S N o;induction xs using H5 with
  |nil=>simp at he
  |cons v xs=>
   refine U1 o λu r B0=> ?_;clear o;subst B0;intro o1 o2;have hs:JE x v sc fr σ (λV8 F1=>V8={fr with loc:=put x v fr.loc}/\F1=σ):=by
    unfold JE;rw[hl x M3];exact⟨rfl,rfl⟩
   rw[R6];refine wpAny_assignInOrder_more (wpAny_mono (bindName_ (nK S N o1 hs)) (λ_ U2 Y3=> ?_) λ_ _ x=>x);obtain⟨n9,P0,r1,m1,⟨rfl,rfl⟩,S1,N1,X1⟩:=Y3;exact wpAny_mono (ih (λy hy=>hl y (a5 _ hy)) (by simpa using he) S1 N1 (o2.ext X1)) (λ_ _ z=> .from X1 z) λ_ _ x=>x
theorem o4.Lm(N:o4 b rs env sc fr m)(h:∀y,lk y V8.loc=lk y fr.loc)(hc:V8.O3=fr.O3):o4 b rs env sc V8 m:=
 ⟨N.fn,N.names,N.glob,N.blt,N.above,λx a e=>N.loc x a (by rw[<-h];exact e),by rw[hc];exact N.O3⟩
theorem WQ{m:Str->Option Value}{a:Addr}{us:List Value}{k:Nat}{Q:List Value->Shared->Prop}(hA:B2 A n)(hk:k=us.length)(S:M0 w b (cx.put env.locals m) σ.heap rs s.heap (s.os,s.gens))(N:o4 b rs env sc fr m)
 (g:s.heap.IsTuple a us.toArray\/s.heap.IsList a us.toArray) (h:∀h',M0 w b (cx.put env.locals m) σ.heap rs h' (s.os,s.gens)->Q us {s with heap:=h'}):wpAny (model E1 w) A (unpackItems (.ref a) k none) Q E s:=by
 have nx:∀h',Heap.ExtBut s.heap.objs.size s.heap h'->Q us.toArray.toList {s with heap:=h'}:=λh' hx=>by
  have S':M0 w b (cx.put env.locals m) σ.heap rs h' _:=S.off (wr:=[]) M3 N.above (by simp) λa o _ e=>hx a o (Nat.ne_of_lt (Heap.lt_size e)) e;simpa using h h' S'
 rw[show k=us.toArray.size from by simpa using hk];rcases g with g|g
 .exact unpackItems_tuple hA.handled g nx
 .exact H8 hA.handled g nx
theorem XQ(B:k3 w b)(Kd:Kinds w)(G1:Z4 w b n R)(hA:B2 A n){K:KS}{t e:Expr}{pos:Pos}{m:Str->Option Value}(S:M0 w b (cx.put env.locals m) σ.heap rs s.heap (s.os,s.gens))(N:o4 b rs env sc fr m)
 (h:gd (!isStar t&& !CC e&&OX sc t e) (R.ev e sc fr σ λv P0=>asg R 4 t v sc fr P0 λq9 M1=>K .next q9 M1)):
 wpAny (model E1 w) A (exec (.Assign [t] e pos) env) (PS w b cx env sc rs K) E s:=by
 refine D0 (iH h) λg h=> ?_;simp only[JD] at g;refine D0 g λB0=> ?_;clear g;refine D0 B0 λg1 g2=> ?_;clear B0;intro g3;have ht:isStar t=false:=by simpa using g1
 have he:CC e=false:=by simpa using g2
 have KU:swapsWithSole [t] e pos.line env=pure false:=mH he _ _ _;rcases jg g3 (λx k q=>(N.names x k q).1) with hw|⟨ts,k,p,l,rfl,hl,nd,hw⟩
 .refine WO ht (wpAny_mono (G1 h hA S N.ok) (λv U2 Y3=> ?_) λ_ _ x=>x) KU hw;obtain⟨a,P0,r1,q1,S1,X1,o1⟩:=Y3;refine wpAny_mono (tF B Kd G1 4 q1 hA S1 (N.ext X1) o1) (λ_ y4 F6=> ?_) λ_ _ x=>x;obtain⟨q9,M1,r2,m2,q2,S2,N2,X2⟩:=F6;exact⟨.next,q9,M1,r2,m2,q2,S2,N2,X1.trans X2,trivial⟩
 .refine Assign_Tuple_swapped (wpAny_mono (G1 h hA S N.ok) (λv U2 Y3=> ?_) λ_ _ x=>x) KU hw;obtain⟨a,P0,r1,q1,S1,X1,o1⟩:=Y3;refine E0 q1 λxs hx q1=>wG q1 λ_ _ q1=>D0 (UQ (k:=2) hl q1) λe1 q1=> ?_;refine U1 (qP S1 o1 hx) λc us B0=> ?_;subst B0;intro ok at_;refine WQ hA (by rw[e1,ok.length]) S1 (N.ext X1) at_ λh' S'=> ?_;have lr:=TQ hl;refine wpAny_mono (VQ (l:=l.reverse) (xs:=xs.reverse) (s:={U2 with heap:=h'}) (λx hx=>lr x (List.mem_reverse.mp hx)) (by simpa using e1) S' (N.ext X1) ?_) (λ_ y4 F6=> ?_) λ_ _ x=>x
  .exact ok.reverse
  .obtain⟨q9,M1,r2,m2,⟨rfl,rfl⟩,S2,N2,X2⟩:=F6;exact⟨.next,_,_,r2,m2,q1,S2,N2.Lm (λy=>(ZK nd e1).symm) rfl,X1.trans X2,trivial⟩
end
set_option genInjectivity false in
structure aZ(prog:Program)(w:World)(K:Type)[DecidableEq K] where
 is:Nat->Heap->K->Value->Prop
 hash:K->Int
 draws:K->Nat
 OU:Nat
 dep:Nat
 inj:∀{i:Nat}{h:Heap}{v:Value}{x y:K},is i h x v->is i h y v->x=y
 keeps:∀{i:Nat}{h h':Heap}{k:K}{v:Value}{d:Addr}{o:Obj}{es ep},is i h k v->h.get? d=some o->o.data= .dict es ep->Heap.SameBut d h h'->is i h' k v
 pyHash:∀{A:Around}{E:Value->Shared->Prop}{s:Shared}{i:Nat}{k:K}{v:Value}{Q:Int->Shared->Prop},A.units+OU<cLine->is i s.heap k v->Q (hash k) {s with toks:=s.toks+draws k}->
  wpAny (model prog w) A (PySem.pyHash v) Q E s
 eqBool:∀{A:Around}{E:Value->Shared->Prop}{s:Shared}{i:Nat}{x y:K}{u v:Value}{Q:Bool->Shared->Prop},A.units+OU<cLine->is i s.heap x u->is i s.heap y v->Q (decide (x=y)) s->
  wpAny (model prog w) A (PySem.eqBool u v) Q E s
 quiet:∀{A:Around}{E:Value->Shared->Prop}{s:Shared}{i:Nat}{k:K}{v:Value}{Q:Bool->Shared->Prop}{e:Nat},dep<=e->is i s.heap k v->Q true s->wpAny (model prog w) A (eqIsQuiet e v) Q E s
section
variable{prog:Program}{w:World}{K:Type}[DecidableEq K](I:aZ prog w K)
noncomputable def J8(h:Heap):Nat->List K->List Value->Prop
 |_,[],vs=>vs=[]
 |i,k::ks,vs=>∃v r,vs=v::r/\I.is i h k v/\J8 h (i+1) ks r
noncomputable def TA(h:Heap)(ks:List K)(v:Value):Prop:=∃a o items n,v= .ref a/\h.get? a=some o/\o.cls= .type "tuple"/\o.data= .seq items n/\J8 I h 0 ks items.toList
variable{I}
theorem J8.J9{h:Heap}{i:Nat}{x:List K}{G:Prop}(q:J8 I h i x [])(k:x=[]->G):G:=by
 induction x using H5 with
 |nil=>exact k rfl
 |cons _ _=>refine A3 q λ_ _ e _=> ?_;clear q;exact nomatch e
theorem J8.A7{h:Heap}{i:Nat}{x:List K}{v:Value}{r:List Value}{G:Prop}(q:J8 I h i x (v::r))(k:∀k l,x=k::l->I.is i h k v->J8 I h (i+1) l r->G):G:=by
 induction x using H5 with
 |nil=>exact nomatch (show _=_ from q)
 |cons a l=>refine U1 q λ_ _ e q1 q2=> ?_;clear q;cases e;exact k a l rfl q1 q2
theorem J8.inj{h:Heap}{x y:List K}{i:Nat}{vs:List Value}(hx:J8 I h i x vs)(hy:J8 I h i y vs):x=y:=by
 induction vs generalizing x y i with
 |nil=>exact hx.J9 λe=>hy.J9 λe'=>e.trans e'.symm
 |cons v r ih=>exact hx.A7 λa l e q1 q2=>hy.A7 λa' l' e' q1' q2'=>by rw[e,e',I.inj q1 q1',ih q2 q2']
theorem J8.keeps(ho:h.get? d=some o)(hd:o.data= .dict es ep)(hs:Heap.SameBut d h h')(hx:J8 I h i x vs):J8 I h' i x vs:=by
 induction x generalizing i vs with
 |nil=>exact hx
 |cons a x ih=>refine U1 hx λv r e h1 h2=> ?_;clear hx;exact⟨v,r,e,I.keeps h1 ho hd hs,ih h2⟩
theorem J8.length{h:Heap}{x:List K}{i:Nat}{vs:List Value}(hx:J8 I h i x vs):vs.length=x.length:=by
 induction vs generalizing x i with
 |nil=>exact hx.J9 λe=>by rw[e];rfl
 |cons v r ih=>exact hx.A7 λa l e _ q=>by rw[e];exact congrArg (·+1) (ih q)
inductive wF(I:aZ prog w K)(h:Heap)(b m:Bool):List (Value×Value)->Prop
 |mk {x y:List K} {i:Nat} {xs ys:List Value}:J8 I h i x xs->J8 I h i y ys->decide (x=y)=b->(xs.length==ys.length)=m->wF I h b m (List.zip xs ys)
set_option tactic.hygienic true in
theorem wF.step{h:Heap}{b m:Bool}{l:List (Value×Value)}{p:Value×Value}{r:List (Value×Value)}{G:Prop}(q:wF I h b m l)(e:l=p::r)(k:∀i k1 k2,I.is i h k1 p.1->I.is i h k2 p.2->(k1=k2->wF I h b m r)->(¬k1=k2->b=false)->G):G:=by
 obtain⟨hx,hy,hb,hm⟩:=q;rename_i x y i xs ys;induction xs using H5 with
 |nil=>exact nomatch e
 |cons u xs=>induction ys using H5 with
  |nil=>exact nomatch e
  |cons v ys=>
   cases e
   refine hx.A7 λk1 l1 e1 q1 q2=>hy.A7 λk2 l2 e2 q3 q4=> ?_;subst e1 e2;refine k i k1 k2 q1 q3 (λe=>⟨q2,q4,?_,?_⟩) λne=> ?_
   .rw[hb.symm,e];exact decide_eq_decide.mpr ⟨λz=>by rw[z],λz=>(List.cons.inj z).2⟩
   .rw[hm.symm];exact decide_eq_decide.mpr ⟨λz=>congrArg (·+1) z,λz=>Nat.succ.inj z⟩
   .rw[hb.symm];exact decide_eq_false λz=>ne (List.cons.inj z).1
set_option tactic.hygienic true in
theorem wF.fin{h:Heap}{b m:Bool}{l:List (Value×Value)}(q:wF I h b m l)(e:l=[]):m=b:=by
 obtain⟨hx,hy,hb,hm⟩:=q;rename_i x y i xs ys;rw[hb.symm,hm.symm];induction xs using H5 with
 |nil=>induction ys using H5 with
  |nil=>exact hx.J9 λe1=>hy.J9 λe2=>by rw[e1,e2];exact(decide_eq_true rfl).symm
  |cons v ys=>exact hx.J9 λe1=>hy.A7 λ_ _ e2 _ _=>by rw[e1,e2];exact(decide_eq_false λz=>nomatch z).symm
 |cons u xs=>induction ys using H5 with
  |nil=>exact hx.A7 λ_ _ e1 _ _=>hy.J9 λe2=>by rw[e1,e2];exact(decide_eq_false λz=>nomatch z).symm
  |cons v ys=>exact nomatch e
theorem TA.inj{h:Heap}{x y:List K}{v:Value}(hx:TA I h x v)(hy:TA I h y v):x=y:=by
 refine tB hx λa o items n B0=> ?_;clear hx;subst B0;intro ho _ hd hi;refine tB hy λa' o' qw n' e fE _ xB KJ=> ?_;clear hy;cases e
 obtain rfl:o=o':=si (ho.symm.trans fE);rw[hd] at xB;injection xB with h1 _;subst h1;exact hi.inj KJ
theorem TA.keeps{h h':Heap}{ks:List K}{v:Value}{d:Addr}{o:Obj}{es ep}(x:TA I h ks v)(ho:h.get? d=some o)(hd:o.data= .dict es ep)(hs:Heap.SameBut d h h'):TA I h' ks v:=by
 refine tB x λa o' items n B0=> ?_;clear x;subst B0;intro fE hc xB hi;have OA:a≠d:=by
  rintro rfl;obtain rfl:o'=o:=si (fE.symm.trans ho);rw[hd] at xB;exact nomatch xB
 exact⟨a,o',items,n,rfl,(hs.2 a OA).trans fE,hc,xB,hi.keeps ho hd hs⟩
noncomputable def PU(I:aZ prog w K)(ks:List K):Int:=reduceHash (Builtin.Tuple.tupleHashOf (ks.map I.hash))
noncomputable def QU(I:aZ prog w K)(ks:List K):Nat:=(ks.map I.draws).sum+1
variable{A:Around}{E:Value->Shared->Prop}{s:Shared}
theorem TA.typeIs{h:Heap}{s:Shared}{ks:List K}{a:Addr}(hh:s.heap=h)(x:TA I h ks (.ref a)):s.TypeIs (.ref a) "tuple":=by
 refine tB x λa' o items n e ho hc hd hi=> ?_;clear x;cases e;subst hh
 exact⟨o,ho,hc⟩
inductive LI(I:aZ prog w K)(h:Heap)(t:Nat)(ks:List K):List Value->List Int->Nat->Prop
 |mk {did left:List K} {i:Nat} {vs:List Value}:did++left=ks->J8 I h i left vs->LI I h t ks vs (did.map I.hash) (t+(did.map I.draws).sum)
set_option tactic.hygienic true in
theorem LI.step{h:Heap}{t tk:Nat}{ks:List K}{l:List Value}{v:Value}{r:List Value}{b:List Int}{G:Prop}(q:LI I h t ks l b tk)(e:l=v::r)(k:∀i k,I.is i h k v->LI I h t ks r (b++[I.hash k]) (tk+I.draws k)->G):G:=by
 obtain⟨e1,q1⟩:=q;rename_i did left i;subst e;refine q1.A7 λa m e q2 q3=>k i a q2 ?_;subst e;have:=LI.mk (I:=I) (t:=t) (ks:=ks) (did:=did++[a]) (by rw[i7];exact e1) q3;rw[w8,w8,List.sum_append,List.map_singleton,List.map_singleton,List.sum_singleton,<-Nat.add_assoc] at this;exact this
theorem LI.fin{h:Heap}{t tk:Nat}{ks:List K}{b:List Int}{l:List Value}(q:LI I h t ks l b tk)(e:l=[]):b=ks.map I.hash/\tk=t+(ks.map I.draws).sum:=by
 obtain⟨e1,q1⟩:=q;subst e;refine q1.J9 λe=> ?_;subst e;rw[VG] at e1;rw[e1];exact⟨rfl,rfl⟩
theorem bZ{ks:List K}{v:Value}{Q:Int->Shared->Prop}(hu:A.units+(I.OU+1)<cLine)(hk:TA I s.heap ks v)(h:Q (PU I ks) {s with toks:=s.toks+QU I ks}):
 wpAny (model prog w) A (pyHash v) Q E s:=by
 refine tB hk λa o items n B0=> ?_;clear hk;subst B0;intro ho hc hd hi;have hT:s.TypeIs (.ref a) "tuple":=⟨o,ho,hc⟩;unfold pyHash;first|unfold pyHashByItsType|skip
 first|refine wpAny_bind (wpAny_cRoomFor_or (.inr (by lia)) ?_)|skip
 refine wpAny_bind (wpAny_specialOf hT F.slot_tuple_hash.lookup ?_);show wpAny _ _ (if(some (Value.builtin "tuple.__hash__")==some Value.none)=true then _ else _) Q E s;rw[if_neg (by rw[beq_builtin_none _];exact Bool.false_ne_true)];refine wpAny_bind (wpAny_specialOf hT F.slot_tuple_hash.lookup ?_);show wpAny _ _ (callSpecialIfBoundUnlessNone? (.ref a) "__hash__" _>>=_) Q E s;refine wpAny_bind (wpAny_callSpecialIfBoundUnlessNone?_slot hT F.slot_tuple_hash (wpAny_call_entry F.slot_tuple_hash hT F.entry_tuple_hash ?_ (F.args_tuple_hash_1 _)));show wpAny _ _ (Builtin.Tuple.tupleItemsOf (.ref a)>>=_) _ _ s;refine wpAny_bind (wpAny_tupleItemsOf ho hd ?_);refine wpAny_bind ?_;rw[Array.forIn_toList.symm];refine wpAny_forIn_list _
  (λrest(b:Array Int) s'=>∃tk,s'={s with toks:=tk}/\LI I s.heap s.toks ks rest b.toList tk)
  _ ?_ ?_ _ _ ⟨s.toks,rfl,LI.mk (did:=[]) rfl hi⟩
 .intro x rest b s' q;refine u0 q ?_;clear q;intro tk e q;subst e;refine q.step rfl λi k q1 q2=> ?_;refine wpAny_bind (I.pyHash (i:=i) (k:=k) (by show A.units+1+I.OU<_;lia) q1 ?_);exact wpAny_pure ⟨_,rfl,(Array.toList_push (xs:=b) (x:=I.hash k)).symm▸q2⟩
 .intro b s' q;refine u0 q ?_;clear q;intro tk e q;refine D0 (q.fin rfl) λq1 q2=> ?_;subst e q2;show wpAny _ _ (retInt (Builtin.Tuple.tupleHashOf b.toList)) _ _ _;rw[q1];refine wpAny_ret_mkInt ?_;unfold PU reduceHash at h;show wpAny _ _ (if(decide (-(2:Int)^63<=Builtin.Tuple.tupleHashOf (ks.map I.hash))&&decide (Builtin.Tuple.tupleHashOf (ks.map I.hash)<2^63))=true then _ else _) Q E _
  split at h
  .rw[if_pos ‹_›];exact wpAny_pure h
  .rw[if_neg ‹_›];exact wpAny_bind (wpAny_rule (wpAny_pure h))
theorem cZ{x y:List K}{a c:Addr}{P:Fin->Shared->Prop}(hu:A.units+I.OU<cLine)(hx:TA I s.heap x (.ref a))(hy:TA I s.heap y (.ref c))(h:P (.done (.ret (.bool (decide (x=y))))) s):
 wpAny (model prog w) A (Builtin.«tuple.__eq__» ⟨[.ref a,.ref c],[]⟩) P E s:=by
 have hTb:=hy.typeIs rfl;refine tB hx λ_ oa xs na e hoa _ hda hia=> ?_;clear hx;cases e
 refine tB hy λ_ ob ys nb e hob _ hdb hib=> ?_;clear hy;cases e
 show wpAny _ _ (isInstance (.ref c) (.type "tuple")>>=_) _ _ s;refine wpAny_bind (wpAny_isInstance hTb isSubtype_tuple_tuple ?_);simp only[Bool.not_true,IJ,if_false];refine wpAny_bind (wpAny_tupleItemsOf hoa hda ?_);refine wpAny_bind (wpAny_tupleItemsOf hob hdb ?_);refine wpAny_bind ?_;refine wpAny_forIn_list _
  (λrest r s'=>r.1=none/\s'=s/\wF I s.heap (decide (x=y)) (xs.size==ys.size) rest)
  _ ?_ ?_ _ _ ⟨rfl,rfl,hia,hib,rfl,by rw[Array.length_toList,Array.length_toList]⟩
 .intro p rest r s' q;refine R2 q ?_;clear q;intro _ e q;subst e;refine q.step rfl λi k1 k2 q1 q2 same diff=> ?_;refine wpAny_bind (I.eqBool hu q1 q2 ?_);by_cases hk:k1=k2
  .rw[decide_eq_true hk];exact wpAny_pure ⟨rfl,rfl,same hk⟩
  .rw[decide_eq_false hk];rw[diff hk] at h;exact wpAny_bind (wpAny_pure (wpAny_pure (wpAny_pure h)))
 .intro r s' q;obtain⟨r1,r2⟩:=r;refine R2 q ?_;clear q;intro e1 e2 q;subst e2;obtain rfl:r1=none:=e1;refine wpAny_pure ?_;show P (.done (.ret (.bool (xs.size==ys.size)))) s';rw[q.fin rfl];exact h
theorem eZ{x y:List K}{u v:Value}{Q:Bool->Shared->Prop}(hu:A.units+(I.OU+1)<cLine)(hx:TA I s.heap x u)(hy:TA I s.heap y v)(h:Q (decide (x=y)) s):
 wpAny (model prog w) A (eqBool u v) Q E s:=by
 have mN:=hx;have Ot:=hy;refine mD mN λa _ _ _ B0=> ?_;clear mN;subst B0;intro _;refine mD Ot λc _ _ _ B0=> ?_;clear Ot;subst B0;intro _;unfold eqBool
 try with_reducible refine wpAny_holding ?_
 show wpAny _ _ (if(Value.ref a==Value.ref c)=true then _ else _) Q E s;by_cases tw:(Value.ref a==Value.ref c)=true
 .rw[if_pos tw];have e:a=c:=by have:=eq_of_beq tw;injection this
  subst e;obtain rfl:=hx.inj hy;exact wpAny_bind (wpAny_rule (wpAny_pure (by simpa using h)))
 .rw[if_neg tw];exact wpAny_bind (wpAny_richCompare_same_room (op:= .Eq) (hx.typeIs rfl) (hy.typeIs rfl) F.slot_tuple_eq
   (wpAny_call_entry F.slot_tuple_eq (hx.typeIs rfl) F.entry_tuple_eq (cZ (by show A.units+1+I.OU<_;lia) hx hy ⟨_,rfl,(λe=>nomatch e),wpAny_truthy_bool h⟩) (F.args_tuple_eq_2 _ _)) (by lia))
theorem kg{ks:List K}{v:Value}{Q:Bool->Shared->Prop}{e:Nat}(he:I.dep+1<=e)(hk:TA I s.heap ks v)(h:Q true s):wpAny (model prog w) A (eqIsQuiet e v) Q E s:=by
 refine tB hk λa o items n B0=> ?_;clear hk;subst B0;intro ho hc hd hi;have hT:s.TypeIs (.ref a) "tuple":=⟨o,ho,hc⟩;obtain⟨e',rfl⟩:∃e',e=e'+1:=⟨e -1,by lia⟩;unfold eqIsQuiet;refine wpAny_bind (wpAny_specialOf hT F.slot_tuple_eq.lookup ?_);show wpAny _ _ (isInstance (.ref a) (.type "tuple")>>=_) _ _ s;refine wpAny_bind (wpAny_isInstance hT isSubtype_tuple_tuple ?_);simp only[Bool.not_true,IJ,if_false];refine wpAny_bind (wpAny_seqItems ho hd ?_);refine wpAny_bind ?_;show wpAny _ _ (forIn items _ _) _ _ s;rw[Array.forIn_toList.symm];refine wpAny_forIn_list _ (λrest r s'=>r.1=none/\s'=s/\∃ks' i,J8 I s.heap i ks' rest) _ ?_ ?_ _ _ ⟨rfl,rfl,ks,0,hi⟩
 .intro v rest r s' q;obtain⟨_,e,ks',i,q⟩:=q;subst e;exact q.A7 λk l _ q1 q2=>wpAny_bind (I.quiet (Nat.le_of_succ_le_succ he) q1 (wpAny_pure ⟨rfl,rfl,l,i+1,q2⟩))
 .intro r s' q;obtain⟨r1,r2⟩:=r;refine R2 q λe1 e2 _=> ?_;clear q;subst e2;obtain rfl:r1=none:=e1;exact wpAny_pure h
end
noncomputable def tupK{prog:Program}{w:World}{K:Type}[DecidableEq K](I:aZ prog w K):aZ prog w (List K) where
 is:=λ_ h ks v=>TA I h ks v
 hash:=PU I
 draws:=QU I
 OU:=I.OU+1
 dep:=I.dep+1
 inj:=λhx hy=>hx.inj hy
 keeps:=λx ho hd hs=>x.keeps ho hd hs
 pyHash:=λhu hk h=>bZ hu hk h
 eqBool:=λhu hx hy h=>eZ hu hx hy h
 quiet:=λhe hk h=>kg he hk h
noncomputable def Ec(prog:Program)(w:World):aZ prog w (Int⊕List UInt8) where
 is:=λi _ k v=>Sum.rec (motive:=λ_=>Prop) (λn=>i=0/\(intKind prog w).is n v=true) (λn=>i≠0/\(bytesKind prog w).is n v=true) k
 hash:=Sum.rec (motive:=λ_=>Int) (intKind prog w).hash (bytesKind prog w).hash
 draws:=λ_=>1
 OU:=0
 dep:=0
 inj:=λ{i h v x y} hx hy=>by
  induction x using Sum.casesOn<;>induction y using Sum.casesOn
  .exact congrArg _ ((intKind prog w).inj _ _ _ hx.2 hy.2)
  .exact absurd hx.1 hy.1
  .exact absurd hy.1 hx.1
  .exact congrArg _ ((bytesKind prog w).inj _ _ _ hx.2 hy.2)
 keeps:=λx _ _ _=>x
 pyHash:=λ{A E s i k v Q} hu hk h=>by
  induction k using Sum.casesOn
  .exact(intKind prog w).pyHash hk.2 h
  .exact(bytesKind prog w).pyHash hk.2 h
 eqBool:=λ{A E s i x y u v Q} hu hx hy h=>by
  induction x using Sum.casesOn<;>induction y using Sum.casesOn
  .exact(intKind prog w).eqBool hx.2 hy.2 (by simpa using h)
  .exact absurd hx.1 hy.1
  .exact absurd hy.1 hx.1
  .exact(bytesKind prog w).eqBool hx.2 hy.2 (by simpa using h)
 quiet:=λ{A E s i k v Q e} he hk h=>by
  have hc:carriedByValue v=true:=by
   induction k using Sum.casesOn
   .exact(intKind prog w).byValue _ _ hk.2
   .exact(bytesKind prog w).byValue _ _ hk.2
  rw[eqIsQuiet_byValue _ hc];exact wpAny_pure h
noncomputable def Mm{prog:Program}{w:World}{K:Type}[DecidableEq K](I:aZ prog w K)(hd:I.dep<=8):HeapKind prog w K where
 is:=λh k a=>I.is 0 h k (.ref a)
 hash:=I.hash
 draws:=I.draws
 room:=λA=>A.units+I.OU<cLine
 inj:=λhx hy=>I.inj hx hy
 keeps:=λx ho hd hs=>I.keeps x ho hd hs
 pyHash:=λhu hk h=>I.pyHash hu hk h
 eqBool:=λhu hx hy h=>I.eqBool hu hx hy h
 quiet:=λhk h=>I.quiet hd hk h
noncomputable def Fc{α:Type}(f:Dt->Option α)(ds:List Dt):Option (List α):=List.rec (motive:=λ_=>Option (List α)) (some []) (λd _ ih=>(f d).bind λx=>ih.map λl=>x::l) ds
noncomputable def aL(d:Dt):Option Int:=(iD d).map (·.2)
noncomputable def rP(d:Dt):Option (List (Int⊕List UInt8)):=((tD d).bind two).bind λp=>(iD p.1).bind λa=>(yD p.2).map λc=>[.inl a.2,.inr c.2]
noncomputable def qX{α:Type}(f:Dt->Option α)(d:Dt):Option (List α):=(tD d).bind λds=>gO (!ds.isEmpty) (Fc f ds)
theorem RU(k:∀{d},g d=true->∃x,f d=some x)(h:sM g ds=true):∃l,Fc f ds=some l:=by
 induction ds with
 |nil=>exact⟨[],rfl⟩
 |cons d ds ih=>
  induction e:g d using Q2 with
  |true=>
   simp only[sM,e] at h;refine O0 (ih h) λl hl=> ?_;refine O0 (k e) λx hx=> ?_;exact⟨x::l,by show(f d).bind (λx=>(Fc f ds).map λl=>x::l)=_;rw[hx,hl];rfl⟩
  |false=>simp only[sM,e] at h;exact G2 h
theorem MB(k:∀{d},g d=true->∃x,f d=some x)(h:AG g d=true):∃l,qX f d=some l:=by
 unfold AG at h;induction e:tD d using opQ with
 |none=>rw[e] at h;exact G2 h
 |some ds=>
  rw[e] at h;refine R1 h λh1 h2=> ?_;refine O0 (RU k h2) λl hl=> ?_;exact⟨l,by unfold qX;rw[e];show gO (!ds.isEmpty) _=_;rw[h1,hl];rfl⟩
theorem oE{a b:Dt}{r q:List Dt}{p:Bool×Bool}{G:Prop}(h:IA (a::r) (b::q)=some p)(k:∀x y,R8 a b=some x->IA r q=some y->p.2=(x.2&&y.2)->G):G:=u3 h λx e1 h=>B5 h λy e2 h=>k x y e1 e2 (h▸mS)
theorem SU{α:Type}{f:Dt->Option α}(step:∀{a c x y p},f a=some x->f c=some y->R8 a c=some p->(p.2=true↔x=y)){a c:List Dt}{x y:List α}{p:Bool×Bool}(h1:Fc f a=some x)(h2:Fc f c=some y)(h:IA a c=some p):p.2=true↔x=y:=by
 induction a generalizing c x y p with
 |nil=>
  obtain rfl:=si h1;induction c using H5 with
  |nil=>obtain rfl:=si h2;obtain rfl:=si h;exact⟨λ_=>rfl,λ_=>rfl⟩
  |cons d c=>
   obtain rfl:=si h;exact u3 h2 λz _ h2=>B5 h2 λl _ h2=>h2▸⟨G2,Zi⟩
 |cons d a ih=>
  refine u3 h1 λz1 e1 h1=>B5 h1 λl1 f1 h1=> ?_;subst h1;induction c using H5 with
  |nil=>obtain rfl:=si h2;obtain rfl:=si h;exact⟨G2,Rj⟩
  |cons d' c=>
   refine u3 h2 λz2 e2 h2=>B5 h2 λl2 f2 h2=> ?_;subst h2;refine oE h λu v hu hv e=> ?_;rw[e,Bool.and_eq_true_iff,step e1 e2 hu,ih f1 f2 hv];exact List.cons_eq_cons.symm
theorem fL(step:∀{a c x y p},f a=some x->f c=some y->R8 a c=some p->(p.2=true↔x=y))(h1:qX f a=some x)(h2:qX f c=some y)(h:R8 a c=some p):p.2=true↔x=y:=
 u3 h1 λ_ e1 h1=>A4 h1 λ_ h1=>u3 h2 λ_ e2 h2=>A4 h2 λ_ h2=>SU step h1 h2 (Z9▸yG e1▸yG e2▸h)
theorem TU(h1:aL a=some x)(h2:aL c=some y)(h:R8 a c=some p):p.2=true↔x=y:=B5 h1 λq e1 h1=>B5 h2 λr e2 h2=>by
 subst h1 h2;rw[z8 e1,z8 e2] at h;rw[(si (iI.symm.trans h)).symm];exact decide_eq_true_iff
theorem YQ(h:R8 (.bytes s x) (.bytes t y)=some p):p.2=true↔x=y:=by
 rw[(si (OS.symm.trans h)).symm,kS];exact beq_iff_eq
theorem UU(h:rP d=some x):∃s n t y,d= .tup [.int s n,.bytes t y]/\x=[.inl n,.inr y]:=u3 h λp e h=>u3 h λa e2 h=>B5 h λc e3 h=>u3 e λl f1 f2=>⟨a.1,a.2,c.1,c.2,by rw[yG f1,J7 f2,z8 e2,nQ e3],h.symm⟩
theorem lg{a c:Dt}{x y:List (Int⊕List UInt8)}{p:Bool×Bool}(h1:rP a=some x)(h2:rP c=some y)(h:R8 a c=some p):p.2=true↔x=y:=by
 refine mD (UU h1) λs1 n1 t1 y1 B0=> ?_;subst B0;intro x9;subst x9;refine mD (UU h2) λs2 n2 t2 y2 B0=> ?_;subst B0;intro x9;subst x9;rw[Z9] at h;refine oE h λu v hu hv e=>oE hv λu' v' hu' lH e'=> ?_;have lH:v'.2=true:=by rw[(si (aY.symm.trans lH)).symm]
 rw[e,e',lH,Bool.and_true _,Bool.and_eq_true_iff,YQ hu',TU (x:=n1) (y:=n2) rfl rfl hu];simp
theorem MI(h:oO d=true):∃x,aL d=some x:=by
 refine O0 (eO.mp h) λp e=> ?_;exact⟨p.2,by unfold aL;rw[e];rfl⟩
theorem NI(h:XJ d=true):∃x,rP d=some x:=by
 refine TJ (kK h) λs n t y B0=> ?_;subst B0;exact⟨_,rfl⟩
theorem gL(h:qX f d=some k):∃a r x l,d= .tup (a::r)/\Fc f (a::r)=some k/\f a=some x/\k=x::l:=u3 h λds e h=>A4 h λg h=>by
 induction ds using H5 with
 |nil=>exact G2 g
 |cons a r=>exact u3 h λx e1 h1=>B5 h1 λl _ h1=>⟨a,r,x,l,yG e,h,e1,h1.symm⟩
theorem ng(h:Fc aL ds=some k)(x:O4 F ds vs):ItemsAre (intKind E1 w) k vs:=by
 induction ds generalizing vs k with
 |nil=>obtain rfl:=si h;obtain rfl:=x;exact .nil
 |cons d ds ih=>
  refine u3 h λn e1 h=>B5 h λl e2 h=>B5 e1 λq e e1=> ?_;subst h e1;refine U1 x λv r B0=> ?_;clear x;subst B0;intro x1 x2;rw[z8 e] at x1;refine O0 x1 λt B0=> ?_;clear x1;subst B0;exact .cons (beq_self_eq_true (α:=Int) _) (ih e2 x2)
theorem fZ(e:Fc rP ds=some k)(x:O4 (λa o=>o.cls= .type "tuple"/\h.get? a=some o) ds vs):J8 (tupK (Ec E1 w)) h i k vs:=by
 induction ds generalizing vs k i with
 |nil=>obtain rfl:=si e;obtain rfl:=x;exact rfl
 |cons d ds ih=>
  refine u3 e λn e1 e=>B5 e λl e2 e=> ?_;subst e;refine U1 x λv r B0=> ?_;clear x;subst B0;intro x1 x2;refine mD (UU e1) λs n t y B0=> ?_;subst B0;intro x9;subst x9;obtain⟨a,us,m,rfl,hg,v1,r1,rfl,⟨t1,rfl⟩,v2,r2,rfl,⟨t2,rfl⟩,rfl⟩:=G3.tup.mp x1;exact⟨_,_,rfl,⟨a,_,_,_,rfl,hg.2,rfl,rfl,_,_,rfl,⟨rfl,beq_self_eq_true (α:=Int) _⟩,_,_,rfl,⟨Nat.succ_ne_zero _,beq_self_eq_true (α:=List UInt8) _⟩,rfl⟩,ih e2 x2⟩
theorem tP(h:qX f d=some k)(x:G3 F d v):∃a,v= .ref a:=by
 refine mD (gL h) λa r _ _ B0=> ?_;subst B0;intro _;refine V3 (G3.tup.mp x) λa _ _ e _=> ?_;exact⟨a,e⟩
theorem VU{α β:Type}{f:Dt->Option α}{f':Dt->Option β}{g g':Dt->Bool}(h1:∀{d},g d=true->∃x,f d=some x)(h2:∀{d},g' d=true->∃x,f' d=some x)(no:∀{a c x y p},f a=some x->f' c=some y->R8 a c=some p->False){d d':Dt}{k:List α}{r:Bool×Bool}(gk:AG g d'=true\/AG g' d'=true)(e1:qX f d=some k)(e2:qX f d'=none)(h:R8 d d'=some r):False:=by
 rcases gk with gk|gk
 .refine O0 (MB h1 gk) λk' e=> ?_;exact A0 (e2.symm.trans e)
 .refine O0 (MB h2 gk) λk' e=> ?_;refine pB (gL e1) λa r x l B0=> ?_;subst B0;intro _ fa _;refine pB (gL e) λa' r' x' l' B0=> ?_;subst B0;intro _ fa' _;rw[Z9] at h;exact oE h λu v hu _ _=>no fa fa' hu
theorem Nm(h1:aL a=some x)(h2:rP c=some y)(h:R8 a c=some p):False:=B5 h1 λq e _=>by
 refine mD (UU h2) λ_ _ _ _ B0=> ?_;subst B0;intro _;rw[z8 e] at h;exact A0 h
theorem Om(h2:rP a=some y)(h1:aL c=some x)(h:R8 a c=some p):False:=B5 h1 λq e _=>by
 refine mD (UU h2) λ_ _ _ _ B0=> ?_;subst B0;intro _;rw[z8 e] at h;exact A0 h
theorem qN(h:B8 d=true):AG oO d=true\/AG XJ d=true:=Bool.or_eq_true_iff.mp h
noncomputable def pg(w:World):E5 w where
 K:=List Int
 dec:=inferInstance
 knd:=tupleKind (intKind E1 w)
 rd:=qX aL
 sO:=λ{h d a k} e x=>by
  refine BA (gL e) λ_ _ _ _ B0=> ?_;subst B0;intro e _;refine T3 (G3.tup.mp x) λa' vs n e2 B0=> ?_;refine D0 B0 λhc hg=> ?_;clear B0;intro xs;cases e2
  exact⟨_,_,_,hg,rfl,rfl,ng e xs⟩
 PE:=λh1 h2 h=>fL TU h1 h2 h
 QE:=λg h1 h2 h=>VU MI NI Nm (qN g) h1 h2 h
 ref:=λh x=>tP h x
 room:=λ{A} h=>NH (jB _ _) h
noncomputable def ug(w:World):E5 w where
 K:=List (List (Int⊕List UInt8))
 dec:=inferInstance
 knd:=Mm (tupK (tupK (Ec E1 w))) (show 0+1+1<=8 by decide)
 rd:=qX rP
 sO:=λ{h d a k} e x=>by
  refine BA (gL e) λ_ _ _ _ B0=> ?_;subst B0;intro e _;refine T3 (G3.tup.mp x) λa' vs n e2 B0=> ?_;refine D0 B0 λhc hg=> ?_;clear B0;intro xs;cases e2
  exact⟨_,_,_,_,rfl,hg,rfl,rfl,fZ e xs⟩
 PE:=λh1 h2 h=>fL lg h1 h2 h
 QE:=λg h1 h2 h=>VU NI MI Om (qN g).symm h1 h2 h
 ref:=λh x=>tP h x
 room:=λ{A} h=>NH (Nat.add_le_add_left (show 0+1+1<=50 by decide) A.units) h
theorem kinds(w:World):Kinds w:=λd h=>by
 rcases qN h with g|g
 .refine O0 (MB MI g) λk e=> ?_;exact⟨pg w,k,e⟩
 .refine O0 (MB NI g) λk e=> ?_;exact⟨ug w,k,e⟩
noncomputable def t5(w:World)(b:Heap)(n:Nat)(e:Expr)(sc:Scope)(fr:J2)(σ:St)(Q:K1):Prop:=
 ∀⦃A:Around⦄⦃E:Value->Shared->Prop⦄⦃s:Shared⦄⦃cx:Cx⦄⦃rs:List RO⦄⦃env:Env⦄,B2 A n->M0 w b cx σ.heap rs s.heap (s.os,s.gens)->W3 b cx rs env sc fr->
  wpAny (model E1 w) A (eval e env) (PV w b cx rs Q) E s
noncomputable def R0(w:World)(b:Heap)(n:Nat)(l:List Stmt)(sc:Scope)(fr:J2)(σ:St)(K:KS):Prop:=
 ∀⦃A:Around⦄⦃E:Value->Shared->Prop⦄⦃s:Shared⦄⦃cx:Cx⦄⦃rs:List RO⦄⦃env:Env⦄⦃m:Str->Option Value⦄,B2 A n->M0 w b (cx.put env.locals m) σ.heap rs s.heap (s.os,s.gens)->o4 b rs env sc fr m->
  wpAny (model E1 w) A (execs l env) (PS w b cx env sc rs K) E s
noncomputable def F0(w:World)(b:Heap)(n:Nat)(f:V)(args:List V)(σ:St)(Q:K1):Prop:=
 ∀⦃A:Around⦄⦃s:Shared⦄⦃cx:Cx⦄⦃rs:List RO⦄⦃u:Value⦄⦃us:List Value⦄⦃L:Addr⦄⦃m:Str->Option Value⦄,B2 A n->M0 w b cx σ.heap rs s.heap (s.os,s.gens)->(L,m)∈cx.fs->b.objs.size<=L->E2 b rs f u->V0 b rs args us->
  codeAny (model E1 w) A (.call u ⟨us,[]⟩) (λr s'=>match r with| .ok (.ret v)=>PV w b cx rs Q v s'|_=>False) s
noncomputable def Sem(w:World)(b:Heap)(n:Nat):Rec:=⟨t5 w b n,R0 w b n,F0 w b n⟩
structure M6(w:World)(b:Heap)(n:Nat)(R:Rec):Prop where
 ev:Z4 w b n R
 ex:xI w b n R
 call:KC w b n R
theorem OI(w:World)(b:Heap)(n:Nat):M6 w b n (Sem w b n):={ev:=λ{_ _ _ _ _} h{_ _ _ _ _ _} hA S N=>h hA S N,ex:=λ{_ _ _ _ _} h{_ _ _ _ _ _ _} hA S N=>h hA S N,call:=λ{_ _ _ _} h{_ _ _ _ _ _ _ _} hA S hL ha o os=>h hA S hL ha o os}
theorem M6.wC(O:M6 w b n R):(∀{e sc fr σ Q},R.ev e sc fr σ Q->t5 w b n e sc fr σ Q)/\(∀{l sc fr σ K},R.ex l sc fr σ K->R0 w b n l sc fr σ K)/\(∀{f args σ Q},R.call f args σ Q->F0 w b n f args σ Q):=
 ⟨λh _ _ _ _ _ _ hA S N=>O.ev h hA S N,λh _ _ _ _ _ _ _ hA S N=>O.ex h hA S N,λh _ _ _ _ _ _ _ _ hA S hL ha o os=>O.call h hA S hL ha o os⟩
theorem B2.mono(h:n<=m)(x:B2 A m):B2 A n:=⟨x.handled,by have:=x.depth;lia,by have:=x.units;lia⟩
theorem t5.up(h:n<=m)(x:t5 w b n e sc fr σ Q):t5 w b m e sc fr σ Q:=λ_ _ _ _ _ _ hA S N=>x (hA.mono h) S N
theorem R0.up{w:World}{b:Heap}{n m:Nat}(h:n<=m){l:List Stmt}{sc:Scope}{fr:J2}{σ:St}{K:KS}(x:R0 w b n l sc fr σ K):R0 w b m l sc fr σ K:=λ_ _ _ _ _ _ _ hA S N=>x (hA.mono h) S N
theorem F0.up(h:n<=m)(x:F0 w b n f args σ Q):F0 w b m f args σ Q:=λ_ _ _ _ _ _ _ _ hA S hL ha ou os=>x (hA.mono h) S hL ha ou os
noncomputable def s9(w:World)(b:Heap)(n:Nat)(C:oG):Prop:=∀{f:V}{args:List V}{σ:St}{Q:K1}{P:Prop},C f args σ Q=some P->P->F0 w b n f args σ Q
theorem WU(w:World)(b:Heap)(n:Nat):s9 w b n HS:=λh=>by exact A0 h
section
theorem t9{k:Nat}{P:Prop}(h:No k):P:=by cases h
theorem XU(B:k3 w b)(O:M6 w b n R):∀{e:Expr}{sc:Scope}{fr:J2}{σ:St}{Q:K1},Uk R e sc fr σ Q->t5 w b n e sc fr σ Q:=by
 intro e sc fr σ Q h A E s cx rs env hA S N;have Kd:=kinds w;induction e using PySem.Expr.casesOn with
 |Constant c k p=>exact xT S h
 |Name x p=>exact xO B S N h
 |Tuple es k p=>exact uT O.ev hA S N h
 |List es p=>exact kY O.ev hA S N h
 |Dict ks es p=>induction ks using H5 with
  |nil=>induction es using H5 with
   |nil=>exact xU S h
   |cons x es=>exact t9 h
  |cons k ks=>exact TY O.ev hA S N (λe=>nomatch e) h
 |BinOp l op r p=>exact vT O.ev hA S N h
 |UnaryOp op x p=>exact zT O.ev hA S N h
 |Compare l ops cs p=>
  refine E0 h λo e1 h=>E0 h λr e2 h=>U3 h λg h=> ?_;rw[A8 e1,A8 e2];exact BM B O.ev hA S N (by simpa using g) h
 |BoolOp op xs p=>
  refine E0 h λq e h=> ?_;rw[J7 e];induction op using BoolOp.casesOn with
  |Or=>exact cf O.ev hA S N h
  |And=>exact nY O.ev hA S N h
 |IfExp t x y p=>exact CT (k:=8) B O.ev hA S N h
 |Attribute o x p=>
  refine D0 (iH h) λg h=> ?_;exact vI B O.ev hA S N g h
 |Subscript o i p=>
  refine G6 h (λ_ h=>E0 h λq e h=>U3 h λg h=> ?_) λg h=>uI B O.ev hA S N g h;rw[Vj e,Option.isNone_iff_eq_none.mp g];exact DM O.ev hA S N h
 |ListComp elt gs Y4 p=>exact xD B O.ev (nE B Kd O.ev) hA h S N
 |Call f args rt p=>induction rt using H5 with
  |cons k rt=>exact t9 h
  |nil=>exact K2 h (λa e h=>Wj e▸JK B Kd O.ev O.call hA S N h) λh=>E0 h λa e h=>aH e▸IK B O.ev O.call hA S N h
 |_=>exact t9 h
theorem YU(B:k3 w b)(O:M6 w b n R):kc w b n R:=by
 intro st sc fr σ K h A E s cx rs env m hA S N;have Kd:=kinds w;induction st using PySem.Stmt.casesOn with
 |Expr e p=>exact wY O.ev hA S N h
 |Return o p=>induction o using opQ with
  |some e=>exact zQ O.ev hA S N h
  |none=>exact JG S N h
 |Assign ts e p=>
  refine E0 h λt e1 h=> ?_;rw[A8 e1];refine K2 h (λc e2 h=> ?_) λh=>XQ B Kd O.ev hA S N h;rw[Xj e2];exact LG B Kd O.ev hA S N h
 |If t x y p=>exact Dl (k:=8) B O.ev O.ex hA S N h
 |For t iter body orelse p=>induction orelse using H5 with
  |nil=>exact ag B Kd O.ev O.ex hA S N h
  |cons x y=>exact t9 h
 |While t body orelse p=>induction orelse using H5 with
  |nil=>exact GU (k:=64) B O.ev O.ex hA S N h
  |cons x y=>exact t9 h
 |Try body hs orelse fin p=>induction hs using H5 with
  |nil=>exact t9 h
  |cons x hs=>induction orelse using H5 with
   |cons y z=>exact t9 h
   |nil=>induction fin using H5 with
    |cons y z=>exact t9 h
    |nil=>exact bg O.ex hA S N h
 |Break p=>exact RT S N h
 |Continue p=>exact uK S N h
 |Pass p=>exact xY S N h
 |_=>exact t9 h
theorem uP(B:k3 w b)(O:M6 w b n R)(c:s9 w b (n+1) C):M6 w b (n+1) (GS C R) where
 ev:=λ{_ _ _ _ _} h{_ _ _ _ _ _} hA S N=>t5.up (Nat.le_succ n) (XU B O h) hA S N
 ex:=λ{l sc fr σ K} h=>by
  intro A E s cx rs env m hA S N;exact pf (YU B O) (hA.mono (Nat.le_succ n)) h S N
 call:=λ{f args σ Q} h=>by
  have h:w7 (C f args σ Q) (λP=>P) (E8 R f args σ Q):=h;induction e:C f args σ Q using opQ with
  |some P=>rw[e] at h;exactλ{_ _ _ _ _ _ _ _} hA S hL ha o os=>c e h hA S hL ha o os
  |none=>rw[e] at h;exactλ{_ _ _ _ _ _ _ _}=>uU B O.ex O.call h
theorem K9(B:k3 w b)(k:Nat)(c:∀m,k<=m->s9 w b m C):∀n,M6 w b (k+n) (run C n)
 |0=>{ev:=λh=>t9 (show No 127 from h),ex:=λh=>t9 (show No 128 from h),call:=λh=>t9 (show No 129 from h)}
 |n+1=>uP B (K9 B k c n) (c _ (by show k<=k+n+1;lia))
theorem ZU(B:k3 w b)(c:s9 w b (n+1) C):M6 w b (n+1) (GS C (Sem w b n)):=uP B (OI w b n) c
end
noncomputable def V.Z5(f:Nat->Nat)(v:V):V:=V.casesOn (motive:=λ_=>V) v .none V.bool V.int V.str V.bytes (λi=> .ref (f i)) V.W0 V.fn V.mt V.cl V.ty V.bi
noncomputable def V.lt(n:Nat):V->Prop
 | .ref i=>i<n
 |_=>True
noncomputable def n0.Z5(f:Nat->Nat):n0->n0
 | .lst xs=> .lst (xs.map (V.Z5 f))
 | .tup xs=> .tup (xs.map (V.Z5 f))
 | .cell v=> .cell (v.map (V.Z5 f))
 | .inst c fs=> .inst c (fs.map λp=>(p.1,p.2.Z5 f))
 | .dS es=> .dS (es.map λp=>(p.1,p.2.Z5 f))
 | .dI es=> .dI (es.map λp=>(p.1,p.2.Z5 f))
 | .dT es=> .dT (es.map λp=>(p.1,p.2.1.Z5 f,p.2.2.Z5 f))
 | .D4 o=> .D4 (o.Z5 f)
 |o=>o
noncomputable def n0.lt(n:Nat):n0->Prop
 | .lst xs=>∀v∈xs,v.lt n
 | .tup xs=>∀v∈xs,v.lt n
 | .cell v=>∀u,v=some u->u.lt n
 | .inst _ fs=>∀p∈fs,p.2.lt n
 | .dS es=>∀p∈es,p.2.lt n
 | .dI es=>∀p∈es,p.2.lt n
 | .dT es=>∀p∈es,B8 p.1=true/\p.2.1= .W0 p.1/\p.2.2.lt n
 | .D4 o=>o.lt n
 | .box _=>False
 |_=>True
section
structure y9(f:Nat->Nat)(n:Nat)(rs rs':List RO):Prop where
 ad:∀i,i<n->adr rs' i=adr rs (f i)
 pl:∀p∈L0 rs,p∈L0 rs'
theorem y9.fz(P:y9 f n rs rs')(h:MA b rs a o):MA b rs' a o:=h.imp id (P.pl _)
theorem y9.v(P:y9 f n rs rs'){v:V}{u:Value}(h:v.lt n)(x:E2 b rs (v.Z5 f) u):E2 b rs' v u:=by
 induction v using V.casesOn<;>first|exact x|skip
 .refine u0 x λa e q=> ?_;clear x;exact⟨a,(P.ad _ h).trans e,q⟩
 .exact G3.mono (λ_ _=>P.fz) x
theorem vP(hk:B8 d=true)(x:E2 b rs' (.W0 d) u):G3 (KF b rs') d u:=(nI hk (show G3 (MA b rs') d u from x)).mono λ_ _ z=>⟨z.1,z.2.inR⟩
noncomputable def mj(n:Nat)(f g:Nat->Nat)(v v':V):Prop:=∃x:V,x.lt n/\v=x.Z5 f/\v'=x.Z5 g
noncomputable def Vt(d:Dt)(v:V):Prop:=B8 d=true/\v= .W0 d
theorem xP{f g:Nat->Nat}{xs:List V}(h:∀v∈xs,v.lt n):F2 (mj n f g) (xs.map (V.Z5 f)) (xs.map (V.Z5 g)):= .map λx z=>⟨x,h x z,rfl,rfl⟩
theorem aV{κ:Type}{f g:Nat->Nat}{xs:List (κ×V)}(h:∀p∈xs,p.2.lt n):F2 (PR (mj n f g)) (xs.map λp=>(p.1,p.2.Z5 f)) (xs.map λp=>(p.1,p.2.Z5 g)):= .map λx z=>⟨rfl,x.2,h x z,rfl,rfl⟩
theorem Hc{f g:Nat->Nat}{xs:List (Dt×V×V)}(h:∀p∈xs,B8 p.1=true/\p.2.1= .W0 p.1/\p.2.2.lt n):F2 (TR (mj n f g) Vt) (xs.map λp=>(p.1,p.2.1.Z5 f,p.2.2.Z5 f)) (xs.map λp=>(p.1,p.2.1.Z5 g,p.2.2.Z5 g)):=
 .map λx z=>have y:=h x z;⟨rfl,⟨y.1,by rw[y.2.1];rfl⟩,⟨x.2.1,by rw[y.2.1];trivial,rfl,rfl⟩,x.2.2,y.2.2,rfl,rfl⟩
theorem ZQ(nb:Bool)(k:UInt8×UInt8):B8 (Q1 nb k)=true:=by
 refine u0 (eA nb k) λc h _=> ?_;exact k7 h
theorem gZ{nb:Bool}{es:List Ent}:∀p∈es.map (C6 nb),B8 p.1=true/\p.2.1= .W0 p.1/\p.2.2.lt n:=λp hp=>by
 refine u0 (z5.mp hp) λe _ B0=> ?_;subst B0;exact⟨ZQ _ _,rfl,trivial⟩
theorem iL{nb:Bool}{es:List Ent}:((es.map (C6 nb)).map λp=>(p.1,p.2.1.Z5 f,p.2.2.Z5 f))=es.map (C6 nb):=by
 rw[yC];exact List.map_congr_left λe _=>rfl
theorem Pm{f g:Nat->Nat}{o:n0}(h:o.lt n):AR (mj n f g) Vt (o.Z5 f) (o.Z5 g):=by
 induction o with
 |lst xs=>exact .lst (xP h)
 |tup xs=>exact .tup (xP h)
 |cell v=>induction v using opQ with
  |none=>exact .RE
  |some v=>exact .cell ⟨v,h v rfl,rfl,rfl⟩
 |inst c fs=>exact .inst (aV h)
 |dS es=>exact .dS (aV h)
 |dI es=>exact .dI (aV h)
 |dT es=>exact .dT (Hc h)
 |w9=>exact .w9
 |D4 o ih=>exact .D4 (ih h)
 |L0=>exact .L0
 |dN nb es=>exact .dN (by
  have z:=Hc (n:=n) (f:=f) (g:=g) (gZ (nb:=nb) (es:=es));rw[iL,iL] at z;exact z)
 |any=>exact .any
 |box P=>exact h.elim
theorem V.R4(v:V):v.Z5 id=v:=by induction v using V.casesOn<;>rfl
theorem Q7(xs:List V):xs.map (V.Z5 id)=xs:=by
 rw[List.map_congr_left (g:=id) λv _=>V.R4 v,List.map_id _]
theorem PC(xs:List (κ×V)):(xs.map λp=>(p.1,p.2.Z5 id))=xs:=by
 rw[List.map_congr_left (g:=id) λp _=>show(p.1,p.2.Z5 id)=p by rw[V.R4 _],List.map_id _]
theorem n0.R4(o:n0):o.Z5 id=o:=by
 induction o with
 |lst xs=>exact congrArg n0.lst (Q7 xs)
 |tup xs=>exact congrArg n0.tup (Q7 xs)
 |cell v=>induction v using opQ with
  |none=>rfl
  |some v=>exact congrArg (λv=>n0.cell (some v)) (V.R4 v)
 |inst c fs=>exact congrArg (n0.inst c) (PC fs)
 |dS fs=>exact congrArg n0.dS (PC fs)
 |dI fs=>exact congrArg n0.dI (PC fs)
 |dT fs=>exact congrArg n0.dT (by rw[List.map_congr_left (g:=id) λp _=>show(p.1,p.2.1.Z5 id,p.2.2.Z5 id)=p by rw[V.R4 _,V.R4 _],List.map_id _])
 |D4 o ih=>exact congrArg n0.D4 ih
 |_=>rfl
theorem y9.tr(P:y9 f n rs rs'):Tr b rs rs' (mj n f id) Vt:=⟨λv v' u z x=>J3 z λy h e1 e2=>by
 subst e1;subst e2;rw[V.R4 _];exact P.v h x,λd v a z _ y=>vP z.1 (z.2▸y),P.pl⟩
theorem y9.vs(P:y9 f n rs rs'){xs:List V}{us:List Value}(h:∀v∈xs,v.lt n)(z:V0 b rs (xs.map (V.Z5 f)) us):V0 b rs' xs us:=by
 have:=P.tr.vs (xP h) z
 rwa[Q7] at this
theorem y9.o(P:y9 f n rs rs'){o:n0}{r:RO}(h:o.lt n)(z:P2 w b rs (o.Z5 f) r):P2 w b rs' o r:=by
 have:=P.tr.o (Pm h) z
 rwa[n0.R4] at this
structure XD(f:Nat->Nat)(n:Nat)(rs rs':List RO):Prop where
 ad:∀i,i<n->adr rs (f i)=adr rs' i
 pl:∀p∈L0 rs',p∈L0 rs
theorem XD.fz(P:XD f n rs rs')(h:MA b rs' a o):MA b rs a o:=h.imp id (P.pl _)
theorem XD.v(P:XD f n rs rs'){v:V}{u:Value}(h:v.lt n)(x:E2 b rs' v u):E2 b rs (v.Z5 f) u:=by
 induction v using V.casesOn<;>first|exact x|skip
 .refine u0 x λa e q=> ?_;clear x;exact⟨a,(P.ad _ h).trans e,q⟩
 .exact G3.mono (λ_ _=>P.fz) x
theorem XD.tr(P:XD f n rs rs'):Tr b rs' rs (mj n id f) Vt:=⟨λv v' u z x=>J3 z λy h e1 e2=>by
 subst e1;subst e2;rw[V.R4] at x;exact P.v h x,λd v a z _ y=>vP z.1 (z.2▸y),P.pl⟩
theorem XD.vs(P:XD f n rs rs'){xs:List V}{us:List Value}(h:∀v∈xs,v.lt n)(z:V0 b rs' xs us):V0 b rs (xs.map (V.Z5 f)) us:=P.tr.vs (xP h) (by rwa[Q7 _])
theorem XD.o(P:XD f n rs rs'){o:n0}{r:RO}(h:o.lt n)(z:P2 w b rs' o r):P2 w b rs (o.Z5 f) r:=P.tr.o (Pm h) (by rwa[n0.R4 _])
end
theorem QC(g:RO->List β):(∀i r,J0 rs i=some r->(g r).Nodup)->(∀i j r q,i≠j->J0 rs i=some r->J0 rs j=some q->∀x∈g r,x∉g q)->(rs.flatMap g).Nodup:=by
 induction rs with
 |nil=>
  intro _ _;exact List.nodup_nil
 |cons r rs ih=>
  intro h1 h2;rw[List.flatMap_cons];refine gD.mpr ⟨h1 0 r rfl,ih (λi r hr=>h1 (i+1) r hr) (λi j r q iZ hr hq=>h2 (i+1) (j+1) r q (by lia) hr hq),?_⟩;rintro x hx y hy rfl;refine u0 (List.mem_flatMap.mp hy) λq hq hxq=> ?_;refine O0 (List.mem_iff_getElem?.mp hq) λj hj=> ?_;exact h2 0 (j+1) r q (by lia) rfl (by rw[U0];simpa using hj) x hx hxq
theorem E7(g:RO->List β):(rs.flatMap g).Nodup->(∀i r,J0 rs i=some r->(g r).Nodup)/\(∀i j r q,i≠j->J0 rs i=some r->J0 rs j=some q->∀x∈g r,x∉g q):=by
 induction rs with
 |nil=>
  intro _;exact⟨λi r h=>absurd h (by induction i using iB<;>simp[mB,A9,x8]),λi j r q _ h=>absurd h (by induction i using iB<;>simp[mB,A9,x8])⟩
 |cons r rs ih=>
  intro h;rw[List.flatMap_cons] at h;refine R2 (gD.mp h) λh1 h2 h3=> ?_;refine D0 (ih h2) λi1 i2=> ?_;have mem:∀{j:Nat}{q:RO}{x:β},J0 rs j=some q->x∈g q->x∈rs.flatMap g:=λ{j q x} hq hx=>by
   rw[U0] at hq;exact List.mem_flatMap.mpr ⟨q,List.mem_of_getElem? hq,hx⟩
  refine⟨λi r' hr=> ?_,λi j r' q iZ hr hq x hx mN=> ?_⟩
  .induction i using iB with
   |zero=>obtain rfl:=si hr;exact h1
   |succ i=>exact i1 i r' hr
  .induction i using iB with
   |zero=>
    obtain rfl:=si hr;induction j using iB with
    |zero=>exact iZ rfl
    |succ j=>exact h3 x hx x (mem hq mN) rfl
   |succ i=>
    induction j using iB with
    |zero=>obtain rfl:=si hq;exact h3 x mN x (mem hr hx) rfl
    |succ j=>exact i2 i j r' q (by lia) hr hq x hx mN
theorem B7(rs:List RO):(led rs).map (·.1)=rs.flatMap λr=>r.led.map (·.1):=by
 unfold led;rw[List.map_flatMap]
theorem RC(h:p∈led rs):∃i r,J0 rs i=some r/\p∈r.led:=by
 refine u0 (List.mem_flatMap.mp h) λr hr hp=> ?_;refine O0 (List.mem_iff_getElem?.mp hr) λi hi=> ?_;exact⟨i,r,by rw[U0];exact hi,hp⟩
theorem d8(h:p∈L0 rs):∃i r,J0 rs i=some r/\p∈r.fz:=by
 refine u0 (List.mem_flatMap.mp h) λr hr hp=> ?_;refine O0 (List.mem_iff_getElem?.mp hr) λi hi=> ?_;exact⟨i,r,by rw[U0];exact hi,hp⟩
theorem B4(h:J0 rs i=some r):∀p∈r.fz,p∈L0 rs:=λp hp=>by
 rw[U0] at h;exact List.mem_flatMap.mpr ⟨r,List.mem_of_getElem? h,hp⟩
theorem vg(g:Nat->α)(n:Nat)(h:J0 ((List.range n).map g) i=some x):i<n/\x=g i:=by
 rw[U0,LJ] at h;refine u0 (HJ.mp h) λk hk B0=> ?_;subst B0;refine O0 (kQ.mp hk) λhl he=> ?_;rw[List.getElem_range] at he;subst he;exact⟨by simpa using hl,rfl⟩
theorem fA(g:Nat->α)(h:i<n):J0 ((List.range n).map g) i=some (g i):=by
 rw[U0,LJ,List.getElem?_range h];rfl
theorem l7(h:i<l.length):∃x,J0 l i=some x:=⟨l[i],by rw[U0];exact jX h⟩
theorem Y1(h:J0 l i=some x):i<l.length:=by
 rw[U0] at h;exact(kQ.mp h).1
theorem L1(h:J0 rs i=some r):adr rs i=some r.addr:=by unfold adr;rw[h];rfl
section
theorem M0.parts(S:M0 w b cx H rs h og):(cx.fs.map (·.1)).Nodup/\(cx.os.map (·.1)).Nodup/\((led rs).map (·.1)).Nodup/\(∀x∈cx.fs.map (·.1),x∉cx.os.map (·.1)/\x∉(led rs).map (·.1))/\(∀x∈cx.os.map (·.1),x∉(led rs).map (·.1)):=by
 have nd:=S.nd;rw[w8] at nd;refine R2 (gD.mp nd) λn1 n2 n3=> ?_;refine R2 (gD.mp n2) λm1 m2 m3=> ?_;exact⟨n1,m1,m2,λx hx=>⟨λhy=>n3 x hx x (o7 _ hy) rfl,λhy=>n3 x hx x (u5 _ hy) rfl⟩,λx hx hy=>m3 x hx x hy rfl⟩
theorem jL{cx:Cx}{rs:List RO}(h1:(cx.fs.map (·.1)).Nodup)(h2:(cx.os.map (·.1)).Nodup)(h3:((led rs).map (·.1)).Nodup)(h4:∀x∈cx.fs.map (·.1),x∉cx.os.map (·.1)/\x∉(led rs).map (·.1))(h5:∀x∈cx.os.map (·.1),x∉(led rs).map (·.1)):
 (cx.fs.map (·.1)++(cx.os++led rs).map (·.1)).Nodup:=by
 rw[w8];refine gD.mpr ⟨h1,gD.mpr ⟨h2,h3,?_⟩,?_⟩
 .rintro x hx y hy rfl;exact h5 x hx hy
 .rintro x hx y hy rfl;rcases R5.mp hy with hy|hy
  .exact(h4 x hx).1 hy
  .exact(h4 x hx).2 hy
theorem R7{l:List (Addr×Obj)}(nd:(l.map (·.1)).Nodup){p q:Addr×Obj}(hp:p∈l)(hq:q∈l)(e:p.1=q.1):p=q:=by
 induction l with
 |nil=>cases hp
 |cons x l ih=>
  refine D0 (H7.mp (show(x.1::l.map (·.1)).Nodup from nd)) λn1 n2=> ?_;rcases M4.mp hp with h1|h1
  .rcases M4.mp hq with h2|h2
   .exact h1.trans h2.symm
   .exact absurd (d5 (f:=(·.1)) h2) (by rw[e.symm,h1];exact n1)
  .rcases M4.mp hq with h2|h2
   .exact absurd (d5 (f:=(·.1)) h1) (by rw[e,h2];exact n1)
   .exact ih n2 h1 h2
theorem d4(S:M0 w b cx H rs h og)(hr:J0 rs i=some r)(hq:J0 rs j=some q)(hx:x∈r.led)(hy:y∈q.led)(e:x.1=y.1):i=j:=by
 refine kD S.parts λ_ _ n3 _=> ?_;rw[B7] at n3;by_cases iZ:i=j
 .exact iZ
 .exact absurd (e▸d5 hy) ((E7 _ n3).2 i j r q iZ hr hq x.1 (d5 hx))
end
noncomputable def C3:n0->Bool
 | .any=>false
 | .L0=>false
 | .box _=>false
 | .D4 _=>false
 |_=>true
noncomputable def G4(Hs:List n0)(i:Nat):Bool:=match J0 Hs i with|some o=>C3 o|none=>false
structure a9(Hl Hs:List n0)(f:Nat->Nat):Prop where
 pl:J0 Hl 1=some .L0
 ps:J0 Hs 1=some .L0
 f0:f 0=0
 f1:f 1=1
 inj:∀i j,i<Hs.length->j<Hs.length->f i=f j->i=j
 lt:∀i,i<Hs.length->f i<Hl.length
 dead:∀i o,J0 Hs i=some o->C3 o=false->o= .any\/o= .L0\/((∃o',o= .D4 o')/\J0 Hl (f i)=some (o.Z5 f)/\o.lt Hs.length)
 ob:∀i o,J0 Hs i=some o->C3 o=true->J0 Hl (f i)=some (o.Z5 f)/\o.lt Hs.length
noncomputable def Y0(rs:List RO)(j:Nat):RO:=(J0 rs j).getD (.V5 0 [])
theorem O6(h:J0 rs j=some r):Y0 rs j=r:=by unfold Y0;rw[h];rfl
theorem B1(h:j<rs.length):J0 rs j=some (Y0 rs j):=by
 refine O0 (l7 h) λr hr=> ?_;rw[O6 hr];exact hr
noncomputable def x7(f:Nat->Nat)(Hs:List n0)(rs:List RO):List Addr:=(List.range Hs.length).flatMap λi=>bif G4 Hs i then(Y0 rs (f i)).led.map (·.1) else[]
theorem u4:a∈x7 f Hs rs↔∃i,i<Hs.length/\G4 Hs i=true/\∃p∈(Y0 rs (f i)).led,p.1=a:=by
 unfold x7;rw[List.mem_flatMap];constructor
 .intro B0;refine u0 B0 λi hi ha=> ?_;clear B0;induction e:G4 Hs i using Q2 with
  |false=>rw[e] at ha;cases ha
  |true=>
   rw[e] at ha;refine u0 (z5.mp (show a∈(Y0 rs (f i)).led.map (·.1) from ha)) λp hp q=> ?_;exact⟨i,by simpa using hi,e,p,hp,q⟩
 .rintro⟨i,hi,e,p,hp,rfl⟩;refine⟨i,by simpa using hi,?_⟩;rw[e];exact d5 (f:=(·.1)) hp
noncomputable def Ic(f:Nat->Nat)(Hs:List n0)(rs:List RO):List (Addr×Obj):=(led rs).filter λp=>decide (p.1∉x7 f Hs rs)&&decide (p.1∈(L0 rs).map (·.1))
noncomputable def jZ(f:Nat->Nat)(Hs:List n0)(rs:List RO):List (Addr×Obj):=(led rs).filter λp=>decide (p.1∉x7 f Hs rs)&&decide (p.1∉(L0 rs).map (·.1))
noncomputable def kL(f:Nat->Nat)(Hs:List n0)(rs:List RO):List RO:=(List.range Hs.length).map λi=>if i=1 then .V5 (Y0 rs 1).addr (Ic f Hs rs) else bif G4 Hs i then Y0 rs (f i) else .V5 (Y0 rs (f i)).addr []
theorem lL:∀{r:RO},C3 o=true->P2 w b rs o r->(∃ob,(r.addr,ob)∈r.led)/\∀q∈r.fz,q.1=r.addr:=by
 induction o using n0.casesOn with
 |lst xs=>intro r _ B0;refine V3 B0 λa vs k e h=> ?_;clear B0;subst e;exact⟨⟨_,M3⟩,λq hq=>by cases hq⟩
 |tup xs=>intro r _ B0;refine V3 B0 λa vs k e h=> ?_;clear B0;subst e;exact⟨⟨_,M3⟩,λq hq=>by cases hq⟩
 |cell v=>intro r _ B0;refine T3 B0 λa o c e d h=> ?_;clear B0;subst e;exact⟨⟨_,M3⟩,λq hq=>by cases hq⟩
 |inst c fs=>intro r _ B0;refine EE B0 λa dx C es k e d h=> ?_;clear B0;subst e;exact⟨⟨_,M3⟩,λq hq=>by cases hq⟩
 |dS es=>intro r _ B0;refine T3 B0 λa o l4 e d h=> ?_;clear B0;subst e;exact⟨⟨_,M3⟩,λq hq=>by cases hq⟩
 |dI es=>intro r _ B0;refine T3 B0 λa o l4 e d h=> ?_;clear B0;subst e;exact⟨⟨_,M3⟩,λq hq=>by cases hq⟩
 |dT es=>intro r _ B0;refine A3 B0 λa o e h=> ?_;clear B0;subst e;exact⟨⟨_,M3⟩,λq hq=>by cases hq⟩
 |w9 x y st=>intro r _ B0;refine UJ B0 λa o t u v e h=> ?_;clear B0;subst e;exact⟨⟨_,M3⟩,λq hq=>by cases hq⟩
 |D4 o=>intro r h;exact G2 h
 |dN nb es=>intro r _ B0;refine A3 B0 λa o e h=> ?_;clear B0;subst e;exact⟨⟨_,M3⟩,λq hq=>by cases hq⟩
 |L0=>intro r h;exact G2 h
 |any=>intro r h;exact G2 h
 |box Q=>intro r h;exact G2 h
theorem aR(h:C3 o=true):C3 (o.Z5 f)=true:=by induction o using n0.casesOn<;>first|rfl|exact G2 h
section
theorem i8:p∈Ic f Hs rs↔p∈led rs/\p.1∉x7 f Hs rs/\p.1∈(L0 rs).map (·.1):=by
 unfold Ic;rw[List.mem_filter,JD,decide_eq_true_iff,decide_eq_true_iff]
theorem pE:p∈jZ f Hs rs↔p∈led rs/\p.1∉x7 f Hs rs/\p.1∉(L0 rs).map (·.1):=by
 unfold jZ;rw[List.mem_filter,JD,decide_eq_true_iff,decide_eq_true_iff]
theorem L9(h:i<Hs.length):J0 (kL f Hs rs) i=some (if i=1 then .V5 (Y0 rs 1).addr (Ic f Hs rs) else bif G4 Hs i then Y0 rs (f i) else .V5 (Y0 rs (f i)).addr []):=fA _ h
set_option tactic.hygienic true in
theorem I2(h:G4 Hs i=true):i<Hs.length:=by
 unfold G4 at h
 split at h
 .rename_i o e;exact Y1 e
 .exact G2 h
set_option tactic.hygienic true in
theorem gA(h:G4 Hs i=true):∃o,J0 Hs i=some o/\C3 o=true:=by
 unfold G4 at h
 split at h
 .rename_i o e;exact⟨o,e,h⟩
 .exact G2 h
theorem a9.Qm(V:a9 Hl Hs f):G4 Hs 1=false:=by unfold G4;rw[V.ps];rfl
theorem a9.ne1(V:a9 Hl Hs f)(h:G4 Hs i=true):i≠1:=λe=>by rw[e,V.Qm] at h;exact G2 h
theorem xF(V:a9 Hl Hs f)(h:G4 Hs i=true):J0 (kL f Hs rs) i=some (Y0 rs (f i)):=by
 rw[L9 (I2 h),if_neg (V.ne1 h),h];rfl
theorem QI(V:a9 Hl Hs f):J0 (kL f Hs rs) 1=some (.V5 (Y0 rs 1).addr (Ic f Hs rs)):=by
 rw[L9 (Y1 V.ps),if_pos rfl]
theorem a9.sN(V:a9 Hl Hs f)(S:M0 w b cx Hl rs h og)(hi:i<Hs.length):f i<rs.length:=S.len▸V.lt i hi
theorem RI(V:a9 Hl Hs f)(S:M0 w b cx Hl rs h og)(hi:i<Hs.length):adr (kL f Hs rs) i=adr rs (f i):=by
 rw[L1 (L9 hi),L1 (B1 (V.sN S hi))];by_cases e:i=1
 .subst e;rw[if_pos rfl,V.f1];rfl
 .rw[if_neg e];cases G4 Hs i<;>rfl
theorem b9(V:a9 Hl Hs f)(S:M0 w b cx Hl rs h og)(hr:J0 (kL f Hs rs) i=some r):(i=1/\r= .V5 (Y0 rs 1).addr (Ic f Hs rs))\/(G4 Hs i=true/\i≠1/\r=Y0 rs (f i))\/(G4 Hs i=false/\i≠1/\r.led=[]/\r.fz=[]):=by
 have hi:i<Hs.length:=by have:=Y1 hr;simpa[kL] using this
 rw[L9 hi] at hr;by_cases e:i=1
 .rw[if_pos e] at hr;obtain rfl:=si hr;exact .inl ⟨e,rfl⟩
 .rw[if_neg e] at hr;induction hl:G4 Hs i using Q2 with
  |true=>rw[hl] at hr;obtain rfl:=si hr;exact .inr (.inl ⟨rfl,e,rfl⟩)
  |false=>rw[hl] at hr;obtain rfl:=si hr;exact .inr (.inr ⟨rfl,e,rfl,rfl⟩)
theorem mL(h:p∈L0 rs):p∈led rs:=j4 h
theorem F7{l:List (Addr×Obj)}{p:Addr×Obj->Bool}(h:(l.map (·.1)).Nodup):((l.filter p).map (·.1)).Nodup:=List.Nodup.sublist (List.Sublist.map _ List.filter_sublist) h
theorem wg(S:M0 w b cx Hl rs h og)(V:a9 Hl Hs f):M0 w b ⟨cx.fs,jZ f Hs rs++cx.os,cx.og⟩ Hs (kL f Hs rs) h og/\y9 f Hs.length rs (kL f Hs rs):=by
 refine AE S.parts λn1 n2 n3 n4 n5=> ?_;have sub:∀p∈led (kL f Hs rs),p∈led rs:=λp hp=>by
  refine A3 (RC hp) λi r hr hp=> ?_;rcases b9 V S hr with⟨_,rfl⟩|⟨hl,_,rfl⟩|⟨_,_,e,_⟩
  .exact(i8.mp hp).1
  .exact B3 (B1 (V.sN S (I2 hl))) p hp
  .rw[e] at hp;cases hp
 have xg:∀p∈jZ f Hs rs,p∈led rs:=λp hp=>(pE.mp hp).1;have yg:((led (kL f Hs rs)).map (·.1)).Nodup:=by
  rw[B7 _];have Rm:=n3;rw[B7] at Rm;refine QC _ (λi r hr=> ?_) (λi j r q iZ hr hq x hx mN=> ?_)
  .rcases b9 V S hr with⟨_,rfl⟩|⟨hl,_,rfl⟩|⟨_,_,e,_⟩
   .exact F7 n3
   .exact(E7 _ Rm).1 _ _ (B1 (V.sN S (I2 hl)))
   .rw[e];exact List.nodup_nil
  .refine u0 (z5.mp hx) λp hp B0=> ?_;subst B0;refine u0 (z5.mp mN) λp' W7 e=> ?_;rcases b9 V S hr with⟨_,rfl⟩|⟨hl,_,rfl⟩|⟨_,_,e,_⟩
   .rcases b9 V S hq with⟨_,rfl⟩|⟨rX,_,rfl⟩|⟨_,_,e,_⟩
    .lia
    .exact(i8.mp hp).2.1 (u4.mpr ⟨j,I2 rX,rX,p',W7,e⟩)
    .rw[e] at W7;cases W7
   .rcases b9 V S hq with⟨_,rfl⟩|⟨rX,_,rfl⟩|⟨_,_,e,_⟩
    .exact(i8.mp W7).2.1 (u4.mpr ⟨i,I2 hl,hl,p,hp,e.symm⟩)
    .exact iZ (V.inj _ _ (I2 hl) (I2 rX) (d4 S (B1 (V.sN S (I2 hl))) (B1 (V.sN S (I2 rX))) hp W7 e.symm))
    .rw[e] at W7;cases W7
   .rw[e] at hp;cases hp
 have dis:∀p∈jZ f Hs rs,p.1∉(led (kL f Hs rs)).map (·.1):=λp hp hm=>by
  refine u0 (z5.mp hm) λq hq e=> ?_;refine A3 (RC hq) λi r hr hq=> ?_;refine R2 (pE.mp hp) λ_ o2 o3=> ?_;rcases b9 V S hr with⟨_,rfl⟩|⟨hl,_,rfl⟩|⟨_,_,e',_⟩
  .exact o3 (e▸(i8.mp hq).2.2)
  .exact o2 (u4.mpr ⟨i,I2 hl,hl,q,hq,e⟩)
  .rw[e'] at hq;cases hq
 have P:y9 f Hs.length rs (kL f Hs rs):=by
  refine⟨λi hi=>RI V S hi,λp hp=> ?_⟩;by_cases hl:p.1∈x7 f Hs rs
  .obtain⟨i,hi,l1,q,hq,e⟩:=u4.mp hl;refine A3 (d8 hp) λj r hr W7=> ?_;have:=d4 S (B1 (V.sN S hi)) hr hq (RO.s7 W7) e;subst this;refine B4 (xF V l1) p ?_;rw[O6 hr];exact W7
  .exact B4 (QI V) p (i8.mpr ⟨mL hp,hl,d5 (f:=(·.1)) hp⟩)
 refine⟨⟨S.keep,S.ns,λp hp=> ?_,?_,by simp[kL],S.big,?_,λi o r e1 e2=> ?_⟩,P⟩
 .refine S.at_ p ?_;rcases R5.mp hp with hp|hp
  .rcases R5.mp hp with hp|hp
   .exact u5 _ (xg p hp)
   .exact o7 _ hp
  .exact u5 _ (sub p hp)
 .refine jL (cx:=⟨cx.fs,jZ f Hs rs++cx.os,cx.og⟩) n1 ?_ yg (λx hx=>⟨λhm=> ?_,λhm=> ?_⟩) (λx hx hm=> ?_)
  .rw[w8];refine gD.mpr ⟨F7 n3,n2,?_⟩;rintro x hx y hy rfl;refine u0 (z5.mp hx) λp hp B0=> ?_;subst B0;exact n5 _ hy (d5 (f:=(·.1)) (xg p hp))
  .rw[w8] at hm;rcases R5.mp hm with hm|hm
   .refine u0 (z5.mp hm) λp hp B0=> ?_;subst B0;exact(n4 _ hx).2 (d5 (f:=(·.1)) (xg p hp))
   .exact(n4 _ hx).1 hm
  .refine u0 (z5.mp hm) λp hp B0=> ?_;subst B0;exact(n4 _ hx).2 (d5 (f:=(·.1)) (sub p hp))
  .rw[w8] at hx;rcases R5.mp hx with hx|hx
   .refine u0 (z5.mp hx) λp hp B0=> ?_;subst B0;exact dis p hp hm
   .refine u0 (z5.mp hm) λp hp B0=> ?_;subst B0;exact n5 _ hx (d5 (f:=(·.1)) (sub p hp))
 .rw[RI V S (Nat.lt_trans Nat.zero_lt_one (Y1 V.ps)),V.f0];exact S.tab
 .rcases b9 V S e2 with⟨rfl,rfl⟩|⟨hl,_,rfl⟩|⟨hl,h1,_,_⟩
  .rw[V.ps] at e1;obtain rfl:=si e1;exact⟨_,_,rfl⟩
  .refine u0 (gA hl) λo' e3 so=> ?_;rw[e1] at e3;obtain rfl:=si e3;refine D0 (V.ob i o e1 so) λv1 v2=> ?_;exact P.o v2 (S.ok _ _ _ v1 (B1 (V.sN S (I2 hl))))
  .have:C3 o=false:=by unfold G4 at hl;rw[e1] at hl;exact hl
   have hi:=Y1 e1;rw[L9 hi,if_neg h1,hl] at e2;obtain rfl:=si e2;rcases V.dead i o e1 this with rfl|rfl|⟨⟨o',rfl⟩,v1,v2⟩
   .trivial
   .exact⟨_,_,rfl⟩
   .refine T3 (S.ok _ _ _ v1 (B1 (V.sN S hi))) λa ob l e m ok=> ?_;refine⟨_,ob,[],rfl,?_,?_⟩
    .rw[e];exact P.pl _ m
    .rw[e];exact P.o (o:=o') v2 ok
noncomputable def T4(f:Nat->Nat)(Hs:List n0)(j:Nat):Option Nat:=(List.range Hs.length).find? λi=>G4 Hs i&&Nat.beq (f i) j
theorem D2(h:T4 f Hs j=some i):G4 Hs i=true/\f i=j:=by
 have:=List.find?_some h;rw[JD] at this;exact⟨this.1,V9 this.2⟩
theorem TC(V:a9 Hl Hs f)(h:G4 Hs i=true):T4 f Hs (f i)=some i:=by
 induction e:T4 f Hs (f i) using opQ with
 |none=>
  have:=List.find?_eq_none.mp e i (by simpa using I2 h);rw[h] at this;simp at this
 |some k=>
  refine D0 (D2 e) λk1 k2=> ?_;rw[V.inj _ _ (I2 k1) (I2 h) k2]
theorem M9(V:a9 Hl Hs f)(h:T4 f Hs j=none)(hi:G4 Hs i=true):f i≠j:=λe=>by
 rw[<-e,TC V hi] at h;exact MR h
theorem tN(V:a9 Hl Hs f):T4 f Hs 1=none:=by
 induction e:T4 f Hs 1 using opQ with
 |none=>rfl
 |some k=>
  refine D0 (D2 e) λk1 k2=> ?_;exact absurd (V.inj _ _ (I2 k1) (Y1 V.ps) (k2.trans V.f1.symm)) (V.ne1 k1)
noncomputable def yF(f:Nat->Nat)(Hs:List n0)(rs:List RO):List Addr:=(List.range rs.length).flatMap λj=>if j=1 then[] else match T4 f Hs j with|some _=>[]|none=>(Y0 rs j).led.map (·.1)
theorem iA:a∈yF f Hs rs↔∃j,j<rs.length/\j≠1/\T4 f Hs j=none/\∃p∈(Y0 rs j).led,p.1=a:=by
 unfold yF;rw[List.mem_flatMap];constructor
 .intro B0;refine u0 B0 λj hj ha=> ?_;clear B0;by_cases e:j=1
  .rw[if_pos e] at ha;cases ha
  .rw[if_neg e] at ha;induction hl:T4 f Hs j using opQ with
   |some k=>rw[hl] at ha;cases ha
   |none=>
    rw[hl] at ha;refine u0 (z5.mp (show a∈(Y0 rs j).led.map (·.1) from ha)) λp hp q=> ?_;exact⟨j,by simpa using hj,e,hl,p,hp,q⟩
 .rintro⟨j,hj,e,hl,p,hp,rfl⟩;refine⟨j,by simpa using hj,?_⟩;rw[if_neg e,hl];exact d5 (f:=(·.1)) hp
noncomputable def zg(f:Nat->Nat)(Hs:List n0)(rs I3:List RO):List (Addr×Obj):=(led I3).filter λp=>decide (p.1∉x7 id Hs I3)&&decide (p.1∉yF f Hs rs)
theorem j8:p∈zg f Hs rs I3↔p∈led I3/\p.1∉x7 id Hs I3/\p.1∉yF f Hs rs:=by
 unfold zg;rw[List.mem_filter,JD,decide_eq_true_iff,decide_eq_true_iff]
noncomputable def UK(f:Nat->Nat)(Hs:List n0)(rs I3:List RO):List RO:=(List.range rs.length).map λj=>if j=1 then .V5 (Y0 rs 1).addr (zg f Hs rs I3) else match T4 f Hs j with|some i=>Y0 I3 i|none=>Y0 rs j
theorem c9(h:j<rs.length):J0 (UK f Hs rs I3) j=some (if j=1 then .V5 (Y0 rs 1).addr (zg f Hs rs I3) else match T4 f Hs j with|some i=>Y0 I3 i|none=>Y0 rs j):=fA _ h
theorem jA(hr:J0 (UK f Hs rs I3) j=some r):j<rs.length/\((j=1/\r= .V5 (Y0 rs 1).addr (zg f Hs rs I3))\/(j≠1/\∃i,T4 f Hs j=some i/\r=Y0 I3 i)\/(j≠1/\T4 f Hs j=none/\r=Y0 rs j)):=by
 have hi:j<rs.length:=by have:=Y1 hr;simpa[UK] using this
 refine⟨hi,?_⟩;rw[c9 hi] at hr;by_cases e:j=1
 .rw[if_pos e] at hr;obtain rfl:=si hr;exact .inl ⟨e,rfl⟩
 .rw[if_neg e] at hr;induction hl:T4 f Hs j using opQ with
  |some i=>rw[hl] at hr;obtain rfl:=si hr;exact .inr (.inl ⟨e,i,rfl,rfl⟩)
  |none=>rw[hl] at hr;obtain rfl:=si hr;exact .inr (.inr ⟨e,rfl,rfl⟩)
structure Ag(Hl Hs Hs' H':List n0)(f:Nat->Nat):Prop where
 len:H'.length=Hl.length
 live:∀i,G4 Hs i=true->∃o,J0 Hs' i=some o/\C3 o=true/\o.lt Hs.length/\J0 H' (f i)=some (o.Z5 f)
 rest:∀j,j<Hl.length->(∀i,G4 Hs i=true->f i≠j)->J0 H' j=J0 Hl j
theorem kZ(S:M0 w b cx Hl rs h og)(V:a9 Hl Hs f)(S':M0 w b ⟨cx.fs,jZ f Hs rs++cx.os,cx.og⟩ Hs' I3 h' qm)(X:Ext (kL f Hs rs) I3)(B:Ag Hl Hs Hs' H' f):
 M0 w b cx H' (UK f Hs rs I3) h' qm/\Ext rs (UK f Hs rs I3)/\XD f Hs.length (UK f Hs rs I3) I3:=by
 refine AE S.parts λn1 n2 n3 n4 n5=> ?_;refine AE S'.parts λm1 m2 m3 m4 m5=> ?_;have nj:1<rs.length:=S.len▸Y1 V.pl;have l2:∀{i},i<Hs.length->J0 I3 i=some (Y0 I3 i):=λ{i} hi=>by
  have:=X.at_ i _ (L1 (L9 hi));unfold adr at this;refine u0 (HJ.mp this) λr hr _=> ?_;rw[O6 hr];exact hr
 have NR:∀{i},i<Hs.length->adr I3 i=adr rs (f i):=λ{i} hi=>by
  rw[(RI V S hi).symm,L1 (L9 hi)];exact X.at_ i _ (L1 (L9 hi))
 have liv:∀{i},G4 Hs i=true->∃o,J0 Hs' i=some o/\C3 o=true/\o.lt Hs.length/\J0 H' (f i)=some (o.Z5 f)/\P2 w b I3 o (Y0 I3 i):=λ{i} hi=>by
  refine I7 (B.live i hi) λo e1 e2 e3 e4=> ?_;exact⟨o,e1,e2,e3,e4,S'.ok i o _ e1 (l2 (I2 hi))⟩
 have cV:∀{i},G4 Hs i=true->(Y0 I3 i).addr∈x7 f Hs rs:=λ{i} hi=>by
  have e:=NR (I2 hi);rw[L1 (l2 (I2 hi)),L1 (B1 (V.sN S (I2 hi)))] at e;refine u0 (gA hi) λo e3 so=> ?_;refine D0 (V.ob i o e3 so) λv1 v2=> ?_;refine D0 (lL (aR so) (S.ok _ _ _ v1 (B1 (V.sN S (I2 hi))))) λB0=> ?_;refine O0 B0 λob ho=> ?_;clear B0;intro _;exact u4.mpr ⟨i,I2 hi,hi,_,ho,(si e).symm⟩
 have Bg:∀{q:Addr×Obj},q∈L0 (kL f Hs rs)->q.1∉x7 f Hs rs->q.1∉x7 id Hs I3:=λ{q} hq hn hm=>by
  obtain⟨i,hi,l1,p,hp,e⟩:=u4.mp hm;have Sm:=X.fz q hq;refine A3 (d8 Sm) λm r hr uw=> ?_;have:=d4 S' hr (l2 hi) (RO.s7 uw) hp e.symm;subst this;refine b8 (liv l1) λo e1 e2 e3 _ ok=> ?_;rw[<-O6 hr] at uw;exact hn ((lL e2 ok).2 q uw▸cV l1)
 have uN:∀{j:Nat}{q:Addr×Obj},j<rs.length->j≠1->T4 f Hs j=none->q∈(Y0 rs j).led->q∈led rs/\q.1∉x7 f Hs rs/\(q∈jZ f Hs rs\/(q∈Ic f Hs rs/\q∈led I3/\q∈L0 (kL f Hs rs))):=λ{j q} hj h1 hl hq=>by
  have wm:=B3 (B1 hj) q hq;have Sm:q.1∉x7 f Hs rs:=λhm=>by
   obtain⟨i,hi,l1,p,hp,e⟩:=u4.mp hm;exact M9 V hl l1 (d4 S (B1 (V.sN S hi)) (B1 hj) hp hq e)
  refine⟨wm,Sm,?_⟩;by_cases hp:q.1∈(L0 rs).map (·.1)
  .have hz:q∈Ic f Hs rs:=i8.mpr ⟨wm,Sm,hp⟩;have Wt:q∈L0 (kL f Hs rs):=B4 (QI V) q hz;exact .inr ⟨hz,j4 (X.fz q Wt),Wt⟩
  .exact .inl (pE.mpr ⟨wm,Sm,hp⟩)
 have eV:∀{j:Nat}{q:Addr×Obj},j<rs.length->q∈(Y0 rs j).led->q.1∈(L0 rs).map (·.1)->q∈(Y0 rs j).fz:=λ{j q} hj hq hp=>by
  refine u0 (z5.mp hp) λp Um e=> ?_;have eq:=R7 n3 (j4 Um) (B3 (B1 hj) q hq) e;refine A3 (d8 Um) λk r hr NB=> ?_;rw[eq] at NB;have ek:=d4 S hr (B1 hj) (RO.s7 NB) hq rfl;rw[ek] at hr;rw[O6 hr];exact NB
 have Vm:∀p∈led (UK f Hs rs I3),p∈(jZ f Hs rs++cx.os)++led I3:=λp hp=>by
  refine A3 (RC hp) λj r hr hp=> ?_;refine D0 (jA hr) λhj h=> ?_;rcases h with⟨_,rfl⟩|⟨_,i,hi,rfl⟩|⟨h1,hl,rfl⟩
  .exact u5 _ (j8.mp hp).1
  .exact u5 _ (B3 (l2 (I2 (D2 hi).1)) p hp)
  .rcases(uN hj h1 hl hp).2.2 with q|⟨_,q,_⟩
   .exact o7 _ (o7 _ q)
   .exact u5 _ q
 have nL:∀{i j:Nat}{p q:Addr×Obj},G4 Hs i=true->p∈(Y0 I3 i).led->j<rs.length->j≠1->T4 f Hs j=none->q∈(Y0 rs j).led->p.1≠q.1:=λ{i j p q} hi hp hj h1 hl hq e=>by
  refine R2 (uN hj h1 hl hq) λ_ hn h=> ?_;have Wt:=B3 (l2 (I2 hi)) p hp;rcases h with h|⟨_,_,h⟩
  .exact m5 q.1 (by rw[w8];exact o7 _ (d5 (f:=(·.1)) h)) (e▸d5 (f:=(·.1)) Wt)
  .exact Bg h hn (u4.mpr ⟨i,I2 hi,hi,p,hp,e⟩)
 have yg:((led (UK f Hs rs I3)).map (·.1)).Nodup:=by
  rw[B7 _];have Rm:=n3;rw[B7] at Rm;have m3':=m3;rw[B7] at m3';refine QC _ (λj r hr=> ?_) (λj k r q hjk hr hq x hx mN=> ?_)
  .refine D0 (jA hr) λhj h=> ?_;rcases h with⟨_,rfl⟩|⟨_,i,hi,rfl⟩|⟨h1,hl,rfl⟩
   .exact F7 m3
   .exact(E7 _ m3').1 _ _ (l2 (I2 (D2 hi).1))
   .exact(E7 _ Rm).1 _ _ (B1 hj)
  .refine u0 (z5.mp hx) λp hp B0=> ?_;subst B0;refine u0 (z5.mp mN) λp' W7 e=> ?_;refine D0 (jA hr) λhj h=> ?_;refine D0 (jA hq) λhk h'=> ?_;rcases h with⟨_,rfl⟩|⟨h1,i,hi,rfl⟩|⟨h1,hl,rfl⟩
   .rcases h' with⟨_,rfl⟩|⟨Cg,i',KJ,rfl⟩|⟨Cg,rX,rfl⟩
    .lia
    .exact(j8.mp hp).2.1 (u4.mpr ⟨i',I2 (D2 KJ).1,(D2 KJ).1,p',W7,e⟩)
    .exact(j8.mp hp).2.2 (iA.mpr ⟨k,hk,Cg,rX,p',W7,e⟩)
   .rcases h' with⟨_,rfl⟩|⟨Cg,i',KJ,rfl⟩|⟨Cg,rX,rfl⟩
    .exact(j8.mp W7).2.1 (u4.mpr ⟨i,I2 (D2 hi).1,(D2 hi).1,p,hp,e.symm⟩)
    .have:=d4 S' (l2 (I2 (D2 hi).1)) (l2 (I2 (D2 KJ).1)) hp W7 e.symm;subst this;exact hjk ((D2 hi).2.symm.trans (D2 KJ).2)
    .exact nL (D2 hi).1 hp hk Cg rX W7 e.symm
   .rcases h' with⟨_,rfl⟩|⟨Cg,i',KJ,rfl⟩|⟨Cg,rX,rfl⟩
    .exact(j8.mp W7).2.2 (iA.mpr ⟨j,hj,h1,hl,p,hp,e.symm⟩)
    .exact nL (D2 KJ).1 W7 hj h1 hl hp e
    .exact hjk (d4 S (B1 hj) (B1 hk) hp W7 e.symm)
 have oj:∀{j:Nat},j<rs.length->adr (UK f Hs rs I3) j=adr rs j:=λ{j} hj=>by
  rw[L1 (c9 hj)];by_cases h1:j=1
  .subst h1;rw[if_pos rfl,L1 (B1 hj)];rfl
  .rw[if_neg h1];induction hl:T4 f Hs j using opQ with
   |none=>rw[L1 (B1 hj)]
   |some i=>
    refine D0 (D2 hl) λk1 k2=> ?_;rw[k2.symm,(NR (I2 k1)).symm,L1 (l2 (I2 k1))]
 have UC:∀p∈L0 I3,p∈L0 (UK f Hs rs I3):=λp hp=>by
  have xw:=j4 hp;refine A3 (d8 hp) λm r hr NB=> ?_;by_cases h1:p.1∈x7 id Hs I3
  .obtain⟨i,hi,li,q,hq,e⟩:=u4.mp h1;have:=d4 S' hr (l2 hi) (RO.s7 NB) hq e.symm;subst this;refine B4 (i:=f m) (r:=r) ?_ p NB;rw[c9 (V.sN S hi),if_neg (λe=>V.ne1 li (V.inj _ _ hi (Y1 V.ps) (e.trans V.f1.symm))),TC V li];exact congrArg some (O6 hr)
  .by_cases h2:p.1∈yF f Hs rs
   .obtain⟨j,hj,hj1,hl,q,hq,e⟩:=iA.mp h2;refine R2 (uN hj hj1 hl hq) λq1 q2 h=> ?_;rcases h with h|⟨h,h3,_⟩
    .exact absurd (e▸d5 (f:=(·.1)) xw) (m5 q.1 (by rw[w8];exact o7 _ (d5 (f:=(·.1)) h)))
    .have:=R7 m3 xw h3 e.symm;subst this;refine B4 (i:=j) (r:=Y0 rs j) ?_ p (eV hj hq (i8.mp h).2.2);rw[c9 hj,if_neg hj1,hl]
   .exact B4 (i:=1) (r:= .V5 (Y0 rs 1).addr (zg f Hs rs I3)) (by rw[c9 nj,if_pos rfl]) p (j8.mpr ⟨xw,h1,h2⟩)
 have Wm:∀p∈led I3,p.1∉yF f Hs rs->p∈led (UK f Hs rs I3):=λp hp h2=>by
  by_cases h1:p.1∈x7 id Hs I3
  .obtain⟨i,hi,li,q,hq,e⟩:=u4.mp h1;have:=R7 m3 hp (B3 (l2 hi) q hq) e.symm;subst this;refine B3 (i:=f i) (r:=Y0 I3 i) ?_ p hq;rw[c9 (V.sN S hi),if_neg (λe=>V.ne1 li (V.inj _ _ hi (Y1 V.ps) (e.trans V.f1.symm))),TC V li]
  .exact B3 (i:=1) (r:= .V5 (Y0 rs 1).addr (zg f Hs rs I3)) (by rw[c9 nj,if_pos rfl]) p (j8.mpr ⟨hp,h1,h2⟩)
 have lZ:∀{j:Nat}{p:Addr×Obj},j<rs.length->p∈(Y0 rs j).led->(j=1\/∃i,T4 f Hs j=some i)->p.1∉yF f Hs rs:=λ{j p} hj hp hc hm=>by
  obtain⟨k,hk,yw,hl,q,hq,e⟩:=iA.mp hm;have:=d4 S (B1 hj) (B1 hk) hp hq e.symm;subst this;rcases hc with hc|⟨i,hc⟩
  .exact yw hc
  .rw[hc] at hl;exact MR hl
 have one:∀{p:Addr×Obj},p∈(Y0 rs 1).led->p∈L0 I3:=λ{p} hp=>by
  refine w6 (S.ok 1 _ _ V.pl (B1 nj)) λa l e=> ?_;have hz:p∈(Y0 rs 1).fz:=by rw[e] at hp⊢;exact hp
  have Um:=B4 (B1 nj) p hz;refine X.fz p (B4 (QI V) p (i8.mpr ⟨j4 Um,λhm=> ?_,d5 (f:=(·.1)) Um⟩));obtain⟨i,hi,li,q,hq,e⟩:=u4.mp hm;exact V.ne1 li (V.inj _ _ hi (Y1 V.ps) ((d4 S (B1 (V.sN S hi)) (B1 nj) hq hp e).trans V.f1.symm))
 have XB:Ext rs (UK f Hs rs I3):=by
  refine⟨λj a e=> ?_,λa o hm ht=> ?_,λp hp=> ?_⟩
  .have hj:j<rs.length:=by
    unfold adr at e;refine u0 (HJ.mp e) λr hr _=> ?_;exact Y1 hr
   rw[oj hj];exact e
  .refine A3 (RC hm) λj r hr hp=> ?_;have hj:=Y1 hr;rw[<-O6 hr] at hp;by_cases h1:j=1
   .subst h1;exact j4 (UC _ (one hp))
   .induction hl:T4 f Hs j using opQ with
    |some i=>
     refine D0 (D2 hl) λk1 k2=> ?_;subst k2;exact Wm _ (X.tup a o (B3 (xF V k1) _ hp) ht) (lZ hj hp (.inr ⟨i,hl⟩))
    |none=>exact B3 (i:=j) (r:=Y0 rs j) (by rw[c9 hj,if_neg h1,hl]) _ hp
  .refine A3 (d8 hp) λj r hr NB=> ?_;have hj:=Y1 hr;rw[<-O6 hr] at NB;by_cases h1:j=1
   .subst h1;exact UC _ (one (RO.s7 NB))
   .induction hl:T4 f Hs j using opQ with
    |some i=>
     refine D0 (D2 hl) λk1 k2=> ?_;subst k2;exact UC _ (X.fz p (B4 (xF V k1) p NB))
    |none=>exact B4 (i:=j) (r:=Y0 rs j) (by rw[c9 hj,if_neg h1,hl]) p NB
 have PB:XD f Hs.length (UK f Hs rs I3) I3:=⟨λi hi=>by rw[oj (V.sN S hi),NR hi],UC⟩;refine⟨⟨S'.keep,S'.ns,λp hp=> ?_,?_,?_,S'.big,?_,λj o r e1 e2=> ?_⟩,XB,PB⟩
 .refine S'.at_ p ?_;rcases R5.mp hp with hp|hp
  .exact o7 _ (u5 _ hp)
  .exact Vm p hp
 .refine jL m1 n2 yg (λx hx=>⟨(n4 x hx).1,λhm=> ?_⟩) (λx hx hm=> ?_)
  .refine u0 (z5.mp hm) λp hp B0=> ?_;subst B0;rcases R5.mp (Vm p hp) with q|q
   .exact(m4 _ hx).1 (d5 (f:=(·.1)) q)
   .exact(m4 _ hx).2 (d5 (f:=(·.1)) q)
  .refine u0 (z5.mp hm) λp hp B0=> ?_;subst B0;rcases R5.mp (Vm p hp) with q|q
   .rcases R5.mp q with q|q
    .exact n5 _ hx (d5 (f:=(·.1)) (pE.mp q).1)
    .rw[w8] at m2;refine A3 (RC hp) λj r hr NB=> ?_;refine D0 (jA hr) λhj h=> ?_;rcases h with⟨_,rfl⟩|⟨_,i,hi,rfl⟩|⟨h1,hl,rfl⟩
     .exact m5 p.1 (by rw[w8];exact u5 _ hx) (d5 (f:=(·.1)) (j8.mp NB).1)
     .exact m5 p.1 (by rw[w8];exact u5 _ hx) (d5 (f:=(·.1)) (B3 (l2 (I2 (D2 hi).1)) p NB))
     .exact n5 _ hx (d5 (f:=(·.1)) (B3 (B1 hj) p NB))
   .exact m5 p.1 (by rw[w8];exact u5 _ hx) (d5 (f:=(·.1)) q)
 .rw[B.len,S.len];simp[UK]
 .rw[oj (Nat.lt_trans Nat.zero_lt_one nj)];exact S.tab
 .refine D0 (jA e2) λhj h=> ?_;rcases h with⟨rfl,rfl⟩|⟨_,i,hi,rfl⟩|⟨h1,hl,rfl⟩
  .rw[B.rest 1 (S.len▸hj) (λi hi=>M9 V (tN V) hi),V.pl] at e1;obtain rfl:=si e1;exact⟨_,_,rfl⟩
  .refine D0 (D2 hi) λk1 k2=> ?_;refine b8 (liv k1) λo' e3 e4 e5 e6 ok=> ?_;rw[<-k2,e6] at e1;obtain rfl:=si e1;exact PB.o e5 ok
  .rw[B.rest j (S.len▸hj) (λi hi=>M9 V hl hi)] at e1;exact(S.ok j o _ e1 (B1 hj)).ext XB
end
section
theorem V6{Φ Ψ:Value->Shared->Prop}{A:Around}{c:Code}{s:Shared}(x:codeAny (model E1 w) A c (λr s'=>match r with| .ok (.ret v)=>Φ v s'|_=>False) s)(k:∀v s',Φ v s'->Ψ v s'):
 codeAny (model E1 w) A c (λr s'=>match r with| .ok (.ret v)=>Ψ v s'|_=>False) s:=
 codeAny_mono x λr s' z=>by rcases r with e|(v|_|_|_)<;>first|exact z.elim|exact k _ _ z
theorem OB{fn:V}{args as:List V}{t t0:List Bool}{Q:K1}(hf:∀i,fn≠.ref i)(V1:a9 Hl Hs f)(ha:args=as.map (V.Z5 f))(Y8:∀v∈as,v.lt Hs.length)
 (x:F0 w b n fn as ⟨Hs,t⟩ λv F1=>v.lt Hs.length/\∃H' t',Ag Hl Hs F1.heap H' f/\Q (v.Z5 f) ⟨H',t'⟩):F0 w b n fn args ⟨Hl,t0⟩ Q:=by
 intro A s cx rs u us L m hA S hL hb of os;refine D0 (wg S V1) λS1 P=> ?_;have zw:fn.Z5 f=fn:=by induction fn using V.casesOn<;>first|rfl|exact absurd rfl (hf _)
 have lt1:fn.lt Hs.length:=by induction fn using V.casesOn<;>first|trivial|exact absurd rfl (hf _)
 refine V6 (x hA S1 hL hb (P.v lt1 (zw.symm▸of)) (P.vs Y8 (ha▸os))) λv s' z=> ?_;obtain⟨a,F1,r2,⟨hl,H',t',B,q⟩,S2,X,o⟩:=z;refine R2 (kZ S V1 S2 X B) λS3 X3 P3=> ?_;exact⟨a.Z5 f,⟨H',t'⟩,_,q,S3,X3,P3.v hl o⟩
theorem I5{fn:V}{args:List V}{σ:St}{Q Q':K1}(x:F0 w b n fn args σ Q')(k:∀v F1,Q' v F1->Q v F1):F0 w b n fn args σ Q:=by
 intro A s cx rs u us L m hA S hL hb of os;exact V6 (x hA S hL hb of os) λv s'⟨a,F1,r2,q,z1,z2,z3⟩=>⟨a,F1,r2,k _ _ q,z1,z2,z3⟩
theorem SI(x:t5 w b n e sc fr σ Q')(k:∀v F1,Q' v F1->Q v F1):t5 w b n e sc fr σ Q:=by
 intro A E s cx rs env hA S N;exact wpAny_mono (x hA S N) (λv s'⟨a,F1,r2,q,z1,z2,z3⟩=>⟨a,F1,r2,k _ _ q,z1,z2,z3⟩) λ_ _ z=>z
theorem QB{l:List Stmt}{sc:Scope}{fr:J2}{σ:St}{K K':KS}(x:R0 w b n l sc fr σ K')(k:∀g V8 F1,K' g V8 F1->K g V8 F1):R0 w b n l sc fr σ K:=by
 intro A E s cx rs env m hA S N;exact wpAny_mono (x hA S N) (λv s'⟨g,V8,F1,r2,m2,q,z1,z2,z3,z4⟩=>⟨g,V8,F1,r2,m2,k _ _ _ q,z1,z2,z3,z4⟩) λ_ _ z=>z
theorem W6(x:F0 w b n fn args ⟨H,t⟩ Q):F0 w b n fn args ⟨H,t0⟩ Q:=λ_ _ _ _ _ _ _ _ hA S=>x hA S
theorem d7(x:t5 w b n e sc fr ⟨H,t⟩ Q):t5 w b n e sc fr ⟨H,t0⟩ Q:=λ_ _ _ _ _ _ hA S=>x hA S
theorem J5{l:List Stmt}{sc:Scope}{fr:J2}{t t0:List Bool}{K:KS}(x:R0 w b n l sc fr ⟨H,t⟩ K):R0 w b n l sc fr ⟨H,t0⟩ K:=λ_ _ _ _ _ _ _ hA S=>x hA S
noncomputable def k8(rs:List RO):List (Addr×Obj):=(led rs).filter λp=>decide (p.1∉(Y0 rs 0).led.map (·.1))
theorem mZ(S:M0 w b cx Hl rs h og)(h0:J0 Hl 0=some y3)(h1:J0 Hl 1=some .L0):
 M0 w b cx [y3,.L0] [Y0 rs 0,.V5 (Y0 rs 1).addr (k8 rs)] h og/\∀p∈led rs,p∈L0 [Y0 rs 0,.V5 (Y0 rs 1).addr (k8 rs)]:=by
 refine AE S.parts λn1 n2 n3 n4 n5=> ?_;have a0:J0 rs 0=some (Y0 rs 0):=B1 (S.len▸Y1 h0);have a1:J0 rs 1=some (Y0 rs 1):=B1 (S.len▸Y1 h1);refine T3 (S.ok 0 _ _ h0 a0) λa ob l0 e0 m0 ok=> ?_;have el:led [Y0 rs 0,RO.V5 (Y0 rs 1).addr (k8 rs)]=(Y0 rs 0).led++k8 rs:=by simp[led,RO.led]
 have ep:L0 [Y0 rs 0,RO.V5 (Y0 rs 1).addr (k8 rs)]=(Y0 rs 0).fz++k8 rs:=by show(Y0 rs 0).fz++(k8 rs++[])=_;rw[VG]
 have ef:(Y0 rs 0).fz=(Y0 rs 0).led:=by rw[e0];rfl
 have sub:∀p∈(Y0 rs 0).led++k8 rs,p∈led rs:=λp hp=>by
  rcases R5.mp hp with hp|hp
  .exact B3 a0 p hp
  .exact(List.mem_filter.mp hp).1
 have all:∀p∈led rs,p∈(Y0 rs 0).led++k8 rs:=λp hp=>by
  by_cases q:p.1∈(Y0 rs 0).led.map (·.1)
  .refine u0 (z5.mp q) λx hx e=> ?_;rw[(R7 n3 (B3 a0 x hx) hp e).symm];exact o7 _ hx
  .exact u5 _ (List.mem_filter.mpr ⟨hp,by simpa using q⟩)
 have Xm:∀x,x∈((Y0 rs 0).led++k8 rs).map (·.1)->x∈(led rs).map (·.1):=λx hx=>by
  refine u0 (z5.mp hx) λp hp B0=> ?_;subst B0;exact d5 (sub p hp)
 refine⟨⟨S.keep,S.ns,λp hp=> ?_,?_,rfl,S.big,?_,λi o r e1 e2=> ?_⟩,λp hp=>by rw[ep,ef];exact all p hp⟩
 .rw[el] at hp;rcases R5.mp hp with hp|hp
  .exact S.at_ p (o7 _ hp)
  .exact S.at_ p (u5 _ (sub p hp))
 .rw[el];have yg:(((Y0 rs 0).led++k8 rs).map (·.1)).Nodup:=by
   rw[w8];rw[B7] at n3;refine gD.mpr ⟨(E7 _ n3).1 _ _ a0,F7 (B7 rs▸n3),?_⟩;rintro x hx y hy rfl;refine u0 (z5.mp hy) λp hp B0=> ?_;subst B0;have:=(List.mem_filter.mp hp).2;exact(of_decide_eq_true this) hx
  have:=jL (cx:=cx) (rs:=[Y0 rs 0,RO.V5 (Y0 rs 1).addr (k8 rs)]) n1 n2 (by rw[el];exact yg) (λx hx=>⟨(n4 x hx).1,λhm=>(n4 x hx).2 (Xm x (el▸hm))⟩) (λx hx hm=>n5 x hx (Xm x (el▸hm)));rw[el] at this;exact this
 .have:=S.tab;rw[L1 a0] at this;exact this
 .match i,e1,e2 with
  |0,e1,e2=>
   obtain rfl:=si e1;obtain rfl:=si e2;have P:y9 id 2 rs [Y0 rs 0,.V5 (Y0 rs 1).addr (k8 rs)]:=by
    refine⟨λi hi=> ?_,λp hp=>by rw[ep,ef];exact all p (j4 hp)⟩;exact p2 hi ((L1 a0).symm) ((L1 a1).symm)
   exact P.o (o:=y3) (by intro p hp;simp only[M4,v8,or_false] at hp;rcases hp with rfl|rfl|rfl<;>trivial) (S.ok 0 _ _ h0 a0)
  |1,e1,e2=>obtain rfl:=si e1;obtain rfl:=si e2;exact⟨_,_,rfl⟩
noncomputable def iM(rs I3:List RO):List (Addr×Obj):=(led I3).filter λp=>decide (p.1∉(led rs).map (·.1))
theorem fV(S:M0 w b cx Hl rs h og)(h1:J0 Hl 1=some .L0)(hr:∀p∈led rs,p∈L0 FG)(S':M0 w b cx H2 I3 h' qm)(X:Ext FG I3):
 M0 w b cx Hl (upd rs 1 (.V5 (Y0 rs 1).addr ((Y0 rs 1).led++iM rs I3))) h' qm/\Ext rs (upd rs 1 (.V5 (Y0 rs 1).addr ((Y0 rs 1).led++iM rs I3))):=by
 refine AE S.parts λn1 n2 n3 n4 n5=> ?_;refine AE S'.parts λm1 m2 m3 m4 m5=> ?_;have a1:J0 rs 1=some (Y0 rs 1):=B1 (S.len▸Y1 h1);refine w6 (S.ok 1 _ _ h1 a1) λa l e1=> ?_;refine A3 (X9 a1) λl1 l2 e2 u=> ?_;have Vm:∀p∈led rs,p∈led I3:=λp hp=>j4 (X.fz p (hr p hp));have Yt:∀p∈iM rs I3,p∈led I3/\p.1∉(led rs).map (·.1):=λp hp=>by
  refine D0 (List.mem_filter.mp hp) λq1 q2=> ?_;exact⟨q1,of_decide_eq_true q2⟩
 have el:led (upd rs 1 (.V5 (Y0 rs 1).addr ((Y0 rs 1).led++iM rs I3)))=l1++(((Y0 rs 1).led++iM rs I3)++l2):=u _;have mem:∀p,p∈led (upd rs 1 (.V5 (Y0 rs 1).addr ((Y0 rs 1).led++iM rs I3)))↔p∈led rs\/p∈iM rs I3:=λp=>by
  rw[el,e2];simp only[R5];constructor
  .rintro(h|(h|h)|h)
   .exact .inl (.inl h)
   .exact .inl (.inr (.inl h))
   .exact .inr h
   .exact .inl (.inr (.inr h))
  .rintro((h|h|h)|h)
   .exact .inl h
   .exact .inr (.inl (.inl h))
   .exact .inr (.inr h)
   .exact .inr (.inl (.inr h))
 have yg:((led (upd rs 1 (.V5 (Y0 rs 1).addr ((Y0 rs 1).led++iM rs I3)))).map (·.1)).Nodup:=by
  have p:(led (upd rs 1 (.V5 (Y0 rs 1).addr ((Y0 rs 1).led++iM rs I3)))).Perm (iM rs I3++led rs):=by
   rw[el,e2];have:(l1++(((Y0 rs 1).led++iM rs I3)++l2)).Perm (l1++(iM rs I3++((Y0 rs 1).led++l2))):=by
    refine List.Perm.append_left _ ?_;rw[<-i7 (iM rs I3)];exact List.Perm.append_right _ List.perm_append_comm
   exact this.trans (List.perm_append_comm_assoc _ _ _)
  refine(p.map (·.1)).nodup_iff.mpr ?_;rw[w8];refine gD.mpr ⟨F7 m3,n3,?_⟩;rintro x hx y hy rfl;refine u0 (z5.mp hx) λq hq B0=> ?_;subst B0;exact(Yt q hq).2 hy
 have UC:∀p∈L0 rs,p∈L0 (upd rs 1 (.V5 (Y0 rs 1).addr ((Y0 rs 1).led++iM rs I3))):=λp hp=>by
  refine A3 (d8 hp) λj r hr NB=> ?_;by_cases h:j=1
  .subst h;rw[<-O6 hr] at NB;exact B4 (J4 hr) p (o7 _ (RO.s7 NB))
  .exact B4 (i:=j) (r:=r) (by rw[Z3 h];exact hr) p NB
 have oj:∀j,adr (upd rs 1 (.V5 (Y0 rs 1).addr ((Y0 rs 1).led++iM rs I3))) j=adr rs j:=λj=>by
  by_cases h:j=1
  .subst h;rw[L1 (J4 a1),L1 a1];rfl
  .unfold adr;rw[Z3 h]
 have XB:Ext rs (upd rs 1 (.V5 (Y0 rs 1).addr ((Y0 rs 1).led++iM rs I3))):=⟨λi a e=>by rw[oj _];exact e,λa o hm _=>(mem _).mpr (.inl hm),UC⟩;refine⟨⟨S'.keep,S'.ns,λp hp=> ?_,?_,?_,S'.big,by rw[oj _];exact S.tab,λj o r e1 e2=> ?_⟩,XB⟩
 .rcases R5.mp hp with hp|hp
  .exact S'.at_ p (o7 _ hp)
  .rcases(mem p).mp hp with hp|hp
   .exact S'.at_ p (u5 _ (Vm p hp))
   .exact S'.at_ p (u5 _ (Yt p hp).1)
 .refine jL n1 n2 yg (λx hx=>⟨(n4 x hx).1,λhm=> ?_⟩) (λx hx hm=> ?_)
  .refine u0 (z5.mp hm) λp hp B0=> ?_;subst B0;rcases(mem p).mp hp with hp|hp
   .exact(n4 _ hx).2 (d5 (f:=(·.1)) hp)
   .exact(m4 _ hx).2 (d5 (f:=(·.1)) (Yt p hp).1)
  .refine u0 (z5.mp hm) λp hp B0=> ?_;subst B0;rcases(mem p).mp hp with hp|hp
   .exact n5 _ hx (d5 (f:=(·.1)) hp)
   .exact m5 _ hx (d5 (f:=(·.1)) (Yt p hp).1)
 .rw[K3,MJ];exact S.len
 .by_cases h:j=1
  .subst h;rw[J4 a1] at e2;rw[h1] at e1;obtain rfl:=si e1;obtain rfl:=si e2;exact⟨_,_,rfl⟩
  .rw[Z3 h] at e2;exact(S.ok j o r e1 e2).ext XB
noncomputable def Jc:V->Prop
 | .none=>True
 | .bool .. =>True
 | .int .. =>True
 | .str _=>True
 | .bytes .. =>True
 |_=>False
theorem gV(hv:Jc v)(x:E2 b rs v u):E2 b rs' v u:=by induction v using V.casesOn<;>first|exact x|exact hv.elim
theorem hV(S:M0 w b cx Hl rs h og)(hr:∀p∈led rs,p∈L0 FG)(e:zG (dat Hl H6) args=some ds)(x:V0 b rs args us):V0 b FG (ds.map V.T5) us:=
 O4.vs ((kI (F:=mX b rs) (λe x=>BO S _ e x) e x).mono λa o z=>z.imp id (hr _))
theorem bR{fn:V}{args:List V}{ds:List Dt}{t t0:List Bool}{Q:K1}(hf:∀i,fn≠.ref i)(hi:∀d,fn≠.W0 d)(h0:J0 Hl 0=some y3)(h1:J0 Hl 1=some .L0)(hd:zG (dat Hl H6) args=some ds)
 (x:F0 w b n fn (ds.map V.T5) ⟨[y3,.L0],t⟩ λv _=>Jc v/\∃t',Q v ⟨Hl,t'⟩):F0 w b n fn args ⟨Hl,t0⟩ Q:=by
 intro A s cx rs u us L m hA S hL hb of os;refine D0 (mZ S h0 h1) λS1 hr=> ?_;have of1:E2 b [Y0 rs 0,.V5 (Y0 rs 1).addr (k8 rs)] fn u:=by
  induction fn using V.casesOn<;>first|exact of|exact absurd rfl (hf _)|exact absurd rfl (hi _)
 refine V6 (x hA S1 hL hb of1 (hV S hr hd os)) λv s' z=> ?_;obtain⟨a,F1,r2,⟨hl,t',q⟩,S2,X,o⟩:=z;refine D0 (fV S h1 hr S2 X) λS3 X3=> ?_;exact⟨a,⟨Hl,t'⟩,_,q,S3,X3,gV hl o⟩
theorem zF{fn:V}{args:List V}{σ:St}{Q:K1}(x:F0 w b n fn args σ λv F1=>∃d H2 t',N4 6 v F1.heap=some (d,H2)/\Q (V.T5 d) ⟨H2,t'⟩):F0 w b n fn args σ Q:=by
 intro A s cx rs u us L m hA S hL hb of os;refine V6 (x hA S hL hb of os) λv s' z=> ?_;obtain⟨a,F1,r2,⟨d,H2,t',e,q⟩,S2,X,o⟩:=z;obtain⟨r3,S3,X3,o3⟩:=yI 6 e S2 o;exact⟨_,⟨H2,t'⟩,r3,q,S3,X.trans X3,G3.vt o3⟩
end
set_option genInjectivity false in
structure Port where
 up:Bool
 wait:Int
 fast:Int
 AD:Int
 b6:Int
 name:List UInt8
 seg:Int
 es:List Ent
 kn:List Ent
noncomputable abbrev iT(n:Int):V:= .int true n
noncomputable abbrev iF(n:Int):V:= .int false n
noncomputable def Ym(mac room:Int)(t p:Nat):List (Str×V):=[ge ⟨#[109,97,99]⟩ (iF mac),ge ⟨#[116,105,109,101,115]⟩ (.ref t),ge ⟨#[109,111,115,116]⟩ (iT room),ge ⟨#[112,111,114,116,115]⟩ (.ref p)]
noncomputable def Zm(sp ho fm:Int):List (Str×V):=[ge ⟨#[105,110,116,101,114,118,97,108]⟩ (iT sp),ge ⟨#[104,111,108,100]⟩ (iT ho),ge ⟨#[102,97,115,116,95,105,110,116,101,114,118,97,108]⟩ (iF 1),ge ⟨#[102,97,115,116,95,109,97,110,121]⟩ (iT fm)]
noncomputable def dn(rows:Dt)(up:Bool)(wait fast:Int)(nb:Nat):List (Str×V):=[ge ⟨#[114,111,119,115]⟩ (.W0 rows),ge ⟨#[105,115,95,117,112]⟩ (.bool true up),ge ⟨#[119,97,105,116]⟩ (iT wait),ge ⟨#[102,97,115,116]⟩ (iT fast),ge ⟨#[110,101,105,103,104,98,111,117,114,115]⟩ (.ref nb)]
noncomputable def Dg(up:Bool)(AD fast:Int)(name:List UInt8)(seg:Int)(kn:Nat):List (Str×V):=[ge ⟨#[117,112]⟩ (.bool true up),ge ⟨#[100,117,101]⟩ (iT AD),ge ⟨#[102,97,115,116]⟩ (iT fast),ge ⟨#[110,97,109,101]⟩ (.bytes true name),ge ⟨#[115,101,103,109,101,110,116]⟩ (iT seg),ge ⟨#[107,110,111,119,110]⟩ (.ref kn)]
noncomputable abbrev End:=Nat×Nat
noncomputable def AF(e:End):UInt8×UInt8:=(e.1.toUInt8,e.2.toUInt8)
noncomputable def d6(e:End):Dt:= .tup [.int false (e.1:Int),.int false (e.2:Int)]
noncomputable def yP(e:End)(s:Int)(n:List UInt8):Dt:=
 .lst [.tup [.str "chassis",.int false 7,.bytes false [e.1.toUInt8]],.tup [.str "port",.int false 7,.bytes false [e.2.toUInt8]],.tup [.str "time",.int true s],.tup [.str "name",.bytes true n]]
set_option genInjectivity false in
structure gn where
 ends:List End
 room:Int
 sp:List Int
 ho:List Int
 fm:List Int
 lv:List Int
noncomputable def many(P:gn):Nat:=P.sp.length
noncomputable def aI(at_:Nat):Nat:=10+3*at_
noncomputable def pI(m j:Nat):Nat:=10+3*m+4*j
noncomputable def UI(m:Nat)(at_:Nat):List End->Nat->List (Int×V)
 |[],_=>[]
 |e::r,j=>match Nat.beq e.1 at_ with|true=>((e.2:Int),.ref (pI m j))::UI m at_ r (j+1)|false=>UI m at_ r (j+1)
noncomputable def Kc(P:gn)(m:Nat):Nat->List Int->List Int->List Int->List n0
 |a,s::sp,h::ho,f::fm=> .inst 53 (Ym (16+(a:Int)) P.room (aI a+1) (aI a+2)):: .inst 50 (Zm s h f):: .dI (UI m a P.ends 0)::Kc P m (a+1) sp ho fm
 |_,_,_,_=>[]
noncomputable def Lc(lv:List Int)(m:Nat):Nat->List End->List Port->List n0
 |j,e::es,p::ps=> .inst 52 (dn (yP e ((J0 lv e.1).getD 0) p.name) p.up p.wait p.fast (pI m j+1)):: .dN true p.es:: .dS (Dg p.up p.AD p.b6 p.name p.seg (pI m j+3)):: .dN false p.kn::Lc lv m (j+1) es ps
 |_,_,_=>[]
noncomputable def Mc(m:Nat):Nat->List End->List (Dt×V×V)
 |_,[]=>[]
 |j,e::es=>(d6 e,.W0 (d6 e),.ref (pI m j+2))::Mc m (j+1) es
noncomputable def jV:Nat->List Int->List V
 |_,[]=>[]
 |a,_::r=> .ref (aI a)::jV (a+1) r
noncomputable def BF(P:gn)(ps:List Port):List n0:=
 let m:=many P
 [.lst [.ref 5,.ref 6,.ref 7,.ref 8,.ref 9,iT P.room],.D4 (.lst (jV 0 P.sp)),.D4 (.dT (Mc m 0 P.ends)),.lst (P.lv.map iT),.lst (P.sp.map iT),.lst (P.fm.map iT)]
  ++Kc P m 0 P.sp P.ho P.fm++Lc P.lv m 0 P.ends ps
noncomputable def jn(P:gn)(ps:List Port)(src:n0):List n0:=[y3,.L0,.any,src]++BF P ps
noncomputable def A2(a c:Int):n0:= .lst [iT a,iT c]
noncomputable def mn:List End:=[(0,1),(0,2),(1,1),(1,2),(2,1)]
noncomputable def pn:List End:=[(0,1),(0,2),(1,1),(2,1),(3,1)]
noncomputable def qn:List End:=[(0,1),(1,1),(2,1),(3,1),(4,1)]
structure Wp where
 t:Nat
 room:Int
 sp:Nat->Int
 ho:Nat->Int
 fm:Nat->Int
noncomputable def oL(t:Nat):List End:=match t with
 |3=>mn
 |4=>pn
 |_=>qn
noncomputable def Wp.par(w:Wp):gn:=⟨oL w.t,w.room,(List.range w.t).map w.sp,(List.range w.t).map w.ho,(List.range w.t).map w.fm,(List.range w.t).map λi=>w.sp i*w.ho i+1⟩
noncomputable def wH(w:Wp)(ps:Nat->Port)(src:n0):List n0:=jn w.par ((List.range 5).map ps) src
noncomputable def wN(t:Nat):Nat:=30+3*t
noncomputable def W2(ps:Nat->Port)(j:Nat)(p:Port):Nat->Port:=λi=>bif Nat.beq i j then p else ps i
noncomputable def y0(t j:Nat):End:=(J0 (oL t) j).getD (0,0)
noncomputable def dR(s:Int):UInt8:=oct (Builtin.bitAnd (s.fdiv 256) 255)
noncomputable def pj(s:Int):UInt8:=oct (Builtin.bitAnd (s.fdiv 1) 255)
noncomputable def K4(k:UInt8×UInt8)(s:Int)(n:List UInt8):List UInt8:=[2,2,7,k.1,4,2,7,k.2,6,2,dR s,pj s,10,n.length.toUInt8]++n++[0,0]
noncomputable def okN(s:Int)(n:List UInt8):Prop:=0<=s/\s<65536/\n.length<=1
noncomputable def N9(c:Int):Int:=(c*39373+7).fmod 2147483647
noncomputable def Y2(a c t:Int):Int:=if 0<a then a.fmod t else(((N9 c*N9 c).fmod 2147483629).fdiv 32).fmod t
noncomputable def g6(a c t:Int):Int:=if 0<a then a.fdiv t else a
noncomputable def i6(a c t:Int):Int:=if 0<a then c else N9 c
noncomputable def Eg(mac:Int)(k:UInt8×UInt8)(s:Int)(n:List UInt8)(tg:Nat):n0:= .inst 10 [ge ⟨#[116,97,114,103,101,116]⟩ (.int false 1652522221582),ge ⟨#[115,111,117,114,99,101]⟩ (.int false mac),ge ⟨#[116,97,103,115]⟩ (.ref tg),ge ⟨#[107,105,110,100]⟩ (.int false 35020),ge ⟨#[112,97,121,108,111,97,100]⟩ (.bytes true (K4 k s n))]
noncomputable def A5(f:V):List Stmt:=match yX f with|some d=>d.body|none=>[]
noncomputable def I1(f:V):Scope:=match yX f with|some d=>d.sc|none=>⟨.function,[],false,false,[]⟩
noncomputable def T1(l:List Stmt)(i:Nat):Stmt:=(J0 l i).getD (.Pass default)
noncomputable def W5:Stmt->List Stmt
 | .For _ _ b _ _=>b
 |_=>[]
noncomputable def vN(x:Str)(n:Int)(p:Str×V):Bool:=sq p.1 x&&(match p.2 with
 | .int s a=> !s&&decide (a=n)
 |_=>false)
noncomputable def Aw:List (Str×V)->Bool
 |[p,q,r]=>vN "port text" 4 p&&(vN "name" 5 q&&vN "system text" 6 r)
 |_=>false
noncomputable def Bw:n0->Bool
 | .dS es=>Aw es
 |_=>false
noncomputable def pL:n0->Bool
 | .D4 o=>Bw o
 |_=>false
noncomputable def rowsOf(H:List n0)(x:V):Option ((UInt8×UInt8)×Int×List UInt8):=(dat H H6 x).bind sS
noncomputable def zP(i:Nat)(f:V):Bool:=V.casesOn (motive:=λ_=>Bool) f false (λ_ _=>false) (λ_ _=>false) (λ_=>false) (λ_ _=>false) (λ_=>false) (λ_=>false) (λj=>Nat.beq j i) (λ_ _=>false) (λ_=>false) (λ_=>false) (λ_=>false)
noncomputable def isM(i k:Nat)(f:V):Bool:=V.casesOn (motive:=λ_=>Bool) f false (λ_ _=>false) (λ_ _=>false) (λ_=>false) (λ_ _=>false) (λ_=>false) (λ_=>false) (λ_=>false) (λj l=>Nat.beq j i&&Nat.beq l k) (λ_=>false) (λ_=>false) (λ_=>false)
theorem AP:zP i f=true->f= .fn i:=V.casesOn (motive:=λf=>zP i f=true->f= .fn i) f G2 (λ_ _=>G2) (λ_ _=>G2) (λ_=>G2) (λ_ _=>G2) (λ_=>G2) (λ_=>G2) (λj h=>congrArg V.fn (V9 h)) (λ_ _=>G2) (λ_=>G2) (λ_=>G2) (λ_=>G2)
noncomputable def Nc(o:n0):Bool:=n0.casesOn (motive:=λ_=>Bool) o (λ_=>false) (λ_=>false) (λ_=>false) (λ_ _=>false) (λ_=>false) (λ_=>false) (λ_=>false) (λ_ _ _=>false) (λ_=>false) true false (λ_ _=>false) (λ_=>false)
theorem tn:Nc o=true->o= .L0:=n0.casesOn (motive:=λo=>Nc o=true->o= .L0) o (λ_=>G2) (λ_=>G2) (λ_=>G2) (λ_ _=>G2) (λ_=>G2) (λ_=>G2) (λ_=>G2) (λ_ _ _=>G2) (λ_=>G2) (λ_=>rfl) G2 (λ_ _=>G2) (λ_=>G2)
noncomputable def sX(c:Bool)(x y:Option Prop):Option Prop:=Bool.rec (motive:=λ_=>Option Prop) y x c
theorem CF{c:Bool}{x y:Option Prop}{p G:Prop}(h:sX c x y=some p)(k:c=true->x=some p->G)(n:y=some p->G):G:=by
 induction c using Q2 with
 |true=>exact k rfl h
 |false=>exact n h
noncomputable def BP(args:List V)(H:List n0):Option (Nat×Int×Int×Int):=(two args).bind λp=>(rV p.1).bind λi=>(iV p.2).bind λt=>(lA H i).bind λl=>(two l).bind λq=>(iV q.1).bind λa=>(iV q.2).bind λc=>gO (Nat.ble 2 i) (some (i,a.2,c.2,t.2))
theorem eR(h:BP args H=some r):∃s1 s2 s3,args=[.ref r.1,.int s3 r.2.2.2]/\J0 H r.1=some (.lst [.int s1 r.2.1,.int s2 r.2.2.1])/\2<=r.1:=
 u3 h λp e1 h=>u3 h λi e2 h=>u3 h λt e3 h=>u3 h λl e4 h=>u3 h λq e5 h=>u3 h λa e6 h=>u3 h λc e7 h=>A4 h λg h=>by
  subst_vars
  obtain rfl:=si h;exact⟨a.1,c.1,t.1,by rw[J7 e1,uA e2,VJ e3],by rw[Xd e4,J7 e5,VJ e6,VJ e7],v9 g⟩
noncomputable def C0(k:UInt8×UInt8)(s:Int)(n:List UInt8):oG:=λf args σ Q=>(J0 σ.heap 1).bind λo=>gO (Nc o)
 (sX (zP 44 f) ((one args).bind λv=>(yV v).bind λx=>(J0 σ.heap 0).bind λt=>gO (pL t) (some ((x.2=K4 k s n/\okN s n)/\Q (.W0 (T6 k s n)) σ)))
 (sX (zP 40 f) ((one args).bind λx=>(J0 σ.heap 0).bind λt=>gO (pL t) ((rowsOf σ.heap x).map λr=>okN r.2.1 r.2.2/\Q (.bytes true (K4 r.1 r.2.1 r.2.2)) σ))
 (sX (zP 56 f) ((BP args σ.heap).map λr=>(0<r.2.2.2/\small r.2.2.2=true)/\Q (.int true (Y2 r.2.1 r.2.2.1 r.2.2.2)) (σ.set r.1 (.lst [iT (g6 r.2.1 r.2.2.1 r.2.2.2),iT (i6 r.2.1 r.2.2.1 r.2.2.2)]))) none)))
section
theorem Cw{t:Expr}{body:List Stmt}{sc:Scope}{fr:J2}{σ:St}{K:KS}:U5 R t body sc [] fr σ K=K .next fr σ:=rfl
theorem T7{t:Expr}{body:List Stmt}{sc:Scope}{it:w5}{l:List w5}{fr:J2}{σ:St}{K:KS}:U5 R t body sc (it::l) fr σ K=n6 R t it sc fr σ λn9 P0=>R.ex body sc n9 P0 (bj K λq9 M1=>U5 R t body sc l q9 M1 K):=rfl
theorem Zt:F4 R elt t ifs sc [] fr σ acc Q=Q acc σ:=rfl
theorem VI:F4 R elt t [] sc (it::l) fr σ acc Q=n6 R t it sc fr σ λn9 P0=>R.ev elt sc n9 P0 λv M1=>F4 R elt t [] sc l n9 M1 (acc++[v]) Q:=rfl
end
theorem xH(h:J0 σ.heap i=some (.D4 (.lst xs))):D5 σ (.ref i)=some ([],xs):=by
 show((J0 σ.heap i).bind _)=_;rw[h];rfl
theorem qj(h:J0 σ.heap i=some (.lst xs)):D5 σ (.ref i)=some ([(i,.lst xs)],xs):=by
 show((J0 σ.heap i).bind _)=_;rw[h];rfl
theorem xN(h:J0 σ.heap i=some (.lst xs)):L7 σ (.ref i)=some ([(i,.lst xs)],xs.map .inl):=by
 show((J0 σ.heap i).bind (zz i))=_;rw[h];rfl
noncomputable abbrev I0(t:Nat):Prop:=t=3\/t=4\/t=5
theorem J1{Q:Nat->Nat->Prop}(a0:Q 3 0)(a1:Q 3 1)(a2:Q 3 2)(a3:Q 3 3)(a4:Q 3 4)(b0:Q 4 0)(b1:Q 4 1)(b2:Q 4 2)(b3:Q 4 3)(b4:Q 4 4)(c0:Q 5 0)(c1:Q 5 1)(c2:Q 5 2)(c3:Q 5 3)(c4:Q 5 4){t j:Nat}(ht:I0 t)(hj:j<5):Q t j:=by
 rcases ht with rfl|rfl|rfl
 .exact p5 (Q:=Q 3) hj a0 a1 a2 a3 a4
 .exact p5 (Q:=Q 4) hj b0 b1 b2 b3 b4
 .exact p5 (Q:=Q 5) hj c0 c1 c2 c3 c4
noncomputable def lV:List Str->List (Str×V)->List (Str×V)
 |[],_=>[]
 |y::ys,l=>match lk y l with|some v=>(y,v)::lV ys l|none=>lV ys l
noncomputable abbrev VK:=Fl->List (Str×V)->List (Str×Nat)->List n0->Prop
noncomputable def K8(t:Nat):List V:=(oL t).map λe=> .W0 (d6 e)
noncomputable def qL:List Stmt:=W5 (T1 (A5 (.fn 63)) 1)
noncomputable def z9(x y:Int)(N:Nat)(s now:Int)(place:Int)(n:List UInt8):List (Str×V):=[ge ⟨#[119,111,114,108,100]⟩ (.ref 4),ge ⟨#[115,101,110,100,101,114]⟩ (.W0 (.tup [.int true x,.int true y])),ge ⟨#[102,114,97,109,101]⟩ (.ref N),ge ⟨#[115,101,99,111,110,100,115]⟩ (iT s),ge ⟨#[110,111,119]⟩ (iT now),ge ⟨#[112,108,97,99,101]⟩ (iT place),ge ⟨#[110,97,109,101]⟩ (.bytes true n)]
noncomputable def vn:List Str:=[⟨#[119,111,114,108,100]⟩,⟨#[115,101,110,100,101,114]⟩,⟨#[102,114,97,109,101]⟩,⟨#[115,101,99,111,110,100,115]⟩,⟨#[110,111,119]⟩,⟨#[112,108,97,99,101]⟩,⟨#[110,97,109,101]⟩]
noncomputable def Oc(mac x y s:Int)(n:List UInt8)(t:Nat):List n0:=[Eg mac (oct x,oct y) s n (wN t+1),.tup []]
mutual
noncomputable def Dt.D1:Dt->Dt
 | .bool _ b=> .bool true b
 | .int _ n=> .int true n
 | .bytes _ b=> .bytes true b
 | .tup ds=> .tup (rL ds)
 | .lst ds=> .lst (rL ds)
 | .obj c xs ds=> .obj c xs (rL ds)
 | .none=> .none
 | .str x=> .str x
noncomputable def rL:List Dt->List Dt
 |[]=>[]
 |d::ds=>d.D1::rL ds
end
noncomputable def V.D1:V->V
 | .bool _ b=> .bool true b
 | .int _ n=> .int true n
 | .bytes _ b=> .bytes true b
 | .W0 d=> .W0 d.D1
 |v=>v
noncomputable def n0.D1:n0->n0
 | .lst xs=> .lst (xs.map V.D1)
 | .tup xs=> .tup (xs.map V.D1)
 | .cell v=> .cell (v.map V.D1)
 | .inst c fs=> .inst c (fs.map λp=>(p.1,p.2.D1))
 | .dS es=> .dS (es.map λp=>(p.1,p.2.D1))
 | .dI es=> .dI (es.map λp=>(p.1,p.2.D1))
 | .dT es=> .dT (es.map λp=>(p.1,p.2.1,p.2.2.D1))
 | .D4 o=> .D4 o.D1
 |o=>o
noncomputable def Fl.D1:Fl->Fl
 | .ret v=> .ret v.D1
 |f=>f
noncomputable def O9(L:List (Str×V)):List (Str×V):=L.map λp=>(p.1,p.2.D1)
noncomputable def E3(H:List n0):List n0:=H.map n0.D1
noncomputable def vK(names:List Str)(N:Nat)(P:VK):KS:=λg fr σ=>P g.D1 (O9 (lV names fr.loc)) fr.O3 (E3 (σ.heap.take N))
mutual
theorem sL{F:Addr->Obj->Prop}:∀{d:Dt}{v:Value},G3 F d.D1 v↔G3 F d v
 | .bool _ b,v=>Iff.rfl
 | .int _ n,v=>Iff.rfl
 | .bytes _ b,v=>Iff.rfl
 | .tup ds,v=>exists_congr λa=>exists_congr λvs=>exists_congr λn=>and_congr_right λ_=>and_congr_right λ_=>kA
 | .lst ds,v=>exists_congr λa=>exists_congr λvs=>exists_congr λn=>and_congr_right λ_=>and_congr_right λ_=>kA
 | .obj c xs ds,v=>exists_congr λa=>exists_congr λdx=>exists_congr λC=>exists_congr λes=>exists_congr λn=>and_congr_right λ_=>and_congr_right λ_=>and_congr_right λ_=>and_congr_right λ_=>and_congr_right λ_=>kA
 | .none,v=>Iff.rfl
 | .str x,v=>Iff.rfl
theorem kA{F:Addr->Obj->Prop}:∀{ds:List Dt}{vs:List Value},O4 F (rL ds) vs↔O4 F ds vs
 |[],vs=>Iff.rfl
 |d::ds,vs=>exists_congr λv=>exists_congr λr=>and_congr_right λ_=>and_congr sL kA
end
section
theorem DF:E2 b rs v.D1 u↔E2 b rs v u:=by
 induction v using V.casesOn<;>first|exact Iff.rfl|exact sL
theorem nZ(h:∀v,R v v)(k:∀v:V,R v v.D1)(o:n0):AR R (λ_ _=>True) o o.D1:=by
 have p:∀{κ:Type}{xs:List (κ×V)},F2 (PR R) xs (xs.map λp=>(p.1,p.2.D1)):= .to λx _=>⟨rfl,k _⟩;induction o with
 |lst xs=>exact .lst (.to λv _=>k v)
 |tup xs=>exact .tup (.to λv _=>k v)
 |cell v=>induction v using opQ with
  |none=>exact .RE
  |some v=>exact .cell (k v)
 |inst=>exact .inst p
 |dS=>exact .dS p
 |dI=>exact .dI p
 |dT=>exact .dT (.to λx _=>⟨rfl,trivial,h _,k _⟩)
 |w9=>exact .w9
 |D4 o ih=>exact .D4 ih
 |L0=>exact .L0
 |dN=>exact .dN (.refl λx _=>⟨rfl,trivial,h _,h _⟩)
 |box=>exact .box h
 |any=>exact .any
theorem RB:P2 w b rs o.D1 r↔P2 w b rs o r:=
 have T:Tr b rs rs (λv v'=>∀u,E2 b rs v u↔E2 b rs v' u) (λ_ _=>True):=⟨λv v' u z x=>(z u).mp x,λd v a _ x _=>x,λ_ q=>q⟩;have A:=nZ (R:=λv v'=>∀u,E2 b rs v u↔E2 b rs v' u) (λv u=>Iff.rfl) (λv u=>DF.symm) o
 ⟨T.o (A.flip (λ_ _ z u=>(z u).symm) λ_ _=>trivial),T.o A⟩
end
structure Goes(w:World)(b:Heap)(k0:Nat)(H H2:List n0)(vm:V->V->Prop):Prop where
 go:∀{cx:Cx}{rs:List RO}{h:Heap}{og:OG},M0 w b cx H rs h og->∃I3,M0 w b cx H2 I3 h og/\(∀i a,i<k0->adr rs i=some a->adr I3 i=some a)/\(∀a o,(a,o)∈led rs->IsT o->(a,o)∈led I3)/\(∀p∈L0 rs,p∈L0 I3)/\
  ∀v v2 u,vm v v2->E2 b rs v u->E2 b I3 v2 u
section
theorem Goes.refl:Goes w b k0 H H λv v2=>v2=v:=⟨λ{cx rs h og} S=>⟨rs,S,λ_ _ _ e=>e,λ_ _ e _=>e,λ_ e=>e,λv v2 u e x=>e▸x⟩⟩
theorem Goes.trans(X:Goes w b k0 H H2 vm)(Y:Goes w b k0 H2 H3 au):Goes w b k0 H H3 λv v3=>∃v2,vm v v2/\au v2 v3:=⟨λ{cx rs h og} S=>by
 refine b8 (X.go S) λr2 S2 a1 a2 a3 a4=> ?_;refine b8 (Y.go S2) λr3 S3 b1 b2 b3 b4=> ?_;exact⟨r3,S3,λi a hi e=>b1 i a hi (a1 i a hi e),λa o e t=>b2 a o (a2 a o e t) t,λp e=>b3 p (a3 p e),λv v3 u⟨v2,m1,m2⟩ x=>b4 v2 v3 u m2 (a4 v v2 u m1 x)⟩⟩
theorem Goes.weak(X:Goes w b k0 H H2 vm)(h:∀v v2,au v v2->vm v v2):Goes w b k0 H H2 au:=⟨λ{cx rs h' og} S=>by
 refine b8 (X.go S) λr2 S2 a1 a2 a3 a4=> ?_;exact⟨r2,S2,a1,a2,a3,λv v2 u m x=>a4 v v2 u (h v v2 m) x⟩⟩
theorem oV(e:H.map n0.D1=H2.map n0.D1)(S:M0 w b cx H rs h og):M0 w b cx H2 rs h og:=by
 refine⟨S.keep,S.ns,S.at_,S.nd,?_,S.big,S.tab,λi o r e1 e2=> ?_⟩
 .rw[S.len.symm];have:=congrArg List.length e;simpa using this.symm
 .have:J0 (H2.map n0.D1) i=some o.D1:=by rw[U0] at e1⊢;rw[LJ,e1];rfl
  rw[<-e,U0,LJ] at this;refine u0 (HJ.mp this) λo' h1 h2=> ?_;exact RB.mp (h2▸RB.mpr (S.ok i o' r (by rw[U0];exact h1) e2))
theorem Goes.D1(e:H.map n0.D1=H2.map n0.D1):Goes w b k0 H H2 λv v2=>v.D1=v2.D1:=
 ⟨λ{cx rs h og} S=>⟨rs,oV e S,λ_ _ _ e=>e,λ_ _ e _=>e,λ_ e=>e,λv v2 u e x=>DF.mp (e▸DF.mpr x)⟩⟩
theorem L8(h:i<k):J0 (l.take k) i=J0 l i:=by
 rw[U0,U0,List.getElem?_take,if_pos h]
noncomputable def YD(rs:List RO)(k:Nat)(G:List (Addr×Obj)):List RO:=Mine.Internal.upd (rs.take k) 1 (.V5 (Y0 rs 1).addr ((Y0 rs 1).led++G))
section
theorem take_one(h2:1<k)(hr:k<=rs.length):J0 (rs.take k) 1=some (Y0 rs 1):=by rw[L8 h2];exact B1 (MH h2 hr)
theorem TB(h2:1<k)(hr:k<=rs.length):J0 (YD rs k G) 1=some (.V5 (Y0 rs 1).addr ((Y0 rs 1).led++G)):=J4 (take_one h2 hr)
theorem WI(h:i≠1)(hi:i<k):J0 (YD rs k G) i=J0 rs i:=by unfold YD;rw[Z3 h,L8 hi]
theorem CP(hr:k<=rs.length):(YD rs k G).length=k:=by unfold YD;rw[K3,MJ,List.length_take];exact Nat.min_eq_left hr
theorem sE(h2:1<k)(hr:k<=rs.length)(hi:i<k):adr (YD rs k G) i=adr rs i:=by
 by_cases h:i=1
 .rw[h,L1 (TB h2 hr),L1 (B1 (MH h2 hr))];rfl
 .unfold adr;rw[WI h hi]
theorem EF(h2:1<k)(hr:k<=rs.length):(led (YD rs k G)).Perm (led (rs.take k)++G):=by
 refine A3 (X9 (take_one h2 hr)) λl1 l2 e2 u=> ?_;rw[show led (YD rs k G)=l1++(((Y0 rs 1).led++G)++l2) from u _,e2,i7,i7,i7];exact List.Perm.append_left _ (List.Perm.append_left _ List.perm_append_comm)
theorem VC:led rs=led (rs.take k)++led (rs.drop k):=by rw[<-g5,List.take_append_drop]
theorem XI(hj:k<=j)(e:J0 rs j=some r)(hp:p∈r.led):p∈led (rs.drop k):=by
 refine List.mem_flatMap.mpr ⟨r,List.mem_of_getElem? (i:=j -k) ?_,hp⟩;rw[List.getElem?_drop,Nat.add_sub_cancel' hj,<-U0];exact e
theorem tL(h2:1<k)(hr:k<=rs.length)(hG:∀j r p,k<=j->J0 rs j=some r->p∈r.fz->p∈G):∀p∈L0 rs,p∈L0 (YD rs k G):=λp hp=>by
 refine A3 (d8 hp) λj r bu NB=> ?_;by_cases h:j=1
 .rw[h] at bu;rw[<-O6 bu] at NB;exact B4 (TB h2 hr) p (o7 _ (RO.s7 NB))
 .by_cases hj:j<k
  .exact B4 ((WI h hj).trans bu) p NB
  .exact B4 (TB h2 hr) p (u5 _ (hG j r p (gB.mp hj) bu NB))
theorem M0.Pc(S:M0 w b cx H rs h og)(mem:∀p,p∈led I3↔p∈led rs)(nd:((led I3).map (·.1)).Nodup)(len:H2.length=I3.length)(tab:adr I3 0=adr rs 0)
 (ok:∀i o r,J0 H2 i=some o->J0 I3 i=some r->P2 w b I3 o r):M0 w b cx H2 I3 h og:=by
 refine AE S.parts λn1 n2 n3 n4 n5=> ?_;have xn:∀x,x∈(led I3).map (·.1)->x∈(led rs).map (·.1):=λx h=>u0 (z5.mp h) λp hp e=>e▸d5 ((mem p).mp hp);exact⟨S.keep,S.ns,λp hp=>(R5.mp hp).elim (λhp=>S.at_ p (o7 _ hp)) λhp=>S.at_ p (u5 _ ((mem p).mp hp)),
  jL n1 n2 nd (λx hx=>⟨(n4 x hx).1,λhm=>(n4 x hx).2 (xn x hm)⟩) (λx hx hm=>n5 x hx (xn x hm)),len,S.big,by rw[tab];exact S.tab,ok⟩
end
theorem Goes.Qc(hk:k0<=k)(h2:1<k)(hl:k<=H.length)(h1:J0 H 1=some .L0)(tr:∀{rs I3:List RO},y9 id k rs I3->∀{i:Nat}{o:n0}{r:RO},i<k->J0 H i=some o->P2 w b rs o r->P2 w b I3 o r):Goes w b k0 H (H.take k) λv v2=>v2=v/\v.lt k:=⟨λ{cx rs h og} S=>by
 have hr:k<=rs.length:=S.len▸hl;have pm:(led (YD rs k (led (rs.drop k)))).Perm (led rs):=(EF h2 hr).trans (by rw[VC.symm]);have pu:=tL h2 hr (G:=led (rs.drop k)) λj r p hj e hp=>XI hj e (RO.s7 hp);have P:y9 id k rs (YD rs k (led (rs.drop k))):=⟨λi hi=>sE h2 hr hi,pu⟩;refine⟨_,S.Pc (λp=>pm.mem_iff) ((pm.map (·.1)).nodup_iff.mpr S.parts.2.2.1) (by rw[CP hr,List.length_take,Nat.min_eq_left hl]) (sE h2 hr (Nat.lt_of_succ_lt h2)) λj o r e1 e2=> ?_,λi a hi e=>(sE h2 hr (MH hi hk)).trans e,λa o hm _=>pm.mem_iff.mpr hm,pu,λv v2 u m x=> ?_⟩
 .have hj:j<k:=by have:=Y1 e1;rw[List.length_take,Nat.min_eq_left hl] at this;exact this
  rw[L8 hj] at e1;by_cases h:j=1
  .rw[h,TB h2 hr] at e2;rw[h,h1] at e1;rw[(si e1).symm,(si e2).symm];exact⟨_,_,rfl⟩
  .exact tr P hj e1 (S.ok j o r e1 ((WI h hj).symm.trans e2))
 .rw[m.1];exact P.v m.2 (by rw[V.R4 _];exact x)⟩
theorem Goes.drop(hk:k0<=k)(h2:1<k)(hl:k<=H.length)(h1:J0 H 1=some .L0)(lt:∀i o,i<k->J0 H i=some o->o.lt k):Goes w b k0 H (H.take k) λv v2=>v2=v/\v.lt k:=
 Goes.Qc hk h2 hl h1 λ{rs I3} P{i o r} hi e x=>P.o (lt i o hi e) (by rw[n0.R4 _];exact x)
theorem UB(e:N4 m (.ref i) H=some q):∃n o,m=n+1/\J0 H i=some o/\XH (N4 n) (Mine.Internal.upd H i .any) o=some q:=by
 induction m using iB with
 |zero=>exact A0 e
 |succ n=>exact u3 (show(J0 H i).bind (λo=>XH (N4 n) (Mine.Internal.upd H i .any) o)=some q from e) λo ho e=>⟨n,o,rfl,ho,e⟩
theorem Goes.V5(e:N4 m (.ref i) H=some (d,H2)):Goes w b k0 H H2 λv v2=>v2=v\/(v= .ref i/\v2=V.T5 d):=⟨λ{cx rs h og} S=>by
 refine U1 (UB e) λ_ o _ ho _=> ?_;refine u0 (S.ref ho) λr hr _=> ?_;obtain⟨r2,S2,X,dd⟩:=yI m e S (show E2 b rs (.ref i) (.ref r.addr) from⟨_,L1 hr,rfl⟩);refine⟨r2,S2,λi a _ e=>X.at_ i a e,X.tup,X.fz,λv v2 u hv x=> ?_⟩;rcases hv with rfl|⟨rfl,rfl⟩
 .exact x.ext X
 .refine u0 x λa ea B0=> ?_;clear x;subst B0;rw[L1 hr] at ea;obtain rfl:=si ea;exact G3.vt dd⟩
theorem pV(hv:∀u,E2 b rs v u->E2 b rs v' u):∀{fs:List (Str×V)}{es:List DictEntry},lk x fs=some v->uB b rs fs es->uB b rs (put x v' fs) es
 |p::fs,_,hx,⟨e,q,h,k,a,r⟩=>by
  rw[d3] at hx;rw[lB];induction c:sq p.1 x using Q2 with
  |true=>
   rw[c] at hx;obtain rfl:=si hx;exact⟨e,q,h,k,hv _ a,r⟩
  |false=>
   rw[c] at hx;exact⟨e,q,h,k,a,pV hv hx r⟩
theorem Goes.Fg(e:N4 m (.ref i) H=some (d,H2))(hj:J0 H2 j=some (.inst c fs))(hx:lk x fs=some (.ref i)):
 Goes w b k0 H (upd H2 j (.inst c (put x (V.T5 d) fs))) λv v2=>v2=v\/(v= .ref i/\v2=V.T5 d):=⟨λ{cx rs h og} S=>by
 refine b8 ((Goes.V5 (w:=w) (b:=b) (k0:=H.length) e).go S) λr2 S2 a1 a2 a3 a4=> ?_;refine⟨r2,⟨S2.keep,S2.ns,S2.at_,S2.nd,by rw[K3,MJ];exact S2.len,S2.big,S2.tab,λq o r e1 e2=> ?_⟩,λq a hq e=> ?_,a2,a3,a4⟩
 .rcases i5 e1 with⟨_,f⟩|⟨rfl,rfl⟩
  .exact S2.ok q o r f e2
  .refine EE (S2.ok q _ r hj e2) λa dx C es k e3 d1 h1=> ?_;refine⟨a,dx,C,es,k,e3,d1,pV (λu hu=> ?_) hx h1⟩;have hi:i<rs.length:=by
    refine u0 hu λy ey _=> ?_;clear hu;refine U1 (UB e) λ_ _ _ ho _=> ?_;rw[S.len.symm];exact Y1 ho
   have ha:=B1 hi;have Dw:E2 b rs (.ref i) (.ref (Y0 rs i).addr):=⟨_,L1 ha,rfl⟩;refine u0 hu λy ey B0=> ?_;clear hu;subst B0;have:=a1 i _ (by rw[S.len];exact hi) (L1 ha);rw[this] at ey;obtain rfl:=si ey;exact a4 _ _ _ (.inr ⟨rfl,rfl⟩) Dw
 .have hl:q<rs.length:=by
   unfold adr at e;refine u0 (HJ.mp e) λr hr _=> ?_;exact Y1 hr
  exact a1 q a (by rw[S.len];exact hl) e⟩
end
section
theorem fR(Γ:Ctx)(cu:Γ.In A)(l2:List Stmt)(l1:List Stmt):∀(p:Pos)(s:Shared),
 Sem.wp M Γ (execs l1 env) (λf _ s'=>match f with| .next=>wpAny M A (execs l2 env) Q E s'|f=>Q f s') (λe _ s'=>E e s') p s->Sem.wp M Γ (execs (l1++l2) env) (λf _ s'=>Q f s') (λe _ s'=>E e s') p s:=by
 induction l1 with
 |nil=>
  intro p s h;have h:wpAny M A (execs l2 env) Q E s:=by
   have h':Sem.wp M Γ (pure Flow.next) (λf _ s'=>match f with| .next=>wpAny M A (execs l2 env) Q E s'|f=>Q f s') (λe _ s'=>E e s') p s:=h;simpa using h'
  exact h Γ p cu
 |cons st l1 ih=>
  intro p s h;rw[execs_cons,Sem.wp_bind'] at h;rw[List.cons_append,execs_cons,Sem.wp_bind'];refine Sem.wp_mono M Γ _ (λf p' s' h'=> ?_) (λ_ _ _ h'=>h') _ _ h;cases f with
  |next=>exact ih p' s' h'
  |_=>simpa using h'
theorem ZD(h:wpAny M A (execs l1 env) (λf s'=>match f with| .next=>wpAny M A (execs l2 env) Q E s'|f=>Q f s') E s):wpAny M A (execs (l1++l2) env) Q E s:=
 λΓ p cu=>fR Γ cu l2 l1 p s (h Γ p cu)
end
section
theorem w3{l1 l2:List Stmt}{sc:Scope}{fr:J2}{σ:St}{K:KS}(x:R0 w b n l1 sc fr σ λg V8 F1=>match g with| .next=>R0 w b n l2 sc V8 F1 K|g=>K g V8 F1):R0 w b n (l1++l2) sc fr σ K:=by
 intro A E s cx rs env m hA S N;refine ZD (wpAny_mono (x hA S N) (λf s' h=> ?_) λ_ _ z=>z);obtain⟨g,V8,F1,r2,m2,q,S2,N2,X2,o⟩:=h;induction g using Fl.casesOn<;>cases f<;>first|(exact o.elim)|skip
 .exact wpAny_mono (q hA S2 N2) (λ_ _ z=> .from X2 z) λ_ _ z=>z
 .exact⟨.brk,V8,F1,r2,m2,q,S2,N2,X2,o⟩
 .exact⟨.cont,V8,F1,r2,m2,q,S2,N2,X2,o⟩
 .exact⟨.ret _,V8,F1,r2,m2,q,S2,N2,X2,o⟩
theorem C4(B:k3 w b){st:Stmt}{sc:Scope}{fr:J2}{σ:St}{K:KS}(x:JJ (Sem w b n) st sc fr σ K):R0 w b n [st] sc fr σ K:=by
 intro A E s cx rs env m hA S N;refine wpAny_execs_cons (wpAny_mono (YU B (OI w b n) x hA S N) (λf s' h=> ?_) λ_ _ z=>z);cases f<;>first|exact wpAny_execs_nil h|exact h
theorem qV(B:k3 w b)(x:Uk (Sem w b n) e sc fr σ Q):t5 w b n e sc fr σ Q:=XU B (OI w b n) x
noncomputable def Ew(vm:V->V->Prop):Fl->Fl->Prop
 | .next,.next=>True
 | .brk,.brk=>True
 | .cont,.cont=>True
 | .ret v,.ret v2=>vm v v2
 |_,_=>False
theorem Gg{vm:V->V->Prop}{rs I3:List RO}(h:∀v v2 u,vm v v2->E2 b rs v u->E2 b I3 v2 u){g g2:Fl}{f:Flow}(x:Ew vm g g2)(o:vl b rs g f):vl b I3 g2 f:=by
 induction g using Fl.casesOn with
 |ret v=>induction g2 using Fl.casesOn with
  |ret v2=>induction f using Flow.casesOn<;>first|exact h _ _ _ x o|exact o
  |_=>exact x.elim
 |_=>induction g2 using Fl.casesOn<;>first|exact x.elim|(induction f using Flow.casesOn<;>exact o)
structure Hg(k:Nat)(vm:V->V->Prop)(fr q9:J2):Prop where
 loc:∀y v2,lk y q9.loc=some v2->∃v,lk y fr.loc=some v/\vm v v2
 O3:∀y i,lk y q9.O3=some i->lk y fr.O3=some i/\i<k
theorem Hg.ok(F:Hg k vm fr q9)(h:∀v v2 u,vm v v2->E2 b rs v u->E2 b I3 v2 u)(a:∀i a,i<k->adr rs i=some a->adr I3 i=some a)
 (N:o4 b rs env sc fr m):o4 b I3 env sc q9 m:=
 ⟨N.fn,N.names,N.glob,N.blt,N.above,λy v2 e=>by
  refine u0 (F.loc y v2 e) λv e1 hv=> ?_;refine u0 (N.loc y v e1) λu e2 ok=> ?_;exact⟨u,e2,h _ _ _ hv ok⟩,λy i e=>by
  refine D0 (F.O3 y i e) λe1 hi=> ?_;refine u0 (N.O3 y i e1) λc e2 e3=> ?_;exact⟨c,e2,a i c hi e3⟩⟩
theorem YI(X:Ext rs r1)(a:∀i a,i<rs.length->adr r1 i=some a->adr r2 i=some a)(t:∀a o,(a,o)∈led r1->IsT o->(a,o)∈led r2)(z:∀p∈L0 r1,p∈L0 r2):Ext rs r2:=
 ⟨λi c e=>by
  have hi:i<rs.length:=by
   unfold adr at e;refine u0 (HJ.mp e) λr hr _=> ?_;exact Y1 hr
  exact a i c hi (X.at_ i c e),λc o e ht=>t c o (X.tup c o e ht) ht,λp e=>z p (X.fz p e)⟩
theorem l8{l:List Stmt}{sc:Scope}{fr:J2}{σ:St}{K:KS}(x:R0 w b n l sc fr σ λg V8 F1=>∃g2 q9 H2 t2 vm,Goes w b σ.heap.length F1.heap H2 vm/\Ew vm g g2/\Hg σ.heap.length vm V8 q9/\K g2 q9 ⟨H2,t2⟩):R0 w b n l sc fr σ K:=by
 intro A E s cx rs env m hA S N;refine wpAny_mono (x hA S N) (λf s' h=> ?_) λ_ _ z=>z;obtain⟨g,V8,F1,r1,m2,⟨g2,q9,H2,t2,vm,G,fl,F,q⟩,S1,N1,X1,o⟩:=h;refine b8 (G.go S1) λr2 S2 a1 a2 a3 a4=> ?_;exact⟨g2,q9,⟨H2,t2⟩,r2,m2,q,S2,F.ok a4 a1 N1,YI X1 (λi a hi=>a1 i a (S.len▸hi)) a2 a3,Gg a4 fl o⟩
theorem DP(x:t5 w b n e sc fr σ λv F1=>∃v2 H2 t2 vm,Goes w b σ.heap.length F1.heap H2 vm/\vm v v2/\Q v2 ⟨H2,t2⟩):t5 w b n e sc fr σ Q:=by
 intro A E s cx rs env hA S N;refine wpAny_mono (x hA S N) (λf s' h=> ?_) λ_ _ z=>z;obtain⟨v,F1,r1,⟨v2,H2,t2,vm,G,hv,q⟩,S1,X1,o⟩:=h;refine b8 (G.go S1) λr2 S2 a1 a2 a3 a4=> ?_;exact⟨v2,⟨H2,t2⟩,r2,q,S2,YI X1 (λi a hi=>a1 i a (S.len▸hi)) a2 a3,a4 _ _ _ hv o⟩
theorem M8(x:F0 w b n f args σ λv F1=>∃v2 H2 t2 vm,Goes w b σ.heap.length F1.heap H2 vm/\vm v v2/\Q v2 ⟨H2,t2⟩):F0 w b n f args σ Q:=by
 intro A s cx rs u us L m hA S hL hb of os;refine V6 (x hA S hL hb of os) λv s' h=> ?_;obtain⟨v,F1,r1,⟨v2,H2,t2,vm,G,hv,q⟩,S1,X1,o⟩:=h;refine b8 (G.go S1) λr2 S2 a1 a2 a3 a4=> ?_;exact⟨v2,⟨H2,t2⟩,r2,q,S2,YI X1 (λi a hi=>a1 i a (S.len▸hi)) a2 a3,a4 _ _ _ hv o⟩
noncomputable def all2(vm:V->V->Prop):List V->List V->Prop
 |[],[]=>True
 |x::xs,y::ys=>vm x y/\all2 vm xs ys
 |_,_=>False
theorem yn{vm:V->V->Prop}{rs I3:List RO}(h:∀v v2 u,vm v v2->E2 b rs v u->E2 b I3 v2 u){args args2:List V}{us:List Value}(k:all2 vm args args2)(x:V0 b rs args us):V0 b I3 args2 us:=by
 induction args generalizing args2 us with
 |nil=>induction args2 using H5 with
  |nil=>exact x
  |cons _ _=>exact k.elim
 |cons v args ih=>induction args2 using H5 with
  |nil=>exact k.elim
  |cons v2 args2=>exact x.un λu q x1 x2=> .cons (h _ _ _ k.1 x1) (ih k.2 x2)
theorem mA(hf:∀i,f≠.ref i)(hi:∀d,f≠.W0 d)(G:Goes w b H.length H H2 vm)(F:all2 vm args args2)(x:F0 w b n f args2 ⟨H2,t2⟩ Q):F0 w b n f args ⟨H,t⟩ Q:=by
 intro A s cx rs u us L m hA S hL hb of os;refine b8 (G.go S) λr2 S2 a1 a2 a3 a4=> ?_;have of2:E2 b r2 f u:=by induction f using V.casesOn<;>first|exact of|exact absurd rfl (hf _)|exact absurd rfl (hi _)
 exact V6 (x hA S2 hL hb of2 (yn a4 F os)) λv s' h=> .from (YI (.refl rs) (λi a hi=>a1 i a (S.len▸hi)) a2 a3) h
noncomputable def Fw(k:Nat)(H1:List n0):World->Heap->(Nat->Option Addr)->List (Addr×Obj)->Addr->List (Addr×Obj)->Prop:=λw b f p a l=>
 ∃oZ FG,oZ.length=k/\(∀i,i<k->adr oZ i=f i)/\L0 oZ=p/\led oZ=p/\led FG=l/\L0 FG=[]/\adr FG 0=some a/\H1.length=FG.length/\
  ∀i o r,J0 H1 i=some o->J0 FG i=some r->P2 w b (oZ++FG) o r
noncomputable def yN(k:Nat)(H1:List n0):n0:= .box (Fw k H1)
theorem y6(a c:List RO):L0 (a++c)=L0 a++L0 c:=by simp[L0]
theorem Z0(h:i<l.length):J0 (l++k) i=J0 l i:=by rw[U0,U0,List.getElem?_append_left h]
theorem P1(h:l.length<=i):J0 (l++k) i=J0 k (i -l.length):=by rw[U0,U0,List.getElem?_append_right h]
theorem Y6(h:i<l.length):adr (l++k) i=adr l i:=by unfold adr;rw[Z0 h]
theorem U7(h:l.length<=i):adr (l++k) i=adr k (i -l.length):=by unfold adr;rw[P1 h]
theorem ZI(h:adr rs i=some a):i<rs.length:=by
 unfold adr at h;refine u0 (HJ.mp h) λr hr _=> ?_;exact Y1 hr
theorem Goes.unbox(hk:0<H0.length):Goes w b (H0.length+1) (H0++[yN H0.length H1]) (H0++H1) λv v2=>v2=v:=⟨λ{cx rs h og} S=>by
 have hl:rs.length=H0.length+1:=by rw[S.len.symm];simp
 refine O0 (l7 (l:=rs) (i:=H0.length) (by lia)) λr hr=> ?_;have e0:J0 (H0++[yN H0.length H1]) H0.length=some (yN H0.length H1):=by rw[P1 (j6 _)];simp[mB,A9,x8]
 obtain⟨a,l,f,p,rfl,hf,hp,oZ,FG,p1,p2,p3,p4,p5,p6,p7,p8,p9⟩:=S.ok _ _ _ e0 hr;have es:rs=rs.take H0.length++[.big a l]:=by
  refine List.ext_getElem? λi=> ?_;by_cases hi:i<H0.length
  .rw[List.getElem?_append_left (by simp;lia),List.getElem?_take,if_pos hi]
  .rw[List.getElem?_append_right (by simp;lia)];by_cases um:i=H0.length
   .subst um;rw[<-U0,hr];simp[hl]
   .rw[List.getElem?_eq_none (by lia),List.getElem?_eq_none (by simp;lia)]
 generalize hr0:rs.take H0.length=KG at es
 have l0:KG.length=H0.length:=by rw[hr0.symm];simp;lia
 subst es;have el:led (KG++FG)=led (KG++[.big a l]):=by rw[g5,g5,p5];simp[led,RO.led]
 have Gw:L0 (KG++[.big a l])=L0 KG:=by rw[y6];simp[L0,RO.fz]
 have An:L0 (KG++FG)=L0 KG:=by rw[y6,p6,VG _]
 have X:Ext (KG++[.big a l]) (KG++FG):=by
  refine⟨λi c e=> ?_,λc o hm _=>el▸hm,λq hq=>by rw[An,Gw.symm];exact hq⟩;by_cases hi:i<KG.length
  .rw[Y6 hi] at e⊢;exact e
  .have:=ZI e;have um:i=KG.length:=by simp at this;lia
   subst um;rw[U7 (j6 _)] at e⊢;rw[Nat.sub_self] at e⊢;obtain rfl:=si e;exact p7
 have XP:Ext (oZ++FG) (KG++FG):=by
  refine⟨λi c e=> ?_,λc o hm _=> ?_,λq hq=> ?_⟩
  .by_cases hi:i<H0.length
   .rw[Y6 (by lia),p2 i hi] at e;have:=hf i c e;rw[Y6 (by lia)] at this⊢;exact this
   .rw[U7 (by lia)] at e⊢;rw[p1] at e;rw[l0];exact e
  .rw[g5] at hm⊢;rcases R5.mp hm with hm|hm
   .rw[p4] at hm;have:=hp _ hm;rw[Gw] at this;exact o7 _ (j4 this)
   .exact u5 _ hm
  .rw[An];rw[y6,p6,VG,p3] at hq;have:=hp _ hq;rw[Gw] at this;exact this
 refine⟨KG++FG,⟨S.keep,S.ns,by rw[el];exact S.at_,by rw[el];exact S.nd,?_,S.big,?_,λi o r e1 e2=> ?_⟩,λi c _ e=>X.at_ i c e,X.tup,X.fz,λv v2 u e x=>e▸x.ext X⟩
 .simp[l0,p8]
 .exact X.at_ _ _ S.tab
 .by_cases hi:i<H0.length
  .rw[Z0 hi] at e1;rw[Z0 (by lia)] at e2;exact(S.ok i o r (by rw[Z0 hi];exact e1) (by rw[Z0 (by lia)];exact e2)).ext X
  .rw[P1 (by exact gB.mp (by assumption))] at e1;rw[P1 (by lia)] at e2;rw[l0] at e2;exact(p9 _ o r e1 e2).ext XP⟩
end
noncomputable def FF:n0->Bool
 | .D4 _=>false
 |o=>C3 o
theorem pZ:∀{r:RO},FF o=true->P2 w b rs o r->r.fz=[]:=by
 induction o using n0.casesOn with
 |lst xs=>intro r _ B0;refine V3 B0 λa vs k e h=> ?_;clear B0;subst e;rfl
 |tup xs=>intro r _ B0;refine V3 B0 λa vs k e h=> ?_;clear B0;subst e;rfl
 |cell v=>intro r _ B0;refine T3 B0 λa o c e d h=> ?_;clear B0;subst e;rfl
 |inst c fs=>intro r _ B0;refine EE B0 λa dx C es k e d h=> ?_;clear B0;subst e;rfl
 |dS es=>intro r _ B0;refine T3 B0 λa o l4 e d h=> ?_;clear B0;subst e;rfl
 |dI es=>intro r _ B0;refine T3 B0 λa o l4 e d h=> ?_;clear B0;subst e;rfl
 |dT es=>intro r _ B0;refine A3 B0 λa o e h=> ?_;clear B0;subst e;rfl
 |w9 x y st=>intro r _ B0;refine UJ B0 λa o t u v e h=> ?_;clear B0;subst e;rfl
 |dN nb es=>intro r _ B0;refine A3 B0 λa o e h=> ?_;clear B0;subst e;rfl
 |D4 o=>intro r h;exact G2 h
 |L0=>intro r h;exact G2 h
 |any=>intro r h;exact G2 h
 |box Q=>intro r h;exact G2 h
theorem tV(h:FF o=true):FF (o.Z5 f)=true:=by induction o using n0.casesOn<;>first|rfl|exact G2 h
noncomputable def N8(H1:List n0)(j:Nat):Bool:=match J0 H1 j with|some (.D4 _)=>true|_=>false
noncomputable def gR(H1:List n0)(rs:List RO)(i j:Nat):RO:=bif N8 H1 j then .V5 (Y0 rs i).addr [] else Y0 rs i
theorem uL:(gR H1 rs i j).addr=(Y0 rs i).addr:=by unfold gR;cases N8 H1 j<;>rfl
theorem aJ(h:p∈(gR H1 rs i j).led):p∈(Y0 rs i).led/\N8 H1 j=false:=by
 unfold gR at h;induction e:N8 H1 j using Q2 with
 |true=>rw[e] at h;cases h
 |false=>rw[e] at h;exact⟨h,rfl⟩
section
end
section
theorem yH:∀{as bs:List V},as.map V.D1=bs.map V.D1->all2 (λv v2=>v.D1=v2.D1) as bs
 |[],[],_=>trivial
 |a::as,c::bs,h=>by
  simp only[R6,List.cons.injEq] at h;exact⟨h.1,yH h.2⟩
 |[],_::_,h=>by exact Zi h
 |_::_,[],h=>by exact Rj h
theorem WC(hf:∀i,f≠.ref i)(hi:∀d,f≠.W0 d)(ha:args.map V.D1=args2.map V.D1)(hh:H.map n0.D1=H2.map n0.D1)(x:F0 w b n f args2 ⟨H2,t2⟩ Q):F0 w b n f args ⟨H,t⟩ Q:=
 mA hf hi (Goes.D1 hh) (yH ha) x
theorem UA(i j:Nat):V.fn i≠.ref j:=λh=>A0 (congrArg rV h)
theorem bJ(i:Nat)(d:Dt):V.fn i≠.W0 d:=λh=>A0 (congrArg mV h)
theorem Hw(c i j:Nat):V.mt c i≠.ref j:=λh=>A0 (congrArg rV h)
theorem Iw(c i:Nat)(d:Dt):V.mt c i≠.W0 d:=λh=>A0 (congrArg mV h)
theorem P9(B:k3 w b)(h:(run HS k).call f args σ Q):F0 w b k f args σ Q:=by
 have O:M6 w b (0+k) (run HS k):=K9 B 0 (λm _=>WU w b m) k;rw[Nat.zero_add] at O;exact O.wC.2.2 h
theorem take1(a c t:Int)(K:K1):(run HS 12).call (.fn 56) [.ref 2,iT t] ⟨[.any,.L0,.lst [iT a,iT c]],[true]⟩ K=(decide (0<a)=true/\(decide (t≠0)&&small t)=true/\(decide (t≠0)&&small t)=true/\K (iT (a.fmod t)) ⟨[.any,.L0,.lst [iT (a.fdiv t),iT c]],[]⟩):=by kernel_rfl
theorem take2(a c t:Int)(K:K1):(run HS 12).call (.fn 56) [.ref 2,iT t] ⟨[.any,.L0,.lst [iT a,iT c]],[false]⟩ K=(decide (0<a)=false/\(small c||true)=true/\(small (N9 c)||small (N9 c))=true/\(decide (t≠0)&&small t)=true/\K (iT ((((N9 c*N9 c).fmod 2147483629).fdiv 32).fmod t)) ⟨[.any,.L0,.lst [iT a,iT (N9 c)]],[]⟩):=by kernel_rfl
theorem vL(c:Int):small (N9 c)=true:=by
 have h1:0<=N9 c:=Int.fmod_nonneg_of_pos _ (by decide);have h2:N9 c<2147483647:=Int.fmod_lt_of_pos _ (by decide);unfold small;rw[Nat.blt_eq];lia
theorem zN(B:k3 w b)(ht:0<t)(hs:small t=true)(tp:List Bool):
 F0 w b 12 (.fn 56) [.ref 2,iT t] ⟨[.any,.L0,.lst [iT a,iT c]],tp⟩ λv F1=>v=iT (Y2 a c t)/\F1.heap=[.any,.L0,.lst [iT (g6 a c t),iT (i6 a c t)]]:=by
 have Jw:(decide (t≠0)&&small t)=true:=by rw[hs,Bool.and_true _,decide_eq_true_iff];lia
 by_cases ha:0<a
 .refine W6 (t:=[true]) (P9 B ?_);rw[take1];refine⟨decide_eq_true ha,Jw,Jw,?_,?_⟩
  .unfold Y2;rw[if_pos ha]
  .unfold g6 i6;rw[if_pos ha,if_pos ha]
 .refine W6 (t:=[false]) (P9 B ?_);rw[take2];refine⟨decide_eq_false ha,by simp,by rw[vL _];rfl,Jw,?_,?_⟩
  .unfold Y2;rw[if_neg ha]
  .unfold g6 i6;rw[if_neg ha,if_neg ha]
noncomputable def uV(J:List Nat)(j:Nat):Nat:=(J0 J j).getD 0
noncomputable def EP(Hl:List n0)(f:Nat->Nat)(n:Nat):List Nat->List n0->Prop
 |[],[]=>True
 |i::J,o::Hs=>i<Hl.length/\(o= .any\/(o= .L0/\J0 Hl i=some .L0)\/((C3 o=true\/∃o',o= .D4 o')/\J0 Hl i=some (o.Z5 f)/\o.lt n))/\EP Hl f n J Hs
 |_,_=>False
theorem zH:∀{J:List Nat}{Hs:List n0},EP Hl f n J Hs->J.length=Hs.length
 |[],[],_=>rfl
 |_::J,_::Hs,h=>by simp[zH h.2.2]
 |[],_::_,h=>h.elim
 |_::_,[],h=>h.elim
theorem VB:∀{J:List Nat}{Hs:List n0}{j i:Nat}{o:n0},EP Hl f n J Hs->J0 J j=some i->J0 Hs j=some o->i<Hl.length/\(o= .any\/(o= .L0/\J0 Hl i=some .L0)\/((C3 o=true\/∃o',o= .D4 o')/\J0 Hl i=some (o.Z5 f)/\o.lt n))
 |[],[],j,_,_,_,h,_=>by induction j using iB<;>exact A0 h
 |x::J,y::Hs,0,i,o,h,e1,e2=>by obtain rfl:=si e1;obtain rfl:=si e2;exact⟨h.1,h.2.1⟩
 |x::J,y::Hs,j+1,i,o,h,e1,e2=>VB (J:=J) (Hs:=Hs) h.2.2 e1 e2
 |[],_::_,_,_,_,h,_,_=>h.elim
 |_::_,[],_,_,_,h,_,_=>h.elim
theorem FP:∀{l:List α}{i j:Nat}{x:α},l.Nodup->J0 l i=some x->J0 l j=some x->i=j
 |[],i,_,_,_,h,_=>by induction i using iB<;>exact A0 h
 |a::l,0,0,_,_,_,_=>rfl
 |a::l,0,j+1,x,nd,h1,h2=>by
  obtain rfl:=si h1;have h2:J0 l j=some a:=h2;rw[U0] at h2;exact absurd (List.mem_of_getElem? h2) (H7.mp nd).1
 |a::l,i+1,0,x,nd,h1,h2=>by
  obtain rfl:=si h2;have h1:J0 l i=some a:=h1;rw[U0] at h1;exact absurd (List.mem_of_getElem? h1) (H7.mp nd).1
 |a::l,i+1,j+1,x,nd,h1,h2=>congrArg (·+1) (FP (H7.mp nd).2 (show J0 l i=some x from h1) (show J0 l j=some x from h2))
theorem XC(h:j<J.length):J0 J j=some (uV J j):=by
 refine O0 (l7 h) λi hi=> ?_;unfold uV;rw[hi];rfl
theorem GP(o:EP Hl (uV J) Hs.length J Hs)(nd:J.Nodup)(j0:J0 J 0=some 0)(j1:J0 J 1=some 1)(pl:J0 Hl 1=some .L0)(ps:J0 Hs 1=some .L0):a9 Hl Hs (uV J):=by
 have hl:=zH o;refine⟨pl,ps,by unfold uV;rw[j0];rfl,by unfold uV;rw[j1];rfl,λi j hi hj e=> ?_,λi hi=> ?_,λi x e so=> ?_,λi x e so=> ?_⟩
 .exact FP nd (XC (hl▸hi)) (by rw[e];exact XC (hl▸hj))
 .refine O0 (l7 hi) λx hx=> ?_;exact(VB o (XC (hl▸hi)) hx).1
 .rcases(VB o (XC (hl▸Y1 e)) e).2 with h|⟨h,_⟩|⟨h,h2⟩
  .exact .inl h
  .exact .inr (.inl h)
  .rcases h with h|h
   .rw[so] at h;exact G2 h
   .exact .inr (.inr ⟨h,h2⟩)
 .rcases(VB o (XC (hl▸Y1 e)) e).2 with h|⟨h,_⟩|⟨_,h⟩
  .subst h;exact G2 so
  .subst h;exact G2 so
  .exact h
noncomputable def vV(H':List n0)(f:Nat->Nat)(n:Nat):List Nat->List n0->List n0->Prop
 |i::J,o::Hs,o'::Hs'=>(C3 o=true->C3 o'=true/\o'.lt n/\J0 H' i=some (o'.Z5 f))/\vV H' f n J Hs Hs'
 |_,[],_=>True
 |_,_,_=>False
theorem wL:∀{J:List Nat}{Hs Hs':List n0}{j i:Nat}{o:n0},vV H' f n J Hs Hs'->J0 J j=some i->J0 Hs j=some o->C3 o=true->∃o',J0 Hs' j=some o'/\C3 o'=true/\o'.lt n/\J0 H' i=some (o'.Z5 f)
 |x::J,y::Hs,z::Hs',0,i,o,h,e1,e2,so=>by obtain rfl:=si e1;obtain rfl:=si e2;refine R2 (h.1 so) λq1 q2 q3=> ?_;exact⟨z,rfl,q1,q2,q3⟩
 |x::J,y::Hs,z::Hs',j+1,i,o,h,e1,e2,so=>wL (J:=J) (Hs:=Hs) (Hs':=Hs') h.2 e1 e2 so
 |J,[],_,j,_,_,_,_,e2,_=>by induction j using iB<;>exact A0 e2
 |[],_::_,_,_,_,_,h,_,_,_=>h.elim
 |_::_,_::_,[],_,_,_,h,_,_,_=>h.elim
theorem qZ(hJ:J.length=Hs.length)(len:H'.length=Hl.length)(lv:vV H' (uV J) Hs.length J Hs Hs')(rest:∀j,j<Hl.length->(∀i,G4 Hs i=true->uV J i≠j)->J0 H' j=J0 Hl j):Ag Hl Hs Hs' H' (uV J):=by
 refine⟨len,λi hi=> ?_,rest⟩;refine u0 (gA hi) λo ho so=> ?_;exact wL lv (XC (hJ▸Y1 ho)) ho so
theorem wV(B:k3 w b)(h1:J0 H 1=some .L0)(h2:2<=i)(hi:J0 H i=some (.lst [.int s1 a,.int s2 c]))(ht:0<t)(hs:small t=true)
 (q:Q (iT (Y2 a c t)) ⟨upd H i (.lst [iT (g6 a c t),iT (i6 a c t)]),tp⟩):F0 w b 12 (.fn 56) [.ref i,.int s3 t] ⟨H,tp⟩ Q:=by
 have hl:=Y1 hi;have l1:=Y1 h1;have hh:H.map n0.D1=(upd H i (.lst [iT a,iT c])).map n0.D1:=by
  refine List.ext_getElem? λj=> ?_;rw[LJ,LJ,<-U0,<-U0];by_cases e:j=i
  .subst e;rw[J4 hi,hi];rfl
  .rw[Z3 e]
 refine WC (args2:=[.ref i,iT t]) (t2:=tp) (UA _) (bJ _) rfl hh ?_;have n1:J0 (upd H i (.lst [iT a,iT c])) 1=some .L0:=by rw[Z3 (by exact Nat.ne_of_lt (by assumption))];exact h1
 have ll:(upd H i (.lst [iT a,iT c])).length=H.length:=by rw[K3,MJ]
 have hJ:([0,1,i]:List Nat).Nodup:=by simp;lia
 refine OB (Hs:=[.any,.L0,.lst [iT a,iT c]]) (f:=uV [0,1,i]) (as:=[.ref 2,iT t]) (t:=tp) (UA _) (GP ?_ hJ rfl rfl n1 rfl) rfl (λv hv=> ?_) (I5 (zN B ht hs tp) λv F1 hv=> ?_)
 .refine⟨by rw[ll];exact Nat.le_of_lt (by assumption),.inl rfl,by rw[ll];assumption,.inr (.inl ⟨rfl,n1⟩),by rw[ll];assumption,.inr (.inr ⟨.inl rfl,J4 hi,?_⟩),trivial⟩;intro v hv;simp only[M4,v8,or_false] at hv;rcases hv with rfl|rfl<;>trivial
 .simp only[M4,v8,or_false] at hv;rcases hv with rfl|rfl
  .show 2<3;decide
  .trivial
 .refine D0 hv λB0=> ?_;clear hv;subst B0;intro e;refine⟨trivial,upd H i (.lst [iT (g6 a c t),iT (i6 a c t)]),tp,?_,q⟩;rw[e];refine qZ rfl (by rw[ll,K3,MJ]) ⟨λh=>by(exact G2 h),λh=>by(exact G2 h),λ_=>⟨rfl,?_,J4 hi⟩,trivial⟩ λj hj hn=> ?_
  .intro v hv;simp only[M4,v8,or_false] at hv;rcases hv with rfl|rfl<;>trivial
  .have:j≠i:=λe=>hn 2 rfl e.symm;rw[Z3 this,Z3 this]
theorem BD(x y:Int):R3 [Builtin.bitAnd x 255,Builtin.bitAnd y 255]=true:=by
 have h1:=bitAnd_range x (y:=255) (by decide);have h2:=bitAnd_range y (y:=255) (by decide);simp only[R3,List.all_cons,List.all_nil,Bool.and_true,JD,decide_eq_true_iff];lia
theorem Bn(k:UInt8×UInt8)(s:Int)(K:V->Prop):(run HS 40).call (.fn 40) [.W0 (T6 k s [])] ⟨[y3,.L0],[true,true]⟩ (λv _=>K v)=(decide (0<=s)=true/\decide (s<65536)=true/\(R3 [Builtin.bitAnd (s.fdiv 256) 255,Builtin.bitAnd (s.fdiv 1) 255]=true/\2<=100000)/\K (.bytes true (K4 k s []))):=by kernel_rfl
theorem Cn(k:UInt8×UInt8)(s:Int)(x:UInt8)(K:V->Prop):(run HS 40).call (.fn 40) [.W0 (T6 k s [x])] ⟨[y3,.L0],[true,true]⟩ (λv _=>K v)=(decide (0<=s)=true/\decide (s<65536)=true/\(R3 [Builtin.bitAnd (s.fdiv 256) 255,Builtin.bitAnd (s.fdiv 1) 255]=true/\2<=100000)/\K (.bytes true (K4 k s [x]))):=by kernel_rfl
theorem AN(B:k3 w b)(h:okN s m)(tp:List Bool):F0 w b 40 (.fn 40) [.W0 (T6 k s m)] ⟨[y3,.L0],tp⟩ λv _=>v= .bytes true (K4 k s m):=by
 refine R2 h λh1 h2 h3=> ?_;clear h
 match m,h3 with
 |[],_=>
  refine W6 (t:=[true,true]) (P9 B ?_);rw(config:={}) [Bn k s λv=>v= .bytes true (K4 k s [])];exact⟨decide_eq_true h1,decide_eq_true h2,⟨BD _ _,by decide⟩,rfl⟩
 |[x],_=>
  refine W6 (t:=[true,true]) (P9 B ?_);rw(config:={}) [Cn k s x λv=>v= .bytes true (K4 k s [x])];exact⟨decide_eq_true h1,decide_eq_true h2,⟨BD _ _,by decide⟩,rfl⟩
set_option tactic.hygienic true in
theorem cJ(h:vN x n p=true):p=(x,.int false n):=by
 obtain⟨y,v⟩:=p;refine D0 (Bool.and_eq_true_iff.mp h) λh1 h2=> ?_;have e:y=x:=x6 h1;subst e;induction v using V.casesOn<;>first|(exact G2 h2;done)|skip
 rename_i s a;induction s using Q2 with
 |true=>exact G2 h2
 |false=>rw[of_decide_eq_true (show decide (a=n)=true from h2)]
set_option tactic.hygienic true in
theorem yL(h:pL o=true):o=y3:=by
 induction o using n0.casesOn<;>first|(exact G2 h;done)|skip
 rename_i o;induction o using n0.casesOn<;>first|(exact G2 h;done)|skip
 rename_i es;induction es using H5 with
 |nil=>exact G2 h
 |cons p es=>induction es using H5 with
  |nil=>exact G2 h
  |cons q es=>induction es using H5 with
   |nil=>exact G2 h
   |cons r es=>induction es using H5 with
    |cons _ _=>exact G2 h
    |nil=>
     refine D0 (Bool.and_eq_true_iff.mp (show(vN "port text" 4 p&&(vN "name" 5 q&&vN "system text" 6 r))=true from h)) λh1 h2=> ?_;refine D0 (Bool.and_eq_true_iff.mp h2) λh2 h3=> ?_;rw[cJ h1,cJ h2,cJ h3];rfl
theorem iR(h:sS d=some (k,s,m)):d.D1=(T6 k s m).D1/\V.T5 d= .W0 d:=by
 refine TJ (rK h) λs1 t v z B0=> ?_;subst B0;exact⟨rfl,rfl⟩
theorem xV(B:k3 w b)(h0:J0 H 0=some t0)(ht:pL t0=true)(h1:J0 H 1=some .L0)(hr:rowsOf H x=some (k,s,m))(hk:okN s m)(q:Q (.bytes true (K4 k s m)) ⟨H,tp⟩):
 F0 w b 40 (.fn 40) [x] ⟨H,tp⟩ Q:=by
 rw[yL ht] at h0;refine u3 hr λd hd hr=>D0 (iR hr) λhc hv=> ?_;have Pe:zG (dat H H6) [x]=some [d]:=by show Option.bind (dat H H6 x) _=_;rw[hd];rfl
 refine bR (t:=tp) (UA _) (bJ _) h0 h1 Pe (WC (args2:=[.W0 (T6 k s m)]) (t2:=tp) (UA _) (bJ _) ?_ rfl (I5 (AN B hk tp) λv F1 e=>e▸⟨trivial,tp,q⟩));show[(V.T5 d).D1]=[(V.W0 (T6 k s m)).D1];rw[hv];exact congrArg (λd=>[V.W0 d]) hc
theorem Kw(h l:Nat)(hl:l<256):(h*256)&&&l=0:=by
 have e:l&&&255=l:=by
  have:=Nat.and_two_pow_sub_one_eq_mod l 8;rw[Nat.mod_eq_of_lt (by simpa using hl)] at this;simpa using this
 have e2:(h*256)&&&255=0:=by
  have:=Nat.and_two_pow_sub_one_eq_mod (h*256) 8;simpa using this
 rw[e.symm,Nat.and_comm l _,<-Nat.and_assoc,e2,Nat.zero_and _]
theorem Dn(h l:Nat)(hl:l<256):Builtin.bitOr (Builtin.bitOr 0 (h:Int)*256) (l:Int)=(h:Int)*256+l:=by
 have e0:Builtin.bitOr 0 (h:Int)=h:=by
  rw[bitOr_and];have:Builtin.bitAnd 0 (h:Int)=0:=by
   unfold Builtin.bitAnd;simp
  rw[this];lia
 rw[e0,bitOr_and];have:Builtin.bitAnd ((h:Int)*256) (l:Int)=0:=by
  have e1:((h:Int)*256)=((h*256:Nat):Int):=by simp
  rw[e1];unfold Builtin.bitAnd;rw[decide_eq_true (by lia),decide_eq_true (by omega)];show(((((h*256:Nat):Int).toNat&&&((l:Nat):Int).toNat:Nat)):Int)=0;rw[Int.toNat_natCast _,Int.toNat_natCast _,Kw h l hl];rfl
 rw[this];rfl
theorem AH(h0:0<=s)(h1:s<65536):Builtin.bitOr (Builtin.bitOr 0 ((dR s).toNat:Int)*256) ((pj s).toNat:Int)=s/\small (Builtin.bitOr 0 ((dR s).toNat:Int))=true:=by
 have e1:((dR s).toNat:Int)=s/256:=by
  unfold dR;rw[bitAnd_m8 _,Int.fdiv_eq_ediv_of_nonneg _ (by decide),iE (by lia) (by lia)];lia
 have e2:((pj s).toNat:Int)=s%256:=by
  unfold pj;rw[bitAnd_m8 _,Int.fdiv_eq_ediv_of_nonneg _ (by decide),Int.ediv_one _,iE (by lia) (by lia)]
 have l2:(pj s).toNat<256:=UInt8.toNat_lt _;refine⟨?_,?_⟩
 .rw[Dn _ _ l2,e1,e2];lia
 .have e0:Builtin.bitOr 0 ((dR s).toNat:Int)=((dR s).toNat:Int):=by
   rw[bitOr_and];have:Builtin.bitAnd 0 ((dR s).toNat:Int)=0:=by
    unfold Builtin.bitAnd;simp
   rw[this];lia
  rw[e0];have:(dR s).toNat<256:=UInt8.toNat_lt _;unfold small;rw[Nat.blt_eq];exact MH (by assumption) (by decide)
noncomputable def zL(k:UInt8×UInt8)(s:Int)(m:List UInt8):Dt:=
 .lst [.tup [.str "chassis",.int true 7,.bytes true [k.1]],.tup [.str "port",.int true 7,.bytes true [k.2]],.tup [.str "time",.int true (Builtin.bitOr (Builtin.bitOr 0 ((dR s).toNat:Int)*256) ((pj s).toNat:Int))],.tup [.str "name",.bytes true m]]
noncomputable def Rc:List Bool:=[false,false,true,false,true,false,false,false,false,true,false,false,false,false,false,false,true,true,false,false,false,false,false,false,true,false,false,false,true]
theorem Lw(k:UInt8×UInt8)(s:Int)(P:Option (Dt×Option n0)->Prop):(run HS 40).call (.fn 44) [.bytes true (K4 k s [])] ⟨[y3,.L0],Rc⟩ (λv σ=>P ((N4 6 v σ.heap).map λp=>(p.1,J0 p.2 0)))=((true=true)/\(false=false)/\(false=false)/\(true=true)/\(false=false)/\(true=true)/\(false=false)/\(false=false)/\(true=true)/\(false=false)/\(false=false)/\(true=true)/\(false=false)/\(false=false)/\(false=false)/\(false=false)/\(true=true)/\(false=false)/\(false=false)/\(true=true)/\(true=true)/\((small (Builtin.bitOr 0 ((dR s).toNat:Int))&&true&&true)=true)/\(false=false)/\(false=false)/\(true=true)/\(false=false)/\(false=false)/\(false=false)/\(false=false)/\(true=true)/\(false=false)/\(false=false)/\(true=true)/\(false=false)/\(true=true)/\P (some (zL k s [],some y3))):=by kernel_rfl
theorem Mw(k:UInt8×UInt8)(s:Int)(x:UInt8)(P:Option (Dt×Option n0)->Prop):(run HS 40).call (.fn 44) [.bytes true (K4 k s [x])] ⟨[y3,.L0],Rc⟩ (λv σ=>P ((N4 6 v σ.heap).map λp=>(p.1,J0 p.2 0)))=((true=true)/\(false=false)/\(false=false)/\(true=true)/\(false=false)/\(true=true)/\(false=false)/\(false=false)/\(true=true)/\(false=false)/\(false=false)/\(true=true)/\(false=false)/\(false=false)/\(false=false)/\(false=false)/\(true=true)/\(false=false)/\(false=false)/\(true=true)/\(true=true)/\((small (Builtin.bitOr 0 ((dR s).toNat:Int))&&true&&true)=true)/\(false=false)/\(false=false)/\(true=true)/\(false=false)/\(false=false)/\(false=false)/\(false=false)/\(true=true)/\(false=false)/\(false=false)/\(true=true)/\(false=false)/\(true=true)/\P (some (zL k s [x],some y3))):=by kernel_rfl
noncomputable def du(k:UInt8×UInt8)(s:Int)(m:List UInt8)(o:Option (Dt×Option n0)):Prop:=o=some (zL k s m,some y3)
theorem BN(h0:0<=s)(h1:s<65536):V.D1 (V.T5 (zL k s m))=V.D1 (.W0 (T6 k s m)):=by
 unfold zL;rw[(AH h0 h1).1];rfl
theorem rZ(h0:0<=s)(h1:s<65536)(v:V)(F1:St)(e:du k s m ((N4 6 v F1.heap).map λp=>(p.1,J0 p.2 0))):
 ∃d H2,∃t':List Bool,N4 6 v F1.heap=some (d,H2)/\∃v2 H3,∃t3:List Bool,∃vm,Goes w b 2 H2 H3 vm/\vm (V.T5 d) v2/\(v2= .W0 (T6 k s m)/\J0 H3 0=some y3):=by
 refine u0 (HJ.mp e) λB0=> ?_;obtain⟨d,H2⟩:=B0;intro hp e2;simp only[Prod.mk.injEq] at e2;refine D0 e2 λB0=> ?_;clear e2;subst B0;intro e3;exact⟨_,H2,[],hp,.W0 (T6 k s m),H2,[],λv v2=>v.D1=v2.D1,Goes.D1 rfl,BN h0 h1,rfl,e3⟩
theorem zV(B:k3 w b)(h0:0<=s)(h1:s<65536)(h:(run HS 40).call (.fn 44) [a] ⟨[y3,.L0],Ow⟩ (λv σ=>du k s m ((N4 6 v σ.heap).map λp=>(p.1,J0 p.2 0)))):
 F0 w b 40 (.fn 44) [a] ⟨[y3,.L0],tp⟩ λv F1=>v= .W0 (T6 k s m)/\J0 F1.heap 0=some y3:=
 M8 (zF (I5 (W6 (t:=Ow) (P9 B h)) λv F1 e=>by
  obtain⟨d,H2,t',e1,v2,H3,t3,vm,g1,g2,g3⟩:=rZ (w:=w) (b:=b) h0 h1 v F1 e;exact⟨d,H2,t',e1,v2,H3,t3,vm,g1,g2,g3⟩))
theorem jR(B:k3 w b)(h:okN s m)(tp:List Bool):F0 w b 40 (.fn 44) [.bytes true (K4 k s m)] ⟨[y3,.L0],tp⟩ λv F1=>v= .W0 (T6 k s m)/\J0 F1.heap 0=some y3:=by
 refine R2 h λh1 h2 h3=> ?_;clear h;have hs:(small (Builtin.bitOr 0 ((dR s).toNat:Int))&&true&&true)=true:=by rw[(AH h1 h2).2];rfl
 match m,h3 with
 |[],_=>exact zV B h1 h2 (Eq.mpr (Lw k s (du k s [])) ⟨rfl,rfl,rfl,rfl,rfl,rfl,rfl,rfl,rfl,rfl,rfl,rfl,rfl,rfl,rfl,rfl,rfl,rfl,rfl,rfl,rfl,hs,rfl,rfl,rfl,rfl,rfl,rfl,rfl,rfl,rfl,rfl,rfl,rfl,rfl,rfl⟩)
 |[x],_=>exact zV B h1 h2 (Eq.mpr (Mw k s x (du k s [x])) ⟨rfl,rfl,rfl,rfl,rfl,rfl,rfl,rfl,rfl,rfl,rfl,rfl,rfl,rfl,rfl,rfl,rfl,rfl,rfl,rfl,rfl,hs,rfl,rfl,rfl,rfl,rfl,rfl,rfl,rfl,rfl,rfl,rfl,rfl,rfl,rfl⟩)
theorem sZ(B:k3 w b)(h0:J0 H 0=some t0)(ht:pL t0=true)(h1:J0 H 1=some .L0)(hk:okN s m)(q:Q (.W0 (T6 k s m)) ⟨H,tp⟩):
 F0 w b 40 (.fn 44) [.bytes sb (K4 k s m)] ⟨H,tp⟩ Q:=by
 rw[yL ht] at h0;have l0:=Y1 h0;have l1:=Y1 h1;refine WC (args2:=[.bytes true (K4 k s m)]) (t2:=tp) (UA _) (bJ _) rfl rfl ?_;have tl:y3.lt 2:=by intro p hp;simp only[M4,v8,or_false] at hp;rcases hp with rfl|rfl|rfl<;>trivial
 refine OB (Hs:=[y3,.L0]) (f:=uV [0,1]) (as:=[.bytes true (K4 k s m)]) (t:=tp) (UA _) (GP ⟨l0,.inr (.inr ⟨.inr ⟨_,rfl⟩,h0,tl⟩),l1,.inr (.inl ⟨rfl,h1⟩),trivial⟩ (by decide) rfl rfl h1 rfl) rfl (λv hv=> ?_) (I5 (jR B hk tp) λv F1 hv=> ?_)
 .simp only[M4,v8,or_false] at hv;subst hv;trivial
 .refine D0 hv λB0=> ?_;clear hv;subst B0;intro e;refine⟨trivial,H,tp,⟨rfl,λi hi=> ?_,λ_ _ _=>rfl⟩,q⟩;refine u0 (gA hi) λo e1 so=> ?_
  match i,e1,so with
  |0,e1,so=>obtain rfl:=si e1;exact G2 so
  |1,e1,so=>obtain rfl:=si e1;exact G2 so
theorem GF(B:k3 w b)(k:UInt8×UInt8)(s:Int)(m:List UInt8):∀n,40<=n->s9 w b n (C0 k s m):=by
 intro n hn f args σ Q P e hP;refine u3 e λo h1 e=>A4 e λpo e=> ?_;rw[tn po] at h1;refine CF e (λg e=>u3 e λv e1 e=>u3 e λx e2 e=>u3 e λt h0 e=>A4 e λht e=> ?_) λe=>CF e (λg e=>u3 e λx e1 e=>u3 e λt h0 e=>A4 e λht e=>B5 e λr hr e=> ?_) λe=>CF e (λg e=>B5 e λr hr e=> ?_) A0
 .have hP:=si e▸hP;rw[AP g,A8 e1,mQ e2,hP.1.1];exact(sZ B h0 ht h1 hP.1.2 hP.2).up hn
 .have hP:=e▸hP;rw[AP g,A8 e1];exact(xV B h0 ht h1 hr hP.1 hP.2).up hn
 .have hP:=e▸hP;refine T3 (eR hr) λs1 s2 s3 ea hi h2=> ?_;rw[AP g,ea];exact(wV B h1 h2 hi hP.1.1 hP.1.2 hP.2).up (V7 (by decide) hn)
theorem dJ{c:V->Bool}{C:oG}{m n:Nat}(hm:m<=n)(h:s9 w b n C):s9 w b n λf args σ Q=>sX (c f) (some (F0 w b m f args σ Q)) (C f args σ Q):=λ{f args σ Q P} e hP=>
 CF e (λ_ e=>F0.up hm (si e▸hP)) λe=>h e hP
end
noncomputable def V.ltB(n:Nat):V->Bool
 | .ref i=>Nat.blt i n
 |_=>true
noncomputable def En(x y:Dt):Bool:=match x with
 | .int s a=>(match y with
  | .int t b=>s==t&&decide (a=b)
  |_=>false)
 |_=>false
noncomputable def Ig(d e:Dt):Bool:=match GX d with
 |some (a,b)=>(match GX e with
  |some (a',b')=>En a a'&&En b b'
  |none=>false)
 |none=>false
noncomputable def AV(d:Dt):V->Bool
 | .W0 e=>Ig d e
 |_=>false
noncomputable def n0.ltB(n:Nat):n0->Bool
 | .lst xs=>xs.all (V.ltB n)
 | .tup xs=>xs.all (V.ltB n)
 | .cell v=>(match v with|some u=>u.ltB n|none=>true)
 | .inst _ fs=>fs.all λp=>p.2.ltB n
 | .dS es=>es.all λp=>p.2.ltB n
 | .dI es=>es.all λp=>p.2.ltB n
 | .dT es=>es.all λp=>AV p.1 p.2.1&&p.2.2.ltB n
 | .D4 o=>o.ltB n
 | .box _=>false
 |_=>true
theorem V.d9{n:Nat}{v:V}(h:v.ltB n=true):v.lt n:=by
 induction v using V.casesOn<;>first|trivial|skip
 exact Nat.blt_eq.mp h
set_option tactic.hygienic true in
theorem BV(h:En x y=true):y=x/\∃s n,x= .int s n:=by
 induction x using Dt.casesOn<;>first|(exact G2 h;done)|skip
 induction y using Dt.casesOn<;>first|(exact G2 h;done)|skip
 rename_i s a t c;refine D0 (Bool.and_eq_true_iff.mp (show(s==t&&decide (a=c))=true from h)) λh1 h2=> ?_;have e1:s=t:=eq_of_beq h1;have e2:a=c:=of_decide_eq_true h2;subst e1 e2;exact⟨rfl,_,_,rfl⟩
set_option tactic.hygienic true in
theorem BH(h:AV d v=true):B8 d=true/\v= .W0 d:=by
 induction v using V.casesOn<;>first|(exact G2 h;done)|skip
 rename_i e;have h:Ig d e=true:=h;unfold Ig at h;induction e1:GX d using opQ with
 |none=>rw[e1] at h;exact G2 h
 |some p=>
  induction e2:GX e using opQ with
  |none=>rw[e1,e2] at h;exact G2 h
  |some q=>
   rw[e1,e2] at h;refine D0 (Bool.and_eq_true_iff.mp (show(En p.1 q.1&&En p.2 q.2)=true from h)) λh1 h2=> ?_;obtain⟨f1,s,n,g1⟩:=BV h1;obtain⟨f2,t,m,g2⟩:=BV h2;rw[X8 e1,X8 e2,f1,f2];refine⟨?_,rfl⟩;rw[g1,g2];rfl
theorem n0.d9{n:Nat}{o:n0}(h:o.ltB n=true):o.lt n:=by
 induction o with
 |lst xs=>exactλv hv=>V.d9 (xC.mp h v hv)
 |tup xs=>exactλv hv=>V.d9 (xC.mp h v hv)
 |cell v=>intro u e;subst e;exact V.d9 h
 |inst c fs=>exactλv hv=>V.d9 (xC.mp h v hv)
 |dS es=>exactλv hv=>V.d9 (xC.mp h v hv)
 |dI es=>exactλv hv=>V.d9 (xC.mp h v hv)
 |dT es=>
  intro p hp;have:=xC.mp h p hp;rw[JD] at this;exact⟨(BH this.1).1,(BH this.1).2,V.d9 this.2⟩
 |D4 o ih=>exact ih h
 |box P=>exact G2 h
 |_=>trivial
theorem IF{n:Nat}{H:List n0}(h:H.all (n0.ltB n)=true):∀o∈H,o.lt n:=λo ho=>n0.d9 (xC.mp h o ho)
theorem V.K5{n:Nat}{v:V}:v.D1.lt n↔v.lt n:=by induction v using V.casesOn<;>exact Iff.rfl
theorem V.VA{n:Nat}{v v2:V}(e:v.D1=v2.D1)(h:v2.lt n):v.lt n:=V.K5.mp (e▸V.K5.mpr h)
theorem all_map{α β:Type}{f:α->β}{P:β->Prop}{l:List α}:(∀y∈l.map f,P y)↔∀x∈l,P (f x):=List.forall_mem_map
theorem n0.K5{n:Nat}{o:n0}:o.D1.lt n↔o.lt n:=by
 induction o with
 |lst xs=>exact all_map.trans (forall_congr' λv=>imp_congr_right λ_=>V.K5)
 |tup xs=>exact all_map.trans (forall_congr' λv=>imp_congr_right λ_=>V.K5)
 |cell v=>
  induction v using opQ with
  |none=>exact Iff.rfl
  |some v=>exact⟨λh u e=>by obtain rfl:=si e;exact V.K5.mp (h _ rfl),λh u e=>by obtain rfl:=si e;exact V.K5.mpr (h _ rfl)⟩
 |inst c fs=>exact all_map.trans (forall_congr' λv=>imp_congr_right λ_=>V.K5)
 |dS es=>exact all_map.trans (forall_congr' λv=>imp_congr_right λ_=>V.K5)
 |dI es=>exact all_map.trans (forall_congr' λv=>imp_congr_right λ_=>V.K5)
 |dT es=>exact all_map.trans (forall_congr' λv=>imp_congr_right λ_=>and_congr_right λ_=>and_congr_right λ_=>V.K5)
 |D4 o ih=>exact ih
 |_=>exact Iff.rfl
theorem kR{o:n0}(h:o.D1= .L0):o= .L0:=by induction o using n0.casesOn<;>first|rfl|exact G2 (congrArg Nc h)
noncomputable def Fl.lt(n:Nat):Fl->Prop
 | .ret v=>v.lt n
 |_=>True
noncomputable def flN(f:Fl):Nat:=Fl.casesOn (motive:=λ_=>Nat) f 0 1 2 λ_=>3
noncomputable def rtB(f:Fl):Bool:=Fl.casesOn (motive:=λ_=>Bool) f false false false λ_=>true
theorem tZ{n:Nat}{g g2:Fl}(e:g.D1=g2.D1)(h:g2.lt n):Ew (λv v2=>∃v1,(v1=v/\v.lt n)/\v1.D1=v2.D1) g g2:=by
 induction g using Fl.casesOn with
 |ret v=>induction g2 using Fl.casesOn with
  |ret v2=>
   have e:v.D1=v2.D1:=by injection e
   exact⟨v,⟨rfl,V.VA e h⟩,e⟩
  |_=>exact vG (congrArg rtB e)
 |_=>induction g2 using Fl.casesOn<;>first|exact True.intro|exact G2 (congrArg rtB e)|exact absurd (congrArg flN e) (by decide)
set_option tactic.hygienic true in
theorem uZ:lk y (lV ys l)=some v->lk y l=some v:=by
 induction ys with
 |nil=>
  intro h;exact A0 h
 |cons x ys ih=>
  intro h;unfold lV at h
  split at h
  .rename_i u e;rw[d3] at h;induction c:sq x y using Q2 with
   |true=>
    dsimp only at h;rw[c] at h;obtain rfl:=si h;rw[(x6 c).symm];exact e
   |false=>
    dsimp only at h;rw[c] at h;exact ih h
  .exact ih h
theorem HP:∀{l l2:List (Str×V)},(l.map λp=>(p.1,p.2.D1))=(l2.map λp=>(p.1,p.2.D1))->lk y l2=some v2->∃v,lk y l=some v/\v.D1=v2.D1
 |[],[],_,h=>by exact A0 h
 |p::l,q::l2,e,h=>by
  simp only[R6,List.cons.injEq,Prod.mk.injEq] at e;refine D0 e λB0=> ?_;clear e;refine D0 B0 λe1 e2=> ?_;clear B0;intro e3;rw[d3] at h⊢;rw[e1];induction c:sq q.1 y using Q2 with
  |true=>rw[c] at h;obtain rfl:=si h;exact⟨_,rfl,e2⟩
  |false=>rw[c] at h;exact HP e3 h
 |[],_::_,e,_=>by exact Zi e
 |_::_,[],e,_=>by exact Rj e
theorem Tc:∀{l:List (Str×V)},lk y l=some v->∃p∈l,p.2=v
 |p::l,h=>by
  rw[d3] at h
  split at h
  .obtain rfl:=si h;exact⟨p,M3,rfl⟩
  .refine u0 (Tc h) λq hq e=> ?_;exact⟨q,a5 _ hq,e⟩
structure VOf(N k0:Nat)(g g2:Fl)(L L2:List (Str×V))(O3 cel2:List (Str×Nat))(H1 H2:List n0):Prop where
 hp:H1=E3 H2
 ln:H2.length=N
 pl:J0 H2 1=some .L0
 lt:∀o∈H2,o.lt N
 lc:L=O9 L2
 ll:∀p∈L2,p.2.lt N
 fc:g=g2.D1
 fl:g2.lt N
 cl:∀y i,lk y cel2=some i->lk y O3=some i/\i<k0
section
theorem I4{N k0:Nat}{H H2:List n0}(hk:k0<=N)(h1:1<N)(hp:(H.take N).map n0.D1=H2.map n0.D1)(ln:H2.length=N)(pl:J0 H2 1=some .L0)(lt:∀o∈H2,o.lt N):Goes w b k0 H H2 λv v2=>∃v1,(v1=v/\v.lt N)/\v1.D1=v2.D1:=by
 have hl:N<=H.length:=by
  have:=congrArg List.length hp;simp only[KD,List.length_take] at this;lia
 have at_:∀{i o},i<N->J0 H i=some o->∃o2∈H2,o.D1=o2.D1/\J0 H2 i=some o2:=λ{i o} hi e=>by
  have:J0 ((H.take N).map n0.D1) i=some o.D1:=by
   rw[U0,LJ,<-U0,L8 hi,e];rfl
  rw[hp,U0,LJ] at this;refine u0 (HJ.mp this) λo2 h2 e2=> ?_;exact⟨o2,List.mem_of_getElem? h2,e2.symm,by rw[U0];exact h2⟩
 have Fn:J0 H 1=some .L0:=by
  refine O0 (l7 (l:=H) (i:=1) (by exact MH (by assumption) (by assumption))) λo ho=> ?_;refine J3 (at_ h1 ho) λo2 _ e e2=> ?_;rw[pl] at e2;obtain rfl:=si e2;rw[ho,kR (o:=o) e]
 exact(Goes.drop hk h1 hl Fn λi o hi e=>by
  refine J3 (at_ hi e) λo2 m e2 _=> ?_;exact n0.K5.mp (e2▸n0.K5.mpr (lt o2 m))).trans (Goes.D1 hp)
theorem vZ{N:Nat}{names:List Str}{l:List Stmt}{sc:Scope}{fr:J2}{σ:St}{K:KS}(hk:σ.heap.length<=N)(h1:1<N)
 (x:R0 w b n l sc fr σ (vK names N λg L O3 H1=>∃g2 L2 cel2 H2 t2,VOf N σ.heap.length g g2 L L2 O3 cel2 H1 H2/\K g2 ⟨L2,cel2⟩ ⟨H2,t2⟩)):R0 w b n l sc fr σ K:=
 l8 (QB x λg V8 F1 z=>UJ z λg2 L2 cel2 H2 t2 o q=>by
  refine⟨g2,⟨L2,cel2⟩,H2,t2,_,I4 hk h1 o.hp o.ln o.pl o.lt,tZ o.fc o.fl,⟨λy v2 e=> ?_,o.cl⟩,q⟩;refine u0 (HP o.lc e) λv e1 e2=> ?_;refine u0 (Tc e) λp hp e3=> ?_;exact⟨v,uZ e1,v,⟨rfl,V.VA e2 (e3▸o.ll p hp)⟩,e2⟩)
theorem lR{N:Nat}{f:V}{args:List V}{σ:St}{Q:K1}(hk:σ.heap.length<=N)(h1:1<N)
 (x:F0 w b n f args σ λv F1=>∃v2 H2 t2,v.D1=v2.D1/\v2.lt N/\(F1.heap.take N).map n0.D1=H2.map n0.D1/\H2.length=N/\J0 H2 1=some .L0/\(∀o∈H2,o.lt N)/\Q v2 ⟨H2,t2⟩):F0 w b n f args σ Q:=
 M8 (I5 x λv F1 z=>jO z λv2 H2 t2 e hl hp z=>kD z λln pl lt q=>⟨v2,H2,t2,_,I4 hk h1 hp ln pl lt,⟨v,⟨rfl,V.VA e hl⟩,e⟩,q⟩)
theorem runC(B:k3 w b)(k:UInt8×UInt8)(s:Int)(m:List UInt8)(r:Nat):M6 w b (40+r) (run (C0 k s m) r):=K9 B 40 (λn h=>GF B k s m n h) r
theorem L5(B:k3 w b){k:UInt8×UInt8}{s:Int}{m:List UInt8}{r:Nat}{l:List Stmt}{sc:Scope}{fr:J2}{H:List n0}{t tp:List Bool}{K:KS}(h:(run (C0 k s m) r).ex l sc fr ⟨H,t⟩ K):R0 w b (40+r) l sc fr ⟨H,tp⟩ K:=J5 (t:=t) ((runC B k s m r).wC.2.1 h)
theorem D3(B:k3 w b)(h:(run (C0 k s m) r).ev e sc fr ⟨H,t⟩ Q):t5 w b (40+r) e sc fr ⟨H,tp⟩ Q:=d7 (t:=t) ((runC B k s m r).wC.1 h)
noncomputable def Pw(g:Fl)(L:List (Str×V))(O3:List (Str×Nat))(H:List n0):VK:=λg' L' c' H'=>g'=g/\L'=L/\c'=O3/\H'=H
structure Good(N:Nat)(H:List n0):Prop where
 ln:H.length=N
 pl:J0 H 1=some .L0
 lt:∀o∈H,o.lt N
theorem e9(B:k3 w b){N r:Nat}{names:List Str}{k:UInt8×UInt8}{s:Int}{m:List UInt8}{l:List Stmt}{sc:Scope}{fr:J2}{H H2:List n0}{t tp t2:List Bool}{K:KS}{g2:Fl}{L2:List (Str×V)}{cel2:List (Str×Nat)}
 (x:(run (C0 k s m) r).ex l sc fr ⟨H,t⟩ (vK names N (Pw g2.D1 (O9 L2) cel2 (E3 H2)))) (hk:H.length<=N) (G:Good N H2) (ll:∀p∈L2,p.2.lt N) (fl:g2.lt N) (cl:∀p∈cel2,p.2<H.length) (h1:1<N)
 (q:K g2 ⟨L2,cel2⟩ ⟨H2,t2⟩):R0 w b (40+r) l sc fr ⟨H,tp⟩ K:=by
 refine vZ (N:=N) (names:=names) (σ:=⟨H,tp⟩) hk h1 (QB (L5 B x) λg V8 F1 h=> ?_);refine kD h λe1 e2 e3 e4=> ?_;clear h;refine⟨g2,L2,cel2,H2,t2,⟨e4,G.ln,G.pl,G.lt,e2,ll,e1,fl,λy i e=>⟨by rw[e3];exact e,?_⟩⟩,q⟩;have:∀{l:List (Str×Nat)},(∀p∈l,p.2<H.length)->lk y l=some i->i<H.length:=by
  intro l;induction l with
  |nil=>intro _ h;exact A0 h
  |cons p r ih=>
   intro hl h;rw[d3] at h
   split at h
   .obtain rfl:=si h;exact hl p M3
   .exact ih (λq hq=>hl q (a5 _ hq)) h
 exact this cl e
theorem z6(B:k3 w b)(h:E8 (Sem w b n) f args σ Q):F0 w b (n+1) f args σ Q:=by
 have:=(ZU B (C:=HS) (WU w b (n+1)) (n:=n)).wC.2.2 (f:=f) (args:=args) (σ:=σ) (Q:=Q);exact this h
end
noncomputable def IP:Str:=⟨#[104,101,114,101]⟩
noncomputable def JP(k:UInt8×UInt8)(s:Int)(n:List UInt8)(e:Ent):Bool:=true&&(true&&([e.k.1]==[k.1]&&true))&&(true&&(true&&([e.k.2]==[k.2]&&true))&&(true&&(decide (e.s=s)&&true)&&(true&&(e.n==n&&true)&&true)))
noncomputable def MG(t j:Nat)(room:Int)(sp ho fm:Nat->Int)(ps:Nat->Port)(mac x y s now place:Int)(n:List UInt8)(tp:List Bool)(P:VK):Prop:=
 (run (C0 (oct x,oct y) s n) 20).ex qL (I1 (.fn 63)) ⟨z9 x y (wN t) s now place n++[ge IP (.W0 (d6 (y0 t j)))],[]⟩ ⟨wH ⟨t,room,sp,ho,fm⟩ ps .any++Oc mac x y s n t++[.D4 (.lst (K8 t))],tp⟩ (vK vn (wN t+3) P)
noncomputable def eJ(t:Nat)(room:Int)(sp ho fm:Nat->Int)(ps:Nat->Port)(mac x y s now place:Int)(n:List UInt8)(P:VK):Prop:=
 P .next (O9 (z9 x y (wN t) s now place n)) [] (E3 (wH ⟨t,room,sp,ho,fm⟩ ps .any++Oc mac x y s n t++[.D4 (.lst (K8 t))]))
noncomputable def qA(t j:Nat):Prop:=∀(room:Int)(sp ho fm:Nat->Int)(ps:Nat->Port)(mac x y s now place:Int)(n:List UInt8)(P:VK),MG t j room sp ho fm ps mac x y s now place n [false] P=(((!(decide (((y0 t j).1:Int)=x)&&(decide (((y0 t j).2:Int)=y)&&true)))=false)/\eJ t room sp ho fm ps mac x y s now place n P)
noncomputable def qB(t j:Nat):Prop:=∀(room:Int)(sp ho fm:Nat->Int)(ps:Nat->Port)(mac x y s now place:Int)(n:List UInt8)(P:VK),MG t j room sp ho fm ps mac x y s now place n [true,false] P=(((!(decide (((y0 t j).1:Int)=x)&&(decide (((y0 t j).2:Int)=y)&&true)))=true)/\(decide ((ps j).seg=place)=false)/\eJ t room sp ho fm ps mac x y s now place n P)
noncomputable def qC(t j:Nat):Prop:=∀(room:Int)(sp ho fm:Nat->Int)(ps:Nat->Port)(mac x y s now place:Int)(n:List UInt8)(P:VK),MG t j room sp ho fm ps mac x y s now place n [true,true,false,false] P=(((!(decide (((y0 t j).1:Int)=x)&&(decide (((y0 t j).2:Int)=y)&&true)))=true)/\(decide ((ps j).seg=place)=true)/\((ps j).up=false)/\((ps j).up=false)/\eJ t room sp ho fm ps mac x y s now place n P)
noncomputable def qD(t j:Nat):Prop:=∀(room:Int)(sp ho fm:Nat->Int)(ps:Nat->Port)(mac x y s now place:Int)(n:List UInt8)(P:VK),MG t j room sp ho fm ps mac x y s now place n [true,true,true,true,true,true,true,true] P=(((!(decide (((y0 t j).1:Int)=x)&&(decide (((y0 t j).2:Int)=y)&&true)))=true)/\(decide ((ps j).seg=place)=true)/\((ps j).up=true)/\(decide (s=0)=true)/\((0<=x/\x<256/\0<=y/\y<256))/\((ps j).kn.length<100)/\((C5 (oct x,oct y) (ps j).kn).isSome=true)/\((ps j).up=true)/\((K4 (oct x,oct y) s n=K4 (oct x,oct y) s n/\okN s n))/\(decide (s=0)=true)/\(True)/\((ps j).es.length<100)/\((C5 (oct x,oct y) (ps j).es).isSome=true)/\eJ t room sp ho fm (W2 ps j {ps j with es:=D6 (oct x,oct y) (ps j).es,kn:=D6 (oct x,oct y) (ps j).kn}) mac x y s now place n P)
noncomputable def qE(t j:Nat):Prop:=∀(room:Int)(sp ho fm:Nat->Int)(ps:Nat->Port)(mac x y s now place:Int)(n:List UInt8)(P:VK),MG t j room sp ho fm ps mac x y s now place n [true,true,true,true,false,true,true,false] P=(((!(decide (((y0 t j).1:Int)=x)&&(decide (((y0 t j).2:Int)=y)&&true)))=true)/\(decide ((ps j).seg=place)=true)/\((ps j).up=true)/\(decide (s=0)=true)/\((0<=x/\x<256/\0<=y/\y<256))/\((ps j).kn.length<100)/\((C5 (oct x,oct y) (ps j).kn).isSome=false)/\((ps j).up=true)/\((K4 (oct x,oct y) s n=K4 (oct x,oct y) s n/\okN s n))/\(decide (s=0)=true)/\(True)/\((ps j).es.length<100)/\((C5 (oct x,oct y) (ps j).es).isSome=false)/\eJ t room sp ho fm ps mac x y s now place n P)
noncomputable def qF(t j:Nat):Prop:=∀(room:Int)(sp ho fm:Nat->Int)(ps:Nat->Port)(mac x y s now place:Int)(n:List UInt8)(P:VK),MG t j room sp ho fm ps mac x y s now place n [true,true,true,false,false,true,true,false,false,true] P=(((!(decide (((y0 t j).1:Int)=x)&&(decide (((y0 t j).2:Int)=y)&&true)))=true)/\(decide ((ps j).seg=place)=true)/\((ps j).up=true)/\(decide (s=0)=false)/\((0<=x/\x<256/\0<=y/\y<256))/\((C5 (oct x,oct y) (ps j).kn).isSome=false)/\((ps j).kn.length<100)/\(decide (room<=((ps j).kn.length:Int))=true)/\((ps j).up=true)/\((K4 (oct x,oct y) s n=K4 (oct x,oct y) s n/\okN s n))/\(decide (s=0)=false)/\(True)/\((C5 (oct x,oct y) (ps j).es).isSome=false)/\((ps j).es.length<100)/\(decide (room<=((ps j).es.length:Int))=true)/\eJ t room sp ho fm ps mac x y s now place n P)
noncomputable def qG(t j:Nat):Prop:=∀(room:Int)(sp ho fm:Nat->Int)(ps:Nat->Port)(mac x y s now place:Int)(n:List UInt8)(P:VK),MG t j room sp ho fm ps mac x y s now place n [true,true,true,false,false,false,true,false,false,false] P=(((!(decide (((y0 t j).1:Int)=x)&&(decide (((y0 t j).2:Int)=y)&&true)))=true)/\(decide ((ps j).seg=place)=true)/\((ps j).up=true)/\(decide (s=0)=false)/\((0<=x/\x<256/\0<=y/\y<256))/\((C5 (oct x,oct y) (ps j).kn).isSome=false)/\((ps j).kn.length<100)/\(decide (room<=((ps j).kn.length:Int))=false)/\((0<=x/\x<256/\0<=y/\y<256))/\(True)/\((ps j).kn.length<100)/\((ps j).up=true)/\((K4 (oct x,oct y) s n=K4 (oct x,oct y) s n/\okN s n))/\(decide (s=0)=false)/\(True)/\((C5 (oct x,oct y) (ps j).es).isSome=false)/\((ps j).es.length<100)/\(decide (room<=((ps j).es.length:Int))=false)/\(True)/\((oct x=oct x/\oct y=oct y))/\((ps j).es.length<100)/\eJ t room sp ho fm (W2 ps j {ps j with wait:=0,fast:=fm (y0 t j).1,AD:=0,b6:=fm (y0 t j).1,es:=E6 ⟨(oct x,oct y),s,n,now+s⟩ (ps j).es,kn:=E6 ⟨(oct x,oct y),0,n,now+s⟩ (ps j).kn}) mac x y s now place n P)
noncomputable def qH(t j:Nat):Prop:=∀(room:Int)(sp ho fm:Nat->Int)(ps:Nat->Port)(mac x y s now place:Int)(n:List UInt8)(P:VK),MG t j room sp ho fm ps mac x y s now place n [true,true,true,false,true,true,true,false,true,true] P=(((!(decide (((y0 t j).1:Int)=x)&&(decide (((y0 t j).2:Int)=y)&&true)))=true)/\(decide ((ps j).seg=place)=true)/\((ps j).up=true)/\(decide (s=0)=false)/\((0<=x/\x<256/\0<=y/\y<256))/\((C5 (oct x,oct y) (ps j).kn).isSome=true)/\((0<=x/\x<256/\0<=y/\y<256))/\(True)/\((ps j).kn.length<100)/\(((W4 (oct x,oct y) (ps j).kn).n==n)=true)/\((ps j).up=true)/\((K4 (oct x,oct y) s n=K4 (oct x,oct y) s n/\okN s n))/\(decide (s=0)=false)/\(True)/\((C5 (oct x,oct y) (ps j).es).isSome=true)/\(True)/\((oct x=oct x/\oct y=oct y))/\((ps j).es.length<100)/\(JP (oct x,oct y) s n (W4 (oct x,oct y) (ps j).es)=true)/\eJ t room sp ho fm (W2 ps j {ps j with es:=E6 ⟨(oct x,oct y),s,n,now+s⟩ (ps j).es,kn:=E6 ⟨(oct x,oct y),0,n,now+s⟩ (ps j).kn}) mac x y s now place n P)
noncomputable def qI(t j:Nat):Prop:=∀(room:Int)(sp ho fm:Nat->Int)(ps:Nat->Port)(mac x y s now place:Int)(n:List UInt8)(P:VK),MG t j room sp ho fm ps mac x y s now place n [true,true,true,false,true,false,true,false,true,false] P=(((!(decide (((y0 t j).1:Int)=x)&&(decide (((y0 t j).2:Int)=y)&&true)))=true)/\(decide ((ps j).seg=place)=true)/\((ps j).up=true)/\(decide (s=0)=false)/\((0<=x/\x<256/\0<=y/\y<256))/\((C5 (oct x,oct y) (ps j).kn).isSome=true)/\((0<=x/\x<256/\0<=y/\y<256))/\(True)/\((ps j).kn.length<100)/\(((W4 (oct x,oct y) (ps j).kn).n==n)=false)/\((ps j).up=true)/\((K4 (oct x,oct y) s n=K4 (oct x,oct y) s n/\okN s n))/\(decide (s=0)=false)/\(True)/\((C5 (oct x,oct y) (ps j).es).isSome=true)/\(True)/\((oct x=oct x/\oct y=oct y))/\((ps j).es.length<100)/\(JP (oct x,oct y) s n (W4 (oct x,oct y) (ps j).es)=false)/\eJ t room sp ho fm (W2 ps j {ps j with es:=E6 ⟨(oct x,oct y),s,n,now+s⟩ (ps j).es,kn:=E6 ⟨(oct x,oct y),0,n,now+s⟩ (ps j).kn}) mac x y s now place n P)
theorem Qw(ht:I0 t)(hj:j<5):qA t j:=by
 refine J1 ?_ ?_ ?_ ?_ ?_ ?_ ?_ ?_ ?_ ?_ ?_ ?_ ?_ ?_ ?_ ht hj<;>(unfold qA;intros;kernel_rfl)
theorem Rw(ht:I0 t)(hj:j<5):qB t j:=by
 refine J1 ?_ ?_ ?_ ?_ ?_ ?_ ?_ ?_ ?_ ?_ ?_ ?_ ?_ ?_ ?_ ht hj<;>(unfold qB;intros;kernel_rfl)
theorem Sw(ht:I0 t)(hj:j<5):qC t j:=by
 refine J1 ?_ ?_ ?_ ?_ ?_ ?_ ?_ ?_ ?_ ?_ ?_ ?_ ?_ ?_ ?_ ht hj<;>(unfold qC;intros;kernel_rfl)
theorem Tw(ht:I0 t)(hj:j<5):qD t j:=by
 refine J1 ?_ ?_ ?_ ?_ ?_ ?_ ?_ ?_ ?_ ?_ ?_ ?_ ?_ ?_ ?_ ht hj<;>(unfold qD;intros;kernel_rfl)
theorem Uw(ht:I0 t)(hj:j<5):qE t j:=by
 refine J1 ?_ ?_ ?_ ?_ ?_ ?_ ?_ ?_ ?_ ?_ ?_ ?_ ?_ ?_ ?_ ht hj<;>(unfold qE;intros;kernel_rfl)
theorem Vw(ht:I0 t)(hj:j<5):qF t j:=by
 refine J1 ?_ ?_ ?_ ?_ ?_ ?_ ?_ ?_ ?_ ?_ ?_ ?_ ?_ ?_ ?_ ht hj<;>(unfold qF;intros;kernel_rfl)
theorem Ww(ht:I0 t)(hj:j<5):qG t j:=by
 refine J1 ?_ ?_ ?_ ?_ ?_ ?_ ?_ ?_ ?_ ?_ ?_ ?_ ?_ ?_ ?_ ht hj<;>(unfold qG;intros;kernel_rfl)
theorem Xw(ht:I0 t)(hj:j<5):qH t j:=by
 refine J1 ?_ ?_ ?_ ?_ ?_ ?_ ?_ ?_ ?_ ?_ ?_ ?_ ?_ ?_ ?_ ht hj<;>(unfold qH;intros;kernel_rfl)
theorem Yw(ht:I0 t)(hj:j<5):qI t j:=by
 refine J1 ?_ ?_ ?_ ?_ ?_ ?_ ?_ ?_ ?_ ?_ ?_ ?_ ?_ ?_ ?_ ht hj<;>(unfold qI;intros;kernel_rfl)
noncomputable def z0(e:Ent):Ent:={e with s:=0}
theorem CV(k:UInt8×UInt8)(e:Ent):U8 k (z0 e)=U8 k e:=rfl
theorem f9:U8 k e=true↔e.k=k:=by
 obtain⟨⟨a,c⟩,s,n,t⟩:=e;obtain⟨a',c'⟩:=k;simp[U8,JD]
theorem fJ(k:UInt8×UInt8):∀es:List Ent,C5 k (es.map z0)=(C5 k es).map z0
 |[]=>rfl
 |e::es=>by
  simp only[R6,xk,D8,CV];induction U8 k e using Q2 with
  |true=>rfl
  |false=>exact fJ k es
theorem isSome_map(k:UInt8×UInt8)(es:List Ent):(C5 k (es.map z0)).isSome=(C5 k es).isSome:=by
 rw[fJ,Option.isSome_map]
theorem AL(h:(C5 k es).isSome=true):W4 k (es.map z0)=z0 (W4 k es):=by
 refine O0 (eO.mp h) λe he=> ?_;unfold W4;rw[fJ,he];rfl
theorem JF(k:UInt8×UInt8):∀es:List Ent,D6 k (es.map z0)=(D6 k es).map z0
 |[]=>rfl
 |e::es=>by
  simp only[R6,me,JA,CV];induction U8 k e using Q2 with
  |true=>rfl
  |false=>simp only[cond_false,R6,JF k es]
theorem LF(e:Ent):∀es:List Ent,E6 (z0 e) (es.map z0)=(E6 e es).map z0
 |[]=>rfl
 |x::es=>by
  simp only[R6,rS,C9];rw[show U8 (z0 e).k (z0 x)=U8 e.k x from rfl];induction U8 e.k x using Q2 with
  |true=>rfl
  |false=>simp only[cond_false,R6,LF e es]
theorem KP:∀{es:List Ent},C5 k es=some e->e∈es/\e.k=k
 |x::es,h=>by
  rw[D8] at h;induction c:U8 k x using Q2 with
  |true=>rw[c] at h;obtain rfl:=si h;exact⟨M3,f9.mp c⟩
  |false=>rw[c] at h;refine D0 (KP (es:=es) h) λh1 h2=> ?_;exact⟨a5 _ h1,h2⟩
theorem DV(h:(C5 k es).isSome=true):W4 k es∈es/\(W4 k es).k=k:=by
 refine O0 (eO.mp h) λe he=> ?_;unfold W4;rw[he];exact KP he
theorem BL:∀{es:List Ent},C5 k es=none->∀e∈es,e.k≠k
 |x::es,h,e,he=>by
  rw[D8] at h;induction c:U8 k x using Q2 with
  |true=>rw[c] at h;exact MR h
  |false=>
   rw[c] at h;rcases M4.mp he with rfl|he
   .intro q;rw[f9.mpr q] at c;exact vG c
   .exact BL (es:=es) h e he
theorem WB:∀{es:List Ent},∀e∈D6 k es,e∈es
 |x::es,e,he=>by
  rw[JA] at he;induction c:U8 k x using Q2 with
  |true=>rw[c] at he;exact a5 _ he
  |false=>
   rw[c] at he;rcases M4.mp he with rfl|he
   .exact M3
   .exact a5 _ (WB e he)
theorem YB:(D6 k es).length<=es.length:=by
 induction es with
 |nil=>
  exact j6 _
 |cons x es ih=>
  rw[JA];induction U8 k x using Q2 with
  |true=>simp
  |false=>simp only[cond_false,List.length_cons];exact Nat.succ_le_succ ih
theorem aC:x∈E6 e es->x=e\/x∈es:=by
 induction es with
 |nil=>
  intro h;simp[rS,C9] at h;exact .inl h
 |cons y es ih=>
  intro h;rw[C9] at h;induction c:U8 e.k y using Q2 with
  |true=>
   rw[c] at h;rcases M4.mp h with h|h
   .exact .inl h
   .exact .inr (a5 _ h)
  |false=>
   rw[c] at h;rcases M4.mp h with h|h
   .exact .inr (h▸M3)
   .rcases ih h with h|h
    .exact .inl h
    .exact .inr (a5 _ h)
theorem gJ:(C5 e.k es).isSome=false->(E6 e es).length=es.length+1:=by
 induction es with
 |nil=>
  intro _;exact rfl
 |cons y es ih=>
  intro h;rw[D8] at h;rw[C9];induction c:U8 e.k y using Q2 with
  |true=>rw[c] at h;exact vG h
  |false=>rw[c] at h;simp only[cond_false,List.length_cons];rw[ih h]
theorem iJ:(C5 e.k es).isSome=true->(E6 e es).length=es.length:=by
 induction es with
 |nil=>
  intro h;exact G2 h
 |cons y es ih=>
  intro h;rw[D8] at h;rw[C9];induction c:U8 e.k y using Q2 with
  |true=>simp
  |false=>rw[c] at h;simp only[cond_false,List.length_cons];rw[ih h]
noncomputable def keysOf(es:List Ent):List (UInt8×UInt8):=es.map (·.k)
theorem NG:(C5 e.k es).isSome=true->keysOf (E6 e es)=keysOf es:=by
 induction es with
 |nil=>
  intro h;exact G2 h
 |cons y es ih=>
  intro h;rw[D8] at h;rw[C9];induction c:U8 e.k y using Q2 with
  |true=>simp only[cond_true,keysOf,R6];rw[f9.mp c]
  |false=>rw[c] at h;simp only[cond_false,keysOf,R6];congr 1;exact ih h
theorem PG:(C5 e.k es).isSome=false->keysOf (E6 e es)=keysOf es++[e.k]:=by
 induction es with
 |nil=>
  intro _;exact rfl
 |cons y es ih=>
  intro h;rw[D8] at h;rw[C9];induction c:U8 e.k y using Q2 with
  |true=>rw[c] at h;exact vG h
  |false=>rw[c] at h;simp only[cond_false,keysOf,R6,List.cons_append];congr 1;exact ih h
theorem LP(h:(keysOf es).Nodup):(keysOf (E6 e es)).Nodup:=by
 induction c:(C5 e.k es).isSome using Q2 with
 |true=>rw[NG c];exact h
 |false=>
  rw[PG c];have hn:C5 e.k es=none:=by simpa using c
  refine gD.mpr ⟨h,by simp,?_⟩;rintro a ha d hd rfl;refine u0 (z5.mp ha) λx hx B0=> ?_;subst B0;exact BL hn x hx (l9.mp hd)
theorem mR:(keysOf (D6 k es)).Sublist (keysOf es):=by
 induction es with
 |nil=>
  exact List.Sublist.refl _
 |cons y es ih=>
  rw[JA];induction U8 k y using Q2 with
  |true=>exact List.sublist_cons_self _ _
  |false=>exact List.Sublist.cons_cons _ ih
theorem MP(h:(keysOf es).Nodup):(keysOf (D6 k es)).Nodup:=List.Nodup.sublist mR h
noncomputable def Q9(room fm now:Int)(k:UInt8×UInt8)(s:Int)(n:List UInt8)(p:Port):Port:=
 if p.up=false then p
 else if s=0 then(if(C5 k p.es).isSome=true then{p with es:=D6 k p.es,kn:=D6 k p.kn} else p)
 else if(C5 k p.es).isSome=true then{p with es:=E6 ⟨k,s,n,now+s⟩ p.es,kn:=E6 ⟨k,0,n,now+s⟩ p.kn}
 else if room<=(p.es.length:Int) then p
 else{p with wait:=0,fast:=fm,AD:=0,b6:=fm,es:=E6 ⟨k,s,n,now+s⟩ p.es,kn:=E6 ⟨k,0,n,now+s⟩ p.kn}
structure PI(room:Int)(sec:UInt8×UInt8->Int)(p:Port):Prop where
 kn:p.kn=p.es.map z0
 len:(p.es.length:Int)<=room
 sec:∀e∈p.es,e.s=sec e.k
 ge:∀e∈p.es,0<=e.s
 nd:(keysOf p.es).Nodup
set_option tactic.hygienic true in
theorem DL(h:PI room sec p)(hs:s=0\/s=sec k)(h0:0<=s):PI room sec (Q9 room fm now k s n p):=by
 unfold Q9
 split
 .exact h
 .split
  .split
   .exact⟨by show D6 k p.kn=_;rw[h.kn,JF],by have:=YB (k:=k) (es:=p.es);have:=h.len;show(((D6 k p.es).length:Nat):Int)<=room;lia,λe he=>h.sec e (WB e he),λe he=>h.ge e (WB e he),MP h.nd⟩
   .exact h
  .rename_i hz;have RD:s=sec k:=hs.resolve_left hz
   split
   .rename_i hf;exact⟨by show E6 _ p.kn=_;rw[h.kn];exact LF ⟨k,s,n,now+s⟩ p.es,by show(((E6 ⟨k,s,n,now+s⟩ p.es).length:Nat):Int)<=room;rw[iJ (e:=⟨k,s,n,now+s⟩) hf];exact h.len,
     (λe he=>by rcases aC he with rfl|he;exact RD;exact h.sec e he),(λe he=>by rcases aC he with rfl|he;exact h0;exact h.ge e he),LP h.nd⟩
   .rename_i hf
    split
    .exact h
    .rename_i hr;exact⟨by show E6 _ p.kn=_;rw[h.kn];exact LF ⟨k,s,n,now+s⟩ p.es,by show(((E6 ⟨k,s,n,now+s⟩ p.es).length:Nat):Int)<=room;rw[gJ (e:=⟨k,s,n,now+s⟩) (by simpa using hf)];lia,
      (λe he=>by rcases aC he with rfl|he;exact RD;exact h.sec e he),(λe he=>by rcases aC he with rfl|he;exact h0;exact h.ge e he),LP h.nd⟩
noncomputable def k4:Stmt->Expr
 | .For t _ _ _ _=>t
 |_=> .Constant .none 0 default
noncomputable def y5:Stmt->Expr
 | .For _ i _ _ _=>i
 |_=> .Constant .none 0 default
noncomputable def Zw:Stmt->Pos
 | .For _ _ _ _ p=>p
 |_=>default
theorem P6{R:Rec}{st:Stmt}{sc:Scope}{fr:J2}{σ:St}{K:KS}(h:st= .For (k4 st) (y5 st) (W5 st) [] (Zw st))(x:P4 R (k4 st) (y5 st) sc fr σ λl its P0=>U5 R (k4 st) (W5 st) sc its fr (E4 l P0) K):JJ R st sc fr σ K:=by
 rw[h];exact x
noncomputable def WA(Q:K1):KS:=λfl _ M1=>Fl.casesOn (motive:=λ_=>Prop) fl (Q .none M1) (No 124) (No 124) (λv=>Q v M1)
section
noncomputable def hC(t:Nat)(room:Int)(sp ho fm:Nat->Int)(ps:Nat->Port)(mac x y s:Int)(n:List UInt8):List n0:=wH ⟨t,room,sp,ho,fm⟩ ps .any++Oc mac x y s n t
noncomputable def nR(t:Nat)(room:Int)(sp ho fm:Nat->Int)(ps:Nat->Port)(mac x y s:Int)(n:List UInt8):List n0:=wH ⟨t,room,sp,ho,fm⟩ ps .any++Oc mac x y s n t++[.D4 (.lst (K8 t))]
noncomputable def Gn(o:Option n0):Bool:=Option.rec (motive:=λ_=>Bool) false Nc o
theorem Jg(h:Gn o=true):o=some .L0:=by
 induction o using opQ with
 |none=>exact G2 h
 |some o=>induction o using n0.casesOn<;>first|rfl|exact G2 h
theorem good3(h:(Nat.beq H.length N&&Gn (J0 H 1)&&H.all (n0.ltB N))=true):Good N H:=
 R1 h λh h3=>R1 h λh1 h2=>⟨V9 h1,Jg h2,IF h3⟩
theorem EV(ht:I0 t):Good (wN t+2) (hC t room sp ho fm ps mac x y s n):=by
 rcases ht with rfl|rfl|rfl<;>exact good3 (by kernel_rfl)
theorem FV(ht:I0 t):Good (wN t+3) (nR t room sp ho fm ps mac x y s n):=by
 rcases ht with rfl|rfl|rfl<;>exact good3 (by kernel_rfl)
theorem NP(h4:4<M)(hN:N<M):∀p∈z9 x y N s now place n,p.2.lt M:=by
 intro p hp;simp only[z9,ge,M4,v8,or_false] at hp;rcases hp with rfl|rfl|rfl|rfl|rfl|rfl|rfl<;>first|trivial|exact h4|exact hN
theorem jJ(B:k3 w b)(ht:I0 t){LD tp t2:List Bool}{K:KS}(h:MG t j room sp ho fm ps mac x y s now place n LD (Pw Fl.next (O9 (z9 x y (wN t) s now place n)) [] (E3 (nR t room sp ho fm ps' mac x y s n))))
 (q:K .next ⟨z9 x y (wN t) s now place n,[]⟩ ⟨nR t room sp ho fm ps' mac x y s n,t2⟩):
 R0 w b 60 qL (I1 (.fn 63)) ⟨z9 x y (wN t) s now place n++[ge IP (.W0 (d6 (y0 t j)))],[]⟩ ⟨nR t room sp ho fm ps mac x y s n,tp⟩ K:=
 e9 (r:=20) (g2:= .next) B h (OH (FV ht).ln) (FV ht) (NP (by unfold wN;lia) (by lia)) trivial (λp hp=>by cases hp) (by unfold wN;exact kB _ _) q
theorem G7:W2 ps j (ps j)=ps:=by
 funext i
 unfold W2;induction h:Nat.beq i j using Q2 with
 |true=>rw[V9 h];rfl
 |false=>rfl
theorem M5:W2 ps j p j=p:=by
 unfold W2;rw[Nat.beq_refl _];rfl
theorem pA(h:i≠j):W2 ps j p i=ps i:=by
 unfold W2;induction e:Nat.beq i j using Q2 with
 |true=>exact absurd (V9 e) h
 |false=>rfl
noncomputable def CN(t:Nat)(x y place:Int)(ps:Nat->Port)(j:Nat):Bool:=(decide (((y0 t j).1:Int)=x)&&(decide (((y0 t j).2:Int)=y)&&true))|| !decide ((ps j).seg=place)
noncomputable def u9(t:Nat)(room:Int)(fm:Nat->Int)(x y s now place:Int)(n:List UInt8)(ps:Nat->Port)(j:Nat):Nat->Port:=
 bif CN t x y place ps j then ps else W2 ps j (Q9 room (fm (y0 t j).1) now (oct x,oct y) s n (ps j))
theorem GV(B:k3 w b)(ht:I0 t)(hj:j<5){sec:UInt8×UInt8->Int}(hp:PI room sec (ps j))(hr:room<=3)(hs:s=0\/s=sec (oct x,oct y))(hn:okN s n)(hx:0<=x/\x<256/\0<=y/\y<256){tp t2:List Bool}{K:KS}
 (q:K .next ⟨z9 x y (wN t) s now place n,[]⟩ ⟨nR t room sp ho fm (u9 t room fm x y s now place n ps j) mac x y s n,t2⟩):
 R0 w b 60 qL (I1 (.fn 63)) ⟨z9 x y (wN t) s now place n++[ge IP (.W0 (d6 (y0 t j)))],[]⟩ ⟨nR t room sp ho fm ps mac x y s n,tp⟩ K:=by
 have qa:=Qw ht hj;have qb:=Rw ht hj;have qc:=Sw ht hj;have qd:=Tw ht hj;have qe:=Uw ht hj;have qf:=Vw ht hj;have qg:=Ww ht hj;have qh:=Xw ht hj;have qi:=Yw ht hj;have hlen:=hp.len;have hl:(ps j).es.length<100:=by lia
 have fu:(ps j).kn.length=(ps j).es.length:=by rw[hp.kn,KD _]
 have nP:(ps j).kn.length<100:=by lia
 have ek:(C5 (oct x,oct y) (ps j).kn).isSome=(C5 (oct x,oct y) (ps j).es).isSome:=by rw[hp.kn,isSome_map]
 unfold u9 CN at q;induction cA:(decide (((y0 t j).1:Int)=x)&&(decide (((y0 t j).2:Int)=y)&&true)) using Q2 with
 |true=>
  rw[cA] at q;exact jJ B ht (Eq.mpr (qa room sp ho fm ps mac x y s now place n _) ⟨by rw[cA];rfl,rfl,rfl,rfl,rfl⟩) q
 |false=>
  rw[cA] at q;have dA:(!(decide (((y0 t j).1:Int)=x)&&(decide (((y0 t j).2:Int)=y)&&true)))=true:=by rw[cA];rfl
  by_cases hS:(ps j).seg=place
  .have dS:decide ((ps j).seg=place)=true:=decide_eq_true hS;rw[dS] at q;have q:K .next ⟨z9 x y (wN t) s now place n,[]⟩ ⟨nR t room sp ho fm (W2 ps j (Q9 room (fm (y0 t j).1) now (oct x,oct y) s n (ps j))) mac x y s n,t2⟩:=q;unfold Q9 at q;induction hU:(ps j).up using Q2 with
   |false=>
    rw[if_pos hU,G7] at q;exact jJ B ht (Eq.mpr (qc room sp ho fm ps mac x y s now place n _) ⟨dA,dS,hU,hU,rfl,rfl,rfl,rfl⟩) q
   |true=>
    rw[if_neg (by rw[hU];decide)] at q;by_cases hZ:s=0
    .rw[if_pos hZ] at q;cases hF:(C5 (oct x,oct y) (ps j).es).isSome with
     |true=>
      rw[if_pos hF] at q;exact jJ B ht (Eq.mpr (qd room sp ho fm ps mac x y s now place n _) ⟨dA,dS,hU,decide_eq_true hZ,hx,nP,ek.trans hF,hU,⟨rfl,hn⟩,decide_eq_true hZ,trivial,hl,hF,rfl,rfl,rfl,rfl⟩) q
     |false=>
      rw[if_neg (by rw[hF];decide),G7] at q;exact jJ B ht (Eq.mpr (qe room sp ho fm ps mac x y s now place n _) ⟨dA,dS,hU,decide_eq_true hZ,hx,nP,ek.trans hF,hU,⟨rfl,hn⟩,decide_eq_true hZ,trivial,hl,hF,rfl,rfl,rfl,rfl⟩) q
    .rw[if_neg hZ] at q;have dZ:decide (s=0)=false:=decide_eq_false hZ;cases hF:(C5 (oct x,oct y) (ps j).es).isSome with
     |true=>
      rw[if_pos hF] at q;refine D0 (DV hF) λgm gk=> ?_;have es:(W4 (oct x,oct y) (ps j).es).s=s:=by rw[hp.sec _ gm,gk];exact(hs.resolve_left hZ).symm
      have em:JP (oct x,oct y) s n (W4 (oct x,oct y) (ps j).es)=((W4 (oct x,oct y) (ps j).es).n==n):=by
       unfold JP;rw[gk,es];simp
      have en:((W4 (oct x,oct y) (ps j).kn).n==n)=((W4 (oct x,oct y) (ps j).es).n==n):=by
       rw[hp.kn,AL hF];rfl
      cases hN:((W4 (oct x,oct y) (ps j).es).n==n) with
      |true=>exact jJ B ht (Eq.mpr (qh room sp ho fm ps mac x y s now place n _) ⟨dA,dS,hU,dZ,hx,ek.trans hF,hx,trivial,nP,en.trans hN,hU,⟨rfl,hn⟩,dZ,trivial,hF,trivial,⟨rfl,rfl⟩,hl,em.trans hN,rfl,rfl,rfl,rfl⟩) q
      |false=>exact jJ B ht (Eq.mpr (qi room sp ho fm ps mac x y s now place n _) ⟨dA,dS,hU,dZ,hx,ek.trans hF,hx,trivial,nP,en.trans hN,hU,⟨rfl,hn⟩,dZ,trivial,hF,trivial,⟨rfl,rfl⟩,hl,em.trans hN,rfl,rfl,rfl,rfl⟩) q
     |false=>
      rw[if_neg (by rw[hF];decide)] at q;by_cases hR:room<=((ps j).es.length:Int)
      .rw[if_pos hR,G7] at q;exact jJ B ht (Eq.mpr (qf room sp ho fm ps mac x y s now place n _) ⟨dA,dS,hU,dZ,hx,ek.trans hF,nP,decide_eq_true (by rw[fu];exact hR),hU,⟨rfl,hn⟩,dZ,trivial,hF,hl,decide_eq_true hR,rfl,rfl,rfl,rfl⟩) q
      .rw[if_neg hR] at q;exact jJ B ht (Eq.mpr (qg room sp ho fm ps mac x y s now place n _) ⟨dA,dS,hU,dZ,hx,ek.trans hF,nP,decide_eq_false (by rw[fu];exact hR),hx,trivial,nP,hU,⟨rfl,hn⟩,dZ,trivial,hF,hl,decide_eq_false hR,trivial,⟨rfl,rfl⟩,hl,rfl,rfl,rfl,rfl⟩) q
  .rw[decide_eq_false hS] at q;exact jJ B ht (Eq.mpr (qb room sp ho fm ps mac x y s now place n _) ⟨dA,decide_eq_false hS,rfl,rfl,rfl,rfl⟩) q
end
noncomputable def kJ:Stmt:=T1 (A5 (.fn 63)) 1
noncomputable def lcA(e:End)(N:Nat)(s now:Int):List (Str×V):=[ge ⟨#[119,111,114,108,100]⟩ (.ref 4),ge ⟨#[115,101,110,100,101,114]⟩ (.W0 (d6 e)),ge ⟨#[102,114,97,109,101]⟩ (.ref N),ge ⟨#[115,101,99,111,110,100,115]⟩ (iT s),ge ⟨#[110,111,119]⟩ (iT now)]
noncomputable def pG(K:m9->List w5->St->Prop):K1:=λv P0=>on (L7 P0 v) 203 λp=>K p.1 p.2 P0
noncomputable def qS(t i:Nat):Prop:=∀(room:Int)(sp ho fm:Nat->Int)(ps:Nat->Port)(mac x y s s' now:Int)(n:List UInt8)(P:VK),(run (C0 (0,0) 0 []) 20).ex [T1 (A5 (.fn 63)) 0] (I1 (.fn 63)) ⟨lcA (y0 t i) (wN t) s' now,[]⟩ ⟨hC t room sp ho fm ps mac x y s n,[]⟩ (vK vn (wN t+2) P)=
 P .next (O9 (z9 ((y0 t i).1:Int) ((y0 t i).2:Int) (wN t) s' now (ps i).seg (ps i).name)) [] (E3 (hC t room sp ho fm ps mac x y s n))
theorem ax(ht:I0 t)(hj:j<5):qS t j:=by
 refine J1 ?_ ?_ ?_ ?_ ?_ ?_ ?_ ?_ ?_ ?_ ?_ ?_ ?_ ?_ ?_ ht hj<;>(unfold qS;intros;kernel_rfl)
section
theorem bx{R:Rec}{v:V}{σ:St}{K:J2->St->Prop}{N:Nat}:n6 R (k4 kJ) (.inl v) (I1 (.fn 63)) ⟨z9 x y N s now place n,[]⟩ σ K=K ⟨z9 x y N s now place n++[ge IP v],[]⟩ σ:=by kernel_rfl
theorem Hn{R:Rec}{fr:J2}{σ:St}{K:m9->List w5->St->Prop}:P4 R (k4 kJ) (y5 kJ) (I1 (.fn 63)) fr σ K=R.ev (y5 kJ) (I1 (.fn 63)) fr σ (pG K):=by kernel_rfl
theorem evC(ht:I0 t):(run (C0 (0,0) 0 []) 20).ev (y5 kJ) (I1 (.fn 63)) ⟨z9 x y (wN t) s now place n,[]⟩ ⟨hC t room sp ho fm ps mac x y s n,[]⟩ Q=Q (.ref (wN t+2)) ⟨hC t room sp ho fm ps mac x y s n++[.lst (K8 t)],[]⟩:=by
 rcases ht with rfl|rfl|rfl<;>kernel_rfl
theorem Kg(ht:I0 t):L7 ⟨hC t room sp ho fm ps mac x y s n++[.lst (K8 t)],tp⟩ (.ref (wN t+2))=some ([(wN t+2,.lst (K8 t))],(K8 t).map .inl):=by
 rcases ht with rfl|rfl|rfl<;>kernel_rfl
theorem Jn(ht:I0 t):E4 [(wN t+2,.lst (K8 t))] ⟨hC t room sp ho fm ps mac x y s n++[.lst (K8 t)],tp⟩=⟨nR t room sp ho fm ps mac x y s n,tp⟩:=by
 rcases ht with rfl|rfl|rfl<;>kernel_rfl
theorem Ln(ht:I0 t):(K8 t).map (λv=>(.inl v:w5))=(List.range 5).map λj=> .inl (.W0 (d6 (y0 t j))):=by
 rcases ht with rfl|rfl|rfl<;>rfl
theorem MF:u9 t room fm x y s now place n ps j k=(bif Nat.beq k j&& !CN t x y place ps j then Q9 room (fm (y0 t j).1) now (oct x,oct y) s n (ps j) else ps k):=by
 unfold u9;induction CN t x y place ps j using Q2 with
 |true=>simp
 |false=>
  simp only[Bool.not_false,Bool.and_true,cond_false];rfl
theorem HV(h:∀k,k<5->PI room sec (ps k))(hs:s=0\/s=sec (oct x,oct y))(h0:0<=s)(hj:j<5):∀k,k<5->PI room sec (u9 t room fm x y s now place n ps j k):=λk hk=>by
 rw[MF];induction e:(Nat.beq k j&& !CN t x y place ps j) using Q2 with
 |true=>exact DL (h j hj) hs h0
 |false=>exact h k hk
theorem Mn(B:k3 w b)(ht:I0 t){sec:UInt8×UInt8->Int}(hr:room<=3)(hs:s=0\/s=sec (oct x,oct y))(hn:okN s n)(hx:0<=x/\x<256/\0<=y/\y<256){K:KS}{js:List Nat}:∀{ps:Nat->Port}{tp:List Bool},(∀j∈js,j<5)->(∀k,k<5->PI room sec (ps k))->
 (∀t2,K .next ⟨z9 x y (wN t) s now place n,[]⟩ ⟨nR t room sp ho fm (js.foldl (u9 t room fm x y s now place n) ps) mac x y s n,t2⟩)->
 U5 (Sem w b 60) (k4 kJ) qL (I1 (.fn 63)) (js.map λj=> .inl (.W0 (d6 (y0 t j)))) ⟨z9 x y (wN t) s now place n,[]⟩ ⟨nR t room sp ho fm ps mac x y s n,tp⟩ K:=by
 induction js with
 |nil=>
  intro ps tp _ _ q;exact q tp
 |cons j js ih=>
  intro ps tp hj hp q;rw[R6];rw[T7];rw[bx];have kj:=hj j M3;exact GV (t2:=tp) B ht kj (hp j kj) hr hs hn hx (ih (λk hk=>hj k (a5 _ hk)) (HV hp hs hn.1 kj) q)
theorem fx(B:k3 w b)(ht:I0 t){sec:UInt8×UInt8->Int}(hr:room<=3)(hs:s=0\/s=sec (oct x,oct y))(hn:okN s n)(hx:0<=x/\x<256/\0<=y/\y<256){K:KS}{tp:List Bool}(hp:∀k,k<5->PI room sec (ps k))
 (q:∀t2,K .next ⟨z9 x y (wN t) s now place n,[]⟩ ⟨nR t room sp ho fm ((List.range 5).foldl (u9 t room fm x y s now place n) ps) mac x y s n,t2⟩):R0 w b 60 [kJ] (I1 (.fn 63)) ⟨z9 x y (wN t) s now place n,[]⟩ ⟨hC t room sp ho fm ps mac x y s n,tp⟩ K:=by
 refine C4 B (P6 (by kernel_rfl) ?_);rw[Hn];refine D3 (r:=20) (k:=(0,0)) (s:=0) (m:=[]) B (t:=[]) ?_;rw[evC ht];unfold pG;rw[Kg ht];show U5 (Sem w b 60) (k4 kJ) qL (I1 (.fn 63)) ((K8 t).map .inl) _ (E4 [(wN t+2,.lst (K8 t))] _) K;rw[Jn ht,Ln ht];exact Mn B ht hr hs hn hx (λj hj=>NJ.mp hj) hp q
theorem gx{C:oG}{fr:J2}{σ:St}{K:KS}:(run C 20).ex [T1 (A5 (.fn 63)) 2] (I1 (.fn 63)) fr σ K=K (.ret (.bool false true)) fr σ:=by kernel_rfl
theorem callC:E8 R (.fn 63) [.ref 4,.W0 (d6 e),.ref N,iT s,iT now] σ Q=R.ex (A5 (.fn 63)) (I1 (.fn 63)) ⟨lcA e N s now,[]⟩ σ (WA Q):=by kernel_rfl
theorem Nn:A5 (.fn 63)=[T1 (A5 (.fn 63)) 0]++([kJ]++[T1 (A5 (.fn 63)) 2]):=by kernel_rfl
noncomputable def NF(t:Nat)(room:Int)(fm:Nat->Int)(i:Nat)(s now:Int)(ps:Nat->Port):Nat->Port:=(List.range 5).foldl (u9 t room fm ((y0 t i).1:Int) ((y0 t i).2:Int) s now (ps i).seg (ps i).name) ps
theorem wZ(ht:I0 t)(hi:i<5):0<=((y0 t i).1:Int)/\((y0 t i).1:Int)<256/\0<=((y0 t i).2:Int)/\((y0 t i).2:Int)<256:=by
 have:(y0 t i).1<5/\(y0 t i).2<3:=J1 (Q:=λt i=>(y0 t i).1<5/\(y0 t i).2<3) (by decide) (by decide) (by decide) (by decide) (by decide) (by decide) (by decide) (by decide) (by decide) (by decide) (by decide) (by decide) (by decide) (by decide) (by decide) ht hi;lia
theorem EL(B:k3 w b)(ht:I0 t)(hi:i<5){sec:UInt8×UInt8->Int}(hr:room<=3)(hs:s=0\/s=sec (oct ((y0 t i).1:Int),oct ((y0 t i).2:Int)))(hn:okN s (ps i).name){tp:List Bool}{Q:K1}(hp:∀k,k<5->PI room sec (ps k))
 (q:∀t2,Q (.bool false true) ⟨nR t room sp ho fm (NF t room fm i s now ps) mac ((y0 t i).1:Int) ((y0 t i).2:Int) s (ps i).name,t2⟩):
 F0 w b 61 (.fn 63) [.ref 4,.W0 (d6 (y0 t i)),.ref (wN t),iT s,iT now] ⟨hC t room sp ho fm ps mac ((y0 t i).1:Int) ((y0 t i).2:Int) s (ps i).name,tp⟩ Q:=by
 refine z6 B ?_;rw[callC];show R0 w b 60 _ _ _ _ _;rw[Nn];refine w3 ?_;have qs:=ax ht hi;refine e9 (r:=20) (N:=wN t+2) (g2:= .next) (t2:=[]) B (Eq.mpr (qs room sp ho fm ps mac _ _ s s now (ps i).name _) ⟨rfl,rfl,rfl,rfl⟩) (OH (EV ht).ln) (EV ht) (NP (by unfold wN;lia) (by lia)) trivial (λp hp=>by cases hp) (by unfold wN;exact kB _ _) ?_;refine w3 (fx B ht hr hs hn (wZ ht hi) hp λt2=> ?_);refine L5 (r:=20) (k:=(0,0)) (s:=0) (m:=[]) B (t:=t2) ?_;rw[gx];exact q t2
end
set_option tactic.hygienic true in
theorem V.m8{n:Nat}{f:Nat->Nat}{v:V}(h:v.lt n)(hf:∀i,i<n->f i=i):v.Z5 f=v:=by
 induction v using V.casesOn<;>first|rfl|skip
 rename_i i;show V.ref (f i)=V.ref i;rw[hf i h]
theorem OP{n:Nat}{f:Nat->Nat}(hf:∀i,i<n->f i=i){xs:List V}(h:∀v∈xs,v.lt n):xs.map (V.Z5 f)=xs:=by
 have:xs.map (V.Z5 f)=xs.map id:=List.map_congr_left λv hv=>V.m8 (h v hv) hf;rw[this,List.map_id _]
theorem DN{κ:Type}{n:Nat}{f:Nat->Nat}(hf:∀i,i<n->f i=i){xs:List (κ×V)}(h:∀p∈xs,p.2.lt n):(xs.map λp=>(p.1,p.2.Z5 f))=xs:=by
 rw[List.map_congr_left (g:=id) λp hp=>show(p.1,p.2.Z5 f)=p by rw[V.m8 (h p hp) hf],List.map_id _]
theorem n0.m8{n:Nat}{f:Nat->Nat}{o:n0}(h:o.lt n)(hf:∀i,i<n->f i=i):o.Z5 f=o:=by
 induction o with
 |lst xs=>exact congrArg n0.lst (OP hf h)
 |tup xs=>exact congrArg n0.tup (OP hf h)
 |cell v=>induction v using opQ with
  |none=>rfl
  |some v=>exact congrArg (λv=>n0.cell (some v)) (V.m8 (h v rfl) hf)
 |inst c fs=>exact congrArg (n0.inst c) (DN hf h)
 |dS fs=>exact congrArg n0.dS (DN hf h)
 |dI fs=>exact congrArg n0.dI (DN hf h)
 |dT fs=>
  refine congrArg n0.dT ?_;rw[List.map_congr_left (g:=id) λv hv=>by
   refine R2 (h v hv) λ_ h2 h3=> ?_;rw[h2,V.m8 h3 hf];show(v.1,V.W0 v.1,v.2.2)=v;rw[h2.symm],List.map_id _]
 |D4 o ih=>exact congrArg n0.D4 (ih h)
 |_=>rfl
theorem n0.O5{n m:Nat}{o:n0}(h:o.lt n)(hm:n<=m):o.lt m:=by
 have hv:∀{v:V},v.lt n->v.lt m:=λ{v} x=>by induction v using V.casesOn<;>first|trivial|exact MH x hm
 induction o with
 |lst xs=>exactλv lH=>hv (h v lH)
 |tup xs=>exactλv lH=>hv (h v lH)
 |cell v=>exactλu e=>hv (h u e)
 |inst c fs=>exactλv lH=>hv (h v lH)
 |dS es=>exactλv lH=>hv (h v lH)
 |dI es=>exactλv lH=>hv (h v lH)
 |dT es=>exactλv lH=>⟨(h v lH).1,(h v lH).2.1,hv (h v lH).2.2⟩
 |D4 o ih=>exact ih h
 |box P=>exact h.elim
 |_=>trivial
section
theorem U4(ht:I0 t):(wH ⟨t,room,sp,ho,fm⟩ ps src).length=wN t:=by
 rcases ht with rfl|rfl|rfl<;>exact V9 (by kernel_rfl)
theorem R9(hj:j≠3):J0 (wH ⟨t,room,sp,ho,fm⟩ ps src) j=J0 (wH ⟨t,room,sp,ho,fm⟩ ps .any) j:=by
 match j,hj with
 |0,_=>rfl
 |1,_=>rfl
 |2,_=>rfl
 |j+4,_=>rfl
theorem FL(ht:I0 t):(wH ⟨t,room,sp,ho,fm⟩ ps .any).map C3=(wH ⟨t,room,sp,ho,fm⟩ ps' .any).map C3:=by
 rcases ht with rfl|rfl|rfl<;>kernel_rfl
theorem OF(ht:I0 t):((BF (Wp.par ⟨t,room,sp,ho,fm⟩) ((List.range 5).map ps)).drop 3).all C3=true:=by
 rcases ht with rfl|rfl|rfl<;>kernel_rfl
theorem bC(ht:I0 t):∀o∈wH ⟨t,room,sp,ho,fm⟩ ps .any,o.lt (wN t):=by
 rcases ht with rfl|rfl|rfl<;>exact IF (by kernel_rfl)
theorem QF(e:H.map C3=H'.map C3)(ho:J0 H j=some o):∃o',J0 H' j=some o'/\C3 o'=C3 o:=by
 have:J0 (H.map C3) j=some (C3 o):=by rw[U0] at ho⊢;rw[LJ,ho];rfl
 rw[e,U0,LJ] at this;refine u0 (HJ.mp this) λo' h1 h2=> ?_;exact⟨o',by rw[U0];exact h1,h2⟩
theorem C7(h:J0 l i=some x):x∈l:=by rw[U0] at h;exact List.mem_of_getElem? h
noncomputable def IV(N fi ti:Nat):Nat->Nat:=λj=>if j<N then j else if j=N then fi else ti
theorem xZ(h1:N<=fi)(h2:N<=ti)(ne:fi≠ti)(ha:a<N+2)(hc:c<N+2)(e:IV N fi ti a=IV N fi ti c):a=c:=by
 have v:∀a,a<N+2->(a<N/\IV N fi ti a=a)\/(a=N/\IV N fi ti a=fi)\/(a=N+1/\IV N fi ti a=ti):=λa ha=>by
  by_cases h:a<N
  .exact .inl ⟨h,if_pos h⟩
  .by_cases h':a=N
   .exact .inr (.inl ⟨h',(if_neg h).trans (if_pos h')⟩)
   .exact .inr (.inr ⟨Nat.le_antisymm (Nat.le_of_lt_succ ha) (Nat.lt_of_le_of_ne (gB.mp h) (Ne.symm h')),(if_neg h).trans (if_neg h')⟩)
 rcases v a ha with⟨x,p⟩|⟨x,p⟩|⟨x,p⟩<;>rcases v c hc with⟨y,q⟩|⟨y,q⟩|⟨y,q⟩<;>rw[p,q] at e
 .exact e
 .exact absurd (e▸x) (gB.mpr h1)
 .exact absurd (e▸x) (gB.mpr h2)
 .exact absurd (e▸y) (gB.mpr h1)
 .exact x.trans y.symm
 .exact absurd e ne
 .exact absurd (e▸y) (gB.mpr h2)
 .exact absurd e.symm ne
 .exact x.trans y.symm
theorem yZ(ht:I0 t)(h3:a≠3)(e:J0 (wH ⟨t,room,sp,ho,fm⟩ ps .any) a=some o)(so:C3 o=false):J0 (wH ⟨t,room,sp,ho,fm⟩ ps' .any) a=J0 (wH ⟨t,room,sp,ho,fm⟩ ps .any) a:=by
 have hi:∀a,J0 (wH ⟨t,room,sp,ho,fm⟩ ps .any) (a+7)=some o->J0 (wH ⟨t,room,sp,ho,fm⟩ ps' .any) (a+7)=J0 (wH ⟨t,room,sp,ho,fm⟩ ps .any) (a+7):=λa e=>by
  rw[xC.mp (OF (room:=room) (sp:=sp) (ho:=ho) (fm:=fm) (ps:=ps) ht) o (C7 (show J0 ((BF (Wp.par ⟨t,room,sp,ho,fm⟩) ((List.range 5).map ps)).drop 3) a=some o from e))] at so;exact vG so
 rcases a with _|_|_|_|_|_|_|a
 .rfl
 .rfl
 .rfl
 .exact absurd rfl h3
 .obtain rfl:=si e;exact vG so
 .rfl
 .rfl
 .exact hi a e
theorem CH(B:k3 w b)(ht:I0 t)(hi:i<5){sec:UInt8×UInt8->Int}(hr:room<=3)(hs:s=0\/s=sec (oct ((y0 t i).1:Int),oct ((y0 t i).2:Int)))(hn:okN s (ps i).name){tp:List Bool}{Q:K1}(hp:∀k,k<5->PI room sec (ps k))
 {ex:List n0} {fi ti:Nat} (hf:J0 (wH ⟨t,room,sp,ho,fm⟩ ps src++ex) fi=some (Eg mac (oct ((y0 t i).1:Int),oct ((y0 t i).2:Int)) s (ps i).name ti)) (Pn:J0 (wH ⟨t,room,sp,ho,fm⟩ ps src++ex) ti=some (.tup [])) (h1:wN t<=fi) (h2:wN t<=ti)
 (q:∀t2,Q (.bool false true) ⟨wH ⟨t,room,sp,ho,fm⟩ (NF t room fm i s now ps) src++ex,t2⟩):
 F0 w b 61 (.fn 63) [.ref 4,.W0 (d6 (y0 t i)),.ref fi,iT s,iT now] ⟨wH ⟨t,room,sp,ho,fm⟩ ps src++ex,tp⟩ Q:=by
 have hN4:4<wN t:=by unfold wN;lia
 have lw:∀{ps:Nat->Port}{src:n0},(wH ⟨t,room,sp,ho,fm⟩ ps src).length=wN t:=U4 ht;have hft:fi≠ti:=λe=>by rw[e,Pn] at hf;exact MR (congrArg qO (si hf))
 have lF:=Y1 hf;have lT:=Y1 Pn;have gs:=EV (room:=room) (sp:=sp) (ho:=ho) (fm:=fm) (ps:=ps) (mac:=mac) (x:=((y0 t i).1:Int)) (y:=((y0 t i).2:Int)) (s:=s) (n:=(ps i).name) ht;have Jm:∀{ps':Nat->Port}{j:Nat}{o:n0}{e2:List n0},j<wN t->J0 (wH ⟨t,room,sp,ho,fm⟩ ps' .any++e2) j=some o->J0 (wH ⟨t,room,sp,ho,fm⟩ ps' .any) j=some o/\o.lt (wN t):=λ{ps' j o e2} hj e=>by
  rw[Z0 (by rw[lw];exact hj)] at e;exact⟨e,bC ht o (C7 e)⟩
 have fl:∀k,k<wN t->IV (wN t) fi ti k=k:=λk hk=>if_pos hk;have fN:IV (wN t) fi ti (wN t)=fi:=by unfold IV;rw[if_neg (by lia),if_pos rfl]
 have Qn:IV (wN t) fi ti (wN t+1)=ti:=by unfold IV;rw[if_neg (by lia),if_neg (by lia)]
 have tail:∀{ps:Nat->Port}{k:Nat}{e2:List n0},J0 (wH ⟨t,room,sp,ho,fm⟩ ps .any++e2) (wN t+k)=J0 e2 k:=λ{ps k e2}=>by
  rw[P1 (by rw[lw];exact jB _ _),lw,Nat.add_sub_cancel_left]
 have n3:∀{o:n0},J0 (wH ⟨t,room,sp,ho,fm⟩ ps .any) 3=some o->o= .any:=λ{o} e=>by
  have:J0 (wH ⟨t,room,sp,ho,fm⟩ ps .any) 3=some .any:=rfl;rw[this] at e;obtain rfl:=si e;rfl
 have lJ:∀k,k<wN t+2->k<wN t\/k=wN t\/k=wN t+1:=λk hk=>by lia
 have V1:a9 (wH ⟨t,room,sp,ho,fm⟩ ps src++ex) (hC t room sp ho fm ps mac ((y0 t i).1:Int) ((y0 t i).2:Int) s (ps i).name) (IV (wN t) fi ti):=by
  refine⟨rfl,gs.pl,fl 0 (by lia),fl 1 (by lia),λa c ha hc e=> ?_,λa ha=> ?_,λa o e so=> ?_,λa o e so=> ?_⟩
  .rw[gs.ln] at ha hc;exact xZ h1 h2 hft ha hc e
  .rw[gs.ln] at ha;rcases lJ a ha with h|rfl|rfl
   .rw[fl a h,o8,lw];exact MH (by assumption) (jB _ _)
   .rw[fN];exact lF
   .rw[Qn];exact lT
  .have ha:=Y1 e;rw[gs.ln] at ha;rcases lJ a ha with h|rfl|rfl
   .refine D0 (Jm h e) λe2 l2=> ?_;rw[gs.ln,fl a h];induction o using n0.casesOn<;>first|(cases so;done)|exact .inl rfl|exact .inr (.inl rfl)|exact l2.elim|skip
    exact .inr (.inr ⟨⟨_,rfl⟩,by rw[n0.m8 l2 fl,Z0 (by rw[lw];exact h),R9 (λq=>by subst q;exact MR (congrArg fe (n3 e2)))];exact e2,n0.O5 l2 (by exact jB _ _)⟩)
   .have e:J0 (Oc mac ((y0 t i).1:Int) ((y0 t i).2:Int) s (ps i).name t) 0=some o:=(tail (k:=0)).symm.trans e;obtain rfl:=si e;exact vG so
   .have e:J0 (Oc mac ((y0 t i).1:Int) ((y0 t i).2:Int) s (ps i).name t) 1=some o:=(tail (k:=1)).symm.trans e;obtain rfl:=si e;exact vG so
  .have ha:=Y1 e;rw[gs.ln] at ha⊢;rcases lJ a ha with h|rfl|rfl
   .refine D0 (Jm h e) λe2 l2=> ?_;have h3:a≠3:=λq=>by subst q;rw[n3 e2] at so;exact G2 so
    rw[fl a h,n0.m8 l2 fl,Z0 (by rw[lw];exact h),R9 h3];exact⟨e2,n0.O5 l2 (by exact jB _ _)⟩
   .have e:J0 (Oc mac ((y0 t i).1:Int) ((y0 t i).2:Int) s (ps i).name t) 0=some o:=(tail (k:=0)).symm.trans e;obtain rfl:=si e;rw[fN,hf];refine⟨?_,?_⟩
    .show _=some (n0.inst 10 _);simp only[R6,List.map_nil,V.Z5,Qn];rfl
    .intro p hp;simp only[ge,M4,v8,or_false] at hp;rcases hp with rfl|rfl|rfl|rfl|rfl<;>first|trivial|(show wN t+1<wN t+2;exact j6 _)
   .have e:J0 (Oc mac ((y0 t i).1:Int) ((y0 t i).2:Int) s (ps i).name t) 1=some o:=(tail (k:=1)).symm.trans e;obtain rfl:=si e;rw[Qn,Pn];exact⟨rfl,λv hv=>by cases hv⟩
 refine OB (as:=[.ref 4,.W0 (d6 (y0 t i)),.ref (wN t),iT s,iT now]) (t:=tp) (UA _) V1 ?_ (λv hv=> ?_) (EL B ht hi hr hs hn hp λt2=>⟨trivial,_,t2,?_,q t2⟩)
 .simp only[R6,List.map_nil,V.Z5,fl 4 hN4,fN]
 .rw[gs.ln];simp only[M4,v8,or_false] at hv;rcases hv with rfl|rfl|rfl|rfl|rfl<;>first|trivial|(show 4<wN t+2;exact MH (by assumption) (jB _ _))|(show wN t<wN t+2;lia)
 .refine⟨by rw[o8,o8,lw,lw],λa ha=> ?_,λa ha dj=> ?_⟩
  .refine u0 (gA ha) λo e so=> ?_;have hl:=Y1 e;rw[gs.ln] at hl⊢;unfold nR;rw[i7];rcases lJ a hl with h|rfl|rfl
   .refine D0 (Jm h e) λe2 l2=> ?_;refine u0 (QF (FL (ps':=NF t room fm i s now ps) ht) e2) λo' e3 ix=> ?_;have l3:=bC ht o' (C7 e3);have h3:a≠3:=λq=>by subst q;rw[n3 e2] at so;exact G2 so
    refine⟨o',by rw[Z0 (by rw[lw];exact h)];exact e3,ix.trans so,n0.O5 l3 (by exact jB _ _),?_⟩;rw[fl a h,n0.m8 l3 fl,Z0 (by rw[lw];exact h),R9 h3];exact e3
   .refine⟨Eg mac (oct ((y0 t i).1:Int),oct ((y0 t i).2:Int)) s (ps i).name (wN t+1),(tail (k:=0)).trans rfl,rfl,?_,?_⟩
    .intro p hp;simp only[ge,M4,v8,or_false] at hp;rcases hp with rfl|rfl|rfl|rfl|rfl<;>first|trivial|(show wN t+1<wN t+2;exact j6 _)
    .rw[fN,P1 (by rw[lw];exact h1),lw];rw[P1 (by rw[lw];exact h1),lw] at hf;rw[hf];show _=some (n0.inst 10 _);simp only[R6,List.map_nil,V.Z5,Qn];rfl
   .refine⟨.tup [],(tail (k:=1)).trans rfl,rfl,λv hv=>(by cases hv),?_⟩;rw[Qn,P1 (by rw[lw];exact h2),lw];rw[P1 (by rw[lw];exact h2),lw] at Pn;exact Pn
  .by_cases h:a<wN t
   .rw[Z0 (by rw[lw];exact h),Z0 (by rw[lw];exact h)];by_cases h3:a=3
    .subst h3;rfl
    .rw[R9 h3,R9 h3];refine O0 (l7 (l:=wH ⟨t,room,sp,ho,fm⟩ ps .any) (i:=a) (by rw[lw];exact h)) λo e=> ?_;induction so:C3 o using Q2 with
     |true=>
      refine absurd (fl a h) (dj a ?_);unfold G4 hC;rw[Z0 (by rw[lw];exact h),e];exact so
     |false=>
      exact(yZ ht h3 e so).trans (R9 h3).symm
   .rw[P1 (by rw[lw];exact gB.mp (by assumption)),P1 (by rw[lw];exact gB.mp (by assumption)),lw,lw]
end
set_option genCtorIdx true in
inductive EA where
 |D|N|U|Z1|Z2
noncomputable def GL:EA->Bool
 | .D=>false
 | .N=>false
 |_=>true
noncomputable def mJ:Str:=⟨#[97,103,101,110,116]⟩
noncomputable def S9:Str:=⟨#[100,117,101]⟩
noncomputable def RF:Str:=⟨#[116,111,108,100]⟩
noncomputable def DD:List Stmt:=W5 (T1 (A5 (.fn 66)) 0)
noncomputable def O8(t:Nat):List (Str×Nat):=[(⟨#[97,116]⟩,wN t+2),(⟨#[110,111,119]⟩,wN t+1),(⟨#[119,111,114,108,100]⟩,wN t)]
noncomputable def j5(now at_:Int):List n0:=[.cell (some (.ref 4)),.cell (some (iT now)),.cell (some (iF at_))]
noncomputable def Rn(now:Int)(st:EA)(p:Port)(X:Prop):Prop:=match st with
 | .D=>p.up=false/\X
 | .N=>p.up=true/\decide (p.AD<=now)=false/\X
 |_=>p.up=true/\decide (p.AD<=now)=true/\X
noncomputable def Sn(st:EA)(p:Port)(X:Prop):Prop:=match st with
 | .D=>X
 | .N=>X
 | .U=>decide (0<p.b6 -1)=true/\decide (0<p.b6 -1)=true/\X
 |_=>decide (0<p.b6 -1)=false/\X
noncomputable def Tn(sec:Int)(st:EA)(p:Port)(X:Prop):Prop:=match st with
 | .D=>p.up=false/\X
 | .N=>p.up=true/\decide (0<p.wait)=true/\X
 | .U=>p.up=true/\decide (0<p.wait)=false/\okN sec p.name/\decide (0<p.fast)=true/\decide (0<p.fast -1)=true/\X
 | .Z1=>p.up=true/\decide (0<p.wait)=false/\okN sec p.name/\decide (0<p.fast)=true/\decide (0<p.fast -1)=false/\X
 | .Z2=>p.up=true/\decide (0<p.wait)=false/\okN sec p.name/\decide (0<p.fast)=false/\decide (0<p.fast)=false/\X
noncomputable def t1T:EA->List Bool
 | .D=>[false]
 | .N=>[true,false]
 |_=>[true,true]
noncomputable def t2T:EA->List Bool
 | .D=>[]
 | .N=>[]
 | .U=>[true,true]
 |_=>[false]
noncomputable def t3T:EA->List Bool
 | .D=>[false]
 | .N=>[true,true]
 | .U=>[true,false,true,true]
 | .Z1=>[true,false,true,false]
 | .Z2=>[true,false,false,false]
noncomputable def Uc(l:List (Nat×EA)):List Bool:=l.flatMap (λq=>t1T q.2)++l.flatMap (λq=>t2T q.2)++l.flatMap (λq=>t3T q.2)
noncomputable def VF(st:EA)(sp now:Int)(p:Port):Port:=match st with
 | .D=>p
 | .N=>{p with wait:=p.wait -1}
 | .U=>{p with b6:=p.b6 -1,AD:=now+1,fast:=p.fast -1,wait:=1 -1}
 | .Z1=>{p with b6:=0,AD:=now+sp,fast:=p.fast -1,wait:=sp -1}
 | .Z2=>{p with b6:=0,AD:=now+sp,wait:=sp -1}
noncomputable def oR(l:List (Nat×EA)):List Nat:=(l.filter λq=>GL q.2).map (·.1)
noncomputable def cC(t at_:Nat)(sec:Int)(ps:Nat->Port):Nat->List Nat->List n0
 |_,[]=>[]
 |i,j::r=> .tup []::Eg (16+(at_:Int)) (AF (y0 t j)) sec (ps j).name i:: .tup [iF ((y0 t j).2:Int),.ref (i+1)]::cC t at_ sec ps (i+3) r
noncomputable def YA:Nat->List Nat->List V
 |_,[]=>[]
 |i,_::r=> .ref (i+2)::YA (i+3) r
noncomputable def Lg(t at_:Nat)(sec:Int)(ps:Nat->Port)(all AD:List Nat):List n0:=
 [.D4 (.lst (K8 t)),.D4 (.lst (AD.map λj=> .W0 (d6 (y0 t j)))),.D4 (.lst (YA (wN t+7) AD)),.D4 (.lst (all.map λj=>iF ((y0 t j).2:Int)))]++cC t at_ sec ps (wN t+7) AD
noncomputable def D7(sp now:Int)(l:List (Nat×EA))(ps:Nat->Port):Nat->Port:=l.foldr (λq f=>W2 f q.1 (VF q.2 sp now (ps q.1))) ps
noncomputable def qT(t at_:Nat)(l:List (Nat×EA)):Prop:=∀(room:Int)(sp ho fm:Nat->Int)(ps:Nat->Port)(now:Int)(P:VK),
 (run (C0 (0,0) 0 []) 20).ex (DD.take 4) (I1 (.fn 66)) ⟨[(mJ,.ref (aI at_))],O8 t⟩ ⟨wH ⟨t,room,sp,ho,fm⟩ ps .any++j5 now at_,Uc l⟩ (vK [S9,RF] (wN t+7+3*(oR l).length) P)=
 l.foldr (λq X=>Rn now q.2 (ps q.1) X) (l.foldr (λq X=>Sn q.2 (ps q.1) X) (l.foldr (λq X=>Tn (sp at_*ho at_+1) q.2 (ps q.1) X)
  (P .next (O9 [(S9,.ref (wN t+4)),(RF,.ref (wN t+5))]) (O8 t) (E3 (wH ⟨t,room,sp,ho,fm⟩ (D7 (sp at_) now l ps) .any++j5 now at_++Lg t at_ (sp at_*ho at_+1) ps (l.map (·.1)) (oR l))))))
noncomputable def Q0(t a:Nat):List Nat:=(List.range 5).filter λj=>Nat.beq (y0 t j).1 a
theorem Un(f:Nat->EA):qT 3 0 ((Q0 3 0).map λj=>(j,f j)):=by
 show qT 3 0 [(0,f 0),(1,f 1)];cases f 0<;>cases f 1<;>(unfold qT;intros;kernel_rfl)
theorem Vn(f:Nat->EA):qT 3 1 ((Q0 3 1).map λj=>(j,f j)):=by
 show qT 3 1 [(2,f 2),(3,f 3)];cases f 2<;>cases f 3<;>(unfold qT;intros;kernel_rfl)
theorem Wn(f:Nat->EA):qT 3 2 ((Q0 3 2).map λj=>(j,f j)):=by
 show qT 3 2 [(4,f 4)];cases f 4<;>(unfold qT;intros;kernel_rfl)
theorem Xn(f:Nat->EA):qT 4 0 ((Q0 4 0).map λj=>(j,f j)):=by
 show qT 4 0 [(0,f 0),(1,f 1)];cases f 0<;>cases f 1<;>(unfold qT;intros;kernel_rfl)
theorem Yn(f:Nat->EA):qT 4 1 ((Q0 4 1).map λj=>(j,f j)):=by
 show qT 4 1 [(2,f 2)];cases f 2<;>(unfold qT;intros;kernel_rfl)
theorem Zn(f:Nat->EA):qT 4 2 ((Q0 4 2).map λj=>(j,f j)):=by
 show qT 4 2 [(3,f 3)];cases f 3<;>(unfold qT;intros;kernel_rfl)
theorem ao(f:Nat->EA):qT 4 3 ((Q0 4 3).map λj=>(j,f j)):=by
 show qT 4 3 [(4,f 4)];cases f 4<;>(unfold qT;intros;kernel_rfl)
theorem bo(f:Nat->EA):qT 5 0 ((Q0 5 0).map λj=>(j,f j)):=by
 show qT 5 0 [(0,f 0)];cases f 0<;>(unfold qT;intros;kernel_rfl)
theorem jo(f:Nat->EA):qT 5 1 ((Q0 5 1).map λj=>(j,f j)):=by
 show qT 5 1 [(1,f 1)];cases f 1<;>(unfold qT;intros;kernel_rfl)
theorem qo(f:Nat->EA):qT 5 2 ((Q0 5 2).map λj=>(j,f j)):=by
 show qT 5 2 [(2,f 2)];cases f 2<;>(unfold qT;intros;kernel_rfl)
theorem ro(f:Nat->EA):qT 5 3 ((Q0 5 3).map λj=>(j,f j)):=by
 show qT 5 3 [(3,f 3)];cases f 3<;>(unfold qT;intros;kernel_rfl)
theorem uo(f:Nat->EA):qT 5 4 ((Q0 5 4).map λj=>(j,f j)):=by
 show qT 5 4 [(4,f 4)];cases f 4<;>(unfold qT;intros;kernel_rfl)
theorem Mg(ht:I0 t)(ha:a<t)(f:Nat->EA):qT t a ((Q0 t a).map λj=>(j,f j)):=by
 rcases ht with rfl|rfl|rfl
 .exact p3 (Q:=λa=>qT 3 a ((Q0 3 a).map λj=>(j,f j))) ha (Un f) (Vn f) (Wn f)
 .exact p4 (Q:=λa=>qT 4 a ((Q0 4 a).map λj=>(j,f j))) ha (Xn f) (Yn f) (Zn f) (ao f)
 .exact p5 (Q:=λa=>qT 5 a ((Q0 5 a).map λj=>(j,f j))) ha (bo f) (jo f) (qo f) (ro f) (uo f)
structure P5(room:Int)(sec:UInt8×UInt8->Int)(τ:Int)(p:Port):Prop where
 pi:PI room sec p
 nm:p.name.length<=1
 eq:p.up=true->p.fast=p.b6
 nn:p.up=true->0<=p.b6
 wt:p.up=true->p.wait=if τ<p.AD then p.AD -τ else 0
set_option tactic.hygienic true in
theorem pR(h:P5 room sec τ p)(hs:s=0\/s=sec k)(h0:0<=s)(hf:0<=fm)(VR:0<=τ):P5 room sec τ (Q9 room fm now k s n p)/\(Q9 room fm now k s n p).name=p.name/\(Q9 room fm now k s n p).up=p.up/\(Q9 room fm now k s n p).seg=p.seg:=by
 have hp:=DL (room:=room) (fm:=fm) (now:=now) (n:=n) h.pi hs h0;unfold Q9 at hp⊢
 split
 .exact⟨h,rfl,rfl,rfl⟩
 .rename_i hu;rw[if_neg hu] at hp
  split
  .rename_i hz;rw[if_pos hz] at hp
   split
   .rename_i hq;rw[if_pos hq] at hp;exact⟨⟨hp,h.nm,h.eq,h.nn,h.wt⟩,rfl,rfl,rfl⟩
   .exact⟨h,rfl,rfl,rfl⟩
  .rename_i hz;rw[if_neg hz] at hp
   split
   .rename_i hq;rw[if_pos hq] at hp;exact⟨⟨hp,h.nm,h.eq,h.nn,h.wt⟩,rfl,rfl,rfl⟩
   .rename_i hq;rw[if_neg hq] at hp
    split
    .exact⟨h,rfl,rfl,rfl⟩
    .rename_i hr;rw[if_neg hr] at hp;exact⟨⟨hp,h.nm,λ_=>rfl,λ_=>hf,λ_=>by show(0:Int)=if τ<0 then _ else _;rw[if_neg (by lia)]⟩,rfl,rfl,rfl⟩
noncomputable def Inv(room:Int)(sec:UInt8×UInt8->Int)(τ:Nat->Int)(ps:Nat->Port):Prop:=∀j,j<5->P5 room sec (τ j) (ps j)
structure Kept(ps ps':Nat->Port):Prop where
 nm:∀j,(ps' j).name=(ps j).name
 up:∀j,(ps' j).up=(ps j).up
 sg:∀j,(ps' j).seg=(ps j).seg
theorem Kept.refl(ps:Nat->Port):Kept ps ps:=⟨λ_=>rfl,λ_=>rfl,λ_=>rfl⟩
theorem Kept.trans(x:Kept a b)(y:Kept b c):Kept a c:=⟨λj=>(y.nm j).trans (x.nm j),λj=>(y.up j).trans (x.up j),λj=>(y.sg j).trans (x.sg j)⟩
section
theorem qR(h:Inv room sec τ ps)(hs:s=0\/s=sec (oct x,oct y))(h0:0<=s)(hf:∀a,0<=fm a)(VR:∀j,0<=τ j)(hj:j<5):Inv room sec τ (u9 t room fm x y s now place n ps j)/\Kept ps (u9 t room fm x y s now place n ps j):=by
 have key:=pR (room:=room) (fm:=fm (y0 t j).1) (now:=now) (n:=n) (h j hj) hs h0 (hf _) (VR j);refine⟨λk hk=> ?_,⟨λk=> ?_,λk=> ?_,λk=> ?_⟩⟩
 .rw[MF];induction e:(Nat.beq k j&& !CN t x y place ps j) using Q2 with
  |true=>
   rw[JD] at e;rw[V9 e.1];exact key.1
  |false=>exact h k hk
 all_goals
  rw[MF];induction e:(Nat.beq k j&& !CN t x y place ps j) using Q2 with
  |true=>
   rw[JD] at e;rw[V9 e.1];first|exact key.2.1|exact key.2.2.1|exact key.2.2.2
  |false=>rfl
theorem rR(hs:s=0\/s=sec (oct x,oct y))(h0:0<=s)(hf:∀a,0<=fm a)(VR:∀j,0<=τ j){js:List Nat}:∀{ps:Nat->Port},(∀j∈js,j<5)->Inv room sec τ ps->Inv room sec τ (js.foldl (u9 t room fm x y s now place n) ps)/\Kept ps (js.foldl (u9 t room fm x y s now place n) ps):=by
 induction js with
 |nil=>
  intro ps _ h;exact⟨h,.refl ps⟩
 |cons j js ih=>
  intro ps hj h;refine D0 (qR (t:=t) (fm:=fm) (now:=now) (place:=place) (n:=n) h hs h0 hf VR (hj j M3)) λh1 k1=> ?_;refine D0 (ih (λk hk=>hj k (a5 _ hk)) h1) λh2 k2=> ?_;exact⟨h2,k1.trans k2⟩
theorem XF{ps:Nat->Port}(h:Inv room sec τ ps)(hs:s=0\/s=sec (oct ((y0 t i).1:Int),oct ((y0 t i).2:Int)))(h0:0<=s)(hf:∀a,0<=fm a)(VR:∀j,0<=τ j):Inv room sec τ (NF t room fm i s now ps)/\Kept ps (NF t room fm i s now ps):=
 rR hs h0 hf VR (λj hj=>NJ.mp hj) h
end
noncomputable def eC(now:Int)(p:Port):EA:=if p.up=false then .D else if now<p.AD then .N else if 0<p.b6 -1 then .U else if 0<p.fast then .Z1 else .Z2
theorem JV(h:P5 room sec now p)(hs:okN sc p.name)(X Y Z:Prop)(hx:X)(hy:Y)(hz:Z):Rn now (eC now p) p X/\Sn (eC now p) p Y/\Tn sc (eC now p) p Z:=by
 unfold eC;induction hu:p.up using Q2 with
 |false=>rw[if_pos rfl];exact⟨⟨hu,hx⟩,hy,hu,hz⟩
 |true=>
  rw[if_neg (by decide)];have hw:=h.wt hu;have he:=h.eq hu;have hn:=h.nn hu;by_cases hd:now<p.AD
  .rw[if_pos hd] at hw⊢;exact⟨⟨hu,decide_eq_false (by lia),hx⟩,hy,hu,decide_eq_true (by lia),hz⟩
  .rw[if_neg hd] at hw⊢;have w0:decide (0<p.wait)=false:=decide_eq_false (by lia);have d1:decide (p.AD<=now)=true:=decide_eq_true (by lia);by_cases hf:0<p.b6 -1
   .rw[if_pos hf];exact⟨⟨hu,d1,hx⟩,⟨decide_eq_true hf,decide_eq_true hf,hy⟩,hu,w0,hs,decide_eq_true (by lia),decide_eq_true (by lia),hz⟩
   .rw[if_neg hf];by_cases hg:0<p.fast
    .rw[if_pos hg];exact⟨⟨hu,d1,hx⟩,⟨decide_eq_false hf,hy⟩,hu,w0,hs,decide_eq_true hg,decide_eq_false (by lia),hz⟩
    .rw[if_neg hg];exact⟨⟨hu,d1,hx⟩,⟨decide_eq_false hf,hy⟩,hu,w0,hs,decide_eq_false hg,decide_eq_false hg,hz⟩
theorem sR(h:P5 room sec now p)(hs:1<=sp):P5 room sec (now+1) (VF (eC now p) sp now p):=by
 unfold eC;induction hu:p.up using Q2 with
 |false=>
  rw[if_pos rfl];show P5 room sec (now+1) p;exact⟨h.pi,h.nm,(λe=>by rw[hu] at e;exact G2 e),(λe=>by rw[hu] at e;exact G2 e),(λe=>by rw[hu] at e;exact G2 e)⟩
 |true=>
  rw[if_neg (by decide)];have hw:=h.wt hu;have he:=h.eq hu;have hn:=h.nn hu;by_cases hd:now<p.AD
  .rw[if_pos hd] at hw⊢;refine⟨⟨h.pi.kn,h.pi.len,h.pi.sec,h.pi.ge,h.pi.nd⟩,h.nm,h.eq,h.nn,λ_=> ?_⟩;show p.wait -1=if now+1<p.AD then p.AD -(now+1) else 0
   split<;>lia
  .rw[if_neg hd] at hw⊢;by_cases hf:0<p.b6 -1
   .rw[if_pos hf];refine⟨⟨h.pi.kn,h.pi.len,h.pi.sec,h.pi.ge,h.pi.nd⟩,h.nm,λ_=> ?_,λ_=> ?_,λ_=> ?_⟩
    .show p.fast -1=p.b6 -1;lia
    .show 0<=p.b6 -1;lia
    .show(1 -1:Int)=if now+1<now+1 then now+1 -(now+1) else 0
     split<;>lia
   .rw[if_neg hf];by_cases hg:0<p.fast
    .rw[if_pos hg];refine⟨⟨h.pi.kn,h.pi.len,h.pi.sec,h.pi.ge,h.pi.nd⟩,h.nm,λ_=> ?_,λ_=> ?_,λ_=> ?_⟩
     .show p.fast -1=0;lia
     .show(0:Int)<=0;decide
     .show sp -1=if now+1<now+sp then now+sp -(now+1) else 0
      split<;>lia
    .rw[if_neg hg];refine⟨⟨h.pi.kn,h.pi.len,h.pi.sec,h.pi.ge,h.pi.nd⟩,h.nm,λ_=> ?_,λ_=> ?_,λ_=> ?_⟩
     .show p.fast=0;lia
     .show(0:Int)<=0;decide
     .show sp -1=if now+1<now+sp then now+sp -(now+1) else 0
      split<;>lia
theorem ZA{st:EA}{sp now:Int}{p:Port}:(VF st sp now p).name=p.name/\(VF st sp now p).up=p.up/\(VF st sp now p).seg=p.seg:=by cases st<;>exact⟨rfl,rfl,rfl⟩
section
variable{w:World}{b:Heap}{t a j i:Nat}{room:Int}{sp ho fm:Nat->Int}{ps ps':Nat->Port}{now sc:Int}{src:n0}
noncomputable def hT(t a:Nat)(room:Int)(sp ho fm:Nat->Int)(ps ps0:Nat->Port)(now sc:Int)(dl:List Nat):List n0:=wH ⟨t,room,sp,ho,fm⟩ ps .any++j5 now a++Lg t a sc ps0 (Q0 t a) dl
theorem jx(f:Nat->Bool):Good (wN 3+7+3*((Q0 3 0).filter f).length) (hT 3 0 room sp ho fm ps ps' now sc ((Q0 3 0).filter f)):=by
 rw[show Q0 3 0=[0,1] from rfl];cases h0:f 0<;>cases h1:f 1<;>simp only[nM,List.filter_nil,h0,h1,if_true,IJ,if_false]<;>exact good3 (by kernel_rfl)
theorem kx(f:Nat->Bool):Good (wN 3+7+3*((Q0 3 1).filter f).length) (hT 3 1 room sp ho fm ps ps' now sc ((Q0 3 1).filter f)):=by
 rw[show Q0 3 1=[2,3] from rfl];cases h2:f 2<;>cases h3:f 3<;>simp only[nM,List.filter_nil,h2,h3,if_true,IJ,if_false]<;>exact good3 (by kernel_rfl)
theorem mx(f:Nat->Bool):Good (wN 3+7+3*((Q0 3 2).filter f).length) (hT 3 2 room sp ho fm ps ps' now sc ((Q0 3 2).filter f)):=by
 rw[show Q0 3 2=[4] from rfl];cases h4:f 4<;>simp only[nM,List.filter_nil,h4,if_true,IJ,if_false]<;>exact good3 (by kernel_rfl)
theorem px(f:Nat->Bool):Good (wN 4+7+3*((Q0 4 0).filter f).length) (hT 4 0 room sp ho fm ps ps' now sc ((Q0 4 0).filter f)):=by
 rw[show Q0 4 0=[0,1] from rfl];cases h0:f 0<;>cases h1:f 1<;>simp only[nM,List.filter_nil,h0,h1,if_true,IJ,if_false]<;>exact good3 (by kernel_rfl)
theorem qx(f:Nat->Bool):Good (wN 4+7+3*((Q0 4 1).filter f).length) (hT 4 1 room sp ho fm ps ps' now sc ((Q0 4 1).filter f)):=by
 rw[show Q0 4 1=[2] from rfl];cases h2:f 2<;>simp only[nM,List.filter_nil,h2,if_true,IJ,if_false]<;>exact good3 (by kernel_rfl)
theorem rx(f:Nat->Bool):Good (wN 4+7+3*((Q0 4 2).filter f).length) (hT 4 2 room sp ho fm ps ps' now sc ((Q0 4 2).filter f)):=by
 rw[show Q0 4 2=[3] from rfl];cases h3:f 3<;>simp only[nM,List.filter_nil,h3,if_true,IJ,if_false]<;>exact good3 (by kernel_rfl)
theorem sx(f:Nat->Bool):Good (wN 4+7+3*((Q0 4 3).filter f).length) (hT 4 3 room sp ho fm ps ps' now sc ((Q0 4 3).filter f)):=by
 rw[show Q0 4 3=[4] from rfl];cases h4:f 4<;>simp only[nM,List.filter_nil,h4,if_true,IJ,if_false]<;>exact good3 (by kernel_rfl)
theorem tx(f:Nat->Bool):Good (wN 5+7+3*((Q0 5 0).filter f).length) (hT 5 0 room sp ho fm ps ps' now sc ((Q0 5 0).filter f)):=by
 rw[show Q0 5 0=[0] from rfl];cases h0:f 0<;>simp only[nM,List.filter_nil,h0,if_true,IJ,if_false]<;>exact good3 (by kernel_rfl)
theorem ux(f:Nat->Bool):Good (wN 5+7+3*((Q0 5 1).filter f).length) (hT 5 1 room sp ho fm ps ps' now sc ((Q0 5 1).filter f)):=by
 rw[show Q0 5 1=[1] from rfl];cases h1:f 1<;>simp only[nM,List.filter_nil,h1,if_true,IJ,if_false]<;>exact good3 (by kernel_rfl)
theorem vx(f:Nat->Bool):Good (wN 5+7+3*((Q0 5 2).filter f).length) (hT 5 2 room sp ho fm ps ps' now sc ((Q0 5 2).filter f)):=by
 rw[show Q0 5 2=[2] from rfl];cases h2:f 2<;>simp only[nM,List.filter_nil,h2,if_true,IJ,if_false]<;>exact good3 (by kernel_rfl)
theorem wx(f:Nat->Bool):Good (wN 5+7+3*((Q0 5 3).filter f).length) (hT 5 3 room sp ho fm ps ps' now sc ((Q0 5 3).filter f)):=by
 rw[show Q0 5 3=[3] from rfl];cases h3:f 3<;>simp only[nM,List.filter_nil,h3,if_true,IJ,if_false]<;>exact good3 (by kernel_rfl)
theorem xx(f:Nat->Bool):Good (wN 5+7+3*((Q0 5 4).filter f).length) (hT 5 4 room sp ho fm ps ps' now sc ((Q0 5 4).filter f)):=by
 rw[show Q0 5 4=[4] from rfl];cases h4:f 4<;>simp only[nM,List.filter_nil,h4,if_true,IJ,if_false]<;>exact good3 (by kernel_rfl)
theorem Ng(ht:I0 t)(ha:a<t)(f:Nat->Bool):Good (wN t+7+3*((Q0 t a).filter f).length) (hT t a room sp ho fm ps ps' now sc ((Q0 t a).filter f)):=by
 rcases ht with rfl|rfl|rfl
 .exact p3 ha (jx f) (kx f) (mx f)
 .exact p4 ha (px f) (qx f) (rx f) (sx f)
 .exact p5 ha (tx f) (ux f) (vx f) (wx f) (xx f)
theorem vo{l:List (Nat×EA)}{X:Prop}(h:∀q∈l,∀X,X->Rn now q.2 (ps q.1) X)(hx:X):l.foldr (λq X=>Rn now q.2 (ps q.1) X) X:=by
 induction l with
 |nil=>exact hx
 |cons q l ih=>exact h q M3 _ (ih λq hq=>h q (a5 _ hq))
theorem wo{l:List (Nat×EA)}{X:Prop}(h:∀q∈l,∀X,X->Sn q.2 (ps q.1) X)(hx:X):l.foldr (λq X=>Sn q.2 (ps q.1) X) X:=by
 induction l with
 |nil=>exact hx
 |cons q l ih=>exact h q M3 _ (ih λq hq=>h q (a5 _ hq))
theorem xo{l:List (Nat×EA)}{X:Prop}(h:∀q∈l,∀X,X->Tn sc q.2 (ps q.1) X)(hx:X):l.foldr (λq X=>Tn sc q.2 (ps q.1) X) X:=by
 induction l with
 |nil=>exact hx
 |cons q l ih=>exact h q M3 _ (ih λq hq=>h q (a5 _ hq))
noncomputable def QP(t a:Nat)(now:Int)(ps:Nat->Port):List (Nat×EA):=(Q0 t a).map λj=>(j,eC now (ps j))
theorem RP:oR (QP t a now ps)=(Q0 t a).filter λj=>GL (eC now (ps j)):=by
 unfold oR QP
 generalize Q0 t a=l
 induction l with
 |nil=>rfl
 |cons j l ih=>
  simp only[R6,nM];induction GL (eC now (ps j)) using Q2 with
  |true=>simp only[if_true,R6];rw[ih]
  |false=>simp only[IJ,if_false];exact ih
theorem Og:(QP t a now ps).map (·.1)=Q0 t a:=by
 unfold QP;rw[yC];exact List.map_id _
noncomputable def Pg(t a:Nat)(now:Int)(ps:Nat->Port):List Nat:=(Q0 t a).filter λj=>GL (eC now (ps j))
theorem yo(B:k3 w b)(ht:I0 t)(ha:a<t){sec:UInt8×UInt8->Int}(inv:∀j∈Q0 t a,P5 room sec now (ps j)/\okN (sp a*ho a+1) (ps j).name){tp t2:List Bool}{K:KS}
 (q:K .next ⟨[(S9,.ref (wN t+4)),(RF,.ref (wN t+5))],O8 t⟩ ⟨hT t a room sp ho fm (D7 (sp a) now (QP t a now ps) ps) ps now (sp a*ho a+1) (Pg t a now ps),t2⟩):
 R0 w b 60 (DD.take 4) (I1 (.fn 66)) ⟨[(mJ,.ref (aI a))],O8 t⟩ ⟨wH ⟨t,room,sp,ho,fm⟩ ps .any++j5 now a,tp⟩ K:=by
 have lw:(wH ⟨t,room,sp,ho,fm⟩ ps .any).length=wN t:=U4 ht;have hh:(wH ⟨t,room,sp,ho,fm⟩ ps .any++j5 now a).length=wN t+3:=by rw[o8,lw];rfl
 have qq:=Mg ht ha (λj=>eC now (ps j)) room sp ho fm ps now;have hc:∀q∈QP t a now ps,∀X Y Z:Prop,X->Y->Z->Rn now q.2 (ps q.1) X/\Sn q.2 (ps q.1) Y/\Tn (sp a*ho a+1) q.2 (ps q.1) Z:=λq hq X Y Z hx hy hz=>by
  refine u0 (z5.mp hq) λj hj B0=> ?_;subst B0;exact JV (inv j hj).1 (inv j hj).2 X Y Z hx hy hz
 have G:=Ng (room:=room) (sp:=sp) (ho:=ho) (fm:=fm) (ps:=D7 (sp a) now (QP t a now ps) ps) (ps':=ps) (now:=now) (sc:=sp a*ho a+1) ht ha (λj=>GL (eC now (ps j)));refine e9 (r:=20) (N:=wN t+7+3*(oR (QP t a now ps)).length) (g2:= .next) (names:=[S9,RF]) (t2:=t2) (t:=Uc (QP t a now ps)) (k:=(0,0)) (s:=0) (m:=[]) B (Eq.mpr (qq _) ?_) (by rw[hh];lia) (by rw[RP];exact G) ?_ trivial ?_ (by lia) q
 .refine vo (λq hq X hx=>(hc q hq X True True hx trivial trivial).1) (wo (λq hq X hx=>(hc q hq True X True trivial hx trivial).2.1) (xo (λq hq X hx=>(hc q hq True True X trivial trivial hx).2.2) ⟨rfl,rfl,rfl,?_⟩));show E3 _=E3 _;have e:Lg t a (sp a*ho a+1) ps (Q0 t a) (Pg t a now ps)=Lg t a (sp a*ho a+1) ps ((QP t a now ps).map (·.1)) (oR (QP t a now ps)):=by rw[Og,RP];rfl
  unfold hT;rw[e];rfl
 .intro p hp;simp only[M4,v8,or_false] at hp;rcases hp with rfl|rfl
  .show wN t+4<_;lia
  .show wN t+5<_;lia
 .intro p hp;simp only[O8,M4,v8,or_false] at hp;rw[hh];rcases hp with rfl|rfl|rfl
  .show wN t+2<_;exact j6 _
  .show wN t+1<_;lia
  .show wN t<_;lia
end
noncomputable def rG:Stmt:=T1 DD 4
noncomputable def callArgs:Expr->List Expr
 | .Call _ as _ _=>as
 |_=>[]
noncomputable def zo:Expr->List Expr
 | .Tuple es _ _=>es
 |_=>[]
noncomputable def KV:Stmt->Expr
 | .If t _ _ _=>t
 |_=> .Constant .none 0 default
noncomputable def zZ:Stmt->List Stmt
 | .If _ a _ _=>a
 |_=>[]
noncomputable def Qg:Expr->Expr
 | .UnaryOp _ x _=>x
 |e=>e
noncomputable def Ao(l:List Expr)(i:Nat):Expr:=(J0 l i).getD (.Constant .none 0 default)
noncomputable def Vc:Expr:=Qg (KV (T1 (W5 rG) 0))
noncomputable def yx(K:m9->List w5->St->Prop):List V->St->Prop:=λvs P0=>on (two vs) 237 λv=>on (D5 P0 v.1) 201 λp=>on (D5 P0 v.2) 201 λq=>gd (tv p.1 q.1) (K (p.1++q.1) (aK p.2 q.2) P0)
noncomputable def Y5:Str:=⟨#[101,110,100]⟩
noncomputable def AZ:Str:=⟨#[110,117,109,98,101,114]⟩
noncomputable def Rg:Str:=⟨#[102,114,97,109,101]⟩
noncomputable def Bo(t:Nat):List (Str×V):=[(S9,.ref (wN t+4)),(RF,.ref (wN t+5))]
noncomputable def Wc(t:Nat)(e x f:V):List (Str×V):=[(S9,.ref (wN t+4)),(RF,.ref (wN t+5)),(Y5,e),(AZ,x),(Rg,f)]
noncomputable def EN(o:Option (List V))(f:List V->Prop):Prop:=on o 101 f
theorem ED:EN (some xs) f=f xs:=rfl
noncomputable def WR:List Expr:=zo (Ao (zo (k4 rG)) 1)
section
noncomputable def CX(w:World)(b:Heap):oG:=λf args σ Q=>sX (zP 63 f) (some (F0 w b 61 f args σ Q)) (C0 (0,0) 0 [] f args σ Q)
theorem Co(B:k3 w b):∀n,61<=n->s9 w b n (CX w b):=λn hn=>dJ hn (GF B _ _ _ n (V7 (by decide) hn))
theorem LV(B:k3 w b)(r:Nat):M6 w b (61+r) (run (CX w b) r):=K9 B 61 (λn h=>Co B n h) r
theorem nJ(O:M6 w b n R)(h:nG R es sc fr σ Q):nG (Sem w b n) es sc fr σ Q:=by
 induction es generalizing σ Q with
 |nil=>exact h
 |cons e es ih=>
  refine U3 h λc h=> ?_;show gd (!isStar e) _;rw[c];exact SI (O.wC.1 h) λv F1 h'=>ih h'
theorem YC{sc:Scope}{fr:J2}{σ:St}{K:KS}(q:K .next fr σ):R0 w b n [] sc fr σ K:=by
 intro A E s cx rs env m hA S N;exact wpAny_execs_nil (PS.one S N q trivial)
section
theorem Eo{K:m9->List w5->St->Prop}:P4 R (k4 rG) (y5 rG) (I1 (.fn 66)) fr σ K=nG R (callArgs (y5 rG)) (I1 (.fn 66)) fr σ (yx K):=by kernel_rfl
theorem zx:nG (run C 20) (callArgs (y5 rG)) (I1 (.fn 66)) ⟨[(S9,u),(RF,v)],O3⟩ σ Q=Q [u,v] σ:=by kernel_rfl
theorem Fo{e:V}{q:Nat}{K:J2->St->Prop}:n6 R (k4 rG) (.inr (e,.ref q)) (I1 (.fn 66)) ⟨Bo t,O3⟩ σ K=EN (oS σ (.ref q)) λxs=>gd (noStar WR&&Nat.beq WR.length xs.length) (asg.CG R 2 WR xs (I1 (.fn 66)) ⟨Bo t++[(Y5,e)],O3⟩ σ K):=by kernel_rfl
theorem Ho{e e0 x0 f0:V}{q:Nat}{K:J2->St->Prop}:n6 R (k4 rG) (.inr (e,.ref q)) (I1 (.fn 66)) ⟨Wc t e0 x0 f0,O3⟩ σ K=EN (oS σ (.ref q)) λxs=>gd (noStar WR&&Nat.beq WR.length xs.length) (asg.CG R 2 WR xs (I1 (.fn 66)) ⟨Wc t e x0 f0,O3⟩ σ K):=by kernel_rfl
theorem Io{e x f:V}{K:J2->St->Prop}:gd (noStar WR&&Nat.beq WR.length [x,f].length) (asg.CG R 2 WR [x,f] (I1 (.fn 66)) ⟨Bo t++[(Y5,e)],O3⟩ σ K)=K ⟨Wc t e x f,O3⟩ σ:=by kernel_rfl
theorem Jo{e x f x0 f0:V}{K:J2->St->Prop}:gd (noStar WR&&Nat.beq WR.length [x,f].length) (asg.CG R 2 WR [x,f] (I1 (.fn 66)) ⟨Wc t e x0 f0,O3⟩ σ K)=K ⟨Wc t e x f,O3⟩ σ:=by kernel_rfl
noncomputable def Ko(t:Nat)(L:List (Str×V)):Prop:=L=Bo t\/∃e x f,L=Wc t e x f
theorem Ax{e:V}{q:Nat}{x f:V}{L:List (Str×V)}{K:J2->St->Prop}(hL:Ko t L)(h:J0 σ.heap q=some (.tup [x,f]))(k:K ⟨Wc t e x f,O3⟩ σ):n6 R (k4 rG) (.inr (e,.ref q)) (I1 (.fn 66)) ⟨L,O3⟩ σ K:=by
 have hs:oS σ (.ref q)=some [x,f]:=by
  show Option.map _ (((J0 σ.heap q).map n0.Ui).bind qO)=_;rw[h];rfl
 rcases hL with rfl|⟨e0,x0,f0,rfl⟩
 .rw[Fo,hs,ED];exact Eq.mpr Io k
 .rw[Ho,hs,ED];exact Eq.mpr Jo k
theorem Lo{K:KS}:JJ R (T1 (W5 rG) 0) (I1 (.fn 66)) fr σ K=R.ev Vc (I1 (.fn 66)) fr σ (λv P0=>I6 v P0 (λM1=>R.ex [] (I1 (.fn 66)) fr M1 K) (λM1=>R.ex (zZ (T1 (W5 rG) 0)) (I1 (.fn 66)) fr M1 K)):=by kernel_rfl
theorem Mo:W5 rG=[T1 (W5 rG) 0]:=by kernel_rfl
noncomputable def aE(w:World)(b:Heap)(t a:Nat):Prop:=∀(room:Int)(sp ho fm:Nat->Int)(ps:Nat->Port)(now:Int)(ex:List n0)(e:Dt)(x:V)(fi:Nat)(Q:K1),(run (CX w b) 20).ev Vc (I1 (.fn 66)) ⟨Wc t (.W0 e) x (.ref fi),O8 t⟩ ⟨wH ⟨t,room,sp,ho,fm⟩ ps .any++j5 now a++ex,[]⟩ Q=
 F0 w b 61 (.fn 63) [.ref 4,.W0 e,.ref fi,iT (sp a*ho a+1),iT now] ⟨wH ⟨t,room,sp,ho,fm⟩ ps .any++j5 now a++ex,[]⟩ Q
theorem Oo:aE w b 3 0:=by unfold aE;intros;kernel_rfl
theorem Po:aE w b 3 1:=by unfold aE;intros;kernel_rfl
theorem Qo:aE w b 3 2:=by unfold aE;intros;kernel_rfl
theorem Ro:aE w b 4 0:=by unfold aE;intros;kernel_rfl
theorem So:aE w b 4 1:=by unfold aE;intros;kernel_rfl
theorem To:aE w b 4 2:=by unfold aE;intros;kernel_rfl
theorem Uo:aE w b 4 3:=by unfold aE;intros;kernel_rfl
theorem Vo:aE w b 5 0:=by unfold aE;intros;kernel_rfl
theorem Wo:aE w b 5 1:=by unfold aE;intros;kernel_rfl
theorem Xo:aE w b 5 2:=by unfold aE;intros;kernel_rfl
theorem Yo:aE w b 5 3:=by unfold aE;intros;kernel_rfl
theorem Zo:aE w b 5 4:=by unfold aE;intros;kernel_rfl
theorem BZ(ht:I0 t)(ha:a<t):aE w b t a:=by
 rcases ht with rfl|rfl|rfl
 .exact p3 ha Oo Po Qo
 .exact p4 ha Ro So To Uo
 .exact p5 ha Vo Wo Xo Yo Zo
end
end
section
variable{w:World}{b:Heap}{n:Nat}{t a j i:Nat}{room:Int}{sp ho fm:Nat->Int}{ps ps' ps0:Nat->Port}{now sc:Int}{src:n0}{R:Rec}{fr:J2}{σ:St}{O3:List (Str×Nat)}{sec:UInt8×UInt8->Int}{τ:Nat->Int}
noncomputable def Sg(t a:Nat)(sc:Int)(ps0:Nat->Port)(X:List n0):Nat->List Nat->Prop
 |_,[]=>True
 |i,j::r=>J0 X i=some (.tup [])/\J0 X (i+1)=some (Eg (16+(a:Int)) (AF (y0 t j)) sc (ps0 j).name (wN t+i))/\J0 X (i+2)=some (.tup [iF ((y0 t j).2:Int),.ref (wN t+i+1)])/\Sg t a sc ps0 X (i+3) r
theorem CZ{dl:List Nat}:∀{i:Nat}{X0:List n0},X0.length=i->Sg t a sc ps0 (X0++cC t a sc ps0 (wN t+i) dl) i dl:=by
 induction dl with
 |nil=>
  intro _ _ _;exact trivial
 |cons j r ih=>
  intro i X0 h;have at_:∀k,J0 (X0++cC t a sc ps0 (wN t+i) (j::r)) (i+k)=J0 (cC t a sc ps0 (wN t+i) (j::r)) k:=λk=>by
   rw[P1 (by lia),h,Nat.add_sub_cancel_left]
  refine⟨at_ 0,at_ 1,at_ 2,?_⟩;have:=ih (i:=i+3) (X0:=X0++[.tup [],Eg (16+(a:Int)) (AF (y0 t j)) sc (ps0 j).name (wN t+i),.tup [iF ((y0 t j).2:Int),.ref (wN t+i+1)]]) (by simp[h]);rw[i7] at this;exact this
theorem lwA(ht:I0 t):(wH ⟨t,room,sp,ho,fm⟩ ps src).length=wN t:=U4 ht
theorem MV(ht:I0 t):J0 (wH ⟨t,room,sp,ho,fm⟩ ps src++X) (wN t+k)=J0 X k:=by
 rw[P1 (by rw[lwA ht];exact jB _ _),lwA ht,Nat.add_sub_cancel_left]
theorem bp(B:k3 w b)(ht:I0 t)(ha:a<t)(hr:room<=3)(hf:∀a,0<=fm a)(VR:∀j,0<=τ j){X:List n0}{ex:List n0}(hX:X=j5 now a++ex){K:KS}{dl:List Nat}:∀{i:Nat}{ps:Nat->Port}{L:List (Str×V)}{tp:List Bool},
 (∀j∈dl,j<5/\sp a*ho a+1=sec (AF (y0 t j))/\okN (sp a*ho a+1) (ps0 j).name)->Sg t a (sp a*ho a+1) ps0 X i dl->Inv room sec τ ps->Kept ps0 ps->Ko t L->
 (∀ps' L' t2,Inv room sec τ ps'->Kept ps0 ps'->K .next ⟨L',O8 t⟩ ⟨wH ⟨t,room,sp,ho,fm⟩ ps' .any++X,t2⟩)->
 U5 (Sem w b 81) (k4 rG) (W5 rG) (I1 (.fn 66)) (aK (dl.map λj=> .W0 (d6 (y0 t j))) (YA (wN t+i) dl)) ⟨L,O8 t⟩ ⟨wH ⟨t,room,sp,ho,fm⟩ ps .any++X,tp⟩ K:=by
 induction dl with
 |nil=>
  intro i ps L tp _ _ hI hK _ q;exact q ps L tp hI hK
 |cons j dl ih=>
  intro i ps L tp hd hF hI hK hL q;refine R2 (hd j M3) λhj FN hok=> ?_;refine kD hF λf1 f2 f3 f4=> ?_;clear hF;show U5 (Sem w b 81) (k4 rG) (W5 rG) (I1 (.fn 66)) (.inr (.W0 (d6 (y0 t j)),.ref (wN t+i+2))::aK (dl.map λj=> .W0 (d6 (y0 t j))) (YA (wN t+(i+3)) dl)) _ _ K;rw[T7];refine Ax (x:=iF ((y0 t j).2:Int)) (f:= .ref (wN t+i+1)) hL (by rw[Nat.add_assoc];exact(MV ht).trans f3) ?_;show R0 w b 81 (W5 rG) _ _ _ _;rw[Mo];refine C4 B ?_;rw[Lo];refine d7 (t:=[]) ((LV B 20).wC.1 ?_);have ez:=BZ (w:=w) (b:=b) ht ha room sp ho fm ps now ex (d6 (y0 t j)) (iF ((y0 t j).2:Int)) (wN t+i+1);rw[i7,<-hX] at ez;rw[ez _];have hnm:(ps j).name=(ps0 j).name:=hK.nm j;have RD:sp a*ho a+1=0\/sp a*ho a+1=sec (oct ((y0 t j).1:Int),oct ((y0 t j).2:Int)):= .inr FN;refine D0 (XF (t:=t) (i:=j) (fm:=fm) (s:=sp a*ho a+1) (now:=now) hI RD hok.1 hf VR) λhI' hK'=> ?_;refine CH (sec:=sec) (mac:=16+(a:Int)) (fi:=wN t+i+1) (ti:=wN t+i) B ht hj hr RD (by rw[hnm];exact hok) (λk hk=>(hI k hk).pi) ?_ ((MV ht).trans f1) (by lia) (by exact jB _ _) λt2=> ?_
  .rw[hnm,Nat.add_assoc];exact(MV ht).trans f2
  .show R0 w b 81 [] _ _ _ _;refine YC ?_;exact ih (λk hk=>hd k (a5 _ hk)) f4 hI' (hK.trans hK') (.inr ⟨_,_,_,rfl⟩) q
theorem Ug(ht:I0 t){dl:List Nat}:D5 ⟨hT t a room sp ho fm ps ps0 now sc dl,tp⟩ (.ref (wN t+4))=some ([],dl.map λj=> .W0 (d6 (y0 t j)))/\D5 ⟨hT t a room sp ho fm ps ps0 now sc dl,tp⟩ (.ref (wN t+5))=some ([],YA (wN t+7) dl):=by
 have e:hT t a room sp ho fm ps ps0 now sc dl=wH ⟨t,room,sp,ho,fm⟩ ps .any++(j5 now a++Lg t a sc ps0 (Q0 t a) dl):=by unfold hT;rw[i7]
 have h4:J0 (hT t a room sp ho fm ps ps0 now sc dl) (wN t+4)=some (.D4 (.lst (dl.map λj=> .W0 (d6 (y0 t j))))):=by rw[e];exact(MV ht).trans rfl
 have h5:J0 (hT t a room sp ho fm ps ps0 now sc dl) (wN t+5)=some (.D4 (.lst (YA (wN t+7) dl))):=by rw[e];exact(MV ht).trans rfl
 constructor
 .exact xH h4
 .exact xH h5
theorem Vg(B:k3 w b)(ht:I0 t)(ha:a<t)(hr:room<=3)(hf:∀a,0<=fm a)(VR:∀j,0<=τ j){dl:List Nat}{tp:List Bool}{K:KS}
 (hd:∀j∈dl,j<5/\sp a*ho a+1=sec (AF (y0 t j))/\okN (sp a*ho a+1) (ps0 j).name) (hI:Inv room sec τ ps) (hK:Kept ps0 ps)
 (q:∀ps' L' t2,Inv room sec τ ps'->Kept ps0 ps'->K .next ⟨L',O8 t⟩ ⟨hT t a room sp ho fm ps' ps0 now (sp a*ho a+1) dl,t2⟩):
 R0 w b 81 [rG] (I1 (.fn 66)) ⟨Bo t,O8 t⟩ ⟨hT t a room sp ho fm ps ps0 now (sp a*ho a+1) dl,tp⟩ K:=by
 refine C4 B (P6 (by kernel_rfl) ?_);rw[Eo];refine nJ (LV B 20) (Eq.mpr zx ?_);refine D0 (Ug (a:=a) (room:=room) (sp:=sp) (ho:=ho) (fm:=fm) (ps:=ps) (ps0:=ps0) (now:=now) (sc:=sp a*ho a+1) (tp:=tp) ht (dl:=dl)) λe4 e5=> ?_;show on (D5 _ (.ref (wN t+4))) 201 _;rw[e4];show on (D5 _ (.ref (wN t+5))) 201 _;rw[e5];show U5 (Sem w b 81) (k4 rG) (W5 rG) (I1 (.fn 66)) (aK (dl.map λj=> .W0 (d6 (y0 t j))) (YA (wN t+7) dl)) _ ⟨hT t a room sp ho fm ps ps0 now (sp a*ho a+1) dl,tp⟩ K;have e:∀ps,hT t a room sp ho fm ps ps0 now (sp a*ho a+1) dl=wH ⟨t,room,sp,ho,fm⟩ ps .any++(j5 now a++Lg t a (sp a*ho a+1) ps0 (Q0 t a) dl):=λps=>by unfold hT;rw[i7]
 rw[e _];refine bp (i:=7) (ps0:=ps0) (sec:=sec) (τ:=τ) B ht ha hr hf VR rfl hd ?_ hI hK (.inl rfl) λps' L' t2 h1 h2=>by rw[<-e];exact q ps' L' t2 h1 h2
 unfold Lg;rw[<-i7];exact CZ (by simp[j5])
theorem rA:j∈Q0 t a↔j<5/\(y0 t j).1=a:=by
 unfold Q0;rw[List.mem_filter,NJ];exact and_congr_right λ_=>⟨λh=>V9 h,λh=>by rw[h];exact Nat.beq_refl a⟩
theorem GN{spv:Int}{l:List Nat}(nd:l.Nodup)(f:Nat->EA)(j:Nat):D7 spv now (l.map λk=>(k,f k)) ps j=if j∈l then VF (f j) spv now (ps j) else ps j:=by
 induction l with
 |nil=>simp[D7]
 |cons k l ih=>
  refine D0 (H7.mp nd) λn1 n2=> ?_;show W2 (D7 spv now (l.map λk=>(k,f k)) ps) k (VF (f k) spv now (ps k)) j=_;by_cases e:j=k
  .subst e;rw[M5,if_pos M3]
  .rw[pA e,ih n2];simp[e]
theorem tR:(Q0 t a).Nodup:=List.Nodup.sublist List.filter_sublist List.nodup_range
noncomputable def Y7(t:Nat)(now:Int)(a j:Nat):Int:=if(y0 t j).1<a then now+1 else now
theorem HL(hs:1<=sp a)(h:Inv room sec (Y7 t now a) ps):Inv room sec (Y7 t now (a+1)) (D7 (sp a) now (QP t a now ps) ps)/\Kept ps (D7 (sp a) now (QP t a now ps) ps):=by
 have at_:=λj=>GN (now:=now) (ps:=ps) (spv:=sp a) (tR (t:=t) (a:=a)) (λj=>eC now (ps j)) j;refine⟨λj hj=> ?_,⟨λj=> ?_,λj=> ?_,λj=> ?_⟩⟩
 .show P5 room sec _ (D7 (sp a) now ((Q0 t a).map λk=>(k,eC now (ps k))) ps j);rw[at_ j];have hi:=h j hj;by_cases hm:j∈Q0 t a
  .rw[if_pos hm];have he:=(rA.mp hm).2;have t1:Y7 t now a j=now:=by unfold Y7;rw[if_neg (by lia)]
   have t2:Y7 t now (a+1) j=now+1:=by unfold Y7;rw[if_pos (by lia)]
   rw[t1] at hi;rw[t2];exact sR hi hs
  .rw[if_neg hm];have he:(y0 t j).1≠a:=λe=>hm (rA.mpr ⟨hj,e⟩);have:Y7 t now (a+1) j=Y7 t now a j:=by
    unfold Y7;by_cases h1:(y0 t j).1<a
    .rw[if_pos h1,if_pos (by exact Nat.lt_succ_of_lt (by assumption))]
    .rw[if_neg h1,if_neg (by lia)]
   rw[this];exact hi
 all_goals
  show _=_;have:=at_ j;unfold QP;rw[this]
  split
  .first|exact ZA.1|exact ZA.2.1|exact ZA.2.2
  .rfl
theorem IL:DD=DD.take 4++[rG]:=by kernel_rfl
theorem Xc(ht:I0 t):Good (wN t+3) (wH ⟨t,room,sp,ho,fm⟩ ps .any++j5 now a):=by
 rcases ht with rfl|rfl|rfl<;>exact good3 (by kernel_rfl)
theorem NV(B:k3 w b)(ht:I0 t)(ha:a<t)(hr:room<=3)(hf:∀a,0<=fm a)(hs:1<=sp a)(Yc:0<=now)(sG:0<=sp a*ho a+1/\sp a*ho a+1<65536)(FN:∀j,j<5->sp (y0 t j).1*ho (y0 t j).1+1=sec (AF (y0 t j))){tp:List Bool}{K:KS}(hI:Inv room sec (Y7 t now a) ps)
 (q:∀ps' t2,Inv room sec (Y7 t now (a+1)) ps'->Kept ps ps'->K .next ⟨[],O8 t⟩ ⟨wH ⟨t,room,sp,ho,fm⟩ ps' .any++j5 now a,t2⟩):
 R0 w b 81 DD (I1 (.fn 66)) ⟨[(mJ,.ref (aI a))],O8 t⟩ ⟨wH ⟨t,room,sp,ho,fm⟩ ps .any++j5 now a,tp⟩ K:=by
 have VR:∀a j,0<=Y7 t now a j:=λa j=>by unfold Y7;split<;>lia
 have G0:=Xc (room:=room) (sp:=sp) (ho:=ho) (fm:=fm) (ps:=ps) (now:=now) (a:=a) ht;rw[IL];refine l8 ?_;refine w3 (R0.up (n:=60) (by decide) (yo (sec:=sec) (t2:=[]) B ht ha (λj hj=> ?_) ?_))
 .refine D0 (rA.mp hj) λh5 he=> ?_;have:=hI j h5;have t1:Y7 t now a j=now:=by unfold Y7;rw[if_neg (by lia)]
  rw[t1] at this;exact⟨this,sG.1,sG.2,this.nm⟩
 .refine D0 (HL hs hI) λh1 h2=> ?_;refine Vg (ps0:=ps) (sec:=sec) (τ:=Y7 t now (a+1)) B ht ha hr hf (VR _) (λj hj=> ?_) h1 h2 λps' L' t2 h3 h4=> ?_
  .refine D0 (List.mem_filter.mp hj) λhm _=> ?_;refine D0 (rA.mp hm) λh5 he=> ?_;have:=FN j h5;rw[he] at this;exact⟨h5,this,sG.1,sG.2,(hI j h5).nm⟩
  .have G:=Xc (room:=room) (sp:=sp) (ho:=ho) (fm:=fm) (ps:=ps') (now:=now) (a:=a) ht;have tk:(hT t a room sp ho fm ps' ps now (sp a*ho a+1) (Pg t a now ps)).take (wN t+3)=wH ⟨t,room,sp,ho,fm⟩ ps' .any++j5 now a:=by
    unfold hT;rw[List.take_append_of_le_length (OH G.ln.symm),G.ln.symm,List.take_length]
   refine⟨.next,⟨[],O8 t⟩,_,[],_,I4 (N:=wN t+3) (H2:=wH ⟨t,room,sp,ho,fm⟩ ps' .any++j5 now a) (by rw[show({heap:=wH ⟨t,room,sp,ho,fm⟩ ps .any++j5 now a,LD:=tp}:St).heap.length=wN t+3 from G0.ln];exact j6 _) (by exact kB _ _) (by rw[tk]) G.ln G.pl G.lt,trivial,⟨(λy v2 e=>by exact A0 e),λy i e=>⟨e,?_⟩⟩,q ps' [] h3 h4⟩;rw[show({heap:=wH ⟨t,room,sp,ho,fm⟩ ps .any++j5 now a,LD:=tp}:St).heap.length=wN t+3 from G0.ln];simp only[O8,d3,oM] at e
   split at e
   .obtain rfl:=si e;exact j6 _
   .split at e
    .obtain rfl:=si e;lia
    .split at e
     .obtain rfl:=si e;lia
     .exact A0 e
end
section
noncomputable def Zc:Stmt:=T1 (A5 (.fn 66)) 0
noncomputable def g9(now:Int)(v:Option V):List n0:=[.cell (some (.ref 4)),.cell (some (iT now)),.cell v]
noncomputable def SP(K:m9->List w5->St->Prop):List V->St->Prop:=λvs P0=>on (one vs) 236 λv=>on (D5 P0 v) 200 λp=>K p.1 (CA 0 p.2) P0
theorem dp:one [a]=some a:=rfl
theorem fC:on (some a) k f=f a:=rfl
theorem Bx(ht:I0 t){k:Int}{r:Nat}{v0:Option V}{tp:List Bool}{K:J2->St->Prop}:n6 R (k4 Zc) (.inr (iF k,.ref r)) (I1 (.fn 66)) ⟨[],O8 t⟩ ⟨wH ⟨t,room,sp,ho,fm⟩ ps .any++g9 now v0,tp⟩ K=K ⟨[(mJ,.ref r)],O8 t⟩ ⟨wH ⟨t,room,sp,ho,fm⟩ ps .any++j5 now k,tp⟩:=by
 rcases ht with rfl|rfl|rfl<;>kernel_rfl
theorem gp{K:m9->List w5->St->Prop}:P4 R (k4 Zc) (y5 Zc) (I1 (.fn 66)) fr σ K=nG R (callArgs (y5 Zc)) (I1 (.fn 66)) fr σ (SP K):=by kernel_rfl
theorem Dx(ht:I0 t):nG (run C 20) (callArgs (y5 Zc)) (I1 (.fn 66)) ⟨[],O8 t⟩ ⟨wH ⟨t,room,sp,ho,fm⟩ ps .any++g9 now none,[]⟩ Q=Q [.ref 5] ⟨wH ⟨t,room,sp,ho,fm⟩ ps .any++g9 now none,[]⟩:=by
 rcases ht with rfl|rfl|rfl<;>kernel_rfl
theorem Ex(ht:I0 t):(match D5 ⟨wH ⟨t,room,sp,ho,fm⟩ ps .any++g9 now none,[]⟩ (.ref 5) with|some (l,xs)=>some (l,CA 0 xs)|none=>none)=some ([],(List.range t).map λ(a:Nat)=>(.inr (iF (a:Int),.ref (aI a)):w5)):=by
 rcases ht with rfl|rfl|rfl<;>kernel_rfl
theorem ip(B:k3 w b)(ht:I0 t)(hr:room<=3)(hf:∀a,0<=fm a)(hs:∀a,a<t->1<=sp a)(Yc:0<=now)(sG:∀a,a<t->0<=sp a*ho a+1/\sp a*ho a+1<65536)(FN:∀j,j<5->sp (y0 t j).1*ho (y0 t j).1+1=sec (AF (y0 t j))){K:KS}{m:Nat}:∀{a:Nat}{ps:Nat->Port}{v0:Option V}{tp:List Bool},a+m=t->Inv room sec (Y7 t now a) ps->
 (∀ps' v1 t2,Inv room sec (Y7 t now t) ps'->Kept ps ps'->K .next ⟨[],O8 t⟩ ⟨wH ⟨t,room,sp,ho,fm⟩ ps' .any++g9 now v1,t2⟩)->
 U5 (Sem w b 81) (k4 Zc) DD (I1 (.fn 66)) ((List.range' a m).map λ(a:Nat)=>(.inr (iF (a:Int),.ref (aI a)):w5)) ⟨[],O8 t⟩ ⟨wH ⟨t,room,sp,ho,fm⟩ ps .any++g9 now v0,tp⟩ K:=by
 induction m with
 |zero=>
  intro a ps v0 tp e hI q;have:a=t:=by assumption
  subst this;exact q ps v0 tp hI (.refl ps)
 |succ m ih=>
  intro a ps v0 tp e hI q;rw[List.range'_succ,R6];rw[T7];rw[Bx ht];have ha:a<t:=by lia
  exact NV (sec:=sec) B ht ha hr hf (hs a ha) Yc (sG a ha) FN hI λps' t2 h1 h2=>ih (a:=a+1) (v0:=some (iF (a:Int))) (by lia) h1 λWg v1 t3 h3 h4=>q Wg v1 t3 h3 (h2.trans h4)
theorem Fx{C:oG}{fr:J2}{σ:St}{K:KS}:(run C 20).ex [T1 (A5 (.fn 66)) 1] (I1 (.fn 66)) fr σ K=K (.ret (.bool false true)) fr σ:=by kernel_rfl
theorem lp:A5 (.fn 66)=[Zc]++[T1 (A5 (.fn 66)) 1]:=by kernel_rfl
theorem qp(ht:I0 t):E8 R (.fn 66) [.ref 4,iT now] ⟨wH ⟨t,room,sp,ho,fm⟩ ps .any,tp⟩ Q=R.ex (A5 (.fn 66)) (I1 (.fn 66)) ⟨[],O8 t⟩ ⟨wH ⟨t,room,sp,ho,fm⟩ ps .any++g9 now none,tp⟩ (WA Q):=by
 rcases ht with rfl|rfl|rfl<;>kernel_rfl
theorem OV(ht:I0 t)(hj:j<5):Y7 t now t j=now+1:=by
 unfold Y7;rw[if_pos (J1 (Q:=λt j=>(y0 t j).1<t) (by decide) (by decide) (by decide) (by decide) (by decide) (by decide) (by decide) (by decide) (by decide) (by decide) (by decide) (by decide) (by decide) (by decide) (by decide) ht hj)]
theorem HN(B:k3 w b)(ht:I0 t)(hr:room<=3)(hf:∀a,0<=fm a)(hs:∀a,a<t->1<=sp a)(Yc:0<=now)(sG:∀a,a<t->0<=sp a*ho a+1/\sp a*ho a+1<65536)(FN:∀j,j<5->sp (y0 t j).1*ho (y0 t j).1+1=sec (AF (y0 t j)))(hI:Inv room sec (λ_=>now) ps)
 (q:∀ps' X t2,Inv room sec (λ_=>now+1) ps'->Kept ps ps'->Q (.bool false true) ⟨wH ⟨t,room,sp,ho,fm⟩ ps' .any++X,t2⟩):
 F0 w b 82 (.fn 66) [.ref 4,iT now] ⟨wH ⟨t,room,sp,ho,fm⟩ ps .any,tp⟩ Q:=by
 refine z6 B ?_;rw[qp ht];show R0 w b 81 _ _ _ _ _;rw[lp];refine w3 (J5 (t:=[]) (C4 B (P6 (by kernel_rfl) ?_)));rw[gp];refine nJ (LV B 20) (Eq.mpr (Dx ht) ?_);have le:=Ex (room:=room) (sp:=sp) (ho:=ho) (fm:=fm) (ps:=ps) (now:=now) ht;have key:∀(l:m9)(xs:List V),D5 ⟨wH ⟨t,room,sp,ho,fm⟩ ps .any++g9 now none,[]⟩ (.ref 5)=some (l,xs)->l=[]/\CA 0 xs=(List.range t).map λ(a:Nat)=>(.inr (iF (a:Int),.ref (aI a)):w5):=λl xs e=>by
  rw[e] at le;simp only[Option.some.injEq,Prod.mk.injEq] at le;exact le
 cases hl:D5 ⟨wH ⟨t,room,sp,ho,fm⟩ ps .any++g9 now none,[]⟩ (.ref 5) with
 |none=>rw[hl] at le;exact A0 le
 |some p=>
  obtain⟨l,xs⟩:=p;refine D0 (key l xs hl) λB0=> ?_;subst B0;intro ex;unfold SP;rw[dp,fC,hl,fC];show U5 (Sem w b 81) (k4 Zc) DD (I1 (.fn 66)) (CA 0 xs) _ _ _;rw[ex];rw[List.range_eq_range'];refine ip (sec:=sec) (m:=t) (a:=0) B ht hr hf hs Yc sG FN (by lia) (λj hj=> ?_) λps' v1 t2 h1 h2=> ?_
  .have:Y7 t now 0 j=now:=by unfold Y7;rw[if_neg (by lia)]
   rw[this];exact hI j hj
  .show R0 w b 81 _ _ _ _ _;refine J5 (t:=[]) ((LV B 20).wC.2.1 ?_);rw[Fx];exact q ps' _ [] (λj hj=>by have:=h1 j hj;rw[OV ht hj] at this;exact this) h2
noncomputable def noRef:V->Prop
 | .ref _=>False
 |_=>True
theorem ZC(ht:I0 t)(hf:∀i,f≠.ref i)(ha:∀v∈args,v.lt (wN t))
 (x:F0 w b n f args ⟨wH ⟨t,room,sp,ho,fm⟩ ps .any,t0⟩ λv F1=>noRef v/\∃ps' X t2,F1.heap=wH ⟨t,room,sp,ho,fm⟩ ps' .any++X/\Q v ⟨wH ⟨t,room,sp,ho,fm⟩ ps' src++ex,t2⟩):
 F0 w b n f args ⟨wH ⟨t,room,sp,ho,fm⟩ ps src++ex,tp⟩ Q:=by
 have lw:∀{ps:Nat->Port}{src:n0},(wH ⟨t,room,sp,ho,fm⟩ ps src).length=wN t:=U4 ht;have n3:∀{ps:Nat->Port}{o:n0},J0 (wH ⟨t,room,sp,ho,fm⟩ ps .any) 3=some o->o= .any:=λ{ps o} e=>by
  have:J0 (wH ⟨t,room,sp,ho,fm⟩ ps .any) 3=some .any:=rfl;rw[this] at e;obtain rfl:=si e;rfl
 have V1:a9 (wH ⟨t,room,sp,ho,fm⟩ ps src++ex) (wH ⟨t,room,sp,ho,fm⟩ ps .any) id:=by
  refine⟨rfl,rfl,rfl,rfl,λ_ _ _ _ e=>e,λi hi=> ?_,λi o e so=> ?_,λi o e so=> ?_⟩
  .rw[lw] at hi;rw[o8,lw];show i<_;exact MH (by assumption) (jB _ _)
  .have hl:=Y1 e;rw[lw] at hl;have l2:=bC ht o (C7 e);induction o using n0.casesOn<;>first|(cases so;done)|exact .inl rfl|exact .inr (.inl rfl)|exact l2.elim|skip
   exact .inr (.inr ⟨⟨_,rfl⟩,by rw[n0.R4 _];show J0 _ i=_;rw[Z0 (by rw[lw];exact hl),R9 (λq=>by subst q;exact MR (congrArg fe (n3 e)))];exact e,by rw[lw];exact l2⟩)
  .have hl:=Y1 e;rw[lw] at hl;have l2:=bC ht o (C7 e);exact⟨by rw[n0.R4 _];show J0 _ i=_;rw[Z0 (by rw[lw];exact hl),R9 (λq=>by subst q;rw[n3 e] at so;exact G2 so)];exact e,by rw[lw];exact l2⟩
 refine OB (as:=args) (t:=t0) hf V1 (by rw[Q7 _]) (by rw[lw];exact ha) (I5 x λv F1 h=>D0 h λhv h=>V3 h λps' X t2 hH q=> ?_);refine⟨by induction v using V.casesOn<;>first|trivial|exact hv.elim,wH ⟨t,room,sp,ho,fm⟩ ps' src++ex,t2,⟨by rw[o8,o8,lw,lw],λi hi=> ?_,λi hi dj=> ?_⟩,by rw[V.R4 _];exact q⟩
 .refine u0 (gA hi) λo e so=> ?_;have hl:=Y1 e;rw[lw] at hl;refine u0 (QF (FL (ps':=ps') ht) e) λo' e3 ix=> ?_;have h3:i≠3:=λq=>by subst q;rw[n3 e] at so;exact G2 so
  exact⟨o',by rw[hH,Z0 (by rw[lw];exact hl)];exact e3,ix.trans so,by rw[lw];exact bC ht o' (C7 e3),by rw[n0.R4 _];show J0 _ i=_;rw[Z0 (by rw[lw];exact hl),R9 h3];exact e3⟩
 .by_cases h:i<wN t
  .rw[Z0 (by rw[lw];exact h),Z0 (by rw[lw];exact h)];by_cases h3:i=3
   .subst h3;rfl
   .rw[R9 h3,R9 h3];refine O0 (l7 (l:=wH ⟨t,room,sp,ho,fm⟩ ps .any) (i:=i) (by rw[lw];exact h)) λo e=> ?_;induction so:C3 o using Q2 with
    |true=>exact absurd rfl (dj i (by unfold G4;rw[e];exact so))
    |false=>
     match i,h3,e with
     |0,_,_=>rfl
     |1,_,_=>rfl
     |2,_,_=>rfl
     |3,h3,_=>exact absurd rfl h3
     |4,_,e=>obtain rfl:=si e;exact vG so
     |5,_,_=>rfl
     |6,_,_=>rfl
     |i+7,_,e=>
      have:=xC.mp (OF (room:=room) (sp:=sp) (ho:=ho) (fm:=fm) (ps:=ps) ht) o (C7 (show J0 ((BF (Wp.par ⟨t,room,sp,ho,fm⟩) ((List.range 5).map ps)).drop 3) i=some o from e));rw[this] at so;exact vG so
  .rw[P1 (by rw[lw];exact gB.mp (by assumption)),P1 (by rw[lw];exact gB.mp (by assumption)),lw,lw]
end
noncomputable def Gx:Stmt->Expr
 | .Return (some e) _=>e
 |_=> .Constant .none 0 default
noncomputable def oJ:Expr->Expr
 | .ListComp e _ _ _=>e
 |e=>e
noncomputable def DZ:Expr->List Comprehension
 | .ListComp _ g _ _=>g
 |_=>[]
noncomputable def jd:Expr->Scope
 | .ListComp _ _ s _=>s
 |_=>⟨.function,[],false,false,[]⟩
noncomputable def gu:List Comprehension->Expr
 |[⟨t,_,_,_⟩]=>t
 |_=> .Constant .none 0 default
noncomputable def iu:List Comprehension->Expr
 |[⟨_,i,_,_⟩]=>i
 |_=> .Constant .none 0 default
noncomputable def gC1:List Comprehension->Expr
 |[⟨_,_,[c],_⟩]=>c
 |_=> .Constant .none 0 default
noncomputable def QG:V:= .mt 53 12
noncomputable def JN:Expr:=Gx (T1 (A5 QG) 1)
noncomputable def QV:Expr:=oJ JN
noncomputable def KN:Expr:=gu (DZ JN)
noncomputable def ju:Expr:=iu (DZ JN)
noncomputable def jM:Str:=⟨#[110,101,105,103,104,98,111,117,114,115]⟩
noncomputable def gC:Str:=⟨#[110,97,109,101]⟩
noncomputable def Xg:Scope:={jd JN with names:=QD (I1 QG) (jd JN).names}
noncomputable def lN(a p:Nat):List (Str×V):=[(⟨#[115,101,108,102]⟩,.ref (aI a)),(⟨#[112,111,114,116]⟩,iF (p:Int))]
noncomputable def EZ(es:List Ent)(k:UInt8×UInt8):V:= .W0 (T6 (W4 k es).k (W4 k es).s (W4 k es).n)
section
theorem rp:Uk R JN (I1 QG) ⟨L,[(jM,m)]⟩ σ Q=P4 R KN ju (I1 QG) ⟨L,[(jM,m)]⟩ σ (λl its P0=>gd (Nat.ble its.length 1000) (F4 R QV KN [] Xg its ⟨[],[(jM,m)]⟩ (E4 l P0) [] (λvs v5=>Q (.ref v5.new) (v5.push (.lst vs))))):=by kernel_rfl
theorem vp{K:m9->List w5->St->Prop}:P4 R KN ju (I1 QG) fr σ K=R.ev ju (I1 QG) fr σ (pG K):=by kernel_rfl
theorem xp{v:V}{K:J2->St->Prop}:n6 R KN (.inl v) Xg ⟨[],O3⟩ σ K=K ⟨[(gC,v)],O3⟩ σ:=by kernel_rfl
theorem yp{v v0:V}{K:J2->St->Prop}:n6 R KN (.inl v) Xg ⟨[(gC,v0)],O3⟩ σ K=K ⟨[(gC,v)],O3⟩ σ:=by kernel_rfl
noncomputable def hN(t j:Nat)(room:Int)(sp ho fm:Nat->Int)(ps:Nat->Port):List n0:=wH ⟨t,room,sp,ho,fm⟩ ps .any++[.cell (some (.ref (pI t j+1)))]
noncomputable def Hx(t j:Nat):Prop:=∀(room:Int)(sp ho fm:Nat->Int)(ps:Nat->Port)(P:VK),(run (C0 (0,0) 0 []) 20).ex [T1 (A5 QG) 0] (I1 QG) ⟨lN (y0 t j).1 (y0 t j).2,[(jM,wN t)]⟩ ⟨wH ⟨t,room,sp,ho,fm⟩ ps .any++[.cell none],[]⟩ (vK [] (wN t+1) P)=P .next [] [(jM,wN t)] (E3 (hN t j room sp ho fm ps))
noncomputable def Yg(t j:Nat):Prop:=∀(room:Int)(sp ho fm:Nat->Int)(ps:Nat->Port)(Q:K1),(run (C0 (0,0) 0 []) 20).ev ju (I1 QG) ⟨[],[(jM,wN t)]⟩ ⟨hN t j room sp ho fm ps,[]⟩ Q=((ps j).es.length<=3/\Q (.ref (wN t+1)) ⟨hN t j room sp ho fm ps++[.lst ((T2 (ps j).es).map λe=> .W0 (Q1 true e.k))],[]⟩)
noncomputable def Jx(t j:Nat):Prop:=∀(room:Int)(sp ho fm:Nat->Int)(ps:Nat->Port)(ex:List n0)(k:UInt8×UInt8)(Q:K1),(run (C0 (0,0) 0 []) 20).ev QV Xg ⟨[(gC,.W0 (Q1 true k))],[(jM,wN t)]⟩ ⟨hN t j room sp ho fm ps++ex,[]⟩ Q=(True/\(C5 (k.1,k.2) (ps j).es).isSome=true/\Q (EZ (ps j).es (k.1,k.2)) ⟨hN t j room sp ho fm ps++ex,[]⟩)
theorem zp(ht:I0 t)(hj:j<5):Hx t j:=by
 refine J1 ?_ ?_ ?_ ?_ ?_ ?_ ?_ ?_ ?_ ?_ ?_ ?_ ?_ ?_ ?_ ht hj<;>(unfold Hx;intros;kernel_rfl)
theorem FZ(ht:I0 t)(hj:j<5):Hx t j:=zp ht hj
theorem Zg(ht:I0 t)(hj:j<5):Yg t j:=by
 refine J1 ?_ ?_ ?_ ?_ ?_ ?_ ?_ ?_ ?_ ?_ ?_ ?_ ?_ ?_ ?_ ht hj<;>(unfold Yg;intros;kernel_rfl)
theorem RV(ht:I0 t)(hj:j<5):Yg t j:=Zg ht hj
theorem Ap(ht:I0 t)(hj:j<5):Jx t j:=by
 refine J1 ?_ ?_ ?_ ?_ ?_ ?_ ?_ ?_ ?_ ?_ ?_ ?_ ?_ ?_ ?_ ht hj<;>(unfold Jx;intros;kernel_rfl)
theorem GZ(ht:I0 t)(hj:j<5):Jx t j:=Ap ht hj
theorem iC:∀{es:List Ent}{e:Ent},e∈T2 es↔e∈es:=by
 have ins:∀{x e:Ent}{l:List Ent},e∈OD x l↔e=x\/e∈l:=by
  intro x e l;induction l with
  |nil=>simp[YH,LA]
  |cons y l ih=>
   rw[LA];induction lX x.k y.k using Q2 with
   |true=>simp
   |false=>simp only[cond_false,M4,ih];exact or_left_comm
 intro es e;induction es with
 |nil=>simp[ZH,BC]
 |cons x es ih=>rw[BC];rw[ins,ih,M4]
theorem SV:(OD x l).length=l.length+1:=by
 induction l with
 |nil=>rfl
 |cons y l ih=>
  rw[LA];induction lX x.k y.k using Q2 with
  |true=>rfl
  |false=>simp only[cond_false,List.length_cons,ih]
theorem P8:(T2 es).length=es.length:=by
 induction es with
 |nil=>rfl
 |cons x es ih=>rw[BC];rw[SV,ih];rfl
theorem YF(nd:(keysOf es).Nodup)(h:e∈es):C5 e.k es=some e:=by
 induction es with
 |nil=>cases h
 |cons x es ih=>
  refine D0 (H7.mp (show(x.k::keysOf es).Nodup from nd)) λn1 n2=> ?_;rw[D8];rcases M4.mp h with rfl|h
  .rw[f9.mpr rfl];rfl
  .have:U8 e.k x=false:=by
    induction c:U8 e.k x using Q2 with
    |false=>rfl
    |true=>exact absurd (d5 (f:=(·.k)) h) (by rw[(f9.mp c).symm];exact n1)
   rw[this];exact ih n2 h
theorem TP(nd:(keysOf es).Nodup)(h:e∈es):W4 e.k es=e:=by unfold W4;rw[YF nd h];rfl
noncomputable def Q8(e:Ent):Dt:=T6 e.k e.s e.n
theorem Bp(B:k3 w b)(ht:I0 t)(hj:j<5)(nd:(keysOf (ps j).es).Nodup){ex:List n0}{Q:List V->St->Prop}{l:List Ent}:∀{L:List (Str×V)}{acc:List V}{tp:List Bool},(∀e∈l,e∈(ps j).es)->(L=[]\/∃v,L=[(gC,v)])->
 (∀t2,Q (acc++l.map λe=> .W0 (Q8 e)) ⟨hN t j room sp ho fm ps++ex,t2⟩)->
 F4 (Sem w b 60) QV KN [] Xg (l.map λe=> .inl (.W0 (Q1 true e.k))) ⟨L,[(jM,wN t)]⟩ ⟨hN t j room sp ho fm ps++ex,tp⟩ acc Q:=by
 induction l with
 |nil=>
  intro L acc tp _ _ q;have:=q tp;rw[List.map_nil,VG] at this;exact this
 |cons e l ih=>
  intro L acc tp hl hL q;have he:=hl e M3;rw[R6];rw[VI];have go:(Sem w b 60).ev QV Xg ⟨[(gC,.W0 (Q1 true e.k))],[(jM,wN t)]⟩ ⟨hN t j room sp ho fm ps++ex,tp⟩ (λv M1=>F4 (Sem w b 60) QV KN [] Xg (l.map λe=> .inl (.W0 (Q1 true e.k))) ⟨[(gC,.W0 (Q1 true e.k))],[(jM,wN t)]⟩ M1 (acc++[v]) Q):=by
   refine D3 (r:=20) (k:=(0,0)) (s:=0) (m:=[]) B (t:=[]) (Eq.mpr (GZ ht hj room sp ho fm ps ex e.k _) ⟨trivial,?_,?_⟩)
   .show(C5 e.k _).isSome=true;rw[YF nd he];rfl
   .show F4 _ _ _ _ _ _ _ _ (acc++[EZ (ps j).es e.k]) Q;have:EZ (ps j).es e.k= .W0 (Q8 e):=by unfold EZ Q8;rw[TP nd he]
    rw[this];refine ih (λx hx=>hl x (a5 _ hx)) (.inr ⟨_,rfl⟩) λt2=> ?_;have:=q t2;rw[R6] at this;rw[i7];exact this
  rcases hL with rfl|⟨v,rfl⟩
  .rw[xp];exact go
  .rw[yp];exact go
end
section
variable{w:World}{b:Heap}{n:Nat}{t a j i p:Nat}{room:Int}{sp ho fm:Nat->Int}{ps ps' ps0:Nat->Port}{now sc:Int}{src:n0}{R:Rec}{fr:J2}{σ:St}{O3:List (Str×Nat)}{sec:UInt8×UInt8->Int}{τ:Nat->Int}
theorem tE:J0 (l++[x]) l.length=some x:=by rw[P1 (j6 _),Nat.sub_self _];rfl
theorem pJ:upd (l++[x]) l.length y=l++[y]:=by rw[K3,List.set_append_right _ _ (j6 _),Nat.sub_self _];rfl
theorem F5(hm:H.length=m):L7 ⟨H++[.lst xs],tp⟩ (.ref m)=some ([(m,.lst xs)],xs.map .inl):=by
 have h:J0 (H++[.lst xs]) m=some (.lst xs):=by rw[hm.symm];exact tE
 exact xN h
theorem A6(hm:H.length=m):E4 [(m,.lst xs)] ⟨H++[.lst xs],tp⟩=⟨H++[.D4 (.lst xs)],tp⟩:=by
 show(⟨upd (H++[.lst xs]) m (.D4 (.lst xs)),tp⟩:St)=_;rw[hm.symm,pJ]
theorem JL{k:Nat}{H:List n0}{α:Type}{f:α->Dt}{l:List α}:ND (N4 (k+1)) (l.map λe=> .W0 (f e)) H=some (l.map f,H):=by
 induction l with
 |nil=>rfl
 |cons e l ih=>
  show(ND (N4 (k+1)) (l.map λe=> .W0 (f e)) H).map (λc=>(f e::c.1,c.2))=_;rw[ih];rfl
theorem LL(h:J0 H m=some (.lst xs)):N4 (n+1) (.ref m) H=(ND (N4 n) xs (upd H m .any)).map λr=>(.lst r.1,r.2):=by
 show(J0 H m).bind _=_;rw[h];rfl
theorem TV(h:J0 H m=some (.tup xs)):N4 (n+1) (.ref m) H=(ND (N4 n) xs (upd H m .any)).map λr=>(.tup r.1,r.2):=by
 show(J0 H m).bind _=_;rw[h];rfl
theorem VV{H:List n0}{α:Type}{f:α->Dt}{l:List α}{m:Nat}(hm:H.length=m):N4 6 (.ref m) (H++[.lst (l.map λe=> .W0 (f e))])=some (.lst (l.map f),H++[.any]):=by
 subst hm;rw[LL tE,pJ,JL];rfl
theorem WV(ht:I0 t):(hN t j room sp ho fm ps).length=wN t+1:=by unfold hN;rw[o8,U4 ht];rfl
theorem Cp(ht:I0 t)(hj:j<5):Good (wN t+1) (hN t j room sp ho fm ps):=J1 (Q:=λt j=>Good (wN t+1) (hN t j room sp ho fm ps)) (good3 (by kernel_rfl)) (good3 (by kernel_rfl)) (good3 (by kernel_rfl)) (good3 (by kernel_rfl)) (good3 (by kernel_rfl)) (good3 (by kernel_rfl)) (good3 (by kernel_rfl)) (good3 (by kernel_rfl)) (good3 (by kernel_rfl)) (good3 (by kernel_rfl)) (good3 (by kernel_rfl)) (good3 (by kernel_rfl)) (good3 (by kernel_rfl)) (good3 (by kernel_rfl)) (good3 (by kernel_rfl)) ht hj
theorem Dp(ht:I0 t){tp:List Bool}{Q:K1}:E8 R QG [.ref (aI a),iF (p:Int)] ⟨wH ⟨t,room,sp,ho,fm⟩ ps .any,tp⟩ Q=R.ex (A5 QG) (I1 QG) ⟨lN a p,[(jM,wN t)]⟩ ⟨wH ⟨t,room,sp,ho,fm⟩ ps .any++[.cell none],tp⟩ (WA Q):=by
 rcases ht with rfl|rfl|rfl<;>kernel_rfl
theorem Kx:A5 QG=[T1 (A5 QG) 0]++[T1 (A5 QG) 1]:=by kernel_rfl
theorem Lx{K:KS}:JJ R (T1 (A5 QG) 1) (I1 QG) fr σ K=R.ev JN (I1 QG) fr σ (λv P0=>K (.ret v) fr P0):=by kernel_rfl
theorem uR(B:k3 w b)(ht:I0 t)(hj:j<5)(nd:(keysOf (ps j).es).Nodup)(hl:(ps j).es.length<=3){tp:List Bool}{Q:K1}(q:∀X t2,Q (.W0 (.lst ((T2 (ps j).es).map Q8))) ⟨wH ⟨t,room,sp,ho,fm⟩ ps .any++X,t2⟩):
 F0 w b 61 QG [.ref (aI (y0 t j).1),iF ((y0 t j).2:Int)] ⟨wH ⟨t,room,sp,ho,fm⟩ ps .any,tp⟩ Q:=by
 refine zF (z6 B ?_);rw[Dp ht];show R0 w b 60 _ _ _ _ _;rw[Kx];refine w3 ?_;refine e9 (r:=20) (N:=wN t+1) (g2:= .next) (names:=[]) (t2:=[]) (L2:=[]) (H2:=hN t j room sp ho fm ps) B (Eq.mpr (FZ ht hj room sp ho fm ps _) ⟨rfl,rfl,rfl,rfl⟩) (by rw[o8,U4 ht];exact j6 _) (Cp ht hj) (λp hp=>by cases hp) trivial (λp hp=> ?_) (by unfold wN;lia) ?_
 .rw[l9.mp hp,o8,U4 ht];show wN t<wN t+1;exact j6 _
 .refine C4 B ?_;rw[Lx];refine qV B ?_;rw[rp,vp];refine D3 (r:=20) (k:=(0,0)) (s:=0) (m:=[]) B (t:=[]) (Eq.mpr (RV ht hj room sp ho fm ps _) ⟨hl,?_⟩);unfold pG;rw[F5 (WV ht)];show gd _ _;rw[A6 (WV ht),yC];have hb:Nat.ble ((T2 (ps j).es).map ((λv=>(.inl v:w5))∘λe=> .W0 (Q1 true e.k))).length 1000=true:=by
   rw[KD _,P8];exact Nat.ble_eq_true_of_le (by exact V7 (by assumption) (kB _ _))
  rw[hb];refine Bp B ht hj nd (λe he=>iC.mp he) (.inl rfl) λt2=> ?_;show∃d H2 t',_;have e0:([]:List V)++(T2 (ps j).es).map (λe=>V.W0 (Q8 e))=(T2 (ps j).es).map λe=>V.W0 (Q8 e):=rfl;rw[e0];refine⟨_,_,[],VV rfl,?_⟩;have:=q ([.cell (some (.ref (pI t j+1)))]++[.D4 (.lst ((T2 (ps j).es).map λe=> .W0 (Q1 true e.k)))]++[.any]) [];simp only[<-i7] at this;exact this
theorem HZ(B:k3 w b)(ht:I0 t)(hj:j<5)(nd:(keysOf (ps j).es).Nodup)(hl:(ps j).es.length<=3)(q:Q (.W0 (.lst ((T2 (ps j).es).map Q8))) ⟨wH ⟨t,room,sp,ho,fm⟩ ps src++ex,t2⟩):
 F0 w b 61 QG [.ref (aI (y0 t j).1),iF ((y0 t j).2:Int)] ⟨wH ⟨t,room,sp,ho,fm⟩ ps src++ex,tp⟩ Q:=by
 refine ZC (t0:=tp) ht (λi h=>A0 (congrArg rV h)) (λv hv=> ?_) (uR B ht hj nd hl λX t3=>⟨trivial,ps,X,t2,rfl,q⟩);simp only[M4,v8,or_false] at hv;rcases hv with rfl|rfl
 .have:(y0 t j).1<t:=J1 (Q:=λt j=>(y0 t j).1<t) (by decide) (by decide) (by decide) (by decide) (by decide) (by decide) (by decide) (by decide) (by decide) (by decide) (by decide) (by decide) (by decide) (by decide) (by decide) ht hj;show aI (y0 t j).1<wN t;unfold aI wN;lia
 .trivial
end
noncomputable def ah:Stmt->Expr
 | .Assign _ e _=>e
 |_=> .Constant .none 0 default
noncomputable def a0a:Stmt->Expr
 | .Assign [t] _ _=>t
 |_=> .Constant .none 0 default
noncomputable def stK:Stmt:=T1 (A5 (.fn 67)) 0
noncomputable def y7:List Stmt:=W5 stK
noncomputable def ML:Expr:=ah (T1 y7 1)
noncomputable def YV:Expr:=oJ ML
noncomputable def LN:Expr:=gu (DZ ML)
noncomputable def IZ:Expr:=iu (DZ ML)
noncomputable def bh:Scope:={jd ML with names:=QD (I1 (.fn 67)) (jd ML).names}
noncomputable def v7:Str:=⟨#[107,110,111,119,110]⟩
noncomputable def u6:Str:=⟨#[119,111,114,108,100]⟩
noncomputable def m7:Str:=⟨#[111,110,101]⟩
noncomputable def h9(t:Nat):List (Str×Nat):=[(v7,wN t+1),(u6,wN t)]
noncomputable def XR(t:Nat)(room:Int)(sp ho fm:Nat->Int)(ps:Nat->Port)(v:Option V):List n0:=wH ⟨t,room,sp,ho,fm⟩ ps .any++[.cell (some (.ref 4)),.cell v]
noncomputable def hK(t j:Nat)(room:Int)(sp ho fm:Nat->Int)(ps:Nat->Port):List n0:=wH ⟨t,room,sp,ho,fm⟩ ps .any++[.cell (some (.ref 4)),.cell (some (.ref (pI t j+3)))]
noncomputable def ZF:Expr->Expr
 | .Compare l _ _ _=>l
 |e=>e
noncomputable def aG:Expr->Expr
 | .Compare _ _ [r] _=>r
 |e=>e
noncomputable def kd:Expr:=ZF (KV (T1 y7 2))
noncomputable def nmK:Expr:=aG (KV (T1 y7 2))
noncomputable def JZ(t:Nat)(sp ho:Nat->Int)(k:UInt8×UInt8)(n:List UInt8):Dt:= .lst [.tup [.str "chassis",.int false 7,.bytes true [oct (k.1.toNat:Int)]],.tup [.str "port",.int false 7,.bytes true [oct (k.2.toNat:Int)]],.tup [.str "time",.int true (((List.range t).map λi=>sp i*ho i+1).getD (k.1.toNat:Int).toNat 0)],.tup [.str "name",.bytes true n]]
noncomputable def Ep(N:Nat)(v:V)(σ:St):Option (Dt×List n0):=(rV v).bind λi=>(N4 6 (.ref i) σ.heap).map λp=>(p.1,E3 (p.2.take N))
section
variable{w:World}{b:Heap}{n:Nat}{t a j i p:Nat}{room:Int}{sp ho fm:Nat->Int}{ps ps' ps0:Nat->Port}{now sc:Int}{src:n0}{R:Rec}{fr:J2}{σ:St}{O3:List (Str×Nat)}{sec:UInt8×UInt8->Int}{τ:Nat->Int}
noncomputable def Mx(t j:Nat):Prop:=∀(room:Int)(sp ho fm:Nat->Int)(ps:Nat->Port)(v0:Option V)(P:VK),(run (C0 (0,0) 0 []) 20).ex [T1 y7 0] (I1 (.fn 67)) ⟨[(Y5,.W0 (d6 (y0 t j)))],h9 t⟩ ⟨XR t room sp ho fm ps v0,[]⟩ (vK [Y5] (wN t+2) P)=P .next (O9 [(Y5,.W0 (d6 (y0 t j)))]) (h9 t) (E3 (hK t j room sp ho fm ps))
noncomputable def dh(t j:Nat):Prop:=∀(room:Int)(sp ho fm:Nat->Int)(ps:Nat->Port)(v:V)(Q:K1),(run (C0 (0,0) 0 []) 20).ev IZ (I1 (.fn 67)) ⟨[(Y5,v)],h9 t⟩ ⟨hK t j room sp ho fm ps,[]⟩ Q=((ps j).kn.length<=3/\Q (.ref (wN t+2)) ⟨hK t j room sp ho fm ps++[.lst ((T2 (ps j).kn).map λe=> .W0 (Q1 false e.k))],[]⟩)
noncomputable def Nx(t j:Nat):Prop:=∀(room:Int)(sp ho fm:Nat->Int)(ps:Nat->Port)(o:n0)(k:UInt8×UInt8)(P:Option (Dt×List n0)->Prop),(run (C0 (0,0) 0 []) 20).ev YV bh ⟨[(m7,.W0 (Q1 false k))],h9 t⟩ ⟨hK t j room sp ho fm ps++[o],[]⟩ (λv σ=>P (Ep (wN t+3) v σ))=
 ((0<=(k.1.toNat:Int)/\(k.1.toNat:Int)<(t:Int))/\(0<=(k.1.toNat:Int)/\(k.1.toNat:Int)<256/\0<=(k.2.toNat:Int)/\(k.2.toNat:Int)<256)/\(C5 (oct (k.1.toNat:Int),oct (k.2.toNat:Int)) (ps j).kn).isSome=true/\(R3 [(k.1.toNat:Int)]=true/\1<=100000)/\(R3 [(k.2.toNat:Int)]=true/\1<=100000)/\
  P (some (JZ t sp ho k (W4 (oct (k.1.toNat:Int),oct (k.2.toNat:Int)) (ps j).kn).n,E3 (hK t j room sp ho fm ps++[o]))))
noncomputable def CY(w:World)(b:Heap):oG:=λf args σ Q=>sX (isM 53 12 f) (some (F0 w b 61 f args σ Q)) (C0 (0,0) 0 [] f args σ Q)
theorem Fp(B:k3 w b):∀n,61<=n->s9 w b n (CY w b):=λn hn=>dJ hn (GF B _ _ _ n (V7 (by decide) hn))
theorem KZ(B:k3 w b)(r:Nat):M6 w b (61+r) (run (CY w b) r):=K9 B 61 (λn h=>Fp B n h) r
noncomputable def Ox(w:World)(b:Heap)(t j:Nat):Prop:=∀(room:Int)(sp ho fm:Nat->Int)(ps:Nat->Port)(ex:List n0)(v:V)(Q:K1),(run (CY w b) 20).ev kd (I1 (.fn 67)) ⟨[(Y5,.W0 (d6 (y0 t j))),(S9,v)],h9 t⟩ ⟨hK t j room sp ho fm ps++ex,[]⟩ Q=F0 w b 61 QG [.ref (aI (y0 t j).1),iF ((y0 t j).2:Int)] ⟨hK t j room sp ho fm ps++ex,[]⟩ Q
theorem Gp(ht:I0 t)(hj:j<5):Mx t j:=by
 refine J1 ?_ ?_ ?_ ?_ ?_ ?_ ?_ ?_ ?_ ?_ ?_ ?_ ?_ ?_ ?_ ht hj<;>(unfold Mx;intros;kernel_rfl)
theorem LZ(ht:I0 t)(hj:j<5):Mx t j:=Gp ht hj
theorem fh(ht:I0 t)(hj:j<5):dh t j:=by
 refine J1 ?_ ?_ ?_ ?_ ?_ ?_ ?_ ?_ ?_ ?_ ?_ ?_ ?_ ?_ ?_ ht hj<;>(unfold dh;intros;kernel_rfl)
theorem ZV(ht:I0 t)(hj:j<5):dh t j:=fh ht hj
theorem Hp(ht:I0 t)(hj:j<5):Nx t j:=by
 refine J1 ?_ ?_ ?_ ?_ ?_ ?_ ?_ ?_ ?_ ?_ ?_ ?_ ?_ ?_ ?_ ht hj<;>(unfold Nx;intros;kernel_rfl)
theorem MZ(ht:I0 t)(hj:j<5):Nx t j:=Hp ht hj
theorem Ip(ht:I0 t)(hj:j<5):Ox w b t j:=by
 refine J1 ?_ ?_ ?_ ?_ ?_ ?_ ?_ ?_ ?_ ?_ ?_ ?_ ?_ ?_ ?_ ht hj<;>(unfold Ox;intros;kernel_rfl)
theorem NZ(ht:I0 t)(hj:j<5):Ox w b t j:=Ip ht hj
theorem td(ht:I0 t)(hj:j<5):Good (wN t+2) (hK t j room sp ho fm ps):=J1 (Q:=λt j=>Good (wN t+2) (hK t j room sp ho fm ps)) (good3 (by kernel_rfl)) (good3 (by kernel_rfl)) (good3 (by kernel_rfl)) (good3 (by kernel_rfl)) (good3 (by kernel_rfl)) (good3 (by kernel_rfl)) (good3 (by kernel_rfl)) (good3 (by kernel_rfl)) (good3 (by kernel_rfl)) (good3 (by kernel_rfl)) (good3 (by kernel_rfl)) (good3 (by kernel_rfl)) (good3 (by kernel_rfl)) (good3 (by kernel_rfl)) (good3 (by kernel_rfl)) ht hj
theorem jh(ht:I0 t)(hj:j<5)(fE:o.lt (wN t+3)):Good (wN t+3) (hK t j room sp ho fm ps++[o]):=by
 have G:=td (room:=room) (sp:=sp) (ho:=ho) (fm:=fm) (ps:=ps) ht hj;refine⟨by rw[o8,G.ln];rfl,by rw[Z0 (by rw[G.ln];exact kB _ _)];exact G.pl,λx hx=> ?_⟩;rcases R5.mp hx with hx|hx
 .exact n0.O5 (G.lt x hx) (by lia)
 .rw[l9.mp hx];exact fE
theorem Jp{v:V}{m1 m2:Nat}{K:KS}:JJ R (T1 y7 1) (I1 (.fn 67)) ⟨[(Y5,v)],[(v7,m1),(u6,m2)]⟩ σ K=P4 R LN IZ (I1 (.fn 67)) ⟨[(Y5,v)],[(v7,m1),(u6,m2)]⟩ σ (λl its P0=>gd (Nat.ble its.length 1000) (F4 R YV LN [] bh its ⟨[],[(v7,m1),(u6,m2)]⟩ (E4 l P0) [] (λvs v5=>K .next ⟨[(Y5,v),(S9,.ref v5.new)],[(v7,m1),(u6,m2)]⟩ (v5.push (.lst vs))))):=by kernel_rfl
theorem Kp{K:m9->List w5->St->Prop}:P4 R LN IZ (I1 (.fn 67)) fr σ K=R.ev IZ (I1 (.fn 67)) fr σ (pG K):=by kernel_rfl
theorem Lp{v:V}{K:J2->St->Prop}:n6 R LN (.inl v) bh ⟨[],O3⟩ σ K=K ⟨[(m7,v)],O3⟩ σ:=by kernel_rfl
theorem Mp{v v0:V}{K:J2->St->Prop}:n6 R LN (.inl v) bh ⟨[(m7,v0)],O3⟩ σ K=K ⟨[(m7,v)],O3⟩ σ:=by kernel_rfl
noncomputable def aB(t:Nat)(sp ho:Nat->Int)(k:UInt8×UInt8):Int:=if k.1.toNat<t then sp k.1.toNat*ho k.1.toNat+1 else-1
theorem vR(hP:PI room (aB t sp ho) (ps j)){e:Ent}(he:e∈(ps j).es):e.k.1.toNat<t/\(JZ t sp ho e.k (W4 (oct (e.k.1.toNat:Int),oct (e.k.2.toNat:Int)) (ps j).kn).n).D1=(Q8 e).D1/\(C5 (oct (e.k.1.toNat:Int),oct (e.k.2.toNat:Int)) (ps j).kn).isSome=true:=by
 have h1:e.s=aB t sp ho e.k:=hP.sec e he;have h2:=hP.ge e he;have hk:e.k.1.toNat<t:=by
  unfold aB at h1
  split at h1
  .assumption
  .lia
 have ek:(oct (e.k.1.toNat:Int),oct (e.k.2.toNat:Int))=e.k:=by rw[o5 _,o5 _]
 have hf:(C5 e.k (ps j).es).isSome=true:=by rw[YF hP.nd he];rfl
 refine⟨hk,?_,by rw[ek,hP.kn,isSome_map];exact hf⟩;rw[ek,hP.kn,AL hf,TP hP.nd he];have hs:((List.range t).map λi=>sp i*ho i+1).getD (e.k.1.toNat:Int).toNat 0=e.s:=by
  rw[h1];unfold aB;rw[if_pos hk,Int.toNat_natCast _];simp[List.getD,hk]
 unfold JZ Q8 T6;rw[hs,o5 _,o5 _];rfl
theorem Np(B:k3 w b)(ht:I0 t)(hj:j<5)(hP:PI room (aB t sp ho) (ps j)){o:n0}(fE:o.lt (wN t+3)){Q:List V->St->Prop}{l:List Ent}:∀{L:List (Str×V)}{acc:List V}{tp:List Bool},(∀e∈l,e∈(ps j).es)->(L=[]\/∃v,L=[(m7,v)])->
 (∀t2,Q (acc++l.map λe=> .W0 (Q8 e)) ⟨hK t j room sp ho fm ps++[o],t2⟩)->
 F4 (Sem w b 60) YV LN [] bh (l.map λe=> .inl (.W0 (Q1 false e.k))) ⟨L,h9 t⟩ ⟨hK t j room sp ho fm ps++[o],tp⟩ acc Q:=by
 induction l with
 |nil=>
  intro L acc tp _ _ q;have:=q tp;rw[List.map_nil,VG] at this;exact this
 |cons e l ih=>
  intro L acc tp hl hL q;have he:=hl e M3;refine R2 (vR hP he) λr1 r2 r3=> ?_;rw[R6];rw[VI];have b1:e.k.1.toNat<256:=UInt8.toNat_lt _;have b2:e.k.2.toNat<256:=UInt8.toNat_lt _;have ab:∀{u:UInt8},R3 [(u.toNat:Int)]=true:=λ{u}=>by
   have:u.toNat<256:=UInt8.toNat_lt _;simp only[R3,List.all_cons,List.all_nil,Bool.and_true,JD,decide_eq_true_iff];lia
  have G:=jh (room:=room) (sp:=sp) (ho:=ho) (fm:=fm) (ps:=ps) ht hj fE;have go:(Sem w b 60).ev YV bh ⟨[(m7,.W0 (Q1 false e.k))],h9 t⟩ ⟨hK t j room sp ho fm ps++[o],tp⟩ (λv M1=>F4 (Sem w b 60) YV LN [] bh (l.map λe=> .inl (.W0 (Q1 false e.k))) ⟨[(m7,.W0 (Q1 false e.k))],h9 t⟩ M1 (acc++[v]) Q):=by
   refine DP (SI (D3 (r:=20) (k:=(0,0)) (s:=0) (m:=[]) B (t:=[]) (Eq.mpr (MZ ht hj room sp ho fm ps o e.k λz=>z=some (JZ t sp ho e.k (W4 (oct (e.k.1.toNat:Int),oct (e.k.2.toNat:Int)) (ps j).kn).n,E3 (hK t j room sp ho fm ps++[o]))) ⟨⟨by lia,by lia⟩,⟨by lia,by lia,by lia,by lia⟩,r3,⟨ab,by decide⟩,⟨ab,by decide⟩,rfl⟩)) λv F1 hz=> ?_);refine u3 hz λi hi hz=>B5 hz λB0 hf e2=> ?_
   .obtain rfl:=uA hi;obtain⟨d,H2⟩:=B0;refine D0 (Prod.mk.inj e2) λB0 e3=> ?_;subst B0;refine⟨.W0 (Q8 e),hK t j room sp ho fm ps++[o],[],_,(Goes.V5 hf).trans (I4 (N:=wN t+3) (by show(hK t j room sp ho fm ps++[o]).length<=_;rw[G.ln];exact j6 _) (by exact kB _ _) e3 G.ln G.pl G.lt),⟨_,.inr ⟨rfl,rfl⟩,⟨_,⟨rfl,trivial⟩,?_⟩⟩,?_⟩
    .show V.W0 _=V.W0 _;rw[r2]
    .refine ih (λx hx=>hl x (a5 _ hx)) (.inr ⟨_,rfl⟩) λt2=> ?_;have:=q t2;rw[R6] at this;rw[i7];exact this
  rcases hL with rfl|⟨v,rfl⟩
  .rw[Lp];exact go
  .rw[Mp];exact go
theorem aW:OD (z0 x) (l.map z0)=(OD x l).map z0:=by
 induction l with
 |nil=>
  exact rfl
 |cons y l ih=>
  simp only[R6,YH,LA];rw[show lX (z0 x).k (z0 y).k=lX x.k y.k from rfl];induction lX x.k y.k using Q2 with
  |true=>rfl
  |false=>simp only[cond_false,R6,ih]
theorem jC:T2 (l.map z0)=(T2 l).map z0:=by
 induction l with
 |nil=>
  exact rfl
 |cons x l ih=>
  simp only[R6,ZH,BC];rw[ih,aW]
noncomputable def vd(d:Dt):Bool:=Dt.rec (motive_1:=λ_=>Bool) (motive_2:=λ_=>Bool) true (λ_ _=>true) (λ_ _=>true) (λ_=>true) (λ_ _=>true) (λ_ ih=>ih) (λ_ ih=>ih) (λ_ _ _ _=>false) true (λ_ _ a b=>a&&b) d
theorem wR(h:∀d∈l,∃s,R8 d d=some (s,true)):∃s,IA l l=some (s,true):=by
 induction l with
 |nil=>exact⟨_,rfl⟩
 |cons d l ih=>
  refine O0 (h d M3) λs e=>O0 (ih λx hx=>h x (a5 _ hx)) λt k=>⟨s||t,?_⟩;rw[cE,e,k];induction s using Q2<;>induction t using Q2<;>rfl
theorem bW(d:Dt):vd d=true->∃s,R8 d d=some (s,true):=by
 refine Dt.rec (motive_1:=λd=>vd d=true->∃s,R8 d d=some (s,true)) (motive_2:=λl=>vd (.tup l)=true->∃s,IA l l=some (s,true)) ?_ ?_ ?_ ?_ ?_ ?_ ?_ ?_ ?_ ?_ d
 .intro _;exact⟨_,rfl⟩
 .intro s c _;exact⟨s||s,congrArg (λx=>some (s||s,x)) (beq_self_eq_true c)⟩
 .intro s n _;exact⟨s||s,congrArg (λx=>some (s||s,x)) (decide_eq_true (p:=n=n) rfl)⟩
 .intro x _;exact⟨false,congrArg (λx=>some (false,x)) (b7 x)⟩
 .intro s c _;exact⟨(ft (s||s) c c).1,congrArg some (Prod.ext rfl (kS.trans (beq_self_eq_true c)))⟩
 .intro ds ih h;exact ih h
 .intro ds ih h;exact ih h
 .intro c xs ds ih h;exact G2 h
 .intro _;exact⟨_,rfl⟩
 .intro d ds i1 i2 h;refine R1 h λh1 h2=>O0 (i1 h1) λs e=>O0 (i2 h2) λt k=>⟨s||t,?_⟩;rw[cE,e,k];induction s using Q2<;>induction t using Q2<;>rfl
theorem OZ(h:∀d∈l,dep d<=n):oQ l<=n:=by
 induction l with
 |nil=>exact Nat.zero_le _
 |cons d l ih=>exact Nat.max_le.mpr ⟨h d M3,ih λx hx=>h x (a5 _ hx)⟩
theorem cW:zG (dat H (k+1)) (l.map V.W0)=some l:=by
 induction l with
 |nil=>rfl
 |cons d l ih=>
  show Option.bind (some d) (λd=>(zG (dat H (k+1)) (l.map V.W0)).map λds=>d::ds)=_;rw[ih];rfl
theorem uE(h:J0 H m=some (.lst (l.map V.W0))):dat H H6 (.ref m)=some (.lst l):=by
 show(((J0 H m).map n0.Ui).bind λo=>(qO o).bind λp=>(zG (dat H 5) p.2).map (rM p.1))=_;rw[h];show(zG (dat H (4+1)) (l.map V.W0)).map (rM true)=_;rw[cW];rfl
theorem qJ{H:List n0}{tp:List Bool}{a c:V}{l:List Dt}{Kb:Bool->Bool->Prop}(d1:dat H H6 a=some (.lst l))(d2:dat H H6 c=some (.lst l))(p:∀d∈l,vd d=true/\dep d<=9)(nl:jk a c H=false)(q:∀s,Kb s true):jt a c ⟨H,tp⟩ Kb:=by
 show uG (jk a c H) _ (on (dat H H6 a) 10 λx=>on (dat H H6 c) 11 λy=>gd (Nat.ble (dep x) 50) (on (R8 x y) 12 λp=>Kb p.1 p.2));rw[nl,d1,d2];show gd (Nat.ble (oQ l+1) 50) (on (IA l l) 12 λp=>Kb p.1 p.2);refine O0 (wR λd hd=>bW d (p d hd).1) λs e=> ?_;rw[Nat.ble_eq_true_of_le (V7 (Nat.succ_le_succ (OZ λd hd=>(p d hd).2)) (by decide)),e];exact q s
theorem kh(e:Ent):vd (Q8 e)=true/\dep (Q8 e)<=9:=⟨rfl,by show 2<=9;decide⟩
end
section
theorem s3K{K:KS}:JJ R (T1 y7 2) (I1 (.fn 67)) fr σ K=R.ev kd (I1 (.fn 67)) fr σ (λa P0=>R.ev nmK (I1 (.fn 67)) fr P0 (λc M1=>T8 .NotEq a c M1 (λd v5=>I6 d v5 (λvC=>R.ex (zZ (T1 y7 2)) (I1 (.fn 67)) fr vC K) (λvC=>R.ex [] (I1 (.fn 67)) fr vC K)))):=by kernel_rfl
theorem nmY:(run C 20).ev nmK (I1 (.fn 67)) ⟨[(Y5,u),(S9,v)],O3⟩ σ Q=Q v σ:=by kernel_rfl
theorem dW{m:Nat}{l:List Ent}{Q:K1}(h:J0 σ.heap m=some (.lst (l.map λe=> .W0 (Q8 e))))(q:∀s,Q (.bool s false) σ):T8 .NotEq (.W0 (.lst (l.map Q8))) (.ref m) σ Q:=by
 have h:J0 σ.heap m=some (.lst ((l.map Q8).map V.W0)):=by rw[yC];exact h
 have p:∀d∈l.map Q8,vd d=true/\dep d<=9:=λd hd=>u0 (z5.mp hd) λe _ x=>x▸kh e;exact qJ (a:= .W0 (.lst (l.map Q8))) (H:=σ.heap) (tp:=σ.LD) rfl (uE h) p rfl q
theorem DH(k:∀tp,Kf ⟨H,tp⟩):I6 (.bool s false) ⟨H,[false]⟩ Kt Kf:=by
 induction s using Q2 with
 |false=>exact k [false]
 |true=>exact⟨rfl,k []⟩
theorem NL:y7=[T1 y7 0]++([T1 y7 1]++[T1 y7 2]):=by kernel_rfl
theorem OL:hK t j room sp ho fm ps++ex=wH ⟨t,room,sp,ho,fm⟩ ps .any++([.cell (some (.ref 4)),.cell (some (.ref (pI t j+3)))]++ex):=by unfold hK;rw[i7]
theorem vE(ht:I0 t):(XR t room sp ho fm ps v).length=wN t+2:=by unfold XR;rw[o8,U4 ht];rfl
theorem PZ:∀p∈h9 t,p.2<wN t+2:=by
 intro p hp;simp only[h9,M4,v8,or_false] at hp;rcases hp with rfl|rfl
 .show wN t+1<_;exact j6 _
 .show wN t<_;lia
theorem eW(B:k3 w b)(ht:I0 t)(hj:j<5)(hP:PI room (aB t sp ho) (ps j))(hr:room<=3){v0:Option V}{tp:List Bool}{K:KS}(q:∀t2,K .next ⟨[],h9 t⟩ ⟨hK t j room sp ho fm ps,t2⟩):
 R0 w b 81 y7 (I1 (.fn 67)) ⟨[(Y5,.W0 (d6 (y0 t j)))],h9 t⟩ ⟨XR t room sp ho fm ps v0,tp⟩ K:=by
 have G:=td (room:=room) (sp:=sp) (ho:=ho) (fm:=fm) (ps:=ps) ht hj;have hl:(ps j).es.length<=3:=by have:=hP.len;lia
 have fu:(ps j).kn.length=(ps j).es.length:=by rw[hP.kn,KD _]
 refine l8 ?_;rw[NL];refine w3 (R0.up (n:=60) (by decide) (e9 (r:=20) (N:=wN t+2) (g2:= .next) (names:=[Y5]) (t2:=[]) (L2:=[(Y5,.W0 (d6 (y0 t j)))]) B (Eq.mpr (LZ ht hj room sp ho fm ps v0 _) ⟨rfl,rfl,rfl,rfl⟩) (by rw[vE ht];exact j6 _) G (λp hp=>by rw[l9.mp hp];trivial) trivial (λp hp=>by rw[vE ht];exact PZ p hp) (by exact kB _ _) ?_));refine w3 (R0.up (n:=60) (by decide) (C4 B ?_));show JJ (Sem w b 60) (T1 y7 1) (I1 (.fn 67)) ⟨[(Y5,.W0 (d6 (y0 t j)))],[(v7,wN t+1),(u6,wN t)]⟩ _ _;rw[Jp,Kp];refine D3 (r:=20) (k:=(0,0)) (s:=0) (m:=[]) B (t:=[]) (Eq.mpr (ZV ht hj room sp ho fm ps _ _) ⟨by lia,?_⟩);unfold pG;rw[F5 G.ln];show gd _ _;rw[A6 G.ln,yC];have e1:(T2 (ps j).kn).map ((λv=>(.inl v:w5))∘λe=> .W0 (Q1 false e.k))=(T2 (ps j).es).map λe=> .inl (.W0 (Q1 false e.k)):=by
  rw[hP.kn,jC,yC];rfl
 rw[e1];have hb:Nat.ble ((T2 (ps j).es).map λe=>(.inl (.W0 (Q1 false e.k)):w5)).length 1000=true:=by
  rw[KD _,P8];exact Nat.ble_eq_true_of_le (by exact V7 (by assumption) (kB _ _))
 rw[hb];have lo:(n0.D4 (.lst ((T2 (ps j).kn).map λe=> .W0 (Q1 false e.k)))).lt (wN t+3):=by
  intro v hv;refine u0 (z5.mp hv) λe _ B0=> ?_;subst B0;trivial
 refine Np B ht hj hP lo (λe he=>iC.mp he) (.inl rfl) λt2=> ?_;show R0 w b 81 [T1 y7 2] (I1 (.fn 67)) ⟨[(Y5,_),(S9,.ref (hK t j room sp ho fm ps++[_]).length)],h9 t⟩ ⟨(hK t j room sp ho fm ps++[_])++[.lst ([]++(T2 (ps j).es).map λe=> .W0 (Q8 e))],t2⟩ _;rw[List.nil_append _];refine C4 B ?_;rw[s3K];refine d7 (t:=[]) ((KZ B 20).wC.1 ?_);have ey:=NZ (w:=w) (b:=b) ht hj room sp ho fm ps ([n0.D4 (.lst ((T2 (ps j).kn).map λe=> .W0 (Q1 false e.k)))]++[n0.lst ((T2 (ps j).es).map λe=> .W0 (Q8 e))]) (.ref (hK t j room sp ho fm ps++[n0.D4 (.lst ((T2 (ps j).kn).map λe=> .W0 (Q1 false e.k)))]).length);rw[<-i7] at ey;rw[ey _,i7,OL];refine HZ (t2:=[false]) B ht hj hP.nd hl ?_;rw[OL.symm,<-i7];refine(KZ B 20).wC.1 ?_;rw[nmY];refine dW (tE) λs=>DH λOw=> ?_;show R0 w b 81 [] _ _ _ _;refine YC ?_;refine⟨.next,⟨[],h9 t⟩,hK t j room sp ho fm ps,[],_,I4 (N:=wN t+2) (H2:=hK t j room sp ho fm ps) ?_ (by exact kB _ _) ?_ G.ln G.pl G.lt,trivial,⟨(λy v2 e=>by exact A0 e),λy i e=>⟨e,?_⟩⟩,q []⟩
 .show(XR t room sp ho fm ps v0).length<=_;rw[vE ht];exact j6 _
 .rw[i7,List.take_append_of_le_length (OH G.ln.symm),G.ln.symm,List.take_length]
 .show i<(XR t room sp ho fm ps v0).length;rw[vE ht];simp only[h9,d3,oM] at e
  split at e
  .obtain rfl:=si e;exact j6 _
  .split at e
   .obtain rfl:=si e;lia
   .exact A0 e
theorem Px{v:V}{K:J2->St->Prop}:n6 R (k4 stK) (.inl v) (I1 (.fn 67)) ⟨[],O3⟩ σ K=K ⟨[(Y5,v)],O3⟩ σ:=by kernel_rfl
noncomputable def ku(K:m9->List w5->St->Prop):K1:=λv P0=>match L7 P0 v with
 |some (l,its)=>K l its P0
 |none=>No 203
theorem Pp{K:m9->List w5->St->Prop}:P4 R (k4 stK) (y5 stK) (I1 (.fn 67)) fr σ K=R.ev (y5 stK) (I1 (.fn 67)) fr σ (ku K):=by kernel_rfl
theorem evW(ht:I0 t):(run C 20).ev (y5 stK) (I1 (.fn 67)) ⟨[],h9 t⟩ ⟨XR t room sp ho fm ps none,[]⟩ Q=Q (.ref 6) ⟨XR t room sp ho fm ps none,[]⟩:=by
 rcases ht with rfl|rfl|rfl<;>kernel_rfl
theorem mh(ht:I0 t):L7 ⟨XR t room sp ho fm ps none,[]⟩ (.ref 6)=some ([],(List.range 5).map λj=> .inl (.W0 (d6 (y0 t j)))):=by
 rcases ht with rfl|rfl|rfl<;>kernel_rfl
theorem Qp(B:k3 w b)(ht:I0 t)(hr:room<=3)(hP:∀j,j<5->PI room (aB t sp ho) (ps j)){K:KS}{js:List Nat}:∀{v0:Option V}{tp:List Bool},(∀j∈js,j<5)->(∀v1 t2,K .next ⟨[],h9 t⟩ ⟨XR t room sp ho fm ps v1,t2⟩)->
 U5 (Sem w b 81) (k4 stK) y7 (I1 (.fn 67)) (js.map λj=> .inl (.W0 (d6 (y0 t j)))) ⟨[],h9 t⟩ ⟨XR t room sp ho fm ps v0,tp⟩ K:=by
 induction js with
 |nil=>
  intro v0 tp _ q;exact q v0 tp
 |cons j js ih=>
  intro v0 tp hj q;rw[R6];rw[T7];rw[Px];have h:=hj j M3;exact eW B ht h (hP j h) hr λt2=>ih (v0:=some (.ref (pI t j+3))) (λk hk=>hj k (a5 _ hk)) q
theorem Qx{C:oG}{K:KS}:(run C 20).ex [T1 (A5 (.fn 67)) 1] (I1 (.fn 67)) fr σ K=K (.ret (.bool false true)) fr σ:=by kernel_rfl
theorem Rp:A5 (.fn 67)=[stK]++[T1 (A5 (.fn 67)) 1]:=by kernel_rfl
theorem Sp(ht:I0 t):E8 R (.fn 67) [.ref 4] ⟨wH ⟨t,room,sp,ho,fm⟩ ps .any,tp⟩ Q=R.ex (A5 (.fn 67)) (I1 (.fn 67)) ⟨[],h9 t⟩ ⟨XR t room sp ho fm ps none,tp⟩ (WA Q):=by
 rcases ht with rfl|rfl|rfl<;>kernel_rfl
theorem PL(B:k3 w b)(ht:I0 t)(hr:room<=3)(hP:∀j,j<5->PI room (aB t sp ho) (ps j))(q:∀X t2,Q (.bool false true) ⟨wH ⟨t,room,sp,ho,fm⟩ ps .any++X,t2⟩):
 F0 w b 82 (.fn 67) [.ref 4] ⟨wH ⟨t,room,sp,ho,fm⟩ ps .any,tp⟩ Q:=by
 refine z6 B ?_;rw[Sp ht];show R0 w b 81 _ _ _ _ _;rw[Rp];refine w3 (J5 (t:=[]) (C4 B (P6 (by kernel_rfl) ?_)));rw[Pp];refine(KZ B 20).wC.1 ?_;rw[evW ht];unfold ku;rw[mh ht];show U5 (Sem w b 81) (k4 stK) y7 (I1 (.fn 67)) _ _ _ _;refine Qp B ht hr hP (λj hj=>NJ.mp hj) λv1 t2=> ?_;show R0 w b 81 _ _ _ _ _;refine J5 (t:=[]) ((KZ B 20).wC.2.1 ?_);rw[Qx];exact q _ []
end
noncomputable def aD:V:= .mt 53 11
noncomputable def wd:Stmt:=T1 (A5 aD) 1
noncomputable def QL:List Stmt:=W5 wd
noncomputable def QZ:Stmt:=T1 QL 1
noncomputable def fW:List Stmt:=W5 QZ
noncomputable def UP:Str:=⟨#[115,101,108,102]⟩
noncomputable def rJ:Str:=⟨#[110,111,119]⟩
noncomputable def gW:Str:=⟨#[102,111,117,110,100]⟩
noncomputable def xd:Str:=⟨#[112,111,114,116]⟩
noncomputable def lE(a N:Nat)(now:Int):List (Str×V):=[(UP,.ref (aI a)),(rJ,iT now),(gW,.ref N)]
noncomputable def lE1(a N p:Nat)(now:Int):List (Str×V):=lE a N now++[(xd,iF (p:Int))]
noncomputable def tX(a N p m:Nat)(now:Int):List (Str×V):=lE1 a N p now++[(jM,.ref m)]
noncomputable def lu(a N p m:Nat)(now:Int)(k:UInt8×UInt8):List (Str×V):=tX a N p m now++[(gC,.W0 (Q1 true k))]
noncomputable def xR(t a:Nat):List Nat:=(List.range 5).filter λj=>Nat.beq (y0 t j).1 a
noncomputable def RG(k:UInt8×UInt8)(p:Port):Port:={p with es:=D6 k p.es}
noncomputable def hW(t a:Nat):List V:=(xR t a).map λj=>iF ((y0 t j).2:Int)
section
noncomputable def bE(t a:Nat):Prop:=∀(room:Int)(sp ho fm:Nat->Int)(ps:Nat->Port)(now:Int)(Q:K1),(run (C0 (0,0) 0 []) 20).ev (y5 wd) (I1 aD) ⟨lE a (wN t) now,[]⟩ ⟨wH ⟨t,room,sp,ho,fm⟩ ps .any++[.lst []],[]⟩ Q=Q (.ref (wN t+1)) ⟨wH ⟨t,room,sp,ho,fm⟩ ps .any++[.lst []]++[.lst (hW t a)],[]⟩
noncomputable def Rx(t j:Nat):Prop:=∀(room:Int)(sp ho fm:Nat->Int)(ps:Nat->Port)(now:Int)(ex:List n0)(K:KS),(run (C0 (0,0) 0 []) 20).ex [T1 QL 0] (I1 aD) ⟨lE1 (y0 t j).1 (wN t) (y0 t j).2 now,[]⟩ ⟨wH ⟨t,room,sp,ho,fm⟩ ps .any++ex,[]⟩ K=K .next ⟨tX (y0 t j).1 (wN t) (y0 t j).2 (pI t j+1) now,[]⟩ ⟨wH ⟨t,room,sp,ho,fm⟩ ps .any++ex,[]⟩
noncomputable def nh(t j:Nat):Prop:=∀(room:Int)(sp ho fm:Nat->Int)(ps:Nat->Port)(now:Int)(acc:List V)(o:n0)(Q:K1),(run (C0 (0,0) 0 []) 20).ev (y5 QZ) (I1 aD) ⟨tX (y0 t j).1 (wN t) (y0 t j).2 (pI t j+1) now,[]⟩ ⟨wH ⟨t,room,sp,ho,fm⟩ ps .any++[.lst acc,o],[]⟩ Q=((ps j).es.length<=3/\Q (.ref (wN t+2)) ⟨wH ⟨t,room,sp,ho,fm⟩ ps .any++[.lst acc,o]++[.lst ((T2 (ps j).es).map λe=> .W0 (Q1 true e.k))],[]⟩)
noncomputable def oh(t j:Nat):Prop:=∀(room:Int)(sp ho fm:Nat->Int)(ps:Nat->Port)(now:Int)(acc:List V)(o o2:n0)(k:UInt8×UInt8)(K:KS),(run (C0 (0,0) 0 []) 20).ex fW (I1 aD) ⟨lu (y0 t j).1 (wN t) (y0 t j).2 (pI t j+1) now k,[]⟩ ⟨wH ⟨t,room,sp,ho,fm⟩ ps .any++[.lst acc,o,o2],[true]⟩ K=(True/\(C5 (k.1,k.2) (ps j).es).isSome=true/\decide ((W4 (k.1,k.2) (ps j).es).FA<=now)=true/\True/\(ps j).es.length<100/\(C5 (k.1,k.2) (ps j).es).isSome=true/\gd (Nat.ble acc.length 100000) (K .next ⟨lu (y0 t j).1 (wN t) (y0 t j).2 (pI t j+1) now k,[]⟩ ⟨wH ⟨t,room,sp,ho,fm⟩ (W2 ps j (RG (k.1,k.2) (ps j))) .any++[.lst (acc++[.ref (wN t+3)]),o,o2,.tup [iF ((y0 t j).2:Int),.W0 (Q1 true k)]],[]⟩))
noncomputable def rh(t j:Nat):Prop:=∀(room:Int)(sp ho fm:Nat->Int)(ps:Nat->Port)(now:Int)(acc:List V)(o o2:n0)(k:UInt8×UInt8)(K:KS),(run (C0 (0,0) 0 []) 20).ex fW (I1 aD) ⟨lu (y0 t j).1 (wN t) (y0 t j).2 (pI t j+1) now k,[]⟩ ⟨wH ⟨t,room,sp,ho,fm⟩ ps .any++[.lst acc,o,o2],[false]⟩ K=(True/\(C5 (k.1,k.2) (ps j).es).isSome=true/\decide ((W4 (k.1,k.2) (ps j).es).FA<=now)=false/\K .next ⟨lu (y0 t j).1 (wN t) (y0 t j).2 (pI t j+1) now k,[]⟩ ⟨wH ⟨t,room,sp,ho,fm⟩ ps .any++[.lst acc,o,o2],[]⟩)
theorem Tp:bE 3 0:=by unfold bE;intros;kernel_rfl
theorem Up:bE 3 1:=by unfold bE;intros;kernel_rfl
theorem Vp:bE 3 2:=by unfold bE;intros;kernel_rfl
theorem Xp:bE 4 0:=by unfold bE;intros;kernel_rfl
theorem Yp:bE 4 1:=by unfold bE;intros;kernel_rfl
theorem Zp:bE 4 2:=by unfold bE;intros;kernel_rfl
theorem aq:bE 4 3:=by unfold bE;intros;kernel_rfl
theorem bq:bE 5 0:=by unfold bE;intros;kernel_rfl
theorem cq:bE 5 1:=by unfold bE;intros;kernel_rfl
theorem dq:bE 5 2:=by unfold bE;intros;kernel_rfl
theorem fq:bE 5 3:=by unfold bE;intros;kernel_rfl
theorem gq:bE 5 4:=by unfold bE;intros;kernel_rfl
theorem iq(ht:I0 t)(hj:j<5):Rx t j:=by
 refine J1 ?_ ?_ ?_ ?_ ?_ ?_ ?_ ?_ ?_ ?_ ?_ ?_ ?_ ?_ ?_ ht hj<;>(unfold Rx;intros;kernel_rfl)
theorem RZ(ht:I0 t)(hj:j<5):Rx t j:=iq ht hj
theorem sh(ht:I0 t)(hj:j<5):nh t j:=by
 refine J1 ?_ ?_ ?_ ?_ ?_ ?_ ?_ ?_ ?_ ?_ ?_ ?_ ?_ ?_ ?_ ht hj<;>(unfold nh;intros;kernel_rfl)
theorem iW(ht:I0 t)(hj:j<5):nh t j:=sh ht hj
theorem th(ht:I0 t)(hj:j<5):oh t j:=by
 refine J1 ?_ ?_ ?_ ?_ ?_ ?_ ?_ ?_ ?_ ?_ ?_ ?_ ?_ ?_ ?_ ht hj<;>(unfold oh;intros;kernel_rfl)
theorem jW(ht:I0 t)(hj:j<5):oh t j:=th ht hj
theorem uh(ht:I0 t)(hj:j<5):rh t j:=by
 refine J1 ?_ ?_ ?_ ?_ ?_ ?_ ?_ ?_ ?_ ?_ ?_ ?_ ?_ ?_ ?_ ht hj<;>(unfold rh;intros;kernel_rfl)
theorem kW(ht:I0 t)(hj:j<5):rh t j:=uh ht hj
theorem TZ(ht:I0 t)(ha:a<t):bE t a:=by
 rcases ht with rfl|rfl|rfl
 .exact p3 ha Tp Up Vp
 .exact p4 ha Xp Yp Zp aq
 .exact p5 ha bq cq dq fq gq
theorem fdE{m:Nat}(hm:σ.heap.length=m){u v:V}{K:KS}:(run (C0 (0,0) 0 []) 20).ex [T1 (A5 aD) 0] (I1 aD) ⟨[(UP,u),(rJ,v)],[]⟩ σ K=K .next ⟨[(UP,u),(rJ,v),(gW,.ref m)],[]⟩ (σ.push (.lst [])):=by subst hm;kernel_rfl
end
section
theorem UZ{rs:List RO}{v v':V}(hv:∀u,E2 b rs v u->E2 b rs v' u){xs:List V}{us:List Value}(k:V0 b rs (xs++[v]) us):V0 b rs (xs++[v']) us:=by
 induction xs generalizing us with
 |nil=>exact k.un λu r h t=> .cons (hv u h) t
 |cons x xs ih=>exact k.un λu r h t=> .cons h (ih t)
theorem Goes.mW(e:N4 m (.ref i) H=some (d,H2))(hj:J0 H2 j=some (.lst (ys++[.ref i]))):
 Goes w b k0 H (upd H2 j (.lst (ys++[V.T5 d]))) λv v2=>v2=v\/(v= .ref i/\v2=V.T5 d):=⟨λ{cx rs h og} S=>by
 refine b8 ((Goes.V5 (w:=w) (b:=b) (k0:=H.length) e).go S) λr2 S2 a1 a2 a3 a4=> ?_;refine⟨r2,⟨S2.keep,S2.ns,S2.at_,S2.nd,by rw[K3,MJ];exact S2.len,S2.big,S2.tab,λq o r e1 e2=> ?_⟩,λq a hq e=> ?_,a2,a3,a4⟩
 .rcases i5 e1 with⟨_,f⟩|⟨rfl,rfl⟩
  .exact S2.ok q o r f e2
  .refine V3 (S2.ok q _ r hj e2) λa us k e3 h1=> ?_;refine⟨a,us,k,e3,UZ (λu hu=> ?_) h1⟩;have hi:i<rs.length:=by
    refine u0 hu λy ey _=> ?_;clear hu;refine U1 (UB e) λ_ _ _ ho _=> ?_;rw[S.len.symm];exact Y1 ho
   have ha:=B1 hi;have Dw:E2 b rs (.ref i) (.ref (Y0 rs i).addr):=⟨_,L1 ha,rfl⟩;refine u0 hu λy ey B0=> ?_;clear hu;subst B0;have:=a1 i _ (by rw[S.len];exact hi) (L1 ha);rw[this] at ey;obtain rfl:=si ey;exact a4 _ _ _ (.inr ⟨rfl,rfl⟩) Dw
 .have hl:q<rs.length:=by
   unfold adr at e;refine u0 (HJ.mp e) λr hr _=> ?_;exact Y1 hr
  exact a1 q a (by rw[S.len];exact hl) e⟩
theorem bG(h:k≠k2):C5 k (D6 k2 es)=C5 k es:=by
 induction es with
 |nil=>
  exact rfl
 |cons x es ih=>
  rw[JA];induction c:U8 k2 x using Q2 with
  |true=>
   have hx:x.k=k2:=f9.mp c;have:U8 k x=false:=by
    induction c2:U8 k x using Q2 with
    |false=>rfl
    |true=>exact absurd ((f9.mp c2).symm.trans hx) h
   show C5 k es=C5 k (x::es)
   conv=>rhs;rw[D8]
   rw[this];rfl
  |false=>
   show C5 k (x::D6 k2 es)=_;rw[D8,ih,D8]
noncomputable def Q5(now:Int)(l:List Ent):List Ent:=l.filter λe=>decide (e.FA<=now)
noncomputable def i9(now:Int)(es:List Ent):List Ent->List Ent
 |[]=>es
 |e::l=>i9 now (bif decide (e.FA<=now) then D6 e.k es else es) l
noncomputable def kC(now:Int)(p:Port):Port:={p with es:=i9 now p.es (T2 p.es)}
noncomputable def nW(now:Int)(p:Port):Port:={p with kn:=i9 now p.kn (T2 p.kn)}
theorem oW:∀{es:List Ent},i9 now (es.map z0) (l.map z0)=(i9 now es l).map z0:=by
 induction l with
 |nil=>
  intro es;exact rfl
 |cons e l ih=>
  intro es;rw[R6];unfold i9;rw[show(z0 e).FA=e.FA from rfl,show(z0 e).k=e.k from rfl];induction decide (e.FA<=now) using Q2 with
  |true=>rw[cond_true,cond_true,JF,ih]
  |false=>rw[cond_false,cond_false,ih]
theorem cG:∀{l es:List Ent},(∀e∈i9 now es l,e∈es)/\(i9 now es l).length<=es.length/\((keysOf es).Nodup->(keysOf (i9 now es l)).Nodup)
 |[],es=>⟨λ_ h=>h,j6 _,λh=>h⟩
 |e::l,es=>by
  unfold i9;induction decide (e.FA<=now) using Q2 with
  |true=>
   rw[cond_true];refine R2 (cG (now:=now) (l:=l) (es:=D6 e.k es)) λh1 h2 h3=> ?_;exact⟨λx hx=>WB x (h1 x hx),V7 h2 YB,λh=>h3 (MP h)⟩
  |false=>rw[cond_false];exact cG
theorem VZ(h:PI room sec p):PI room sec (nW now (kC now p)):=by
 refine R2 (cG (now:=now) (l:=T2 p.es) (es:=p.es)) λh1 h2 h3=> ?_;refine⟨?_,?_,λe he=>h.sec e (h1 e he),λe he=>h.ge e (h1 e he),h3 h.nd⟩
 .show i9 now p.kn (T2 p.kn)=(i9 now p.es (T2 p.es)).map z0;rw[h.kn,jC,oW]
 .show((i9 now p.es (T2 p.es)).length:Int)<=room;have:=h.len;lia
theorem VP:∀{l:List Ent},(keysOf (x::l)).Nodup->(keysOf (OD x l)).Nodup/\∀k,k∈keysOf (OD x l)->k=x.k\/k∈keysOf l
 |[],h=>⟨h,λk hk=> .inl (l9.mp hk)⟩
 |y::l,h=>by
  rw[LA];induction lX x.k y.k using Q2 with
  |true=>exact⟨h,λk hk=>M4.mp hk⟩
  |false=>
   rw[cond_false];refine D0 (H7.mp (show(x.k::y.k::keysOf l).Nodup from h)) λn1 n2=> ?_;refine D0 (H7.mp n2) λn3 n4=> ?_;refine D0 (VP (x:=x) (l:=l) (H7.mpr ⟨λq=>n1 (a5 _ q),n4⟩)) λi1 i2=> ?_;refine⟨H7.mpr ⟨λq=> ?_,i1⟩,λk hk=> ?_⟩
   .rcases i2 _ q with q|q
    .exact n1 (q▸M3)
    .exact n3 q
   .rcases M4.mp (show k∈y.k::keysOf (OD x l) from hk) with rfl|q
    .exact .inr M3
    .rcases i2 _ q with q|q
     .exact .inl q
     .exact .inr (a5 _ q)
theorem ZP:(keysOf es).Nodup->(keysOf (T2 es)).Nodup/\∀k,k∈keysOf (T2 es)->k∈keysOf es:=by
 induction es with
 |nil=>
  intro h;exact⟨h,λk hk=>hk⟩
 |cons e es ih=>
  intro h;refine D0 (H7.mp (show(e.k::keysOf es).Nodup from h)) λn1 n2=> ?_;refine D0 (ih n2) λi1 i2=> ?_;refine D0 (VP (x:=e) (l:=T2 es) (H7.mpr ⟨λq=>n1 (i2 _ q),i1⟩)) λj1 j2=> ?_;refine⟨j1,λk hk=> ?_⟩;rcases j2 k hk with q|q
  .exact M4.mpr (.inl q)
  .exact a5 _ (i2 k q)
end
section
noncomputable def lC(p:Nat)(e:Ent):V:= .W0 (.tup [.int false (p:Int),Q1 true e.k])
theorem Sx{v:V}{K:J2->St->Prop}:n6 R (k4 QZ) (.inl v) (I1 aD) ⟨tX a N p m now,[]⟩ σ K=K ⟨tX a N p m now++[(gC,v)],[]⟩ σ:=by kernel_rfl
theorem jq{v:V}{K:J2->St->Prop}:n6 R (k4 wd) (.inl v) (I1 aD) ⟨lE a N now,[]⟩ σ K=K ⟨lE a N now++[(xd,v)],[]⟩ σ:=by kernel_rfl
theorem vh{K:m9->List w5->St->Prop}:P4 R (k4 wd) (y5 wd) (I1 aD) fr σ K=R.ev (y5 wd) (I1 aD) fr σ (pG K):=by kernel_rfl
theorem wh{K:m9->List w5->St->Prop}:P4 R (k4 QZ) (y5 QZ) (I1 aD) fr σ K=R.ev (y5 QZ) (I1 aD) fr σ (pG K):=by kernel_rfl
theorem EH:W2 (W2 ps j p) j q=W2 ps j q:=by
 funext i
 unfold W2;cases Nat.beq i j<;>rfl
theorem B6:lk y l=some v->lk y (l++k)=some v:=by
 induction l with
 |nil=>
  intro h;exact A0 h
 |cons p l ih=>
  intro h;rw[d3] at h;rw[List.cons_append,d3]
  split at h
  .exact h
  .exact ih h
theorem RL(ht:I0 t)(h:∀o∈ex,o.lt (wN t+ex.length)):Good (wN t+ex.length) (wH ⟨t,room,sp,ho,fm⟩ ps .any++ex):=by
 refine⟨by rw[o8,U4 ht],rfl,λo ho=> ?_⟩;rcases R5.mp ho with h1|h1
 .exact n0.O5 (bC ht o h1) (by exact jB _ _)
 .exact h o h1
theorem pW(ht:I0 t)(hj:j<5)(hk:k<4):pI t j+k<wN t:=by
 rcases ht with rfl|rfl|rfl<;>(unfold pI wN;lia)
theorem mC(ht:I0 t)(hj:j<5):(y0 t j).1<t:=J1 (Q:=λt j=>(y0 t j).1<t) (by decide) (by decide) (by decide) (by decide) (by decide) (by decide) (by decide) (by decide) (by decide) (by decide) (by decide) (by decide) (by decide) (by decide) (by decide) ht hj
theorem yd(ha:a<t):∀q∈lE a (wN t) now,q.2.lt (wN t+2):=by
 intro q hq;simp only[lE,M4,v8,or_false] at hq;rcases hq with rfl|rfl|rfl
 .show aI a<_;unfold aI wN;lia
 .trivial
 .show wN t<_;lia
theorem xh(ht:I0 t)(hj:j<5):∀q∈tX (y0 t j).1 (wN t) p (pI t j+1) now,q.2.lt (wN t+2):=by
 intro q hq;rcases R5.mp hq with hq|hq
 .rcases R5.mp hq with hq|hq
  .exact yd (mC ht hj) q hq
  .rw[l9.mp hq];trivial
 .rw[l9.mp hq];have:=pW ht hj (k:=1) (by exact kB _ _);show pI t j+1<_;exact MH (by assumption) (jB _ _)
theorem sA{v:V}{n m:Nat}(h:v.lt n)(hm:n<=m):v.lt m:=by induction v using V.casesOn<;>first|trivial|exact MH h hm
theorem sJ(h:∀v∈xs,∃d,v= .W0 d):(n0.lst xs).lt n:=λv hv=>by
 refine O0 (h v hv) λd B0=> ?_;subst B0;trivial
theorem Tx(hm:H.length=m):N4 6 (.ref m) (H++[.tup [.int s x,.W0 d]])=some (.tup [.int s x,d],H++[.any]):=by
 subst hm;rw[TV tE,pJ];rfl
theorem kq(B:k3 w b)(ht:I0 t)(hj:j<5){o o2:n0}(iP:o.lt (wN t+3))(Gl:o2.lt (wN t+3)){K:KS}{l:List Ent}:∀{ps:Nat->Port}{acc:List V}{tp:List Bool},(keysOf l).Nodup->(∀e∈l,C5 e.k (ps j).es=some e)->(ps j).es.length<=3->(∀v∈acc,∃d,v= .W0 d)->acc.length+l.length<=100->
 (∀t2,K .next ⟨tX (y0 t j).1 (wN t) (y0 t j).2 (pI t j+1) now,[]⟩ ⟨wH ⟨t,room,sp,ho,fm⟩ (W2 ps j {ps j with es:=i9 now (ps j).es l}) .any++[.lst (acc++(Q5 now l).map (lC (y0 t j).2)),o,o2],t2⟩)->
 U5 (Sem w b 60) (k4 QZ) fW (I1 aD) (l.map λe=> .inl (.W0 (Q1 true e.k))) ⟨tX (y0 t j).1 (wN t) (y0 t j).2 (pI t j+1) now,[]⟩ ⟨wH ⟨t,room,sp,ho,fm⟩ ps .any++[.lst acc,o,o2],tp⟩ K:=by
 induction l with
 |nil=>
  intro ps acc tp _ _ _ _ _ q;have:=q tp;rw[show i9 now (ps j).es []=(ps j).es from rfl,show Q5 now []=[] from rfl,List.map_nil,VG] at this;rw[show({ps j with es:=(ps j).es}:Port)=ps j from rfl,G7] at this;exact this
 |cons e l ih=>
  intro ps acc tp nd hf hl ha hn q;rw[R6];rw[T7];rw[Sx];have he:C5 (e.k.1,e.k.2) (ps j).es=some e:=hf e M3;have gE:W4 (e.k.1,e.k.2) (ps j).es=e:=by unfold W4;rw[he];rfl
  have vc:(C5 (e.k.1,e.k.2) (ps j).es).isSome=true:=by rw[he];rfl
  refine D0 (H7.mp (show(e.k::keysOf l).Nodup from nd)) λn1 n2=> ?_;have hc:acc.length+(l.length+1)<=100:=hn;refine l8 ?_;induction c:decide (e.FA<=now) using Q2 with
  |false=>
   refine L5 (r:=20) (k:=(0,0)) (s:=0) (m:=[]) (t:=[false]) B (Eq.mpr (kW ht hj room sp ho fm ps now acc o o2 e.k _) ⟨trivial,vc,by rw[gE];exact c,?_⟩);refine⟨.next,⟨tX (y0 t j).1 (wN t) (y0 t j).2 (pI t j+1) now,[]⟩,_,[],_,Goes.refl,trivial,⟨λy v2 e2=>⟨v2,B6 e2,rfl⟩,λy i e2=>by exact A0 e2⟩,?_⟩;refine ih n2 (λx hx=>hf x (a5 _ hx)) hl ha (by exact Nat.le_of_lt (by assumption)) λt2=> ?_;have:=q t2;unfold i9 Q5 at this;rw[c,cond_false,List.filter_cons_of_neg (by rw[c];decide)] at this;exact this
  |true=>
   refine L5 (r:=20) (k:=(0,0)) (s:=0) (m:=[]) (t:=[true]) B (Eq.mpr (jW ht hj room sp ho fm ps now acc o o2 e.k _) ⟨trivial,vc,by rw[gE];exact c,trivial,by lia,vc,?_⟩);rw[show Nat.ble acc.length 100000=true from Nat.ble_eq_true_of_le (by lia)];have hd:∀v∈acc++[lC (y0 t j).2 e],∃d,v= .W0 d:=λv hv=>by
    rcases R5.mp hv with h|h
    .exact ha v h
    .exact⟨_,l9.mp h⟩
   have lw:∀{ps:Nat->Port},(wH ⟨t,room,sp,ho,fm⟩ ps .any).length=wN t:=U4 ht;have G:Good (wN t+3) (wH ⟨t,room,sp,ho,fm⟩ (W2 ps j (RG (e.k.1,e.k.2) (ps j))) .any++[.lst (acc++[lC (y0 t j).2 e]),o,o2]):=RL ht (ex:=[.lst (acc++[lC (y0 t j).2 e]),o,o2]) (λx hx=>by
    simp only[M4,v8,or_false] at hx;rcases hx with rfl|rfl|rfl
    .exact sJ hd
    .exact iP
    .exact Gl)
   have hz:∀{x:n0},wH ⟨t,room,sp,ho,fm⟩ (W2 ps j (RG (e.k.1,e.k.2) (ps j))) .any++[.lst (acc++[.ref (wN t+3)]),o,o2,x]=(wH ⟨t,room,sp,ho,fm⟩ (W2 ps j (RG (e.k.1,e.k.2) (ps j))) .any++[.lst (acc++[.ref (wN t+3)]),o,o2])++[x]:=λ{x}=>by rw[i7];rfl
   have fz:N4 6 (.ref (wN t+3)) (wH ⟨t,room,sp,ho,fm⟩ (W2 ps j (RG (e.k.1,e.k.2) (ps j))) .any++[.lst (acc++[.ref (wN t+3)]),o,o2,.tup [iF ((y0 t j).2:Int),.W0 (Q1 true e.k)]])=some (.tup [.int false ((y0 t j).2:Int),Q1 true e.k],wH ⟨t,room,sp,ho,fm⟩ (W2 ps j (RG (e.k.1,e.k.2) (ps j))) .any++[.lst (acc++[.ref (wN t+3)]),o,o2,.any]):=by
    rw[hz,Tx (by rw[o8,lw];rfl),hz]
   have g1:=Goes.mW (w:=w) (b:=b) (k0:=(wH ⟨t,room,sp,ho,fm⟩ ps .any++[.lst acc,o,o2]).length) fz (j:=wN t) (ys:=acc) (by rw[P1 (by rw[lw];exact j6 _),lw,Nat.sub_self _];rfl);have g2:=g1.trans (I4 (N:=wN t+3) (H2:=wH ⟨t,room,sp,ho,fm⟩ (W2 ps j (RG (e.k.1,e.k.2) (ps j))) .any++[.lst (acc++[lC (y0 t j).2 e]),o,o2]) (by rw[o8,lw];exact j6 _) (by exact kB _ _) (by
    rw[K3,List.set_append_right _ _ (by rw[lw];exact j6 _),lw,Nat.sub_self _];show(List.take _ (_++[.lst (acc++[lC (y0 t j).2 e]),o,o2,.any])).map _=_;rw[show wH ⟨t,room,sp,ho,fm⟩ (W2 ps j (RG (e.k.1,e.k.2) (ps j))) .any++[.lst (acc++[lC (y0 t j).2 e]),o,o2,.any]=(wH ⟨t,room,sp,ho,fm⟩ (W2 ps j (RG (e.k.1,e.k.2) (ps j))) .any++[.lst (acc++[lC (y0 t j).2 e]),o,o2])++[.any] from by rw[i7];rfl];rw[List.take_append_of_le_length (OH G.ln.symm),G.ln.symm,List.take_length]) G.ln G.pl G.lt)
   refine⟨.next,⟨tX (y0 t j).1 (wN t) (y0 t j).2 (pI t j+1) now,[]⟩,_,[],_,g2,trivial,⟨λy v2 e2=>⟨v2,B6 e2,v2,.inl rfl,v2,⟨rfl,?_⟩,rfl⟩,λy i e2=>by exact A0 e2⟩,?_⟩
   .exact sA (xh ht hj _ (u7 e2)) (by lia)
   .have e2:(W2 ps j (RG (e.k.1,e.k.2) (ps j)) j).es=D6 e.k (ps j).es:=by rw[M5];rfl
    refine ih n2 (λx hx=> ?_) (by rw[e2];exact V7 YB hl) hd (by rw[o8];show acc.length+1+_<=_;lia) λt2=> ?_
    .rw[e2,bG (λh=>n1 (by rw[h.symm];exact d5 (f:=(·.k)) hx))];exact hf x (a5 _ hx)
    .have:=q t2;unfold i9 Q5 at this;rw[c,cond_true,List.filter_cons_of_pos (p:=λe:Ent=>decide (e.FA<=now)) c,R6] at this;rw[EH,e2,M5,i7];exact this
end
noncomputable def tJ(now:Int):List Nat->(Nat->Port)->Nat->Port
 |[],ps=>ps
 |j::js,ps=>tJ now js (W2 ps j (kC now (ps j)))
noncomputable def n7(p:Nat)(e:Ent):Dt:= .tup [.int false (p:Int),Q1 true e.k]
noncomputable def nC(t:Nat)(now:Int):List Nat->(Nat->Port)->List Dt
 |[],ps=>[]
 |j::js,ps=>(Q5 now (T2 (ps j).es)).map (n7 (y0 t j).2)++nC t now js (W2 ps j (kC now (ps j)))
theorem yh(now:Int)(ps:Nat->Port):tJ now [] ps=ps:=rfl
theorem MN(now:Int)(j:Nat)(js:List Nat)(ps:Nat->Port):tJ now (j::js) ps=tJ now js (W2 ps j (kC now (ps j))):=rfl
theorem aQ(t:Nat)(now:Int)(j:Nat)(js:List Nat)(ps:Nat->Port):nC t now (j::js) ps=(Q5 now (T2 (ps j).es)).map (n7 (y0 t j).2)++nC t now js (W2 ps j (kC now (ps j))):=rfl
section
theorem TL:QL=[T1 QL 0]++[QZ]:=by kernel_rfl
theorem yR:(Q5 now l).length<=l.length:=List.length_filter_le _ _
theorem outF(B:k3 w b)(ht:I0 t){o:n0}(iP:o.lt (wN t+2)){K:KS}{js:List Nat}:∀{a:Nat}{ps:Nat->Port}{ds:List Dt}{tp:List Bool},(∀j∈js,j<5/\(y0 t j).1=a)->js.Nodup->(∀j∈js,(keysOf (ps j).es).Nodup/\(ps j).es.length<=3)->ds.length+3*js.length<=50->
 (∀t2,K .next ⟨lE a (wN t) now,[]⟩ ⟨wH ⟨t,room,sp,ho,fm⟩ (tJ now js ps) .any++[.lst ((ds++nC t now js ps).map V.W0),o],t2⟩)->
 U5 (Sem w b 60) (k4 wd) QL (I1 aD) (js.map λj=> .inl (iF ((y0 t j).2:Int))) ⟨lE a (wN t) now,[]⟩ ⟨wH ⟨t,room,sp,ho,fm⟩ ps .any++[.lst (ds.map V.W0),o],tp⟩ K:=by
 induction js with
 |nil=>
  intro a ps ds tp _ _ _ _ q;have:=q tp;rw[show nC t now [] ps=[] from rfl,VG] at this;exact this
 |cons j js ih=>
  intro a ps ds tp h1 nd h3 hn q;refine D0 (h1 j M3) λhj B0=> ?_;subst B0;refine D0 (h3 j M3) λhd hl=> ?_;refine D0 (H7.mp nd) λn1 n2=> ?_;have hc:ds.length+3*(js.length+1)<=50:=hn;rw[R6];rw[T7];rw[jq];refine l8 ?_;rw[TL];refine w3 ?_;refine L5 (r:=20) (k:=(0,0)) (s:=0) (m:=[]) (t:=[]) B (Eq.mpr (RZ ht hj room sp ho fm ps now [.lst (ds.map V.W0),o] _) ?_);show R0 w b 60 [QZ] _ _ _ _;refine C4 B (P6 (by kernel_rfl) ?_);rw[wh];refine D3 (r:=20) (k:=(0,0)) (s:=0) (m:=[]) (t:=[]) B (Eq.mpr (iW ht hj room sp ho fm ps now (ds.map V.W0) o _) ⟨hl,?_⟩);unfold pG;have lw:∀{ps:Nat->Port},(wH ⟨t,room,sp,ho,fm⟩ ps .any).length=wN t:=U4 ht;have ln:(wH ⟨t,room,sp,ho,fm⟩ ps .any++[.lst (ds.map V.W0),o]).length=wN t+2:=by rw[o8,lw];rfl
  rw[F5 ln];show U5 _ _ _ _ _ _ _ _;rw[A6 ln,yC,i7];have him:∀{x:List Dt},∀v∈x.map V.W0,∃d,v= .W0 d:=λv hv=>by
   refine u0 (z5.mp hv) λd _ B0=> ?_;subst B0;exact⟨d,rfl⟩
  have hsl:(T2 (ps j).es).length<=3:=by rw[P8];exact hl
  have e1:ds.map V.W0++(Q5 now (T2 (ps j).es)).map (lC (y0 t j).2)=(ds++(Q5 now (T2 (ps j).es)).map (n7 (y0 t j).2)).map V.W0:=by
   rw[w8,yC];rfl
  refine kq B ht hj (l:=T2 (ps j).es) (n0.O5 iP (by lia)) ?_ (ZP hd).1 (λe he=>YF hd (iC.mp he)) hl him (by rw[KD _];lia) λt2=> ?_
  .intro v hv;refine u0 (z5.mp hv) λe _ B0=> ?_;subst B0;trivial
  .rw[e1];have G:Good (wN t+2) (wH ⟨t,room,sp,ho,fm⟩ (W2 ps j (kC now (ps j))) .any++[.lst ((ds++(Q5 now (T2 (ps j).es)).map (n7 (y0 t j).2)).map V.W0),o]):=RL ht (ex:=[.lst ((ds++(Q5 now (T2 (ps j).es)).map (n7 (y0 t j).2)).map V.W0),o]) (λx hx=>by
    simp only[M4,v8,or_false] at hx;rcases hx with rfl|rfl
    .exact sJ him
    .exact iP)
   refine⟨.next,⟨lE (y0 t j).1 (wN t) now,[]⟩,_,[],_,I4 (N:=wN t+2) (H2:=wH ⟨t,room,sp,ho,fm⟩ (W2 ps j (kC now (ps j))) .any++[.lst ((ds++(Q5 now (T2 (ps j).es)).map (n7 (y0 t j).2)).map V.W0),o]) (by show(wH ⟨t,room,sp,ho,fm⟩ ps .any++[.lst (ds.map V.W0),o]).length<=_;rw[ln];exact j6 _) (by exact kB _ _) ?_ G.ln G.pl G.lt,trivial,⟨λy v2 e2=>⟨v2,B6 (B6 e2),v2,⟨rfl,yd (mC ht hj) _ (u7 e2)⟩,rfl⟩,λy i e2=>by exact A0 e2⟩,?_⟩
   .show(List.take _ (wH ⟨t,room,sp,ho,fm⟩ (W2 ps j (kC now (ps j))) .any++[.lst ((ds++(Q5 now (T2 (ps j).es)).map (n7 (y0 t j).2)).map V.W0),o,_])).map _=_;rw[show∀{x y z:n0},wH ⟨t,room,sp,ho,fm⟩ (W2 ps j (kC now (ps j))) .any++[x,y,z]=(wH ⟨t,room,sp,ho,fm⟩ (W2 ps j (kC now (ps j))) .any++[x,y])++[z] fromλ{x y z}=>by rw[i7];rfl];rw[List.take_append_of_le_length (OH G.ln.symm),G.ln.symm,List.take_length]
   .have OA:∀i∈js,W2 ps j (kC now (ps j)) i=ps i:=λi hi=>pA (λh=>n1 (h▸hi));refine ih (λi hi=>h1 i (a5 _ hi)) n2 (λi hi=> ?_) ?_ λt3=> ?_
    .rw[OA i hi];exact h3 i (a5 _ hi)
    .rw[o8,KD _];have:=yR (now:=now) (l:=T2 (ps j).es);lia
    .have:=q t3;rw[MN,aQ] at this;rw[i7];exact this
theorem zh(ht:I0 t):E8 R aD [.ref i,iT now] ⟨wH ⟨t,room,sp,ho,fm⟩ ps .any,tp⟩ Q=R.ex (A5 aD) (I1 aD) ⟨[(UP,.ref i),(rJ,iT now)],[]⟩ ⟨wH ⟨t,room,sp,ho,fm⟩ ps .any,tp⟩ (WA Q):=by
 rcases ht with rfl|rfl|rfl<;>kernel_rfl
theorem Ux:A5 aD=[T1 (A5 aD) 0]++([wd]++[T1 (A5 aD) 2]):=by kernel_rfl
theorem lq{K:KS}:(run (C0 (0,0) 0 []) 20).ex [T1 (A5 aD) 2] (I1 aD) ⟨lE a N now,[]⟩ σ K=K (.ret (.ref N)) ⟨lE a N now,[]⟩ σ:=by kernel_rfl
theorem Ah(h:J0 H m=some (.lst (ds.map V.W0))):N4 6 (.ref m) H=some (.lst ds,upd H m .any):=by
 have:=JL (k:=4) (H:=upd H m .any) (f:=λd:Dt=>d) (l:=ds);rw[List.map_id'] at this;rw[LL h,this];rfl
theorem NN:(∀j∈xR t a,j<5/\(y0 t j).1=a)/\(xR t a).Nodup/\(xR t a).length<=5:=by
 refine⟨λj hj=> ?_,List.Nodup.sublist List.filter_sublist List.nodup_range,V7 (List.length_filter_le _ _) (by simp)⟩;refine D0 (List.mem_filter.mp hj) λh1 h2=> ?_;exact⟨NJ.mp h1,V9 h2⟩
theorem zR(B:k3 w b)(ht:I0 t)(ha:a<t)(hp:∀j<5,(keysOf (ps j).es).Nodup/\(ps j).es.length<=3){tp:List Bool}{Q:K1}(q:∀X t2,Q (.W0 (.lst (nC t now (xR t a) ps))) ⟨wH ⟨t,room,sp,ho,fm⟩ (tJ now (xR t a) ps) .any++X,t2⟩):
 F0 w b 61 aD [.ref (aI a),iT now] ⟨wH ⟨t,room,sp,ho,fm⟩ ps .any,tp⟩ Q:=by
 refine R2 (NN (t:=t) (a:=a)) λj1 j2 j3=> ?_;have lw:∀{ps:Nat->Port},(wH ⟨t,room,sp,ho,fm⟩ ps .any).length=wN t:=U4 ht;refine zF (z6 B ?_);rw[zh ht];show R0 w b 60 _ _ _ _ _;rw[Ux];refine w3 (L5 (r:=20) (k:=(0,0)) (s:=0) (m:=[]) (t:=[]) B (Eq.mpr (fdE (m:=wN t) lw) ?_));refine w3 (C4 B (P6 (by kernel_rfl) ?_));rw[vh];refine D3 (r:=20) (k:=(0,0)) (s:=0) (m:=[]) (t:=[]) B (Eq.mpr (TZ ht ha room sp ho fm ps now _) ?_);unfold pG;have ln:(wH ⟨t,room,sp,ho,fm⟩ ps .any++[n0.lst []]).length=wN t+1:=by rw[o8,lw];rfl
 rw[F5 ln];show U5 _ _ _ _ _ _ _ _;rw[A6 ln,show hW t a=(xR t a).map λj=>iF ((y0 t j).2:Int) from rfl,yC,i7];refine outF B ht (js:=xR t a) (ds:=[]) ?_ j1 j2 (λj hj=>hp j (j1 j hj).1) (by show 0+_<=_;lia) λt2=> ?_
 .intro v hv;refine u0 (z5.mp hv) λe _ B0=> ?_;subst B0;trivial
 .show R0 w b 60 _ _ _ _ _;refine L5 (r:=20) (k:=(0,0)) (s:=0) (m:=[]) (t:=[]) B (Eq.mpr lq ?_);refine⟨_,_,[],Ah (by rw[P1 (by rw[lw];exact j6 _),lw,Nat.sub_self _];rfl),?_⟩;rw[K3,List.set_append_right _ _ (by rw[lw];exact j6 _),lw,Nat.sub_self _];exact q _ []
theorem WZ(B:k3 w b)(ht:I0 t)(ha:a<t)(hp:∀j<5,(keysOf (ps j).es).Nodup/\(ps j).es.length<=3)(q:Q (.W0 (.lst (nC t now (xR t a) ps))) ⟨wH ⟨t,room,sp,ho,fm⟩ (tJ now (xR t a) ps) src++ex,t2⟩):
 F0 w b 61 aD [.ref (aI a),iT now] ⟨wH ⟨t,room,sp,ho,fm⟩ ps src++ex,tp⟩ Q:=by
 refine ZC (t0:=tp) ht (λi h=>A0 (congrArg rV h)) (λv hv=> ?_) (zR B ht ha hp λX t3=>⟨trivial,_,X,t2,rfl,q⟩);simp only[M4,v8,or_false] at hv;rcases hv with rfl|rfl
 .show aI a<wN t;unfold aI wN;lia
 .trivial
end
noncomputable def Z7:V:= .fn 65
noncomputable def zd:Stmt:=T1 (A5 Z7) 0
noncomputable def dG:List Stmt:=W5 zd
noncomputable def uJ:Stmt:=T1 dG 1
noncomputable def s8:List Stmt:=W5 uJ
noncomputable def fG:Expr:=ah (T1 s8 1)
noncomputable def FD:Expr:=gu (DZ fG)
noncomputable def bQ:Expr:=iu (DZ fG)
noncomputable def SG:Expr:=gC1 (DZ fG)
noncomputable def vJ:Scope:={jd fG with names:=QD (I1 Z7) (jd fG).names}
noncomputable def wJ:Stmt:=T1 s8 2
noncomputable def qW:List Stmt:=W5 wJ
noncomputable def mq:Str:=⟨#[97,116]⟩
noncomputable def j9:Str:=⟨#[97,103,101,110,116]⟩
noncomputable def Bh:Str:=⟨#[103,111,110,101]⟩
noncomputable def k5(t:Nat):List (Str×Nat):=[(v7,wN t+3),(Y5,wN t+2),(mq,wN t+1),(rJ,wN t)]
noncomputable def hO(t:Nat)(room:Int)(sp ho fm:Nat->Int)(ps:Nat->Port)(now:Int)(va ve vk:Option V):List n0:=wH ⟨t,room,sp,ho,fm⟩ ps .any++[.cell (some (iT now)),.cell va,.cell ve,.cell vk]
noncomputable def lO(a:Nat):List (Str×V):=[(u6,.ref 4),(j9,.ref (aI a))]
noncomputable def UL(t a:Nat):List (Str×V):=lO a++[(S9,.ref (wN t+4))]
noncomputable def uX(t a:Nat)(v:V):List (Str×V):=UL t a++[(Bh,v)]
noncomputable def Vx(t a:Nat)(v:V)(k:UInt8×UInt8):List (Str×V):=uX t a v++[(m7,.W0 (Q1 false k))]
noncomputable def XZ(i:Nat):Expr->Expr
 | .BoolOp _ xs _=>(J0 xs i).getD (.Constant .none 0 default)
 |e=>e
noncomputable def e1O:Expr:=ZF (XZ 0 SG)
noncomputable def e2O:Expr:=aG (XZ 0 SG)
noncomputable def Wx:Expr:=ZF (XZ 1 SG)
noncomputable def e4O:Expr:=aG (XZ 1 SG)
noncomputable def gG(t:Nat):List (Str×Nat):=[(mq,wN t+1),(Y5,wN t+2),(v7,wN t+3),(rJ,wN t)]
noncomputable def G5(t j:Nat):V:= .W0 (d6 (y0 t j))
noncomputable def GD(t j:Nat):V:= .ref (pI t j+3)
noncomputable def FH(p:Nat)(k:UInt8×UInt8):Dt:= .tup [.int false (p:Int),.tup [.tup [.int false 7,.bytes true [oct (k.1.toNat:Int)]],.tup [.int false 7,.bytes true [oct (k.2.toNat:Int)]]]]
noncomputable def nq(N:Nat)(acc:List V)(H:List n0):Option (Dt×Option n0×List n0):=(N4 6 (.ref (N+13)) H).map λp=>(p.1,J0 p.2 (N+4),E3 ((upd p.2 (N+4) (.lst (acc++[V.T5 p.1]))).take (N+8)))
noncomputable def rW(k:UInt8×UInt8)(p:Port):Port:={p with kn:=D6 k p.kn}
noncomputable def ko(k:UInt8×UInt8):UInt8×UInt8:=(oct (k.1.toNat:Int),oct (k.2.toNat:Int))
noncomputable def Xx(k:UInt8×UInt8):Prop:=0<=(k.1.toNat:Int)/\(k.1.toNat:Int)<256/\0<=(k.2.toNat:Int)/\(k.2.toNat:Int)<256
section
noncomputable def Yx(t j:Nat):Prop:=∀(room:Int)(sp ho fm:Nat->Int)(ps:Nat->Port)(now:Int)(va vk:Option V)(ex:List n0)(L:List (Str×V))(K:KS),(run (C0 (0,0) 0 []) 20).ex [T1 s8 0] (I1 Z7) ⟨(u6,.ref 4)::L,k5 t⟩ ⟨hO t room sp ho fm ps now va (some (G5 t j)) vk++ex,[]⟩ K=K .next ⟨(u6,.ref 4)::L,k5 t⟩ ⟨hO t room sp ho fm ps now va (some (G5 t j)) (some (GD t j))++ex,[]⟩
noncomputable def Dh(t j:Nat):Prop:=∀(room:Int)(sp ho fm:Nat->Int)(ps:Nat->Port)(now:Int)(va ve:Option V)(x y:n0)(L:List (Str×V))(Q:K1),(run (C0 (0,0) 0 []) 20).ev bQ (I1 Z7) ⟨L,k5 t⟩ ⟨hO t room sp ho fm ps now va ve (some (GD t j))++[x,y],[]⟩ Q=((ps j).kn.length<=3/\Q (.ref (wN t+6)) ⟨hO t room sp ho fm ps now va ve (some (GD t j))++[x,y]++[.lst ((T2 (ps j).kn).map λe=> .W0 (Q1 false e.k))],[]⟩)
noncomputable def Zx(t j:Nat):Prop:=∀(room:Int)(sp ho fm:Nat->Int)(ps:Nat->Port)(now:Int)(va vk:Option V)(ex:List n0)(L:List (Str×V))(Q:K1),(run (C0 (0,0) 0 []) 20).ev e1O vJ ⟨L,gG t⟩ ⟨hO t room sp ho fm ps now va (some (G5 t j)) vk++ex,[]⟩ Q=Q (iF ((y0 t j).1:Int)) ⟨hO t room sp ho fm ps now va (some (G5 t j)) vk++ex,[]⟩
noncomputable def ay(t j:Nat):Prop:=∀(room:Int)(sp ho fm:Nat->Int)(ps:Nat->Port)(now:Int)(va ve:Option V)(ex:List n0)(k:UInt8×UInt8)(Q:K1),(run (C0 (0,0) 0 []) 20).ev Wx vJ ⟨[(m7,.W0 (Q1 false k))],gG t⟩ ⟨hO t room sp ho fm ps now va ve (some (GD t j))++ex,[]⟩ Q=(Xx k/\(C5 (ko k) (ps j).kn).isSome=true/\Q (iT (W4 (ko k) (ps j).kn).FA) ⟨hO t room sp ho fm ps now va ve (some (GD t j))++ex,[]⟩)
noncomputable def Eh(t j:Nat):Prop:=∀(room:Int)(sp ho fm:Nat->Int)(ps:Nat->Port)(now:Int)(va:Option V)(acc:List V)(o1 o2 o3:n0)(k:UInt8×UInt8)(a:Nat)(v:V)(P:Fl->List (Str×V)->List (Str×Nat)->Option (Dt×Option n0×List n0)->Prop),(run (C0 (0,0) 0 []) 20).ex qW (I1 Z7) ⟨Vx t a v k,k5 t⟩ ⟨hO t room sp ho fm ps now va (some (G5 t j)) (some (GD t j))++[.lst acc,o1,o2,o3],[]⟩ (λg fr σ=>P g fr.loc fr.O3 (nq (wN t) acc σ.heap))=
 (Xx k/\(ps j).kn.length<100/\(C5 (ko k) (ps j).kn).isSome=true/\(R3 [(k.1.toNat:Int)]=true/\1<=100000)/\(R3 [(k.2.toNat:Int)]=true/\1<=100000)/\gd (Nat.ble acc.length 100000) (P .next (Vx t a v k) (k5 t) (some (FH (y0 t j).2 k,some (.lst (acc++[.ref (wN t+13)])),E3 (hO t room sp ho fm (W2 ps j (rW (ko k) (ps j))) now va (some (G5 t j)) (some (GD t j))++[.lst (acc++[.W0 (FH (y0 t j).2 k)]),o1,o2,o3])))))
theorem oq(ht:I0 t)(hj:j<5):Yx t j:=by
 refine J1 ?_ ?_ ?_ ?_ ?_ ?_ ?_ ?_ ?_ ?_ ?_ ?_ ?_ ?_ ?_ ht hj<;>(unfold Yx;intros;kernel_rfl)
theorem YZ(ht:I0 t)(hj:j<5):Yx t j:=oq ht hj
theorem Fh(ht:I0 t)(hj:j<5):Dh t j:=by
 refine J1 ?_ ?_ ?_ ?_ ?_ ?_ ?_ ?_ ?_ ?_ ?_ ?_ ?_ ?_ ?_ ht hj<;>(unfold Dh;intros;kernel_rfl)
theorem sW(ht:I0 t)(hj:j<5):Dh t j:=Fh ht hj
theorem pq(ht:I0 t)(hj:j<5):Zx t j:=by
 refine J1 ?_ ?_ ?_ ?_ ?_ ?_ ?_ ?_ ?_ ?_ ?_ ?_ ?_ ?_ ?_ ht hj<;>(unfold Zx;intros;kernel_rfl)
theorem ZZ(ht:I0 t)(hj:j<5):Zx t j:=pq ht hj
theorem rq(ht:I0 t)(hj:j<5):ay t j:=by
 refine J1 ?_ ?_ ?_ ?_ ?_ ?_ ?_ ?_ ?_ ?_ ?_ ?_ ?_ ?_ ?_ ht hj<;>(unfold ay;intros;kernel_rfl)
theorem ba(ht:I0 t)(hj:j<5):ay t j:=rq ht hj
theorem Gh(ht:I0 t)(hj:j<5):Eh t j:=by
 refine J1 ?_ ?_ ?_ ?_ ?_ ?_ ?_ ?_ ?_ ?_ ?_ ?_ ?_ ?_ ?_ ht hj<;>(unfold Eh;intros;kernel_rfl)
theorem tW(ht:I0 t)(hj:j<5):Eh t j:=Gh ht hj
theorem e2r(ht:I0 t):(run (C0 (0,0) 0 []) 20).ev e2O vJ ⟨L,gG t⟩ ⟨hO t room sp ho fm ps now (some (iF k)) ve vk++ex,[]⟩ Q=Q (iF k) ⟨hO t room sp ho fm ps now (some (iF k)) ve vk++ex,[]⟩:=by
 rcases ht with rfl|rfl|rfl<;>kernel_rfl
theorem e4r(ht:I0 t):(run (C0 (0,0) 0 []) 20).ev e4O vJ ⟨L,gG t⟩ ⟨hO t room sp ho fm ps now va ve vk++ex,tp⟩ Q=Q (iT now) ⟨hO t room sp ho fm ps now va ve vk++ex,tp⟩:=by
 rcases ht with rfl|rfl|rfl<;>kernel_rfl
theorem elO{v:V}{Q:K1}:(run (C0 (0,0) 0 []) 20).ev (oJ fG) vJ ⟨[(m7,v)],gG t⟩ σ Q=Q v σ:=by kernel_rfl
theorem cy:OR R 8 SG vJ fr σ Kt Kf=R.ev e1O vJ fr σ (λa P0=>R.ev e2O vJ fr P0 (λc M1=>T8 .Eq a c M1 (λd v5=>I6 d v5 (λvC=>R.ev Wx vJ fr vC (λa KX=>R.ev e4O vJ fr KX (λc LX=>T8 .LtE a c LX (λd σ7=>I6 d σ7 Kt Kf)))) Kf))):=by kernel_rfl
theorem tq:T8 .Eq (iF x) (iF y) σ Q=Q (.bool false (decide (x=y))) σ:=by kernel_rfl
theorem Ad:T8 .LtE (iT x) (iT y) σ Q=Q (.bool true (decide (x<=y))) σ:=by kernel_rfl
theorem uq{L:List (Str×V)}{K:KS}:JJ R (T1 s8 1) (I1 Z7) ⟨UL t a,k5 t⟩ σ K=P4 R FD bQ (I1 Z7) ⟨UL t a,k5 t⟩ σ (λl its P0=>gd (Nat.ble its.length 1000) (F4 R (oJ fG) FD [SG] vJ its ⟨[],gG t⟩ (E4 l P0) [] (λvs v5=>K .next ⟨uX t a (.ref v5.new),k5 t⟩ (v5.push (.lst vs))))):=by kernel_rfl
theorem vq{K:m9->List w5->St->Prop}:P4 R FD bQ (I1 Z7) fr σ K=R.ev bQ (I1 Z7) fr σ (pG K):=by kernel_rfl
theorem wq{v:V}{K:J2->St->Prop}:n6 R FD (.inl v) vJ ⟨[],O3⟩ σ K=K ⟨[(m7,v)],O3⟩ σ:=by kernel_rfl
theorem xq{v v0:V}{K:J2->St->Prop}:n6 R FD (.inl v) vJ ⟨[(m7,v0)],O3⟩ σ K=K ⟨[(m7,v)],O3⟩ σ:=by kernel_rfl
end
section
variable{w:World}{b:Heap}{n:Nat}{t a j i p m N:Nat}{room:Int}{sp ho fm:Nat->Int}{ps ps' ps0:Nat->Port}{now sc:Int}{src:n0}{R:Rec}{fr:J2}{σ:St}{O3:List (Str×Nat)}{sec:UInt8×UInt8->Int}{τ:Nat->Int}
theorem uW(k:UInt8×UInt8):ko k=k:=by unfold ko;rw[o5 _,o5 _]
theorem vW(k:UInt8×UInt8):Xx k:=by
 have b1:k.1.toNat<256:=UInt8.toNat_lt _;have b2:k.2.toNat<256:=UInt8.toNat_lt _;exact⟨by lia,by lia,by lia,by lia⟩
theorem Bd{u:UInt8}:R3 [(u.toNat:Int)]=true:=by
 have:u.toNat<256:=UInt8.toNat_lt _;simp only[R3,List.all_cons,List.all_nil,Bool.and_true,JD,decide_eq_true_iff];lia
theorem t8(ht:I0 t){va ve vk:Option V}:(hO t room sp ho fm ps now va ve vk).length=wN t+4:=by unfold hO;rw[o8,U4 ht];rfl
noncomputable def yA(t j a:Nat)(now:Int)(l:List Ent):List Ent:=bif Nat.beq (y0 t j).1 a then Q5 now l else[]
theorem da{elt t c:Expr}{sc:Scope}{it:w5}{l:List w5}{fr:J2}{σ:St}{acc:List V}{Q:List V->St->Prop}:F4 R elt t [c] sc (it::l) fr σ acc Q=n6 R t it sc fr σ λn9 P0=>OR R 8 c sc n9 P0 (λM1=>R.ev elt sc n9 M1 λv v5=>F4 R elt t [c] sc l n9 v5 (acc++[v]) Q) (λM1=>F4 R elt t [c] sc l n9 M1 acc Q):=rfl
theorem yq(B:k3 w b)(ht:I0 t)(hj:j<5){ex:List n0}{Q:List V->St->Prop}{l:List Ent}:∀{L:List (Str×V)}{acc:List V}{tp:List Bool},(∀e∈l,C5 e.k (ps j).kn=some e)->(L=[]\/∃v,L=[(m7,v)])->
 (∀t2,Q (acc++(yA t j a now l).map λe=> .W0 (Q1 false e.k)) ⟨hO t room sp ho fm ps now (some (iF (a:Int))) (some (G5 t j)) (some (GD t j))++ex,t2⟩)->
 F4 (Sem w b 60) (oJ fG) FD [SG] vJ (l.map λe=> .inl (.W0 (Q1 false e.k))) ⟨L,gG t⟩ ⟨hO t room sp ho fm ps now (some (iF (a:Int))) (some (G5 t j)) (some (GD t j))++ex,tp⟩ acc Q:=by
 induction l with
 |nil=>
  intro L acc tp _ _ q;have:=q tp;have e0:yA t j a now []=[]:=by unfold yA Q5;cases Nat.beq (y0 t j).1 a<;>rfl
  rw[e0,List.map_nil,VG] at this;exact this
 |cons e l ih=>
  intro L acc tp hl hL q;have he:C5 (ko e.k) (ps j).kn=some e:=by rw[uW _];exact hl e M3
  rw[R6];rw[da];have go:OR (Sem w b 60) 8 SG vJ ⟨[(m7,.W0 (Q1 false e.k))],gG t⟩ ⟨hO t room sp ho fm ps now (some (iF (a:Int))) (some (G5 t j)) (some (GD t j))++ex,tp⟩ (λM1=>(Sem w b 60).ev (oJ fG) vJ ⟨[(m7,.W0 (Q1 false e.k))],gG t⟩ M1 λv v5=>F4 (Sem w b 60) (oJ fG) FD [SG] vJ (l.map λe=> .inl (.W0 (Q1 false e.k))) ⟨[(m7,.W0 (Q1 false e.k))],gG t⟩ v5 (acc++[v]) Q) (λM1=>F4 (Sem w b 60) (oJ fG) FD [SG] vJ (l.map λe=> .inl (.W0 (Q1 false e.k))) ⟨[(m7,.W0 (Q1 false e.k))],gG t⟩ M1 acc Q):=by
   rw[cy];refine D3 (r:=20) (k:=(0,0)) (s:=0) (m:=[]) (t:=[]) B (Eq.mpr (ZZ ht hj room sp ho fm ps now _ _ ex _ _) ?_);refine D3 (r:=20) (k:=(0,0)) (s:=0) (m:=[]) (t:=[]) B (Eq.mpr (e2r ht) ?_);rw[tq];by_cases h:(y0 t j).1=a
   .have hb:Nat.beq (y0 t j).1 a=true:=by rw[h];exact Nat.beq_refl a
    rw[decide_eq_true (p:=((y0 t j).1:Int)=(a:Int)) (by rw[h])];show(Sem w b 60).ev Wx vJ _ _ _;refine D3 (r:=20) (k:=(0,0)) (s:=0) (m:=[]) (t:=[]) B (Eq.mpr (ba ht hj room sp ho fm ps now _ _ ex e.k _) ⟨vW _,by rw[he];rfl,?_⟩);have gE:W4 (ko e.k) (ps j).kn=e:=by unfold W4;rw[he];rfl
    rw[gE];induction c:decide (e.FA<=now) using Q2 with
    |true=>
     refine D3 (r:=20) (k:=(0,0)) (s:=0) (m:=[]) (t:=[true]) B (Eq.mpr (e4r ht) ?_);rw[Ad,c];refine⟨rfl,?_⟩;refine D3 (r:=20) (k:=(0,0)) (s:=0) (m:=[]) (t:=[]) B (Eq.mpr elO ?_);refine ih (λx hx=>hl x (a5 _ hx)) (.inr ⟨_,rfl⟩) λt2=> ?_;have:=q t2;unfold yA Q5 at this⊢;rw[hb,cond_true,List.filter_cons_of_pos (p:=λe:Ent=>decide (e.FA<=now)) c,R6] at this;rw[hb,cond_true,i7];exact this
    |false=>
     refine D3 (r:=20) (k:=(0,0)) (s:=0) (m:=[]) (t:=[false]) B (Eq.mpr (e4r ht) ?_);rw[Ad,c];refine⟨rfl,?_⟩;refine ih (λx hx=>hl x (a5 _ hx)) (.inr ⟨_,rfl⟩) λt2=> ?_;have:=q t2;unfold yA Q5 at this⊢;rw[hb,cond_true,List.filter_cons_of_neg (by rw[c];decide)] at this;rw[hb,cond_true];exact this
   .have hb:Nat.beq (y0 t j).1 a=false:=by
     induction c:Nat.beq (y0 t j).1 a using Q2 with
     |false=>rfl
     |true=>exact absurd (V9 c) h
    rw[decide_eq_false (p:=((y0 t j).1:Int)=(a:Int)) (by lia)];show F4 _ _ _ _ _ _ _ _ _ _;refine ih (λx hx=>hl x (a5 _ hx)) (.inr ⟨_,rfl⟩) λt2=> ?_;have:=q t2;unfold yA at this⊢;rw[hb] at this⊢;exact this
  rcases hL with rfl|⟨v,rfl⟩
  .rw[wq];exact go
  .rw[xq];exact go
theorem ON(p:Nat)(e:Ent):(FH p e.k).D1=(n7 p e).D1:=by
 unfold FH n7 Q1;rw[o5 _,o5 _]
noncomputable def BR(es:List Ent):List Ent->List Ent
 |[]=>es
 |e::l=>BR (D6 e.k es) l
theorem DR{l:List Ent}:∀{es:List Ent},BR es (Q5 now l)=i9 now es l:=by
 induction l with
 |nil=>
  intro es;exact rfl
 |cons e l ih=>
  intro es;unfold Q5 i9;induction c:decide (e.FA<=now) using Q2 with
  |true=>
   rw[List.filter_cons_of_pos (p:=λe:Ent=>decide (e.FA<=now)) c,cond_true];exact ih
  |false=>
   rw[List.filter_cons_of_neg (by rw[c];decide),cond_false];exact ih
noncomputable def TG(o1 o2 o3:n0)(ds:List Dt):List n0:=[.lst (ds.map V.W0),o1,o2,o3]
theorem cQ(ht:I0 t)(hj:j<5){va:Option V}(hv:∀u,va=some u->u.lt (wN t)){ex:List n0}(h:∀o∈ex,o.lt (wN t+4+ex.length)):Good (wN t+4+ex.length) (hO t room sp ho fm ps now va (some (G5 t j)) (some (GD t j))++ex):=by
 refine⟨by rw[o8,t8 ht],rfl,λo ho=> ?_⟩;rcases R5.mp ho with h1|h1
 .unfold hO at h1;rcases R5.mp h1 with h1|h1
  .exact n0.O5 (bC ht o h1) (by lia)
  .refine n0.O5 (n:=wN t) ?_ (by lia);simp only[M4,v8,or_false] at h1;rcases h1 with rfl|rfl|rfl|rfl
   .intro u e;obtain rfl:=si e;trivial
   .exact hv
   .intro u e;obtain rfl:=si e;trivial
   .intro u e;obtain rfl:=si e;exact pW ht hj (by exact j6 _)
 .exact h o h1
theorem wW(ha:a<t):∀q∈UL t a,q.2.lt (wN t+5):=by
 intro q hq;simp only[UL,lO,List.cons_append,List.nil_append,M4,v8,or_false] at hq;rcases hq with rfl|rfl|rfl
 .show 4<_;unfold wN;exact kB _ _
 .show aI a<_;unfold aI wN;lia
 .show wN t+4<_;exact j6 _
theorem Hh(ha:a<t){v:V}{M:Nat}(hv:v.lt M)(hM:wN t+5<=M):∀q∈uX t a v,q.2.lt M:=by
 intro q hq;rcases R5.mp hq with hq|hq
 .exact sA (wW ha q hq) hM
 .rw[l9.mp hq];exact hv
theorem ia:∀p∈k5 t,p.2<wN t+4:=by
 intro p hp;simp only[k5,M4,v8,or_false] at hp;rcases hp with rfl|rfl|rfl|rfl<;>(show _<_;simp only[];lia)
theorem xJ{y:Str}(h:lk y (k5 t)=some i):i<wN t+4:=ia _ (u7 h)
theorem gy{v x:V}{K:J2->St->Prop}:n6 R (k4 wJ) (.inl v) (I1 Z7) ⟨uX t a x,k5 t⟩ σ K=K ⟨uX t a x++[(m7,v)],k5 t⟩ σ:=by kernel_rfl
theorem xW{A:List n0}{x y:Dt}{ds:List V}{r:List n0}(h:x.D1=y.D1):E3 (A++ .lst (ds++[.W0 x])::r)=E3 (A++ .lst (ds++[.W0 y])::r):=by
 unfold E3;rw[w8,w8,R6,R6];congr 2;show n0.lst ((ds++[V.W0 x]).map V.D1)= .lst ((ds++[V.W0 y]).map V.D1);rw[w8,w8];show n0.lst (_++[V.W0 x.D1])= .lst (_++[V.W0 y.D1]);rw[h]
theorem zq(B:k3 w b)(ht:I0 t)(hj:j<5)(ha:a<t){va:Option V}(hva:∀u,va=some u->u.lt (wN t)){o1 o2 o3:n0}(g1:o1.lt (wN t+8))(g2:o2.lt (wN t+8))(g3:o3.lt (wN t+8)){v:V}(hv:v.lt (wN t+8)){K:KS}{l:List Ent}:∀{ps:Nat->Port}{ds:List Dt}{tp:List Bool},(keysOf l).Nodup->(∀e∈l,C5 e.k (ps j).kn=some e)->(ps j).kn.length<=3->ds.length+l.length<=100->
 (∀t2,K .next ⟨uX t a v,k5 t⟩ ⟨hO t room sp ho fm (W2 ps j {ps j with kn:=BR (ps j).kn l}) now va (some (G5 t j)) (some (GD t j))++TG o1 o2 o3 (ds++l.map (n7 (y0 t j).2)),t2⟩)->
 U5 (Sem w b 60) (k4 wJ) qW (I1 Z7) (l.map λe=> .inl (.W0 (Q1 false e.k))) ⟨uX t a v,k5 t⟩ ⟨hO t room sp ho fm ps now va (some (G5 t j)) (some (GD t j))++TG o1 o2 o3 ds,tp⟩ K:=by
 induction l with
 |nil=>
  intro ps ds tp _ _ _ _ q;have:=q tp;rw[List.map_nil,VG] at this;rw[show({ps j with kn:=BR (ps j).kn []}:Port)=ps j from rfl,G7] at this;exact this
 |cons e l ih=>
  intro ps ds tp nd hf hl hn q;rw[R6];rw[T7];rw[gy];have he:C5 (ko e.k) (ps j).kn=some e:=by rw[uW _];exact hf e M3
  refine D0 (H7.mp (show(e.k::keysOf l).Nodup from nd)) λn1 n2=> ?_;have hc:ds.length+(l.length+1)<=100:=hn;refine l8 (QB (L5 (r:=20) (k:=(0,0)) (s:=0) (m:=[]) (t:=[]) B (Eq.mpr (tW ht hj room sp ho fm ps now va (ds.map V.W0) o1 o2 o3 e.k a v λg L c z=>g= .next/\L=Vx t a v e.k/\c=k5 t/\z=some (FH (y0 t j).2 e.k,some (.lst (ds.map V.W0++[.ref (wN t+13)])),E3 (hO t room sp ho fm (W2 ps j (rW (ko e.k) (ps j))) now va (some (G5 t j)) (some (GD t j))++[.lst (ds.map V.W0++[.W0 (FH (y0 t j).2 e.k)]),o1,o2,o3]))) ⟨vW _,by lia,by rw[he];rfl,⟨Bd,by decide⟩,⟨Bd,by decide⟩,?_⟩)) λg V8 F1 hz=> ?_)
  .rw[show Nat.ble (ds.map V.W0).length 100000=true from Nat.ble_eq_true_of_le (by rw[KD _];lia)];exact⟨rfl,rfl,rfl,rfl⟩
  refine kD hz λB0=> ?_;clear hz;subst B0;intro z1 z2 z3;unfold nq at z3;refine u0 (HJ.mp z3) λB0=> ?_;obtain⟨d,H2⟩:=B0;intro hfz e2;simp only[Prod.mk.injEq] at e2;refine R2 e2 λB0=> ?_;clear e2;subst B0;intro e3 e4;have e5:ds.map V.W0++[V.W0 (n7 (y0 t j).2 e)]=(ds++[n7 (y0 t j).2 e]).map V.W0:=by rw[w8];rfl
  have G:Good (wN t+8) (hO t room sp ho fm (W2 ps j (rW (ko e.k) (ps j))) now va (some (G5 t j)) (some (GD t j))++TG o1 o2 o3 (ds++[n7 (y0 t j).2 e])):=cQ ht hj hva (ex:=TG o1 o2 o3 (ds++[n7 (y0 t j).2 e])) (λx hx=>by
   simp only[TG,M4,v8,or_false] at hx;rcases hx with rfl|rfl|rfl|rfl
   .refine sJ λv hv=> ?_;refine u0 (z5.mp hv) λd _ B0=> ?_;subst B0;exact⟨d,rfl⟩
   .exact g1
   .exact g2
   .exact g3)
  have gz:=(Goes.mW (w:=w) (b:=b) (k0:=(hO t room sp ho fm ps now va (some (G5 t j)) (some (GD t j))++TG o1 o2 o3 ds).length) hfz e3).trans (I4 (N:=wN t+8) (H2:=hO t room sp ho fm (W2 ps j (rW (ko e.k) (ps j))) now va (some (G5 t j)) (some (GD t j))++TG o1 o2 o3 (ds++[n7 (y0 t j).2 e])) (by rw[o8,t8 ht];exact j6 _) (by exact kB _ _) (by
   refine Eq.trans e4 (Eq.trans (xW (ON _ e)) ?_);rw[e5];rfl) G.ln G.pl G.lt)
  refine⟨.next,⟨uX t a v,k5 t⟩,_,[],_,gz,trivial,⟨λy v2 e2=>⟨v2,by rw[z1];exact B6 e2,v2,.inl rfl,v2,⟨rfl,Hh ha hv (by lia) _ (u7 e2)⟩,rfl⟩,λy i e2=>⟨by rw[z2];exact e2,?_⟩⟩,?_⟩
  .show i<(hO t room sp ho fm ps now va (some (G5 t j)) (some (GD t j))++TG o1 o2 o3 ds).length;rw[o8,t8 ht];have:=xJ e2;exact MH (by assumption) (jB _ _)
  .have e6:(W2 ps j (rW (ko e.k) (ps j)) j).kn=D6 e.k (ps j).kn:=by rw[M5,uW _];rfl
   refine ih n2 (λx hx=> ?_) (by rw[e6];exact V7 YB hl) (by rw[o8];show ds.length+1+_<=_;lia) λt2=> ?_
   .rw[e6,bG (λh=>n1 (by rw[h.symm];exact d5 (f:=(·.k)) hx))];exact hf x (a5 _ hx)
   .have:=q t2;unfold BR at this;rw[R6] at this;rw[EH,e6,M5,i7];exact this
end
noncomputable def vX(t a:Nat)(now:Int)(j:Nat)(ps:Nat->Port):Nat->Port:=W2 ps j (bif Nat.beq (y0 t j).1 a then nW now (ps j) else ps j)
noncomputable def dQ(t a:Nat)(now:Int)(j:Nat)(ps:Nat->Port):List Dt:=(yA t j a now (T2 (ps j).kn)).map (n7 (y0 t j).2)
noncomputable def ja(t a:Nat)(now:Int):List Nat->(Nat->Port)->Nat->Port
 |[],ps=>ps
 |j::js,ps=>ja t a now js (vX t a now j ps)
noncomputable def Cd(t a:Nat)(now:Int):List Nat->(Nat->Port)->List Dt
 |[],ps=>[]
 |j::js,ps=>dQ t a now j ps++Cd t a now js (vX t a now j ps)
theorem Aq(t a:Nat)(now:Int)(ps:Nat->Port):ja t a now [] ps=ps:=rfl
theorem yW(t a:Nat)(now:Int)(j:Nat)(js:List Nat)(ps:Nat->Port):ja t a now (j::js) ps=ja t a now js (vX t a now j ps):=rfl
theorem zW(t a:Nat)(now:Int)(j:Nat)(js:List Nat)(ps:Nat->Port):Cd t a now (j::js) ps=dQ t a now j ps++Cd t a now js (vX t a now j ps):=rfl
section
variable{w:World}{b:Heap}{n:Nat}{t a j i p m N:Nat}{room:Int}{sp ho fm:Nat->Int}{ps ps' ps0:Nat->Port}{now sc:Int}{src:n0}{R:Rec}{fr:J2}{σ:St}{O3:List (Str×Nat)}{sec:UInt8×UInt8->Int}{τ:Nat->Int}
theorem yJ:s8=[T1 s8 0]++([T1 s8 1]++[wJ]):=by kernel_rfl
theorem Bq{K:m9->List w5->St->Prop}:P4 R (k4 wJ) (y5 wJ) (I1 Z7) fr σ K=R.ev (y5 wJ) (I1 Z7) fr σ (ku K):=by kernel_rfl
theorem evG{v:V}{Q:K1}:(run (C0 (0,0) 0 []) 20).ev (y5 wJ) (I1 Z7) ⟨uX t a v,k5 t⟩ σ Q=Q v σ:=by kernel_rfl
theorem AW{p:Port}:({p with kn:=BR p.kn (yA t j a now (T2 p.kn))}:Port)=bif Nat.beq (y0 t j).1 a then nW now p else p:=by
 unfold yA;induction Nat.beq (y0 t j).1 a using Q2 with
 |true=>rw[cond_true,cond_true,DR];rfl
 |false=>rfl
theorem eQ{l:List Ent}:(yA t j a now l).Sublist l:=by
 unfold yA;induction Nat.beq (y0 t j).1 a using Q2 with
 |true=>exact List.filter_sublist
 |false=>exact List.nil_sublist _
theorem ka(B:k3 w b)(ht:I0 t)(hj:j<5)(ha:a<t)(nd:(keysOf (ps j).kn).Nodup)(hl:(ps j).kn.length<=3){o:n0}(iP:o.lt (wN t+6)){vk:Option V}{ds:List Dt}(hn:ds.length<=90){tp:List Bool}{K:KS}
 (q:∀t2,K .next ⟨UL t a,k5 t⟩ ⟨hO t room sp ho fm (vX t a now j ps) now (some (iF (a:Int))) (some (G5 t j)) (some (GD t j))++[.lst ((ds++dQ t a now j ps).map V.W0),o],t2⟩):
 R0 w b 60 s8 (I1 Z7) ⟨UL t a,k5 t⟩ ⟨hO t room sp ho fm ps now (some (iF (a:Int))) (some (G5 t j)) vk++[.lst (ds.map V.W0),o],tp⟩ K:=by
 refine l8 ?_;rw[yJ];refine w3 (L5 (r:=20) (k:=(0,0)) (s:=0) (m:=[]) (t:=[]) B (Eq.mpr (YZ ht hj room sp ho fm ps now _ vk [.lst (ds.map V.W0),o] [(j9,.ref (aI a)),(S9,.ref (wN t+4))] _) ?_));refine w3 (C4 B ?_);show JJ (Sem w b 60) (T1 s8 1) (I1 Z7) ⟨UL t a,k5 t⟩ _ _;rw[uq (L:=[]),vq];refine D3 (r:=20) (k:=(0,0)) (s:=0) (m:=[]) (t:=[]) B (Eq.mpr (sW ht hj room sp ho fm ps now _ _ (.lst (ds.map V.W0)) o _ _) ⟨hl,?_⟩);have ln:(hO t room sp ho fm ps now (some (iF (a:Int))) (some (G5 t j)) (some (GD t j))++[n0.lst (ds.map V.W0),o]).length=wN t+6:=by rw[o8,t8 ht];rfl
 unfold pG;rw[F5 ln];show gd _ _;rw[A6 ln,yC];have hsl:(T2 (ps j).kn).length<=3:=by rw[P8];exact hl
 have hb:Nat.ble ((T2 (ps j).kn).map ((λv=>(.inl v:w5))∘λe=> .W0 (Q1 false e.k))).length 1000=true:=by
  rw[KD _];exact Nat.ble_eq_true_of_le (by exact V7 (by assumption) (kB _ _))
 rw[hb,i7];have hfn:∀e∈T2 (ps j).kn,C5 e.k (ps j).kn=some e:=λe he=>YF nd (iC.mp he);refine yq B ht hj (l:=T2 (ps j).kn) hfn (.inl rfl) λt2=> ?_;rw[List.nil_append _];have lb:∀{x:n0},(hO t room sp ho fm ps now (some (iF (a:Int))) (some (G5 t j)) (some (GD t j))++([n0.lst (ds.map V.W0),o]++[x])).length=wN t+7:=λ{x}=>by rw[o8,t8 ht];rfl
 show R0 w b 60 [wJ] (I1 Z7) ⟨uX t a (.ref (hO t room sp ho fm ps now (some (iF (a:Int))) (some (G5 t j)) (some (GD t j))++([n0.lst (ds.map V.W0),o]++[_])).length),k5 t⟩ ⟨(hO t room sp ho fm ps now (some (iF (a:Int))) (some (G5 t j)) (some (GD t j))++([n0.lst (ds.map V.W0),o]++[_]))++[.lst _],t2⟩ _;rw[lb];refine C4 B (P6 (by kernel_rfl) ?_);rw[Bq];refine d7 (t:=[]) (D3 (r:=20) (k:=(0,0)) (s:=0) (m:=[]) (t:=[]) B (Eq.mpr evG ?_));unfold ku;rw[F5 lb];show U5 _ _ _ _ _ _ _ _;rw[A6 lb,yC,i7];have lk1:∀{l:List Ent}{M:Nat},(n0.D4 (.lst (l.map λe=> .W0 (Q1 false e.k)))).lt M:=λ{l M}=>by
  intro v hv;refine u0 (z5.mp hv) λe _ B0=> ?_;subst B0;trivial
 have hs:=eQ (t:=t) (j:=j) (a:=a) (now:=now) (l:=T2 (ps j).kn);have hsn:(yA t j a now (T2 (ps j).kn)).length<=3:=V7 hs.length_le hsl;refine zq B ht hj ha (va:=some (iF (a:Int))) (λu e=>by obtain rfl:=si e;trivial) (o1:=o) (n0.O5 iP (by lia)) (o2:= .D4 (.lst ((T2 (ps j).kn).map λe=> .W0 (Q1 false e.k)))) lk1 (o3:= .D4 (.lst ((yA t j a now (T2 (ps j).kn)).map λe=> .W0 (Q1 false e.k)))) lk1 (v:= .ref (wN t+7)) (by show wN t+7<_;exact j6 _) (l:=yA t j a now (T2 (ps j).kn)) (ds:=ds) (List.Nodup.sublist (hs.map _) (ZP nd).1) (λe he=>hfn e (hs.subset he)) hl (by lia) λt3=> ?_;rw[AW];have G:Good (wN t+6) (hO t room sp ho fm (vX t a now j ps) now (some (iF (a:Int))) (some (G5 t j)) (some (GD t j))++[.lst ((ds++dQ t a now j ps).map V.W0),o]):=cQ ht hj (λu e=>by obtain rfl:=si e;trivial) (ex:=[.lst ((ds++dQ t a now j ps).map V.W0),o]) (λx hx=>by
  simp only[M4,v8,or_false] at hx;rcases hx with rfl|rfl
  .refine sJ λv hv=> ?_;refine u0 (z5.mp hv) λd _ B0=> ?_;subst B0;exact⟨d,rfl⟩
  .exact iP)
 have l0:(hO t room sp ho fm ps now (some (iF (a:Int))) (some (G5 t j)) vk++[n0.lst (ds.map V.W0),o]).length=wN t+6:=by rw[o8,t8 ht];rfl
 refine⟨.next,⟨UL t a,k5 t⟩,_,[],_,I4 (N:=wN t+6) (H2:=hO t room sp ho fm (vX t a now j ps) now (some (iF (a:Int))) (some (G5 t j)) (some (GD t j))++[.lst ((ds++dQ t a now j ps).map V.W0),o]) (by show(hO t room sp ho fm ps now (some (iF (a:Int))) (some (G5 t j)) vk++[n0.lst (ds.map V.W0),o]).length<=_;rw[l0];exact j6 _) (by exact kB _ _) ?_ G.ln G.pl G.lt,trivial,⟨λy v2 e2=>⟨v2,B6 e2,v2,⟨rfl,sA (wW ha _ (u7 e2)) (by lia)⟩,rfl⟩,λy i e2=>⟨e2,?_⟩⟩,q []⟩
 .show(List.take _ (hO t room sp ho fm (vX t a now j ps) now (some (iF (a:Int))) (some (G5 t j)) (some (GD t j))++TG o _ _ (ds++dQ t a now j ps))).map _=_;rw[show∀{A:List n0}{y z:n0},A++TG o y z (ds++dQ t a now j ps)=(A++[.lst ((ds++dQ t a now j ps).map V.W0),o])++[y,z] fromλ{A y z}=>by rw[i7];rfl];rw[List.take_append_of_le_length (OH G.ln.symm),G.ln.symm,List.take_length]
 .show i<(hO t room sp ho fm ps now (some (iF (a:Int))) (some (G5 t j)) vk++[n0.lst (ds.map V.W0),o]).length;rw[l0];have:=xJ e2;lia
end
noncomputable def stC:Stmt:=T1 dG 2
noncomputable def Dd:Expr:=ZF (KV stC)
noncomputable def nmO:Expr:=aG (KV stC)
noncomputable def lW:List (Str×V):=[(u6,.ref 4)]
noncomputable def CE(w:World)(b:Heap):oG:=λf args σ Q=>sX (isM 53 11 f) (some (F0 w b 61 f args σ Q)) (C0 (0,0) 0 [] f args σ Q)
noncomputable def PN(t:Nat)(v:Option V):Prop:=∀u,v=some u->u.lt (wN t)
section
variable{w:World}{b:Heap}{n:Nat}{t a j i p m N:Nat}{room:Int}{sp ho fm:Nat->Int}{ps ps' ps0:Nat->Port}{now sc:Int}{src:n0}{R:Rec}{fr:J2}{σ:St}{O3:List (Str×Nat)}{sec:UInt8×UInt8->Int}{τ:Nat->Int}
theorem Cq(B:k3 w b):∀n,61<=n->s9 w b n (CE w b):=λn hn=>dJ hn (GF B _ _ _ n (V7 (by decide) hn))
theorem la(B:k3 w b)(r:Nat):M6 w b (61+r) (run (CE w b) r):=K9 B 61 (λn h=>Cq B n h) r
noncomputable def HD(w:World)(b:Heap)(t a:Nat):Prop:=∀(room:Int)(sp ho fm:Nat->Int)(ps:Nat->Port)(now:Int)(va ve vk:Option V)(ex:List n0)(Q:K1),(run (CE w b) 20).ev Dd (I1 Z7) ⟨UL t a,k5 t⟩ ⟨hO t room sp ho fm ps now va ve vk++ex,[]⟩ Q=F0 w b 61 aD [.ref (aI a),iT now] ⟨hO t room sp ho fm ps now va ve vk++ex,[]⟩ Q
theorem Dq:HD w b 3 0:=by unfold HD;intros;kernel_rfl
theorem Fq:HD w b 3 1:=by unfold HD;intros;kernel_rfl
theorem Gq:HD w b 3 2:=by unfold HD;intros;kernel_rfl
theorem Hq:HD w b 4 0:=by unfold HD;intros;kernel_rfl
theorem Iq:HD w b 4 1:=by unfold HD;intros;kernel_rfl
theorem Jq:HD w b 4 2:=by unfold HD;intros;kernel_rfl
theorem Kq:HD w b 4 3:=by unfold HD;intros;kernel_rfl
theorem Lq:HD w b 5 0:=by unfold HD;intros;kernel_rfl
theorem Mq:HD w b 5 1:=by unfold HD;intros;kernel_rfl
theorem Nq:HD w b 5 2:=by unfold HD;intros;kernel_rfl
theorem Oq:HD w b 5 3:=by unfold HD;intros;kernel_rfl
theorem Pq:HD w b 5 4:=by unfold HD;intros;kernel_rfl
theorem Ih{Q:Nat->Nat->Prop}(a0:Q 3 0)(a1:Q 3 1)(a2:Q 3 2)(b0:Q 4 0)(b1:Q 4 1)(b2:Q 4 2)(b3:Q 4 3)(c0:Q 5 0)(c1:Q 5 1)(c2:Q 5 2)(c3:Q 5 3)(c4:Q 5 4){t a:Nat}(ht:I0 t)(ha:a<t):Q t a:=by
 rcases ht with rfl|rfl|rfl
 .exact p3 ha a0 a1 a2
 .exact p4 ha b0 b1 b2 b3
 .exact p5 ha c0 c1 c2 c3 c4
theorem ma(ht:I0 t)(ha:a<t):HD w b t a:=Ih (Q:=HD w b) Dq Fq Gq Hq Iq Jq Kq Lq Mq Nq Oq Pq ht ha
theorem Qq(ht:I0 t){va ve vk:Option V}{Q:K1}:(run (C0 (0,0) 0 []) 20).ev (y5 uJ) (I1 Z7) ⟨UL t a,k5 t⟩ ⟨hO t room sp ho fm ps now va ve vk++[.lst []],[]⟩ Q=Q (.ref (wN t+5)) ⟨hO t room sp ho fm ps now va ve vk++[.lst []]++[.lst ((List.range 5).map (G5 t))],[]⟩:=by
 rcases ht with rfl|rfl|rfl<;>kernel_rfl
theorem Rq(ht:I0 t){v:V}{va ve vk:Option V}{ex:List n0}{tp:List Bool}{K:J2->St->Prop}:n6 R (k4 uJ) (.inl v) (I1 Z7) ⟨UL t a,k5 t⟩ ⟨hO t room sp ho fm ps now va ve vk++ex,tp⟩ K=K ⟨UL t a,k5 t⟩ ⟨hO t room sp ho fm ps now va (some v) vk++ex,tp⟩:=by
 rcases ht with rfl|rfl|rfl<;>kernel_rfl
theorem Jh{K:m9->List w5->St->Prop}:P4 R (k4 uJ) (y5 uJ) (I1 Z7) fr σ K=R.ev (y5 uJ) (I1 Z7) fr σ (pG K):=by kernel_rfl
theorem iy(hm:σ.heap.length=m){K:KS}:(run (C0 (0,0) 0 []) 20).ex [T1 dG 0] (I1 Z7) ⟨lO a,O3⟩ σ K=K .next ⟨lO a++[(S9,.ref m)],O3⟩ (σ.push (.lst [])):=by subst hm;kernel_rfl
theorem s3O{K:KS}:JJ R stC (I1 Z7) fr σ K=R.ev Dd (I1 Z7) fr σ (λa P0=>R.ev nmO (I1 Z7) fr P0 (λc M1=>T8 .NotEq a c M1 (λd v5=>I6 d v5 (λvC=>R.ex (zZ stC) (I1 Z7) fr vC K) (λvC=>R.ex [] (I1 Z7) fr vC K)))):=by kernel_rfl
theorem jy{C:oG}{Q:K1}:(run C 20).ev nmO (I1 Z7) ⟨UL t a,O3⟩ σ Q=Q (.ref (wN t+4)) σ:=by kernel_rfl
theorem VL:dG=[T1 dG 0]++([uJ]++[stC]):=by kernel_rfl
theorem ky(ht:I0 t){k:Int}{r:Nat}{va ve vk:Option V}{tp:List Bool}{K:J2->St->Prop}:n6 R (k4 zd) (.inr (iF k,.ref r)) (I1 Z7) ⟨lW,k5 t⟩ ⟨hO t room sp ho fm ps now va ve vk,tp⟩ K=K ⟨lW++[(j9,.ref r)],k5 t⟩ ⟨hO t room sp ho fm ps now (some (iF k)) ve vk,tp⟩:=by
 rcases ht with rfl|rfl|rfl<;>kernel_rfl
theorem Sq{K:m9->List w5->St->Prop}:P4 R (k4 zd) (y5 zd) (I1 Z7) fr σ K=nG R (callArgs (y5 zd)) (I1 Z7) fr σ (SP K):=by kernel_rfl
theorem ly(ht:I0 t){Q:List V->St->Prop}{C:oG}:nG (run C 20) (callArgs (y5 zd)) (I1 Z7) ⟨lW,k5 t⟩ ⟨hO t room sp ho fm ps now none none none,[]⟩ Q=Q [.ref 5] ⟨hO t room sp ho fm ps now none none none,[]⟩:=by
 rcases ht with rfl|rfl|rfl<;>kernel_rfl
theorem my(ht:I0 t):(match D5 ⟨hO t room sp ho fm ps now none none none,[]⟩ (.ref 5) with|some (l,xs)=>some (l,CA 0 xs)|none=>none)=some ([],(List.range t).map λ(a:Nat)=>(.inr (iF (a:Int),.ref (aI a)):w5)):=by
 rcases ht with rfl|rfl|rfl<;>kernel_rfl
theorem Kh(ht:I0 t){tp:List Bool}{Q:K1}:E8 R Z7 [.ref 4,iT now] ⟨wH ⟨t,room,sp,ho,fm⟩ ps .any,tp⟩ Q=R.ex (A5 Z7) (I1 Z7) ⟨lW,k5 t⟩ ⟨hO t room sp ho fm ps now none none none,tp⟩ (WA Q):=by
 rcases ht with rfl|rfl|rfl<;>kernel_rfl
theorem ny:A5 Z7=[zd]++[T1 (A5 Z7) 1]:=by kernel_rfl
theorem oy{C:oG}{K:KS}:(run C 20).ex [T1 (A5 Z7) 1] (I1 Z7) fr σ K=K (.ret (.bool false true)) fr σ:=by kernel_rfl
noncomputable def Gon(d:Dt):Prop:=∃p e,d=n7 p e
theorem pa{m:Nat}{l:List Dt}(g:∀d∈l,Gon d){Q:K1}(h:J0 σ.heap m=some (.lst (l.map V.W0)))(q:∀s,Q (.bool s false) σ):T8 .NotEq (.W0 (.lst l)) (.ref m) σ Q:=by
 have p:∀d∈l,vd d=true/\dep d<=9:=λd hd=>w6 (g d hd) λp e x=>x▸⟨rfl,by show 3<=9;decide⟩;exact qJ (a:= .W0 (.lst l)) (H:=σ.heap) (tp:=σ.LD) rfl (uE h) p rfl q
theorem zJ(h:i≠j):vX t a now j ps i=ps i:=pA h
theorem BW{js:List Nat}:∀{ps:Nat->Port},js.Nodup->∀i,ja t a now js ps i=if i∈js/\(y0 t i).1=a then nW now (ps i) else ps i:=by
 induction js with
 |nil=>
  intro ps _ i;simp[Aq,yW]
 |cons j js ih=>
  intro ps nd i;refine D0 (H7.mp nd) λn1 n2=> ?_;rw[yW];rw[ih n2 i];by_cases e:i=j
  .subst e;rw[if_neg (λh=>n1 h.1)];show W2 ps i _ i=_;rw[M5];induction c:Nat.beq (y0 t i).1 a using Q2 with
   |true=>rw[if_pos ⟨M3,V9 c⟩];rfl
   |false=>rw[if_neg (λh=>by rw[h.2] at c;rw[Nat.beq_refl] at c;exact vG c)];rfl
  .rw[zJ e];simp[e]
theorem ra{js:List Nat}:∀{ps:Nat->Port},js.Nodup->∀i,tJ now js ps i=if i∈js then kC now (ps i) else ps i:=by
 induction js with
 |nil=>
  intro ps _ i;simp[yh,MN]
 |cons j js ih=>
  intro ps nd i;refine D0 (H7.mp nd) λn1 n2=> ?_;rw[MN];rw[ih n2 i];by_cases e:i=j
  .subst e;rw[if_neg n1,M5,if_pos M3]
  .rw[pA e];simp[e]
noncomputable def ua(t a:Nat)(now:Int)(ps:Nat->Port):Nat->Port:=tJ now (xR t a) (ja t a now (List.range 5) ps)
theorem CW{i:Nat}:ua t a now ps i=if i<5/\(y0 t i).1=a then kC now (nW now (ps i)) else ps i:=by
 unfold ua;rw[ra NN.2.1 _,BW List.nodup_range _];have hm:i∈xR t a↔i<5/\(y0 t i).1=a:=⟨λh=>NN.1 i h,λh=>List.mem_filter.mpr ⟨NJ.mpr h.1,by rw[h.2];exact Nat.beq_refl a⟩⟩;by_cases h:i<5/\(y0 t i).1=a
 .rw[if_pos (hm.mpr h),if_pos h,if_pos ⟨NJ.mpr h.1,h.2⟩]
 .rw[if_neg (λx=>h (hm.mp x)),if_neg h,if_neg (λx=>h ⟨NJ.mp x.1,x.2⟩)]
theorem wa(h:Inv room sec τ ps):Inv room sec τ (ua t a now ps)/\Kept ps (ua t a now ps):=by
 refine⟨λj hj=> ?_,⟨λj=> ?_,λj=> ?_,λj=> ?_⟩⟩
 .rw[CW];have hp:=h j hj
  split
  .exact⟨VZ hp.pi,hp.nm,hp.eq,hp.nn,hp.wt⟩
  .exact hp
 all_goals
  rw[CW]
  split<;>rfl
theorem ER{l:List Ent}:Q5 now (l.map z0)=(Q5 now l).map z0:=by
 induction l with
 |nil=>
  exact rfl
 |cons e l ih=>
  rw[R6];unfold Q5;induction c:decide (e.FA<=now) using Q2 with
  |true=>
   rw[List.filter_cons_of_pos (p:=λe:Ent=>decide (e.FA<=now)) (show decide ((z0 e).FA<=now)=true from c),List.filter_cons_of_pos (p:=λe:Ent=>decide (e.FA<=now)) c,R6];rw[show(l.map z0).filter (λe=>decide (e.FA<=now))=(l.filter λe=>decide (e.FA<=now)).map z0 from ih]
  |false=>
   rw[List.filter_cons_of_neg (by rw[show(z0 e).FA=e.FA from rfl,c];decide),List.filter_cons_of_neg (by rw[c];decide)];exact ih
theorem Lh{js:List Nat}:∀{ps ps':Nat->Port},js.Nodup->(∀j∈js,(ps j).kn=(ps' j).es.map z0)->Cd t a now js ps=nC t now (js.filter λj=>Nat.beq (y0 t j).1 a) ps':=by
 induction js with
 |nil=>
  intro ps ps' _ _;exact rfl
 |cons j js ih=>
  intro ps ps' nd h;refine D0 (H7.mp nd) λn1 n2=> ?_;have OA:∀i∈js,i≠j:=λi hi e=>n1 (e▸hi);rw[zW];induction c:Nat.beq (y0 t j).1 a using Q2 with
  |true=>
   rw[List.filter_cons_of_pos (p:=λj=>Nat.beq (y0 t j).1 a) c];rw[aQ];rw[ih (ps':=W2 ps' j (kC now (ps' j))) n2 (λi hi=>by rw[zJ (OA i hi),pA (OA i hi)];exact h i (a5 _ hi))];congr 1;unfold dQ yA;rw[c,cond_true,h j M3,jC,ER,yC];rfl
  |false=>
   rw[List.filter_cons_of_neg (by rw[c];decide)];have e0:dQ t a now j ps=[]:=by unfold dQ yA;rw[c];rfl
   rw[e0,List.nil_append _];exact ih n2 (λi hi=>by rw[zJ (OA i hi)];exact h i (a5 _ hi))
theorem xa{js:List Nat}:∀{ps:Nat->Port},∀d∈Cd t a now js ps,Gon d:=by
 induction js with
 |nil=>
  intro ps d h;cases h
 |cons j js ih=>
  intro ps d h;rw[zW] at h;rcases R5.mp h with h|h
  .refine u0 (z5.mp h) λe _ B0=> ?_;subst B0;exact⟨_,e,rfl⟩
  .exact ih d h
end
section
variable{w:World}{b:Heap}{n:Nat}{t a j i p m N:Nat}{room:Int}{sp ho fm:Nat->Int}{ps ps' ps0:Nat->Port}{now sc:Int}{src:n0}{R:Rec}{fr:J2}{σ:St}{O3:List (Str×Nat)}{sec:UInt8×UInt8->Int}{τ:Nat->Int}
theorem Mh(B:k3 w b)(ht:I0 t)(ha:a<t){o:n0}(iP:o.lt (wN t+6)){K:KS}{js:List Nat}:∀{ps:Nat->Port}{ds:List Dt}{ve vk:Option V}{tp:List Bool},(∀j∈js,j<5)->js.Nodup->(∀j∈js,(keysOf (ps j).kn).Nodup/\(ps j).kn.length<=3)->ds.length+3*js.length<=50->PN t ve->PN t vk->
 (∀kM lM t2,PN t kM->PN t lM->K .next ⟨UL t a,k5 t⟩ ⟨hO t room sp ho fm (ja t a now js ps) now (some (iF (a:Int))) kM lM++[.lst ((ds++Cd t a now js ps).map V.W0),o],t2⟩)->
 U5 (Sem w b 81) (k4 uJ) s8 (I1 Z7) (js.map λj=> .inl (G5 t j)) ⟨UL t a,k5 t⟩ ⟨hO t room sp ho fm ps now (some (iF (a:Int))) ve vk++[.lst (ds.map V.W0),o],tp⟩ K:=by
 induction js with
 |nil=>
  intro ps ds ve vk tp _ _ _ _ c1 c2 q;have:=q ve vk tp c1 c2;rw[show Cd t a now [] ps=[] from rfl,VG] at this;exact this
 |cons j js ih=>
  intro ps ds ve vk tp h1 nd h3 hn c1 c2 q;have hj:=h1 j M3;refine D0 (h3 j M3) λhd hl=> ?_;refine D0 (H7.mp nd) λn1 n2=> ?_;have hc:ds.length+3*(js.length+1)<=50:=hn;rw[R6];rw[T7];rw[Rq ht];have hov:(dQ t a now j ps).length<=3:=by
   unfold dQ;rw[KD _];have:=(eQ (t:=t) (j:=j) (a:=a) (now:=now) (l:=T2 (ps j).kn)).length_le;rw[P8] at this;exact V7 (by assumption) (by assumption)
  refine R0.up (n:=60) (by decide) (ka B ht hj ha hd hl iP (by lia) λt2=> ?_);have OA:∀i∈js,vX t a now j ps i=ps i:=λi hi=>zJ (λh=>n1 (h▸hi));refine ih (λi hi=>h1 i (a5 _ hi)) n2 (λi hi=> ?_) (by rw[o8];lia) (λu e=>by obtain rfl:=si e;trivial) (λu e=>by obtain rfl:=si e;exact pW ht hj (by exact j6 _)) λkM lM t3 d1 d2=> ?_
  .rw[OA i hi];exact h3 i (a5 _ hi)
  .have:=q kM lM t3 d1 d2;rw[yW,zW] at this;rw[i7];exact this
theorem DW(ht:I0 t){va ve vk:Option V}(h1:PN t va)(h2:PN t ve)(h3:PN t vk):Good (wN t+4) (hO t room sp ho fm ps now va ve vk):=by
 refine⟨t8 ht,rfl,λo ho=> ?_⟩;unfold hO at ho;rcases R5.mp ho with h|h
 .exact n0.O5 (bC ht o h) (by exact jB _ _)
 .refine n0.O5 (n:=wN t) ?_ (by exact jB _ _);simp only[M4,v8,or_false] at h;rcases h with rfl|rfl|rfl|rfl
  .intro u e;obtain rfl:=si e;trivial
  .exact h1
  .exact h2
  .exact h3
theorem WL{va ve vk:Option V}{ex:List n0}:hO t room sp ho fm ps now va ve vk++ex=wH ⟨t,room,sp,ho,fm⟩ ps .any++([.cell (some (iT now)),.cell va,.cell ve,.cell vk]++ex):=by unfold hO;rw[i7]
theorem EW(B:k3 w b)(ht:I0 t)(ha:a<t)(hr:room<=3)(hI:Inv room sec τ ps){ve vk:Option V}(c1:PN t ve)(c2:PN t vk){tp:List Bool}{K:KS}
 (q:∀rj kM lM t2,PN t rj->PN t kM->PN t lM->K .next ⟨lW,k5 t⟩ ⟨hO t room sp ho fm (ua t a now ps) now rj kM lM,t2⟩):
 R0 w b 81 dG (I1 Z7) ⟨lW++[(j9,.ref (aI a))],k5 t⟩ ⟨hO t room sp ho fm ps now (some (iF (a:Int))) ve vk,tp⟩ K:=by
 have qy:∀j,j<5->(keysOf (ps j).kn).Nodup/\(ps j).kn.length<=3/\(ps j).kn=(ps j).es.map z0:=λj hj=>by
  have hp:=(hI j hj).pi;have hk:=hp.kn;refine⟨?_,?_,hk⟩
  .rw[hk];have:keysOf ((ps j).es.map z0)=keysOf (ps j).es:=by unfold keysOf;rw[yC];rfl
   rw[this];exact hp.nd
  .rw[hk,KD _];have:=hp.len;lia
 refine l8 ?_;rw[VL];have l0:(hO t room sp ho fm ps now (some (iF (a:Int))) ve vk).length=wN t+4:=t8 ht;refine w3 (R0.up (n:=60) (by decide) (L5 (r:=20) (k:=(0,0)) (s:=0) (m:=[]) (t:=[]) B (Eq.mpr (iy (a:=a) (m:=wN t+4) l0) ?_)));refine w3 ?_;show R0 w b 81 [uJ] (I1 Z7) ⟨UL t a,k5 t⟩ ⟨hO t room sp ho fm ps now (some (iF (a:Int))) ve vk++[.lst []],_⟩ _;refine C4 B (P6 (by kernel_rfl) ?_);rw[Jh];refine t5.up (n:=60) (by decide) (D3 (r:=20) (k:=(0,0)) (s:=0) (m:=[]) (t:=[]) B (Eq.mpr (Qq ht) ?_));unfold pG;have ln:(hO t room sp ho fm ps now (some (iF (a:Int))) ve vk++[n0.lst []]).length=wN t+5:=by rw[o8,l0];rfl
 rw[F5 ln,fC];show U5 _ _ _ _ _ _ _ _;rw[A6 ln,yC,i7];have lo:(n0.D4 (.lst ((List.range 5).map (G5 t)))).lt (wN t+6):=by
  intro v hv;refine u0 (z5.mp hv) λe _ B0=> ?_;subst B0;trivial
 refine Mh B ht ha lo (js:=List.range 5) (ds:=[]) (λj hj=>NJ.mp hj) List.nodup_range (λj hj=>⟨(qy j (NJ.mp hj)).1,(qy j (NJ.mp hj)).2.1⟩) (by simp) c1 c2 λkM lM t2 d1 d2=> ?_;show R0 w b 81 [stC] _ _ _ _;refine C4 B ?_;rw[s3O];refine d7 (t:=[]) ((la B 20).wC.1 ?_);rw[ma ht ha];rw[WL];have he5:∀j,j<5->(ja t a now (List.range 5) ps j).es=(ps j).es:=λj hj=>by
  rw[BW List.nodup_range _]
  split<;>rfl
 refine WZ (t2:=[false]) B ht ha (λj hj=> ?_) ?_
 .rw[he5 j hj];have hp:=(hI j hj).pi;have:=hp.len;exact⟨hp.nd,by lia⟩
 rw[WL.symm];refine(la B 20).wC.1 ?_;rw[jy];have eg:nC t now (xR t a) (ja t a now (List.range 5) ps)=Cd t a now (List.range 5) ps:=(Lh List.nodup_range λj hj=>by rw[he5 j (NJ.mp hj)];exact(qy j (NJ.mp hj)).2.2).symm;rw[eg];refine pa xa ?_ λs=>DH λOw=> ?_
 .rw[P1 (by rw[t8 ht];exact j6 _),t8 ht,Nat.sub_self _];rfl
 show R0 w b 81 [] _ _ _ _;refine YC ?_;have G:=DW (room:=room) (sp:=sp) (ho:=ho) (fm:=fm) (ps:=ua t a now ps) (now:=now) (va:=some (iF (a:Int))) (ve:=kM) (vk:=lM) ht (λu e=>by obtain rfl:=si e;trivial) d1 d2;refine⟨.next,⟨lW,k5 t⟩,hO t room sp ho fm (ua t a now ps) now (some (iF (a:Int))) kM lM,[],_,I4 (N:=wN t+4) (H2:=hO t room sp ho fm (ua t a now ps) now (some (iF (a:Int))) kM lM) ?_ (by exact kB _ _) ?_ G.ln G.pl G.lt,trivial,⟨λy v2 e2=>⟨v2,?_,v2,⟨rfl,?_⟩,rfl⟩,λy i e=>⟨e,?_⟩⟩,q _ _ _ [] (λu e=>by obtain rfl:=si e;trivial) d1 d2⟩
 .show(hO t room sp ho fm ps now (some (iF (a:Int))) ve vk).length<=_;rw[l0];exact j6 _
 .show(List.take _ (hO t room sp ho fm (ua t a now ps) now (some (iF (a:Int))) kM lM++_)).map _=_;rw[List.take_append_of_le_length (OH G.ln.symm),G.ln.symm,List.take_length]
 .exact B6 (B6 e2)
 .have:=u7 e2;simp only[lW,l9,Prod.mk.injEq] at this;rw[this.2];show 4<_;unfold wN;lia
 .show i<(hO t room sp ho fm ps now (some (iF (a:Int))) ve vk).length;rw[l0];exact xJ e
theorem Tq(B:k3 w b)(ht:I0 t)(hr:room<=3){K:KS}{m:Nat}:∀{a:Nat}{ps:Nat->Port}{va ve vk:Option V}{tp:List Bool},a+m=t->Inv room sec τ ps->PN t va->PN t ve->PN t vk->
 (∀ps' rj kM lM t2,Inv room sec τ ps'->Kept ps ps'->K .next ⟨lW,k5 t⟩ ⟨hO t room sp ho fm ps' now rj kM lM,t2⟩)->
 U5 (Sem w b 81) (k4 zd) dG (I1 Z7) ((List.range' a m).map λ(a:Nat)=>(.inr (iF (a:Int),.ref (aI a)):w5)) ⟨lW,k5 t⟩ ⟨hO t room sp ho fm ps now va ve vk,tp⟩ K:=by
 induction m with
 |zero=>
  intro a ps va ve vk tp e hI c0 c1 c2 q;exact q ps va ve vk tp hI (.refl ps)
 |succ m ih=>
  intro a ps va ve vk tp e hI c0 c1 c2 q;rw[List.range'_succ,R6];rw[T7];rw[ky ht];have ha:a<t:=by lia
  refine D0 (wa (t:=t) (a:=a) (now:=now) hI) λi1 i2=> ?_;exact EW B ht ha hr hI c1 c2 λrj kM lM t2 d0 d1 d2=>ih (a:=a+1) (by lia) i1 d0 d1 d2 λWg v0 v1 v2 t3 h3 h4=>q Wg v0 v1 v2 t3 h3 (i2.trans h4)
theorem QN(B:k3 w b)(ht:I0 t)(hr:room<=3)(hI:Inv room sec τ ps){tp:List Bool}{Q:K1}
 (q:∀ps' X t2,Inv room sec τ ps'->Kept ps ps'->Q (.bool false true) ⟨wH ⟨t,room,sp,ho,fm⟩ ps' .any++X,t2⟩):
 F0 w b 82 Z7 [.ref 4,iT now] ⟨wH ⟨t,room,sp,ho,fm⟩ ps .any,tp⟩ Q:=by
 refine z6 B ?_;rw[Kh ht];show R0 w b 81 _ _ _ _ _;rw[ny];refine w3 (J5 (t:=[]) (C4 B (P6 (by kernel_rfl) ?_)));rw[Sq];refine nJ (la B 20) (Eq.mpr (ly ht) ?_);have le:=my (room:=room) (sp:=sp) (ho:=ho) (fm:=fm) (ps:=ps) (now:=now) ht;have key:∀(l:m9)(xs:List V),D5 ⟨hO t room sp ho fm ps now none none none,[]⟩ (.ref 5)=some (l,xs)->l=[]/\CA 0 xs=(List.range t).map λ(a:Nat)=>(.inr (iF (a:Int),.ref (aI a)):w5):=λl xs e=>by
  rw[e] at le;simp only[Option.some.injEq,Prod.mk.injEq] at le;exact le
 cases hl:D5 ⟨hO t room sp ho fm ps now none none none,[]⟩ (.ref 5) with
 |none=>rw[hl] at le;exact A0 le
 |some p=>
  refine D0 (key p.1 p.2 hl) λk1 k2=> ?_;unfold SP;rw[dp,fC,hl,fC];rw[k1,k2,List.range_eq_range'];refine Tq (sec:=sec) (τ:=τ) B ht hr (by lia) hI (λu e=>by exact A0 e) (λu e=>by exact A0 e) (λu e=>by exact A0 e) λps' rj kM lM t2 h1 h2=> ?_;show R0 w b 81 _ _ _ _ _;refine J5 (t:=[]) ((la B 20).wC.2.1 ?_);rw[oy];exact q ps' _ [] h1 h2
end
noncomputable def mu:Nat->Nat->Int->Prop->Prop
 |0,_,_,P=>P
 |1,_,_,P=>P
 |_+2,0,n,P=>decide (n=0)=true/\P
 |m+2,i+1,n,P=>decide (n=0)=false/\mu (m+1) i (n -1) P
noncomputable def ry:Nat->Nat->List Bool
 |0,_=>[]
 |1,_=>[]
 |_+2,0=>[true]
 |m+2,i+1=>false::ry (m+1) i
theorem RN:∀{m i:Nat}{n:Int}{P:Prop},n=(i:Int)->P->mu m i n P
 |0,_,_,_,_,p=>p
 |1,_,_,_,_,p=>p
 |m+2,0,n,P,h,p=>⟨decide_eq_true h,p⟩
 |m+2,i+1,n,P,h,p=>⟨decide_eq_false (by omega),RN (m:=m+1) (i:=i) (by omega) p⟩
noncomputable def SN:Str:=⟨#[115,111,117,114,99,101]⟩
noncomputable def GH:Str:=⟨#[100,101,101,100]⟩
noncomputable def TN:Str:=⟨#[112,111,114,116]⟩
noncomputable def UN:Str:=⟨#[102,97,115,116]⟩
noncomputable def lS(now:Int):List (Str×V):=[(SN,.ref 3),(u6,.ref 4),(rJ,iT now)]
noncomputable def Uq(t j:Nat)(now:Int):List (Str×V):=lS now++[(Y5,G5 t j)]
noncomputable def nu(t j:Nat)(now:Int)(x:Str):List (Str×V):=Uq t j now++[(GH,.str x)]
noncomputable def mM(t j:Nat)(now:Int)(x:Str)(f:Int):List (Str×V):=nu t j now x++[(j9,.ref (aI (y0 t j).1)),(TN,.ref (pI t j+2)),(UN,iT f)]
noncomputable def sj:List Str:=[SN,u6,rJ,Y5]
noncomputable def V4(i:Nat):Str:=(J0 [⟨#[110,111,110,101]⟩,⟨#[100,111,119,110]⟩,⟨#[117,112]⟩,⟨#[117,112]⟩,⟨#[109,111,118,101,100]⟩,⟨#[114,101,110,97,109,101,100]⟩,⟨#[114,101,110,97,109,101,100]⟩,⟨#[115,104,117,116]⟩] i).getD ⟨#[]⟩
section
variable{w:World}{b:Heap}{n:Nat}{t a j i p m N:Nat}{room:Int}{sp ho fm:Nat->Int}{ps ps' ps0:Nat->Port}{now sc:Int}{src:n0}{R:Rec}{fr:J2}{σ:St}{O3:List (Str×Nat)}{sec:UInt8×UInt8->Int}{τ:Nat->Int}
noncomputable def dA(t j:Nat):Prop:=∀(room:Int)(sp ho fm:Nat->Int)(ps:Nat->Port)(now A C:Int)(P:VK),(run (C0 (0,0) 0 []) 20).ex [T1 (A5 (.fn 64)) 0] (I1 (.fn 64)) ⟨lS now,[]⟩ ⟨wH ⟨t,room,sp,ho,fm⟩ ps (A2 A C),ry 5 j⟩ (vK sj (wN t) P)=((0<(5:Int)/\small 5=true)/\(0<=Y2 A C 5/\Y2 A C 5<5)/\mu 5 j (Y2 A C 5) (P .next (O9 (Uq t j now)) [] (E3 (wH ⟨t,room,sp,ho,fm⟩ ps (A2 (g6 A C 5) (i6 A C 5))))))
noncomputable def dB(t i:Nat):Prop:=∀(room:Int)(sp ho fm:Nat->Int)(ps:Nat->Port)(now A C:Int)(d:Dt)(P:VK),(run (C0 (0,0) 0 []) 20).ex [T1 (A5 (.fn 64)) 1] (I1 (.fn 64)) ⟨lS now++[(Y5,.W0 d)],[]⟩ ⟨wH ⟨t,room,sp,ho,fm⟩ ps (A2 A C),ry 8 i⟩ (vK (sj++[GH]) (wN t) P)=((0<(8:Int)/\small 8=true)/\(0<=Y2 A C 8/\Y2 A C 8<8)/\mu 8 i (Y2 A C 8) (P .next (O9 (lS now++[(Y5,.W0 d),(GH,.str (V4 i))])) [] (E3 (wH ⟨t,room,sp,ho,fm⟩ ps (A2 (g6 A C 8) (i6 A C 8))))))
noncomputable def dC(t j:Nat):Prop:=∀(room:Int)(sp ho fm:Nat->Int)(ps:Nat->Port)(now A C:Int)(x:Str)(P:VK),(run (C0 (0,0) 0 []) 20).ex [T1 (A5 (.fn 64)) 2] (I1 (.fn 64)) ⟨nu t j now x,[]⟩ ⟨wH ⟨t,room,sp,ho,fm⟩ ps (A2 A C),[]⟩ (vK (sj++[GH,j9,TN,UN]) (wN t) P)=P .next (O9 (mM t j now x (fm (y0 t j).1))) [] (E3 (wH ⟨t,room,sp,ho,fm⟩ ps (A2 A C)))
theorem uy{t j:Nat}(ht:I0 t)(hj:j<5):dA t j:=by
 refine J1 ?_ ?_ ?_ ?_ ?_ ?_ ?_ ?_ ?_ ?_ ?_ ?_ ?_ ?_ ?_ ht hj<;>(unfold dA;intros;kernel_rfl)
theorem Nh(ht:I0 t)(hj:j<5):dA t j:=uy ht hj
theorem vy{t j:Nat}(ht:I0 t)(hj:j<5):dC t j:=by
 refine J1 ?_ ?_ ?_ ?_ ?_ ?_ ?_ ?_ ?_ ?_ ?_ ?_ ?_ ?_ ?_ ht hj<;>(unfold dC;intros;kernel_rfl)
theorem Oh(ht:I0 t)(hj:j<5):dC t j:=vy ht hj
theorem Ph(ht:I0 t)(hi:i<8):dB t i:=by
 rcases ht with rfl|rfl|rfl<;>refine p8 (Q:=dB _) hi ?_ ?_ ?_ ?_ ?_ ?_ ?_ ?_<;>(unfold dB;intros;kernel_rfl)
theorem T9{A C T:Int}(h:0<T):0<=Y2 A C T/\Y2 A C T<T:=by
 unfold Y2
 split
 .exact⟨Int.fmod_nonneg_of_pos _ h,Int.fmod_lt_of_pos _ h⟩
 .exact⟨Int.fmod_nonneg_of_pos _ h,Int.fmod_lt_of_pos _ h⟩
end
noncomputable def z7:List Stmt:=(A5 (.fn 64)).drop 3
noncomputable def upP(f:Int)(p:Port):Port:={p with up:=true,wait:=0,fast:=f,AD:=0,b6:=f}
noncomputable def mvP(g:Int)(p:Port):Port:={p with seg:=g}
section
variable{w:World}{b:Heap}{n:Nat}{t a j i p m N:Nat}{room:Int}{sp ho fm:Nat->Int}{ps ps' ps0:Nat->Port}{now sc A C:Int}{src:n0}{R:Rec}{fr:J2}{σ:St}{O3:List (Str×Nat)}{sec:UInt8×UInt8->Int}{τ:Nat->Int}
noncomputable def qu(t j i:Nat):Prop:=∀(room:Int)(sp ho fm:Nat->Int)(ps:Nat->Port)(now A C:Int)(P:VK),(run (C0 (0,0) 0 []) 20).ex z7 (I1 (.fn 64)) ⟨mM t j now (V4 i) (fm (y0 t j).1),[]⟩ ⟨wH ⟨t,room,sp,ho,fm⟩ ps (A2 A C),[]⟩ (vK [] (wN t) P)=P (.ret (.bool true true)) [] [] (E3 (wH ⟨t,room,sp,ho,fm⟩ (W2 ps j (upP (fm (y0 t j).1) (ps j))) (A2 A C)))
noncomputable def ru(t j:Nat):Prop:=∀(room:Int)(sp ho fm:Nat->Int)(ps:Nat->Port)(now A C:Int)(P:VK),(run (C0 (0,0) 0 []) 20).ex z7 (I1 (.fn 64)) ⟨mM t j now (V4 4) (fm (y0 t j).1),[]⟩ ⟨wH ⟨t,room,sp,ho,fm⟩ ps (A2 A C),[]⟩ (vK [] (wN t) P)=((0<(3:Int)/\small 3=true)/\P (.ret (.bool true true)) [] [] (E3 (wH ⟨t,room,sp,ho,fm⟩ (W2 ps j (mvP (Y2 A C 3) (ps j))) (A2 (g6 A C 3) (i6 A C 3)))))
theorem dNo(ht:I0 t){f:Int}{K:KS}:(run (C0 (0,0) 0 []) 20).ex z7 (I1 (.fn 64)) ⟨mM t j now (V4 0) f,[]⟩ σ K=K (.ret (.bool false true)) ⟨mM t j now (V4 0) f,[]⟩ σ:=by kernel_rfl
theorem Vq{t j:Nat}(ht:I0 t)(hj:j<5):qu t j 2:=by
 refine J1 (Q:=λt j=>qu t j 2) ?_ ?_ ?_ ?_ ?_ ?_ ?_ ?_ ?_ ?_ ?_ ?_ ?_ ?_ ?_ ht hj<;>(unfold qu;intros;kernel_rfl)
theorem Wq{t j:Nat}(ht:I0 t)(hj:j<5):ru t j:=by
 refine J1 (Q:=λt j=>ru t j) ?_ ?_ ?_ ?_ ?_ ?_ ?_ ?_ ?_ ?_ ?_ ?_ ?_ ?_ ?_ ht hj<;>(unfold ru;intros;kernel_rfl)
theorem ya(ht:I0 t)(hj:j<5):qu t j 2:=Vq ht hj
theorem za(ht:I0 t)(hj:j<5):ru t j:=Wq ht hj
theorem HH(ht:I0 t):Good (wN t) (wH ⟨t,room,sp,ho,fm⟩ ps (A2 A C)):=by
 rcases ht with rfl|rfl|rfl<;>exact good3 (by kernel_rfl)
end
noncomputable def UG(d:Int):List UInt8:=[[97],[98],[]].getD d.toNat []
noncomputable def rnP(n:List UInt8)(p:Port):Port:={p with name:=n}
noncomputable def wy(f:Int)(n:List UInt8)(p:Port):Port:={p with name:=n,wait:=0,fast:=f,AD:=0,b6:=f}
noncomputable def Ed:Str:=⟨#[114,111,119,115]⟩
noncomputable def rnV(N i:Nat)(H:List n0):Option (Dt×Option V×List n0):=(N4 6 (.ref (N+12)) H).bind λp=>(ot p.2 i).map λq=>(p.1,lk Ed q.2,E3 ((upd p.2 i (.inst q.1 (put Ed (V.T5 p.1) q.2))).take N))
section
variable{w:World}{b:Heap}{n:Nat}{t a j i p m N:Nat}{room:Int}{sp ho fm:Nat->Int}{ps ps' ps0:Nat->Port}{now sc A C:Int}{src:n0}{R:Rec}{fr:J2}{σ:St}{O3:List (Str×Nat)}{sec:UInt8×UInt8->Int}{τ:Nat->Int}
noncomputable def su(t j i:Nat):Prop:=∀(room:Int)(sp ho fm:Nat->Int)(ps:Nat->Port)(now A C:Int)(P:VK),(run (C0 (0,0) 0 []) 40).ex z7 (I1 (.fn 64)) ⟨mM t j now (V4 i) (fm (y0 t j).1),[]⟩ ⟨wH ⟨t,room,sp,ho,fm⟩ ps (A2 A C),[false,false,false,true]⟩ (vK [] (wN t) P)=((0<(3:Int)/\small 3=true)/\(0<=Y2 A C 3/\Y2 A C 3<3)/\(!(UG (Y2 A C 3)==(ps j).name))=false/\(small (sp (y0 t j).1)||small (ho (y0 t j).1))=true/\decide (65535<sp (y0 t j).1*ho (y0 t j).1+1)=false/\decide (65535<sp (y0 t j).1*ho (y0 t j).1+1)=false/\okN (sp (y0 t j).1*ho (y0 t j).1+1) (UG (Y2 A C 3))/\(true&&(true&&(true&&(decide (sp (y0 t j).1*ho (y0 t j).1+1=sp (y0 t j).1*ho (y0 t j).1+1)&&true)&&(true&&(UG (Y2 A C 3)==(ps j).name&&true)&&true))))=true/\P (.ret (.bool true (false== !(UG (Y2 A C 3)==(ps j).name)))) [] [] (E3 (upd (wH ⟨t,room,sp,ho,fm⟩ ps (A2 (g6 A C 3) (i6 A C 3))) (pI t j+2) (.dS (Dg (ps j).up (ps j).AD (ps j).b6 (UG (Y2 A C 3)) (ps j).seg (pI t j+3))))))
noncomputable def tu(t j i:Nat):Prop:=∀(room:Int)(sp ho fm:Nat->Int)(ps:Nat->Port)(now A C:Int)(P:Fl->List (Str×Nat)->Option (Dt×Option V×List n0)->Prop),(run (C0 (0,0) 0 []) 40).ex z7 (I1 (.fn 64)) ⟨mM t j now (V4 i) (fm (y0 t j).1),[]⟩ ⟨wH ⟨t,room,sp,ho,fm⟩ ps (A2 A C),[true,false,false,false]⟩ (λg fr σ=>P g fr.O3 (rnV (wN t) (pI t j) σ.heap))=((0<(3:Int)/\small 3=true)/\(0<=Y2 A C 3/\Y2 A C 3<3)/\(!(UG (Y2 A C 3)==(ps j).name))=true/\(small (sp (y0 t j).1)||small (ho (y0 t j).1))=true/\decide (65535<sp (y0 t j).1*ho (y0 t j).1+1)=false/\decide (65535<sp (y0 t j).1*ho (y0 t j).1+1)=false/\okN (sp (y0 t j).1*ho (y0 t j).1+1) (UG (Y2 A C 3))/\(true&&(true&&(true&&(decide (sp (y0 t j).1*ho (y0 t j).1+1=sp (y0 t j).1*ho (y0 t j).1+1)&&true)&&(true&&(UG (Y2 A C 3)==(ps j).name&&true)&&true))))=false/\P (.ret (.bool true (true== !(UG (Y2 A C 3)==(ps j).name)))) [] (some (yP (y0 t j) (sp (y0 t j).1*ho (y0 t j).1+1) (UG (Y2 A C 3)),some (.ref (wN t+12)),E3 (wH ⟨t,room,sp,ho,fm⟩ (W2 ps j (wy (fm (y0 t j).1) (UG (Y2 A C 3)) (ps j))) (A2 (g6 A C 3) (i6 A C 3))))))
theorem Xq{t j:Nat}(ht:I0 t)(hj:j<5):su t j 5:=by
 refine J1 (Q:=λt j=>su t j 5) ?_ ?_ ?_ ?_ ?_ ?_ ?_ ?_ ?_ ?_ ?_ ?_ ?_ ?_ ?_ ht hj<;>(unfold su;intros;kernel_rfl)
theorem Aa(ht:I0 t)(hj:j<5):su t j 5:=Xq ht hj
theorem Yq{t j:Nat}(ht:I0 t)(hj:j<5):tu t j 5:=by
 refine J1 (Q:=λt j=>tu t j 5) ?_ ?_ ?_ ?_ ?_ ?_ ?_ ?_ ?_ ?_ ?_ ?_ ?_ ?_ ?_ ht hj<;>(unfold tu;intros;kernel_rfl)
theorem Ba(ht:I0 t)(hj:j<5):tu t j 5:=Yq ht hj
end
noncomputable def FW(p:Port):Port:={p with up:=false}
noncomputable def tj:Str:=⟨#[117,112]⟩
noncomputable def fQ:Str:=⟨#[105,115,95,117,112]⟩
noncomputable def fF1(x:Str)(v:V)(o:n0):n0:=n0.casesOn (motive:=λ_=>n0) o n0.lst n0.tup n0.cell (λc fs=> .inst c (put x v fs)) (λfs=> .dS (put x v fs)) n0.dI n0.dT n0.w9 n0.D4 .L0 .any n0.dN n0.box
noncomputable def tG(i:Nat)(x:Str)(v:V)(H:List n0):List n0:=Option.rec (motive:=λ_=>List n0) H (λo=>upd H i (fF1 x v o)) (J0 H i)
noncomputable def xy(t j:Nat)(up:Bool)(n:List UInt8):List n0:=[.cell (some (iF 0)),.tup [.str (Str.ofString "time"),iF 0],
 .lst [.W0 (.tup [.str "chassis",.int false 7,.bytes false [(y0 t j).1.toUInt8]]),.W0 (.tup [.str "port",.int false 7,.bytes false [(y0 t j).2.toUInt8]]),.ref (wN t+1),.W0 (.tup [.str "name",.bytes true n])],
 .tup [],Eg (16+((y0 t j).1:Int)) (AF (y0 t j)) 0 n (wN t+3),.tup [iF ((y0 t j).2:Int),.ref (wN t+4)],.D4 (.lst [.ref (wN t+5)]),.tup [.bool true up,.bool false false,.ref (wN t+6)],.lst [iF ((y0 t j).2:Int)],.lst [iF ((y0 t j).2:Int)],.lst [iF ((y0 t j).2:Int)],.lst []]
section
variable{w:World}{b:Heap}{n:Nat}{t a j i p m N:Nat}{room:Int}{sp ho fm:Nat->Int}{ps ps' ps0:Nat->Port}{now sc A C:Int}{src:n0}{R:Rec}{fr:J2}{σ:St}{O3:List (Str×Nat)}{sec:UInt8×UInt8->Int}{τ:Nat->Int}
noncomputable def shH(t j:Nat)(room:Int)(sp ho fm:Nat->Int)(ps:Nat->Port)(src:n0):List n0:=tG (pI t j) fQ (.bool false false) (tG (pI t j+2) tj (.bool false false) (wH ⟨t,room,sp,ho,fm⟩ ps src))
noncomputable def vu(t j:Nat):Prop:=∀(room:Int)(sp ho fm:Nat->Int)(ps:Nat->Port)(now A C:Int)(P:VK),(run (C0 (0,0) 0 []) 40).ex z7 (I1 (.fn 64)) ⟨mM t j now (V4 7) (fm (y0 t j).1),[]⟩ ⟨wH ⟨t,room,sp,ho,fm⟩ ps (A2 A C),[false,false]⟩ (vK [] (wN t) P)=((ps j).up=false/\(ps j).up=false/\P (.ret (.bool true true)) [] [] (E3 (tG (pI t j+2) tj (.bool false false) (wH ⟨t,room,sp,ho,fm⟩ ps (A2 A C)))))
noncomputable def wu(w:World)(b:Heap)(t j:Nat):Prop:=∀(room:Int)(sp ho fm:Nat->Int)(ps:Nat->Port)(now A C:Int)(Q:K1),(run (CX w b) 40).ex z7 (I1 (.fn 64)) ⟨mM t j now (V4 7) (fm (y0 t j).1),[]⟩ ⟨wH ⟨t,room,sp,ho,fm⟩ ps (A2 A C),[true,true]⟩ (WA Q)=((ps j).up=true/\okN 0 (ps j).name/\(ps j).up=true/\F0 w b 61 (.fn 63) [.ref 4,G5 t j,.ref (wN t+4),iF 0,iT now] ⟨shH t j room sp ho fm ps (A2 A C)++xy t j (ps j).up (ps j).name,[]⟩ Q)
noncomputable def xu(t j:Nat):Prop:=∀(room:Int)(sp ho fm:Nat->Int)(ps:Nat->Port)(src:n0)(up:Bool)(n:List UInt8),(shH t j room sp ho fm ps src++xy t j up n).map n0.D1=(wH ⟨t,room,sp,ho,fm⟩ (W2 ps j (FW (ps j))) src++xy t j up n).map n0.D1
theorem Zq{t j:Nat}(ht:I0 t)(hj:j<5):vu t j:=by
 refine J1 (Q:=λt j=>vu t j) ?_ ?_ ?_ ?_ ?_ ?_ ?_ ?_ ?_ ?_ ?_ ?_ ?_ ?_ ?_ ht hj<;>(unfold vu;intros;kernel_rfl)
theorem Ca(ht:I0 t)(hj:j<5):vu t j:=Zq ht hj
theorem ar{t j:Nat}(ht:I0 t)(hj:j<5):wu w b t j:=by
 refine J1 (Q:=λt j=>wu w b t j) ?_ ?_ ?_ ?_ ?_ ?_ ?_ ?_ ?_ ?_ ?_ ?_ ?_ ?_ ?_ ht hj<;>(unfold wu;intros;kernel_rfl)
theorem Ea(ht:I0 t)(hj:j<5):wu w b t j:=ar ht hj
theorem dr{t j:Nat}(ht:I0 t)(hj:j<5):xu t j:=by
 refine J1 (Q:=λt j=>xu t j) ?_ ?_ ?_ ?_ ?_ ?_ ?_ ?_ ?_ ?_ ?_ ?_ ?_ ?_ ?_ ht hj<;>(unfold xu;intros;kernel_rfl)
theorem Ga(ht:I0 t)(hj:j<5):xu t j:=dr ht hj
end
noncomputable def ifB:Stmt->List Stmt
 | .If _ _ b _=>b
 |_=>[]
noncomputable def Fd:Stmt:=T1 (A5 (.fn 64)) 3
noncomputable def YL:List Stmt:=zZ Fd
noncomputable def Ha:Stmt->Expr
 | .Return (some e) _=>e
 |_=> .Constant .none 0 default
noncomputable def GW:Expr:=ah (T1 YL 0)
noncomputable def HW:Expr:=oJ GW
noncomputable def VN:Expr:=gu (DZ GW)
noncomputable def Ia:Expr:=iu (DZ GW)
noncomputable def Qh:Scope:={jd GW with names:=QD (I1 (.fn 64)) (jd GW).names}
noncomputable def Gd:Expr:=ZF (Ha (T1 YL 2))
noncomputable def Rh:Expr:=aG (Ha (T1 YL 2))
noncomputable def gr(l:List Ent):List V:=l.map λe=> .W0 (Q1 false e.k)
noncomputable def Sh(l:List Ent):List Dt:=l.map λe=>Q1 true e.k
noncomputable def Ja(k:UInt8×UInt8):Dt:= .tup [.tup [.int false 7,.bytes true [oct (k.1.toNat:Int)]],.tup [.int false 7,.bytes true [oct (k.2.toNat:Int)]]]
noncomputable def L3(t j:Nat)(now f:Int):List (Str×V):=mM t j now (V4 1) f
noncomputable def L4(t j:Nat)(now f:Int):List (Str×V):=mM t j now (V4 1) f++[(S9,.ref (wN t+1))]
section
variable{w:World}{b:Heap}{n:Nat}{t a j i p m N:Nat}{room:Int}{sp ho fm:Nat->Int}{ps ps' ps0:Nat->Port}{now sc A C f:Int}{src:n0}{R:Rec}{fr:J2}{σ:St}{O3:List (Str×Nat)}{sec:UInt8×UInt8->Int}{τ:Nat->Int}
noncomputable def yu(t j:Nat)(room:Int)(sp ho fm:Nat->Int)(ps:Nat->Port)(src o o2:n0):List n0:=tG (pI t j) jM (.ref (wN t+5)) (tG (pI t j) fQ (.bool false false) (tG (pI t j+2) v7 (.ref (wN t+2)) (tG (pI t j+2) tj (.bool false false) (wH ⟨t,room,sp,ho,fm⟩ ps src))))++[o,o2,.dN false [],.tup [.bool false false,.ref (wN t+2)],.lst ((T2 (ps j).es).map λe=> .W0 (Q1 true e.k)),.dN true []]
noncomputable def zu(t j:Nat):Prop:=∀(room:Int)(sp ho fm:Nat->Int)(ps:Nat->Port)(now A C f:Int)(Q:K1),(run (C0 (0,0) 0 []) 20).ev Ia (I1 (.fn 64)) ⟨L3 t j now f,[]⟩ ⟨wH ⟨t,room,sp,ho,fm⟩ ps (A2 A C),[]⟩ Q=((ps j).kn.length<=3/\Q (.ref (wN t)) ⟨wH ⟨t,room,sp,ho,fm⟩ ps (A2 A C)++[.lst (gr (T2 (ps j).kn))],[]⟩)
noncomputable def Au(t j:Nat):Prop:=∀(room:Int)(sp ho fm:Nat->Int)(ps:Nat->Port)(now A C f:Int)(o o2:n0)(Q:K1),(run (C0 (0,0) 0 []) 20).ex [T1 YL 1] (I1 (.fn 64)) ⟨L4 t j now f,[]⟩ ⟨wH ⟨t,room,sp,ho,fm⟩ ps (A2 A C)++[o,o2],[]⟩ (λg fr σ=>g= .next/\fr=⟨L4 t j now f,[]⟩/\(run (C0 (0,0) 0 []) 20).ev Gd (I1 (.fn 64)) fr σ Q)=(Fl.next=Fl.next/\(⟨L4 t j now f,[]⟩:J2)=⟨L4 t j now f,[]⟩/\((ps j).es.length<=3/\Q (.ref (wN t+4)) ⟨yu t j room sp ho fm ps (A2 A C) o o2,[]⟩))
noncomputable def Th(t:Nat):Prop:=∀(room:Int)(sp ho fm:Nat->Int)(ps:Nat->Port)(A C:Int)(k:UInt8×UInt8)(o:n0)(P:Option (Dt×List n0)->Prop),(run (C0 (0,0) 0 []) 20).ev HW Qh ⟨[(m7,.W0 (Q1 false k))],[]⟩ ⟨wH ⟨t,room,sp,ho,fm⟩ ps (A2 A C)++[o],[]⟩ (λv σ=>P (Ep (wN t+1) v σ))=((R3 [(k.1.toNat:Int)]=true/\1<=100000)/\(R3 [(k.2.toNat:Int)]=true/\1<=100000)/\P (some (Ja k,E3 (wH ⟨t,room,sp,ho,fm⟩ ps (A2 A C)++[o]))))
theorem yy:Th 3:=by unfold Th;intros;kernel_rfl
theorem zy:Th 4:=by unfold Th;intros;kernel_rfl
theorem Ay:Th 5:=by unfold Th;intros;kernel_rfl
theorem Ka(ht:I0 t):Th t:=by
 rcases ht with rfl|rfl|rfl
 .exact yy
 .exact zy
 .exact Ay
theorem ir{t j:Nat}(ht:I0 t)(hj:j<5):zu t j:=by
 refine J1 (Q:=λt j=>zu t j) ?_ ?_ ?_ ?_ ?_ ?_ ?_ ?_ ?_ ?_ ?_ ?_ ?_ ?_ ?_ ht hj<;>(unfold zu;intros;kernel_rfl)
theorem La(ht:I0 t)(hj:j<5):zu t j:=ir ht hj
theorem jr{t j:Nat}(ht:I0 t)(hj:j<5):Au t j:=by
 refine J1 (Q:=λt j=>Au t j) ?_ ?_ ?_ ?_ ?_ ?_ ?_ ?_ ?_ ?_ ?_ ?_ ?_ ?_ ?_ ht hj<;>(unfold Au;intros;kernel_rfl)
theorem Ma(ht:I0 t)(hj:j<5):Au t j:=jr ht hj
theorem ZL:z7=[Fd]++z7.drop 1:=by kernel_rfl
theorem IW:YL=[T1 YL 0]++([T1 YL 1]++[T1 YL 2]):=by kernel_rfl
theorem By{K:KS}:JJ R Fd (I1 (.fn 64)) fr σ K=R.ev (ZF (KV Fd)) (I1 (.fn 64)) fr σ (λa P0=>R.ev (aG (KV Fd)) (I1 (.fn 64)) fr P0 (λc M1=>T8 .Eq a c M1 (λd v5=>I6 d v5 (λvC=>R.ex YL (I1 (.fn 64)) fr vC K) (λvC=>R.ex (ifB Fd) (I1 (.fn 64)) fr vC K)))):=by kernel_rfl
theorem Cy{C:oG}{Q:K1}:(run C 20).ev (ZF (KV Fd)) (I1 (.fn 64)) ⟨L3 t j now f,[]⟩ σ Q=Q (.str (V4 1)) σ:=by kernel_rfl
theorem Dy{C:oG}{Q:K1}:(run C 20).ev (aG (KV Fd)) (I1 (.fn 64)) ⟨L3 t j now f,[]⟩ σ Q=Q (.str (V4 1)) σ:=by kernel_rfl
theorem Ey{A B:St->Prop}:T8 .Eq (.str (V4 1)) (.str (V4 1)) σ (λd v5=>I6 d v5 A B)=A σ:=by kernel_rfl
theorem kr{K:KS}:JJ R (T1 YL 0) (I1 (.fn 64)) ⟨L3 t j now f,[]⟩ σ K=P4 R VN Ia (I1 (.fn 64)) ⟨L3 t j now f,[]⟩ σ (λl its P0=>gd (Nat.ble its.length 1000) (F4 R HW VN [] Qh its ⟨[],[]⟩ (E4 l P0) [] (λvs v5=>K .next ⟨L3 t j now f++[(S9,.ref v5.new)],[]⟩ (v5.push (.lst vs))))):=by kernel_rfl
theorem mr{K:m9->List w5->St->Prop}:P4 R VN Ia (I1 (.fn 64)) fr σ K=R.ev Ia (I1 (.fn 64)) fr σ (pG K):=by kernel_rfl
theorem qr{v:V}{K:J2->St->Prop}:n6 R VN (.inl v) Qh ⟨[],[]⟩ σ K=K ⟨[(m7,v)],[]⟩ σ:=by kernel_rfl
theorem sr{v v0:V}{K:J2->St->Prop}:n6 R VN (.inl v) Qh ⟨[(m7,v0)],[]⟩ σ K=K ⟨[(m7,v)],[]⟩ σ:=by kernel_rfl
theorem ur{K:KS}:JJ R (T1 YL 2) (I1 (.fn 64)) fr σ K=R.ev (Ha (T1 YL 2)) (I1 (.fn 64)) fr σ (λv v5=>K (.ret v) fr v5):=by kernel_rfl
theorem yr{Q:K1}:Uk R (Ha (T1 YL 2)) (I1 (.fn 64)) fr σ Q=R.ev Gd (I1 (.fn 64)) fr σ (λa P0=>R.ev Rh (I1 (.fn 64)) fr P0 (λc M1=>T8 .Eq a c M1 Q)):=by kernel_rfl
theorem Fy{C:oG}{Q:K1}:(run C 20).ev Rh (I1 (.fn 64)) ⟨L4 t j now f,[]⟩ σ Q=Q (.ref (wN t+1)) σ:=by kernel_rfl
end
section
variable{w:World}{b:Heap}{n:Nat}{t a j i p m N:Nat}{room:Int}{sp ho fm:Nat->Int}{ps ps' ps0:Nat->Port}{now sc A C f:Int}{src:n0}{R:Rec}{fr:J2}{σ:St}{O3:List (Str×Nat)}{sec:UInt8×UInt8->Int}{τ:Nat->Int}
theorem Na(k:UInt8×UInt8):Ja k=Q1 true k:=by unfold Ja;rw[o5 _,o5 _];rfl
theorem Uh(ht:I0 t){o:n0}(fE:o.lt (wN t+1)):Good (wN t+1) (wH ⟨t,room,sp,ho,fm⟩ ps (A2 A C)++[o]):=by
 have G:=HH (room:=room) (sp:=sp) (ho:=ho) (fm:=fm) (ps:=ps) (A:=A) (C:=C) ht;refine⟨by rw[o8,G.ln];rfl,by rw[Z0 (by rw[G.ln];unfold wN;lia)];exact G.pl,λx hx=> ?_⟩;rcases R5.mp hx with hx|hx
 .exact n0.O5 (G.lt x hx) (by exact jB _ _)
 .rw[l9.mp hx];exact fE
theorem zr(B:k3 w b)(ht:I0 t){o:n0}(fE:o.lt (wN t+1)){Q:List V->St->Prop}{l:List Ent}:∀{L:List (Str×V)}{acc:List V}{tp:List Bool},(L=[]\/∃v,L=[(m7,v)])->
 (∀t2,Q (acc++l.map λe=> .W0 (Q1 true e.k)) ⟨wH ⟨t,room,sp,ho,fm⟩ ps (A2 A C)++[o],t2⟩)->
 F4 (Sem w b 60) HW VN [] Qh (l.map λe=> .inl (.W0 (Q1 false e.k))) ⟨L,[]⟩ ⟨wH ⟨t,room,sp,ho,fm⟩ ps (A2 A C)++[o],tp⟩ acc Q:=by
 induction l with
 |nil=>
  intro L acc tp _ q;have:=q tp;rw[List.map_nil,VG] at this;exact this
 |cons e l ih=>
  intro L acc tp hL q;rw[R6];rw[VI];have ab:∀{u:UInt8},R3 [(u.toNat:Int)]=true:=λ{u}=>by
   have:u.toNat<256:=UInt8.toNat_lt _;simp only[R3,List.all_cons,List.all_nil,Bool.and_true,JD,decide_eq_true_iff];lia
  have G:=Uh (room:=room) (sp:=sp) (ho:=ho) (fm:=fm) (ps:=ps) (A:=A) (C:=C) ht fE;have go:(Sem w b 60).ev HW Qh ⟨[(m7,.W0 (Q1 false e.k))],[]⟩ ⟨wH ⟨t,room,sp,ho,fm⟩ ps (A2 A C)++[o],tp⟩ (λv M1=>F4 (Sem w b 60) HW VN [] Qh (l.map λe=> .inl (.W0 (Q1 false e.k))) ⟨[(m7,.W0 (Q1 false e.k))],[]⟩ M1 (acc++[v]) Q):=by
   refine DP (SI (D3 (r:=20) (k:=(0,0)) (s:=0) (m:=[]) B (t:=[]) (Eq.mpr (Ka ht room sp ho fm ps A C e.k o λz=>z=some (Ja e.k,E3 (wH ⟨t,room,sp,ho,fm⟩ ps (A2 A C)++[o]))) ⟨⟨ab,by decide⟩,⟨ab,by decide⟩,rfl⟩)) λv F1 hz=> ?_);refine u3 hz λi hi hz=>B5 hz λB0 hf e2=> ?_
   .obtain rfl:=uA hi;obtain⟨d,H2⟩:=B0;refine D0 (Prod.mk.inj e2) λB0 e3=> ?_;subst B0;refine⟨.W0 (Q1 true e.k),wH ⟨t,room,sp,ho,fm⟩ ps (A2 A C)++[o],[],_,(Goes.V5 hf).trans (I4 (N:=wN t+1) (by rw[G.ln];exact j6 _) (by unfold wN;lia) e3 G.ln G.pl G.lt),⟨_,.inr ⟨rfl,rfl⟩,⟨_,⟨rfl,trivial⟩,?_⟩⟩,?_⟩
    .exact congrArg (λd=>V.D1 (.W0 d)) (Na _)
    .refine ih (.inr ⟨_,rfl⟩) λt2=> ?_;have:=q t2;rw[R6] at this;rw[i7];exact this
  rcases hL with rfl|⟨v,rfl⟩
  .rw[qr];exact go
  .rw[sr];exact go
theorem Oa{m m':Nat}{l:List Ent}{Q:K1}(h:J0 σ.heap m=some (.lst (l.map λe=> .W0 (Q1 true e.k))))(h':J0 σ.heap m'=some (.lst (l.map λe=> .W0 (Q1 true e.k))))(q:∀s,Q (.bool s true) σ):T8 .Eq (.ref m) (.ref m') σ Q:=by
 have em:(l.map λe=>V.W0 (Q1 true e.k))=(Sh l).map V.W0:=by unfold Sh;rw[yC];rfl
 rw[em] at h h';have p:∀d∈Sh l,vd d=true/\dep d<=9:=λd hd=>u0 (z5.mp hd) λe _ x=>x▸⟨rfl,by show 2<=9;decide⟩;refine qJ (H:=σ.heap) (tp:=σ.LD) (uE h) (uE h') p ?_ q;show(Option.rec (motive:=λ_=>Bool) false (λl=> !vA l) (((J0 σ.heap m).map n0.Ui).bind UH)&&Option.rec (motive:=λ_=>Bool) false vA (((J0 σ.heap m').map n0.Ui).bind UH))=false;rw[h,h'];induction l using H5<;>rfl
theorem n8{x:Str}{v:V}{H:List n0}{i:Nat}:(tG i x v H).length=H.length:=by
 unfold tG;induction J0 H i using opQ with
 |none=>rfl
 |some o=>exact(congrArg List.length (K3 ..)).trans MJ
theorem Pa(B:k3 w b)(ht:I0 t)(hj:j<5)(hP:PI room sec (ps j))(hr:room<=3){tp:List Bool}{K:KS}(q:∀s o o2 fr t2,K (.ret (.bool s true)) fr ⟨yu t j room sp ho fm ps (A2 A C) o o2,t2⟩):
 R0 w b 61 z7 (I1 (.fn 64)) ⟨L3 t j now f,[]⟩ ⟨wH ⟨t,room,sp,ho,fm⟩ ps (A2 A C),tp⟩ K:=by
 have hl:(ps j).es.length<=3:=by have:=hP.len;lia
 have fu:(ps j).kn.length=(ps j).es.length:=by rw[hP.kn,KD _]
 have lw:(wH ⟨t,room,sp,ho,fm⟩ ps (A2 A C)).length=wN t:=U4 ht;rw[ZL];refine w3 (C4 B ?_);rw[By];refine t5.up (n:=60) (by decide) (D3 (r:=20) (k:=(0,0)) (s:=0) (m:=[]) (t:=[]) B (Eq.mpr Cy ?_));refine t5.up (n:=60) (by decide) (D3 (r:=20) (k:=(0,0)) (s:=0) (m:=[]) (t:=[]) B (Eq.mpr Dy ?_));rw[Ey];show R0 w b 61 YL _ _ _ _;rw[IW];refine w3 (R0.up (n:=60) (by decide) (C4 B ?_));rw[kr,mr];refine D3 (r:=20) (k:=(0,0)) (s:=0) (m:=[]) B (t:=[]) (Eq.mpr (La ht hj room sp ho fm ps now A C f _) ⟨by lia,?_⟩);unfold pG;rw[F5 lw];show gd _ _;unfold gr;rw[A6 lw,yC];have e1:(T2 (ps j).kn).map ((λv=>(.inl v:w5))∘λe=> .W0 (Q1 false e.k))=(T2 (ps j).es).map λe=> .inl (.W0 (Q1 false e.k)):=by
  rw[hP.kn,jC,yC];rfl
 rw[e1];have hb:Nat.ble ((T2 (ps j).es).map λe=>(.inl (.W0 (Q1 false e.k)):w5)).length 1000=true:=by
  rw[KD _,P8];exact Nat.ble_eq_true_of_le (by exact V7 (by assumption) (kB _ _))
 rw[hb];have lo:(n0.D4 (.lst ((T2 (ps j).kn).map λe=> .W0 (Q1 false e.k)))).lt (wN t+1):=by
  intro v hv;refine u0 (z5.mp hv) λe _ B0=> ?_;subst B0;trivial
 refine zr B ht lo (.inl rfl) λt2=> ?_;show R0 w b 61 ([T1 YL 1]++[T1 YL 2]) (I1 (.fn 64)) ⟨L3 t j now f++[(S9,.ref (wH ⟨t,room,sp,ho,fm⟩ ps (A2 A C)++[_]).length)],[]⟩ ⟨(wH ⟨t,room,sp,ho,fm⟩ ps (A2 A C)++[_])++[.lst ([]++(T2 (ps j).es).map λe=> .W0 (Q1 true e.k))],t2⟩ _;rw[List.nil_append _,o8,lw,i7];refine w3 (R0.up (n:=60) (by decide) (QB (L5 (r:=20) (k:=(0,0)) (s:=0) (m:=[]) B (t:=[]) (Eq.mpr (Ma ht hj room sp ho fm ps now A C f _ _ λ(v:V)(σ:St)=>t5 w b 61 Rh (I1 (.fn 64)) ⟨L4 t j now f,[]⟩ σ λc M1=>T8 .Eq v c M1 λv v5=>K (.ret v) ⟨L4 t j now f,[]⟩ v5) ⟨rfl,rfl,by assumption,?_⟩)) λg V8 F1 h'=> ?_))
 .refine t5.up (n:=60) (by decide) (D3 (r:=20) (k:=(0,0)) (s:=0) (m:=[]) B (t:=[]) (Eq.mpr Fy ?_));have lx:∀{X:List n0}{k:Nat},J0 (tG (pI t j) jM (.ref (wN t+5)) (tG (pI t j) fQ (.bool false false) (tG (pI t j+2) v7 (.ref (wN t+2)) (tG (pI t j+2) tj (.bool false false) (wH ⟨t,room,sp,ho,fm⟩ ps (A2 A C)))))++X) (wN t+k)=J0 X k:=λ{X k}=>by
   have e:(tG (pI t j) jM (.ref (wN t+5)) (tG (pI t j) fQ (.bool false false) (tG (pI t j+2) v7 (.ref (wN t+2)) (tG (pI t j+2) tj (.bool false false) (wH ⟨t,room,sp,ho,fm⟩ ps (A2 A C)))))).length=wN t:=by rw[n8,n8,n8,n8,lw]
   rw[P1 (by rw[e];exact jB _ _),e,Nat.add_sub_cancel_left]
  exact Oa (l:=T2 (ps j).es) (lx.trans rfl) (lx.trans rfl) λs=>q s _ _ _ _
 .refine R2 h' λB0=> ?_;clear h';subst B0;intro x9;subst x9;intro h';show R0 w b 61 [T1 YL 2] _ _ _ _;refine C4 B ?_;rw[ur];refine qV B ?_;rw[yr];exact t5.up (n:=60) (by decide) (D3 (r:=20) (k:=(0,0)) (s:=0) (m:=[]) B (t:=F1.LD) h')
end
noncomputable def aM(D L:List (Addr×Obj)):List (Addr×Obj):=D.filter (λp=>decide (p.1∉L.map (·.1)))
theorem U9:p∈aM D L↔p∈D/\p.1∉L.map (·.1):=by unfold aM;rw[List.mem_filter,decide_eq_true_iff]
theorem FR(nd:(D.map (·.1)).Nodup)(sub:∀p∈L,p∈D):(p∈aM D L\/p∈L)↔p∈D:=by
 refine⟨λh=>h.elim (λh=>(U9.mp h).1) (sub p),λh=> ?_⟩;by_cases q:p.1∈L.map (·.1)
 .refine u0 (z5.mp q) λx hx e=> ?_;exact .inr (R7 nd (sub x hx) h e▸hx)
 .exact .inl (U9.mpr ⟨h,q⟩)
theorem Qa(nd:((T++D).map (·.1)).Nodup)(sub:∀p∈L,p∈D)(ndL:(L.map (·.1)).Nodup):((T++aM D L++L).map (·.1)).Nodup:=by
 rw[w8] at nd;refine R2 (gD.mp nd) λq1 q2 q3=> ?_;rw[w8,w8];refine gD.mpr ⟨gD.mpr ⟨q1,F7 q2,λx hx y hy e=> ?_⟩,ndL,λx hx y hy e=> ?_⟩
 .refine u0 (z5.mp hy) λp hp z=> ?_;exact q3 x hx y (z▸d5 (U9.mp hp).1) e
 .rcases R5.mp hx with hx|hx
  .refine u0 (z5.mp hy) λp hp z=> ?_;exact q3 x hx y (z▸d5 (sub p hp)) e
  .refine u0 (z5.mp hx) λp hp z=> ?_;exact(U9.mp hp).2 (z.trans e▸hy)
section
structure BxH(H H1:List n0)(k:Nat)(f:Nat->Nat):Prop where
 fj:∀j,j<H1.length->k<=f (k+j)/\f (k+j)<H.length
 inj:∀i j,i<H1.length->j<H1.length->f (k+i)=f (k+j)->i=j
 ob:∀j o,J0 H1 j=some o->(FF o=true\/∃o',o= .D4 o')/\o.lt (k+H1.length)/\∃o2,J0 H (f (k+j))=some o2/\o2.D1=(o.Z5 f).D1
noncomputable def bM(H1:List n0)(rs:List RO)(k:Nat)(f:Nat->Nat):List RO:=(List.range H1.length).map λj=>gR H1 rs (f (k+j)) j
section
theorem IH(e:J0 (bM H1 rs k f) j=some r):j<H1.length/\r=gR H1 rs (f (k+j)) j:=vg (λj=>gR H1 rs (f (k+j)) j) _ e
theorem Hd(hj:j<H1.length):J0 (bM H1 rs k f) j=some (gR H1 rs (f (k+j)) j):=fA (λj=>gR H1 rs (f (k+j)) j) hj
theorem Vh:(bM H1 rs k f).length=H1.length:=by unfold bM;rw[KD _,List.length_range]
section
variable(X:BxH H H1 k f)(S:M0 w b cx H rs h og)
include X S
theorem ID(hj:j<H1.length):f (k+j)<rs.length:=S.len▸(X.fj j hj).2
theorem Jd(hj:j<H1.length):∃o,J0 H1 j=some o/\(FF o=true\/∃o',o= .D4 o')/\o.lt (k+H1.length)/\P2 w b rs (o.Z5 f) (Y0 rs (f (k+j))):=
 O0 (l7 hj) λo ho=>R2 (X.ob j o ho) λq1 q2 q=>u0 q λo2 q3 q4=>⟨o,ho,q1,q2,RB.mp (q4▸RB.mpr (S.ok _ _ _ q3 (B1 (ID X S hj))))⟩
theorem JW(hj:j<H1.length)(hl:N8 H1 j=false):(Y0 rs (f (k+j))).fz=[]:=by
 refine I7 (Jd X S hj) λo e q1 _ q3=>q1.elim (λq1=>pZ (tV q1) q3) λq1=>O0 q1 λo' eo=> ?_;unfold N8 at hl;rw[e,eo] at hl;exact vG hl
theorem Ra:L0 (bM H1 rs k f)=[]:=by
 refine List.eq_nil_iff_forall_not_mem.mpr λp hp=>A3 (d8 hp) λj r e NB=>D0 (IH e) λhj er=> ?_;have z:(gR H1 rs (f (k+j)) j).fz=[]:=by
  unfold gR;induction e:N8 H1 j using Q2 with
  |true=>rfl
  |false=>exact JW X S hj e
 rw[er,z] at NB;exact absurd NB v8
theorem KW(hp:p∈led (bM H1 rs k f)):∃j,j<H1.length/\p∈(Y0 rs (f (k+j))).led/\N8 H1 j=false:=
 A3 (RC hp) λj r e NB=>D0 (IH e) λhj er=>⟨j,hj,aJ (er▸NB)⟩
theorem LW:∀p∈led (bM H1 rs k f),p∈led (rs.drop k):=λp hp=>J3 (KW X S hp) λj hj h1 _=>XI (X.fj j hj).1 (B1 (ID X S hj)) h1
theorem Ar:((led (bM H1 rs k f)).map (·.1)).Nodup:=by
 have n3:=S.parts.2.2.1;rw[B7] at n3⊢;refine QC _ (λi r e=>D0 (IH e) λhj er=> ?_) (λi j r q iZ e e' x hx mN=>D0 (IH e) λhi er=>D0 (IH e') λhj eq=> ?_)
 .rw[er];unfold gR;induction N8 H1 i using Q2 with
  |true=>exact List.nodup_nil
  |false=>exact(E7 _ n3).1 _ _ (B1 (ID X S hj))
 .rw[er] at hx;rw[eq] at mN;refine u0 (z5.mp hx) λp hp e1=>u0 (z5.mp mN) λp' W7 e3=> ?_;exact iZ (X.inj i j hi hj (d4 S (B1 (ID X S hi)) (B1 (ID X S hj)) (aJ hp).1 (aJ W7).1 (e1.trans e3.symm)))
noncomputable abbrev wX(H1:List n0)(rs:List RO)(k:Nat)(f:Nat->Nat):List RO:=YD rs k (aM (led (rs.drop k)) (led (bM H1 rs k f)))
theorem iG:((led (rs.take k)++led (rs.drop k)).map (·.1)).Nodup:=VC (rs:=rs) (k:=k)▸S.parts.2.2.1
theorem Wh(h2:1<k)(hr:k<=rs.length)(p:Addr×Obj):p∈led (wX H1 rs k f)++led (bM H1 rs k f)↔p∈led rs:=by
 rw[R5,(EF h2 hr).mem_iff,R5,VC (rs:=rs) (k:=k),R5,or_assoc,FR (gD.mp (w8▸iG X S)).2.1 (LW X S)]
theorem Xh(h2:1<k)(hr:k<=rs.length):((led (wX H1 rs k f)++led (bM H1 rs k f)).map (·.1)).Nodup:=(((EF h2 hr).append_right _).map (·.1)).nodup_iff.mpr (Qa (iG X S) (LW X S) (Ar X S))
theorem Br(h2:1<k)(hr:k<=rs.length):∀p∈L0 rs,p∈L0 (wX H1 rs k f):=tL h2 hr λj r p hj e hp=>by
 refine U9.mpr ⟨XI hj e (RO.s7 hp),λhm=> ?_⟩;refine u0 (z5.mp hm) λq hq eq=>J3 (KW X S hq) λi hi h1 hl=> ?_;rw[<-d4 S (B1 (ID X S hi)) e h1 (RO.s7 hp) eq] at e;rw[<-O6 e,JW X S hi hl] at hp;exact absurd hp v8
end
noncomputable def jG(rs:List RO)(k:Nat)(P:List (Addr×Obj)):List RO:= .V5 (Y0 rs 0).addr []:: .V5 (Y0 rs 1).addr P::(List.range (k -2)).map λi=> .V5 (Y0 rs (i+2)).addr []
theorem oC(h2:1<k):(jG rs k P).length=k:=by unfold jG;rw[List.length_cons,List.length_cons,KD _,List.length_range];lia
theorem cM(m:Nat)(a:Nat->Addr)(z:∀a,g (.V5 a [])=[]):((List.range m).map λi=>RO.V5 (a i) []).flatMap g=[]:=by
 refine List.flatMap_eq_nil_iff.mpr λr hr=>u0 (z5.mp hr) λi _ e=>e▸z _
theorem JH:L0 (jG rs k P)=P:=by
 show[]++(P++L0 ((List.range (k -2)).map λi=>RO.V5 (Y0 rs (i+2)).addr []))=P;rw[show L0 _=[] from cM _ _ λ_=>rfl,VG _,List.nil_append]
theorem MW:led (jG rs k P)=P:=by
 show[]++(P++led ((List.range (k -2)).map λi=>RO.V5 (Y0 rs (i+2)).addr []))=P;rw[show led _=[] from cM _ _ λ_=>rfl,VG _,List.nil_append]
theorem dM(hr:k<=rs.length)(hi:i<k):adr (jG rs k P) i=adr rs i:=by
 rw[L1 (B1 (rs:=rs) (j:=i) (MH hi hr))];induction i using iB with
 |zero=>rfl
 |succ i=>induction i using iB with
  |zero=>rfl
  |succ i=>
   show adr ((List.range (k -2)).map λi=>RO.V5 (Y0 rs (i+2)).addr []) i=_;rw[L1 (fA _ (by lia))];rfl
end
theorem Goes.Gy(h2:1<k)(hk:k<=H.length)(h1:J0 H 1=some .L0)(lt:∀i o,i<k->J0 H i=some o->o.lt k)(fi:∀i,i<k->f i=i)(OA:0<H1.length)
 (fj:∀j,j<H1.length->k<=f (k+j)/\f (k+j)<H.length) (inj:∀i j,i<H1.length->j<H1.length->f (k+i)=f (k+j)->i=j)
 (ob:∀j o,J0 H1 j=some o->(FF o=true\/∃o',o= .D4 o')/\o.lt (k+H1.length)/\∃o2,J0 H (f (k+j))=some o2/\o2.D1=(o.Z5 f).D1):
 Goes w b k H (H.take k++[yN k H1]) λv v2=>(v2=v/\v.lt k)\/(v= .ref (f k)/\v2= .ref k):=⟨λ{cx rs h og} S=>by
 have X:BxH H H1 k f:=⟨fj,inj,ob⟩;have hr:k<=rs.length:=S.len▸hk;have yw:f k<rs.length:=ID X S OA;have WN:(wX H1 rs k f).length=k:=CP hr;have eL:led (wX H1 rs k f++[.big (Y0 rs (f k)).addr (led (bM H1 rs k f))])=led (wX H1 rs k f)++led (bM H1 rs k f):=by rw[g5];exact congrArg _ (VG _)
 have eP:L0 (wX H1 rs k f++[.big (Y0 rs (f k)).addr (led (bM H1 rs k f))])=L0 (wX H1 rs k f):=by rw[y6];exact VG _
 generalize Cr:wX H1 rs k f++[.big (Y0 rs (f k)).addr (led (bM H1 rs k f))]=I3 at eL eP
 have up:∀p∈L0 rs,p∈L0 I3:=eP▸Br X S h2 hr;have mem:∀p,p∈led I3↔p∈led rs:=eL▸Wh X S h2 hr;have NR:∀i,i<k->adr I3 i=adr rs i:=λi hi=>by rw[Cr.symm,Y6 (WN.symm▸hi)];exact sE h2 hr hi
 have adk:adr I3 k=adr rs (f k):=by rw[Cr.symm,U7 (OH WN),WN,Nat.sub_self _,L1 (B1 yw)];rfl
 have P:y9 id k rs I3:=⟨NR,up⟩;have at2:∀{i:Nat}{r:RO},i<k->J0 I3 i=some r->J0 (wX H1 rs k f) i=some r:=λ{i r} hi e=>by rw[<-Cr,Z0 (WN.symm▸hi)] at e;exact e
 refine⟨I3,S.Pc mem (eL▸Xh X S h2 hr) (by rw[Cr.symm,o8,o8,WN,List.length_take,Nat.min_eq_left hk];rfl) (NR 0 (Nat.lt_of_succ_lt h2)) λi o r q1 q2=> ?_,λi a hi e=>(NR i hi).trans e,λa o hm _=>(mem _).mpr hm,up,λv v2 u hv x=> ?_⟩
 .by_cases uj:i<k
  .rw[Z0 (by rw[List.length_take,Nat.min_eq_left hk];exact uj),L8 uj] at q1;have q2:=at2 uj q2;by_cases h:i=1
   .rw[h,h1] at q1;rw[h,TB h2 hr] at q2;rw[(si q1).symm,(si q2).symm];exact⟨_,_,rfl⟩
   .exact P.o (lt i o uj q1) (by rw[n0.R4 _];exact S.ok i o r q1 ((WI h uj).symm.trans q2))
  .have ik:i=k:=by
    have hi:=Y1 q1;rw[o8,List.length_take,Nat.min_eq_left hk] at hi;exact Nat.le_antisymm (Nat.le_of_lt_succ hi) (gB.mp uj)
   rw[ik,P1 (by rw[List.length_take,Nat.min_eq_left hk];exact j6 _),List.length_take,Nat.min_eq_left hk,Nat.sub_self] at q1;rw[ik,<-Cr,P1 (OH WN),WN,Nat.sub_self] at q2;rw[(si q1).symm,(si q2).symm];have PB:y9 f (k+H1.length) rs (jG rs k (L0 I3)++bM H1 rs k f):=⟨λi hi=>by
    by_cases h:i<k
    .rw[Y6 (by rw[oC h2];exact h),dM hr h,fi i h]
    .have hl:i -k<H1.length:=by lia
     rw[U7 (by rw[oC h2];exact gB.mp h),oC h2,L1 (Hd hl),uL,Nat.add_sub_cancel' (gB.mp h),L1 (B1 (Nat.add_sub_cancel' (gB.mp h)▸ID X S hl))],
    λp hp=>by rw[y6,JH];exact o7 _ (up p hp)⟩
   refine⟨_,_,adr I3,L0 I3,rfl,λ_ _ e=>e,λ_ e=>e,jG rs k (L0 I3),bM H1 rs k f,oC h2,λj hj=>by rw[dM hr hj,NR j hj],JH,MW,rfl,Ra X S,?_,Vh.symm,λj o r e3 e4=>D0 (IH e4) λhj er=>I7 (Jd X S hj) λo' e5 q5 q6 q7=> ?_⟩
   .rw[L1 (Hd OA),uL,Nat.add_zero _]
   .rw[si (e3.symm.trans e5),er];unfold gR;rcases q5 with q5|q5
    .have:N8 H1 j=false:=by unfold N8;rw[e5];induction o' using n0.casesOn<;>first|rfl|exact G2 q5
     rw[this];exact PB.o q6 q7
    .refine O0 q5 λo1 eo=> ?_;have:N8 H1 j=true:=by unfold N8;rw[e5,eo]
     rw[this];rw[eo] at q6 q7⊢;exact T3 q7 λa ob1 l e6 m6 ok6=>⟨_,ob1,[],rfl,by rw[e6];exact PB.pl _ m6,by rw[e6];exact PB.o (o:=o1) q6 ok6⟩
 .rcases hv with hv|hv
  .rw[hv.1];exact P.v hv.2 (by rw[V.R4 _];exact x)
  .rw[hv.1] at x;rw[hv.2];exact u0 x λa ea eu=>⟨a,adk.trans ea,eu⟩⟩
end
noncomputable def Yh(src:n0):List n0:=[y3,.L0,.any,src]
noncomputable def bH(t:Nat)(room:Int)(sp ho fm:Nat->Int)(ps:Nat->Port)(src:n0):List n0:=Yh src++[yN 4 (BF (Wp.par ⟨t,room,sp,ho,fm⟩) ((List.range 5).map ps))]
noncomputable def Ld(v v2:V):Prop:=v2=v/\noRef v
noncomputable def Dr:n0->Bool
 | .D4 _=>true
 |_=>false
section
variable{w:World}{b:Heap}{n:Nat}{t a j i p m N k0:Nat}{room:Int}{sp ho fm:Nat->Int}{ps ps' ps0:Nat->Port}{now sc A C f:Int}{src:n0}{R:Rec}{fr:J2}{σ:St}{O3:List (Str×Nat)}{sec:UInt8×UInt8->Int}{τ:Nat->Int}
theorem Zh:Goes w b 5 (bH t room sp ho fm ps src) (wH ⟨t,room,sp,ho,fm⟩ ps src) λv v2=>v2=v:=Goes.unbox (H0:=Yh src) (by show 0<4;exact kB _ _)
theorem pC(ht:I0 t):(BF (Wp.par ⟨t,room,sp,ho,fm⟩) ((List.range 5).map ps)).length=wN t -4:=by
 rcases ht with rfl|rfl|rfl<;>exact V9 (by kernel_rfl)
theorem GR(ht:I0 t):(BF (Wp.par ⟨t,room,sp,ho,fm⟩) ((List.range 5).map ps)).all (λo=>FF o||Dr o)=true:=by
 rcases ht with rfl|rfl|rfl<;>kernel_rfl
theorem rC{α β:Type}{g:α->β}{l:List α}{i:Nat}:J0 (l.map g) i=(J0 l i).map g:=by rw[U0,U0,LJ]
theorem AJ(ht:I0 t){H:List n0}{f:Nat->Nat}(h4:∀i,i<4->J0 H i=J0 (Yh src) i)(hs:src.lt 4)(fi:∀i,i<4->f i=i)(fj:∀j,j<wN t -4->4<=f (4+j)/\f (4+j)<H.length)(inj:∀i j,i<wN t -4->j<wN t -4->f (4+i)=f (4+j)->i=j)
 (ob:∀j o,J0 (BF (Wp.par ⟨t,room,sp,ho,fm⟩) ((List.range 5).map ps)) j=some o->∃o2,J0 H (f (4+j))=some o2/\o2.D1=(o.Z5 f).D1):
 Goes w b 4 H (bH t room sp ho fm ps src) λv v2=>(v2=v/\v.lt 4)\/(v= .ref (f 4)/\v2= .ref 4):=by
 have hw:4<wN t:=by unfold wN;lia
 have l1:=pC (room:=room) (sp:=sp) (ho:=ho) (fm:=fm) (ps:=ps) ht;have hl:4<=H.length:=by have:=(fj 0 (by lia));lia
 have et:H.take 4=Yh src:=List.ext_getElem? λi=>by
  by_cases hi:i<4
  .rw[<-U0,<-U0,L8 hi];exact h4 i hi
  .rw[List.getElem?_eq_none (by simp;lia),List.getElem?_eq_none (by show 4<=i;exact gB.mp (by assumption))]
 have:=Goes.Gy (w:=w) (b:=b) (H:=H) (H1:=BF (Wp.par ⟨t,room,sp,ho,fm⟩) ((List.range 5).map ps)) (k:=4) (f:=f) (by decide) hl ((h4 1 (by decide)).trans rfl) (λi o hi e=> ?_) fi (by exact kB _ _) (λj hj=>fj j (by lia)) (λi j hi hj=>inj i j (by lia) (by lia)) (λj o e=>⟨?_,?_,ob j o e⟩)
 .rw[et] at this;exact this
 .rw[h4 i hi] at e
  match i,hi,e with
  |0,_,e=>obtain rfl:=si e;exact IF (H:=[y3]) (by kernel_rfl) _ (List.mem_singleton_self _)
  |1,_,e=>obtain rfl:=si e;trivial
  |2,_,e=>obtain rfl:=si e;trivial
  |3,_,e=>obtain rfl:=si e;exact hs
 .have:=xC.mp (GR (room:=room) (sp:=sp) (ho:=ho) (fm:=fm) (ps:=ps) ht) o (C7 e);rw[Bool.or_eq_true] at this;rcases this with h|h
  .exact .inl h
  .refine .inr ?_;induction o using n0.casesOn<;>first|cases h|skip
   exact⟨_,rfl⟩
 .rw[l1,show 4+(wN t -4)=wN t by lia];exact bC ht o (C7 (i:=j+4) e)
theorem ai{f:Nat->Nat}{v v2:V}(h:Ld v v2):(v2=v/\v.lt 4)\/(v= .ref (f 4)/\v2= .ref 4):= .inl ⟨h.1,by induction v using V.casesOn<;>first|trivial|exact h.2.elim⟩
theorem Nd{H H2:List n0}(G:Goes w b 4 H H2 λv v2=>(v2=v/\v.lt 4)\/(v= .ref 4/\v2= .ref 4)):Goes w b 5 H H2 Ld:=⟨λ{cx rs h og} S=>by
 refine b8 (G.go S) λr2 S2 a1 a2 a3 a4=> ?_;refine⟨r2,S2,λi a hi e=> ?_,a2,a3,λv v2 u hv x=>a4 v v2 u (ai (f:=id) hv) x⟩;by_cases h:i<4
 .exact a1 i a h e
 .have:i=4:=by lia
  subst this;refine u0 (a4 (.ref 4) (.ref 4) (.ref a) (.inr ⟨rfl,rfl⟩) ⟨a,e,rfl⟩) λa' e' h'=> ?_;cases h';exact e'⟩
theorem XN(ht:I0 t){X:List n0}(hs:src.lt 4):Goes w b 5 (wH ⟨t,room,sp,ho,fm⟩ ps src++X) (bH t room sp ho fm ps src) Ld:=by
 have lw:(wH ⟨t,room,sp,ho,fm⟩ ps src).length=wN t:=U4 ht;have l1:=pC (room:=room) (sp:=sp) (ho:=ho) (fm:=fm) (ps:=ps) ht;refine Nd (AJ (f:=id) ht (λi hi=> ?_) hs (λ_ _=>rfl) (λj hj=>⟨jB _ _,?_⟩) (λi j _ _ e=> ?_) λj o e=> ?_)
 .rw[Z0 (by rw[lw];unfold wN;lia)]
  match i,hi with
  |0,_=>rfl
  |1,_=>rfl
  |2,_=>rfl
  |3,_=>rfl
 .rw[o8,lw];show 4+j<_;lia
 .have e:4+i=4+j:=e;lia
 .have hj:=Y1 e;rw[l1] at hj;refine⟨o,?_,by rw[n0.R4 _]⟩;show J0 _ (4+j)=_;rw[Z0 (by rw[lw];lia),Nat.add_comm];exact e
theorem HR{xs:List V}:all2 (λv v2=>v2=v) xs xs:=by
 induction xs with
 |nil=>
  exact trivial
 |cons _ _ ih=>
  exact⟨rfl,ih⟩
theorem eM{f:V}{args:List V}{tp t0:List Bool}{Q:K1}(hf:∀i,f≠.ref i)(hi:∀d,f≠.W0 d)
 (x:F0 w b n f args ⟨wH ⟨t,room,sp,ho,fm⟩ ps src,t0⟩ λv F1=>noRef v/\∃ps' kG t2,Goes w b 5 F1.heap (bH t room sp ho fm ps' kG) Ld/\Q v ⟨bH t room sp ho fm ps' kG,t2⟩):
 F0 w b n f args ⟨bH t room sp ho fm ps src,tp⟩ Q:=by
 refine M8 (mA (t2:=t0) hf hi Zh HR (I5 x λv F1 z=>D0 z λhv z=>V3 z λps' kG t2 G q=> ?_));exact⟨v,bH t room sp ho fm ps' kG,t2,Ld,G,⟨rfl,hv⟩,q⟩
noncomputable def Hy(p:Port):Port:={p with up:=false,es:=[],kn:=[]}
noncomputable def fD(t j:Nat):Nat->Nat:=λi=>bif Nat.beq i (pI t j+1) then wN t+5 else bif Nat.beq i (pI t j+3) then wN t+2 else i
noncomputable def Er(t j:Nat)(room:Int)(sp ho fm:Nat->Int)(ps:Nat->Port)(p:Port)(src o o2 x y:n0):List n0:=tG (pI t j) jM (.ref (wN t+5)) (tG (pI t j+2) v7 (.ref (wN t+2)) (wH ⟨t,room,sp,ho,fm⟩ (W2 ps j (FW p)) src))++[o,o2,.dN false [],x,y,.dN true []]
noncomputable def Bu(t j:Nat):Prop:=∀(room:Int)(sp ho fm:Nat->Int)(ps:Nat->Port)(A C:Int)(o o2:n0),(yu t j room sp ho fm ps (A2 A C) o o2).map n0.D1=(Er t j room sp ho fm ps (ps j) (A2 A C) o o2 (.tup [.bool false false,.ref (wN t+2)]) (.lst ((T2 (ps j).es).map λe=> .W0 (Q1 true e.k)))).map n0.D1
noncomputable def Cu(t j:Nat):Prop:=∀(room:Int)(sp ho fm:Nat->Int)(ps:Nat->Port)(p:Port)(A C:Int)(o o2 x y:n0),(List.range (wN t -4)).map (λi=>J0 (Er t j room sp ho fm ps p (A2 A C) o o2 x y) (fD t j (4+i)))=(BF (Wp.par ⟨t,room,sp,ho,fm⟩) ((List.range 5).map (W2 ps j (Hy p)))).map λo=>some (o.Z5 (fD t j))
noncomputable def Du(t j:Nat):Prop:=∀(room:Int)(sp ho fm:Nat->Int)(ps:Nat->Port)(src:n0)(p:Port),E3 (tG (pI t j+2) tj (.bool false false) (wH ⟨t,room,sp,ho,fm⟩ (W2 ps j (FW p)) src))=E3 (wH ⟨t,room,sp,ho,fm⟩ (W2 ps j (FW p)) src)
noncomputable def Eu(t j:Nat):Prop:=∀(room:Int)(sp ho fm:Nat->Int)(ps:Nat->Port)(src:n0),upd (wH ⟨t,room,sp,ho,fm⟩ ps src) (pI t j+2) (.dS (Dg (ps j).up (ps j).AD (ps j).b6 (ps j).name (ps j).seg (pI t j+3)))=wH ⟨t,room,sp,ho,fm⟩ ps src
noncomputable def di(t j:Nat):Bool:=(List.range (wN t -4)).all (λi=>Nat.ble 4 (fD t j (4+i))&&Nat.blt (fD t j (4+i)) (wN t+6)&&(List.range (wN t -4)).all λk=> !Nat.beq (fD t j (4+i)) (fD t j (4+k))||Nat.beq i k)
theorem Gr{t j:Nat}(ht:I0 t)(hj:j<5):Bu t j:=by
 refine J1 (Q:=λt j=>Bu t j) ?_ ?_ ?_ ?_ ?_ ?_ ?_ ?_ ?_ ?_ ?_ ?_ ?_ ?_ ?_ ht hj<;>(unfold Bu;intros;kernel_rfl)
theorem Sa(ht:I0 t)(hj:j<5):Bu t j:=Gr ht hj
theorem Hr{t j:Nat}(ht:I0 t)(hj:j<5):Cu t j:=by
 refine J1 (Q:=λt j=>Cu t j) ?_ ?_ ?_ ?_ ?_ ?_ ?_ ?_ ?_ ?_ ?_ ?_ ?_ ?_ ?_ ht hj<;>(unfold Cu;intros;kernel_rfl)
theorem Ta(ht:I0 t)(hj:j<5):Cu t j:=Hr ht hj
theorem Ir{t j:Nat}(ht:I0 t)(hj:j<5):Du t j:=by
 refine J1 (Q:=λt j=>Du t j) ?_ ?_ ?_ ?_ ?_ ?_ ?_ ?_ ?_ ?_ ?_ ?_ ?_ ?_ ?_ ht hj<;>(unfold Du;intros;kernel_rfl)
theorem Ua(ht:I0 t)(hj:j<5):Du t j:=Ir ht hj
theorem Jr{t j:Nat}(ht:I0 t)(hj:j<5):Eu t j:=by
 refine J1 (Q:=λt j=>Eu t j) ?_ ?_ ?_ ?_ ?_ ?_ ?_ ?_ ?_ ?_ ?_ ?_ ?_ ?_ ?_ ht hj<;>(unfold Eu;intros;kernel_rfl)
theorem Va(ht:I0 t)(hj:j<5):Eu t j:=Jr ht hj
theorem NW(ht:I0 t)(hj:j<5):di t j=true:=J1 (Q:=λt j=>di t j=true) (by kernel_rfl) (by kernel_rfl) (by kernel_rfl) (by kernel_rfl) (by kernel_rfl) (by kernel_rfl) (by kernel_rfl) (by kernel_rfl) (by kernel_rfl) (by kernel_rfl) (by kernel_rfl) (by kernel_rfl) (by kernel_rfl) (by kernel_rfl) (by kernel_rfl) ht hj
theorem k9{m:Nat}:(A2 A C).lt m:=λv hv=>by
 simp only[M4,v8,or_false] at hv;rcases hv with rfl|rfl<;>trivial
theorem gi(ht:I0 t)(hj:j<5){o o2:n0}:Goes w b 5 (yu t j room sp ho fm ps (A2 A C) o o2) (bH t room sp ho fm (W2 ps j (Hy (ps j))) (A2 A C)) Ld:=by
 have l0:∀{x y:n0},(Er t j room sp ho fm ps (ps j) (A2 A C) o o2 x y).length=wN t+6:=λ{x y}=>by
  unfold Er;rw[o8,n8,n8,U4 ht];rfl
 have Kr:=NW ht hj;unfold di at Kr;have fo:∀i,i<wN t -4->(4<=fD t j (4+i)/\fD t j (4+i)<wN t+6)/\∀k,k<wN t -4->fD t j (4+i)=fD t j (4+k)->i=k:=λi hi=>by
  have h:=xC.mp Kr i (NJ.mpr hi);rw[JD,JD] at h;refine⟨⟨v9 h.1.1,Nat.blt_eq.mp h.1.2⟩,λk hk e=> ?_⟩;have h2:=xC.mp h.2 k (NJ.mpr hk);rw[e] at h2;simpa using h2
 have hp:∀q,pI t j+q≠4:=λq=>by unfold pI;lia
 have f4:∀i,i<5->fD t j i=i:=λi hi=>by
  unfold fD;have h1:Nat.beq i (pI t j+1)=false:=Bool.eq_false_iff.mpr λe=>by have:=V9 e;unfold pI at this;lia
  have h2:Nat.beq i (pI t j+3)=false:=Bool.eq_false_iff.mpr λe=>by have:=V9 e;unfold pI at this;lia
  rw[h1,h2];rfl
 refine((Goes.D1 (k0:=5) (Sa ht hj room sp ho fm ps A C o o2)).trans (Nd (Goes.weak (AJ (f:=fD t j) ht (λi hi=> ?_) k9 (λi hi=>f4 i (by exact Nat.lt_succ_of_lt (by assumption))) (λi hi=> ?_) (λi k hi hk=>(fo i hi).2 k hk) λi o' e=> ?_) λv v2 h=> ?_))).weak λv v2 h=>⟨v,rfl,h⟩
 .unfold Er;have hq:∀{x:Str}{v:V}{H:List n0}{q:Nat},i≠q->J0 (tG q x v H) i=J0 H i:=λ{x v H q} OA=>by
   unfold tG;induction J0 H q using opQ with
   |none=>rfl
   |some o=>exact Z3 OA
  rw[Z0 (by rw[n8,n8,U4 ht];unfold wN;lia),hq (by unfold pI;lia),hq (by unfold pI;lia)]
  match i,hi with
  |0,_=>rfl
  |1,_=>rfl
  |2,_=>rfl
  |3,_=>rfl
 .rw[l0];exact(fo i hi).1
 .have hi:=Y1 e;rw[pC ht] at hi;have h1:=congrArg (λl=>J0 l i) (Ta ht hj room sp ho fm ps (ps j) A C o o2 (.tup [.bool false false,.ref (wN t+2)]) (.lst ((T2 (ps j).es).map λe=> .W0 (Q1 true e.k))));simp only[rC,e,Option.map_some] at h1;rw[U0 (List.range _),List.getElem?_range hi,Option.map_some] at h1;exact⟨_,si h1,rfl⟩
 .rw[f4 4 (by exact j6 _)];exact h
end
section
variable{w:World}{b:Heap}{n:Nat}{t a j i p m N k0:Nat}{room:Int}{sp ho fm:Nat->Int}{ps ps' ps0:Nat->Port}{now sc A C f:Int}{src:n0}{R:Rec}{fr:J2}{σ:St}{O3:List (Str×Nat)}{sec:UInt8×UInt8->Int}{τ:Nat->Int}
theorem Lr{Q:K1}:E8 R (.fn 64) [.ref 3,.ref 4,iT now] σ Q=R.ex (A5 (.fn 64)) (I1 (.fn 64)) ⟨lS now,[]⟩ σ (WA Q):=by kernel_rfl
theorem Mr:A5 (.fn 64)=[T1 (A5 (.fn 64)) 0]++([T1 (A5 (.fn 64)) 1]++([T1 (A5 (.fn 64)) 2]++z7)):=by kernel_rfl
theorem Nr:V4 3=V4 2:=by kernel_rfl
theorem Pr:V4 6=V4 5:=by kernel_rfl
theorem BJ(ht:I0 t):Goes w b 5 (wH ⟨t,room,sp,ho,fm⟩ ps (A2 A C)) (bH t room sp ho fm ps (A2 A C)) Ld:=by
 have:=XN (w:=w) (b:=b) (room:=room) (sp:=sp) (ho:=ho) (fm:=fm) (ps:=ps) (src:=A2 A C) (X:=[]) ht k9
 rwa[VG] at this
theorem sC(h:Inv room sec τ ps){q:Port}(hq:j<5->P5 room sec (τ j) (ps j)->P5 room sec (τ j) q):Inv room sec τ (W2 ps j q):=λk hk=>by
 by_cases e:k=j
 .subst e;rw[M5];exact hq hk (h k hk)
 .rw[pA e];exact h k hk
theorem OW(h:P5 room sec now (ps j)){q:Port}(hu:q.up=false)(hp:PI room sec q)(hn:q.name=(ps j).name):P5 room sec now q:=
 ⟨hp,hn▸h.nm,(λe=>by rw[hu] at e;exact G2 e),(λe=>by rw[hu] at e;exact G2 e),(λe=>by rw[hu] at e;exact G2 e)⟩
theorem xE(d:Int):(UG d).length<=1:=by
 unfold UG
 match d.toNat with
 |0=>exact j6 _
 |1=>exact j6 _
 |2=>exact Nat.zero_le _
 |k+3=>exact Nat.zero_le _
noncomputable def gQ(w:World)(b:Heap)(t:Nat)(room:Int)(sp ho fm:Nat->Int)(Q:K1):K1:=λv F1=>noRef v/\∃ps' kG t2,Goes w b 5 F1.heap (bH t room sp ho fm ps' kG) Ld/\Q v ⟨bH t room sp ho fm ps' kG,t2⟩
theorem YN:0<(3:Int)/\small 3=true:=by decide
theorem tC(B:k3 w b)(ht:I0 t){r:Nat}(hr:40+r<=101){A' C':Int}{bv:Bool}{L:List (Str×V)}{tp t0:List Bool}{Q:K1}(x:(run (C0 (0,0) 0 []) r).ex z7 (I1 (.fn 64)) ⟨L,[]⟩ ⟨wH ⟨t,room,sp,ho,fm⟩ ps (A2 A C),t0⟩ (vK [] (wN t) (Pw (.ret (.bool true bv)) [] [] (E3 (wH ⟨t,room,sp,ho,fm⟩ ps' (A2 A' C'))))))(q:Q (.bool true bv) ⟨bH t room sp ho fm ps' (A2 A' C'),[]⟩):
 R0 w b 101 z7 (I1 (.fn 64)) ⟨L,[]⟩ ⟨wH ⟨t,room,sp,ho,fm⟩ ps (A2 A C),tp⟩ (WA (gQ w b t room sp ho fm Q)):=
 R0.up hr (e9 (N:=wN t) (names:=[]) (r:=r) (g2:= .ret (.bool true bv)) (L2:=[]) (cel2:=[]) (t2:=[]) B x (OH (U4 ht)) (HH ht) (λp hp=>by cases hp) trivial (λp hp=>by cases hp) (by unfold wN;lia) ⟨trivial,ps',A2 A' C',[],BJ ht,q⟩)
theorem Wa(B:k3 w b)(ht:I0 t)(hj:j<5)(hi:i<8)(hr:0<=room/\room<=3)(hf:∀a,0<=fm a)(Yc:0<=now)(JR:∀a,a<t->(small (sp a)||small (ho a))=true)(sG:∀a,a<t->0<=sp a*ho a+1/\sp a*ho a+1<65536)(hI:Inv room sec (λ_=>now) ps){tp:List Bool}{Q:K1}
 (q:∀s ps' A' C' t2,Inv room sec (λ_=>now) ps'->Q (.bool s true) ⟨bH t room sp ho fm ps' (A2 A' C'),t2⟩):
 R0 w b 101 z7 (I1 (.fn 64)) ⟨mM t j now (V4 i) (fm (y0 t j).1),[]⟩ ⟨wH ⟨t,room,sp,ho,fm⟩ ps (A2 A C),tp⟩ (WA (gQ w b t room sp ho fm Q)):=by
 have hP:=hI j hj;have ea:(y0 t j).1<t:=mC ht hj;have up:R0 w b 101 z7 (I1 (.fn 64)) ⟨mM t j now (V4 2) (fm (y0 t j).1),[]⟩ ⟨wH ⟨t,room,sp,ho,fm⟩ ps (A2 A C),tp⟩ (WA (gQ w b t room sp ho fm Q)):=
  tC (r:=20) B ht (by decide) (Eq.mpr (ya ht hj room sp ho fm ps now A C _) ⟨rfl,rfl,rfl,rfl⟩) (q _ _ _ _ _ (sC hI λ_ h=>⟨⟨h.pi.kn,h.pi.len,h.pi.sec,h.pi.ge,h.pi.nd⟩,h.nm,λ_=>rfl,λ_=>hf _,λ_=>by show(0:Int)=if now<0 then _ else _;rw[if_neg (by lia)]⟩))
 have hd:=T9 (A:=A) (C:=C) (T:=3) (by decide);have rn:R0 w b 101 z7 (I1 (.fn 64)) ⟨mM t j now (V4 5) (fm (y0 t j).1),[]⟩ ⟨wH ⟨t,room,sp,ho,fm⟩ ps (A2 A C),tp⟩ (WA (gQ w b t room sp ho fm Q)):=by
  have h1:=sG _ ea;have bc:okN (sp (y0 t j).1*ho (y0 t j).1+1) (UG (Y2 A C 3)):=⟨h1.1,h1.2,xE _⟩;have d1:decide (65535<sp (y0 t j).1*ho (y0 t j).1+1)=false:=decide_eq_false (by lia);induction e:(UG (Y2 A C 3)==(ps j).name) using Q2 with
  |true=>
   have en:UG (Y2 A C 3)=(ps j).name:=eq_of_beq e;refine tC (r:=40) (ps':=ps) (A':=g6 A C 3) (C':=i6 A C 3) B ht (by decide) (Eq.mpr (Aa ht hj room sp ho fm ps now A C _) ⟨YN,hd,by rw[e];rfl,JR _ ea,d1,d1,bc,by rw[e];simp,?_⟩) (q _ _ _ _ _ hI);rw[e,en,Va ht hj];exact⟨rfl,rfl,rfl,rfl⟩
  |false=>
   refine R0.up (n:=80) (by decide) (QB (L5 (r:=40) (k:=(0,0)) (s:=0) (m:=[]) (t:=[true,false,false,false]) B (Eq.mpr (Ba ht hj room sp ho fm ps now A C λg O3 z=>g= .ret (.bool true true)/\z=_) ⟨YN,hd,by rw[e];rfl,JR _ ea,d1,d1,bc,by rw[e];simp,by rw[e];rfl,rfl⟩)) λg V8 F1 hz=> ?_);refine D0 hz λB0=> ?_;clear hz;subst B0;intro hz;refine⟨trivial,W2 ps j (wy (fm (y0 t j).1) (UG (Y2 A C 3)) (ps j)),A2 (g6 A C 3) (i6 A C 3),[],?_,q _ _ _ _ _ (sC hI λ_ h=>⟨⟨h.pi.kn,h.pi.len,h.pi.sec,h.pi.ge,h.pi.nd⟩,xE _,λ_=>rfl,λ_=>hf _,λ_=>by show(0:Int)=if now<0 then _ else _;rw[if_neg (by lia)]⟩)⟩;have G:=HH (room:=room) (sp:=sp) (ho:=ho) (fm:=fm) (ps:=W2 ps j (wy (fm (y0 t j).1) (UG (Y2 A C 3)) (ps j))) (A:=g6 A C 3) (C:=i6 A C 3) ht;refine u3 hz λp hf2 hz=>B5 hz λc hc hz=>D0 (Prod.mk.inj hz) λz1 hz=>D0 (Prod.mk.inj hz) λz2 z3=> ?_
   .have g1:=Goes.Fg (w:=w) (b:=b) (k0:=5) hf2 (uS hc) z2;have g2:=I4 (w:=w) (b:=b) (N:=wN t) (k0:=5) (by unfold wN;lia) (by unfold wN;lia) z3 G.ln G.pl G.lt;exact((g1.trans g2).trans (BJ ht)).weak λv v2 h=>⟨v,⟨v,.inl rfl,v,⟨rfl,by induction v using V.casesOn<;>first|trivial|exact h.2.elim⟩,rfl⟩,h⟩
 refine p8 hi ?_ ?_ ?_ ?_ ?_ ?_ ?_ ?_
 .exact R0.up (n:=60) (by decide) (L5 (r:=20) (k:=(0,0)) (s:=0) (m:=[]) (t:=[]) B (Eq.mpr (dNo ht) ⟨trivial,ps,A2 A C,[],BJ ht,q _ _ _ _ _ hI⟩))
 .refine R0.up (n:=61) (by decide) (Pa B ht hj hP.pi hr.2 λs o o2 fr t2=>⟨trivial,W2 ps j (Hy (ps j)),A2 A C,[],gi ht hj,q _ _ _ _ _ (sC hI λ_ h=>OW h rfl ⟨rfl,by show((0:Nat):Int)<=room;exact hr.1,λe he=>(by cases he),λe he=>(by cases he),List.nodup_nil⟩ rfl)⟩)
 .exact up
 .rw[Nr];exact up
 .exact tC (r:=20) B ht (by decide) (Eq.mpr (za ht hj room sp ho fm ps now A C _) ⟨YN,rfl,rfl,rfl,rfl⟩) (q _ _ _ _ _ (sC hI λ_ h=>⟨⟨h.pi.kn,h.pi.len,h.pi.sec,h.pi.ge,h.pi.nd⟩,h.nm,h.eq,h.nn,h.wt⟩))
 .exact rn
 .rw[Pr];exact rn
 .have iv:Inv room sec (λ_=>now) (W2 ps j (FW (ps j))):=sC hI λ_ h=>OW h rfl ⟨h.pi.kn,h.pi.len,h.pi.sec,h.pi.ge,h.pi.nd⟩ rfl;induction hu:(ps j).up using Q2 with
  |false=>
   refine tC (r:=40) (ps':=W2 ps j (FW (ps j))) (A':=A) (C':=C) B ht (by decide) (Eq.mpr (Ca ht hj room sp ho fm ps now A C _) ⟨hu,hu,?_⟩) (q _ _ _ _ _ iv);have e:W2 ps j (FW (ps j))=ps:=by
    have:FW (ps j)=ps j:=by
     show({ps j with up:=false}:Port)=_;rw[hu.symm]
    rw[this,G7]
   have:=Ua ht hj room sp ho fm ps (A2 A C) (ps j);rw[e] at this⊢;exact⟨rfl,rfl,rfl,this⟩
  |true=>
   have ok0:okN 0 (ps j).name:=⟨by decide,by decide,hP.nm⟩;refine J5 ((LV B 40).wC.2.1 (Eq.mpr (Ea (w:=w) (b:=b) ht hj room sp ho fm ps now A C _) ⟨hu,ok0,hu,?_⟩));have lw:(wH ⟨t,room,sp,ho,fm⟩ (W2 ps j (FW (ps j))) (A2 A C)).length=wN t:=U4 ht;have nx:∀{X:List n0}{k:Nat},J0 (wH ⟨t,room,sp,ho,fm⟩ (W2 ps j (FW (ps j))) (A2 A C)++X) (wN t+k)=J0 X k:=λ{X k}=>by
    rw[P1 (by rw[lw];exact jB _ _),lw,Nat.add_sub_cancel_left]
   have en:(W2 ps j (FW (ps j)) j).name=(ps j).name:=by rw[M5];rfl
   refine D0 (XF (t:=t) (i:=j) (fm:=fm) (s:=0) (now:=now) iv (.inl rfl) (by decide) hf (λ_=>Yc)) λi1 i2=> ?_;refine mA (args2:=[.ref 4,G5 t j,.ref (wN t+4),iT 0,iT now]) (t2:=[]) (λi h=>A0 (congrArg rV h)) (λd h=>A0 (congrArg mV h)) (Goes.D1 (Ga ht hj room sp ho fm ps (A2 A C) (ps j).up (ps j).name)) ⟨rfl,rfl,rfl,rfl,rfl,trivial⟩ ?_;refine CH (sec:=sec) (mac:=16+((y0 t j).1:Int)) (fi:=wN t+4) (ti:=wN t+3) B ht hj hr.2 (.inl rfl) (by rw[en];exact ok0) (λk hk=>(iv k hk).pi) ?_ (nx.trans rfl) (by exact jB _ _) (by exact jB _ _) λt2=>⟨trivial,_,A2 A C,[],XN ht k9,q _ _ _ _ _ i1⟩;rw[en];exact nx.trans rfl
theorem ZN(B:k3 w b)(ht:I0 t)(hr:0<=room/\room<=3)(hf:∀a,0<=fm a)(Yc:0<=now)(JR:∀a,a<t->(small (sp a)||small (ho a))=true)(sG:∀a,a<t->0<=sp a*ho a+1/\sp a*ho a+1<65536)(hI:Inv room sec (λ_=>now) ps){tp:List Bool}{Q:K1}
 (q:∀s ps' A' C' t2,Inv room sec (λ_=>now) ps'->Q (.bool s true) ⟨bH t room sp ho fm ps' (A2 A' C'),t2⟩):
 F0 w b 102 (.fn 64) [.ref 3,.ref 4,iT now] ⟨bH t room sp ho fm ps (A2 A C),tp⟩ Q:=by
 refine eM (t0:=[]) (λi h=>A0 (congrArg rV h)) (λd h=>A0 (congrArg mV h)) (z6 B ?_);rw[Lr];show R0 w b 101 _ _ _ _ _;rw[Mr];have h5:=T9 (A:=A) (C:=C) (T:=5) (by decide);have h8:=T9 (A:=g6 A C 5) (C:=i6 A C 5) (T:=8) (by decide);obtain⟨j,e5⟩:∃j:Nat,Y2 A C 5=(j:Int):=⟨(Y2 A C 5).toNat,by lia⟩;obtain⟨i,e8⟩:∃i:Nat,Y2 (g6 A C 5) (i6 A C 5) 8=(i:Int):=⟨(Y2 (g6 A C 5) (i6 A C 5) 8).toNat,by lia⟩;have hj:j<5:=by lia
 have hi:i<8:=by lia
 have lw:∀{src:n0},(wH ⟨t,room,sp,ho,fm⟩ ps src).length=wN t:=U4 ht;have w4:4<wN t:=by unfold wN;lia
 have ea:aI (y0 t j).1<wN t:=by have:=mC ht hj;unfold aI wN;lia
 have ep:pI t j+2<wN t:=by unfold pI wN;lia
 have r0:∀p∈Uq t j now,p.2.lt (wN t):=λp hp=>by
  simp only[Uq,lS,List.cons_append,List.nil_append,M4,v8,or_false] at hp;rcases hp with rfl|rfl|rfl|rfl<;>first|trivial|(show 3<_;exact Nat.le_of_lt (by assumption))|(show 4<_;omega)
 have r2:∀p∈nu t j now (V4 i),p.2.lt (wN t):=λp hp=>by
  rcases R5.mp hp with hp|hp
  .exact r0 p hp
  .rw[l9.mp hp];trivial
 have r3:∀p∈mM t j now (V4 i) (fm (y0 t j).1),p.2.lt (wN t):=λp hp=>by
  rcases R5.mp hp with hp|hp
  .exact r2 p hp
  .simp only[M4,v8,or_false] at hp;rcases hp with rfl|rfl|rfl<;>first|trivial|exact ea|exact ep
 refine w3 (R0.up (n:=60) (by decide) (e9 (N:=wN t) (names:=sj) (r:=20) (g2:= .next) (L2:=Uq t j now) (cel2:=[]) (t2:=[]) B (Eq.mpr (Nh ht hj room sp ho fm ps now A C _) ⟨by decide,h5,RN e5 ⟨rfl,rfl,rfl,rfl⟩⟩) (OH lw) (HH ht) r0 trivial (λp hp=>by cases hp) (by lia) ?_));refine w3 (R0.up (n:=60) (by decide) (e9 (N:=wN t) (names:=sj++[GH]) (r:=20) (g2:= .next) (L2:=nu t j now (V4 i)) (cel2:=[]) (t2:=[]) B (Eq.mpr (Ph ht hi room sp ho fm ps now (g6 A C 5) (i6 A C 5) (d6 (y0 t j)) _) ⟨by decide,h8,RN e8 ⟨rfl,rfl,rfl,rfl⟩⟩) (OH lw) (HH ht) r2 trivial (λp hp=>by cases hp) (by lia) ?_));refine w3 (R0.up (n:=60) (by decide) (e9 (N:=wN t) (names:=sj++[GH,j9,TN,UN]) (r:=20) (t:=[]) (g2:= .next) (L2:=mM t j now (V4 i) (fm (y0 t j).1)) (cel2:=[]) (t2:=[]) B (Eq.mpr (Oh ht hj room sp ho fm ps now _ _ (V4 i) _) ⟨rfl,rfl,rfl,rfl⟩) (OH lw) (HH ht) r3 trivial (λp hp=>by cases hp) (by lia) ?_));exact Wa B ht hj hi hr hf Yc JR sG hI q
end
noncomputable def tpP:List Bool:=[false,false,false,false,false,true,false]
section
variable{w:World}{b:Heap}{n:Nat}{t a j i p m N k0:Nat}{room:Int}{sp ho fm:Nat->Int}{ps ps' ps0:Nat->Port}{now sc A C f:Int}{src:n0}{R:Rec}{fr:J2}{σ:St}{O3:List (Str×Nat)}{sec:UInt8×UInt8->Int}{τ:Nat->Int}
theorem call_of{N r:Nat}{C:oG}(O:M6 w b N (run C r)){f:V}{args:List V}{H:List n0}{t tp:List Bool}{Q:K1}{X:Prop}(e:(run C r).call f args ⟨H,t⟩ Q=X)(x:X):F0 w b N f args ⟨H,tp⟩ Q:=W6 (t:=t) (O.wC.2.2 (Eq.mpr e x))
noncomputable def Od(o:n0)(P:V->List n0->Prop):Prop:=(okN 3 [110])/\(okN 3 [110])/\(okN 3 [110])/\((K4 (0,1) 3 [110]=K4 (0,1) 3 [110]/\okN 3 [110]))/\(false=false)/\(True)/\(false=false)/\((0:Nat)<100)/\(false=false)/\(True)/\(((0:UInt8)=0/\(1:UInt8)=1))/\((0:Nat)<100)/\((1:Nat)<=3)/\(True)/\(true=true)/\(false=false)/\((1:Nat)<=3)/\(True)/\(true=true)/\(false=false)/\((1:Nat)<=3)/\(True)/\(true=true)/\(true=true)/\(True)/\((1:Nat)<100)/\(true=true)/\(false=false)/\((0:Nat)<=3)/\P (.bool true true) (E3 [y3,.L0,o])
noncomputable def Pd:Prop:=∀(o:n0)(P:V->List n0->Prop),(run (C0 (0,1) 3 [110]) 40).call (.fn 68) [] ⟨[y3,.L0,o],tpP⟩ (λv σ=>P v.D1 (E3 (σ.heap.take 3)))=Od o P
theorem PW:Pd:=by unfold Pd;intros;kernel_rfl
noncomputable def QW(o:n0):V->List n0->Prop:=λv H=>v= .bool true true/\H=E3 [y3,.L0,o]
theorem Fu:okN 3 [110]:=⟨by decide,by decide,by decide⟩
theorem RW{o:n0}:Od o (QW o):=⟨Fu,Fu,Fu,⟨rfl,Fu⟩,rfl,trivial,rfl,by decide,rfl,trivial,⟨rfl,rfl⟩,by decide,by decide,trivial,rfl,rfl,by decide,trivial,rfl,rfl,by decide,trivial,rfl,rfl,trivial,by decide,rfl,rfl,by decide,⟨rfl,rfl⟩⟩
theorem Xa(B:k3 w b){o:n0}(ho:o.lt 3){tp:List Bool}{Q:K1}(q:∀t2,Q (.bool false true) ⟨[y3,.L0,o],t2⟩):F0 w b 80 (.fn 68) [] ⟨[y3,.L0,o],tp⟩ Q:=by
 have y:F0 w b 80 (.fn 68) [] ⟨[y3,.L0,o],tp⟩ λv σ=>QW o v.D1 (E3 (σ.heap.take 3)):=call_of (runC B (0,1) 3 [110] 40) (PW o (QW o)) RW;refine lR (N:=3) (j6 _) (by decide) (I5 y λv F1 h=> ?_);refine⟨.bool false true,[y3,.L0,o],[],h.1,trivial,h.2,rfl,rfl,λx hx=> ?_,q []⟩;simp only[M4,v8,or_false] at hx;rcases hx with rfl|rfl|rfl
 .exact IF (H:=[y3]) (by kernel_rfl) _ (List.mem_singleton_self _)
 .trivial
 .exact ho
end
noncomputable def CD:oG:=λf args σ Q=>sX (zP 56 f) ((J0 σ.heap 1).bind λo=>gO (Nc o) ((BP args σ.heap).map λr=>(0<r.2.2.2/\small r.2.2.2=true)/\∀d a c,0<=d->d<r.2.2.2->Q (.int true d) (σ.set r.1 (A2 a c)))) (C0 (0,0) 0 [] f args σ Q)
noncomputable def vj(L:Int)(X:Int->Int->Int->Prop):Prop:=(0<L/\small L=true)/\∀d a c,0<=d->d<L->X d a c
noncomputable def Qr(L:Int)(X:Int->Int->Int->Prop):Prop:=vj L λd a c=>(0<=d/\d<L)/\X d a c
noncomputable def SW(m:List Int):Nat->List Int->Int->Int->(List Int->Int->Int->Prop)->Prop
 |0,acc,a,c,X=>X acc a c
 |n+1,acc,a,c,X=>Qr m.length λd a c=>SW m n (acc++[m.getD d.toNat 0]) a c X
noncomputable def Iy:List Int->List Int->Prop->Prop
 |s::ss,h::hs,P=>(small s||small h)=true/\Iy ss hs P
 |_,_,P=>P
noncomputable def ji:Str:=⟨#[109,101,110,117,115]⟩
noncomputable def Za:Str:=⟨#[97,103,101,110,116,115]⟩
noncomputable def ki:Str:=⟨#[108,105,118,101,115]⟩
noncomputable def Jy:Str:=⟨#[111,119,110]⟩
noncomputable def bB:Str:=⟨#[110,97,109,101]⟩
noncomputable def a8:List (Str×Nat):=[(⟨#[102,97,115,116,115]⟩,9),(⟨#[104,111,108,100,115]⟩,8),(⟨#[115,112,97,110,115]⟩,7),(⟨#[114,111,111,109]⟩,6),(⟨#[109,97,110,121]⟩,5),(⟨#[115,111,117,114,99,101]⟩,4)]
noncomputable def iQ:List n0:=[.cell (some (.ref 3)),.cell none,.cell none,.cell none,.cell none,.cell none]
noncomputable def hA(t room A C:Int):List n0:=[y3,.L0,.any,A2 A C,.cell (some (.ref 3)),.cell (some (iT t)),.cell (some (iT room)),.cell none,.cell none,.cell none,.tup [iT t,iT room]]
noncomputable def m1:List Int:=[1,2,3,5]
noncomputable def m2:List Int:=[1,2]
noncomputable def m3:List Int:=[0,1,3]
noncomputable def cD(t:Nat):List (Str×V):=[(ji,.ref 14),(Za,.ref (24+3*t)),(ki,.ref (26+3*t)),(Jy,.ref (27+3*t))]
noncomputable def agB(room:Int)(pd:Nat->n0):Nat->List Int->List Int->List Int->List n0
 |a,s::ss,h::hs,f::fs=> .inst 50 (Zm s h f):: .inst 53 (Ym (16+(a:Int)) room (24+3*a) (26+3*a))::pd a::agB room pd (a+1) ss hs fs
 |_,_,_,_=>[]
noncomputable def agR:Nat->List Int->List V
 |_,[]=>[]
 |a,_::r=> .ref (25+3*a)::agR (a+1) r
noncomputable def lvB:List Int->List Int->List V
 |s::ss,h::hs=>iT (s*h+1)::lvB ss hs
 |_,_=>[]
noncomputable def rg(t:Int):n0:= .D4 (.w9 0 t 1)
noncomputable def cb(t:Nat)(room:Int)(s h f:List Int)(a c:Int)(pd:Nat->n0)(own:n0):List n0:=
 [y3,.L0,.any,A2 a c,.cell (some (.ref 3)),.cell (some (iT (t:Int))),.cell (some (iT room)),.cell (some (.ref 17)),.cell (some (.ref 19)),.cell (some (.ref 21)),.tup [iT (t:Int),iT room],
  .lst (m1.map iF),.lst (m2.map iF),.lst (m3.map iF),.D4 (.lst [.ref 11,.ref 12,.ref 13]),.cell (some (.ref 13)),rg t,.lst (s.map iT),rg t,.lst (h.map iT),rg t,.lst (f.map iT),.lst [.ref 17,.ref 19,.ref 21],rg t]
 ++agB room pd 0 s h f++[.lst (agR 0 s),rg t,.lst (lvB s h),own,.tup [.ref (26+3*t),.ref (27+3*t)]]
section
variable{w:World}{b:Heap}{n:Nat}{t a j i p m N k0:Nat}{room:Int}{sp ho fm:Nat->Int}{ps ps' ps0:Nat->Port}{now sc A C f:Int}{src:n0}{R:Rec}{fr:J2}{σ:St}{O3:List (Str×Nat)}{sec:UInt8×UInt8->Int}{τ:Nat->Int}
theorem Rr(B:k3 w b):∀n,40<=n->s9 w b n CD:=by
 intro n hn f args σ Q P e hP;refine CF e (λg e=>u3 e λo h1 e=>A4 e λpo e=>B5 e λr hr e=> ?_) λe=>GF B (0,0) 0 [] n hn e hP;have hP:=e▸hP;have z:=T9 (A:=r.2.1) (C:=r.2.2.1) hP.1.1;refine GF B (0,0) 0 [] n hn (P:=(0<r.2.2.2/\small r.2.2.2=true)/\Q (.int true (Y2 r.2.1 r.2.2.1 r.2.2.2)) (σ.set r.1 (.lst [iT (g6 r.2.1 r.2.2.1 r.2.2.2),iT (i6 r.2.1 r.2.2.1 r.2.2.2)]))) ?_ ⟨hP.1,hP.2 _ _ _ z.1 z.2⟩;rw[AP g];show(J0 σ.heap 1).bind (λo=>gO (Nc o) ((BP args σ.heap).map _))=_;rw[h1,hr];show gO (Nc o) _=_;rw[po];rfl
theorem aO(B:k3 w b)(r:Nat):M6 w b (40+r) (run CD r):=K9 B 40 (λn h=>Rr B n h) r
theorem Sr{Q:K1}:E8 R (.fn 60) [.ref 3] ⟨[y3,.L0,.any,A2 A C],[]⟩ Q=R.ex (A5 (.fn 60)) (I1 (.fn 60)) ⟨[],a8⟩ ⟨[y3,.L0,.any,A2 A C]++iQ,[]⟩ (WA Q):=by kernel_rfl
theorem Ky{K:KS}:(run CD 20).ex [T1 (A5 (.fn 60)) 0] (I1 (.fn 60)) ⟨[],a8⟩ ⟨[y3,.L0,.any,A2 A C]++iQ,[]⟩ K=vj 3 λd a c=>vj 3 λe a c=>K .next ⟨[],a8⟩ ⟨hA (3+d) (1+e) a c,[]⟩:=by kernel_rfl
noncomputable def rB(t:Nat):Prop:=∀(room A C:Int)(K:KS),(run CD 30).ex (((A5 (.fn 60)).drop 1).take 4) (I1 (.fn 60)) ⟨[],a8⟩ ⟨hA t room A C,[]⟩ K=SW m1 t [] A C λs a c=>SW m2 t [] a c λh a c=>SW m3 t [] a c λf a c=>Iy s h (K .next ⟨cD t,a8⟩ ⟨cb t room s h f a c (λ_=> .dT []) (.dT []),[]⟩)
theorem rB3:rB 3:=by unfold rB;intros;kernel_rfl
theorem rB4:rB 4:=by unfold rB;intros;kernel_rfl
theorem rB5:rB 5:=by unfold rB;intros;kernel_rfl
end
noncomputable def cB:Str:=⟨#[105,115,95,117,112]⟩
noncomputable def q0B(t:Nat):Nat:=40+3*t
noncomputable def bO(t i:Nat):Nat:=52+3*t+16*i
noncomputable def dD(t:Nat)(e:End):Nat:=match e.2 with
 |1=>30+3*t+e.1
 |_=>32+4*t+e.1
noncomputable def ents(t a:Nat):Nat->Nat->List (Int×V)
 |_,0=>[]
 |i,n+1=>match Nat.beq (y0 t i).1 a with
  |true=>(((y0 t i).2:Int),.ref (bO t i))::ents t a (i+1) n
  |false=>ents t a (i+1) n
noncomputable def pdB(t j a:Nat):n0:=match ents t a 0 j with
 |[]=> .dT []
 |l=> .dI l
noncomputable def mi(t:Nat):Nat->Nat->List (Dt×V×V)
 |_,0=>[]
 |i,n+1=>(d6 (y0 t i),.ref (dD t (y0 t i)),.ref (bO t i+3))::mi t (i+1) n
noncomputable def Ur(e:End):n0:= .tup [iF (e.1:Int),iF (e.2:Int)]
noncomputable def itB(t:Nat):List n0:=[rg (t:Int)]++(List.range t).map (λa=>Ur (a,1))++[.lst ((List.range t).map λa=> .ref (dD t (a,1))),rg (5 -(t:Int))]++(List.range (5 -t)).map (λa=>Ur (a,2))++[.lst ((List.range (5 -t)).map λa=> .ref (dD t (a,2))),.lst ((List.range t).map (λa=> .ref (dD t (a,1)))++(List.range (5 -t)).map (λa=> .ref (dD t (a,2))))]
noncomputable def eD(t:Nat):List V:=(oL t).map λe=> .ref (dD t e)
noncomputable def bk(t i:Nat)(told fmv:Int)(up1 u:Bool)(n:List UInt8)(g:Int):List n0:=
 let q:=q0B t+16*i;let e:=y0 t i
 [.lst [.bytes false [97],.bytes false [98],.bytes false []],.tup [.bytes true n,.bool true up1],.lst [iF (e.1:Int)],.tup [.str (Str.ofString "chassis"),iF 7,.bytes false [e.1.toUInt8]],.lst [iF (e.2:Int)],.tup [.str (Str.ofString "port"),iF 7,.bytes false [e.2.toUInt8]],
  .tup [.str (Str.ofString "time"),iF 0],.tup [.str (Str.ofString "name"),.bytes true n],.D4 (.lst [.ref (q+3),.ref (q+5),.ref (q+6),.ref (q+7)]),.cell (some (iT told)),.tup [.str (Str.ofString "time"),iT told],.lst [.ref (q+3),.ref (q+5),.ref (q+10),.ref (q+7)],
  .inst 52 [ge ⟨#[114,111,119,115]⟩ (.ref (q+11)),ge ⟨#[105,115,95,117,112]⟩ (.bool false u),ge ⟨#[119,97,105,116]⟩ (iF 0),ge ⟨#[102,97,115,116]⟩ (.int u (bif u then fmv else 0)),ge ⟨#[110,101,105,103,104,98,111,117,114,115]⟩ (.ref (q+13))],.dN true [],.dN false [],
  .dS [ge ⟨#[117,112]⟩ (.bool true up1),ge ⟨#[100,117,101]⟩ (iF 0),ge ⟨#[102,97,115,116]⟩ (iT fmv),ge ⟨#[110,97,109,101]⟩ (.bytes true n),ge ⟨#[115,101,103,109,101,110,116]⟩ (iT g),ge ⟨#[107,110,111,119,110]⟩ (.ref (q+14))]]
noncomputable def Vr(t:Nat)(sp ho fm:Nat->Int)(up:Nat->Bool)(nm:Nat->List UInt8)(sg:Nat->Int):Nat->Nat->List n0
 |_,0=>[]
 |i,n+1=>bk t i (sp (y0 t i).1*ho (y0 t i).1+1) (fm (y0 t i).1) (up i) (up i) (nm i) (sg i)++Vr t sp ho fm up nm sg (i+1) n
noncomputable def hL(t:Nat)(room:Int)(sp ho fm:Nat->Int)(j:Nat)(up:Nat->Bool)(nm:Nat->List UInt8)(sg:Nat->Int)(a c:Int)(l:n0):List n0:=
 cb t room ((List.range t).map sp) ((List.range t).map ho) ((List.range t).map fm) a c (pdB t j) (.dT (mi t 0 j))++itB t++[l]++Vr t sp ho fm up nm sg 0 j
noncomputable def CJ:Stmt:=T1 (A5 (.fn 60)) 5
noncomputable def Wr(t j:Nat)(v x y:V):List (Str×V):=match j with
 |0=>cD t++[(Y5,.ref (dD t (y0 t 0)))]
 |j+1=>cD t++[(Y5,.ref (dD t (y0 t (j+1)))),(bB,x),(cB,y)]
noncomputable def ri{α:Type}(f:Nat->α)(j:Nat)(x:α):Nat->α:=λi=>bif Nat.beq i j then x else f i
noncomputable def YR(t:Nat):n0:= .D4 (.lst (eD t))
section
variable{w:World}{b:Heap}{n:Nat}{t a j i p m N k0:Nat}{room:Int}{sp ho fm:Nat->Int}{ps ps' ps0:Nat->Port}{now sc A C f:Int}{src:n0}{R:Rec}{fr:J2}{σ:St}{O3:List (Str×Nat)}{sec:UInt8×UInt8->Int}{τ:Nat->Int}
noncomputable def hG(t:Nat)(room:Int)(sp ho fm:Nat->Int)(j:Nat)(up:Nat->Bool)(nm:Nat->List UInt8)(sg:Nat->Int)(a c:Int)(l:n0)(up1 u:Bool)(n:List UInt8)(g:Int):List n0:=
 cb t room ((List.range t).map sp) ((List.range t).map ho) ((List.range t).map fm) a c (pdB t (j+1)) (.dT (mi t 0 (j+1)))++itB t++[l]++Vr t sp ho fm up nm sg 0 j++bk t j (sp (y0 t j).1*ho (y0 t j).1+1) (fm (y0 t j).1) up1 u n g
noncomputable def rI(t:Nat):Prop:=∀(room A C:Int)(sp ho fm sg:Nat->Int)(up:Nat->Bool)(nm:Nat->List UInt8)(Q:K1),(run CD 20).ev (y5 CJ) (I1 (.fn 60)) ⟨cD t,a8⟩ ⟨cb t room ((List.range t).map sp) ((List.range t).map ho) ((List.range t).map fm) A C (λ_=> .dT []) (.dT []),[]⟩ Q=Q (.ref (39+3*t)) ⟨hL t room sp ho fm 0 up nm sg A C (.lst (eD t)),[]⟩
noncomputable def UW(t j:Nat)(n:List UInt8)(x:Bool):List (Str×V):=cD t++[(Y5,.ref (dD t (y0 t j))),(bB,.bytes true n),(cB,.bool true x)]
noncomputable def rD(t j:Nat):Prop:=∀(room A C:Int)(sp ho fm sg:Nat->Int)(up:Nat->Bool)(nm:Nat->List UInt8)(x y:V)(K:KS),(run CD 30).ex ((W5 CJ).take 3) (I1 (.fn 60)) ⟨Wr t j .none x y,a8⟩ ⟨hL t room sp ho fm j up nm sg A C (YR t),[false,false]⟩ K=Qr 3 λd a c=>vj 4 λe a c=>(small (sp (y0 t j).1)||small (ho (y0 t j).1))=true/\decide (65535<sp (y0 t j).1*ho (y0 t j).1+1)=false/\decide (65535<sp (y0 t j).1*ho (y0 t j).1+1)=false/\okN (sp (y0 t j).1*ho (y0 t j).1+1) (UG d)/\vj 3 λg a c=>K .next ⟨UW t j (UG d) (decide (0<e)),a8⟩ ⟨hG t room sp ho fm j up nm sg a c (YR t) (decide (0<e)) false (UG d) g,[]⟩
noncomputable def rE(u:Bool)(t j:Nat):Prop:=∀(room A C:Int)(sp ho fm sg:Nat->Int)(up:Nat->Bool)(nm:Nat->List UInt8)(n:List UInt8)(x:Bool)(g:Int)(K:KS),(run CD 30).ex ((W5 CJ).drop 3) (I1 (.fn 60)) ⟨UW t j n x,a8⟩ ⟨hG t room sp ho fm j up nm sg A C (YR t) x false n g,[u]⟩ K=(x=u/\K .next ⟨UW t j n x,a8⟩ ⟨hG t room sp ho fm j up nm sg A C (YR t) x u n g,[]⟩)
noncomputable def rN(j:Nat):Prop:=∀(t:Nat)(sp ho fm sg:Nat->Int)(up:Nat->Bool)(nm:Nat->List UInt8)(u:Bool)(n:List UInt8)(g:Int),Vr t sp ho fm up nm sg 0 j++bk t j (sp (y0 t j).1*ho (y0 t j).1+1) (fm (y0 t j).1) u u n g=Vr t sp ho fm (ri up j u) (ri nm j n) (ri sg j g) 0 (j+1)
theorem rI3:rI 3:=by unfold rI;intros;kernel_rfl
theorem rI4:rI 4:=by unfold rI;intros;kernel_rfl
theorem rI5:rI 5:=by unfold rI;intros;kernel_rfl
theorem rN0:rN 0:=by unfold rN;intros;kernel_rfl
theorem rN1:rN 1:=by unfold rN;intros;kernel_rfl
theorem rN2:rN 2:=by unfold rN;intros;kernel_rfl
theorem rN3:rN 3:=by unfold rN;intros;kernel_rfl
theorem rN4:rN 4:=by unfold rN;intros;kernel_rfl
theorem Ly{t j:Nat}(ht:I0 t)(hj:j<5):rD t j:=by
 refine J1 (Q:=λt j=>rD t j) ?_ ?_ ?_ ?_ ?_ ?_ ?_ ?_ ?_ ?_ ?_ ?_ ?_ ?_ ?_ ht hj<;>(unfold rD;intros;kernel_rfl)
theorem ui(ht:I0 t)(hj:j<5):rD t j:=Ly ht hj
theorem Xr{t j:Nat}(ht:I0 t)(hj:j<5):rE false t j:=by
 refine J1 (Q:=λt j=>rE false t j) ?_ ?_ ?_ ?_ ?_ ?_ ?_ ?_ ?_ ?_ ?_ ?_ ?_ ?_ ?_ ht hj<;>(unfold rE;intros;kernel_rfl)
theorem fb(ht:I0 t)(hj:j<5):rE false t j:=Xr ht hj
theorem Yr{t j:Nat}(ht:I0 t)(hj:j<5):rE true t j:=by
 refine J1 (Q:=λt j=>rE true t j) ?_ ?_ ?_ ?_ ?_ ?_ ?_ ?_ ?_ ?_ ?_ ?_ ?_ ?_ ?_ ht hj<;>(unfold rE;intros;kernel_rfl)
theorem gb(ht:I0 t)(hj:j<5):rE true t j:=Yr ht hj
theorem vi:∀{j:Nat},j<5->rN j
 |0,_=>rN0
 |1,_=>rN1
 |2,_=>rN2
 |3,_=>rN3
 |4,_=>rN4
theorem Zr(hj:j<5){up:Nat->Bool}{nm:Nat->List UInt8}{sg:Nat->Int}{l:n0}{u:Bool}{n:List UInt8}{g:Int}:hG t room sp ho fm j up nm sg A C l u u n g=hL t room sp ho fm (j+1) (ri up j u) (ri nm j n) (ri sg j g) A C l:=by
 unfold hG hL;rw[i7,vi hj]
theorem As{v:V}{K:J2->St->Prop}:n6 R (k4 CJ) (.inl v) (I1 (.fn 60)) ⟨cD t,a8⟩ σ K=K ⟨cD t++[(Y5,v)],a8⟩ σ:=by kernel_rfl
theorem Bs{v v0 x y:V}{K:J2->St->Prop}:n6 R (k4 CJ) (.inl v) (I1 (.fn 60)) ⟨cD t++[(Y5,v0),(bB,x),(cB,y)],a8⟩ σ K=K ⟨cD t++[(Y5,v),(bB,x),(cB,y)],a8⟩ σ:=by kernel_rfl
theorem wi{K:m9->List w5->St->Prop}:P4 R (k4 CJ) (y5 CJ) (I1 (.fn 60)) fr σ K=R.ev (y5 CJ) (I1 (.fn 60)) fr σ (pG K):=by kernel_rfl
theorem VW(ht:I0 t){up:Nat->Bool}{nm:Nat->List UInt8}{sg:Nat->Int}{tp:List Bool}:L7 ⟨hL t room sp ho fm 0 up nm sg A C (.lst (eD t)),tp⟩ (.ref (39+3*t))=some ([(39+3*t,.lst (eD t))],(eD t).map .inl)/\E4 [(39+3*t,.lst (eD t))] ⟨hL t room sp ho fm 0 up nm sg A C (.lst (eD t)),tp⟩=⟨hL t room sp ho fm 0 up nm sg A C (YR t),tp⟩:=by
 rcases ht with rfl|rfl|rfl<;>exact⟨by kernel_rfl,by kernel_rfl⟩
theorem My(ht:I0 t){x y v:V}{up:Nat->Bool}{nm:Nat->List UInt8}{sg:Nat->Int}{K:KS}:(run CD 20).ex [T1 (A5 (.fn 60)) 6] (I1 (.fn 60)) ⟨cD t++[(Y5,v),(bB,x),(cB,y)],a8⟩ ⟨hL t room sp ho fm 5 up nm sg A C (YR t),[]⟩ K=K (.ret (.ref (120+3*t))) ⟨cD t++[(Y5,v),(bB,x),(cB,y)],a8⟩ ⟨hL t room sp ho fm 5 up nm sg A C (YR t)++[.lst [.ref (24+3*t),.ref (27+3*t),.ref (26+3*t),.ref 17,.ref 21,iT room]],[]⟩:=by
 rcases ht with rfl|rfl|rfl<;>kernel_rfl
theorem Cs:A5 (.fn 60)=[T1 (A5 (.fn 60)) 0]++((((A5 (.fn 60)).drop 1).take 4)++([CJ]++[T1 (A5 (.fn 60)) 6])):=by kernel_rfl
end
noncomputable def V.sub(i:Nat)(d:V):V->V
 | .ref k=>bif Nat.beq k i then d else .ref k
 |v=>v
noncomputable def n0.WW(g:V->V):n0->n0
 | .lst xs=> .lst (xs.map g)
 | .tup xs=> .tup (xs.map g)
 | .cell v=> .cell (v.map g)
 | .inst c fs=> .inst c (fs.map λp=>(p.1,g p.2))
 | .dS es=> .dS (es.map λp=>(p.1,g p.2))
 | .dI es=> .dI (es.map λp=>(p.1,g p.2))
 | .dT es=> .dT (es.map λp=>(p.1,g p.2.1,g p.2.2))
 | .D4 o=> .D4 (o.WW g)
 |o=>o
section
variable{w:World}{b:Heap}{rs:List RO}{g:V->V}(hg:∀v u,E2 b rs v u->E2 b rs (g v) u)
include hg
theorem XW{o:n0}{r:RO}(z:P2 w b rs o r):P2 w b rs (o.WW g) r:=by
 refine Tr.o (R:=λv v'=>∀u,E2 b rs v u->E2 b rs v' u) (K:=λ_ _=>True) ⟨λv v' u z x=>z u x,λd v a _ x _=>x,λ_ q=>q⟩ (o':=o.WW g) ?_ z;have p:∀{κ:Type}{xs:List (κ×V)},F2 (PR λv v'=>∀u,E2 b rs v u->E2 b rs v' u) xs (xs.map λp=>(p.1,g p.2)):= .to λx _=>⟨rfl,hg _⟩;clear z;induction o with
 |lst xs=>exact .lst (.to λv _=>hg v)
 |tup xs=>exact .tup (.to λv _=>hg v)
 |cell v=>induction v using opQ with
  |none=>exact .RE
  |some v=>exact .cell (hg v)
 |inst=>exact .inst p
 |dS=>exact .dS p
 |dI=>exact .dI p
 |dT=>exact .dT (.to λx _=>⟨rfl,trivial,hg _,hg _⟩)
 |w9=>exact .w9
 |D4 o ih=>exact .D4 ih
 |L0=>exact .L0
 |dN=>exact .dN (.refl λx _=>⟨rfl,trivial,λ_ y=>y,λ_ y=>y⟩)
 |box=>exact .box λ_ _ y=>y
 |any=>exact .any
end
section
variable{w:World}{b:Heap}{n:Nat}{t a j i p m N k0:Nat}{room:Int}{sp ho fm:Nat->Int}{ps ps' ps0:Nat->Port}{now sc A C f:Int}{src:n0}{R:Rec}{fr:J2}{σ:St}{O3:List (Str×Nat)}{sec:UInt8×UInt8->Int}{τ:Nat->Int}{H H2:List n0}
set_option tactic.hygienic true in
theorem Goes.xi{d:Dt}(e:N4 m (.ref i) H=some (d,H2)):Goes w b k0 H (H2.map (n0.WW (V.sub i (V.T5 d)))) λv v2=>v2=V.sub i (V.T5 d) v:=⟨λ{cx rs h og} S=>by
 refine b8 ((Goes.V5 (w:=w) (b:=b) (k0:=H.length) e).go S) λr2 S2 a1 a2 a3 a4=> ?_;refine U1 (UB e) λ_ _ _ ho _=> ?_;have hi:=Y1 ho;have ha:=B1 (rs:=rs) (j:=i) (by rw[S.len.symm];exact hi);have hg:∀v u,E2 b r2 v u->E2 b r2 (V.sub i (V.T5 d) v) u:=λv u hv=>by
  induction v using V.casesOn<;>first|exact hv|skip
  rename_i k;show E2 b r2 (bif Nat.beq k i then _ else _) u;induction c:Nat.beq k i using Q2 with
  |false=>exact hv
  |true=>
   have:=V9 c;subst this;refine u0 hv λy ey B0=> ?_;clear hv;subst B0;rw[a1 k _ hi (L1 ha)] at ey;obtain rfl:=si ey;exact a4 _ _ _ (.inr ⟨rfl,rfl⟩) ⟨_,L1 ha,rfl⟩
 refine⟨r2,⟨S2.keep,S2.ns,S2.at_,S2.nd,by rw[KD _];exact S2.len,S2.big,S2.tab,λq o r e1 e2=> ?_⟩,λq a hq e=> ?_,a2,a3,λv v2 u hv x=> ?_⟩
 .rw[rC] at e1;refine u0 (HJ.mp e1) λo0 e3 B0=> ?_;subst B0;exact XW hg (S2.ok q o0 r e3 e2)
 .exact a1 q a (by rw[S.len];exact ZI e) e
 .subst hv;exact hg _ _ (a4 _ _ _ (.inl rfl) x)⟩
noncomputable def tA:List Nat->List n0->Option (List n0)
 |[],H=>some H
 |i::r,H=>match N4 6 (.ref i) H with
  |some (d,H2)=>tA r (H2.map (n0.WW (V.sub i (V.T5 d))))
  |none=>none
set_option tactic.hygienic true in
theorem Goes.tA{ids:List Nat}:∀{H H2:List n0},Mine.Internal.tA ids H=some H2->Goes w b k0 H H2 λv v2=>v2=v/\∀i∈ids,v≠.ref i:=by
 induction ids with
 |nil=>
  intro H H2 e;obtain rfl:=si e;exact Goes.refl.weak λv v2 h=>h.1
 |cons i r ih=>
  intro H H2 e;unfold Mine.Internal.tA at e
  split at e
  .rename_i d H3 hf;exact((Goes.xi hf).trans (ih e)).weak λv v2⟨h1,h2⟩=>⟨v,by
    induction v using V.casesOn<;>first|rfl|skip
    rename_i k _;have:Nat.beq k i=false:=Bool.eq_false_iff.mpr λq=>h2 i M3 (by rw[V9 q]);show _=bif Nat.beq k i then _ else _
    rw[this];rfl,h1,λk hk=>h2 k (a5 _ hk)⟩
  .exact A0 e
noncomputable def yi:n0->Bool
 | .lst _=>true
 | .dT _=>true
 |_=>false
theorem Goes.lock{o:n0}(e:J0 H i=some o)(ho:yi o=true):Goes w b k0 H (upd H i (.D4 o)) λv v2=>v2=v:=⟨λ{cx rs h og} S=>by
 have hl:i<rs.length:=S.len▸Y1 e;have hr:=B1 hl;have ok:=S.ok i o _ e hr;obtain⟨a,ob,er⟩:∃a ob,Y0 rs i= .one a ob:=by
  induction o using n0.casesOn with
  |lst xs=>refine V3 ok λa vs k e _=> ?_;clear ok;exact⟨a,_,e⟩
  |dT es=>refine A3 ok λa o e _=> ?_;clear ok;exact⟨a,o,e⟩
  |_=>exact G2 ho
 rw[er] at hr;refine R2 (I9 S e hr) λS1 X1 _=> ?_;exact⟨_,S1,λi a _ e=>X1.at_ i a e,X1.tup,X1.fz,λv v2 u e x=>e▸x.ext X1⟩⟩
noncomputable def eB(i:Nat)(H:List n0):List n0:=match J0 H i with
 |some o=>bif yi o then upd H i (.D4 o) else H
 |none=>H
set_option tactic.hygienic true in
theorem Goes.eB:Goes w b k0 H (Mine.Internal.eB i H) λv v2=>v2=v:=by
 unfold Mine.Internal.eB
 split
 .rename_i o e;induction c:yi o using Q2 with
  |true=>exact Goes.lock e c
  |false=>exact Goes.refl
 .exact Goes.refl
noncomputable def Gu(fm:Nat->Int)(t:Nat)(up:Nat->Bool)(nm:Nat->List UInt8)(sg:Nat->Int)(j:Nat):Port:=⟨up j,0,bif up j then fm (y0 t j).1 else 0,0,fm (y0 t j).1,nm j,sg j,[],[]⟩
noncomputable def Ny(t:Nat):List Nat:=(oL t).map (dD t)++(List.range 5).map λj=>bO t j -1
noncomputable def wB(t:Nat)(room:Int):n0:= .lst [.ref (24+3*t),.ref (27+3*t),.ref (26+3*t),.ref 17,.ref 21,iT room]
noncomputable def hE(t:Nat)(room:Int)(sp ho fm:Nat->Int)(up:Nat->Bool)(nm:Nat->List UInt8)(sg:Nat->Int)(a c:Int):List n0:=hL t room sp ho fm 5 up nm sg a c (YR t)++[wB t room]
noncomputable def fBl(t:Nat):List Nat:=[120+3*t,24+3*t,27+3*t,26+3*t,17,21]++(List.range t).flatMap (λa=>[25+3*a,24+3*a,26+3*a])++(List.range 5).flatMap λj=>[bO t j,bO t j+1,bO t j+3,bO t j+2]
noncomputable def fB(t:Nat):Nat->Nat:=λi=>bif Nat.blt i 4 then i else(J0 (fBl t) (i -4)).getD 0
noncomputable def Qd(t:Nat)(H:List n0):Option (List (Option n0)×Nat×List (Option n0)):=match tA (Ny t) H with
 |some H1=>match eB (27+3*t) (eB (24+3*t) H1) with
  |H2=>some ((List.range 4).map (J0 H2),H2.length,(List.range (wN t -4)).map λi=>(J0 H2 (fB t (4+i))).map n0.D1)
 |none=>none
noncomputable def eG(t:Nat):Prop:=∀(room A C:Int)(sp ho fm sg:Nat->Int)(up:Nat->Bool)(nm:Nat->List UInt8),Qd t (hE t room sp ho fm up nm sg A C)=some ((List.range 4).map (J0 (Yh (A2 A C))),121+3*t,(BF (Wp.par ⟨t,room,sp,ho,fm⟩) ((List.range 5).map (Gu fm t up nm sg))).map λo=>some (o.Z5 (fB t)).D1)
noncomputable def eF(t:Nat):Bool:=(List.range (wN t -4)).all (λi=>Nat.ble 4 (fB t (4+i))&&Nat.blt (fB t (4+i)) (121+3*t)&&(List.range (wN t -4)).all λk=> !Nat.beq (fB t (4+i)) (fB t (4+k))||Nat.beq i k)
theorem eG3:eG 3:=by unfold eG;intros;kernel_rfl
theorem eG4:eG 4:=by unfold eG;intros;kernel_rfl
theorem eG5:eG 5:=by unfold eG;intros;kernel_rfl
theorem zi(ht:I0 t):eF t=true:=by
 rcases ht with rfl|rfl|rfl<;>kernel_rfl
end
section
variable{w:World}{b:Heap}{n:Nat}{t a j i p m N k0:Nat}{room:Int}{sp ho fm:Nat->Int}{ps ps' ps0:Nat->Port}{now sc A C f:Int}{src:n0}{R:Rec}{fr:J2}{σ:St}{O3:List (Str×Nat)}{sec:UInt8×UInt8->Int}{τ:Nat->Int}
theorem jQ{N r:Nat}{C:oG}(O:M6 w b N (run C r)){l:List Stmt}{sc:Scope}{H:List n0}{t tp:List Bool}{K:KS}{X:Prop}(e:(run C r).ex l sc fr ⟨H,t⟩ K=X)(x:X):R0 w b N l sc fr ⟨H,tp⟩ K:=J5 (t:=t) (O.wC.2.1 (Eq.mpr e x))
theorem YW{L:Int}{X:Int->Int->Int->Prop}(h:0<L/\small L=true)(x:∀d a c,0<=d->d<L->X d a c):vj L X:=⟨h,x⟩
theorem getD_mem{m:List Int}{d:Int}(h0:0<=d)(h1:d<m.length):m.getD d.toNat 0∈m:=by
 have h:d.toNat<m.length:=by lia
 rw[List.getD_eq_getElem?_getD,jX h];exact List.getElem_mem h
theorem DJ{m:List Int}(hm:0<(m.length:Int)/\small m.length=true){n:Nat}:∀{acc:List Int}{a c:Int}{X:List Int->Int->Int->Prop},(∀s a c,s.length=acc.length+n->(∀x∈s,x∈acc\/x∈m)->X s a c)->SW m n acc a c X:=by
 induction n with
 |zero=>
  intro acc a c X x;exact x acc a c rfl λy h=> .inl h
 |succ n ih=>
  intro acc a c X x;exact⟨hm,λd a c h0 h1=>⟨⟨h0,h1⟩,ih λs a c hl hs=>x s a c (by rw[hl,o8];simp;lia) λy hy=>by
   rcases hs y hy with h|h
   .rcases R5.mp h with h|h
    .exact .inl h
    .rw[l9.mp h];exact .inr (getD_mem h0 h1)
   .exact .inr h⟩⟩
theorem EJ{s:List Int}(h:s.length=t):s=(List.range t).map λi=>s.getD i 0:=by
 subst h;refine List.ext_getElem? λi=> ?_;by_cases hi:i<s.length
 .rw[LJ,List.getElem?_range hi,jX hi,Option.map_some,List.getD_eq_getElem?_getD,jX hi];rfl
 .rw[List.getElem?_eq_none (by exact gB.mp (by assumption)),List.getElem?_eq_none (by simp;exact gB.mp (by assumption))]
theorem ZW{P:Prop}(x:P):∀{s h:List Int},(∀y∈s,small y=true)->Iy s h P
 |[],_,_=>x
 |_::_,[],_=>x
 |y::s,z::h,hs=>⟨by rw[hs y M3];rfl,ZW x λu hu=>hs u (a5 _ hu)⟩
noncomputable def Oy(t j:Nat)(L:List (Str×V)):Prop:=(j=0/\L=cD t)\/(0<j/\∃v x y,L=cD t++[(Y5,v),(bB,x),(cB,y)])
theorem Py{L:List (Str×V)}(h:Oy t j L):∃x y,∀{σ:St}{K:J2->St->Prop},K ⟨Wr t j .none x y,a8⟩ σ->n6 R (k4 CJ) (.inl (.ref (dD t (y0 t j)))) (I1 (.fn 60)) ⟨L,a8⟩ σ K:=by
 rcases h with⟨rfl,rfl⟩|⟨hj,v,x,y,rfl⟩
 .exact⟨.none,.none,λ{σ K} k=>by rw[As];exact k⟩
 .refine⟨x,y,λ{σ K} k=> ?_⟩;rw[Bs]
  match j,hj with
  |j+1,_=>exact k
theorem KR(ht:I0 t)(hj:j<5):(eD t).drop j= .ref (dD t (y0 t j))::(eD t).drop (j+1):=J1 (Q:=λt j=>(eD t).drop j= .ref (dD t (y0 t j))::(eD t).drop (j+1)) (by kernel_rfl) (by kernel_rfl) (by kernel_rfl) (by kernel_rfl) (by kernel_rfl) (by kernel_rfl) (by kernel_rfl) (by kernel_rfl) (by kernel_rfl) (by kernel_rfl) (by kernel_rfl) (by kernel_rfl) (by kernel_rfl) (by kernel_rfl) (by kernel_rfl) ht hj
theorem dO:W5 CJ=(W5 CJ).take 3++(W5 CJ).drop 3:=by kernel_rfl
theorem Ai(B:k3 w b)(ht:I0 t)(hj:j<5){up:Nat->Bool}{nm:Nat->List UInt8}{sg:Nat->Int}{A C g:Int}{n:List UInt8}{x:Bool}{tp:List Bool}{K:KS}:∀{u:Bool},x=u->K .next ⟨UW t j n x,a8⟩ ⟨hG t room sp ho fm j up nm sg A C (YR t) x u n g,[]⟩->R0 w b 70 ((W5 CJ).drop 3) (I1 (.fn 60)) ⟨UW t j n x,a8⟩ ⟨hG t room sp ho fm j up nm sg A C (YR t) x false n g,tp⟩ K
 |false,e,q=>J5 (t:=[false]) ((aO B 30).wC.2.1 (Eq.mpr (fb ht hj room A C sp ho fm sg up nm n x g K) ⟨e,q⟩))
 |true,e,q=>J5 (t:=[true]) ((aO B 30).wC.2.1 (Eq.mpr (gb ht hj room A C sp ho fm sg up nm n x g K) ⟨e,q⟩))
theorem Ds(B:k3 w b)(ht:I0 t)(JR:∀a,a<t->(small (sp a)||small (ho a))=true)(sG:∀a,a<t->0<=sp a*ho a+1/\sp a*ho a+1<65536){K:KS}{m:Nat}:∀{j:Nat}{up:Nat->Bool}{nm:Nat->List UInt8}{sg:Nat->Int}{A C:Int}{L:List (Str×V)}{tp:List Bool},j+m=5->Oy t j L->(∀i,(nm i).length<=1)->
 (∀up nm sg A C L t2,Oy t 5 L->(∀i,(nm i).length<=1)->K .next ⟨L,a8⟩ ⟨hL t room sp ho fm 5 up nm sg A C (YR t),t2⟩)->
 U5 (Sem w b 70) (k4 CJ) (W5 CJ) (I1 (.fn 60)) (((eD t).drop j).map .inl) ⟨L,a8⟩ ⟨hL t room sp ho fm j up nm sg A C (YR t),tp⟩ K:=by
 induction m with
 |zero=>
  intro j up nm sg A C L tp e Qy hn q;have:j=5:=by assumption
  subst this;have:(eD t).drop 5=[]:=by rcases ht with rfl|rfl|rfl<;>kernel_rfl
  rw[this];exact q up nm sg A C L tp Qy hn
 |succ m ih=>
  intro j up nm sg A C L tp e Qy hn q;have hj:j<5:=by lia
  rw[KR ht hj,R6];rw[T7];refine w6 (Py (R:=Sem w b 70) Qy) λx y ha=> ?_;refine ha ?_;show R0 w b 70 (W5 CJ) _ _ _ _;rw[dO];have he:=mC ht hj;have h1:=sG _ he;have d1:decide (65535<sp (y0 t j).1*ho (y0 t j).1+1)=false:=decide_eq_false (by lia);refine w3 (J5 (t:=[false,false]) ((aO B 30).wC.2.1 (Eq.mpr (ui ht hj room A C sp ho fm sg up nm x y _) ⟨by decide,λd a c g0 g1=>⟨⟨g0,g1⟩,by decide,λe a c _ _=>⟨JR _ he,d1,d1,⟨h1.1,h1.2,xE _⟩,by decide,λg a c _ _=> ?_⟩⟩⟩)));refine Ai (u:=decide (0<e)) B ht hj rfl ?_;show U5 (Sem w b 70) (k4 CJ) (W5 CJ) (I1 (.fn 60)) _ _ _ K;rw[Zr hj];refine ih (j:=j+1) (by lia) (.inr ⟨by exact kB _ _,_,_,_,rfl⟩) (λi=> ?_) q;unfold ri;induction Nat.beq i j using Q2 with
  |true=>exact xE _
  |false=>exact hn i
theorem Bi(ht:I0 t):eG t:=by
 rcases ht with rfl|rfl|rfl
 .exact eG3
 .exact eG4
 .exact eG5
theorem Ci(ht:I0 t):rB t:=by
 rcases ht with rfl|rfl|rfl
 .exact rB3
 .exact rB4
 .exact rB5
theorem Di(ht:I0 t):rI t:=by
 rcases ht with rfl|rfl|rfl
 .exact rI3
 .exact rI4
 .exact rI5
set_option tactic.hygienic true in
theorem Ei(ht:I0 t){up:Nat->Bool}{nm:Nat->List UInt8}{sg:Nat->Int}:Goes w b 4 (hE t room sp ho fm up nm sg A C) (bH t room sp ho fm (Gu fm t up nm sg) (A2 A C)) λv v2=>v= .ref (120+3*t)/\v2= .ref 4:=by
 have e:=Bi ht room A C sp ho fm sg up nm;unfold Qd at e
 split at e
 .rename_i H1 h1;simp only[Option.some.injEq,Prod.mk.injEq] at e;refine R2 e λe1 e2 e3=> ?_;clear e;have Kr:=zi ht;unfold eF at Kr;have fo:∀i,i<wN t -4->(4<=fB t (4+i)/\fB t (4+i)<121+3*t)/\∀k,k<wN t -4->fB t (4+i)=fB t (4+k)->i=k:=λi hi=>by
   have h:=xC.mp Kr i (NJ.mpr hi);rw[JD,JD] at h;refine⟨⟨v9 h.1.1,Nat.blt_eq.mp h.1.2⟩,λk hk e=> ?_⟩;have h2:=xC.mp h.2 k (NJ.mpr hk);rw[e] at h2;simpa using h2
  refine(((Goes.tA h1).trans (Goes.eB (i:=24+3*t))).trans ((Goes.eB (i:=27+3*t)).trans (AJ (room:=room) (sp:=sp) (ho:=ho) (fm:=fm) (ps:=Gu fm t up nm sg) (src:=A2 A C) (f:=fB t) ht (λi hi=> ?_) k9 (λi hi=> ?_) (λi hi=> ?_) (λi k hi hk=>(fo i hi).2 k hk) λi o' e=> ?_))).weak λv v2⟨h1,h2⟩=>⟨v,⟨v,⟨rfl,λi hi=> ?_⟩,rfl⟩,v,rfl,.inr ⟨?_,h2⟩⟩
  .have:=congrArg (λl=>J0 l i) e1;simp only[rC] at this;rw[U0 (List.range 4),List.getElem?_range hi] at this;exact si this
  .unfold fB;have:Nat.blt i 4=true:=Nat.blt_eq.mpr hi;rw[this];rfl
  .rw[e2];exact(fo i hi).1
  .have hi:=Y1 e;rw[pC ht] at hi;have h1:=congrArg (λl=>J0 l i) e3;simp only[rC,e,Option.map_some] at h1;rw[U0 (List.range _),List.getElem?_range hi,Option.map_some] at h1;exact HJ.mp (si h1)
  .subst h1;intro h;cases h
   rcases ht with rfl|rfl|rfl<;>exact absurd hi (by decide)
  .rw[h1];rcases ht with rfl|rfl|rfl<;>rfl
 .exact A0 e
theorem Fi{up:Nat->Bool}{nm:Nat->List UInt8}{sg:Nat->Int}(hr:0<=room)(hn:∀i,(nm i).length<=1)(hf:∀a,0<=fm a):Inv room sec (λ_=>0) (Gu fm t up nm sg):=λj hj=>
 ⟨⟨rfl,hr,λe he=>(by cases he),λe he=>(by cases he),List.nodup_nil⟩,hn j,λh=>by
  show(bif up j then _ else _)=_;have h:up j=true:=h;rw[h];rfl,λ_=>hf _,λ_=>rfl⟩
theorem aX(B:k3 w b){tp:List Bool}{Q:K1}(q:∀t room sp ho fm ps a c t2,I0 t->(0<=room/\room<=3)->(∀a,a<t->1<=sp a)->(∀a,0<=fm a)->(∀a,a<t->(small (sp a)||small (ho a))=true)->(∀a,a<t->0<=sp a*ho a+1/\sp a*ho a+1<65536)->(∀sec,Inv room sec (λ_=>0) ps)->Q (.ref 4) ⟨bH t room sp ho fm ps (A2 a c),t2⟩):
 F0 w b 71 (.fn 60) [.ref 3] ⟨[y3,.L0,.any,A2 A C],tp⟩ Q:=by
 refine M8 (W6 (t:=[]) (z6 B ?_));rw[Sr];show R0 w b 70 _ _ _ _ _;rw[Cs];refine w3 (R0.up (n:=60) (by decide) ((aO B 20).wC.2.1 (Eq.mpr Ky (YW (by decide) λd a c h0 h1=>YW (by decide) λe a' c' g0 g1=> ?_))));obtain⟨t,ht,et⟩:∃t:Nat,I0 t/\3+d=(t:Int):=by
  have:d=0\/d=1\/d=2:=by lia
  rcases this with rfl|rfl|rfl
  .exact⟨3,.inl rfl,rfl⟩
  .exact⟨4,.inr (.inl rfl),rfl⟩
  .exact⟨5,.inr (.inr rfl),rfl⟩
 rw[et];show R0 w b 70 (_++_) _ _ _ _;refine w3 (jQ (aO B 30) (Ci ht (1+e) a' c' _) ?_);refine DJ (by decide) λs a c hls hs=>DJ (by decide) λh a c hlh hh=>DJ (by decide) λf a c hlf hf=> ?_;have RD:∀x∈s,1<=x/\x<=5:=λx hx=>by
  have:=(hs x hx).resolve_left (by simp);simp only[m1,M4,v8,or_false] at this;lia
 have hh':∀x∈h,1<=x/\x<=2:=λx hx=>by
  have:=(hh x hx).resolve_left (by simp);simp only[m2,M4,v8,or_false] at this;lia
 have hf':∀x∈f,0<=x:=λx hx=>by
  have:=(hf x hx).resolve_left (by simp);simp only[m3,M4,v8,or_false] at this;lia
 have sml:∀x:Int,1<=x/\x<=5->small x=true:=λx hx=>by
  have:x=1\/x=2\/x=3\/x=4\/x=5:=by lia
  rcases this with rfl|rfl|rfl|rfl|rfl<;>decide
 refine ZW ?_ λy hy=>sml y (RD y hy);have ls:s.length=t:=by rw[hls];simp
 have lh:h.length=t:=by rw[hlh];simp
 have lf:f.length=t:=by rw[hlf];simp
 have gs:∀i,i<t->1<=s.getD i 0/\s.getD i 0<=5:=λi hi=>by
  have KJ:i<s.length:=by lia
  rw[List.getD_eq_getElem?_getD,jX KJ];exact RD _ (List.getElem_mem KJ)
 have gh:∀i,i<t->1<=h.getD i 0/\h.getD i 0<=2:=λi hi=>by
  have KJ:i<h.length:=by lia
  rw[List.getD_eq_getElem?_getD,jX KJ];exact hh' _ (List.getElem_mem KJ)
 have gf:∀i,0<=f.getD i 0:=λi=>by
  by_cases KJ:i<f.length
  .rw[List.getD_eq_getElem?_getD,jX KJ];exact hf' _ (List.getElem_mem KJ)
  .rw[List.getD_eq_getElem?_getD,List.getElem?_eq_none (by exact gB.mp (by assumption))];exact Int.le_refl 0
 obtain⟨sp,es,gs⟩:∃sp:Nat->Int,s=(List.range t).map sp/\∀i,i<t->1<=sp i/\sp i<=5:=⟨_,EJ ls,gs⟩;obtain⟨ho,eh,gh⟩:∃ho:Nat->Int,h=(List.range t).map ho/\∀i,i<t->1<=ho i/\ho i<=2:=⟨_,EJ lh,gh⟩;obtain⟨fm,ef,gf⟩:∃fm:Nat->Int,f=(List.range t).map fm/\∀i,0<=fm i:=⟨_,EJ lf,gf⟩;rw[es,eh,ef];have JR:∀a,a<t->(small (sp a)||small (ho a))=true:=λa ha=>by rw[sml _ (gs a ha)];rfl
 have sG:∀a,a<t->0<=sp a*ho a+1/\sp a*ho a+1<65536:=λa ha=>by
  have h1:=gs a ha;have h2:=gh a ha;have:ho a=1\/ho a=2:=by lia
  rcases this with e|e<;>rw[e]<;>lia
 show R0 w b 70 (_++_) _ _ _ _;refine w3 (C4 B (P6 (by kernel_rfl) ?_));rw[wi];refine t5.up (n:=60) (by decide) ((aO B 20).wC.1 (Eq.mpr (Di ht (1+e) a c sp ho fm (λ_=>0) (λ_=>false) (λ_=>[]) _) ?_));unfold pG;rw[(VW ht).1];show U5 _ _ _ _ _ _ _ _;rw[(VW ht).2];refine Ds (m:=5) (j:=0) B ht JR sG rfl (.inl ⟨rfl,rfl⟩) (λi=>Nat.zero_le _) λup nm sg A C L t2 hL hn=> ?_;rcases hL with⟨h,_⟩|⟨_,v,x,y,rfl⟩
 .injection h
 show R0 w b 70 _ _ _ _ _;refine J5 (t:=[]) (R0.up (n:=60) (by decide) ((aO B 20).wC.2.1 (Eq.mpr (My ht) ?_)));exact⟨.ref 4,_,[],_,Ei ht,⟨rfl,rfl⟩,q t (1+e) sp ho fm _ A C [] ht ⟨by lia,by lia⟩ (λa ha=>(gs a ha).1) gf JR sG λsec=>Fi (by lia) hn gf⟩
end
noncomputable def wj(p:Bool)(x:Int):Int:=bif p then-1 -x else x
noncomputable def poC(g:Int):Int:=((g.fmod 2147483629+0+0+17)*48271).fmod 2147483647
noncomputable def ib(p q:Bool):Prop:=∀(x:Int)(r:List V)(Q:K1),(run (C0 (0,0) 0 []) 40).call (.fn 55) [.ref 2,.int false 0] ⟨[y3,.L0,.D4 (.lst (.int true x::r))],[p,q]⟩ Q=gd (Nat.ble (r.length+1) 100000) (bif decide ((0:Int)<((r.length+1:Nat):Int)) then(decide (x< -1 -x)=p/\(small ((wj p x).fmod 2147483629+0+0+17)||true)=true/\decide ((10:Int)^Int.toNat 18<=wj p x)=q/\(small (wj p x)||true)=true/\Q (.ref 3) ⟨[y3,.L0,.D4 (.lst (.int true x::r)),.lst [.int true (wj p x*(bif q then 1 else 0)),.int true (poC (wj p x))]],[]⟩) else Q (.ref 3) ⟨[y3,.L0,.D4 (.lst (.int true x::r)),.lst [.int false 0,.int false 820607]],[p,q]⟩)
theorem Ry:ib false false:=by unfold ib;intros;kernel_rfl
theorem Sy:ib false true:=by unfold ib;intros;kernel_rfl
theorem Uy:ib true false:=by unfold ib;intros;kernel_rfl
theorem Vy:ib true true:=by unfold ib;intros;kernel_rfl
theorem po0{Q:K1}:(run (C0 (0,0) 0 []) 40).call (.fn 55) [.ref 2,.int false 0] ⟨[y3,.L0,.D4 (.lst [])],[]⟩ Q=Q (.ref 3) ⟨[y3,.L0,.D4 (.lst []),.lst [.int false 0,.int false 820607]],[]⟩:=by kernel_rfl
theorem Gi:∀p q,ib p q
 |false,false=>Ry
 |false,true=>Sy
 |true,false=>Uy
 |true,true=>Vy
section
variable{w:World}{b:Heap}{n:Nat}{t a j i p m N k0:Nat}{room:Int}{sp ho fm:Nat->Int}{ps ps' ps0:Nat->Port}{now sc A C f:Int}{src:n0}{R:Rec}{fr:J2}{σ:St}{O3:List (Str×Nat)}{sec:UInt8×UInt8->Int}{τ:Nat->Int}{H H2:List n0}
theorem Goes.any:Goes w b k0 H (upd H i .any) λv v2=>v2=v:=⟨λ{cx rs h og} S=>⟨rs,⟨S.keep,S.ns,S.at_,S.nd,by rw[K3,MJ];exact S.len,S.big,S.tab,λq o r e1 e2=>by
 rcases i5 e1 with⟨_,f⟩|⟨rfl,rfl⟩
 .exact S.ok q o r f e2
 .trivial⟩,λ_ _ _ e=>e,λ_ _ e _=>e,λ_ e=>e,λv v2 u e x=>e▸x⟩⟩
theorem KH{o:n0}{x y:V}{A C:Int}(hx:x.D1=iT A)(hy:y.D1=iT C):Goes w b 3 [y3,.L0,o,.lst [x,y]] [y3,.L0,.any,A2 A C] λv v2=>v2=v:=((Goes.any (i:=2)).trans (Goes.D1 (H:=[y3,.L0,.any,.lst [x,y]]) (by
 show[y3.D1,_,_,n0.lst [x.D1,y.D1]]=[y3.D1,_,_,n0.lst [_,_]];rw[hx,hy];rfl))).weak λv v2 h=>⟨v,rfl,by rw[h]⟩
theorem jb(B:k3 w b){xs:List V}(hl:xs.length<=100000)(hx:∀v∈xs,∃n,v= .int true n){tp:List Bool}{Q:K1}(q:∀A C t2,Q (.ref 3) ⟨[y3,.L0,.any,A2 A C],t2⟩):F0 w b 80 (.fn 55) [.ref 2,.int false 0] ⟨[y3,.L0,.D4 (.lst xs)],tp⟩ Q:=by
 refine M8 ?_
 match xs,hl,hx with
 |[],_,_=>exact call_of (runC B (0,0) 0 [] 40) po0 ⟨.ref 3,_,[],_,KH rfl rfl,rfl,q 0 820607 []⟩
 |v::r,hl,hx=>
  refine O0 (hx _ M3) λx B0=> ?_;subst B0;have hb:Nat.ble (r.length+1) 100000=true:=Nat.ble_eq_true_of_le hl;refine call_of (t:=[decide (x< -1 -x),decide ((10:Int)^Int.toNat 18<=wj (decide (x< -1 -x)) x)]) (runC B (0,0) 0 [] 40) (Gi _ _ x r _) ?_;rw[hb,decide_eq_true (by lia:(0:Int)<((r.length+1:Nat):Int))];exact⟨rfl,by rw[Bool.or_true _],rfl,by rw[Bool.or_true _],.ref 3,_,[],_,KH rfl rfl,rfl,q _ _ []⟩
end
section
variable{w:World}{b:Heap}{k0 n:Nat}{H H2 H3:List n0}{vm au:V->V->Prop}
theorem bX{k k':Nat}{rs I3:List RO}{H1:List n0}{r:RO}(hk:k'<=k)(P:y9 id k rs I3)(x:P2 w b rs (yN k' H1) r):P2 w b I3 (yN k' H1) r:=by
 obtain⟨a,l,f,p,e,h1,h2,oZ,FG,p1,p2,p3⟩:=x;refine⟨a,l,λi=>if i<k' then f i else none,p,e,λi x hx=> ?_,λq hq=>P.pl q (h2 q hq),oZ,FG,p1,λi hi=> ?_,p3⟩
 .dsimp only at hx;by_cases h:i<k'
  .rw[if_pos h] at hx;exact(P.ad i (by exact MH (by assumption) (by assumption))).trans (h1 i x hx)
  .rw[if_neg h] at hx;exact A0 hx
 .dsimp only;rw[if_pos hi];exact p2 i hi
end
section
variable{w:World}{b:Heap}{n:Nat}{t a j i p m N k0:Nat}{room:Int}{sp ho fm:Nat->Int}{ps ps' ps0:Nat->Port}{now sc A C f:Int}{src:n0}{R:Rec}{fr:J2}{σ:St}{O3:List (Str×Nat)}{sec:UInt8×UInt8->Int}{τ:Nat->Int}{H H2:List n0}
theorem Hi{i:Nat}{o:n0}(hs:src.lt 4)(e:J0 (Yh src) i=some o):o.lt 4:=by
 match i,e with
 |0,e=>obtain rfl:=si e;exact IF (H:=[y3]) (by kernel_rfl) _ (List.mem_singleton_self _)
 |1,e=>obtain rfl:=si e;trivial
 |2,e=>obtain rfl:=si e;trivial
 |3,e=>obtain rfl:=si e;exact hs
theorem Es{o:n0}(hs:src.lt 4):Goes w b 5 (bH t room sp ho fm ps src++[o]) (bH t room sp ho fm ps src) λv v2=>v2=v/\v.lt 5:=by
 refine Goes.Qc (H:=bH t room sp ho fm ps src++[o]) (k:=5) (k0:=5) (j6 _) (by decide) (by rw[o8];show 5<=5+1;decide) rfl λ{rs I3} P{i o'}{r} hi e x=> ?_;by_cases h:i<4
 .have e2:J0 (Yh src) i=some o':=by
   have:=e;unfold bH at this;rw[Z0 (by show i<5;assumption),Z0 (by show i<4;assumption)] at this;exact this
  exact P.o (n0.O5 (Hi hs e2) (by decide)) (by rw[n0.R4 _];exact x)
 .have:i=4:=by lia
  subst this;obtain rfl:=si e;exact bX (by decide) P x
theorem LH{f:V}{args:List V}{tp t0:List Bool}{Q:K1}{o:n0}(hs:src.lt 4)(hf:∀i,f≠.ref i)(hi:∀d,f≠.W0 d)(ha:∀v∈args,v.lt 5)
 (x:F0 w b n f args ⟨bH t room sp ho fm ps src,t0⟩ λv F1=>noRef v/\∃ps' kG t2,F1.heap=bH t room sp ho fm ps' kG/\Q v ⟨bH t room sp ho fm ps' kG++[.any],t2⟩):
 F0 w b n f args ⟨bH t room sp ho fm ps src++[o],tp⟩ Q:=by
 intro A s cx rs u us L m hA S hL hb of os;refine b8 ((Es (w:=w) (b:=b) (t:=t) (room:=room) (sp:=sp) (ho:=ho) (fm:=fm) (ps:=ps) (o:=o) hs).go S) λr2 S2 a1 a2 a3 a4=> ?_;have of2:E2 b r2 f u:=by induction f using V.casesOn<;>first|exact of|exact absurd rfl (hf _)|exact absurd rfl (hi _)
 have l6:rs.length=6:=by rw[S.len.symm];rfl
 have hr:=B1 (rs:=rs) (j:=5) (by lia);have vs:∀{args:List V}{us:List Value},(∀v∈args,v.lt 5)->V0 b rs args us->V0 b r2 args us:=λ{args us}=>by
  induction args generalizing us with
  |nil=>exactλ_ h=>h
  |cons y ys ih=>exactλhl⟨v,r,e,h1,h2⟩=>⟨v,r,e,a4 y y v ⟨rfl,hl y M3⟩ h1,ih (λz hz=>hl z (a5 _ hz)) h2⟩
 refine V6 (x hA S2 hL hb of2 (vs ha os)) λv s' h=> ?_;obtain⟨v2,F1,r3,⟨hv,ps',kG,t2,hH,q⟩,S3,X3,o3⟩:=h;have l5:r3.length=5:=by rw[S3.len.symm,hH];rfl
 have el:led (r3++[.V5 (Y0 rs 5).addr []])=led r3:=by rw[g5];simp[led,RO.led]
 have ep:L0 (r3++[.V5 (Y0 rs 5).addr []])=L0 r3:=by rw[y6];simp[L0,RO.fz]
 have X4:Ext r3 (r3++[.V5 (Y0 rs 5).addr []]):=⟨λi a e=>by rw[Y6 (ZI e)];exact e,λa o e _=>el▸e,λq hq=>ep▸hq⟩;refine⟨v2,⟨F1.heap++[.any],t2⟩,r3++[.V5 (Y0 rs 5).addr []],by rw[hH];exact q,⟨S3.keep,S3.ns,by rw[el];exact S3.at_,by rw[el];exact S3.nd,by rw[o8,o8,S3.len];rfl,S3.big,X4.at_ _ _ S3.tab,λi o' r e1 e2=> ?_⟩,⟨λi a e=> ?_,λa o' e ht=> ?_,λq hq=> ?_⟩,?_⟩
 .by_cases h:i<5
  .rw[Z0 (by rw[hH];exact h)] at e1;rw[Z0 (by lia)] at e2;exact(S3.ok i o' r e1 e2).ext X4
  .have hi:i<6:=by have:=Y1 e2;simp at this;lia
   have:i=5:=by lia
   subst this;rw[P1 (by rw[hH];exact j6 5)] at e1;have hl:F1.heap.length=5:=by rw[hH];rfl
   rw[hl] at e1;obtain rfl:=si e1;trivial
 .by_cases h:i<5
  .exact X4.at_ i a (X3.at_ i a (a1 i a h e))
  .have hi:=ZI e;have:i=5:=by lia
   subst this;rw[L1 hr] at e;rw[U7 (by lia),l5];exact e
 .exact X4.tup a o' (X3.tup a o' (a2 a o' e ht) ht) ht
 .exact X4.fz q (X3.fz q (a3 q hq))
 .exact o3.ext X4
end
noncomputable def k6:Str:=⟨#[115,99,114,105,112,116]⟩
noncomputable def boE:Expr->List Expr
 | .BoolOp _ vs _=>vs
 |_=>[]
noncomputable def zA:Stmt:=T1 (A5 (.fn 69)) 3
noncomputable def c68:Expr:=Qg (KV (T1 (A5 (.fn 69)) 0))
noncomputable def bL(i:Nat):Stmt:=T1 (W5 zA) i
noncomputable def cL(i j:Nat):Expr:=Qg (Ao (boE (KV (bL i))) j)
noncomputable def L2:List (Str×V):=[(k6,.ref 2),(SN,.ref 3)]
noncomputable def Hu:List (Str×V):=[(k6,.ref 2),(SN,.ref 3),(u6,.ref 4)]
noncomputable def xX(v:V):List (Str×V):=[(k6,.ref 2),(SN,.ref 3),(u6,.ref 4),(rJ,v)]
noncomputable def isL(f:V):Bool:=zP 55 f||(zP 60 f||(zP 64 f||(zP 65 f||(zP 66 f||(zP 67 f||zP 68 f)))))
noncomputable def CL(w:World)(b:Heap):oG:=λf args σ Q=>sX (isL f) (some (F0 w b 102 f args σ Q)) (C0 (0,0) 0 [] f args σ Q)
section
variable{w:World}{b:Heap}{n:Nat}{t a j i p m N k0:Nat}{room:Int}{sp ho fm:Nat->Int}{ps ps' ps0:Nat->Port}{now sc A C f:Int}{src:n0}{R:Rec}{fr:J2}{σ:St}{O3:List (Str×Nat)}{sec:UInt8×UInt8->Int}{τ:Nat->Int}{H H2:List n0}
theorem Fs(B:k3 w b):∀n,102<=n->s9 w b n (CL w b):=λn hn=>dJ (c:=isL) hn (GF B _ _ _ n (V7 (by decide) hn))
theorem fM(B:k3 w b)(r:Nat):M6 w b (102+r) (run (CL w b) r):=K9 B 102 (λn h=>Fs B n h) r
theorem a0b{tp:List Bool}{Q:K1}:E8 R (.fn 69) [.ref 2] ⟨H,tp⟩ Q=R.ex (A5 (.fn 69)) (I1 (.fn 69)) ⟨[(k6,.ref 2)],[]⟩ ⟨H,tp⟩ (WA Q):=by kernel_rfl
theorem Gs:A5 (.fn 69)=[T1 (A5 (.fn 69)) 0]++([T1 (A5 (.fn 69)) 1]++([T1 (A5 (.fn 69)) 2]++([zA]++[T1 (A5 (.fn 69)) 4]))):=by kernel_rfl
theorem Wy{K:KS}:JJ R (T1 (A5 (.fn 69)) 0) (I1 (.fn 69)) fr σ K=R.ev c68 (I1 (.fn 69)) fr σ (λv P0=>I6 v P0 (λM1=>R.ex [] (I1 (.fn 69)) fr M1 K) (λM1=>R.ex (zZ (T1 (A5 (.fn 69)) 0)) (I1 (.fn 69)) fr M1 K)):=by kernel_rfl
theorem Xy{Q:K1}:(run (CL w b) 20).ev c68 (I1 (.fn 69)) fr σ Q=F0 w b 102 (.fn 68) [] σ Q:=by kernel_rfl
theorem Yy{K:KS}:(run (CL w b) 20).ex [T1 (A5 (.fn 69)) 1] (I1 (.fn 69)) ⟨[(k6,.ref 2)],[]⟩ ⟨H,[]⟩ K=F0 w b 102 (.fn 55) [.ref 2,.int false 0] ⟨H,[]⟩ (λv σ=>K .next ⟨[(k6,.ref 2),(SN,v)],[]⟩ σ):=by kernel_rfl
theorem Zy{K:KS}:(run (CL w b) 20).ex [T1 (A5 (.fn 69)) 2] (I1 (.fn 69)) ⟨L2,[]⟩ ⟨H,[]⟩ K=F0 w b 102 (.fn 60) [.ref 3] ⟨H,[]⟩ (λv σ=>K .next ⟨[(k6,.ref 2),(SN,.ref 3),(u6,v)],[]⟩ σ):=by kernel_rfl
theorem Js{K:m9->List w5->St->Prop}:P4 R (k4 zA) (y5 zA) (I1 (.fn 69)) fr σ K=R.ev (y5 zA) (I1 (.fn 69)) fr σ (pG K):=by kernel_rfl
theorem evL{b5:n0}{Q:K1}:(run (C0 (0,0) 0 []) 20).ev (y5 zA) (I1 (.fn 69)) ⟨Hu,[]⟩ ⟨[y3,.L0,.any,A2 A C,b5],[]⟩ Q=((0<(5:Int)/\small 5=true)/\Q (.ref 5) ⟨[y3,.L0,.any,A2 (g6 A C 5) (i6 A C 5),b5,.w9 0 (4+Y2 A C 5) 1],[]⟩):=by kernel_rfl
theorem Ii{b5:n0}{d:Nat}(hd:d<5){tp:List Bool}:L7 ⟨[y3,.L0,.any,A2 A C,b5,.w9 0 (4+(d:Int)) 1],tp⟩ (.ref 5)=some ([(5,.w9 0 (4+(d:Int)) 1)],(List.range' 0 (4+d)).map λ(k:Nat)=> .inl (iF (k:Int))):=by
 match d,hd with
 |0,_=>kernel_rfl
 |1,_=>kernel_rfl
 |2,_=>kernel_rfl
 |3,_=>kernel_rfl
 |4,_=>kernel_rfl
theorem Ls{v:V}{K:J2->St->Prop}:n6 R (k4 zA) (.inl v) (I1 (.fn 69)) ⟨Hu,[]⟩ σ K=K ⟨xX v,[]⟩ σ:=by kernel_rfl
theorem Ms{v v0:V}{K:J2->St->Prop}:n6 R (k4 zA) (.inl v) (I1 (.fn 69)) ⟨xX v0,[]⟩ σ K=K ⟨xX v,[]⟩ σ:=by kernel_rfl
theorem Ji:W5 zA=[bL 0]++[bL 1]:=by kernel_rfl
theorem az{K:KS}:JJ R (bL 0) (I1 (.fn 69)) fr σ K=R.ev (cL 0 0) (I1 (.fn 69)) fr σ (λv P0=>I6 v P0 (λM1=>R.ev (cL 0 1) (I1 (.fn 69)) fr M1 (λv v5=>I6 v v5 (λvC=>R.ex [] (I1 (.fn 69)) fr vC K) (λvC=>R.ex (zZ (bL 0)) (I1 (.fn 69)) fr vC K))) (λM1=>R.ex (zZ (bL 0)) (I1 (.fn 69)) fr M1 K)):=by kernel_rfl
theorem bz{K:KS}:JJ R (bL 1) (I1 (.fn 69)) fr σ K=R.ev (cL 1 0) (I1 (.fn 69)) fr σ (λv P0=>I6 v P0 (λM1=>R.ev (cL 1 1) (I1 (.fn 69)) fr M1 (λv v5=>I6 v v5 (λvC=>R.ex [] (I1 (.fn 69)) fr vC K) (λvC=>R.ex (zZ (bL 1)) (I1 (.fn 69)) fr vC K))) (λM1=>R.ex (zZ (bL 1)) (I1 (.fn 69)) fr M1 K)):=by kernel_rfl
theorem Qs{v:V}{Q:K1}:(run (CL w b) 20).ev (cL 0 0) (I1 (.fn 69)) ⟨xX v,[]⟩ σ Q=F0 w b 102 (.fn 64) [.ref 3,.ref 4,v] σ Q:=by kernel_rfl
theorem Ss{v:V}{Q:K1}:(run (CL w b) 20).ev (cL 0 1) (I1 (.fn 69)) ⟨xX v,[]⟩ σ Q=F0 w b 102 (.fn 65) [.ref 4,v] σ Q:=by kernel_rfl
theorem Ts{v:V}{Q:K1}:(run (CL w b) 20).ev (cL 1 0) (I1 (.fn 69)) ⟨xX v,[]⟩ σ Q=F0 w b 102 (.fn 66) [.ref 4,v] σ Q:=by kernel_rfl
theorem Us{v:V}{Q:K1}:(run (CL w b) 20).ev (cL 1 1) (I1 (.fn 69)) ⟨xX v,[]⟩ σ Q=F0 w b 102 (.fn 67) [.ref 4] σ Q:=by kernel_rfl
theorem cz{K:KS}:(run (CL w b) 20).ex [T1 (A5 (.fn 69)) 4] (I1 (.fn 69)) fr σ K=K (.ret (.bool false true)) fr σ:=by kernel_rfl
end
section
variable{w:World}{b:Heap}{n:Nat}{t a j i p m N k0:Nat}{room:Int}{sp ho fm:Nat->Int}{ps ps' ps0:Nat->Port}{now sc A C f:Int}{src o:n0}{R:Rec}{fr:J2}{σ:St}{O3:List (Str×Nat)}{sec:UInt8×UInt8->Int}{τ:Nat->Int}{H H2:List n0}
theorem lG(ht:I0 t){f:V}{args:List V}{tp:List Bool}{Q:K1}(hn:n<=102)(hf:∀i,f≠.ref i)(hi:∀d,f≠.W0 d)(ha:∀v∈args,v.lt 5)
 (x:F0 w b n f args ⟨wH ⟨t,room,sp,ho,fm⟩ ps .any,[]⟩ λv F1=>noRef v/\∃ps' X t2,F1.heap=wH ⟨t,room,sp,ho,fm⟩ ps' .any++X/\Q v ⟨bH t room sp ho fm ps' (A2 A C)++[.any],t2⟩):
 F0 w b 102 f args ⟨bH t room sp ho fm ps (A2 A C)++[o],tp⟩ Q:=by
 refine F0.up hn (LH (t0:=[]) k9 hf hi ha (eM (t0:=[]) hf hi ?_));rw[(VG (wH ⟨t,room,sp,ho,fm⟩ ps (A2 A C))).symm];exact ZC (tp:=[]) ht hf (λv hv=>sA (ha v hv) (by unfold wN;lia)) (I5 x λv F1 z=>D0 z λh1 z=>V3 z λps' X t2 h2 h3=>⟨h1,ps',X,[],h2,h1,ps',A2 A C,[],XN (X:=[]) ht k9,h1,ps',A2 A C,t2,rfl,h3⟩)
theorem cX{s:Bool}{H:List n0}{Kt Kf:St->Prop}(k:∀tp,Kt ⟨H,tp⟩):I6 (.bool s true) ⟨H,[true]⟩ Kt Kf:=by
 induction s using Q2 with
 |false=>exact k [true]
 |true=>exact⟨rfl,k []⟩
theorem Ki(ht:I0 t):∀j,j<5->sp (y0 t j).1*ho (y0 t j).1+1=aB t sp ho (AF (y0 t j)):=λj hj=>J1 (Q:=λt j=>sp (y0 t j).1*ho (y0 t j).1+1=aB t sp ho (AF (y0 t j))) rfl rfl rfl rfl rfl rfl rfl rfl rfl rfl rfl rfl rfl rfl rfl ht hj
theorem FJ{f:V}{args args2:List V}{tp t2:List Bool}{Q:K1}(hf:∀i,f≠.ref i)(hi:∀d,f≠.W0 d)(ha:all2 (λv v2=>v.D1=v2.D1) args args2)(x:F0 w b n f args2 ⟨H,t2⟩ Q):F0 w b n f args ⟨H,tp⟩ Q:=mA hf hi (Goes.D1 rfl) ha x
noncomputable def LkW(L:List (Str×V)):Prop:=L=Hu\/∃v,L=xX v
theorem Vs(B:k3 w b)(ht:I0 t)(hr:0<=room/\room<=3)(hs:∀a,a<t->1<=sp a)(hf:∀a,0<=fm a)(JR:∀a,a<t->(small (sp a)||small (ho a))=true)(sG:∀a,a<t->0<=sp a*ho a+1/\sp a*ho a+1<65536){K:KS}(q:∀L H t2,K .next ⟨L,[]⟩ ⟨H,t2⟩){m:Nat}:∀{k:Nat}{ps:Nat->Port}{A C:Int}{o:n0}{L:List (Str×V)}{tp:List Bool},Inv room (aB t sp ho) (λ_=>(k:Int)) ps->LkW L->
 U5 (Sem w b 122) (k4 zA) (W5 zA) (I1 (.fn 69)) ((List.range' k m).map λ(k:Nat)=> .inl (iF (k:Int))) ⟨L,[]⟩ ⟨bH t room sp ho fm ps (A2 A C)++[o],tp⟩ K:=by
 induction m with
 |zero=>
  intro k ps A C o L tp hI hL;exact q _ _ _
 |succ m ih=>
  intro k ps A C o L tp hI hL;rw[List.range'_succ,R6];rw[T7];have as:∀{K:J2->St->Prop}{σ:St},K ⟨xX (iF (k:Int)),[]⟩ σ->n6 (Sem w b 122) (k4 zA) (.inl (iF (k:Int))) (I1 (.fn 69)) ⟨L,[]⟩ σ K:=λ{K σ} h=>by
   rcases hL with rfl|⟨v,rfl⟩
   .rw[Ls];exact h
   .rw[Ms];exact h
  refine as ?_;show R0 w b 122 (W5 zA) _ _ _ _;rw[Ji];have hk:(0:Int)<=(k:Int):=Int.natCast_nonneg k;have a4:∀v∈[V.ref 4,iT (k:Int)],v.lt 5:=λv hv=>by
   simp only[M4,v8,or_false] at hv;rcases hv with rfl|rfl<;>first|trivial|(show 4<5;decide)
  have a3:∀v∈[V.ref 3,V.ref 4,iT (k:Int)],v.lt 5:=λv hv=>by
   rcases M4.mp hv with rfl|hv
   .show 3<5;decide
   .exact a4 v hv
  have a1:∀v∈[V.ref 4],v.lt 5:=λv hv=>by
   rw[l9.mp hv];show 4<5;decide
  have nr:∀{i:Nat}(k:Nat),V.fn i≠.ref k:=λk h=>A0 (congrArg rV h);have ni:∀{i:Nat}(d:Dt),V.fn i≠.W0 d:=λk h=>A0 (congrArg mV h);refine w3 (C4 B ?_);rw[az];refine d7 (t:=[]) ((fM B 20).wC.1 (Eq.mpr Qs ?_));refine FJ (args2:=[.ref 3,.ref 4,iT (k:Int)]) (t2:=[]) nr ni ⟨rfl,rfl,rfl,trivial⟩ (LH (t0:=[]) k9 nr ni a3 (ZN (sec:=aB t sp ho) B ht hr hf hk JR sG hI λs Ws A1 C1 t2 h1=>⟨trivial,Ws,A2 A1 C1,[true],rfl,cX λtp=> ?_⟩));have h4:∀{Ws:Nat->Port}{A1 C1:Int},Inv room (aB t sp ho) (λ_=>(k:Int)) Ws->∀tp,R0 w b 122 [bL 1] (I1 (.fn 69)) ⟨xX (iF (k:Int)),[]⟩ ⟨bH t room sp ho fm Ws (A2 A1 C1)++[.any],tp⟩ (bj K λn9 P0=>U5 (Sem w b 122) (k4 zA) (W5 zA) (I1 (.fn 69)) ((List.range' (k+1) m).map λ(k:Nat)=> .inl (iF (k:Int))) n9 P0 K):=λ{Ws A1 C1} h1 tp=>by
   refine C4 B ?_;rw[bz];refine d7 (t:=[]) ((fM B 20).wC.1 (Eq.mpr Ts ?_));refine FJ (args2:=[.ref 4,iT (k:Int)]) (t2:=[]) nr ni ⟨rfl,rfl,trivial⟩ (lG ht (n:=82) (by decide) nr ni a4 (HN (sec:=aB t sp ho) B ht hr.2 hf hs hk sG (Ki ht) h1 λIu X t2 h2 _=>⟨trivial,Iu,X,[],rfl,?_⟩));show t5 w b 122 _ _ _ _ _;refine d7 (t:=[]) ((fM B 20).wC.1 (Eq.mpr Us ?_));refine lG ht (n:=82) (by decide) nr ni a1 (PL B ht hr.2 (λj hj=>(h2 j hj).pi) λX t4=>⟨trivial,Iu,X,[],rfl,?_⟩);show R0 w b 122 [] _ _ _ _;refine YC ?_;exact ih (k:=k+1) h2 (.inr ⟨_,rfl⟩)
  show t5 w b 122 _ _ _ _ _;refine d7 (t:=[]) ((fM B 20).wC.1 (Eq.mpr Ss ?_));refine FJ (args2:=[.ref 4,iT (k:Int)]) (t2:=[]) nr ni ⟨rfl,rfl,trivial⟩ (lG ht (n:=82) (by decide) nr ni a4 (QN (sec:=aB t sp ho) B ht hr.2 h1 λIu X t2 h2 _=>⟨trivial,Iu,X,[],rfl,?_⟩));show R0 w b 122 [] _ _ _ _;refine YC ?_;exact h4 h2 _
theorem Li{K:m9->List w5->St->Prop}{v:V}{l:m9}{its:List w5}(h:L7 σ v=some (l,its)):pG K v σ=K l its σ:=by
 unfold pG;rw[h];rfl
theorem iz{b5:n0}{d:Nat}(hd:d<5)(h:Y2 A C 5=(d:Int)){K:m9->List w5->St->Prop}:(run (C0 (0,0) 0 []) 20).ev (y5 zA) (I1 (.fn 69)) ⟨Hu,[]⟩ ⟨[y3,.L0,.any,A2 A C,b5],[]⟩ (pG K)=((0<(5:Int)/\small 5=true)/\K [(5,.w9 0 (4+(d:Int)) 1)] ((List.range' 0 (4+d)).map λ(k:Nat)=> .inl (iF (k:Int))) ⟨[y3,.L0,.any,A2 (g6 A C 5) (i6 A C 5),b5,.w9 0 (4+(d:Int)) 1],[]⟩):=by
 rw[evL,h,Li (Ii hd)]
theorem Mi(B:k3 w b){xs:List V}(hl:xs.length<=100000)(hx:∀v∈xs,∃n,v= .int true n){tp:List Bool}{Q:K1}(q:∀F1,Q (.bool false true) F1):R0 w b 122 (A5 (.fn 69)) (I1 (.fn 69)) ⟨[(k6,.ref 2)],[]⟩ ⟨[y3,.L0,.D4 (.lst xs)],tp⟩ (WA Q):=by
 have lx:(n0.D4 (.lst xs)).lt 3:=λv hv=>by
  refine O0 (hx v hv) λn B0=> ?_;subst B0;trivial
 rw[Gs];refine w3 (C4 B ?_);rw[Wy];refine d7 (t:=[]) ((fM B 20).wC.1 (Eq.mpr Xy ?_));refine F0.up (n:=80) (by decide) (Xa B (o:= .D4 (.lst xs)) lx λt2=> ?_);show R0 w b 122 [] _ _ _ _;refine YC ?_;show R0 w b 122 (_++_) _ _ _ _;refine w3 (jQ (fM B 20) Yy (F0.up (n:=80) (by decide) (jb B hl hx λA C t2=> ?_)));show R0 w b 122 (_++_) _ _ _ _;refine w3 (jQ (fM B 20) Zy (F0.up (n:=71) (by decide) (aX B λt room sp ho fm ps a c t3 ht hr hs hf JR sG hI=> ?_)));show R0 w b 122 (_++_) _ _ _ _;refine w3 (C4 B (P6 (by kernel_rfl) ?_));rw[Js];have h5:=T9 (A:=a) (C:=c) (T:=5) (by decide);obtain⟨d,e5⟩:∃d:Nat,Y2 a c 5=(d:Int):=⟨(Y2 a c 5).toNat,by lia⟩;refine t5.up (n:=60) (by decide) (D3 (r:=20) (k:=(0,0)) (s:=0) (m:=[]) (t:=[]) B (Eq.mpr (iz (by lia) e5) ⟨by decide,?_⟩));refine Vs (m:=4+d) (k:=0) B ht hr hs hf JR sG (λL H t2=> ?_) (hI _) (.inl rfl);show R0 w b 122 _ _ _ _ _;exact jQ (t:=[]) (fM B 20) cz (q _)
end
noncomputable def kb(k:Nat):Bool:= !Nat.beq k 145
noncomputable def pb(o:Obj):Bool:=match o.data with
 | .seq _ _=>(match o.cls with| .type n=> !(n=="list")|_=>false)
 |_=>true
theorem Ni:∀P,(KL P).all (λp=>kb p.1&&pb p.2)=true:=by intro P;kernel_rfl
theorem rb:XG.all (λt=>kb (t.a -1))=true:=by kernel_rfl
theorem mG{h:Heap}{a c:Addr}(h1:c≠145)(h2:c≠a):((h.hide 145).hide a).get? c=h.get? c:=by
 rw[Heap.hide_ne _ h2,Heap.hide_ne _ h1]
theorem hide_self{h:Heap}{a:Addr}:(h.hide a).get? a=none:=by
 unfold Heap.hide Heap.get?;rw[Heap.objs_update_self];cases h.objs[a]? <;>rfl
theorem dX{h:Heap}{a c:Addr}{o:Obj}(e:((h.hide 145).hide a).get? c=some o):c≠145/\c≠a/\h.get? c=some o:=by
 by_cases h2:c=a
 .subst h2;rw[hide_self] at e;exact A0 e
 .rw[Heap.hide_ne _ h2] at e;by_cases h1:c=145
  .subst h1;rw[hide_self] at e;exact A0 e
  .rw[Heap.hide_ne _ h1] at e;exact⟨h1,h2,e⟩
theorem lookup_mem{α β:Type}[BEq α][LawfulBEq α]{x:α}{y:β}:∀{l:List (α×β)},l.lookup x=some y->(x,y)∈l
 |(k,v)::l,h=>by
  rw[List.lookup_cons] at h;induction c:(x==k) using Q2 with
  |true=>
   rw[c] at h;obtain rfl:=si h;rw[eq_of_beq c];exact M3
  |false=>
   rw[c] at h;exact a5 _ (lookup_mem h)
section
variable{w:World}{h:Heap}{a:Addr}{vs:List Value}{mg mb:Str->Option Value}
theorem Oi{b:Heap}{rs:List RO}:P2 w b rs (.dS [ge "port text" (.int false 4),ge "name" (.int false 5),ge "system text" (.int false 6)]) (.one 145 (jD w.params)):=by
 refine⟨145,_,[("port text",.int 4 393),("name",.int 5 395),("system text",.int 6 397)],rfl,⟨_,_,⟨rfl,rfl,rfl⟩,rfl,λe he=> ?_,?_,?_⟩,?_⟩
 .have Ht:e∈[de w.params "port text" 392 (.int 4 393),de w.params "name" 394 (.int 5 395),de w.params "system text" 396 (.int 6 397)]:=by simpa using he
  simp only[M4,v8,or_false] at Ht;rcases Ht with rfl|rfl|rfl<;>exact⟨_,strKind_is _ _ _ _,rfl⟩
 .exact .cons (strKind_is _ _ _ _) rfl (.cons (strKind_is _ _ _ _) rfl (.cons (strKind_is _ _ _ _) rfl .nil))
 .decide
 .exact⟨_,_,rfl,⟨_,rfl⟩,_,_,rfl,⟨_,rfl⟩,_,_,rfl,⟨_,rfl⟩,rfl⟩
theorem ub(T:TopRead vw loose mg mb h)(Y:cS w h)(ha:h.get? a=some {cls:= .type "list",data:= .seq vs.toArray})(hs:a≠sysModules):k3 w ((h.hide 145).hide a):=by
 have kp:∀c o,kb c=true->pb o=true->h.get? c=some o->((h.hide 145).hide a).get? c=some o:=λc o h1 h2 e=>by
  rw[mG (λq=>by rw[q] at h1;exact G2 h1) (λq=>by rw[q,ha] at e;obtain rfl:=si e;exact G2 h2)];exact e
 have kn:∀{c:Addr}{m:Str->Option Value},kb c=true->h.Ns c m->((h.hide 145).hide a).Ns c m:=λ{c m} h1 n=>by
  refine T3 n λo es ep e d r=> ?_;clear n;refine⟨o,es,ep,kp c o h1 ?_ e,d,r⟩;unfold pb;rw[d]
 refine⟨λc o e=> ?_,λt ht=> ?_,⟨mg,mb,kn rfl T.g,kn rfl T.b,?_,T.builtins,T.free⟩,?_⟩
 .have:=xC.mp (Ni w.params) _ (lookup_mem e);rw[JD] at this;exact kp c o this.1 this.2 (Y.K c o e)
 .refine pB (Y.code t ht) λc o us tk e ho hd hv=> ?_;cases e
  refine⟨_,o,us,tk,rfl,kp _ o (xC.mp rb t ht) ?_ ho,hd,hv⟩;unfold pb;rw[hd]
 .refine u0 T.nolimit λmc n q=> ?_;exact⟨mc,kn rfl n,q⟩
 .rw[mG (by decide) (λq=>hs q.symm)];exact Y.sys
theorem vb(Y:cS w h)(ha:h.get? a=some {cls:= .type "list",data:= .seq vs.toArray}){xs:List V}(hx:∀b rs,V0 b rs xs vs){og:OG}:
 M0 w ((h.hide 145).hide a) ⟨[],[],og⟩ [y3,.L0,.D4 (.lst xs)] [.V5 145 [(145,jD w.params)],.V5 0 [(a,{cls:= .type "list",data:= .seq vs.toArray})],.V5 a []] h og:=by
 have ne:a≠145:=λq=>by
  rw[q,Y.tab] at ha;have:=congrArg (λo:Option Obj=>o.map (·.cls)) ha;simp[jD] at this
 refine⟨λc o e=>(dX e).2.2,(λp hp=>by cases hp),λp hp=> ?_,?_,rfl,⟨?_,rfl⟩,rfl,λi o r e1 e2=> ?_⟩
 .have W7:p∈[((145:Addr),jD w.params),(a,({cls:= .type "list",data:= .seq vs.toArray}:Obj))]:=hp;simp only[M4,v8,or_false] at W7;rcases W7 with rfl|rfl
  .exact⟨Y.tab,by rw[Heap.hide_ne _ ne.symm];exact hide_self⟩
  .exact⟨ha,hide_self⟩
 .show([145,a]:List Addr).Nodup;simp[ne.symm]
 .unfold Heap.hide;rw[Heap.size_update,Heap.size_update];exact j6 _
 .match i,e1,e2 with
  |0,e1,e2=>obtain rfl:=si e1;obtain rfl:=si e2;exact⟨145,_,_,rfl,M3,Oi⟩
  |1,e1,e2=>obtain rfl:=si e1;obtain rfl:=si e2;exact⟨_,_,rfl⟩
  |2,e1,e2=>obtain rfl:=si e1;obtain rfl:=si e2;exact⟨a,_,[],rfl,a5 _ M3,a,vs,0,rfl,hx _ _⟩
end
theorem eX:(yX (.fn 69)).isSome=true:=by kernel_rfl
noncomputable def xj:Vi:=(yX (.fn 69)).get eX
theorem Qi:yX (.fn 69)=some xj:=(Option.some_get eX).symm
theorem fX:bindG (.fn 69) xj [.ref 2]=some [(k6,.ref 2)]:=by kernel_rfl
theorem wb:locals xj.sc [(k6,.ref 2)]=[(k6,.ref 2)]:=by kernel_rfl
theorem xb{σ:St}:Q4 [(k6,.ref 2)] xj.sc.names [] σ=([],σ):=by kernel_rfl
theorem gX:xj.body=A5 (.fn 69):=by kernel_rfl
theorem Ri:xj.sc=I1 (.fn 69):=by kernel_rfl
noncomputable def Xs:Addr:=(J6 (.fn 69)).getD 0
theorem Ys:J6 (.fn 69)=some Xs:=by kernel_rfl
theorem Si:∀P,nsIn (KL P) mainGlobals "law"=some (some (.ref Xs)):=by intro P;kernel_rfl
theorem Zs:B2 callerA 123:=⟨rfl,by decide,by decide⟩
section
variable{w:World}{s:Shared}{a:Addr}{vs:List Value}{mg mb:Str->Option Value}
theorem yb(T:TopRead vw loose mg mb s.heap)(Y:cS w s.heap)(ha:s.heap.get? a=some {cls:= .type "list",data:= .seq vs.toArray})(hs:a≠sysModules){xs:List V}(hx:∀b rs,V0 b rs xs vs)(hl:xs.length<=100000)(hi:∀v∈xs,∃n,v= .int true n){fa:Addr}(hf:mg "law"=some (.ref fa)):
 codeAny (model E1 w) callerA (.call (.ref fa) ⟨[.ref a],[]⟩) (λr s'=>r= .ok (.ret (.bool true))/\(∀c o,s.heap.get? c=some o->s'.heap.get? c=some o)/\s'.os=s.os/\s'.gens=s.gens) s:=by
 have e:fa=Xs:=by
  have:=mg_of Y.K T.g (Si w.params);rw[hf] at this;cases si this<;>rfl
 subst e;have B:=ub T Y ha hs;have S:=vb Y ha hx (og:=(s.os,s.gens));have ne:a≠145:=λq=>by
  rw[q,Y.tab] at ha;have:=congrArg (λo:Option Obj=>o.map (·.cls)) ha;simp[jD] at this
 have go:=tU (σ:=⟨[y3,.L0,.D4 (.lst xs)],[]⟩) (Q:=λv _=>v= .bool false true) B (OI w _ 122).ex Zs S Qi (u:= .ref Xs) (args:=[.ref 2]) (us:=[.ref a]) ⟨Xs,Ys,rfl⟩ ⟨.ref a,[],rfl,⟨a,rfl,rfl⟩,rfl⟩ fX (by
  rw[xb,wb,gX,Ri];exact Mi (Q:=λv _=>v= .bool false true) B hl hi λ_=>rfl)
 refine codeAny_mono go λr s' hr=> ?_;obtain⟨v,rfl,hr⟩:∃v,r= .ok (.ret v)/\PV w _ _ _ _ v s':=by
  cases r with
  |error e=>exact hr.elim
  |ok f=>cases f with
   |ret v=>exact⟨v,rfl,hr⟩
   |_=>exact hr.elim
 obtain⟨v2,F1,r2,q,S2,X2,o2⟩:=hr;subst q;have ev:v= .bool true:=o2;refine D0 (Prod.mk.inj S2.big.2) λe1 e2=> ?_;refine⟨by rw[ev],λc o e=> ?_,e1,e2⟩;by_cases h1:c=145
 .subst h1;rw[Y.tab] at e;obtain rfl:=si e;exact(S2.at_ (145,jD w.params) (j4 (X2.fz _ M3))).1
 .by_cases h2:c=a
  .subst h2;rw[ha] at e;obtain rfl:=si e;exact(S2.at_ (c,{cls:= .type "list",data:= .seq vs.toArray}) (j4 (X2.fz _ (a5 _ M3)))).1
  .exact S2.keep c o (by rw[mG h1 h2];exact e)
end
set_option tactic.hygienic true in
theorem zb{P:Params}{h:Heap}{xs:List WData}:∀{vs:List Value},(∀d∈xs,∃i,d= .int i)->WellAll P h vs xs->∃l:List V,(∀b rs,V0 b rs l vs)/\l.length=xs.length/\∀v∈l,∃n,v= .int true n:=by
 induction xs with
 |nil=>
  intro vs _ w;cases w
  exact⟨[],λ_ _=>rfl,rfl,λv hv=>by cases hv⟩
 |cons d xs ih=>
  intro vs hd w;cases w with
  |cons w1 w2=>
   refine O0 (hd d M3) λi B0=> ?_;subst B0;cases w1
   rename_i t;refine J3 (ih (λd xB=>hd d (a5 _ xB)) w2) λl h1 h2 h3=> ?_;refine⟨.int true i::l,λb rs=>⟨_,_,rfl,⟨t,rfl⟩,h1 b rs⟩,by rw[List.length_cons,List.length_cons,h2],λv hv=> ?_⟩;rcases M4.mp hv with rfl|hv
   .exact⟨i,rfl⟩
   .exact h3 v hv
theorem gM{w:World}{GJ:Shared}{mg mb:Str->Option Value}{h:Heap}(G:Ground vw loose [] (XL vw []) w GJ mg mb h):TopRead vw loose mg mb h:=by
 have T:=G.T;have sub:∀x,x∈looseW vw loose->x∈loose\/x∈(recsOf vw).map (·.name):=by
  have:(looseW vw loose).all (λx=>loose.contains x||((recsOf vw).map (·.name)).contains x)=true:=by kernel_rfl
  intro x hx;have:=xC.mp this x hx;rw[Bool.or_eq_true,List.contains_iff_mem,List.contains_iff_mem] at this;exact this
 have jz:∀x,x∈(clssOf vw (looseW vw loose)).map (·.name)->x∈loose\/x∈(recsOf vw).map (·.name):=by
  have:((clssOf vw (looseW vw loose)).map (·.name)).all (λx=>loose.contains x||((recsOf vw).map (·.name)).contains x)=true:=by kernel_rfl
  intro x hx;have:=xC.mp this x hx;rw[Bool.or_eq_true,List.contains_iff_mem,List.contains_iff_mem] at this;exact this
 exact⟨T.g,T.b,T.nolimit,T.builtins,λx h1 h2 h3 h4 h5=>T.free x h1 (λq=>(sub x q).elim h2 h3) h3 h4 λq=>(jz x q).elim h2 h3⟩
set_option tactic.hygienic true in
theorem iX{w:World}{GJ U2:Shared}{mg mb:Str->Option Value}(G:Ground vw loose [] (XL vw []) w GJ mg mb U2.heap)(Y:cS w U2.heap){fa:Addr}(kz:mg "law"=some (.ref fa))(hg:U2.gens= #[]){args:List WData}{vals:List Value}{as:List Addr}
 (Ti:zX.toRowW.claim.pre args=true) (lz:ReadsAllW [] (classAt GJ.heap) U2.heap vals args as) (mz:WellAll w.params U2.heap vals args) (nz:∀a∈as,(a==sysModules)=false):
 wpAny (model E1 w) callerA (PySem.call (.ref fa) vals) (λv s'=>GoodWG zX.toRowW.claim (classAt GJ.heap) (ExcName.means GJ.heap) args U2 (.ok (.ret v)) s') (λe s'=>GoodWG zX.toRowW.claim (classAt GJ.heap) (ExcName.means GJ.heap) args U2 (.error e) s') U2:=by
 refine D0 (pre_splitW Ti) λhsh bt=> ?_;refine U1 (hasAllW_cons (show WShape.hasAll [] args [.list .int]=true from hsh)) λd r B0=> ?_;subst B0;intro hd hr;obtain rfl:=hasAllW_nil hr;refine u0 (hasW_list hd) λxs B0=> ?_;subst B0;intro hxs;have hi:∀d∈xs,∃i,d= .int i:=λd hd=>hasW_int (hasItemsW_at hxs d hd);have hl:xs.length<=63:=by
  have:=(holds_andW (show(WTm.and (.not (.lt (.lit (.int 63)) (.len (.arg 0)))) (.lit (.bool true))).holds [] {args:=[.list xs]}=true from bt)).1;by_cases h:(63:Int)<(xs.length:Int)
  .simp[WTm.holds,WTm.value,less?,Num.less?,decide_eq_true h] at this
  .lia
 cases mz with
 |cons w1 w2=>
  cases w2
  cases w1
  rename_i a vs ha wv;refine J3 (zb hi wv) λl l1 l2 l3=> ?_;have hs:a≠sysModules:=by
   cases lz with
   |cons r1 r2=>
    cases r1
    intro q;have:=nz a (by simp);rw[q] at this;simp at this
  refine enter_call (codeAny_mono (yb (gM G) Y ha hs l1 (by lia) l3 kz) λr s'⟨h1,h2,h3,h4⟩=> ?_);subst h1;refine⟨.inl ⟨.bool true,.bool true,[],rfl,λ_=>rfl,.bool true,by kernel_rfl,λ_=>⟨List.nodup_nil,λa ha=>by cases ha⟩⟩,.of_keep h2,h3,?_⟩;exact .of_eq (h4.trans hg)
end
end Mine.Internal
open PySem PySem.W PyProof.Rows PySem.Calls PySem.SeqAt PySem.W.KBc Mine.Internal
set_option maxHeartbeats 0 in
theorem PySem.Challenge.cw_xm0963_01_holds : PySem.Challenge.rw_xm0963_01.Holds := by
 refine holds_law (l:=PySem.Challenge.rw_xm0963_01) (by kernel_rfl) λa0e=> ?_;refine holds_open (q:=vw) (loose:=loose) (Xt:=xt) (XP:=XL vw []) (Yf:=Hook.obs hk) (Ya:=Hook.val hk) (YP:=Hook.says hk) (N:=8000) left (Hook.of hk) (Hook.keeps hk) (λs e=>xl_of s (Bool.and_eq_true_iff.mp e).1) XL.keeps (by rfl) (by rfl) (by rfl) (λs e=>recFacts_of (Bool.and_eq_true_iff.mp e).2) (by rfl) (by first|assumption|decide+kernel) (by decide+kernel) ⟨rfl,rfl,rfl,rfl,rfl,by decide+kernel⟩ ?hw ?hc;case hw=>w_witness2
 case hc=>
  intro w GJ U2 mg mb G Y fa o pm cd doc dV kV ho hd Et hD kz hg args vals as Ti a0f lz mz nz;exact iX G Y kz hg Ti lz mz nz
