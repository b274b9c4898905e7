import PyProof.Rows.All
import Wide.All
import OpenK.AllK
import Wide.FinOn
import Lean
import PySem.Challenge.RW_nu0345_02
set_option Elab.async false
set_option genInjectivity false
set_option genSizeOfSpec false
set_option genSizeOf false
set_option genCtorIdx false
set_option bootstrap.genMatcherCode false
set_option compiler.extract_closed false
set_option linter.unusedVariables false
set_option linter.unusedSimpArgs false
set_option maxRecDepth 100000
open PySem PySem.W PySem.Calls PyProof.Rows
namespace Mine
/-- the top's run over a tree of objects -/
def topRunT(tb:String→Option Builtin)(p:Program)(w:World)(n₀:Nat)(ann:Option Value):Nat→SharedT→Thread→Option SharedT
 | 0,_,_=>none
 | n+1,s,t=>match through t with
  | true=>some s
  | false=>match stepOk n₀ ann t with
   | false=>none
   | true=>match stepT (denote tb) p w s t with
    | some (s',t')=>topRunT tb p w n₀ ann n s' t'
    | none=>none
theorem topRun_of{tb:String→Option Builtin}{p:Program}{w:World}{n₀:Nat}{ann:Option Value}:∀{n:Nat}{s s':SharedT}{t:Thread},topRunT tb p w n₀ ann n s t=some s'→topRun tb p w n₀ ann n s.abs t=some s'.abs
 | 0,_,_,_,h=>by cases h
 | n+1,s,s',t,h=>by
  unfold topRunT at h
  unfold topRun
  cases he:through t with
  | true=>rw [he] at h; cases h; rfl
  | false =>
   rw [he] at h
   cases hk:stepOk n₀ ann t with
   | false=>rw [hk] at h; cases h
   | true =>
    rw [hk] at h
    cases hs:stepT (denote tb) p w s t with
    | none=>rw [hs] at h; cases h
    | some r=>obtain ⟨s₂,t₂⟩:=r; rw [hs] at h; dsimp only; rw [stepT_spec hs]; exact topRun_of h
def mkT(l:List Obj):Nat→Nat→Nat→BT
 | 0,_,_=>.nil
 | k+1,a,b=>match l[b]? with
  | none=>.nil
  | some o=>.node o (mkT l k (2 * a) (a+b)) (mkT l k (2 * a) (2 * a+b))
noncomputable def bootT(P:Params):BT:=mkT (boot_heap P).objs.toList 6 1 0
theorem boot_abs:∀ P,absHeap (bootT P) 11 (boot_heap P).life=boot_heap P:=by intro P; kernel_rfl
theorem boot_size:∀ P,(boot_heap P).objs.size=11:=by intro P; kernel_rfl
def runB(p:Program)(N:Nat)(H:Heap)(T:BT)(d:Drawn)(k:Nat)(w:World)(os:OsState):Option SharedT :=
 topRunT treeTable p w 11 (H.nsMap mainGlobals "__annotations__") N ⟨T,11,H.life,#[],d,k,os⟩ (topStub p)
def condB(p:Program)(H:Heap)(s:Shared):Bool:=staticsOk (importedModules p.main.body) H s.heap&&namesBound p s.heap&&gensDone s&&laidKept H s.heap
theorem leftO_of{p q:Program}{loose:List Str}{Xt:Shared→Bool}{α:Type}{Yf:Shared→α}{Ya:World→α}{N:Nat}{g0:Bool}(e:opening p=plainProg p.main.scope.names)(hN:Nat.ble 600 N=true)(f:∀ s,fenceModules? p s=some s)
  (h0:∀ P,(boot_heap P).isNs mainGlobals=true)
  (h:∀(w:World)(os:OsState),(runB p N (boot_heap w.params) (bootT w.params) boot_drawn boot_toks w os).map (fun s=>(condB p (boot_heap w.params) s.abs,openSeen q loose (importedModules p.main.body) Xt g0 s.abs,Yf s.abs))=some (true,openGood q loose,Ya w)):LeftO p q loose Xt Yf Ya N g0:=fun w=>by
 obtain ⟨⟨hh,gs,d,k,os⟩,e1,e2⟩:=Option.map_eq_some_iff.mp (boot_open e hN f w)
 obtain ⟨rfl,rfl,rfl,rfl⟩:hh=boot_heap w.params∧gs=#[]∧d=boot_drawn∧k=boot_toks:=by simpa using e2
 obtain ⟨s,r1,r2⟩:=Option.map_eq_some_iff.mp (h w os)
 obtain ⟨c1,c2,c3⟩:_∧_∧_:=by simpa only [Prod.mk.injEq] using r2
 have t:=topRun_of r1
 have ea:(SharedT.abs ⟨bootT w.params,11,(boot_heap w.params).life,#[],boot_drawn,boot_toks,os⟩)=⟨boot_heap w.params,#[],boot_drawn,boot_toks,os⟩:=by
  unfold SharedT.abs; rw [boot_abs]
 rw [ea] at t
 unfold condB at c1
 unfold openEnds
 rw [e1]
 show (topFrom treeTable p w N ⟨boot_heap w.params,#[],boot_drawn,boot_toks,os⟩).map _=_
 unfold topFrom
 dsimp only
 rw [h0,boot_size,t]
 show ((match (staticsOk _ _ _&&_&&_&&_) with | true=>some s.abs | false=>none:Option Shared)).map _=_
 rw [c1]
 show some (_,_)=some (_,_)
 rw [c2,c3]
end Mine
namespace Mine
def keep1:List Nat:=[0,2,3,4,5,6,7,8,9,11,12,13,14,15,16,18,19,20,21,22,23,25,26,29,31,33,34,36,38,39,41,42,43,44,45,47,49,50,51,52,53,54,55,56,57,58]
def lo1:List Str:=[Str.ofString "collect"]
def vw:Program:=view PySem.Challenge.pw_nu0345_02 keep1
noncomputable def rc1:=RowW.records (OpenRow.toRowW PySem.Challenge.rw_nu0345_02.row)
def XvP(V:Program)(R:WRecords)(s:Shared):Bool:=xlAt V [] s&&recOk R s
def Xv(s:Shared):Bool:=xlAt vw [] s&&recOk (RowW.records (OpenRow.toRowW PySem.Challenge.rw_nu0345_02.row)) s
noncomputable def G1(P V:Program)(R:WRecords)(H:Heap)(T:BT)(as:List Nat)(w:World)(os:OsState):=(runB P 9000 H T boot_drawn boot_toks w os).map fun s=>(condB P H s.abs,openSeen V lo1 (importedModules P.main.body) (XvP V R) true s.abs,as.map s.abs.heap.get?)
noncomputable def C1(V:Program):=openGood V lo1
set_option maxHeartbeats 0
lay_quick Mine.G1 Mine.C1
theorem fence0:∀ s,fenceModules? PySem.Challenge.pw_nu0345_02 s=some s:=by intro s; kernel_rfl
theorem open0:opening PySem.Challenge.pw_nu0345_02=plainProg PySem.Challenge.pw_nu0345_02.main.scope.names:=by kernel_rfl
theorem bootNs:∀ P,(boot_heap P).isNs mainGlobals=true:=by intro P; kernel_rfl
theorem said1:OpenLaw.wellSaid PySem.Challenge.rw_nu0345_02=true:=by
 rw [PySem.W.Fast.te9446332074065402090]
 kernel_rfl
set_option hygiene false in
local macro_rules | `(tactic| o_law)=>`(tactic| refine holds_law Mine.said1 fun said=>?_)
set_option hygiene false in
local macro_rules | `(tactic| o_head $H)=>`(tactic| (refine holds_open (q:=Mine.vw) (loose:=Mine.lo1) (Xt:=Mine.Xv) (XP:=XL Mine.vw []) (Yf:=Hook.obs $H) (Ya:=Hook.val $H) (YP:=Hook.says $H) (N:=9000) ?hl (Hook.of $H) (Hook.keeps $H) (fun s e=>xl_of s (Bool.and_eq_true_iff.mp e).1) XL.keeps (by rfl) (by rfl) (by rfl) (fun s e=>recFacts_of (Bool.and_eq_true_iff.mp e).2) (by rfl) (by first | assumption | decide +kernel) (by decide +kernel) ⟨rfl,rfl,rfl,rfl,rfl,by decide +kernel⟩ ?hw ?hc; (case hl=>(refine Mine.leftO_of Mine.open0 (by decide) Mine.fence0 Mine.bootNs ?_; intro w os; show Mine.G1 PySem.Challenge.pw_nu0345_02 Mine.vw Mine.rc1 (boot_heap w.params) (bootT w.params) _ w os=some (true,Mine.C1 Mine.vw,_); rw [PySem.W.Fast.te13623645037719164452,PySem.W.Fast.te1758448112672720170]; kernel_rfl))))
open_top hd for PySem.Challenge.rw_nu0345_02
end Mine
namespace Mine
set_option maxHeartbeats 4000000
section
noncomputable def cL(c:Nat):Nat:=c / 2048%2 ^ (c / 8%256)
noncomputable def cR(c:Nat):Nat:=c / 2048 / 2 ^ (c / 8%256)
noncomputable def hz0:Nat:=0
noncomputable def hz1:Nat:=hz0
noncomputable def hz2:Nat:=hz1
noncomputable def hz3:Nat:=hz2
noncomputable def hz4:Nat:=hz3
noncomputable def hz5:Nat:=hz4
noncomputable def hz6:Nat:=hz5
noncomputable def hz7:Nat:=hz6
noncomputable def hz8:Nat:=hz7
noncomputable def hz9:Nat:=hz8
noncomputable def hzA:Nat:=hz9
noncomputable def hzB:Nat:=hzA
noncomputable def hzC:Nat:=hzB
noncomputable def hzD:Nat:=hzC
noncomputable def hzE:Nat:=hzD
noncomputable def hzF:Nat:=hzE
noncomputable def gN:List Nat→Nat→Nat
 | [],_=>hzF
 | a :: _,0=>a
 | _ :: l,i+1=>gN l i
noncomputable def gI:List Int→Nat→Int
 | [],_=>hzF
 | a :: _,0=>a
 | _ :: l,i+1=>gI l i
noncomputable def lN(cn:List Nat):Nat→Nat→Nat
 | 0,_=>hzF
 | k+1,c=>match c%8 with
  | 0=>gN cn (c / 8)
  | 1=>@OfNat.ofNat Nat (c / 8) (instOfNatNat _)
  | 2=>lN cn k (cL c)+lN cn k (cR c)
  | 4=>@OfNat.ofNat Nat (cL c) (instOfNatNat _) * lN cn k (cR c)
  | 7=>lN cn k (cR c) * @OfNat.ofNat Nat (cL c) (instOfNatNat _)
  | _=>0
noncomputable def lI(ci:List Int)(cn:List Nat):Nat→Nat→Int
 | 0,_=>hzF
 | k+1,c=>match c%8 with
  | 0=>gI ci (c / 8)
  | 1=>@OfNat.ofNat Int (c / 8) instOfNat
  | 2=>lI ci cn k (cL c)+lI ci cn k (cR c)
  | 3=>lI ci cn k (cL c)-lI ci cn k (cR c)
  | 4=>@OfNat.ofNat Int (cL c) instOfNat * lI ci cn k (cR c)
  | 5=>-lI ci cn k (c / 8)
  | 6=>((lN cn k (c / 8):Nat):Int)
  | _=>lI ci cn k (cR c) * @OfNat.ofNat Int (cL c) instOfNat
noncomputable def pL(c:Nat):Nat:=c / 4096%2 ^ (c / 16%256)
noncomputable def pR(c:Nat):Nat:=c / 4096 / 2 ^ (c / 16%256)
noncomputable def lP(ci:List Int)(cn:List Nat)(c:Nat):Prop:=match c%16 with
 | 0=>False
 | 1=>lI ci cn 12 (pL c)≤lI ci cn 12 (pR c)
 | 2=>lI ci cn 12 (pL c) < lI ci cn 12 (pR c)
 | 3=>lI ci cn 12 (pL c)=lI ci cn 12 (pR c)
 | 4=>lN cn 12 (pL c)≤lN cn 12 (pR c)
 | 5=>lN cn 12 (pL c) < lN cn 12 (pR c)
 | 6=>lN cn 12 (pL c)=lN cn 12 (pR c)
 | 7=>¬ lI ci cn 12 (pL c)≤lI ci cn 12 (pR c)
 | 8=>¬ lI ci cn 12 (pL c) < lI ci cn 12 (pR c)
 | 9=>¬ lN cn 12 (pL c)≤lN cn 12 (pR c)
 | 10=>¬ lN cn 12 (pL c) < lN cn 12 (pR c)
 | _=>True
noncomputable def imp(ci:List Int)(cn:List Nat):List Nat→Nat→Prop
 | [],g=>lP ci cn g
 | h :: hs,g=>lP ci cn h→imp ci cn hs g
noncomputable def pd:List Int→List Int→List Int
 | [],q=>q
 | a :: p,[]=>a :: p
 | a :: p,b :: q=>(a+b) :: pd p q
noncomputable def pm(k:Int)(p:List Int):List Int:=p.map (k * ·)
noncomputable def pv:Nat→List Int
 | 0=>[1]
 | i+1=>0 :: pv i
noncomputable def fN:Nat→Nat→List Int
 | 0,_=>[]
 | k+1,c=>match c%8 with
  | 0=>pv (2 * (c / 8)+2)
  | 1=>[((c / 8:Nat):Int)]
  | 2=>pd (fN k (cL c)) (fN k (cR c))
  | 4=>pm (cL c:Nat) (fN k (cR c))
  | 7=>pm (cL c:Nat) (fN k (cR c))
  | _=>[]
noncomputable def fI:Nat→Nat→List Int
 | 0,_=>[]
 | k+1,c=>match c%8 with
  | 0=>pv (2 * (c / 8)+1)
  | 1=>[((c / 8:Nat):Int)]
  | 2=>pd (fI k (cL c)) (fI k (cR c))
  | 3=>pd (fI k (cL c)) (pm (-1) (fI k (cR c)))
  | 4=>pm (cL c:Nat) (fI k (cR c))
  | 5=>pm (-1) (fI k (c / 8))
  | 6=>fN k (c / 8)
  | _=>pm (cL c:Nat) (fI k (cR c))
noncomputable def df(x y:List Int)(k:Int):List Int:=pd [k] (pd y (pm (-1) x))
noncomputable def bP(c:Nat):List (List Int):=match c%16 with
 | 1=>[df (fI 12 (pL c)) (fI 12 (pR c)) 0]
 | 2=>[df (fI 12 (pL c)) (fI 12 (pR c)) (-1)]
 | 3=>[df (fI 12 (pL c)) (fI 12 (pR c)) 0,df (fI 12 (pR c)) (fI 12 (pL c)) 0]
 | 4=>[df (fN 12 (pL c)) (fN 12 (pR c)) 0]
 | 5=>[df (fN 12 (pL c)) (fN 12 (pR c)) (-1)]
 | 6=>[df (fN 12 (pL c)) (fN 12 (pR c)) 0,df (fN 12 (pR c)) (fN 12 (pL c)) 0]
 | 7=>[df (fI 12 (pR c)) (fI 12 (pL c)) (-1)]
 | 8=>[df (fI 12 (pR c)) (fI 12 (pL c)) 0]
 | 9=>[df (fN 12 (pR c)) (fN 12 (pL c)) (-1)]
 | 10=>[df (fN 12 (pR c)) (fN 12 (pL c)) 0]
 | _=>[]
noncomputable def gP(c:Nat):Option (List (List Int)):=match c%16 with
 | 0=>some []
 | 1=>some [df (fI 12 (pR c)) (fI 12 (pL c)) (-1)]
 | 2=>some [df (fI 12 (pR c)) (fI 12 (pL c)) 0]
 | 4=>some [df (fN 12 (pR c)) (fN 12 (pL c)) (-1)]
 | 5=>some [df (fN 12 (pR c)) (fN 12 (pL c)) 0]
 | _=>none
noncomputable def gt_(L:List (List Int))(i:Nat):List Int:=if i%2=0 then L.getD (i / 2) [] else pv (i+1)
noncomputable def sm(W:Nat)(L:List (List Int)):Nat→Nat→List Int × Nat
 | 0,C=>([],C)
 | m+1,C=>match sm W L m (C / W / W) with
  | (p,C')=>(pd (pm (C%W:Nat) (gt_ L (C / W%W))) p,C')
noncomputable def tg(d:Int):List Int→List Int
 | []=>[]
 | a :: p=>if 0 < d∧(p.all fun x=>decide (x%d=0))=true then (a / d) :: p.map (· / d) else a :: p
noncomputable def ng:List Int→Bool
 | []=>false
 | a :: p=>decide (a < 0)&&p.all fun x=>decide (x=0)
noncomputable def go_(W:Nat):Nat→Nat→List (List Int)→Bool
 | 0,_,_=>false
 | k+1,C,L=>match sm W L (C / W%W) (C / W / W) with
  | (p,C')=>ng (tg (C%W:Nat) p)||go_ W k C' (L++[tg (C%W:Nat) p])
noncomputable def chk(hs:List Nat)(g C:Nat):Bool:=match gP g with
 | some q=>go_ (2 ^ (C%64)) 60 (C / 64) (hs.flatMap bP++q)
 | none=>false
noncomputable def pe:List Int→(Nat→Int)→Int
 | [],_=>0
 | a :: p,f=>a * f 0+pe p fun n=>f (n+1)
theorem pe_pd:∀(p q:List Int)(f:Nat→Int),pe (pd p q) f=pe p f+pe q f:=fun p=>by
 induction p with
 | nil=>exact fun q f=>(Int.zero_add _).symm
 | cons a p ih =>
  intro q f
  cases q with
  | nil=>exact (Int.add_zero _).symm
  | cons b q =>
   show (a+b) * f 0+pe (pd p q) _=(a * f 0+pe p _)+(b * f 0+pe q _)
   rw [ih,Int.add_mul]; omega
theorem pe_pm(k:Int)(p:List Int):∀ f:Nat→Int,pe (pm k p) f=k * pe p f:=by
 induction p with
 | nil=>exact fun f=>(Int.mul_zero _).symm
 | cons a p ih =>
  intro f
  show k * a * f 0+pe (pm k p) _=k * (a * f 0+pe p _)
  rw [ih,Int.mul_add,Int.mul_assoc]
theorem pe_pv(i:Nat):∀ f:Nat→Int,pe (pv i) f=f i:=by
 induction i with
 | zero=>intro f; show 1 * f 0+0=f 0; omega
 | succ i ih=>intro f; show 0 * f 0+pe (pv i) _=_; rw [ih,Int.zero_mul,Int.zero_add]
noncomputable def en(ci:List Int)(cn:List Nat)(i:Nat):Int:=match i with
 | 0=>1
 | i+1=>match i%2 with
  | 0=>gI ci (i / 2)
  | _=>((gN cn (i / 2):Nat):Int)
section
variable {ci:List Int}{cn:List Nat}
theorem en_i(j:Nat):en ci cn (2 * j+1)=gI ci j:=by
 show (match 2 * j%2 with | 0=>gI ci (2 * j / 2) | _=>_)=_
 rw [show 2 * j%2=0 by omega,show 2 * j / 2=j by omega]; rfl
theorem en_n(j:Nat):en ci cn (2 * j+2)=((gN cn j:Nat):Int):=by
 show (match (2 * j+1)%2 with | 0=>_ | _=>((gN cn ((2 * j+1) / 2):Nat):Int))=_
 rw [show (2 * j+1)%2=1 by omega,show (2 * j+1) / 2=j by omega]; rfl
theorem pe_c(k:Int):pe [k] (en ci cn)=k:=by show k * 1+0=k; omega
theorem fN_ok:∀ k c:Nat,pe (fN k c) (en ci cn)=((lN cn k c:Nat):Int):=fun k=>by
 induction k with
 | zero=>exact fun c=>rfl
 | succ k ih =>
  intro c
  unfold fN lN
  split
  ·rw [pe_pv,en_n]
  ·exact pe_c _
  ·rw [pe_pd,ih,ih,Int.natCast_add]
  ·rw [pe_pm,ih,Int.natCast_mul]; rfl
  ·rw [pe_pm,ih,Int.natCast_mul,Int.mul_comm]; rfl
  ·rfl
theorem fI_ok:∀ k c:Nat,pe (fI k c) (en ci cn)=lI ci cn k c:=fun k=>by
 induction k with
 | zero=>exact fun c=>rfl
 | succ k ih =>
  intro c
  unfold fI lI
  split
  ·rw [pe_pv,en_i]
  ·exact pe_c _
  ·rw [pe_pd,ih,ih]
  ·rw [pe_pd,pe_pm,ih,ih]; omega
  ·rw [pe_pm,ih]; rfl
  ·rw [pe_pm,ih]; omega
  ·exact fN_ok _ _
  ·rw [pe_pm,ih,Int.mul_comm]; rfl
theorem pe_df(x y:List Int)(k:Int):pe (df x y k) (en ci cn)=pe y (en ci cn)-pe x (en ci cn)+k:=by
 unfold df
 rw [pe_pd,pe_pd,pe_pm,pe_c]; omega
noncomputable def Nn(f:Nat→Int)(L:List (List Int)):Prop:=∀ p∈L,0≤pe p f
theorem Nn.one{f:Nat→Int}{p:List Int}(h:0≤pe p f):Nn f [p]:=fun q hq=>by rw [List.mem_singleton.mp hq]; exact h
theorem Nn.app{f:Nat→Int}{L M:List (List Int)}(h:Nn f L)(h':Nn f M):Nn f (L++M):=fun p hp=>(List.mem_append.mp hp).elim (h p) (h' p)
theorem dI{x y:Nat}{k:Int}(h:0≤lI ci cn 12 y-lI ci cn 12 x+k):Nn (en ci cn) [df (fI 12 x) (fI 12 y) k]:=.one (by rw [pe_df,fI_ok,fI_ok]; exact h)
theorem dN{x y:Nat}{k:Int}(h:0≤((lN cn 12 y:Nat):Int)-((lN cn 12 x:Nat):Int)+k):Nn (en ci cn) [df (fN 12 x) (fN 12 y) k]:=.one (by rw [pe_df,fN_ok,fN_ok]; exact h)
theorem bP_ok{c:Nat}:lP ci cn c→Nn (en ci cn) (bP c):=by
 unfold lP bP
 generalize c%16=m
 intro h
 match m,h with
 | 0,h=>exact h.elim
 | 1,h=>have h:_≤_:=h; exact dI (by omega)
 | 2,h=>have h:_ < _:=h; exact dI (by omega)
 | 3,h=>have h:_=_:=h; exact (dI (by omega)).app (dI (by omega))
 | 4,h=>have h:_≤_:=h; exact dN (by omega)
 | 5,h=>have h:_ < _:=h; exact dN (by omega)
 | 6,h=>have h:_=_:=h; exact (dN (by omega)).app (dN (by omega))
 | 7,h=>have h:¬ _≤_:=h; exact dI (by omega)
 | 8,h=>have h:¬ _ < _:=h; exact dI (by omega)
 | 9,h=>have h:¬ _≤_:=h; exact dN (by omega)
 | 10,h=>have h:¬ _ < _:=h; exact dN (by omega)
 | m+11,_=>exact fun _ hq=>nomatch hq
theorem gP_ok{c:Nat}{q:List (List Int)}:gP c=some q→¬ lP ci cn c→Nn (en ci cn) q:=by
 unfold lP gP
 generalize c%16=m
 intro e h
 match m,e,h with
 | 0,e,h=>cases e; exact fun _ hq=>nomatch hq
 | 1,e,h=>cases e; have h:¬ _≤_:=h; exact dI (by omega)
 | 2,e,h=>cases e; have h:¬ _ < _:=h; exact dI (by omega)
 | 3,e,h=>cases e
 | 4,e,h=>cases e; have h:¬ _≤_:=h; exact dN (by omega)
 | 5,e,h=>cases e; have h:¬ _ < _:=h; exact dN (by omega)
 | m+6,e,h=>cases e
theorem gt_ok{L:List (List Int)}(h:Nn (en ci cn) L)(i:Nat):0≤pe (gt_ L i) (en ci cn):=by
 unfold gt_
 by_cases q:i%2=0
 ·rw [if_pos q,List.getD_eq_getElem?_getD]
  cases e:L[i / 2]? with
  | none=>exact Int.le_refl 0
  | some p=>exact h p (List.mem_of_getElem? e)
 ·rw [if_neg q,pe_pv,show i+1=2 * (i / 2)+2 by omega,en_n]
  exact Int.natCast_nonneg _
theorem sm_ok{L:List (List Int)}(h:Nn (en ci cn) L)(W:Nat):∀ m C:Nat,0≤pe (sm W L m C).1 (en ci cn):=fun m=>by
 induction m with
 | zero=>exact fun C=>Int.le_refl 0
 | succ m ih =>
  intro C
  show 0≤pe (pd (pm _ _) (sm W L m (C / W / W)).1) _
  rw [pe_pd,pe_pm]
  exact Int.add_nonneg (Int.mul_nonneg (Int.natCast_nonneg _) (gt_ok h _)) (ih _)
theorem pe_div{d:Int}:∀(p:List Int)(f:Nat→Int),(p.all fun x=>decide (x%d=0))=true→pe p f=d * pe (p.map (· / d)) f:=fun p=>by
 induction p with
 | nil=>exact fun f _=>(Int.mul_zero _).symm
 | cons a p ih =>
  intro f h
  rw [List.all_cons,Bool.and_eq_true] at h
  show a * f 0+pe p _=d * (a / d * f 0+pe (p.map (· / d)) _)
  rw [ih _ h.2,Int.mul_add,← Int.mul_assoc,Int.mul_ediv_cancel' (Int.dvd_of_emod_eq_zero (of_decide_eq_true h.1))]
theorem tg_ok{d:Int}{p:List Int}(h:0≤pe p (en ci cn)):0≤pe (tg d p) (en ci cn):=by
 cases p with
 | nil=>exact h
 | cons a p =>
  show 0≤pe (if 0 < d∧(p.all fun x=>decide (x%d=0))=true then (a / d) :: p.map (· / d) else a :: p) (en ci cn)
  by_cases q:0 < d∧(p.all fun x=>decide (x%d=0))=true
  ·rw [if_pos q]
   have hd:=q.1
   have e:=pe_div p (fun n=>en ci cn (n+1)) q.2
   have h:0≤a * 1+pe p fun n=>en ci cn (n+1):=h
   show 0≤a / d * 1+pe (p.map (· / d)) fun n=>en ci cn (n+1)
   rw [e] at h
   have:=Int.ediv_nonneg h (Int.le_of_lt hd)
   rwa [Int.mul_one,Int.add_mul_ediv_left _ _ (Int.ne_of_gt hd),← Int.mul_one (a / d)] at this
  ·rw [if_neg q]; exact h
theorem ng_ok{p:List Int}(h:0≤pe p (en ci cn)):ng p=false:=by
 cases p with
 | nil=>rfl
 | cons a p =>
  have z:∀(p:List Int)(f:Nat→Int),(p.all fun x=>decide (x=0))=true→pe p f=0:=fun p=>by
   induction p with
   | nil=>exact fun _ _=>rfl
   | cons b p ih =>
    intro f h
    rw [List.all_cons,Bool.and_eq_true] at h
    show b * f 0+pe p _=0
    rw [ih _ h.2,of_decide_eq_true h.1,Int.zero_mul,Int.zero_add]
  refine Bool.eq_false_iff.mpr fun q=>?_
  have q:(decide (a < 0)&&p.all fun x=>decide (x=0))=true:=q
  rw [Bool.and_eq_true] at q
  have h:0≤a * 1+pe p fun n=>en ci cn (n+1):=h
  rw [z _ _ q.2] at h
  have:=of_decide_eq_true q.1
  omega
theorem go_ok(W:Nat):∀(k C:Nat)(L:List (List Int)),Nn (en ci cn) L→go_ W k C L=false:=fun k=>by
 induction k with
 | zero=>exact fun _ _ _=>rfl
 | succ k ih =>
  intro C L h
  have t:=tg_ok (d:=(C%W:Nat)) (sm_ok h W (C / W%W) (C / W / W))
  show (ng _||go_ W k _ _)=false
  rw [ng_ok t,ih _ _ (h.app (.one t))]; rfl
theorem imp_of{g:Nat}:∀ hs:List Nat,((∀ c∈hs,lP ci cn c)→lP ci cn g)→imp ci cn hs g:=fun hs=>by
 induction hs with
 | nil=>exact fun k=>k fun _ h=>nomatch h
 | cons h hs ih=>exact fun k x=>ih fun y=>k fun c hc=>(List.mem_cons.mp hc).elim (fun e=>e▸x) (y c)
end
theorem lin(ci:List Int)(cn:List Nat)(hs:List Nat)(g C:Nat)(h:chk hs g C=true):imp ci cn hs g:=imp_of hs fun k=>Classical.byContradiction fun z=>by
 unfold chk at h
 split at h
 ·rename_i q e
  have:Nn (en ci cn) (hs.flatMap bP++q):=Nn.app (fun p hp=>let ⟨c,a,b⟩:=List.mem_flatMap.mp hp; bP_ok (k c a) p b) (gP_ok e z)
  rw [go_ok _ _ _ _ this] at h
  cases h
 ·cases h
theorem dmA(x k:Int):k * (x / k)+x%k=x:=Int.mul_ediv_add_emod x k
theorem dmB(x k:Int)(h:decide (0 < k)=true):0≤x%k:=Int.emod_nonneg x (Int.ne_of_gt (of_decide_eq_true h))
theorem dmC(x k:Int)(h:decide (0 < k)=true):x%k < k:=Int.emod_lt_of_pos x (of_decide_eq_true h)
theorem tN(x:Int):(0≤x∧(x.toNat:Int)=x)∨(x < 0∧x.toNat=0):=by omega
theorem pI20:(2:Int) ^ 20=1048576:=rfl
theorem pI60:(2:Int) ^ 60=1152921504606846976:=rfl
theorem pI63:(2:Int) ^ 63=9223372036854775808:=rfl
theorem pI64:(2:Int) ^ 64=18446744073709551616:=rfl
theorem pN24:(2:Nat) ^ 24=16777216:=rfl
theorem pN60:(2:Nat) ^ 60=1152921504606846976:=rfl
theorem pN63:(2:Nat) ^ 63=9223372036854775808:=rfl
theorem pN62:(2:Nat) ^ 62=4611686018427387904:=rfl
end
section
noncomputable def er:Value→Value
 | .int i _=>.int i 0
 | .float b _=>.float b 0
 | .str s _=>.str s 0
 | .bytes b _=>.bytes b 0
 | v=>v
noncomputable def tkn:Value→Bool
 | .int _ _=>true
 | .float _ _=>true
 | .str _ _=>true
 | .bytes _ _=>true
 | _=>false
theorem er_id{v w:Value}(hw:tkn w=false)(h:er v=w):v=w:=by
 subst h
 cases v <;> first | rfl | cases hw
theorem er_int{v:Value}{i:Int}(h:er v=.int i 0):∃ t,v=.int i t:=by
 cases v with
 | int j t=>cases h; exact ⟨t,rfl⟩
 | _=>cases h
theorem er_str{v:Value}{x:Str}(h:er v=.str x 0):∃ t,v=.str x t:=by
 cases v with
 | str j t=>cases h; exact ⟨t,rfl⟩
 | _=>cases h
theorem er_bool{v:Value}{b:Bool}(h:er v=.bool b):v=.bool b:=er_id rfl h
theorem er_none{v:Value}(h:er v=.none):v=.none:=er_id rfl h
theorem er_ref{v:Value}{a:Addr}(h:er v=.ref a):v=.ref a:=er_id rfl h
theorem er_type{v:Value}{a:String}(h:er v=.type a):v=.type a:=er_id rfl h
theorem er_builtin{v:Value}{a:String}(h:er v=.builtin a):v=.builtin a:=er_id rfl h
inductive AO where
 | list (vs:List Value)
 | tuple (vs:List Value)
 | dict (kvs:List (Int × Value))
 | inst (C dx:Addr)
 | attrs (fs:List (Str × Value))
 | range (a b c:Int)
noncomputable abbrev AH:=Addr→Option AO
structure St where
 P:AH
 H:AH
noncomputable def St.at(σ:St)(a:Addr):Option AO:=(σ.H a).or (σ.P a)
noncomputable def St.put(σ:St)(a:Addr)(o:AO):St:=⟨σ.P,fun b=>if b=a then some o else σ.H b⟩
noncomputable def St.newP(σ:St)(a:Addr)(o:AO):St:=⟨fun b=>if b=a then some o else σ.P b,σ.H⟩
noncomputable def entOf(e:DictEntry):Option (Str × Value):=match e.key with
 | .str x _=>some (x,er e.val)
 | _=>none
structure Wd(KK:Params→Frag) where
 prog:Program
 w:World
 h0:Heap
 os0:OsState
 mg:Str→Option Value
 mb:Str→Option Value
 hK:(KK w.params).In h0
 hlim:h0.NoLimit
 hg:h0.Ns mainGlobals mg
 hb:h0.Ns builtinsNs mb
 hmb:∀ x:Str,x≠"__name__"→mb x=bootBuiltins x
variable {KK:Params→Frag}
noncomputable abbrev Wd.K(W:Wd KK):Frag:=KK W.w.params
noncomputable abbrev Wd.M(W:Wd KK):Model:=model W.prog W.w
noncomputable def AbsAt(W:Wd KK)(h:Heap)(a:Addr):AO→Prop
 | .list vs=>∃ n items,h.get? a=some { cls:=.type "list",data:=.seq items n }∧items.toList.map er=vs
 | .tuple vs=>∃ n items,h.get? a=some { cls:=.type "tuple",data:=.seq items n }∧items.toList.map er=vs
 | .dict kvs=>a≠sysModules∧∃ kvs',h.DictOf (intKind W.prog W.w) a kvs'∧kvs'.map (fun p=>(p.1,er p.2))=kvs
 | .inst C dx=>h.get? a=some (instObj C dx)
 | .attrs fs=>∃ o es ep,h.get? a=some o∧o.data=.dict es ep∧es.toList.map entOf=fs.map some
 | .range x y z=>∃ t u v,IsRange h a x y z t u v
theorem AbsAt.of_get{W:Wd KK}{h h':Heap}{a:Addr}{o:AO}(e:∀ b,h.get? a=some b→h'.get? a=some b)(x:AbsAt W h a o):AbsAt W h' a o:=by
 cases o with
 | list vs=>obtain ⟨n,items,h1,r⟩:=x; exact ⟨n,items,e _ h1,r⟩
 | tuple vs=>obtain ⟨n,items,h1,r⟩:=x; exact ⟨n,items,e _ h1,r⟩
 | dict f=>obtain ⟨h0,kvs,h1,r⟩:=x; exact ⟨h0,kvs,h1.at e,r⟩
 | inst C dx=>exact e _ x
 | attrs fs=>obtain ⟨o,n,items,h1,r⟩:=x; exact ⟨o,n,items,e _ h1,r⟩
 | range a b c=>obtain ⟨t,u,v,x⟩:=x; exact ⟨t,u,v,e _ x⟩
structure Rel(W:Wd KK)(σ:St)(s:Shared):Prop where
 keep:∀ b o,W.h0.get? b=some o→s.heap.get? b=some o
 ats:∀ a o,σ.at a=some o→AbsAt W s.heap a o
 fresh:∀ a o,σ.H a=some o→W.h0.get? a=none
 disj:∀ a,σ.H a=none∨σ.P a=none
 os:s.os=W.os0
 gens:s.gens=#[]
theorem AbsAt.some{W:Wd KK}{h:Heap}{a:Addr}{o:AO}(x:AbsAt W h a o):∃ b,h.get? a=some b:=by
 cases o with
 | list vs=>obtain ⟨n,items,h1,r⟩:=x; exact ⟨_,h1⟩
 | tuple vs=>obtain ⟨n,items,h1,r⟩:=x; exact ⟨_,h1⟩
 | dict f=>obtain ⟨_,kvs,⟨o,es,ep,h1,_⟩,r⟩:=x; exact ⟨_,h1⟩
 | inst C dx=>exact ⟨_,x⟩
 | attrs fs=>obtain ⟨o,n,items,h1,r⟩:=x; exact ⟨_,h1⟩
 | range a b c=>obtain ⟨t,u,v,x⟩:=x; exact ⟨_,x⟩
structure Step(σ:St)(s:Shared)(σ':St)(s':Shared):Prop where
 alive:∀ b o,s.heap.get? b=some o→∃ o',s'.heap.get? b=some o'
 mono:∀ a o,σ.P a=some o→σ'.P a=some o
 keep:∀ b o,s.heap.get? b=some o→σ.H b=none→s'.heap.get? b=some o
 noH:∀ b o,s.heap.get? b=some o→σ.H b=none→σ'.H b=none
 noP:∀ b o,s.heap.get? b=some o→σ.H b=none→σ.P b=none→σ'.P b=none
theorem Step.refl(σ:St)(s:Shared):Step σ s σ s:=⟨fun _ o h=>⟨o,h⟩,fun _ _ h=>h,fun _ _ h _=>h,fun _ _ _ h=>h,fun _ _ _ _ h=>h⟩
theorem Step.trans{σ σ' σ'':St}{s s' s'':Shared}(x:Step σ s σ' s')(y:Step σ' s' σ'' s''):Step σ s σ'' s'' :=
 ⟨fun b o h=>let ⟨o',h'⟩:=x.alive b o h; y.alive b o' h',fun a o h=>y.mono _ _ (x.mono _ _ h),fun b o h n=>y.keep _ _ (x.keep _ _ h n) (x.noH _ _ h n),fun b o h n=>y.noH _ _ (x.keep _ _ h n) (x.noH _ _ h n),
 fun b o h n p=>y.noP _ _ (x.keep _ _ h n) (x.noH _ _ h n) (x.noP _ _ h n p)⟩
theorem Step.of_keeps{σ:St}{s s':Shared}(k:∀ b o,s.heap.get? b=some o→s'.heap.get? b=some o):Step σ s σ s' :=
 ⟨fun _ o h=>⟨o,k _ _ h⟩,fun _ _ h=>h,fun _ _ h _=>k _ _ h,fun _ _ _ h=>h,fun _ _ _ _ h=>h⟩
theorem Rel.of_keeps{W:Wd KK}{σ:St}{s s':Shared}(R:Rel W σ s)(k:∀ b o,s.heap.get? b=some o→s'.heap.get? b=some o)(ho:s'.os=s.os)(hg:s'.gens=s.gens):Rel W σ s' :=
 ⟨fun b o h=>k _ _ (R.keep _ _ h),fun a o h=>(R.ats a o h).of_get fun b e=>k _ _ e,R.fresh,R.disj,ho.trans R.os,hg.trans R.gens⟩
structure Ghost(σ σ':St):Prop where
 mono:∀ a o,σ.P a=some o→σ'.P a=some o
 sub:∀ a o,σ'.at a=some o→σ.at a=some o
 subH:∀ a o,σ'.H a=some o→σ.H a=some o
 disj:(∀ a,σ.H a=none∨σ.P a=none)→∀ a,σ'.H a=none∨σ'.P a=none
theorem Ghost.refl(σ:St):Ghost σ σ:=⟨fun _ _ h=>h,fun _ _ h=>h,fun _ _ h=>h,fun h=>h⟩
theorem Ghost.trans{σ σ' σ'':St}(x:Ghost σ σ')(y:Ghost σ' σ''):Ghost σ σ'' :=
 ⟨fun a o h=>y.mono _ _ (x.mono _ _ h),fun a o h=>x.sub _ _ (y.sub _ _ h),fun a o h=>x.subH _ _ (y.subH _ _ h),fun h=>y.disj (x.disj h)⟩
theorem Rel.ghost{W:Wd KK}{σ σ':St}{s:Shared}(R:Rel W σ s)(g:Ghost σ σ'):Rel W σ' s :=
 ⟨R.keep,fun a o h=>R.ats a o (g.sub a o h),fun a o h=>R.fresh a o (g.subH a o h),g.disj R.disj,R.os,R.gens⟩
theorem none_of{α:Type}{x:Option α}(h:∀ a,x≠some a):x=none:=by cases x with | none=>rfl | some a=>exact absurd rfl (h a)
theorem Step.ghost{σ σ':St}{s:Shared}(g:Ghost σ σ'):Step σ s σ' s where
 alive:=fun _ o h=>⟨o,h⟩
 mono:=g.mono
 keep:=fun _ _ h _=>h
 noH:=fun b o h n=>none_of fun o' e=>by rw [g.subH b o' e] at n; cases n
 noP:=fun b o h n p=>none_of fun o' e=>by
  have:∃ y,σ'.at b=some y:=by
   unfold St.at
   cases σ'.H b with
   | none=>exact ⟨o',by simpa using e⟩
   | some y=>exact ⟨y,by simp⟩
  obtain ⟨y,hy⟩:=this
  have:=g.sub b y hy
  unfold St.at at this; rw [n,p] at this; cases this
structure Room(n:Nat)(A:Around):Prop where
 handled:A.handled=none
 depth:A.depth+4 * n≤800
 units:A.units+60 * n≤8000
theorem Room.mono{n k:Nat}{A:Around}(h:Room n A)(hk:k≤n):Room k A:=⟨h.handled,by have:=h.depth; exact lin [] [_,_,_] [65556,450467722527154724] 28154102391415268 75830851 rfl hk this,by have:=h.units; exact lin [] [_,_,_] [65556,36029674443335967316] 2251867997499204116 264158776143942 rfl hk this⟩
theorem Room.deeper{n:Nat}{A:Around}(h:Room (n+1) A)(env:Env):Room n (A.deeper env):=⟨h.handled,by have:=h.depth; simp only [Around.deeper]; exact lin [] [_,_] [922566896750231069396] 922557895769703588564 149058 rfl this,by have:=h.units; simp only [Around.deeper]; exact lin [] [_,_] [73788813840315421074180] 147577546520212737139476 149058 rfl this⟩
theorem Room.limit{n:Nat}{A:Around}(h:Room n A):A.depth < recursionLimit:=by have:=h.depth; simp only [recursionLimit]; exact lin [] [_,_] [28154232649589220] 65544213 2294871823619 rfl this
noncomputable abbrev Lm:=Str→Option Value
noncomputable def CellAt(h:Heap)(c:Addr)(v:Value):Prop:=∃ o v',h.get? c=some o∧o.data=.cell (some v')∧er v'=v
structure FrameOK(W:Wd KK)(env:Env)(m:Lm)(σ:St)(s:Shared):Prop where
 kind:env.scope.kind=.function
 globals:env.globals=mainGlobals
 builtins:env.builtins=builtinsNs
 plain:interactive env=false
 ns:∃ mr,s.heap.Ns env.locals mr∧∀ x v,env.kindOf x=some .local→m x=some v→∃ v',mr x=some v'∧er v'=v
 noH:σ.H env.locals=none
 noP:σ.P env.locals=none
 fresh:W.h0.get? env.locals=none
 kinds:∀ x v,m x=some v→env.kindOf x=some .local∨(env.kindOf x=some .cell∨env.kindOf x=some .free)∧∃ c,env.cells.lookup x=some c∧CellAt s.heap c v
 cells:∀ x c,env.cells.lookup x=some c→σ.H c=none∧σ.P c=none∧W.h0.get? c=none∧c≠env.locals∧∃ o v,s.heap.get? c=some o∧o.data=.cell v
 inj:∀ x y c,env.cells.lookup x=some c→env.cells.lookup y=some c→x=y
 hasCell:∀ x,env.kindOf x=some .cell∨env.kindOf x=some .free→∃ c,env.cells.lookup x=some c
 noDebug:m "__debug__"=none
 noClassdict:m "__classdict__"=none
theorem FrameOK.step{W:Wd KK}{env:Env}{m:Lm}{σ σ':St}{s s':Shared}(F:FrameOK W env m σ s)(x:Step σ s σ' s'):FrameOK W env m σ' s':=by
 obtain ⟨mr,⟨o,es,ep,hL,hr⟩,hm⟩:=F.ns
 refine ⟨F.kind,F.globals,F.builtins,F.plain,⟨mr,⟨o,es,ep,x.keep _ _ hL F.noH,hr⟩,hm⟩,x.noH _ _ hL F.noH,x.noP _ _ hL F.noH F.noP,F.fresh,fun y v e=>?_,fun y c e=>?_,F.inj,F.hasCell,F.noDebug,F.noClassdict⟩
 ·rcases F.kinds y v e with h | ⟨h,c,hc,o',v',h1,h2,h3⟩
  ·exact .inl h
  ·exact .inr ⟨h,c,hc,o',v',x.keep _ _ h1 (F.cells _ _ hc).1,h2,h3⟩
 ·obtain ⟨h1,h2,h3,h4,o',v,h5,h6⟩:=F.cells y c e
  exact ⟨x.noH _ _ h5 h1,x.noP _ _ h5 h1 h2,h3,h4,o',v,x.keep _ _ h5 h1,h6⟩
noncomputable def Own(env:Env)(b:Addr):Prop:=b=env.locals∨∃ x,env.kindOf x=some .cell∧env.cells.lookup x=some b
structure StepB(own:Addr→Prop)(σ:St)(s:Shared)(σ':St)(s':Shared):Prop where
 alive:∀ b o,s.heap.get? b=some o→∃ o',s'.heap.get? b=some o'
 mono:∀ a o,σ.P a=some o→σ'.P a=some o
 keep:∀ b o,s.heap.get? b=some o→σ.H b=none→¬ own b→s'.heap.get? b=some o
 noH:∀ b o,s.heap.get? b=some o→σ.H b=none→¬ own b→σ'.H b=none
 noP:∀ b o,s.heap.get? b=some o→σ.H b=none→σ.P b=none→¬ own b→σ'.P b=none
theorem Step.toB{own:Addr→Prop}{σ σ':St}{s s':Shared}(x:Step σ s σ' s'):StepB own σ s σ' s' :=
 ⟨x.alive,x.mono,fun b o h n _=>x.keep b o h n,fun b o h n _=>x.noH b o h n,fun b o h n p _=>x.noP b o h n p⟩
theorem StepB.trans{own:Addr→Prop}{σ σ' σ'':St}{s s' s'':Shared}(x:StepB own σ s σ' s')(y:StepB own σ' s' σ'' s''):StepB own σ s σ'' s'' :=
 ⟨fun b o h=>let ⟨o',h'⟩:=x.alive b o h; y.alive b o' h',fun a o h=>y.mono _ _ (x.mono _ _ h),fun b o h n w=>y.keep _ _ (x.keep _ _ h n w) (x.noH _ _ h n w) w,fun b o h n w=>y.noH _ _ (x.keep _ _ h n w) (x.noH _ _ h n w) w,
 fun b o h n p w=>y.noP _ _ (x.keep _ _ h n w) (x.noH _ _ h n w) (x.noP _ _ h n p w) w⟩
theorem StepB.refl(own:Addr→Prop)(σ:St)(s:Shared):StepB own σ s σ s:=(Step.refl σ s).toB
noncomputable abbrev noE:Value→Shared→Prop:=fun _ _=>False
section
variable {α β:Type}
inductive PE(W:Wd KK)(Q:α→St→Prop)(σ:St)(s:Shared)(v:α)(s':Shared):Prop
 | mk (σ':St) (R:Rel W σ' s') (S:Step σ s σ' s') (q:Q v σ')
inductive PS(own:Addr→Prop)(W:Wd KK)(env:Env)(Q:α→Lm→St→Prop)(σ:St)(s:Shared)(v:α)(s':Shared):Prop
 | mk (m':Lm) (σ':St) (R:Rel W σ' s') (F:FrameOK W env m' σ' s') (S:StepB own σ s σ' s') (q:Q v m' σ')
noncomputable def TrE(W:Wd KK)(n:Nat)(env:Env)(m:Lm)(t:Sem α)(Q:α→St→Prop)(σ:St):Prop :=
 ∀ A s,Room n A→Rel W σ s→FrameOK W env m σ s→wpAny W.M A t (PE W Q σ s) noE s
noncomputable def Tr(W:Wd KK)(n:Nat)(t:Sem α)(Q:α→St→Prop)(σ:St):Prop :=
 ∀ A s,Room n A→Rel W σ s→wpAny W.M A t (PE W Q σ s) noE s
noncomputable def TrSo(own:Addr→Prop)(W:Wd KK)(n:Nat)(env:Env)(m:Lm)(t:Sem α)(Q:α→Lm→St→Prop)(σ:St):Prop :=
 ∀ A s,Room n A→Rel W σ s→FrameOK W env m σ s→wpAny W.M A t (PS own W env Q σ s) noE s
noncomputable abbrev TrS(W:Wd KK)(n:Nat)(env:Env)(m:Lm)(t:Sem α)(Q:α→Lm→St→Prop)(σ:St):Prop:=TrSo (Own env) W n env m t Q σ
variable {W:Wd KK}{n:Nat}{env:Env}{m:Lm}{σ:St}{t:Sem α}{Q:α→St→Prop}{own:Addr→Prop}
theorem Tr.toE(h:Tr W n t Q σ):TrE W n env m t Q σ:=fun A s r R _=>h A s r R
theorem ex2{α:Sort _}{p q:α→Prop}{c:Prop}(h:∃ x,p x∧q x)(k:∀ x,p x→q x→c):c:=h.elim fun x h=>k x h.1 h.2
theorem wpE{s:Shared}{A:_}{R:α→Shared→Prop}{E:Value→Shared→Prop}(h:wpAny W.M A t (PE W Q σ s) noE s)(k:∀ v s' σ',Rel W σ' s'→Step σ s σ' s'→Q v σ'→R v s'):wpAny W.M A t R E s :=
 wpAny_mono h (fun v s' q=>q.casesOn fun σ' a b c=>k v s' σ' a b c) fun _ _ e=>e.elim
theorem wpS{s:Shared}{A:_}{Q:α→Lm→St→Prop}{R:α→Shared→Prop}{E:Value→Shared→Prop}(h:wpAny W.M A t (PS own W env Q σ s) noE s)(k:∀ v s' m' σ',Rel W σ' s'→FrameOK W env m' σ' s'→StepB own σ s σ' s'→Q v m' σ'→R v s'):wpAny W.M A t R E s :=
 wpAny_mono h (fun v s' q=>q.casesOn fun m' σ' a f b c=>k v s' m' σ' a f b c) fun _ _ e=>e.elim
theorem TrE.toS{Q:α→Lm→St→Prop}(h:TrE W n env m t (fun v=>Q v m) σ):TrSo own W n env m t Q σ:=fun A s r R F =>
 wpE (h A s r R F) (fun v s' σ' a b c=>⟨m,σ',a,F.step b,b.toB,c⟩)
theorem TrE.bind{k:α→Sem β}{Q:β→St→Prop}(h:TrE W n env m t (fun v σ'=>TrE W n env m (k v) Q σ') σ):TrE W n env m (t >>= k) Q σ:=fun A s r R F =>
 wpAny_bind (wpE (h A s r R F) (fun v s' σ' a b c=>wpE (c A s' r a (F.step b)) (fun v' s'' σ'' a' b' c'=>⟨σ'',a',b.trans b',c'⟩)))
theorem TrE.pure{a:α}(h:Q a σ):TrE W n env m (pure a) Q σ:=fun A s r R F=>wpAny_pure ⟨σ,R,.refl _ _,h⟩
theorem TrE.mono{Q':α→St→Prop}(h:TrE W n env m t Q σ)(k:∀ v σ',Q v σ'→Q' v σ'):TrE W n env m t Q' σ:=fun A s r R F =>
 wpE (h A s r R F) (fun v s' σ' a b c=>⟨σ',a,b,k _ _ c⟩)
theorem TrE.holding{vs:List Value}(h:TrE W n env m t Q σ):TrE W n env m (holding vs t) Q σ:=fun A s r R F=>wpAny_holding (h A s r R F)
theorem TrE.standAt{pos:Pos}{Q:Unit→St→Prop}(h:Q () σ):TrE W n env m (standAt pos) Q σ:=fun A s r R F=>wpAny_standAt ⟨σ,R,.refl _ _,h⟩
theorem TrS.bind{k:α→Sem β}{Q:β→Lm→St→Prop}(h:TrSo own W n env m t (fun v m' σ'=>TrSo own W n env m' (k v) Q σ') σ):TrSo own W n env m (t >>= k) Q σ:=fun A s r R F =>
 wpAny_bind (wpS (h A s r R F) (fun v s' m' σ' a f b c=>wpS (c A s' r a f) (fun v' s'' m'' σ'' a' f' b' c'=>⟨m'',σ'',a',f',b.trans b',c'⟩)))
theorem TrS.pure{a:α}{Q:α→Lm→St→Prop}(h:Q a m σ):TrSo own W n env m (pure a) Q σ:=fun A s r R F=>wpAny_pure ⟨m,σ,R,F,.refl _ _ _,h⟩
theorem TrS.mono{Q Q':α→Lm→St→Prop}(h:TrSo own W n env m t Q σ)(k:∀ v m' σ',Q v m' σ'→Q' v m' σ'):TrSo own W n env m t Q' σ:=fun A s r R F =>
 wpS (h A s r R F) (fun v s' m' σ' a f b c=>⟨m',σ',a,f,b,k _ _ _ c⟩)
theorem TrS.holding{vs:List Value}{Q:α→Lm→St→Prop}(h:TrSo own W n env m t Q σ):TrSo own W n env m (holding vs t) Q σ:=fun A s r R F=>wpAny_holding (h A s r R F)
theorem TrS.standAt{pos:Pos}{Q:Unit→Lm→St→Prop}(h:Q () m σ):TrSo own W n env m (standAt pos) Q σ:=TrE.toS (TrE.standAt h)
theorem Tr.mono{Q':α→St→Prop}(h:Tr W n t Q σ)(k:∀ v σ',Q v σ'→Q' v σ'):Tr W n t Q' σ:=fun A s r R =>
 wpE (h A s r R) (fun v s' σ' a b c=>⟨σ',a,b,k _ _ c⟩)
theorem Tr.ghost{σ':St}(g:Ghost σ σ')(h:Tr W n t Q σ'):Tr W n t Q σ:=fun A s r R =>
 wpE (h A s r (R.ghost g)) (fun v s' σ' a b c=>⟨σ',a,(Step.ghost g).trans b,c⟩)
end
end
section
variable {KK:Params→Frag}{W:Wd KK}{n:Nat}{env:Env}{m:Lm}{σ:St}
theorem St.at_put_self(σ:St)(a:Addr)(o:AO):(σ.put a o).at a=some o:=by simp [St.at,St.put]
theorem St.at_put_ne{σ:St}{a b:Addr}(o:AO)(h:b≠a):(σ.put a o).at b=σ.at b:=by simp [St.at,St.put,h]
theorem St.at_newP_self{σ:St}{a:Addr}(o:AO)(h:σ.at a=none):(σ.newP a o).at a=some o:=by
 have:σ.H a=none:=by unfold St.at at h; cases q:σ.H a with | none=>rfl | some y=>rw [q] at h; cases h
 simp [St.at,St.newP,this]
theorem St.at_newP_ne{σ:St}{a b:Addr}(o:AO)(h:b≠a):(σ.newP a o).at b=σ.at b:=by simp [St.at,St.newP,h]
theorem St.H_none{σ:St}{a:Addr}(h:σ.at a=none):σ.H a=none:=by
 unfold St.at at h; cases q:σ.H a with | none=>rfl | some y=>rw [q] at h; cases h
theorem St.P_none{σ:St}{a:Addr}(h:σ.at a=none):σ.P a=none:=by
 have:=St.H_none h; unfold St.at at h; rw [this] at h; exact h
theorem St.at_of_H{σ:St}{a:Addr}{o:AO}(h:σ.H a=some o):σ.at a=some o:=by simp [St.at,h]
theorem St.at_of_none{σ:St}{a:Addr}(h:σ.H a=none)(h':σ.P a=none):σ.at a=none:=by simp [St.at,h,h']
theorem Rel.unknown{s:Shared}{a:Addr}(R:Rel W σ s)(h:s.heap.get? a=none):σ.at a=none :=
 none_of fun o e=>by obtain ⟨b,hb⟩:=(R.ats a o e).some; rw [h] at hb; cases hb
theorem Rel.fresh0{s:Shared}{a:Addr}(R:Rel W σ s)(h:s.heap.get? a=none):W.h0.get? a=none :=
 none_of fun o e=>by have:=R.keep _ _ e; rw [h] at this; cases this
theorem Rel.putNew{s s':Shared}{a:Addr}{o:AO}(R:Rel W σ s)(hn:s.heap.get? a=none)(k:∀ b o,s.heap.get? b=some o→s'.heap.get? b=some o)
  (hat:AbsAt W s'.heap a o) (ho:s'.os=s.os) (hg:s'.gens=s.gens):σ.at a=none∧Rel W (σ.put a o) s'∧Step σ s (σ.put a o) s':=by
 have hu:=R.unknown hn
 refine ⟨hu,⟨fun b o h=>k _ _ (R.keep _ _ h),fun b ob h=>?_,fun b ob h=>?_,fun b=>?_,ho.trans R.os,hg.trans R.gens⟩,⟨fun b o h=>⟨o,k _ _ h⟩,fun _ _ h=>h,fun b o h _=>k _ _ h,fun b o h n=>?_,fun b o h n p=>p⟩⟩
 ·by_cases q:b=a
  ·subst q; rw [St.at_put_self] at h; cases h; exact hat
  ·rw [St.at_put_ne _ q] at h; exact (R.ats _ _ h).of_get fun b e=>k _ _ e
 ·by_cases q:b=a
  ·subst q; exact R.fresh0 hn
  ·exact R.fresh b ob (by simpa [St.put,q] using h)
 ·by_cases q:b=a
  ·subst q; exact .inr (show σ.P b=none from St.P_none hu)
  ·have:=R.disj b; simpa [St.put,q] using this
 ·have:b≠a:=fun q=>by rw [q,hn] at h; cases h
  simpa [St.put,this] using n
theorem Rel.putP{s s':Shared}{a:Addr}{o:AO}(R:Rel W σ s)(hn:s.heap.get? a=none)(k:∀ b o,s.heap.get? b=some o→s'.heap.get? b=some o)
  (hat:AbsAt W s'.heap a o) (ho:s'.os=s.os) (hg:s'.gens=s.gens):σ.at a=none∧Rel W (σ.newP a o) s'∧Step σ s (σ.newP a o) s':=by
 have hu:=R.unknown hn
 refine ⟨hu,⟨fun b o h=>k _ _ (R.keep _ _ h),fun b ob h=>?_,fun b ob h=>?_,fun b=>?_,ho.trans R.os,hg.trans R.gens⟩,⟨fun b o h=>⟨o,k _ _ h⟩,fun b ob h=>?_,fun b o h _=>k _ _ h,fun b o h n=>n,fun b o h n p=>?_⟩⟩
 ·by_cases q:b=a
  ·subst q; rw [St.at_newP_self _ hu] at h; cases h; exact hat
  ·rw [St.at_newP_ne _ q] at h; exact (R.ats _ _ h).of_get fun b e=>k _ _ e
 ·exact R.fresh b ob h
 ·by_cases q:b=a
  ·subst q; exact .inl (show σ.H b=none from St.H_none hu)
  ·have:=R.disj b; simpa [St.newP,q] using this
 ·have:b≠a:=fun q=>by rw [q,St.P_none hu] at h; cases h
  simpa [St.newP,this] using h
 ·have:b≠a:=fun q=>by rw [q,hn] at h; cases h
  simpa [St.newP,this] using p
theorem Rel.putUpd{s s':Shared}{a:Addr}{o o':AO}(R:Rel W σ s)(hH:σ.H a=some o)(hs:∀ b,b≠a→s'.heap.get? b=s.heap.get? b)
  (hat:AbsAt W s'.heap a o') (ho:s'.os=s.os) (hg:s'.gens=s.gens):Rel W (σ.put a o') s'∧Step σ s (σ.put a o') s':=by
 have hf:=R.fresh a o hH
 refine ⟨⟨fun b ob h=>?_,fun b ob h=>?_,fun b ob h=>?_,fun b=>?_,ho.trans R.os,hg.trans R.gens⟩,⟨fun b ob h=>?_,fun _ _ h=>h,fun b ob h n=>?_,fun b ob h n=>?_,fun b o h n p=>p⟩⟩
 ·have:b≠a:=fun q=>by rw [q,hf] at h; cases h
  rw [hs b this]; exact R.keep _ _ h
 ·by_cases q:b=a
  ·subst q; rw [St.at_put_self] at h; cases h; exact hat
  ·rw [St.at_put_ne _ q] at h; exact (R.ats _ _ h).of_get fun c e=>by rw [hs b q]; exact e
 ·by_cases q:b=a
  ·subst q; exact hf
  ·exact R.fresh b ob (by simpa [St.put,q] using h)
 ·by_cases q:b=a
  ·subst q
   have:=R.disj b; rw [hH] at this; exact .inr (this.resolve_left (by intro h; cases h))
  ·have:=R.disj b; simpa [St.put,q] using this
 ·by_cases q:b=a
  ·subst q; exact hat.some
  ·exact ⟨ob,(hs b q).trans h⟩
 ·have:b≠a:=fun q=>by rw [q,hH] at n; cases n
  rw [hs b this]; exact h
 ·have:b≠a:=fun q=>by rw [q,hH] at n; cases n
  simpa [St.put,this] using n
theorem push_none(h:Heap):h.get? h.objs.size=none:=by
 cases q:h.get? h.objs.size with
 | none=>rfl
 | some o=>exact absurd (Heap.lt_size q) (Nat.lt_irrefl _)
theorem push_keeps(h:Heap)(o:Obj):∀ b ob,h.get? b=some ob→(h.push o).get? b=some ob:=fun _ _ e=>Heap.get?_push_of_some _ e
section names
variable {x:Str}{v:Value}{pos:Pos}{Q:Value→St→Prop}
theorem ld_loc(hx:m x=some v)(h:Q v σ):TrE W n env m (loadName env x) (fun v σ'=>Q (er v) σ') σ:=fun A s r R F=>by
 have hc:(x==("__classdict__":Str))=false:=by
  rw [beq_eq_false_iff_ne]; intro e; rw [e,F.noClassdict] at hx; cases hx
 rcases F.kinds x v hx with hk | ⟨hk,c,hcl,o,v',h1,h2,h3⟩
 ·obtain ⟨mr,hns,hm⟩:=F.ns
  obtain ⟨v',e1,e2⟩:=hm x v hk hx
  exact wpAny_loadName_local F.kind hk hns e1 ⟨σ,R,.refl _ _,by show Q (er _) _; rw [e2]; exact h⟩
 ·rcases hk with hk | hk
  ·exact wpAny_loadName_cell F.kind hk hcl ⟨o,h1,h2⟩ ⟨σ,R,.refl _ _,by show Q (er _) _; rw [h3]; exact h⟩
  ·exact wpAny_loadName_free F.kind hk hcl ⟨o,h1,h2⟩ ⟨σ,R,.refl _ _,by show Q (er _) _; rw [h3]; exact h⟩ hc
theorem ev_loc(hx:m x=some v)(h:Q v σ):TrE W n env m (eval (.Name x pos) env) (fun v σ'=>Q (er v) σ') σ:=fun A s r R F=>by
 have hd:(x==("__debug__":Str))=false:=by
  rw [beq_eq_false_iff_ne]; intro e; rw [e,F.noDebug] at hx; cases hx
 exact wpAny_Name (ld_loc hx h A s r R F) hd
noncomputable def globIn(K:Frag)(x:Str):Option Value:=match nsIn K mainGlobals x with
 | some (some v)=>some (er v)
 | some none=>if x="__name__" then none else (bootBuiltins x).map er
 | none=>none
theorem ns_of_in{K:Frag}{h:Heap}{mg:Str→Option Value}{x:Str}{r:Option Value}(X:K.In h)(G:h.Ns mainGlobals mg)(e:nsIn K mainGlobals x=some r):mg x=r:=by
 cases r with
 | none=>exact ns_none_of X G e
 | some v=>exact mg_of X G e
theorem ev_glob(hk:env.kindOf x=some .globalImplicit)(hg:globIn W.K x=some v)(hd:(x==("__debug__":Str))=false) (h:Q v σ) :
  TrE W n env m (eval (.Name x pos) env) (fun v σ'=>Q (er v) σ') σ:=fun A s r R F=>by
 have G:s.heap.Ns env.globals W.mg:=F.globals▸W.hg.keeps R.keep
 have B:s.heap.Ns env.builtins W.mb:=F.builtins▸W.hb.keeps R.keep
 unfold globIn at hg
 split at hg
 ·rename_i v' e
  cases hg
  exact Name_function_global F.kind hk (loadGlobal_global G (ns_of_in W.hK W.hg e) ⟨σ,R,.refl _ _,h⟩) hd
 ·rename_i e
  split at hg
  ·cases hg
  ·rename_i hne
   obtain ⟨v',e',rfl⟩:=Option.map_eq_some_iff.mp hg
   exact Name_function_global F.kind hk (loadGlobal_builtin G (ns_of_in W.hK W.hg e) B ((W.hmb x hne).trans e') ⟨σ,R,.refl _ _,h⟩) hd
 ·cases hg
theorem st_name{own:Addr→Prop}{Q:Unit→Lm→St→Prop}(ho:own env.locals∧(env.kindOf x=some .cell→∀ c,env.cells.lookup x=some c→own c))(hk:env.kindOf x=some .local∨env.kindOf x=some .cell)(hd:x≠"__debug__") (hcd:x≠"__classdict__")
  (h:Q () (fun y=>if y=x then some (er v) else m y) σ):TrSo own W n env m (storeName env x v) Q σ:=fun A s r R F=>by
 obtain ⟨mr,hns,hm⟩:=F.ns
 have hLR:∀ o,σ.at env.locals=some o→False:=fun o e=>by
  unfold St.at at e; rw [F.noH,F.noP] at e; cases e
 rcases hk with hk | hk
 ·refine wpAny_storeName_local hk hns (fun h' hn hs=>?_) (by
   have:=F.kind; show (env.scope.kind==.class||(env.scope.kind==.module&&_))=false; rw [this]; rfl)
  have hat:∀ a o,σ.at a=some o→a≠env.locals:=fun a o e q=>hLR o (q▸e)
  refine ⟨_,σ,⟨fun b o e=>?_,fun a o e=>?_,R.fresh,R.disj,R.os,R.gens⟩,?_,⟨fun b o e=>?_,fun _ _ e=>e,fun b o e n w=>?_,fun b o e n w=>n,fun b o e n p w=>p⟩,h⟩
  ·have:b≠env.locals:=fun q=>by rw [q,F.fresh] at e; cases e
   exact (hs.2 b this).trans (R.keep _ _ e)
  ·exact (R.ats a o e).of_get fun b e'=>(hs.2 a (hat a o e)).trans e'
  ·refine ⟨F.kind,F.globals,F.builtins,F.plain,⟨_,hn,fun y u hy hu=>?_⟩,F.noH,F.noP,F.fresh,fun y u hu=>?_,fun y c e=>?_,F.inj,F.hasCell,?_,?_⟩
   ·skip
    by_cases q:y=x
    ·rw [if_pos q] at hu ⊢; cases hu; exact ⟨v,rfl,rfl⟩
    ·rw [if_neg q] at hu ⊢; exact hm y u hy hu
   ·skip
    by_cases q:y=x
    ·exact .inl (q▸hk)
    ·rw [if_neg q] at hu
     rcases F.kinds y u hu with h1 | ⟨h1,c,h2,o,v',h3,h4,h5⟩
     ·exact .inl h1
     ·exact .inr ⟨h1,c,h2,o,v',(hs.2 c (F.cells _ _ h2).2.2.2.1).trans h3,h4,h5⟩
   ·obtain ⟨a1,a2,a3,a4,o,v',a5,a6⟩:=F.cells y c e
    exact ⟨a1,a2,a3,a4,o,v',(hs.2 c a4).trans a5,a6⟩
   ·rw [if_neg (Ne.symm hd)]; exact F.noDebug
   ·rw [if_neg (Ne.symm hcd)]; exact F.noClassdict
  ·by_cases q:b=env.locals
   ·rw [q]; obtain ⟨o,_,_,ho,_⟩:=hn; exact ⟨o,ho⟩
   ·exact ⟨o,(hs.2 b q).trans e⟩
  ·exact (hs.2 b (fun q=>w (q▸ho.1))).trans e
 ·obtain ⟨c,hc⟩:=F.hasCell x (.inl hk)
  obtain ⟨a1,a2,a3,a4,o,v0,a5,a6⟩:=F.cells x c hc
  refine wpAny_storeName_cell F.kind hk hc ⟨o,a5,a6⟩ fun h' hn hs=>?_
  obtain ⟨o',ho',hd'⟩:=hn
  have hcR:∀ o,σ.at c=some o→False:=fun o e=>by unfold St.at at e; rw [a1,a2] at e; cases e
  have hat:∀ a o,σ.at a=some o→a≠c:=fun a o e q=>hcR o (q▸e)
  refine ⟨_,σ,⟨fun b o e=>?_,fun a o e=>?_,R.fresh,R.disj,R.os,R.gens⟩,?_,⟨fun b o e=>?_,fun _ _ e=>e,fun b o e n w=>?_,fun b o e n w=>n,fun b o e n p w=>p⟩,h⟩
  ·have:b≠c:=fun q=>by rw [q,a3] at e; cases e
   exact (hs.2 b this).trans (R.keep _ _ e)
  ·exact (R.ats a o e).of_get fun b e'=>(hs.2 a (hat a o e)).trans e'
  ·refine ⟨F.kind,F.globals,F.builtins,F.plain,⟨mr,hns.sameBut hs (Ne.symm a4),fun y u hy hu=>?_⟩,F.noH,F.noP,F.fresh,fun y u hu=>?_,fun y d e=>?_,F.inj,F.hasCell,?_,?_⟩
   ·skip
    by_cases q:y=x
    ·rw [q,hk] at hy; cases hy
    ·rw [if_neg q] at hu; exact hm y u hy hu
   ·skip
    by_cases q:y=x
    ·rw [if_pos q] at hu; cases hu
     exact .inr ⟨.inl (q▸hk),c,q▸hc,o',v,ho',hd',rfl⟩
    ·rw [if_neg q] at hu
     rcases F.kinds y u hu with h1 | ⟨h1,d,h2,o2,v',h3,h4,h5⟩
     ·exact .inl h1
     ·have:d≠c:=fun z=>q (F.inj y x c (z▸h2) hc)
      exact .inr ⟨h1,d,h2,o2,v',(hs.2 d this).trans h3,h4,h5⟩
   ·obtain ⟨b1,b2,b3,b4,o2,v',b5,b6⟩:=F.cells y d e
    by_cases q:d=c
    ·subst q; exact ⟨b1,b2,b3,b4,o',_,ho',hd'⟩
    ·exact ⟨b1,b2,b3,b4,o2,v',(hs.2 d q).trans b5,b6⟩
   ·rw [if_neg (Ne.symm hd)]; exact F.noDebug
   ·rw [if_neg (Ne.symm hcd)]; exact F.noClassdict
  ·by_cases q:b=c
   ·rw [q]; exact ⟨_,ho'⟩
   ·exact ⟨o,(hs.2 b q).trans e⟩
  ·exact (hs.2 b (fun q=>w (q▸ho.2 hk c hc))).trans e
theorem own_name(env:Env)(x:Str):Own env env.locals∧(env.kindOf x=some .cell→∀ c,env.cells.lookup x=some c→Own env c):=⟨.inl rfl,fun hk c hc=>.inr ⟨x,hk,hc⟩⟩
end names
end
section
variable {KK:Params→Frag}{W:Wd KK}{n:Nat}{env:Env}{m:Lm}{σ:St}
theorem Rel.toks{s:Shared}(R:Rel W σ s)(t:Nat):Rel W σ { s with toks:=t }:=R.of_keeps (fun _ _ e=>e) rfl rfl
theorem Step.toks(σ:St)(s:Shared)(t:Nat):Step σ s σ { s with toks:=t }:=.of_keeps fun _ _ e=>e
section S1
variable {a b:Value}{i j:Int}{Q:Value→St→Prop}
theorem op_add(ha:er a=.int i 0)(hb:er b=.int j 0)(h:Q (.int (i+j) 0) σ):Tr W n (binaryOp .Add a b) (fun v σ'=>Q (er v) σ') σ:=fun A s r R=>by
 obtain ⟨t,rfl⟩:=er_int ha; obtain ⟨u,rfl⟩:=er_int hb
 exact add_int ⟨σ,R.toks _,Step.toks _ _ _,h⟩
theorem op_sub(ha:er a=.int i 0)(hb:er b=.int j 0)(h:Q (.int (i-j) 0) σ):Tr W n (binaryOp .Sub a b) (fun v σ'=>Q (er v) σ') σ:=fun A s r R=>by
 obtain ⟨t,rfl⟩:=er_int ha; obtain ⟨u,rfl⟩:=er_int hb
 exact sub_int ⟨σ,R.toks _,Step.toks _ _ _,h⟩
theorem small_bits{i:Int}(h:i.natAbs < 2 ^ 64):Builtin.Int.intBits i≤64:=by
 unfold Builtin.Int.intBits
 split
 ·exact lin [] [] [] 8409124 449 rfl
 ·rename_i hz
  have:i.natAbs≠0:=by simpa using hz
  have:=(Nat.log2_lt this).mpr h
  exact lin [] [_] [4202517] 137858425092 149058 rfl this
theorem op_mul(ha:er a=.int i 0)(hb:er b=.int j 0)(hs:i.natAbs < 2 ^ 64∨j.natAbs < 2 ^ 64)(h:Q (.int (i * j) 0) σ):Tr W n (binaryOp .Mult a b) (fun v σ'=>Q (er v) σ') σ:=fun A s r R=>by
 obtain ⟨t,rfl⟩:=er_int ha; obtain ⟨u,rfl⟩:=er_int hb
 exact mul_int ⟨σ,R.toks _,Step.toks _ _ _,h⟩ (hs.elim (fun q=>.of_left (small_bits q)) fun q=>.of_right (small_bits q))
theorem small_div{i j:Int}(h:j.natAbs < 2 ^ 64):Builtin.divisionGoesByPylong i j=false:=by
 unfold Builtin.divisionGoesByPylong
 have:¬ ((if (j==0)=true then 0 else j.natAbs.log2 / 30+1) > 300):=by
  split
  ·exact fun z0=>lin [] [] [26611909] 0 449 rfl z0
  ·rename_i hz
   have hz':j.natAbs≠0:=by simpa using hz
   have:=(Nat.log2_lt hz').mpr h
   omega
 simp only [decide_eq_false this,Bool.false_and]
theorem op_fdiv(ha:er a=.int i 0)(hb:er b=.int j 0)(h0:0 < j)(hj:j < 2 ^ 64)(h:Q (.int (i / j) 0) σ):Tr W n (binaryOp .FloorDiv a b) (fun v σ'=>Q (er v) σ') σ:=fun A s r R=>by
 obtain ⟨t,rfl⟩:=er_int ha; obtain ⟨u,rfl⟩:=er_int hb
 refine floordiv_int (by exact fun z0=>lin [_] [] [4130,8211] 0 149058 rfl h0 z0) ⟨σ,R.toks _,Step.toks _ _ _,?_⟩ (.inl (small_div (by omega)))
 rw [Int.fdiv_eq_ediv_of_nonneg _ (by exact lin [_] [] [4130] 4129 149058 rfl h0)]; exact h
theorem op_mod(ha:er a=.int i 0)(hb:er b=.int j 0)(h0:0 < j)(h:Q (.int (i%j) 0) σ):Tr W n (binaryOp .Mod a b) (fun v σ'=>Q (er v) σ') σ:=fun A s r R=>by
 obtain ⟨t,rfl⟩:=er_int ha; obtain ⟨u,rfl⟩:=er_int hb
 refine mod_int' (by exact fun z0=>lin [_] [] [4130,8211] 0 149058 rfl h0 z0) ⟨σ,R.toks _,Step.toks _ _ _,?_⟩
 rw [Int.fmod_eq_emod_of_nonneg _ (by exact lin [_] [] [4130] 4129 149058 rfl h0)]; exact h
theorem op_neg(ha:er a=.int i 0)(h:Q (.int (-i) 0) σ):Tr W n (unaryOp .USub a) (fun v σ'=>Q (er v) σ') σ:=fun A s r R=>by
 obtain ⟨t,rfl⟩:=er_int ha
 exact neg_int ⟨σ,R.toks _,Step.toks _ _ _,h⟩
theorem op_strcat{x y:Str}(ha:er a=.str x 0)(hb:er b=.str y 0)(hs:x.length+y.length≤sizeLine)(h:Q (.str (x++y) 0) σ):Tr W n (binaryOp .Add a b) (fun v σ'=>Q (er v) σ') σ:=fun A s r R=>by
 obtain ⟨t,rfl⟩:=er_str ha; obtain ⟨u,rfl⟩:=er_str hb
 exact add_str (fun t' tk=>⟨σ,R.toks _,Step.toks _ _ _,h⟩) hs
noncomputable def cmpI:CmpOp→Int→Int→Option Bool
 | .Eq,i,j=>some (decide (i=j))
 | .NotEq,i,j=>some (decide (i≠j))
 | .Lt,i,j=>some (decide (i < j))
 | .LtE,i,j=>some (decide (i≤j))
 | .Gt,i,j=>some (decide (j < i))
 | .GtE,i,j=>some (decide (j≤i))
 | _,_,_=>none
theorem op_cmp{op:CmpOp}{r:Bool}(ha:er a=.int i 0)(hb:er b=.int j 0)(he:cmpI op i j=some r)(h:Q (.bool r) σ):Tr W n (compareOp op a b) (fun v σ'=>Q (er v) σ') σ:=fun A s rr R=>by
 obtain ⟨t,rfl⟩:=er_int ha; obtain ⟨u,rfl⟩:=er_int hb
 cases op <;> first | (cases show (none:Option Bool)=some r from he) | obtain rfl:=Option.some.inj he
 ·refine eq_int ⟨σ,R,.refl _ _,?_⟩; exact h
 ·refine ne_int ⟨σ,R,.refl _ _,?_⟩
  have:(i != j)=decide (i≠j):=by by_cases q:i=j <;> simp [q]
  show Q (.bool (i != j)) σ
  rw [this]; exact h
 ·exact lt_int ⟨σ,R,.refl _ _,h⟩
 ·exact le_int ⟨σ,R,.refl _ _,h⟩
 ·exact gt_int ⟨σ,R,.refl _ _,h⟩
 ·exact ge_int ⟨σ,R,.refl _ _,h⟩
theorem tr_truthy{b:Bool}{Q:Bool→St→Prop}(ha:er a=.bool b)(h:Q b σ):Tr W n (truthy a) Q σ:=fun A s r R=>by
 obtain rfl:=er_bool ha
 exact wpAny_truthy_bool ⟨σ,R,.refl _ _,h⟩
end S1
section S2
variable {x C dx:Addr}{fs:List (Str × Value)}{name:Str}{v:Value}
theorem ent_find{name:Str}:∀{es:List DictEntry}{fs:List (Str × Value)},es.map entOf=fs.map some →
  es.any (·.refKey)=false∧((es.find? (·.key.isStr name)).map fun e=>er e.val)=fs.lookup name
 | [],[],_=>⟨rfl,rfl⟩
 | [],_ :: _,h=>by cases h
 | _ :: _,[],h=>by cases h
 | e :: es,(y,u) :: fs,h=>by
  rw [List.map_cons,List.map_cons,List.cons.injEq] at h
  obtain ⟨h1,h2⟩:=h
  obtain ⟨i1,i2⟩:=ent_find (name:=name) h2
  unfold entOf at h1
  split at h1
  ·rename_i z t hz
   cases h1
   refine ⟨by rw [List.any_cons,i1,Bool.or_false]; unfold DictEntry.refKey; rw [hz],?_⟩
   rw [List.find?_cons,hz,List.lookup_cons]
   have q2:Value.isStr (Value.str y t) name=(name==y):=by
    show (y==name)=(name==y)
    by_cases q:y=name
    ·subst q; rfl
    ·rw [beq_eq_false_iff_ne.mpr q,beq_eq_false_iff_ne.mpr (Ne.symm q)]
   rw [q2]
   cases (name==y) with
   | true=>rfl
   | false=>exact i2
  ·cases h1
theorem lookIn_attrs{o:Obj}{es:Array DictEntry}{ep:Nat}(hd:o.data=.dict es ep)(he:es.toList.map entOf=fs.map some):
  ∃ r,lookIn name o=some r∧r.map er=fs.lookup name:=by
 obtain ⟨i1,i2⟩:=ent_find (name:=name) he
 unfold lookIn
 rw [hd]
 dsimp only
 split
 ·rename_i e q; rw [q] at i2; exact ⟨_,rfl,i2⟩
 ·rename_i q; rw [q] at i2; rw [if_neg (by rw [i1]; decide)]; exact ⟨none,rfl,i2⟩
noncomputable def plainV:Value→Bool
 | .builtin _=>false
 | _=>true
theorem handed_of{v v':Value}(h:plainV v=true)(e:er v'=v):handedIn v'=true:=by
 subst e; cases v' <;> first | rfl | cases h
noncomputable def attrK(K:Frag)(C:Addr)(name:Str):Bool:=plainGet K C name&&hasDictIn K C&&(match findIn K (.ref C) name with | some attr=>noGet K attr | none=>false)
theorem instAt{s:Shared}(R:Rel W σ s)(hx:σ.at x=some (.inst C dx))(hd:σ.at dx=some (.attrs fs)):
  ∃ od es ep,s.heap.get? dx=some od∧od.data=.dict es ep∧es.toList.map entOf=fs.map some∧InstAt s.heap x (instObj C dx) C (some od):=by
 have h1:s.heap.get? x=some (instObj C dx):=R.ats _ _ hx
 obtain ⟨od,es,ep,h2,h3,h4⟩:∃ o es ep,s.heap.get? dx=some o∧o.data=.dict es ep∧es.toList.map entOf=fs.map some:=R.ats _ _ hd
 exact ⟨od,es,ep,h2,h3,h4,h1,rfl,rfl,h2⟩
theorem tr_getAttr{expr:Bool}{Q:Value→St→Prop}(hx:σ.at x=some (.inst C dx))(hd:σ.at dx=some (.attrs fs))(hv:fs.lookup name=some v)(hK:attrK W.K C name=true)(hp:plainV v=true)
  (h:Q v σ):Tr W n (getAttr (.ref x) name expr) (fun v σ'=>Q (er v) σ') σ:=fun A s r R=>by
 obtain ⟨od,es,ep,h2,h3,h4,I⟩:=instAt R hx hd
 simp only [attrK,Bool.and_eq_true] at hK
 obtain ⟨⟨k1,k2⟩,k3⟩:=hK
 split at k3
 ·rename_i attr ka
  obtain ⟨rr,l1,l2⟩:=lookIn_attrs (name:=name) h3 h4
  rw [hv] at l2
  obtain ⟨v',rfl,e⟩:=Option.map_eq_some_iff.mp l2
  exact get_value (W.hK.keeps R.keep) I (plainGet_of k1).1 (findObj_own k2 ka k3 l1) (handed_of hp e) ⟨σ,R.toks _,Step.toks _ _ _,by show Q (er v') σ; rw [e]; exact h⟩
 ·cases k3
noncomputable def methIn(K:Frag)(C:Addr)(name:Str):Option Addr:=if plainGet K C name then (match findIn K (.ref C) name with
 | some (some (.ref f))=>if isFn K (.ref f) then some f else none
 | _=>none) else none
theorem tr_method{pl:Sem Bool}{f:Addr}{Q:Value × List Value→St→Prop}(hx:σ.at x=some (.inst C dx))(hd:σ.at dx=some (.attrs fs))(hv:fs.lookup name=none)(hK:methIn W.K C name=some f)
  (h:Q (.ref f,[.ref x]) σ):Tr W n (getMethod (.ref x) name pl) Q σ:=fun A s r R=>by
 obtain ⟨od,es,ep,h2,h3,h4,I⟩:=instAt R hx hd
 obtain ⟨rr,l1,l2⟩:=lookIn_attrs (name:=name) h3 h4
 rw [hv] at l2
 have:rr=none:=by cases rr with | none=>rfl | some y=>cases l2
 subst this
 unfold methIn at hK
 split at hK
 ·rename_i k1
  split at hK
  ·rename_i f' kf
   split at hK
   ·rename_i kt
    cases hK
    exact method_fn (W.hK.keeps R.keep) I (plainGet_of k1).1 (plainGet_of k1).2 kf (beq_iff_eq.mp kt) (by show (lookIn name od).map _=_; rw [l1]; rfl) ⟨σ,R,.refl _ _,h⟩
   ·cases hK
  ·cases hK
 ·cases hK
noncomputable def fput:List (Str × Value)→Str→Value→List (Str × Value)
 | [],x,v=>[(x,v)]
 | (y,u) :: r,x,v=>if y=x then (y,v) :: r else (y,u) :: fput r x v
theorem ent_put{name:Str}{hs:Int}{tk:Tok}{v:Value}:∀{es:List DictEntry}{fs:List (Str × Value)},es.map entOf=fs.map some →
  ((match es.findIdx? (fun e:DictEntry=>e.key.isStr name) with
   | some i=>es.modify i fun e:DictEntry=>{ e with val:=v }
   | none=>es++[DictEntry.mk hs (.str name tk) v]:List DictEntry)).map entOf=(fput fs name (er v)).map some
 | [],[],_=>rfl
 | [],_ :: _,h=>by cases h
 | _ :: _,[],h=>by cases h
 | e :: es,(y,u) :: fs,h=>by
  rw [List.map_cons,List.map_cons,List.cons.injEq] at h
  obtain ⟨h1,h2⟩:=h
  have ih:=ent_put (name:=name) (hs:=hs) (tk:=tk) (v:=v) h2
  have h1':=h1
  unfold entOf at h1
  split at h1
  ·rename_i z t hz
   cases h1
   rw [List.findIdx?_cons,hz]
   have q2:Value.isStr (Value.str y t) name=decide (y=name):=by
    show (y==name)=_
    by_cases q:y=name <;> simp [q]
   rw [q2]
   by_cases q:y=name
   ·simp only [q,decide_true,if_true,fput,List.map_cons]
    rw [List.modify_zero_cons,List.map_cons,h2]
    show entOf _ :: _=_
    have:entOf { e with val:=v }=some (y,er v):=by unfold entOf; dsimp only; rw [hz]
    rw [this,q]
   ·simp only [q,decide_false,Bool.false_eq_true,if_false,fput]
    cases hf:es.findIdx? (·.key.isStr name) with
    | none =>
     rw [hf] at ih
     simp only [Option.map_none,List.cons_append,List.map_cons,h1'] at ih ⊢
     rw [ih]
    | some i =>
     rw [hf] at ih
     simp only [Option.map_some,List.map_cons,List.modify_succ_cons,h1'] at ih ⊢
     rw [ih]
  ·cases h1
noncomputable def setK(K:Frag)(C:Addr)(name:Str):Bool:=findIn K (.ref C) "__setattr__"==some (some (.builtin "object.__setattr__"))&&plainOver K C&&takerIn K C name==some none&&hasDictIn K C
theorem set_raw{K:Frag}{prog:Program}{w:World}{A:Around}{E:Value→Shared→Prop}{h:Heap}{g:Array GenState}{d:Drawn}{t:Nat}{os:OsState}{x C dx:Addr}{od:Obj}{es:Array DictEntry}{ep:Nat}{name:Str}{v:Value}
  {Q:Unit→Shared→Prop} (X:K.In h) (I:InstAt h x (instObj C dx) C (some od)) (hK:setK K C name=true) (h3:od.data=.dict es ep) (hf:es.toList.any (·.refKey)=false) (hl:es.size≤1000)
  (hq:∀ hs,Q () ⟨h.update dx (Obj.putName name hs (.str name (t+1)) v),g,d,t+2,os⟩):wpAny (model prog w) A (setAttr (.ref x) name v) Q E ⟨h,g,d,t,os⟩:=by
 simp only [setK,Bool.and_eq_true,beq_iff_eq] at hK
 obtain ⟨⟨⟨k1,k2⟩,k3⟩,k4⟩:=hK
 obtain ⟨cd,hc,hd'⟩:=any_some k4
 have h2:h.get? dx=some od:=I.dict
 have hx1:h.get? x=some (instObj C dx):=I.at_
 refine set_plain (s:=⟨h,g,d,t,os⟩) X I k1 (osa_open (s:=⟨h,g,d,t+1,os⟩) X I k2 k3 fun b=>?_)
 have L:=looks_clsIn (M:=model prog w) X hc
 refine wpAny_bind (wpAny_pure (wpAny_bind (wpAny_bind (wpAny_loadPart hx1 (wpAny_bind (L.at ?_))))))
 rw [hd']
 refine wpAny_pure (a:=some dx) (wpAny_bind (wpAny_pure (wpAny_bind ?_)))
 unfold nsSet
 refine wpAny_bind (wpAny_bind (wpAny_askSetting (wpAny_pure (wpAny_bind (wpAny_mkText (wpAny_bind (wpAny_loadPart h2 ?_)))))))
 rw [h3]
 dsimp only
 have c:(!es.any (·.key.isStr name)&&es.any (·.refKey))=false:=by
  rw [← Array.any_toList (p:=fun e:DictEntry=>e.refKey),hf,Bool.and_false]
 rw [aRefKeyMayBeTheName_at,c]
 refine wpAny_updatePart h2 ?_
 obtain ⟨oc,odd,odt,osl⟩:=od
 dsimp only at h3
 subst h3
 have key:∀ hs tk,∃ es' ep',Obj.putName name hs (.str name tk) v ⟨oc,odd,.dict es ep,osl⟩=⟨oc,odd,.dict es' ep',osl⟩∧es'.size≤es.size+1:=by
  intro hs tk
  rw [Obj.putName_eq]
  unfold Obj.putNameByArray
  dsimp only
  cases q:es.findIdx? (·.key.isStr name) with
  | none=>exact ⟨_,_,rfl,by rw [Array.size_push]; exact Nat.le_refl _⟩
  | some i=>exact ⟨_,_,rfl,by rw [Array.size_modify]; exact lin [] [_] [] 302071828 449 rfl ⟩
 obtain ⟨es',ep',e1,e2⟩:=key (PyData.keyHash w.params name) (t+1)
 have D':(h.update dx (Obj.putName name (PyData.keyHash w.params name) (.str name (t+1)) v)).get? dx=some ⟨oc,odd,.dict es' ep',osl⟩:=by
  rw [Heap.get?_update_self _ h2 (by rw [e1]; rfl),e1]
 refine wpAny_bind (wpAny_lookBehind D' (pastItsLine_dict (by rw [sizeLine_eq]; exact lin [] [_,_] [65544212,2416607300] 342273571829219396 21370435 rfl hl e2)) ?_)
 exact wpAny_pure (hq _)
theorem tr_setAttr{v:Value}{Q:Unit→St→Prop}(hx:σ.at x=some (.inst C dx))(hd:σ.H dx=some (.attrs fs))(hK:setK W.K C name=true)(hl:fs.length≤500)
  (h:Q () (σ.put dx (.attrs (fput fs name (er v))))):Tr W n (setAttr (.ref x) name v) Q σ:=fun A s r R=>by
 obtain ⟨od,es,ep,h2,h3,h4,I⟩:=instAt R hx (St.at_of_H hd)
 obtain ⟨i1,i2⟩:=ent_find (name:=name) h4
 have hlen:es.toList.length=fs.length:=by have:=congrArg List.length h4; simpa using this
 have X:=W.hK.keeps R.keep
 obtain ⟨hp,g,dr,t,os⟩:=s
 refine set_raw X I hK h3 i1 (by rw [Array.length_toList] at hlen; exact lin [] [_,_] [32776212,32838] 524386372 285677123 rfl hl hlen) fun hs=>?_
 obtain ⟨oc,odd,odt,osl⟩:=od
 dsimp only at h3
 subst h3
 have key:∃ es' ep',Obj.putName name hs (.str name (t+1)) v ⟨oc,odd,.dict es ep,osl⟩=⟨oc,odd,.dict es' ep',osl⟩∧es'.toList.map entOf=(fput fs name (er v)).map some:=by
  have e2:=ent_put (name:=name) (hs:=hs) (tk:=t+1) (v:=v) h4
  rw [Obj.putName_eq]
  unfold Obj.putNameByArray
  obtain ⟨l⟩:=es
  simp only [List.findIdx?_toArray] at e2 ⊢
  cases q:l.findIdx? (·.key.isStr name) with
  | none=>rw [q] at e2; exact ⟨_,_,rfl,by simpa using e2⟩
  | some i=>rw [q] at e2; exact ⟨_,_,rfl,by simpa using e2⟩
 obtain ⟨es',ep',e1,e2⟩:=key
 have hat:(hp.update dx (Obj.putName name hs (.str name (t+1)) v)).get? dx=some ⟨oc,odd,.dict es' ep',osl⟩:=by
  rw [Heap.get?_update_self _ h2 (by rw [e1]; rfl),e1]
 obtain ⟨R',S'⟩:=R.putUpd (s':=⟨hp.update dx (Obj.putName name hs (.str name (t+1)) v),g,dr,t+2,os⟩) hd
  (fun b hb=>Heap.get?_update_other hp _ (Ne.symm hb)) (show AbsAt W _ dx (.attrs (fput fs name (er v))) from ⟨_,es',ep',hat,rfl,e2⟩) rfl rfl
 exact ⟨_,R',S',h⟩
end S2
end
section
variable {KK:Params→Frag}{W:Wd KK}{n:Nat}{env:Env}{m:Lm}{σ:St}
theorem size_of_map{items:Array Value}{vs:List Value}(h:items.toList.map er=vs):items.size=vs.length:=by
 rw [← h]; simp
theorem get_of_map{items:Array Value}{vs:List Value}{i:Nat}{v:Value}(h:items.toList.map er=vs)(hi:vs[i]?=some v):∃ x,items[i]?=some x∧er x=v:=by
 rw [← h,List.getElem?_map] at hi
 obtain ⟨x,h1,h2⟩:=Option.map_eq_some_iff.mp hi
 exact ⟨x,by rw [← Array.getElem?_toList]; exact h1,h2⟩
section L1
variable {l:Addr}{vs:List Value}{Q:Value→St→Prop}
theorem tr_newList{xs:List Value}(hs:xs.length≤sizeLine)(h:∀ a,σ.at a=none→Q (.ref a) (σ.put a (.list (xs.map er)))):Tr W n (newList xs) (fun v σ'=>Q (er v) σ') σ:=fun A s r R=>by
 refine wpAny_newObj_type ?_ (by show xs.toArray.size≤sizeLine; rw [List.size_toArray]; exact hs)
 obtain ⟨hu,R',S'⟩:=R.putNew (s':={ s with heap:=s.heap.push { cls:=.type "list",data:=.seq xs.toArray } }) (push_none _) (push_keeps _ _)
  (show AbsAt W _ s.heap.objs.size (.list (xs.map er)) from ⟨0,xs.toArray,Heap.get?_push_size _ rfl,by simp⟩) rfl rfl
 exact ⟨_,R',S',h _ hu⟩
theorem tr_newTuple{xs:List Value}(hs:xs.length≤sizeLine)(h:∀ a,σ.at a=none→Q (.ref a) (σ.newP a (.tuple (xs.map er)))):Tr W n (newTuple xs) (fun v σ'=>Q (er v) σ') σ:=fun A s r R=>by
 refine wpAny_newObj_type ?_ (by show xs.toArray.size≤sizeLine; rw [List.size_toArray]; exact hs)
 obtain ⟨hu,R',S'⟩:=R.putP (s':={ s with heap:=s.heap.push { cls:=.type "tuple",data:=.seq xs.toArray } }) (push_none _) (push_keeps _ _)
  (show AbsAt W _ s.heap.objs.size (.tuple (xs.map er)) from ⟨0,xs.toArray,Heap.get?_push_size _ rfl,by simp⟩) rfl rfl
 exact ⟨_,R',S',h _ hu⟩
theorem tr_item_list{i:Value}{k:Int}{v:Value}(hl:σ.at l=some (.list vs))(hi:er i=.int k 0)(h0:0≤k)(hf:k < 2 ^ 63)(hv:vs[k.toNat]?=some v)(h:Q v σ):
  Tr W n (getItem (.ref l) i) (fun v σ'=>Q (er v) σ') σ:=fun A s r R=>by
 obtain ⟨t,rfl⟩:=er_int hi
 obtain ⟨nn,items,h1,h2⟩:=R.ats _ _ hl
 obtain ⟨x,hx,e⟩:=get_of_map h2 hv
 exact wpAny_getItem_list ⟨_,h1,rfl,nn,rfl⟩ h0 hf hx ⟨σ,R,.refl _ _,by show Q (er x) σ; rw [e]; exact h⟩
theorem tr_item_list_neg{i:Value}{k:Int}{v:Value}(hl:σ.at l=some (.list vs))(hi:er i=.int k 0)(h0:k < 0)(hf:-(2 ^ 63)≤k)(hlen:0≤k+vs.length)(hv:vs[(k+vs.length).toNat]?=some v)(h:Q v σ):
  Tr W n (getItem (.ref l) i) (fun v σ'=>Q (er v) σ') σ:=fun A s r R=>by
 obtain ⟨t,rfl⟩:=er_int hi
 obtain ⟨nn,items,h1,h2⟩:=R.ats _ _ hl
 obtain ⟨x,hx,e⟩:=get_of_map h2 hv
 have hsz:=size_of_map h2
 exact wpAny_getItem_list_neg ⟨_,h1,rfl,nn,rfl⟩ h0 (by rw [hsz]; exact lin [_] [_] [402821153] 217185 149058 rfl hlen) hf (by rw [hsz]; exact hx) ⟨σ,R,.refl _ _,by show Q (er x) σ; rw [e]; exact h⟩
theorem tr_item_tuple{i:Value}{k:Int}{v:Value}(hl:σ.at l=some (.tuple vs))(hi:er i=.int k 0)(h0:0≤k)(hf:k < 2 ^ 63)(hv:vs[k.toNat]?=some v)(h:Q v σ):
  Tr W n (getItem (.ref l) i) (fun v σ'=>Q (er v) σ') σ:=fun A s r R=>by
 obtain ⟨t,rfl⟩:=er_int hi
 obtain ⟨nn,items,h1,h2⟩:=R.ats _ _ hl
 obtain ⟨x,hx,e⟩:=get_of_map h2 hv
 have hlt:k.toNat < items.size:=(Array.getElem?_eq_some_iff.mp hx).1
 refine getItem_tuple ⟨_,h1,rfl,nn,rfl⟩ (by exact lin [_,_] [] [4129,4835703278458516698923075] 282737 566498883 rfl h0 pI63) hf (j:=k.toNat) ?_ hx ⟨σ,R,.refl _ _,by show Q (er x) σ; rw [e]; exact h⟩
 have hn:¬ k < 0:=by exact fun z0=>lin [_] [] [4129,8210] 0 149058 rfl h0 z0
 simp only [seqIndex?,hn,if_false]
 rw [if_pos (by simp only [Bool.and_eq_true,decide_eq_true_eq]; omega)]
theorem set_list_raw{prog:Program}{w:World}{A:Around}{E:Value→Shared→Prop}{s:Shared}{items:Array Value}{nn j:Nat}{v:Value}{Q:Unit→Shared→Prop}{k:Int}{t:Tok}
  (h1:s.heap.get? l=some { cls:=.type "list",data:=.seq items nn }) (h0:0≤k) (hf:k < 2 ^ 63) (hkj:k=j) (hj:j < items.size)
  (h:Q () { s with heap:=s.heap.update l (Obj.mapSeq (·.setIfInBounds j v)) }):wpAny (model prog w) A (setItem (.ref l) (.int k t) v) Q E s:=by
 have hT:s.TypeIs (.ref l) "list":=⟨_,h1,rfl⟩
 unfold setItem
 refine wpAny_holding (wpAny_bind (wpAny_sequenceKey hT (by decide) (wpAny_bind (wpAny_callSpecial?_slot (name:=Str.ofString "__setitem__") hT slot_list_setitem
  (wpAny_call_entry slot_list_setitem hT entry_list_setitem ?_ (args_list_setitem _ _ _))))))
 show wpAny _ _ (Builtin.List.listSubscript? (.int k t) >>= _) _ _ s
 refine wpAny_bind (wpAny_listSubscript_int (fitsIndex_of h0 hf) ?_)
 clear hf h0
 subst hkj
 show wpAny _ _ ((seqItemAt l j >>= fun r=>pure (r.map (j,·))) >>= _) _ _ s
 refine wpAny_bind (wpAny_bind (wpAny_seqItemAt h1 rfl (wpAny_pure ?_)))
 rw [Array.getElem?_eq_getElem hj]
 show wpAny _ _ (setSeqItemAt l j v >>= _) _ _ s
 refine wpAny_bind (wpAny_setSeqItemAt h1 rfl ?_)
 exact wpAny_pure ⟨.none,rfl,wpAny_pure h⟩
theorem tr_set_list{i v:Value}{k:Int}{Q:Unit→St→Prop}(hl:σ.H l=some (.list vs))(hi:er i=.int k 0)(h0:0≤k)(hf:k < 2 ^ 63)(hk:k < vs.length)
  (h:Q () (σ.put l (.list (vs.set k.toNat (er v))))):Tr W n (setItem (.ref l) i v) Q σ:=fun A s r R=>by
 obtain ⟨t,rfl⟩:=er_int hi
 obtain ⟨nn,items,h1,h2⟩:=R.ats _ _ (St.at_of_H hl)
 have hsz:=size_of_map h2
 have hkj:k=(k.toNat:Int):=by omega
 generalize k.toNat=j at h hkj
 have hj:j < items.size:=by exact lin [_] [_,_,_] [49170,32838,1097747] 1114197 18005583482948 rfl hk hsz hkj
 have e1:Obj.mapSeq (·.setIfInBounds j v) ({ cls:=.type "list",data:=.seq items nn }:Obj)={ cls:=.type "list",data:=.seq (items.setIfInBounds j v) nn }:=by
  simp [Obj.mapSeq]
 have e2:(s.heap.update l (Obj.mapSeq (·.setIfInBounds j v))).get? l=some { cls:=.type "list",data:=.seq (items.setIfInBounds j v) nn }:=by
  rw [Heap.get?_update_self _ h1 (by rw [e1]; rfl),e1]
 obtain ⟨R',S'⟩:=R.putUpd (s':={ s with heap:=s.heap.update l (Obj.mapSeq (·.setIfInBounds j v)) }) hl (fun b hb=>Heap.get?_update_other s.heap _ (Ne.symm hb))
  (show AbsAt W _ l (.list (vs.set j (er v))) from ⟨nn,_,e2,by rw [← h2]; simp⟩) rfl rfl
 exact set_list_raw h1 h0 hf hkj hj ⟨_,R',S',h⟩
theorem tr_append{v:Value}(hl:σ.H l=some (.list vs))(hs:vs.length≤sizeLine)(h:Q .none (σ.put l (.list (vs++[er v])))):
  Tr W n (call (.builtin "list.append") [.ref l,v]) (fun v σ'=>Q (er v) σ') σ:=fun A s r R=>by
 obtain ⟨nn,items,h1,h2⟩:=R.ats _ _ (St.at_of_H hl)
 have hsz:=size_of_map h2
 refine wpAny_list_append_plain ⟨nn,h1⟩ (fun h' ⟨n',hp⟩ hs'=>?_) (by exact lin [] [_,_,_] [65556,65622] 1114196 285677123 rfl hs hsz)
 obtain ⟨R',S'⟩:=R.putUpd (s':={ s with heap:=h' }) hl (fun b hb=>hs'.2 b hb) (show AbsAt W _ l (.list (vs++[er v])) from ⟨n',_,hp,by simp [h2]⟩) rfl rfl
 exact ⟨_,R',S',h⟩
theorem tr_len{vs:List Value}(hl:σ.at l=some (.list vs))(hs:vs.length < 2 ^ 63)(h:Q (.int vs.length 0) σ):Tr W n (call (.builtin "len") [.ref l]) (fun v σ'=>Q (er v) σ') σ:=fun A s r R=>by
 obtain ⟨nn,items,h1,h2⟩:=R.ats _ _ hl
 have hsz:=size_of_map h2
 exact call_len_list ⟨_,h1,rfl,nn,rfl⟩ (by rw [hsz]; exact_mod_cast hs) ⟨σ,R.toks _,Step.toks _ _ _,by show Q (.int items.size 0) σ; rw [hsz]; exact h⟩
theorem tr_m_append{pl:Sem Bool}{Q:Value × List Value→St→Prop}(hl:σ.at l=some (.list vs))(h:Q (.builtin "list.append",[.ref l]) σ):Tr W n (getMethod (.ref l) "append" pl) Q σ:=fun A s r R=>by
 obtain ⟨nn,items,h1,h2⟩:=R.ats _ _ hl
 exact getMethod_list_append h1 rfl rfl ⟨σ,R,.refl _ _,h⟩
theorem tr_m_pop{pl:Sem Bool}{Q:Value × List Value→St→Prop}(hl:σ.at l=some (.list vs))(h:Q (.builtin "list.pop",[.ref l]) σ):Tr W n (getMethod (.ref l) "pop" pl) Q σ:=fun A s r R=>by
 obtain ⟨nn,items,h1,h2⟩:=R.ats _ _ hl
 exact getMethod_builtin (T:="list") ⟨_,h1,rfl⟩ PySem.F.plainAttrs_list PySem.F.slot_list_pop PySem.F.type_list_pop (fun a e=>by cases e; exact ⟨_,h1,rfl⟩) ⟨σ,R,.refl _ _,h⟩
theorem tr_m_get{kvs:List (Int × Value)}{pl:Sem Bool}{Q:Value × List Value→St→Prop}(hl:σ.at l=some (.dict kvs))(h:Q (.builtin "dict.get",[.ref l]) σ):Tr W n (getMethod (.ref l) "get" pl) Q σ:=fun A s r R=>by
 obtain ⟨h0,kvs',h1,h2⟩:=R.ats _ _ hl
 exact getMethod_builtin h1.typeIs PySem.F.plainAttrs_dict PySem.F.slot_dict_get PySem.F.type_dict_get h1.mapOf.noDict ⟨σ,R,.refl _ _,h⟩
theorem tr_pop(hl:σ.H l=some (.list vs))(hs:vs.length≤sizeLine){v:Value}(hv:vs.getLast?=some v)(h:Q v (σ.put l (.list vs.dropLast))):
  Tr W n (call (.builtin "list.pop") [.ref l]) (fun v σ'=>Q (er v) σ') σ:=fun A s r R=>by
 obtain ⟨nn,items,h1,h2⟩:=R.ats _ _ (St.at_of_H hl)
 have hsz:=size_of_map h2
 have hv':vs[vs.length-1]?=some v:=by rw [← List.getLast?_eq_getElem?]; exact hv
 obtain ⟨x,hx,e⟩:=get_of_map (i:=vs.length-1) h2 hv'
 have hpos:0 < items.size:=by
  have:=(Array.getElem?_eq_some_iff.mp hx).1
  exact lin [] [_,_] [65557] 135205 2381634 rfl this
 have e1:Obj.mapSeq (fun xs=>xs.eraseIdxIfInBounds (items.size-1)) ({ cls:=.type "list",data:=.seq items nn }:Obj)={ cls:=.type "list",data:=.seq (items.eraseIdxIfInBounds (items.size-1)) (nn+1) }:=by
  have hlt:items.size-1 < items.size:=by omega
  have:(items.eraseIdxIfInBounds (items.size-1)).size≠items.size:=by
   simp only [Array.eraseIdxIfInBounds,hlt,dif_pos,Array.size_eraseIdx]; exact fun z0=>lin [] [_,_] [65557,65558] 0 8655939 rfl hlt z0
  simp [Obj.mapSeq,this]
 have e2:(s.heap.update l (Obj.mapSeq fun xs=>xs.eraseIdxIfInBounds (items.size-1))).get? l=some { cls:=.type "list",data:=.seq (items.eraseIdxIfInBounds (items.size-1)) (nn+1) }:=by
  rw [Heap.get?_update_self _ h1 (by rw [e1]; rfl),e1]
 have e3:(items.eraseIdxIfInBounds (items.size-1)).toList=items.toList.dropLast:=by
  have hlt:items.size-1 < items.size:=by omega
  simp only [Array.eraseIdxIfInBounds,hlt,dif_pos,Array.toList_eraseIdx]
  rw [← List.eraseIdx_length_sub_one,Array.length_toList]
 obtain ⟨R',S'⟩:=R.putUpd (s':={ s with heap:=s.heap.update l (Obj.mapSeq fun xs=>xs.eraseIdxIfInBounds (items.size-1)) }) hl (fun b hb=>Heap.get?_update_other s.heap _ (Ne.symm hb))
  (show AbsAt W _ l (.list vs.dropLast) from ⟨_,_,e2,by rw [e3,← h2,List.map_dropLast]⟩) rfl rfl
 refine call_meets PySem.F.slot_list_pop ⟨_,h1,rfl⟩ PySem.F.entry_list_pop (PySem.F.args_list_pop_1 _) (PySem.MeetsSeq.list_pop_last l items nn x (by rw [hsz]; exact hx) (by exact lin [] [_,_,_] [65556,65622] 1114196 285677123 rfl hs hsz)) ⟨h1,?_⟩
 exact ⟨_,R',S',by show Q (er x) _; rw [e]; exact h⟩
theorem tr_list_add{b:Addr}{ws:List Value}(hl:σ.at l=some (.list vs))(hb:σ.at b=some (.list ws))(hs:vs.length+ws.length≤sizeLine)(h:∀ a,σ.at a=none→Q (.ref a) (σ.put a (.list (vs++ws)))):
  Tr W n (binaryOp .Add (.ref l) (.ref b)) (fun v σ'=>Q (er v) σ') σ:=fun A s r R=>by
 obtain ⟨nn,items,h1,h2⟩:=R.ats _ _ hl
 obtain ⟨nn',items',h3,h4⟩:=R.ats _ _ hb
 have z1:=size_of_map h2
 have z2:=size_of_map h4
 obtain ⟨hu,R',S'⟩:=R.putNew (s':={ s with heap:=s.heap.push { cls:=.type "list",data:=.seq (items++items') } }) (push_none _) (push_keeps _ _)
  (show AbsAt W _ s.heap.objs.size (.list (vs++ws)) from ⟨0,items++items',Heap.get?_push_size _ rfl,by simp [h2,h4]⟩) rfl rfl
 exact concat_meets ⟨_,h1,rfl⟩ ⟨_,h3,rfl⟩ noFill_list_add seq_list_add PySem.F.slot_list_add PySem.F.entry_list_add (PySem.F.args_list_add_2 _ _) (list_addW l b items items' nn nn' none none #[] #[] (by exact lin [] [_,_,_,_,_] [4429226244,98390,2228326] 283669340516 9175130722372 rfl hs z1 z2)) ⟨h1,h3,⟨_,R',S',h _ hu⟩⟩
end L1
section D1
variable {d:Addr}{kvs:List (Int × Value)}{key v:Value}{k:Int}
theorem isInt_int{key:Value}{k:Int}(h:er key=.int k 0):(intKind W.prog W.w).is k key=true:=by
 obtain ⟨t,rfl⟩:=er_int h; simp [intKind,Value.isInt]
theorem valueAt_map{kvs':List (Int × Value)}(h:kvs'.map (fun p=>(p.1,er p.2))=kvs)(k:Int):(valueAt kvs' k).map er=valueAt kvs k:=by
 subst h
 unfold valueAt
 induction kvs' with
 | nil=>rfl
 | cons p r ih=>rw [List.find?_cons,List.map_cons,List.find?_cons]; dsimp only; cases decide (p.1=k) <;> first | rfl | exact ih
theorem stored_map{kvs':List (Int × Value)}(h:kvs'.map (fun p=>(p.1,er p.2))=kvs)(k:Int)(v:Value):(stored kvs' k v).map (fun p=>(p.1,er p.2))=stored kvs k (er v):=by
 subst h
 unfold stored
 have e:(kvs'.map (fun p=>(p.1,er p.2))).any (fun kv=>decide (kv.1=k))=kvs'.any (fun kv=>decide (kv.1=k)):=by
  rw [List.any_map]; rfl
 rw [e]
 split
 ·rw [List.map_map,List.map_map]
  apply List.map_congr_left
  intro p _
  simp only [Function.comp]
  split <;> rfl
 ·simp
theorem tr_dict_set{Q:Unit→St→Prop}(hd:σ.H d=some (.dict kvs))(hk:er key=.int k 0)(hs:kvs.length≤sizeLine)(h:Q () (σ.put d (.dict (stored kvs k (er v))))):
  Tr W n (setItem (.ref d) key v) Q σ:=fun A s r R=>by
 obtain ⟨h0,kvs',h1,h2⟩:=R.ats _ _ (St.at_of_H hd)
 refine wpAny_setItem_pairs (isInt_int hk) h1 (fun h' hm' hs'=>?_) (by have:=congrArg List.length h2; simp at this; exact lin [] [_,_,_] [65556,65622] 1114196 285677123 rfl hs this)
 obtain ⟨R',S'⟩:=R.putUpd (s':={ s with heap:=h',toks:=s.toks+1 }) hd (fun b hb=>hs'.2 b hb) (show AbsAt W _ d (.dict (stored kvs k (er v))) from ⟨h0,_,hm',stored_map h2 k v⟩) rfl rfl
 exact ⟨_,R',S',h⟩
theorem tr_dict_get{dflt:Value}{Q:Value→St→Prop}(hd:σ.at d=some (.dict kvs))(hk:er key=.int k 0)(h:Q ((valueAt kvs k).getD (er dflt)) σ):
  Tr W n (call (.builtin "dict.get") [.ref d,key,dflt]) (fun v σ'=>Q (er v) σ') σ:=fun A s r R=>by
 obtain ⟨h0,kvs',h1,h2⟩:=R.ats _ _ hd
 refine call_meetsIn PySem.F.slot_dict_get h1.typeIs PySem.F.entry_dict_get (PySem.F.args_dict_get_3 _ _ _) (meets_dict_get_default (intKind W.prog W.w) d (isInt_int hk) (beq_eq_false_iff_ne.mpr h0) dflt) ⟨_,h1.mapOf,?_⟩
 refine ⟨σ,R.toks _,Step.toks _ _ _,?_⟩
 have e:=valueAt_map h2 k
 show Q (er ((valueAt kvs' k).getD dflt)) σ
 rw [← e] at h
 cases q:valueAt kvs' k with
 | none=>rw [q] at h; exact h
 | some y=>rw [q] at h; exact h
theorem tr_newDict{pos:Pos}{Q:Value→St→Prop}(h:∀ a,σ.at a=none→Q (.ref a) (σ.put a (.dict []))):Tr W n (eval (.Dict [] [] pos) env) (fun v σ'=>Q (er v) σ') σ:=fun A s r R=>by
 refine wpAny_Dict_empty ?_
 have hlow:sysModules < s.heap.objs.size:=by
  obtain ⟨mc,⟨o,es,ep,ho,_⟩,_⟩:=W.hlim
  exact Nat.lt_trans (by decide:sysModules < cStatics) (Heap.lt_size (R.keep _ _ ho))
 obtain ⟨hu,R',S'⟩:=R.putNew (s':={ s with heap:=s.heap.push { cls:=.type "dict",data:=.dict #[] } }) (push_none _) (push_keeps _ _)
  (show AbsAt W _ s.heap.objs.size (.dict []) from ⟨Nat.ne_of_gt hlow,[],Heap.DictOf.new _,rfl⟩) rfl rfl
 exact ⟨_,R',S',h _ hu⟩
end D1
section R1
variable {Q:Value→St→Prop}{a b c:Value}{i j k:Int}
theorem tr_range1(ha:er a=.int i 0)(h:∀ x,σ.at x=none→Q (.ref x) (σ.newP x (.range 0 i 1))):Tr W n (call (.type "range") [a]) (fun v σ'=>Q (er v) σ') σ:=fun A s r R=>by
 obtain ⟨t,rfl⟩:=er_int ha
 refine call_range_1 ?_
 obtain ⟨hu,R',S'⟩:=R.putP (s':={ s with heap:=s.heap.push { cls:=.type "range",data:=.fields #[.int 0 s.toks,.int i t,.int 1 (s.toks+1)] },toks:=s.toks+1+1 }) (push_none _) (push_keeps _ _)
  (show AbsAt W _ s.heap.objs.size (.range 0 i 1) from ⟨_,_,_,Heap.get?_push_size _ rfl⟩) rfl rfl
 exact ⟨_,R',S',h _ hu⟩
theorem tr_range2(ha:er a=.int i 0)(hb:er b=.int j 0)(h:∀ x,σ.at x=none→Q (.ref x) (σ.newP x (.range i j 1))):Tr W n (call (.type "range") [a,b]) (fun v σ'=>Q (er v) σ') σ:=fun A s r R=>by
 obtain ⟨t,rfl⟩:=er_int ha
 obtain ⟨u,rfl⟩:=er_int hb
 refine call_range_2 ?_
 obtain ⟨hu,R',S'⟩:=R.putP (s':={ s with heap:=s.heap.push { cls:=.type "range",data:=.fields #[.int i t,.int j u,.int 1 s.toks] },toks:=s.toks+1 }) (push_none _) (push_keeps _ _)
  (show AbsAt W _ s.heap.objs.size (.range i j 1) from ⟨_,_,_,Heap.get?_push_size _ rfl⟩) rfl rfl
 exact ⟨_,R',S',h _ hu⟩
theorem tr_range3(ha:er a=.int i 0)(hb:er b=.int j 0)(hc:er c=.int k 0)(hk0:k≠0)(hk:k.natAbs < 2 ^ 64)(h:∀ x,σ.at x=none→Q (.ref x) (σ.newP x (.range i j k))):
  Tr W n (call (.type "range") [a,b,c]) (fun v σ'=>Q (er v) σ') σ:=fun A s r R=>by
 obtain ⟨t,rfl⟩:=er_int ha
 obtain ⟨u,rfl⟩:=er_int hb
 obtain ⟨v,rfl⟩:=er_int hc
 refine call_range_3 hk0 ?_ (.inl (small_div hk))
 obtain ⟨hu,R',S'⟩:=R.putP (s':={ s with heap:=s.heap.push { cls:=.type "range",data:=.fields #[.int i t,.int j u,.int k v] },toks:=s.toks }) (push_none _) (push_keeps _ _)
  (show AbsAt W _ s.heap.objs.size (.range i j k) from ⟨_,_,_,Heap.get?_push_size _ rfl⟩) rfl rfl
 exact ⟨_,R',S',h _ hu⟩
end R1
end
section
variable {KK:Params→Frag}{W:Wd KK}{n:Nat}{env:Env}{m:Lm}{σ:St}
noncomputable abbrev Ev(W:Wd KK)(n:Nat)(env:Env)(m:Lm)(e:Expr)(Q:Value→St→Prop)(σ:St):Prop:=TrE W n env m (eval e env) (fun v σ'=>Q (er v) σ') σ
noncomputable abbrev Te(W:Wd KK)(n:Nat)(env:Env)(m:Lm)(e:Expr)(Q:Bool→St→Prop)(σ:St):Prop:=TrE W n env m (isTrue e env (eval e env)) Q σ
noncomputable def Evs(W:Wd KK)(n:Nat)(env:Env)(m:Lm):List Expr→(List Value→St→Prop)→St→Prop
 | [],Q,σ=>Q [] σ
 | e :: es,Q,σ=>Ev W n env m e (fun v σ'=>Evs W n env m es (fun vs σ''=>Q (v :: vs) σ'') σ') σ
theorem TrE.operate{t:Sem Value}{vs:List Value}{Q:Value→St→Prop}(h:TrE W n env m t Q σ):TrE W n env m (operate vs t) Q σ:=fun A s r R F Γ p hΓ=>by
 rw [Sem.wp_operate]; exact h A s r R F Γ p hΓ
theorem TrE.release{vs ks:List Value}{Q:Unit→St→Prop}(h:Q () σ):TrE W n env m (release vs ks) Q σ:=fun A s r R F Γ p hΓ=>by
 rw [Sem.wp_release]; exact ⟨σ,R,.refl _ _,h⟩
section X
variable {Q:Value→St→Prop}{pos:Pos}{l r e:Expr}
theorem ev_none{k}(h:Q .none σ):Ev W n env m (.Constant .none k pos) Q σ:=TrE.pure h
theorem ev_bool{b k}(h:Q (.bool b) σ):Ev W n env m (.Constant (.bool b) k pos) Q σ:=TrE.pure h
theorem ev_int{i k}(h:Q (.int i 0) σ):Ev W n env m (.Constant (.int i) k pos) Q σ:=fun A s r R F=>wpAny_mkInt ⟨σ,R.toks _,Step.toks _ _ _,h⟩
theorem ev_str{x k}(h:Q (.str x 0) σ):Ev W n env m (.Constant (.str x) k pos) Q σ:=fun A s r R F=>wpAny_mkText ⟨σ,R.toks _,Step.toks _ _ _,h⟩
noncomputable def Bin(W:Wd KK)(n:Nat)(op:Operator)(va vb:Value)(Q:Value→St→Prop)(σ:St):Prop:=∀ a b,er a=va→er b=vb→Tr W n (binaryOp op a b) (fun v σ'=>Q (er v) σ') σ
theorem ev_bin{op:Operator}(h:Ev W n env m l (fun va σ₁=>Ev W n env m r (fun vb σ₂=>Bin W n op va vb Q σ₂) σ₁) σ):Ev W n env m (.BinOp l op r pos) Q σ:=by
 unfold Ev
 rw [arm_eval_BinOp]
 exact TrE.bind (TrE.mono h fun a σ₁ h₁=>TrE.bind (TrE.holding (TrE.mono h₁ fun b σ₂ h₂=>TrE.bind (TrE.standAt (TrE.operate (h₂ a b rfl rfl).toE)))))
theorem ev_neg(h:Ev W n env m e (fun va σ₁=>∃ i,va=.int i 0∧Q (.int (-i) 0) σ₁) σ):Ev W n env m (.UnaryOp .USub e pos) Q σ:=by
 unfold Ev
 rw [arm_eval_UnaryOp]
 exact TrE.bind (TrE.mono h fun a σ₁ zq=>ex2 zq fun i h₁ h₂=>TrE.bind (TrE.standAt (TrE.holding (op_neg h₁ h₂).toE)))
noncomputable def Cmp(W:Wd KK)(n:Nat)(op:CmpOp)(va vb:Value)(Q:Value→St→Prop)(σ:St):Prop:=∀ a b,er a=va→er b=vb→Tr W n (compareOp op a b) (fun v σ'=>Q (er v) σ') σ
theorem ev_cmp{op:CmpOp}(hm:behindInMarks op r=false)(h:Ev W n env m l (fun va σ₁=>Ev W n env m r (fun vb σ₂=>Cmp W n op va vb Q σ₂) σ₁) σ):Ev W n env m (.Compare l [op] [r] pos) Q σ:=by
 unfold Ev
 rw [eval_Compare1,markedBehindIn_of_false hm]
 exact TrE.bind (TrE.mono h fun a σ₁ h₁=>TrE.bind (TrE.holding (TrE.mono h₁ fun b σ₂ h₂=>TrE.bind (TrE.standAt (TrE.operate (h₂ a b rfl rfl).toE)))))
theorem te_cmp{op:CmpOp}{Q:Bool→St→Prop}(hm:behindInMarks op r=false)(h:Ev W n env m l (fun va σ₁=>Ev W n env m r (fun vb σ₂=>Cmp W n op va vb (fun v σ₃=>∃ b,v=.bool b∧Q b σ₃) σ₂) σ₁) σ):Te W n env m (.Compare l [op] [r] pos) Q σ:=by
 unfold Te
 rw [isTrue_Compare1,markedBehindIn_of_false hm]
 exact TrE.bind (TrE.mono h fun a σ₁ h₁=>TrE.bind (TrE.holding (TrE.mono h₁ fun b σ₂ h₂=>TrE.bind (TrE.standAt (TrE.bind (TrE.mono (TrE.operate (h₂ a b rfl rfl).toE) fun c σ₃ zq=>ex2 zq fun b' h₃ h₄=>TrE.holding (tr_truthy h₃ h₄).toE))))))
theorem te_cmp2{o1 o2:CmpOp}{r2:Expr}{Q:Bool→St→Prop}(hm:behindInMarks o2 r2=false)
  (h:Ev W n env m l (fun va σ₁=>Ev W n env m r (fun vb σ₂=>Cmp W n o1 va vb (fun v σ₃=>∃ b,v=.bool b∧if b then Ev W n env m r2 (fun vc σ₄=>Cmp W n o2 vb vc (fun v σ₅=>∃ b,v=.bool b∧Q b σ₅) σ₄) σ₃ else Q false σ₃) σ₂) σ₁) σ):Te W n env m (.Compare l [o1,o2] [r,r2] pos) Q σ:=by
 have e0:markedEach [o1,o2] [r,r2] (evalEach [r,r2] env)=[eval r env,eval r2 env]:=by
  show eval r env :: [markedBehindIn o2 r2 (eval r2 env)]=_
  rw [markedBehindIn_of_false hm]
 unfold Te
 rw [arm_isTrue_Compare,e0]
 refine TrE.bind (TrE.mono h fun a σ₁ h₁=>TrE.bind (TrE.holding (TrE.mono h₁ fun b σ₂ h₂=>TrE.bind (TrE.standAt (TrE.bind (TrE.mono (TrE.holding (h₂ a b rfl rfl).toE) fun c σ₃ zq=>ex2 zq fun b' h₃ h₄=>?_))))))
 refine TrE.bind (TrE.release (TrE.bind (TrE.holding (TrE.mono (tr_truthy (Q:=fun b'' σ'=>b''=b'∧σ'=σ₃) h₃ ⟨rfl,rfl⟩).toE fun b'' σ' hb=>?_))))
 obtain ⟨rfl,rfl⟩:=hb
 cases b'' with
 | true =>
  rw [if_pos rfl] at h₄ ⊢
  exact TrE.bind (TrE.holding (TrE.mono h₄ fun d σ₄ h₅=>TrE.bind (TrE.standAt (TrE.bind (TrE.mono (TrE.operate (h₅ b d rfl rfl).toE) fun c σ₃ zq=>ex2 zq fun b' h₃ h₄=>TrE.holding (tr_truthy h₃ h₄).toE)))))
 | false =>
  rw [if_neg (by decide)] at h₄ ⊢
  exact TrE.pure h₄
theorem te_of_ev{Q:Bool→St→Prop}(hw:isTrue e env (eval e env)=(do let v ← eval e env; standAt e.pos; PySem.holding [v] (truthy v)))(h:Ev W n env m e (fun v σ'=>∃ b,v=.bool b∧Q b σ') σ):Te W n env m e Q σ:=by
 unfold Te
 rw [hw]
 exact TrE.bind (TrE.mono h fun v σ₁ zq=>ex2 zq fun b h₁ h₂=>TrE.bind (TrE.standAt (TrE.holding (tr_truthy h₁ h₂).toE)))
theorem te_not{Q:Bool→St→Prop}(h:Te W n env m e (fun b σ'=>Q (!b) σ') σ):Te W n env m (.UnaryOp .Not e pos) Q σ:=by
 unfold Te
 rw [arm_isTrue_UnaryOp]
 exact TrE.bind (TrE.mono h fun b σ₁ h₁=>TrE.pure h₁)
theorem te_and{Q:Bool→St→Prop}(h:Te W n env m l (fun b σ₁=>if b then Te W n env m r Q σ₁ else Q false σ₁) σ):Te W n env m (.BoolOp .And [l,r] pos) Q σ:=by
 unfold Te
 rw [arm_isTrue_BoolOp,arm_allTrue_cons]
 refine TrE.bind (TrE.mono h fun b σ₁ h₁=>?_)
 cases b with
 | false=>exact TrE.pure h₁
 | true =>
  show TrE W n env m (allTrue .And [r] env) Q σ₁
  rw [arm_allTrue_cons]
  refine TrE.bind (TrE.mono (show Te W n env m r Q σ₁ from h₁) fun b σ₂ h₂=>?_)
  cases b with
  | false=>exact TrE.pure h₂
  | true=>exact TrE.pure h₂
theorem te_or{Q:Bool→St→Prop}(h:Te W n env m l (fun b σ₁=>if b then Q true σ₁ else Te W n env m r Q σ₁) σ):Te W n env m (.BoolOp .Or [l,r] pos) Q σ:=by
 unfold Te
 rw [arm_isTrue_BoolOp,arm_allTrue_cons]
 refine TrE.bind (TrE.mono h fun b σ₁ h₁=>?_)
 cases b with
 | true=>exact TrE.pure h₁
 | false =>
  show TrE W n env m (allTrue .Or [r] env) Q σ₁
  rw [arm_allTrue_cons]
  refine TrE.bind (TrE.mono (show Te W n env m r Q σ₁ from h₁) fun b σ₂ h₂=>?_)
  cases b with
  | false=>exact TrE.pure h₂
  | true=>exact TrE.pure h₂
theorem ev_and(h:Ev W n env m l (fun v σ₁=>∃ b,v=.bool b∧if b then Ev W n env m r Q σ₁ else Q (.bool false) σ₁) σ):Ev W n env m (.BoolOp .And [l,r] pos) Q σ:=by
 unfold Ev
 rw [arm_eval_BoolOp]
 show TrE W n env m (boolOp pos .And [eval l env,eval r env]) _ σ
 refine TrE.bind (TrE.mono h fun v σ₁ zq=>ex2 zq fun b h₁ h₂=>TrE.bind (TrE.standAt (TrE.bind (TrE.holding (TrE.mono (tr_truthy (Q:=fun b'' σ'=>b''=b∧σ'=σ₁) h₁ ⟨rfl,rfl⟩).toE fun b'' σ' hb=>?_)))))
 obtain ⟨rfl,rfl⟩:=hb
 cases b'' with
 | false=>exact TrE.pure (by rw [h₁]; exact h₂)
 | true=>exact h₂
theorem ev_or(h:Ev W n env m l (fun v σ₁=>∃ b,v=.bool b∧if b then Q (.bool true) σ₁ else Ev W n env m r Q σ₁) σ):Ev W n env m (.BoolOp .Or [l,r] pos) Q σ:=by
 unfold Ev
 rw [arm_eval_BoolOp]
 show TrE W n env m (boolOp pos .Or [eval l env,eval r env]) _ σ
 refine TrE.bind (TrE.mono h fun v σ₁ zq=>ex2 zq fun b h₁ h₂=>TrE.bind (TrE.standAt (TrE.bind (TrE.holding (TrE.mono (tr_truthy (Q:=fun b'' σ'=>b''=b∧σ'=σ₁) h₁ ⟨rfl,rfl⟩).toE fun b'' σ' hb=>?_)))))
 obtain ⟨rfl,rfl⟩:=hb
 cases b'' with
 | true=>exact TrE.pure (by rw [h₁]; exact h₂)
 | false=>exact h₂
theorem ev_ife{t b o:Expr}(h:Te W n env m t (fun c σ₁=>if c then Ev W n env m b Q σ₁ else Ev W n env m o Q σ₁) σ):Ev W n env m (.IfExp t b o pos) Q σ:=by
 unfold Ev
 rw [arm_eval_IfExp]
 refine TrE.bind (TrE.mono h fun c σ₁ h₁=>?_)
 cases c with
 | true=>exact h₁
 | false=>exact h₁
theorem ev_splice{env:Env}:∀{es:List Expr}{Q:List Value→St→Prop}{σ:St},(es.all fun | .Starred ..=>false | _=>true)=true→Evs W n env m es Q σ→∀ pos,TrE W n env m (spliced (backTo pos (starEach es env))) (fun vs σ'=>Q (vs.map er) σ') σ
 | [],Q,σ,_,h,_=>TrE.pure h
 | e :: es,Q,σ,hs,h,pos=>by
  rw [List.all_cons,Bool.and_eq_true] at hs
  have e1:starEach (e :: es) env=(false,eval e env) :: starEach es env:=by
   cases e <;> first | rfl | cases hs.1
  rw [e1]
  show TrE W n env m (spliced ((false,eval e env) :: backTo pos (starEach es env))) _ σ
  unfold spliced
  refine TrE.bind (TrE.mono h fun v σ₁ h₁=>?_)
  show TrE W n env m (pure [v] >>= _) _ σ₁
  refine TrE.bind (TrE.pure (TrE.bind (TrE.holding (TrE.mono (ev_splice hs.2 h₁ pos) fun vs σ₂ h₂=>TrE.pure ?_))))
  exact h₂
theorem Evs.mono{env:Env}:∀{es:List Expr}{σ:St}{Q Q':List Value→St→Prop},Evs W n env m es Q σ→(∀ vs σ',Q vs σ'→Q' vs σ')→Evs W n env m es Q' σ
 | [],_,_,_,h,k=>k _ _ h
 | e :: es,_,_,_,h,k=>TrE.mono h fun v σ₁ h₁=>Evs.mono h₁ fun vs σ' q=>k _ _ q
theorem Evs.len{env:Env}:∀{es:List Expr}{σ:St}{Q:List Value→St→Prop},Evs W n env m es Q σ→Evs W n env m es (fun vs σ'=>vs.length=es.length∧Q vs σ') σ
 | [],_,_,h=>⟨rfl,h⟩
 | e :: es,_,_,h=>TrE.mono h fun v σ₁ h₁=>Evs.mono (Evs.len h₁) fun vs σ' q=>⟨by rw [List.length_cons,List.length_cons,q.1],q.2⟩
theorem ev_list{es:List Expr}(hs:(es.all fun | .Starred ..=>false | _=>true)=true)(hl:es.length≤1000)(h:Evs W n env m es (fun vs σ₁=>∀ a,σ₁.at a=none→Q (.ref a) (σ₁.put a (.list vs))) σ):Ev W n env m (.List es pos) Q σ:=by
 unfold Ev
 rw [arm_eval_List]
 refine TrE.bind (TrE.standAt (TrE.bind ?_))
 refine TrE.mono (ev_splice hs (Evs.len h) pos) fun vs σ₁ zq=>zq.elim fun h₁ h₂=>?_
 rw [List.length_map] at h₁
 exact (tr_newList (by rw [h₁,sizeLine_eq]; exact Nat.le_trans hl (by decide)) h₂).toE
theorem ev_tuple{es:List Expr}{k:Nat}(hs:(es.all fun | .Starred ..=>false | _=>true)=true)(hl:es.length≤1000)(h:Evs W n env m es (fun vs σ₁=>∀ a,σ₁.at a=none→Q (.ref a) (σ₁.newP a (.tuple vs))) σ):Ev W n env m (.Tuple es k pos) Q σ:=by
 unfold Ev
 rw [arm_eval_Tuple]
 refine TrE.bind (TrE.standAt (TrE.bind ?_))
 refine TrE.mono (ev_splice hs (Evs.len h) pos) fun vs σ₁ zq=>zq.elim fun h₁ h₂=>?_
 rw [List.length_map] at h₁
 exact (tr_newTuple (by rw [h₁,sizeLine_eq]; exact lin [] [_] [65544212] 1099511635988 149058 rfl hl) h₂).toE
noncomputable def notBareCall:Expr→Bool
 | .Call (.Name _ _) [] [] _=>false
 | _=>true
theorem attributeBase_plain{o:Expr}{attr:Str}{whole:Sem Value}(h:notBareCall o=true):attributeBase o attr env whole=whole:=by
 cases o with
 | Call f args kws pos =>
  cases f with
  | Name =>
   cases args with
   | nil =>
    cases kws with
    | nil=>cases h
    | _=>rfl
   | _=>rfl
  | _=>rfl
 | _=>rfl
theorem tr_letTemp{base:Expr}{o v:Value}{Q:Unit→St→Prop}(h:Q () σ):TrE W n env m (letTemporaryGo base o v) Q σ:=fun A s r R F=>wpAny_letTemporaryGo ⟨σ,R,.refl _ _,h⟩
noncomputable def Attr(W:Wd KK)(n:Nat)(vo:Value)(name:Str)(Q:Value→St→Prop)(σ:St):Prop:=∀ o expr,er o=vo→Tr W n (getAttr o name expr) (fun v σ'=>Q (er v) σ') σ
theorem ev_attr{o:Expr}{name:Str}(hb:notBareCall o=true)(h:Ev W n env m o (fun vo σ₁=>Attr W n vo name Q σ₁) σ):Ev W n env m (.Attribute o name pos) Q σ:=by
 unfold Ev
 rw [arm_eval_Attribute,attributeBase_plain hb]
 exact TrE.bind (TrE.mono h fun vo σ₁ h₁=>TrE.bind (TrE.standAt (TrE.bind (TrE.mono (TrE.holding (h₁ vo true rfl).toE) fun v σ₂ h₂=>TrE.bind (tr_letTemp (TrE.pure h₂))))))
noncomputable def notSlice:Expr→Bool
 | .Slice ..=>false
 | _=>true
theorem subscripted_plain{slice:Expr}{o i:Value}(h:notSlice slice=true):subscripted slice false o i=PySem.operate [o,i] (getItem o i):=by
 cases slice <;> first | rfl | cases h
noncomputable def Item(W:Wd KK)(n:Nat)(vo vi:Value)(Q:Value→St→Prop)(σ:St):Prop :=
 ∀ o i value slice,notSlice slice=true→er o=vo→er i=vi→Tr W n (subscriptTail value slice o i) (fun v σ'=>Q (er v) σ') σ
theorem ev_item{o i:Expr}(hs:notSlice i=true)(h:Ev W n env m o (fun vo σ₁=>Ev W n env m i (fun vi σ₂=>Item W n vo vi Q σ₂) σ₁) σ):Ev W n env m (.Subscript o i pos) Q σ:=by
 unfold Ev
 rw [arm_eval_Subscript]
 exact TrE.bind (TrE.mono h fun vo σ₁ h₁=>TrE.bind (TrE.holding (TrE.mono h₁ fun vi σ₂ h₂=>TrE.bind (TrE.standAt (h₂ vo vi o i hs rfl rfl).toE))))
theorem item_list{l:Addr}{vs:List Value}{k:Int}{v:Value}(hl:σ.at l=some (.list vs))(h0:0≤k)(hf:k < 2 ^ 63)(hv:vs[k.toNat]?=some v)(h:Q v σ):Item W n (.ref l) (.int k 0) Q σ:=by
 intro o i value slice hs ho hi A s r R
 obtain rfl:=er_ref ho
 obtain ⟨nn,items,h1,h2⟩:=R.ats _ _ hl
 exact tail_any (T:="list") ⟨_,h1,rfl⟩ slot_list_getitem.lookup (tr_item_list hl hi h0 hf hv h A s r R) (subscripted_plain hs)
theorem item_list_neg{l:Addr}{vs:List Value}{k:Int}{v:Value}(hl:σ.at l=some (.list vs))(h0:k < 0)(hf:-(2 ^ 63)≤k)(hlen:0≤k+vs.length)(hv:vs[(k+vs.length).toNat]?=some v)(h:Q v σ):Item W n (.ref l) (.int k 0) Q σ:=by
 intro o i value slice hs ho hi A s r R
 obtain rfl:=er_ref ho
 obtain ⟨nn,items,h1,h2⟩:=R.ats _ _ hl
 exact tail_any (T:="list") ⟨_,h1,rfl⟩ slot_list_getitem.lookup (tr_item_list_neg hl hi h0 hf hlen hv h A s r R) (subscripted_plain hs)
theorem item_tuple{l:Addr}{vs:List Value}{k:Int}{v:Value}(hl:σ.at l=some (.tuple vs))(h0:0≤k)(hf:k < 2 ^ 63)(hv:vs[k.toNat]?=some v)(h:Q v σ):Item W n (.ref l) (.int k 0) Q σ:=by
 intro o i value slice hs ho hi A s r R
 obtain rfl:=er_ref ho
 obtain ⟨nn,items,h1,h2⟩:=R.ats _ _ hl
 exact tail_any (T:="tuple") ⟨_,h1,rfl⟩ PySem.F.slot_tuple_getitem.lookup (tr_item_tuple hl hi h0 hf hv h A s r R) (subscripted_plain hs)
noncomputable def keepF(K:Frag):Value→Bool
 | .ref a=>keepIn K (.ref a)
 | .builtin _=>true
 | .type _=>true
 | _=>false
theorem keeps_F{K:Frag}{M:Model}{f:Value}(hk:keepF K f=true)(h:Heap)(X:K.In h):∃ k,(k=Keeper.frame∨k=Keeper.machine∨k=Keeper.boundFrame)∧Looks M h (keeperOf f) k:=by
 cases f with
 | ref a=>exact keeps_K (show keepIn K (.ref a)=true from hk) h X
 | builtin i=>exact ⟨.machine,.inr (.inl rfl),Looks.of_pure rfl⟩
 | type i=>exact ⟨.machine,.inr (.inl rfl),Looks.of_pure rfl⟩
 | _=>exact nomatch show false=true from hk
theorem keepF_er{K:Frag}{f:Value}(h:keepF K (er f)=true):keepF K f=true:=by cases f <;> exact h
noncomputable def Callee(W:Wd KK)(n:Nat)(vf:Value)(vs:List Value)(Q:Value→St→Prop)(σ:St):Prop :=
 keepF W.K vf=true∧∀ f vs',er f=vf→vs'.map er=vs→Tr W n (call f vs') (fun v σ'=>Q (er v) σ') σ
theorem ev_args{f:Value}{es:List Expr}{Q:List Value→St→Prop}(hs:(es.all fun | .Starred ..=>false | _=>true)=true)(h:Evs W n env m es Q σ):
  TrE W n env m (evalArgs f true (backTo pos (starEach es env)) (backToKw pos (keywordEach [] env))) (fun a σ'=>a.kw=[]∧Q (a.pos.map er) σ') σ:=by
 have h':=ev_splice hs h pos
 show TrE W n env m (evalArgs f true (backTo pos (starEach es env)) []) _ σ
 intro A s r R F
 cases es with
 | nil=>exact evalArgs_nil3 ⟨σ,R,.refl _ _,rfl,h⟩
 | cons e es =>
  have e1:starEach (e :: es) env=(false,eval e env) :: starEach es env:=by
   rw [List.all_cons,Bool.and_eq_true] at hs
   cases e <;> first | rfl | cases hs.1
  rw [e1] at h' ⊢
  refine evalArgs_plain (wpAny_mono (h' A s r R F) (fun vs s' z=>?_) fun _ _ z=>z)
  obtain ⟨σ',a,b,c⟩:=z
  exact ⟨σ',a,b,rfl,c⟩
theorem tr_callWith{p:Pos}{f:Value}{first:List Value}{es:List Expr}(hs:(es.all fun | .Starred ..=>false | _=>true)=true)
  (h:Evs W n env m es (fun vs σ'=>Callee W n (er f) (first.map er++vs) Q σ') σ):TrE W n env m (callWith p f first (backTo pos (starEach es env)) (backToKw pos (keywordEach [] env))) (fun v σ'=>Q (er v) σ') σ:=fun A s r R F=>by
 have hstar:∀ es:List Expr,(es.all fun | .Starred ..=>false | _=>true)=true→(backTo pos (starEach es env)).any (·.1)=false:=by
  intro es
  induction es with
  | nil=>intro _; rfl
  | cons e es ih =>
   intro hs
   rw [List.all_cons,Bool.and_eq_true] at hs
   have e1:starEach (e :: es) env=(false,eval e env) :: starEach es env:=by
    cases e <;> first | rfl | cases hs.1
   rw [e1]
   show (false||(backTo pos (starEach es env)).any (·.1))=false
   rw [ih hs.2]; rfl
 refine callWith_of (P:=fun h=>W.K.In h∧keepF W.K (er f)=true) (by rw [hstar es hs]; rfl) (fun h X=>keeps_F (keepF_er X.2) h X.1) (wpE (ev_args (f:=f) hs h A s r R F) (fun a s₁ σ₁ R₁ S₁ zq=>?_))
 obtain ⟨hkw,h₁⟩:=zq
 obtain ⟨ap,akw⟩:=a
 dsimp only at hkw h₁
 subst hkw
 refine ⟨⟨W.hK.keeps R₁.keep,h₁.1⟩,wpE (h₁.2 f (first++ap) rfl (by rw [List.map_append]) A s₁ r R₁) (fun v s₂ σ₂ R₂ S₂ q=>⟨σ₂,R₂,S₁.trans S₂,q⟩)⟩
noncomputable def notAttr:Expr→Bool
 | .Attribute ..=>false
 | _=>true
theorem eval_call{func:Expr}{args:List Expr}(h:notAttr func=true):eval (.Call func args [] pos) env=(do callWith pos (← eval func env) [] (backTo pos (starEach args env)) (backToKw pos (keywordEach [] env))):=by
 cases func <;> first | rfl | cases h
theorem ev_call{func:Expr}{es:List Expr}(ha:notAttr func=true)(hs:(es.all fun | .Starred ..=>false | _=>true)=true)
  (h:Ev W n env m func (fun vf σ₁=>Evs W n env m es (fun vs σ₂=>Callee W n vf vs Q σ₂) σ₁) σ):Ev W n env m (.Call func es [] pos) Q σ:=by
 unfold Ev
 rw [eval_call ha]
 exact TrE.bind (TrE.mono h fun f σ₁ h₁=>tr_callWith hs h₁)
noncomputable def Meth(W:Wd KK)(n:Nat)(vo:Value)(name:Str)(K:Value→List Value→St→Prop)(σ:St):Prop:=∀ o pl,er o=vo→Tr W n (getMethod o name pl) (fun p σ'=>K (er p.1) (p.2.map er) σ') σ
theorem ev_meth{o:Expr}{name:Str}{apos:Pos}{es:List Expr}(hb:notBareCall o=true)(hs:(es.all fun | .Starred ..=>false | _=>true)=true)(hl:es.length < 30)(hp:apos.endLine=pos.line)
  (h:Ev W n env m o (fun vo σ₁=>Meth W n vo name (fun f first σ₂=>Evs W n env m es (fun vs σ₃=>Callee W n f (first++vs) Q σ₃) σ₂) σ₁) σ):Ev W n env m (.Call (.Attribute o name apos) es [] pos) Q σ:=by
 have hform:methodCallForm (es.length+([]:List Keyword).length) (backTo pos (starEach es env)) (backToKw pos (keywordEach [] env))=true:=by
  have hstar:∀ es:List Expr,(es.all fun | .Starred ..=>false | _=>true)=true→(backTo pos (starEach es env)).all (fun x=>!x.1)=true:=by
   intro es
   induction es with
   | nil=>intro _; rfl
   | cons e es ih =>
    intro hs
    rw [List.all_cons,Bool.and_eq_true] at hs
    have e1:starEach (e :: es) env=(false,eval e env) :: starEach es env:=by
     cases e <;> first | rfl | cases hs.1
    rw [e1]
    show (true&&(backTo pos (starEach es env)).all (fun x=>!x.1))=true
    rw [ih hs.2]; rfl
  unfold methodCallForm
  rw [hstar es hs]
  show (true&&true&&decide (es.length+0+0 < 30))=true
  simp [hl]
 unfold Ev
 rw [arm_eval_Call,attributeBase_plain hb]
 refine TrE.bind (TrE.mono h fun vo σ₁ h₁=>TrE.bind (TrE.standAt ?_))
 unfold methodCall
 rw [hform]
 refine TrE.bind (TrE.holding ?_)
 show TrE W n env m (getMethod vo name _) _ σ₁
 refine TrE.mono (h₁ vo _ rfl).toE fun p σ₂ h₂=>?_
 obtain ⟨f,first⟩:=p
 have hpos:methodCallPos true o env apos pos=pure pos:=by
  unfold methodCallPos
  simp [hp]
 show TrE W n env m (methodCallPos true o env apos pos >>= fun callPos=>callWith callPos f first (backTo pos (starEach es env)) (backToKw pos (keywordEach [] env))) _ σ₂
 rw [hpos]
 exact TrE.bind (TrE.pure (tr_callWith hs h₂))
end X
end
section
variable {KK:Params→Frag}{W:Wd KK}{n:Nat}{env:Env}{m:Lm}{σ:St}
noncomputable def erF:Flow→Flow
 | .ret v=>.ret (er v)
 | f=>f
noncomputable abbrev Ex(W:Wd KK)(n:Nat)(env:Env)(m:Lm)(st:Stmt)(Q:Flow→Lm→St→Prop)(σ:St):Prop:=TrS W n env m (exec st env) (fun f m' σ'=>Q (erF f) m' σ') σ
noncomputable abbrev Exs(W:Wd KK)(n:Nat)(env:Env)(m:Lm)(st:List Stmt)(Q:Flow→Lm→St→Prop)(σ:St):Prop:=TrS W n env m (execs st env) (fun f m' σ'=>Q (erF f) m' σ') σ
theorem TrS.bindE{α β:Type}{t:Sem α}{k:α→Sem β}{Q:β→Lm→St→Prop}(h:TrE W n env m t (fun v σ'=>TrS W n env m (k v) Q σ') σ):TrS W n env m (t >>= k) Q σ :=
 TrS.bind (TrE.toS (Q:=fun v m' σ'=>TrS W n env m' (k v) Q σ') h)
noncomputable def upd(m:Lm)(x:Str)(v:Value):Lm:=fun y=>if y=x then some v else m y
section Ops
variable {a b:Value}{i j:Int}{Q:Value→St→Prop}
noncomputable def Inp(W:Wd KK)(n:Nat)(op:Operator)(va vb:Value)(Q:Value→St→Prop)(σ:St):Prop:=∀ a b,er a=va→er b=vb→Tr W n (inplaceOp op a b) (fun v σ'=>Q (er v) σ') σ
theorem inp_add(h:Q (.int (i+j) 0) σ):Inp W n .Add (.int i 0) (.int j 0) Q σ:=fun a b ha hb A s r R=>by
 obtain ⟨t,rfl⟩:=er_int ha; obtain ⟨u,rfl⟩:=er_int hb
 exact wpAny_iadd_int ⟨σ,R.toks _,Step.toks _ _ _,h⟩
theorem list_iadd_type:typeLookup (.type "list") (dunderI "add")=pure (some (.builtin "list.__iadd__")):=PySem.F.slot_list_iadd.lookup
theorem isSeq_iadd:isSeqSlot (some (.builtin "list.__iadd__"))=true:=by decide +kernel
theorem seq_list_iadd:seqSlot? (.type "list") (dunderI "add")=pure (some (.builtin "list.__iadd__")):=by
 unfold seqSlot?
 rw [list_iadd_type]
 rw [pure_bind,isSeq_iadd]
 rfl
theorem inp_list{l b:Addr}{vs ws:List Value}(hl:σ.H l=some (.list vs))(hb:σ.at b=some (.list ws))(hs:vs.length+ws.length≤sizeLine)(h:Q (.ref l) (σ.put l (.list (vs++ws)))):
  Inp W n .Add (.ref l) (.ref b) Q σ:=fun x y ha hb' A s r R=>by
 obtain rfl:=er_ref ha
 obtain rfl:=er_ref hb'
 obtain ⟨nn,items,h1,h2⟩:=R.ats _ _ (St.at_of_H hl)
 obtain ⟨nn',items',h3,h4⟩:=R.ats _ _ hb
 have z1:=size_of_map h2
 have z2:=size_of_map h4
 have T1:s.TypeIs (.ref l) "list":=⟨_,h1,rfl⟩
 have T2:s.TypeIs (.ref b) "list":=⟨_,h3,rfl⟩
 have hfi:fillsInplaceSlot (.type "list") "add" (Operator.Add==.Add)=pure false:=by
  unfold fillsInplaceSlot
  show (typeLookup (.type "list") (dunderI "add") >>= fun fi=>pure (fi.isSome&&!isSeqSlot fi))=pure false
  rw [list_iadd_type]
  rw [pure_bind,isSeq_iadd]; rfl
 have e2:(s.heap.update l (Obj.mapSeq fun x=>x++items')).get? l=some { cls:=.type "list",data:=.seq (items++items') (if (items++items').size==items.size then nn else nn+1) }:=by
  rw [Heap.get?_update_self _ h1 (by rw [mapSeq_app]; rfl),mapSeq_app]
 obtain ⟨R',S'⟩:=R.putUpd (s':={ s with heap:=s.heap.update l (Obj.mapSeq fun x=>x++items'),toks:=s.toks }) hl (fun b hb=>Heap.get?_update_other s.heap _ (Ne.symm hb))
  (show AbsAt W _ l (.list (vs++ws)) from ⟨_,_,e2,by simp [h2,h4]⟩) rfl rfl
 unfold inplaceOp
 refine wpAny_holding (wpAny_bind (wpAny_typeOf T1 (wpAny_bind (wpAny_of_eq hfi ?_))))
 refine wpAny_bind (binaryOp1_none (nm:="add") T1 T2 noFill_list_add ?_)
 refine wpAny_bind (wpAny_of_eq seq_list_iadd (wpAny_bind (wpAny_rule ?_)))
 exact call_meets PySem.F.slot_list_iadd T1 PySem.F.entry_list_iadd (PySem.F.args_list_iadd_2 _ _)
  (PySem.AutoSeq1.list___iadd___list_list_0 l items nn b items' nn' (extend_door (by exact lin [] [_,_,_,_,_] [4429226244,98390,2228326] 283669340516 9175130722372 rfl hs z1 z2)) (by exact lin [] [_,_,_,_] [4429226244,98390] 2195540 18277144643 rfl hs z1)) ⟨h1,h3,⟨_,R',S',h⟩⟩
end Ops
section X
variable {Q:Flow→Lm→St→Prop}{pos:Pos}{e:Expr}
theorem ex_pass(h:Q .next m σ):Ex W n env m (.Pass pos) Q σ:=TrS.pure h
theorem ex_cont(h:Q .cont m σ):Ex W n env m (.Continue pos) Q σ:=TrS.pure h
theorem ex_brk(h:Q .brk m σ):Ex W n env m (.Break pos) Q σ:=TrS.pure h
theorem ex_ret0(h:Q (.ret .none) m σ):Ex W n env m (.Return none pos) Q σ:=TrS.pure h
theorem ex_ret(h:Ev W n env m e (fun v σ'=>Q (.ret v) m σ') σ):Ex W n env m (.Return (some e) pos) Q σ:=by
 unfold Ex
 rw [exec_Return_some]
 exact TrS.bindE (TrE.standAt (TrS.bindE (TrE.mono h fun v σ' h'=>TrS.pure h')))
noncomputable def notComp:Expr→Bool
 | .ListComp ..=>false
 | .SetComp ..=>false
 | .DictComp ..=>false
 | _=>true
theorem swaps_no{target:Option Expr}{line:Nat}(h:notComp e=true):swapsWith e target line env=pure false:=by
 cases e <;> first | rfl | cases h
theorem ex_expr(hc:notComp e=true)(h:Ev W n env m e (fun v σ'=>(∀ a,v≠.ref a)∧Q .next m σ') σ):Ex W n env m (.Expr e pos) Q σ:=fun A s r R F=>by
 refine wpAny_Expr (wpE (h A s r R F) (fun v s₁ σ₁ R₁ S₁ zq=>?_)) F.plain (swaps_no hc)
 obtain ⟨h1,h2⟩:=zq
 have z:PS (Own env) W env (fun f m' σ'=>Q (erF f) m' σ') σ s .next s₁:=⟨m,σ₁,R₁,F.step S₁,S₁.toB,h2⟩
 cases v <;> first | exact z | exact absurd rfl (h1 _)
theorem ex_assign{x:Str}{p:Pos}(hc:notComp e=true)(hk:env.kindOf x=some .local∨env.kindOf x=some .cell)(hd:x≠"__debug__") (hcd:x≠"__classdict__")
  (h:Ev W n env m e (fun v σ'=>Q .next (upd m x v) σ') σ):Ex W n env m (.Assign [.Name x p] e pos) Q σ:=by
 have:exec (.Assign [.Name x p] e pos) env=(do PySem.standAt pos; let v ← eval e env; PySem.standAt p; bindName env x v; pure .next):=exec_Assign_Name env x p e pos (swaps_no hc)
 unfold Ex
 rw [this]
 refine TrS.bindE (TrE.standAt (TrS.bindE (TrE.mono h fun v σ' h'=>TrS.bindE (TrE.standAt (TrS.bind ?_)))))
 have hb:TrS W n env m (bindName env x v) (fun _ m' σ''=>TrS W n env m' (pure .next) (fun f m' σ'=>Q (erF f) m' σ') σ'') σ':=fun A s r R F=>wpAny_bindName (st_name (own_name env x) hk hd hcd (Q:=fun _ m' σ''=>TrS W n env m' (pure Flow.next) (fun f m' σ'=>Q (erF f) m' σ') σ'') (TrS.pure h') A s r R F)
 exact hb
theorem ex_aug{x:Str}{p:Pos}{op:Operator}{v0:Value}(hx:m x=some v0)(hk:env.kindOf x=some .local∨env.kindOf x=some .cell)(hd:x≠"__debug__") (hcd:x≠"__classdict__")
  (h:Ev W n env m e (fun v σ'=>Inp W n op v0 v (fun v' σ''=>Q .next (upd m x v') σ'') σ') σ):Ex W n env m (.AugAssign (.Name x p) op e pos) Q σ:=by
 unfold Ex
 rw [exec_AugAssign_Name]
 refine TrS.bindE (TrE.standAt (TrS.bindE ?_))
 have h0:TrE W n env m (loadName env x) (fun v σ'=>er v=v0∧σ'=σ) σ:=ld_loc (Q:=fun v σ'=>v=v0∧σ'=σ) hx ⟨rfl,rfl⟩
 refine TrE.mono h0 fun old σ' ho=>?_
 obtain ⟨e1,rfl⟩:=ho
 refine TrS.bindE (TrE.holding (TrE.mono h fun v σ'' h'=>TrS.bindE (TrE.standAt (TrS.bindE (TrE.mono (TrE.operate (h' old v e1 rfl).toE) fun r σ₃ h₃=>TrS.bindE (TrE.standAt (TrS.bind ?_)))))))
 intro A s rr R F
 exact wpAny_bindName (st_name (own_name env x) hk hd hcd (Q:=fun _ m' σ''=>TrS W n env m' (pure Flow.next) (fun f m' σ'=>Q (erF f) m' σ') σ'') (TrS.pure h₃) A s rr R F)
noncomputable def SetA(W:Wd KK)(n:Nat)(vo:Value)(name:Str)(v:Value)(Q:St→Prop)(σ:St):Prop:=∀ o x,er o=vo→er x=v→Tr W n (setAttr o name x) (fun _ σ'=>Q σ') σ
theorem ex_setattr{o:Expr}{name:Str}{p:Pos}(hc:notComp e=true∨(match e with | .SetComp ..=>false | .DictComp ..=>false | _=>true)=true)
  (h:Ev W n env m e (fun v σ₁=>Ev W n env m o (fun vo σ₂=>SetA W n vo name v (fun σ₃=>Q .next m σ₃) σ₂) σ₁) σ):Ex W n env m (.Assign [.Attribute o name p] e pos) Q σ:=fun A s r R F=>by
 refine plainObj_wpAny_Assign_Attribute (wpE (h A s r R F) (fun v s₁ σ₁ R₁ S₁ h₁=>wpE (h₁ A s₁ r R₁ (F.step S₁)) (fun vo s₂ σ₂ R₂ S₂ h₂=>wpE (h₂ vo v rfl rfl A s₂ r R₂) (fun _ s₃ σ₃ R₃ S₃ h₃=>⟨m,σ₃,R₃,F.step (S₁.trans (S₂.trans S₃)),(S₁.trans (S₂.trans S₃)).toB,h₃⟩)))) ?_
 cases e <;> rfl
noncomputable def SetI(W:Wd KK)(n:Nat)(vo vi:Value)(v:Value)(Q:St→Prop)(σ:St):Prop:=∀ o i x,er o=vo→er i=vi→er x=v→Tr W n (setItem o i x) (fun _ σ'=>Q σ') σ
theorem ex_setitem{o i:Expr}{p:Pos}
  (h:Ev W n env m e (fun v σ₁=>Ev W n env m o (fun vo σ₂=>Ev W n env m i (fun vi σ₃=>SetI W n vo vi v (fun σ₄=>Q .next m σ₄) σ₃) σ₂) σ₁) σ):Ex W n env m (.Assign [.Subscript o i p] e pos) Q σ:=fun A s r R F=>by
 refine wpAny_Assign_Subscript (wpE (h A s r R F) (fun v s₁ σ₁ R₁ S₁ h₁=>wpE (h₁ A s₁ r R₁ (F.step S₁)) (fun vo s₂ σ₂ R₂ S₂ h₂=>wpE (h₂ A s₂ r R₂ (F.step (S₁.trans S₂))) (fun vi s₃ σ₃ R₃ S₃ h₃=>wpE (h₃ vo vi v rfl rfl rfl A s₃ r R₃) (fun _ s₄ σ₄ R₄ S₄ h₄=>have S:=S₁.trans (S₂.trans (S₃.trans S₄)); ⟨m,σ₄,R₄,F.step S,S.toB,h₄⟩))))) ?_
 cases e <;> rfl
theorem ex_if{t:Expr}{a b:List Stmt}(h:Te W n env m t (fun c σ'=>if c then Exs W n env m a Q σ' else Exs W n env m b Q σ') σ):Ex W n env m (.If t a b pos) Q σ:=by
 unfold Ex
 rw [exec_If]
 refine TrS.bindE (TrE.standAt (TrS.bindE (TrE.mono h fun c σ' h'=>?_)))
 cases c with
 | true=>exact h'
 | false=>exact h'
theorem exs_nil(h:Q .next m σ):Exs W n env m [] Q σ:=TrS.pure h
theorem exs_cons{st:Stmt}{rest:List Stmt}(h:Ex W n env m st (fun f m' σ'=>match f with | .next=>Exs W n env m' rest Q σ' | f=>Q f m' σ') σ):Exs W n env m (st :: rest) Q σ:=by
 unfold Exs
 rw [execs_cons]
 refine TrS.bind (TrS.mono h fun f m' σ' h'=>?_)
 cases f with
 | next=>exact h'
 | brk=>exact TrS.pure h'
 | cont=>exact TrS.pure h'
 | ret v=>exact TrS.pure h'
end X
end
section
variable {KK:Params→Frag}{W:Wd KK}{n:Nat}{env:Env}{m:Lm}{σ:St}
inductive Tg where
 | one (x:Str)
 | many (xs:List Str)
noncomputable def updAll(m:Lm):List Str→List Value→Lm
 | x :: xs,v :: vs=>updAll (upd m x v) xs vs
 | _,_=>m
noncomputable def Kn(σ:St)(a:Addr)(o:AO):Prop:=σ.H a=some o∨σ.P a=some o
theorem Kn.up{s:Shared}{a:Addr}{o:AO}(k:Kn σ a o)(R:Rel W σ s):σ.at a=some o:=by
 rcases k with h | h
 ·exact St.at_of_H h
 ·have:=(R.disj a).resolve_right (by rw [h]; intro z; cases z)
  unfold St.at; rw [this,h]; rfl
noncomputable def BindT(t:Tg)(v:Value)(m:Lm)(σ:St)(K:Lm→Prop):Prop:=match t with
 | .one x=>K (upd m x v)
 | .many xs=>∃ a vs,v=.ref a∧Kn σ a (.tuple vs)∧vs.length=xs.length∧K (updAll m xs vs)
theorem BindT.mono{t:Tg}{v:Value}{K K':Lm→Prop}(h:BindT t v m σ K)(k:∀ m',K m'→K' m'):BindT t v m σ K':=by
 cases t with
 | one x=>exact k _ h
 | many xs=>obtain ⟨a,vs,e1,e2,e3,e4⟩:=h; exact ⟨a,vs,e1,e2,e3,k _ e4⟩
noncomputable def namesOfEs:List Expr→Option (List Str)
 | []=>some []
 | .Name x _ :: r=>(namesOfEs r).map (x :: ·)
 | _=>none
noncomputable def tgOf:Expr→Option Tg
 | .Name x _=>some (.one x)
 | .Tuple es _ _=>(namesOfEs es).map .many
 | _=>none
noncomputable def Tg.names:Tg→List Str
 | .one x=>[x]
 | .many xs=>xs
noncomputable def okName(env:Env)(x:Str):Prop:=(env.kindOf x=some .local∨env.kindOf x=some .cell)∧x≠"__debug__"∧x≠"__classdict__"
theorem st_bind{own:Addr→Prop}{x:Str}{v:Value}{Q:Unit→Lm→St→Prop}(ho:own env.locals∧(env.kindOf x=some .cell→∀ c,env.cells.lookup x=some c→own c))(hk:okName env x)(h:Q () (upd m x (er v)) σ):TrSo own W n env m (bindName env x v) Q σ:=fun A s r R F =>
 wpAny_bindName (st_name ho hk.1 hk.2.1 hk.2.2 h A s r R F)
theorem assign_each{own:Addr→Prop}:∀{es:List Expr}{xs:List Str}{items:List Value}{m:Lm}{σ:St}{Q:Unit→Lm→St→Prop},namesOfEs es=some xs→items.length=es.length→(∀ x∈xs,own env.locals∧(env.kindOf x=some .cell→∀ c,env.cells.lookup x=some c→own c))→(∀ x∈xs,okName env x)→Q () (updAll m xs (items.map er)) σ →
  TrSo own W n env m (assignInOrder ((assignEach es env).map (·.2)) items) Q σ
 | [],xs,items,m,σ,Q,hn,hl,ho,hk,h=>by
  cases hn
  have:items=[]:=List.length_eq_zero_iff.mp hl
  subst this
  exact TrS.pure h
 | e :: es,xs,[],m,σ,Q,hn,hl,ho,hk,h=>by cases hl
 | e :: es,xs,v :: items,m,σ,Q,hn,hl,ho,hk,h=>by
  cases e <;> try (cases hn; done)
  rename_i x p
  obtain ⟨r,hr,rfl⟩:=Option.map_eq_some_iff.mp hn
  show TrSo own W n env m (do PySem.holding items (assign (.Name x p) env v); assignInOrder ((assignEach es env).map (·.2)) items) Q σ
  refine TrS.bind (TrS.holding ?_)
  rw [arm_assign_Name]
  refine TrS.bind (TrS.standAt (st_bind (ho x (.head _)) (hk x (.head _)) ?_))
  exact assign_each hr (by simpa using hl) (fun y hy=>ho y (.tail _ hy)) (fun y hy=>hk y (.tail _ hy)) h
theorem assignEach_len:∀{es:List Expr}{xs:List Str},namesOfEs es=some xs→(assignEach es env).length=es.length∧es.length=xs.length∧(assignEach es env).findIdx? (·.1)=none
 | [],xs,hn=>by cases hn; exact ⟨rfl,rfl,rfl⟩
 | e :: es,xs,hn=>by
  cases e <;> try (cases hn; done)
  rename_i x p
  obtain ⟨r,hr,rfl⟩:=Option.map_eq_some_iff.mp hn
  obtain ⟨a,b,c⟩:=assignEach_len hr
  refine ⟨by show (assignEach es env).length+1=_; rw [a]; rfl,by simp [b],?_⟩
  show ((false,assign (.Name x p) env) :: assignEach es env).findIdx? (·.1)=none
  rw [List.findIdx?_cons,c]; rfl
theorem st_target{own:Addr→Prop}{te:Expr}{tg:Tg}{v:Value}{Q:Unit→Lm→St→Prop}(ht:tgOf te=some tg)(ho:∀ x∈tg.names,own env.locals∧(env.kindOf x=some .cell→∀ c,env.cells.lookup x=some c→own c))(hk:∀ x∈tg.names,okName env x)(h:BindT tg (er v) m σ fun m'=>Q () m' σ):TrSo own W n env m (assign te env v) Q σ:=by
 cases te <;> try (cases ht; done)
 ·rename_i x p
  cases ht
  rw [arm_assign_Name]
  exact TrS.bind (TrS.standAt (st_bind (ho x (.head _)) (hk x (.head _)) h))
 ·rename_i es k p
  obtain ⟨xs,hx,rfl⟩:=Option.map_eq_some_iff.mp ht
  obtain ⟨a,vs,e1,e2,e3,h⟩:=h
  obtain rfl:=er_ref e1
  rw [arm_assign_Tuple]
  refine TrS.bind (TrS.standAt ?_)
  intro A s r R F
  obtain ⟨nn,items,h1,h2⟩:=R.ats _ _ (e2.up R)
  have z:=size_of_map h2
  obtain ⟨l1,l2,l3⟩:=assignEach_len (env:=env) hx
  refine wpAny_unpack_tuple r.handled ⟨_,h1,rfl,nn,rfl⟩ (by rw [l1,l2,z,e3]) l3 fun h' hx'=>?_
  have hk':∀ b o,s.heap.get? b=some o→h'.get? b=some o:=fun b o e=>hx' b o (Nat.ne_of_lt (Heap.lt_size e)) e
  have R':Rel W σ { s with heap:=h' }:=R.of_keeps hk' rfl rfl
  have S':Step σ s σ { s with heap:=h' }:=.of_keeps hk'
  refine wpS (assign_each hx (by rw [Array.length_toList,z,e3,l2]) ho hk (by rw [h2]; exact h) A { s with heap:=h' } r R' (F.step S')) (fun u s₂ m' σ' a1 a2 a3 a4=>⟨m',σ',a1,a2,S'.toB.trans a3,a4⟩)
section X
variable {Q:Flow→Lm→St→Prop}{pos:Pos}{e:Expr}
theorem ex_unpack{es:List Expr}{xs:List Str}{k:Nat}{p:Pos}(hc:notComp e=true)(hne:(match e with | .Tuple ..=>false | .List ..=>false | _=>true)=true)(hx:namesOfEs es=some xs)(hk:∀ x∈xs,okName env x)
  (h:Ev W n env m e (fun v σ'=>BindT (.many xs) v m σ' fun m'=>Q .next m' σ') σ):Ex W n env m (.Assign [.Tuple es k p] e pos) Q σ:=fun A s r R F=>by
 refine Assign_Tuple (wpE (h A s r R F) (fun v s₁ σ₁ R₁ S₁ h₁=>?_)) ?_ ?_
 ·refine wpS (st_target (te:=.Tuple es k p) (tg:=.many xs) (Q:=fun _ m' σ'=>Q .next m' σ') (by show (namesOfEs es).map Tg.many=_; rw [hx]; rfl) (fun x _=>own_name env x) hk h₁ A s₁ r R₁ (F.step S₁)) (fun u s₂ m' σ' a1 a2 a3 a4=>⟨m',σ',a1,a2,S₁.toB.trans a3,a4⟩)
 ·show swapsWith e (some (.Tuple es k p)) pos.line env=pure false
  exact swaps_no hc
 ·cases e <;> first | rfl | cases hne
theorem ex_while{t:Expr}{body:List Stmt}(I:Nat→Lm→St→Prop)(k:Nat)(h0:I k m σ)
  (step:∀ k m' σ',(∀ a o,σ.P a=some o→σ'.P a=some o)→I k m' σ'→Te W n env m' t (fun b σ₁=>if b then Exs W n env m' body (fun fl m'' σ₂=>match fl with
   | .next | .cont=>∃ j,j < k∧∃ σ₃,Ghost σ₂ σ₃∧I j m'' σ₃
   | .brk=>Q .next m'' σ₂
   | .ret v=>Q (.ret v) m'' σ₂) σ₁ else Q .next m' σ₁) σ'):Ex W n env m (.While t body [] pos) Q σ:=fun A s r R F=>by
 refine wpAny_While (codeAny_whileLoop (PS (Own env) W env I σ s) ?_ k ⟨m,σ,R,F,.refl _ _ _,h0⟩)
 rintro k s' ⟨m',σ',R',F',S',hI⟩
 refine wpE (step k m' σ' S'.mono hI A s' r R' F') (fun b s₁ σ₁ R₁ S₁ h₁=>?_)
 cases b with
 | true =>
  rw [if_pos rfl] at h₁ ⊢
  refine wpS (h₁ A s₁ r R₁ (F'.step S₁)) (fun fl s₂ m₂ σ₂ R₂ F₂ S₂ h₂=>?_)
  have SS:=S'.trans (S₁.toB.trans S₂)
  cases fl with
  | next=>obtain ⟨j,hj,σ₃,g,hI'⟩:=h₂; exact ⟨j,hj,m₂,σ₃,R₂.ghost g,F₂.step (Step.ghost g),SS.trans (Step.ghost g).toB,hI'⟩
  | cont=>obtain ⟨j,hj,σ₃,g,hI'⟩:=h₂; exact ⟨j,hj,m₂,σ₃,R₂.ghost g,F₂.step (Step.ghost g),SS.trans (Step.ghost g).toB,hI'⟩
  | brk=>exact ⟨m₂,σ₂,R₂,F₂,SS,h₂⟩
  | ret v=>exact ⟨m₂,σ₂,R₂,F₂,SS,h₂⟩
 | false =>
  rw [if_neg (by decide)] at h₁ ⊢
  exact wpAny_execs_nil ⟨m',σ₁,R₁,F'.step S₁,S'.trans S₁.toB,h₁⟩
structure Iter(W:Wd KK)(it:Addr)(xs:List Value)(live:St→Prop)(At:Heap→Nat→Prop):Prop where
 some_:∀{h i},At h i→∃ o,h.get? it=some o
 same:∀{h h' i},(∀ o,h.get? it=some o→h'.get? it=some o)→At h i→At h' i
 item:∀{A:Around}{s:Shared}{σ:St}{i:Nat}{x:Value}{E:Value→Shared→Prop}{Q:Option Value→Shared→Prop},A.handled=none→Rel W σ s→live σ→At s.heap i→xs[i]?=some x →
  (∀ v h' t,er v=x→At h' (i+1)→(∀ b,b≠it→h'.get? b=s.heap.get? b)→Q (some v) { s with heap:=h',toks:=t })→wpAny W.M A (pyNext (.ref it)) Q E s
 done:∀{A:Around}{s:Shared}{σ:St}{i:Nat}{E:Value→Shared→Prop}{Q:Option Value→Shared→Prop},A.handled=none→Rel W σ s→live σ→At s.heap i→xs[i]?=none →
  (∀ h',(∀ b o,b≠it→s.heap.get? b=some o→h'.get? b=some o)→Q none { s with heap:=h' })→wpAny W.M A (pyNext (.ref it)) Q E s
 self:∀{A:Around}{s:Shared}{i:Nat}{E:Value→Shared→Prop}{Q:Value→Shared→Prop},At s.heap i→Q (.ref it) s→wpAny W.M A (pyIter (.ref it)) Q E s
 letGo:∀{A:Around}{s:Shared}{i:Nat}{target:Expr}{v:Value}{E:Value→Shared→Prop}{Q:Unit→Shared→Prop},At s.heap i→Q () s→wpAny W.M A (letOwnedTupleGo target (.ref it) v) Q E s
theorem wp_unless{M:Model}{A:Around}{s:Shared}{a b:Bool}{x y:Sem Unit}{E:Value→Shared→Prop}{Q:Unit→Shared→Prop}(h:a=false)(p:wpAny M A y Q E s):wpAny M A (if (a&&b)=true then x else y) Q E s:=by
 subst h
 exact p
theorem letGo_of{A:Around}{s:Shared}{it:Addr}{o:Obj}{T:String}{target:Expr}{v:Value}{E:Value→Shared→Prop}{Q:Unit→Shared→Prop}{M:Model}(h:s.heap.get? it=some o)(hc:o.cls=.type T)
  (hT:(["enumerate","zip","dict_itemiterator","dict_reverseitemiterator","odict_iterator","itertools.zip_longest","itertools.pairwise"]:List String).contains T=false) (q:Q () s):wpAny M A (letOwnedTupleGo target (.ref it) v) Q E s:=by
 have p:wpAny M A (pure ()) Q E s:=wpAny_pure q
 have k:wpAny M A (letOwnedTupleGo (.List [] default) (.ref it) v) Q E s:=by
  cases v with
  | ref a =>
   refine wpAny_bind (wpAny_load h ?_)
   obtain ⟨c,d,dt,sl⟩:=o
   dsimp only at hc
   subst hc
   cases dt with
   | fields vs=>exact wp_unless hT p
   | _=>exact p
  | _=>exact p
 cases target with
 | Tuple=>exact k
 | List=>exact k
 | _=>exact p
theorem iter_list{l it:Addr}{vs:List Value}:Iter W it vs (fun σ=>Kn σ l (.list vs)) (fun h i=>h.IsListIter it l i) where
 some_:=fun ⟨o,h,_⟩=>⟨o,h⟩
 same:=fun e ⟨o,h,r⟩=>⟨o,e _ h,r⟩
 item:=by
  intro A s σ i x E Q hh R hl hat hx k
  obtain ⟨nn,items,h1,h2⟩:=R.ats _ _ (hl.up R)
  obtain ⟨v,hv,e⟩:=get_of_map h2 hx
  exact wpAny_pyNext_list_item hat ⟨_,h1,rfl,nn,rfl⟩ hv fun h' hi hs=>k v h' s.toks e hi hs.2
 done:=by
  intro A s σ i E Q hh R hl hat hx k
  obtain ⟨nn,items,h1,h2⟩:=R.ats _ _ (hl.up R)
  have hv:items[i]?=none:=by
   rw [← h2,List.getElem?_map,Option.map_eq_none_iff] at hx
   rw [← Array.getElem?_toList]; exact hx
  exact wpAny_pyNext_list_end hh hat ⟨_,h1,rfl,nn,rfl⟩ hv fun h' hk=>k h' hk
 self:=fun h q=>wpAny_pyIter_listiter h q
 letGo:=fun ⟨o,h,hc,_⟩ q=>letGo_of h hc (by decide +kernel) q
theorem iter_tuple{l it:Addr}{vs:List Value}:Iter W it vs (fun σ=>Kn σ l (.tuple vs)) (fun h i=>h.IsTupleIter it l i) where
 some_:=fun ⟨o,h,_⟩=>⟨o,h⟩
 same:=fun e ⟨o,h,r⟩=>⟨o,e _ h,r⟩
 item:=by
  intro A s σ i x E Q hh R hl hat hx k
  obtain ⟨nn,items,h1,h2⟩:=R.ats _ _ (hl.up R)
  obtain ⟨v,hv,e⟩:=get_of_map h2 hx
  exact wpAny_pyNext_tuple_item hat ⟨_,h1,rfl,nn,rfl⟩ hv fun h' hi hs=>k v h' s.toks e hi hs.2
 done:=by
  intro A s σ i E Q hh R hl hat hx k
  obtain ⟨nn,items,h1,h2⟩:=R.ats _ _ (hl.up R)
  have hv:items[i]?=none:=by
   rw [← h2,List.getElem?_map,Option.map_eq_none_iff] at hx
   rw [← Array.getElem?_toList]; exact hx
  exact wpAny_pyNext_tuple_end hh hat ⟨_,h1,rfl,nn,rfl⟩ hv fun h' hk=>k h' hk
 self:=fun h q=>wpAny_pyIter_tupleiter h q
 letGo:=fun ⟨o,h,hc,_⟩ q=>letGo_of h hc (by decide +kernel) q
noncomputable def rangeL(a b c:Int):List Value:=(List.range (Builtin.Range.rangeSize a b c).toNat).map fun k:Nat=>.int (a+k * c) 0
theorem rangeSize_nonneg(a b c:Int):0≤Builtin.Range.rangeSize a b c:=by
 unfold Builtin.Range.rangeSize
 split
 ·split
  ·have:=Int.ediv_nonneg (a:=b-a-1) (b:=c) (by (rename_i q0; exact lin [_,_] [] [65554] 10446536888353 149058 rfl q0)) (by (rename_i q1 _; exact lin [_] [] [4130] 4129 149058 rfl q1)); exact lin [_] [] [4129] 604147745 149058 rfl this
  ·exact lin [] [] [] 20513 449 rfl
 ·split
  ·have:=Int.ediv_nonneg (a:=a-b-1) (b:=-c) (by (rename_i q0; exact lin [_,_] [] [65554] 10446536888353 149058 rfl q0)) (by (rename_i q1 _; exact lin [_] [] [4136] 86049 149058 rfl q1)); exact lin [_] [] [4129] 604147745 149058 rfl this
  ·exact lin [] [] [] 20513 449 rfl
theorem iter_range{it:Addr}{a b c:Int}:Iter W it (rangeL a b c) (fun _=>True) (fun h i=>IsRangeIter h it (a+i * c) (Builtin.Range.rangeSize a b c-i) c) where
 some_:=fun h=>⟨_,h⟩
 same:=fun e h=>e _ h
 item:=by
  intro A s σ i x E Q hh R _ hat hx k
  unfold rangeL at hx
  rw [List.getElem?_map] at hx
  obtain ⟨j,hj,rfl⟩:=Option.map_eq_some_iff.mp hx
  have hj':=List.getElem?_eq_some_iff.mp hj
  obtain ⟨hlt,hj'⟩:=hj'
  rw [List.length_range] at hlt
  rw [List.getElem_range] at hj'
  subst hj'
  have:=rangeSize_nonneg a b c
  refine wpAny_pyNext_range_item hat (by omega) fun h' hi hs=>k _ h' (s.toks+1) rfl ?_ hs.2
  have e1:a+(i:Int) * c+c=a+((i+1:Nat):Int) * c:=by
   rw [Int.natCast_add,Int.add_mul]; omega
  have e2:Builtin.Range.rangeSize a b c-(i:Int)-1=Builtin.Range.rangeSize a b c-((i+1:Nat):Int):=by exact Int.le_antisymm (lin [_] [_] [] 5314211582558830309857 449 rfl ) (lin [_] [_] [] 5755583396249671348721 449 rfl )
  rw [← e1,← e2]
  exact hi
 done:=by
  intro A s σ i E Q hh R _ hat hx k
  unfold rangeL at hx
  rw [List.getElem?_map,Option.map_eq_none_iff,List.getElem?_eq_none_iff,List.length_range] at hx
  exact wpAny_pyNext_range_end hh hat (by omega) fun h' hk=>k h' hk
 self:=fun h q=>wpAny_pyIter_rangeiter h q
 letGo:=fun h q=>letGo_of h rfl (by decide +kernel) q
theorem small_of{a b c:Int}(ha:-(2 ^ 60) < a∧a < 2 ^ 60)(hb:-(2 ^ 60) < b∧b < 2 ^ 60)(hc:c≠0∧-(2 ^ 60) < c∧c < 2 ^ 60):Builtin.Range.small a b c=true:=by
 have h0:=rangeSize_nonneg a b c
 have h1:Builtin.Range.rangeSize a b c≤2 ^ 61+1:=by
  unfold Builtin.Range.rangeSize
  split
  ·split
   ·have:=Int.ediv_le_self (a:=b-a-1) c (by (rename_i q0; exact lin [_,_] [] [65554] 10446536888353 149058 rfl q0)); omega
   ·omega
  ·split
   ·have:=Int.ediv_le_self (a:=a-b-1) (-c) (by (rename_i q0; exact lin [_,_] [] [65554] 10446536888353 149058 rfl q0)); omega
   ·omega
 unfold Builtin.Range.small Builtin.Range.rangeFitsLong
 simp only [Bool.and_eq_true,Bool.or_eq_true,decide_eq_true_eq]
 refine ⟨⟨⟨⟨by exact ⟨lin [_,_,_] [] [282674,75557863725914323427347,9671406556917033397846099] 8933505 9072588378180 rfl ha.1 pI60 pI63,lin [_,_,_] [] [65554,604462909807314587451459,9671406556917033397846099] 131090 9072588378180 rfl ha.2 pI60 pI63⟩,by exact ⟨lin [_,_,_] [] [282674,75557863725914323427347,9671406556917033397846099] 8933505 9072588378180 rfl hb.1 pI60 pI63,lin [_,_,_] [] [65554,604462909807314587451459,9671406556917033397846099] 131090 9072588378180 rfl hb.2 pI60 pI63⟩⟩,by exact ⟨lin [_,_,_] [] [282674,75557863725914323427347,9671406556917033397846099] 8933505 9072588378180 rfl hc.2.1 pI60 pI63,lin [_,_,_] [] [65554,604462909807314587451459,9671406556917033397846099] 131090 9072588378180 rfl hc.2.2 pI60 pI63⟩⟩,by omega⟩,.inr ?_⟩
 split
 ·simp only [Bool.and_eq_true,decide_eq_true_eq]; (rename_i q0; exact ⟨lin [_,_,_,_] [] [282674,266274,75557863725914323427347,9671406556917033397878867] 21393592915087489 11382489046602820 rfl hb.1 q0 pI60 pI63,lin [_,_,_,_] [] [65554,1114194,604462909807314587451459,9671406556917033397878867] 432658546991618 114831596737604 rfl hb.2 hc.2.2 pI60 pI63⟩)
 ·simp only [Bool.and_eq_true,decide_eq_true_eq]; (rename_i q0; exact ⟨lin [_,_,_,_] [] [282674,544818,75557863725914323427347,9671406556917033397878867] 21393558555349121 11382420599755844 rfl hb.1 hc.2.1 pI60 pI63,lin [_,_,_,_] [] [65554,266280,604462909807314587451459,9671406556917033397878867] 432658530214402 4574416931935300 rfl hb.2 q0 pI60 pI63⟩)
inductive Over(σ:St):Value→List Value→(St→Prop)→Prop where
 | list {l vs}:Kn σ l (.list vs)→Over σ (.ref l) vs (fun σ'=>Kn σ' l (.list vs))
 | tuple {l vs}:Kn σ l (.tuple vs)→Over σ (.ref l) vs (fun σ'=>Kn σ' l (.tuple vs))
 | range {l a b c}:Kn σ l (.range a b c)→Builtin.Range.small a b c=true→Over σ (.ref l) (rangeL a b c) (fun _=>True)
theorem tr_iter{v:Value}{xs:List Value}{live:St→Prop}{A:Around}{s:Shared}{E:Value→Shared→Prop}{Q:Value→Shared→Prop}(R:Rel W σ s)(o:Over σ (er v) xs live)
  (h:∀ it At h',Iter W it xs live At→live σ→At h' 0→s.heap.get? it=none→(∀ b ob,s.heap.get? b=some ob→h'.get? b=some ob)→Q (.ref it) { s with heap:=h' }):wpAny W.M A (pyIter v) Q E s:=by
 generalize e:er v=w at o
 cases o with
 | list hl =>
  obtain rfl:=er_ref e
  obtain ⟨nn,items,h1,h2⟩:=R.ats _ _ (hl.up R)
  exact wpAny_pyIter_list ⟨_,h1,rfl,nn,rfl⟩ (h _ _ _ iter_list hl ⟨_,Heap.get?_push_size _ rfl,rfl,rfl⟩ (push_none _) (push_keeps _ _))
 | @tuple l vs hl =>
  obtain rfl:=er_ref e
  obtain ⟨nn,items,h1,h2⟩:=R.ats _ _ (hl.up R)
  exact wpAny_pyIter_tuple ⟨_,h1,rfl,nn,rfl⟩ (h _ _ _ iter_tuple hl ⟨_,Heap.get?_push_size _ rfl,rfl,rfl⟩ (push_none _) (push_keeps _ _))
 | @range l a b c hl hs =>
  obtain rfl:=er_ref e
  obtain ⟨t,u,v,hr⟩:=R.ats _ _ (hl.up R)
  refine wpAny_pyIter_range hr hs (h _ _ _ (iter_range) trivial ?_ (push_none _) (push_keeps _ _))
  show (s.heap.push _).get? s.heap.objs.size=_
  rw [Heap.get?_push_size s.heap rfl]
  simp
theorem forLoop_any{A:Around}{R:Result→Shared→Prop}{s:Shared}{target:Expr}{it:Value}{body:List Stmt}(I:Nat→Shared→Prop)
  (turn:∀ n s,I n s→wpAny W.M A (pyNext it) (fun r s₁=>match r with
   | none=>R (.ok .next) s₁
   | some v=>wpAny W.M A (letOwnedTupleGo target it v) (fun _ s₂=>wpAny W.M A (assign target env v) (fun _ s₃=>wpAny W.M A (execs body env) (fun f s₄=>match f with
     | .next | .cont=>∃ m,m < n∧I m s₄
     | .brk=>R (.ok .next) s₄
     | .ret v=>R (.ok (.ret v)) s₄) noE s₃) noE s₂) noE s₁) noE s)
  (n:Nat) (h:I n s):codeAny W.M A (.forLoop target it body [] env) R s:=by
 refine codeAny_loop' rfl I (fun n s hI=>?_) n h
 show wpAny _ _ ((forTurn target it body [] env).onRaise (fun x=>do noteFrame x env; theTreesLotGoes x)) _ _ s
 refine wpAny_noted ?_
 simp only [forTurn]
 refine wpAny_bind (wpAny_standAt (wpAny_bind (wpAny_onRaise (wpAny_mono (turn n s hI) (fun r s₁ h₁=>?_) fun _ _ h'=>h'.elim))))
 cases r with
 | none=>exact wpAny_pure (.inr ⟨rfl,codeAny_block (wpAny_execs_nil h₁)⟩)
 | some v =>
  refine wpAny_bind (wpAny_mono h₁ (fun _ s₂ h₂=>wpAny_bind (wpAny_mono h₂ (fun _ s₃ h₃=>wpAny_bind (wpAny_mono h₃ (fun f s₄ h₄=>?_) fun _ _ h'=>h'.elim)) fun _ _ h'=>h'.elim)) fun _ _ h'=>h'.elim)
  cases f with
  | next=>exact wpAny_pure (.inl ⟨rfl,h₄⟩)
  | cont=>exact wpAny_pure (.inl ⟨rfl,h₄⟩)
  | brk=>exact wpAny_pure h₄
  | ret v=>exact wpAny_pure h₄
noncomputable def PLe(σ σ':St):Prop:=∀ a o,σ.P a=some o→σ'.P a=some o
noncomputable def notSet:Expr→Bool
 | .Set ..=>false
 | _=>true
theorem folded_no{it:Expr}{x:Value}(h:notSet it=true):foldedSetIterable it env x=pure x:=by
 cases it <;> first | rfl | cases h
noncomputable def Off(env:Env)(it:Addr):Prop:=it≠env.locals∧∀ x c,env.cells.lookup x=some c→c≠it
theorem Off.of_new{s:Shared}{it:Addr}(F:FrameOK W env m σ s)(h:s.heap.get? it=none):Off env it:=by
 refine ⟨fun h1=>?_,fun x c hc e=>?_⟩
 ·obtain ⟨mr,⟨o,es,ep,hL,_⟩,_⟩:=F.ns
  rw [h1,hL] at h; cases h
 ·obtain ⟨_,_,_,_,o,v,h5,_⟩:=F.cells x c hc
  rw [e,h] at h5; cases h5
theorem Off.notOwn{it:Addr}(h:Off env it):¬ Own env it:=by
 rintro (h1 | ⟨x,hx,hc⟩)
 ·exact h.1 h1
 ·exact h.2 x it hc rfl
theorem Rel.hidden{s s':Shared}{it:Addr}(R:Rel W σ s)(hit:σ.at it=none)(h0:W.h0.get? it=none)(hs:∀ b o,b≠it→s.heap.get? b=some o→s'.heap.get? b=some o)(ho:s'.os=s.os)(hg:s'.gens=s.gens):Rel W σ s':=by
 have hne:∀ a o,σ.at a=some o→a≠it:=fun a o e q=>by rw [q,hit] at e; cases e
 refine ⟨fun b o h=>hs b o (fun q=>by rw [q,h0] at h; cases h) (R.keep b o h),fun a o h=>(R.ats a o h).of_get fun b e=>hs a b (hne a o h) e,R.fresh,R.disj,ho.trans R.os,hg.trans R.gens⟩
theorem FrameOK.hidden{s s':Shared}{it:Addr}(F:FrameOK W env m σ s)(off:Off env it)(hs:∀ b o,b≠it→s.heap.get? b=some o→s'.heap.get? b=some o):FrameOK W env m σ s':=by
 obtain ⟨mr,⟨o,es,ep,hL,hr⟩,hm⟩:=F.ns
 refine ⟨F.kind,F.globals,F.builtins,F.plain,⟨mr,⟨o,es,ep,hs _ _ (Ne.symm off.1) hL,hr⟩,hm⟩,F.noH,F.noP,F.fresh,fun y v e=>?_,fun y c e=>?_,F.inj,F.hasCell,F.noDebug,F.noClassdict⟩
 ·rcases F.kinds y v e with h | ⟨h,c,hc,o',v',h1,h2,h3⟩
  ·exact .inl h
  ·exact .inr ⟨h,c,hc,o',v',hs _ _ (off.2 _ _ hc) h1,h2,h3⟩
 ·obtain ⟨h1,h2,h3,h4,o',v,h5,h6⟩:=F.cells y c e
  exact ⟨h1,h2,h3,h4,o',v,hs _ _ (off.2 _ _ e) h5,h6⟩
theorem StepB.hidden{own:Addr→Prop}{σ':St}{s s' s'':Shared}{it:Addr}(S:StepB own σ s σ' s')(hn:s.heap.get? it=none)(hs:∀ b o,b≠it→s'.heap.get? b=some o→s''.heap.get? b=some o):StepB own σ s σ' s'' :=
 ⟨fun b o h=>by
  obtain ⟨o',h'⟩:=S.alive b o h
  exact ⟨o',hs b o' (fun q=>by rw [q,hn] at h; cases h) h'⟩,S.mono,fun b o h n w=>hs b o (fun q=>by rw [q,hn] at h; cases h) (S.keep b o h n w),S.noH,S.noP⟩
theorem StepB.offH{own:Addr→Prop}{σ':St}{s s':Shared}{it:Addr}{o:Obj}(S:StepB own σ s σ' s')(off:¬ own it)(ho:s.heap.get? it=some o)(h1:σ.H it=none)(h2:σ.P it=none):s'.heap.get? it=some o∧σ'.H it=none∧σ'.P it=none :=
 ⟨S.keep _ _ ho h1 off,S.noH _ _ ho h1 off,S.noP _ _ ho h1 h2 off⟩
inductive ForW(W:Wd KK)(n:Nat)(env:Env)(m:Lm)(tg:Tg)(body:List Stmt)(Q:Flow→Lm→St→Prop)(v:Value)(σ₁:St):Prop
 | mk (xs:List Value) (live:St→Prop) (ov:Over σ₁ v xs live) (I:List Value→Lm→St→Prop) (σ₀:St) (g:Ghost σ₁ σ₀) (lv0:live σ₀) (hI0:I [] m σ₀)
  (st:∀ pre x post m' σ',xs=pre++x :: post→PLe σ₀ σ'→live σ'→I pre m' σ'→BindT tg x m' σ' fun m''=>Exs W n env m'' body (fun fl m₃ σ₂=>match fl with
    | .next | .cont=>∃ σ₃,Ghost σ₂ σ₃∧live σ₃∧I (pre++[x]) m₃ σ₃
    | .brk=>Q .next m₃ σ₂
    | .ret v=>Q (.ret v) m₃ σ₂) σ')
  (en:∀ m' σ',PLe σ₀ σ'→live σ'→I xs m' σ'→Q .next m' σ')
inductive ForJ(W:Wd KK)(env:Env)(σ σ₀:St)(s:Shared)(itA:Addr)(live:St→Prop)(I:List Value→Lm→St→Prop)(At:Heap→Nat→Prop)(xs:List Value)(k:Nat)(s':Shared):Prop
 | mk (pre post:List Value) (m':Lm) (σ':St) (hx:xs=pre++post) (hk:k=post.length) (R':Rel W σ' s') (F':FrameOK W env m' σ' s') (S':StepB (Own env) σ s σ' s') (hP:PLe σ₀ σ') (hlv:live σ') (hI:I pre m' σ') (hAt:At s'.heap pre.length) (hH:σ'.H itA=none) (hPn:σ'.P itA=none)
theorem ex_for{te it:Expr}{body:List Stmt}{tg:Tg}(ht:tgOf te=some tg)(hk:∀ x∈tg.names,okName env x)(hs:notSet it=true)
  (h:Ev W n env m it (ForW W n env m tg body Q) σ):Ex W n env m (.For te it body [] pos) Q σ:=fun A s r R F=>by
 refine wpAny_For (wpE (h A s r R F) (fun v s₁ σ₁ R₁ S₁ zq=>?_)) fun x=>folded_no hs
 cases zq with
 | mk xs live ov I σ₀ g lv0 hI0 hstep hend =>
 refine tr_iter R₁ ov fun itA At h' IT lv hat hn hkp=>?_
 have F₁:=F.step S₁
 have off:=Off.of_new F₁ hn
 have hfr:=R₁.fresh0 hn
 have hns:s.heap.get? itA=none:=none_of fun o e=>by
  obtain ⟨o',h'⟩:=S₁.alive _ _ e
  rw [hn] at h'; cases h'
 have hu:=R₁.unknown hn
 have R₀:Rel W σ₀ { s₁ with heap:=h' }:=Rel.ghost (σ:=σ₁) (R₁.of_keeps (s':={ s₁ with heap:=h' }) hkp rfl rfl) g
 have S₀:Step σ₁ s₁ σ₀ { s₁ with heap:=h' }:=(Step.of_keeps (s':={ s₁ with heap:=h' }) hkp).trans (Step.ghost g)
 have hu0:σ₀.at itA=none:=none_of fun o e=>by have:=g.sub _ _ e; rw [hu] at this; cases this
 refine forLoop_any (ForJ W env σ σ₀ s itA live I At xs) (fun k s' J=>?_) xs.length
  ⟨[],xs,m,σ₀,rfl,rfl,R₀,F₁.step S₀,(S₁.trans S₀).toB,fun _ _ e=>e,lv0,hI0,hat,St.H_none hu0,St.P_none hu0⟩
 cases J with
 | mk pre post m' σ' hx hkp R' F' S' hP hlv hI hAt hH hPn =>
 cases post with
 | nil =>
  rw [List.append_nil] at hx
  refine IT.done r.handled R' hlv hAt (by rw [hx]; exact List.getElem?_eq_none (Nat.le_refl _)) fun h₂ hk₂=>?_
  exact ⟨m',σ',R'.hidden (s':={ s' with heap:=h₂ }) (St.at_of_none hH hPn) hfr hk₂ rfl rfl,F'.hidden (s':={ s' with heap:=h₂ }) off hk₂,S'.hidden (s'':={ s' with heap:=h₂ }) hns hk₂,hend m' σ' hP hlv (hx▸hI)⟩
 | cons x post =>
  refine IT.item (x:=x) r.handled R' hlv hAt (by rw [hx,List.getElem?_append_right (Nat.le_refl _),Nat.sub_self]; rfl) fun v₂ h₂ t₂ ev₂ hAt₂ hk₂=>?_
  have hk₂':∀ b o,b≠itA→s'.heap.get? b=some o→h₂.get? b=some o:=fun b o hb e=>(hk₂ b hb).trans e
  refine IT.letGo (s:={ s' with heap:=h₂,toks:=t₂ }) hAt₂ ?_
  have R₂:Rel W σ' { s' with heap:=h₂,toks:=t₂ }:=R'.hidden (s':={ s' with heap:=h₂,toks:=t₂ }) (St.at_of_none hH hPn) hfr hk₂' rfl rfl
  have F₂:FrameOK W env m' σ' { s' with heap:=h₂,toks:=t₂ }:=F'.hidden (s':={ s' with heap:=h₂,toks:=t₂ }) off hk₂'
  have S₂:StepB (Own env) σ s σ' { s' with heap:=h₂,toks:=t₂ }:=S'.hidden (s'':={ s' with heap:=h₂,toks:=t₂ }) hns hk₂'
  obtain ⟨oi,hoi⟩:=IT.some_ hAt₂
  have hb:=hstep pre x post m' σ' hx hP hlv hI
  refine wpS (st_target (v:=v₂) (Q:=fun _ m'' σ''=>σ''=σ'∧Exs W n env m'' body (fun fl m₃ σ₂=>match fl with
    | .next | .cont=>∃ σ₃,Ghost σ₂ σ₃∧live σ₃∧I (pre++[x]) m₃ σ₃
    | .brk=>Q .next m₃ σ₂
    | .ret v=>Q (.ret v) m₃ σ₂) σ') ht (fun x _=>own_name env x) hk (by rw [ev₂]; exact hb.mono fun _ z=>⟨rfl,z⟩) A _ r R₂ F₂) (fun _ s₃ m₃ σ₃ R₃ F₃ S₃ zq=>?_)
  rw [zq.1] at R₃ F₃ S₃
  obtain ⟨a1,a2,a3⟩:=S₃.offH off.notOwn hoi hH hPn
  refine wpS (zq.2 A s₃ r R₃ F₃) (fun fl s₄ m₄ σ₄ R₄ F₄ S₄ hq=>?_)
  obtain ⟨b1,b2,b3⟩:=S₄.offH off.notOwn a1 a2 a3
  have SS:=(S₂.trans S₃).trans S₄
  have next:(∃ σ₅,Ghost σ₄ σ₅∧live σ₅∧I (pre++[x]) m₄ σ₅)→∃ j,j < k∧ForJ W env σ σ₀ s itA live I At xs j s₄:=fun ⟨σ₅,g₅,l₅,i₅⟩=>by
   have G5:=Step.ghost (s:=s₄) g₅
   refine ⟨post.length,by rw [hkp]; exact Nat.lt_succ_self _,pre++[x],post,m₄,σ₅,by rw [hx,List.append_assoc]; rfl,rfl,R₄.ghost g₅,F₄.step G5,SS.trans G5.toB,fun a o e=>g₅.mono _ _ (S₄.mono _ _ (S₃.mono _ _ (hP _ _ e))),l₅,i₅,?_,G5.noH _ _ b1 b2,G5.noP _ _ b1 b2 b3⟩
   rw [List.length_append]
   exact IT.same (fun o e=>Option.some.inj (hoi.symm.trans e)▸b1) hAt₂
  cases fl with
  | next=>exact next hq
  | cont=>exact next hq
  | brk=>exact ⟨m₄,σ₄,R₄,F₄,SS,hq⟩
  | ret v=>exact ⟨m₄,σ₄,R₄,F₄,SS,hq⟩
end X
end
section
variable {KK:Params→Frag}{W:Wd KK}{n:Nat}{env:Env}{m:Lm}{σ:St}
noncomputable def CallOK(W:Wd KK)(n:Nat)(f:Addr)(vs:List Value)(Q:Value→St→Prop)(σ:St):Prop :=
 ∀ A s vs',Room n A→Rel W σ s→vs'.map er=vs→codeAny W.M A (.call (.ref f) ⟨vs',[]⟩) (fun r s'=>match r with | .ok (.ret v)=>PE W (fun v σ'=>Q (er v) σ') σ s v s' | _=>False) s
theorem callee_own{f:Addr}{vs:List Value}{Q:Value→St→Prop}(hk:keepIn W.K (.ref f)=true)(h:CallOK W n f vs Q σ):Callee W n (.ref f) vs Q σ :=
 ⟨hk,fun f' vs' e1 e2 A s r R=>by
  obtain rfl:=er_ref e1
  exact wpAny_call (codeAny_mono (h A s vs' r R e2) fun r s' z=>by rcases r with e | (v | _ | _ | _) <;> first | exact z | exact z.elim)⟩
theorem callee_builtin{b:String}{vs:List Value}{Q:Value→St→Prop}(h:∀ vs',vs'.map er=vs→Tr W n (call (.builtin b) vs') (fun v σ'=>Q (er v) σ') σ):Callee W n (.builtin b) vs Q σ :=
 ⟨rfl,fun f' vs' e1 e2=>by obtain rfl:=er_builtin e1; exact h vs' e2⟩
theorem callee_type{b:String}{vs:List Value}{Q:Value→St→Prop}(h:∀ vs',vs'.map er=vs→Tr W n (call (.type b) vs') (fun v σ'=>Q (er v) σ') σ):Callee W n (.type b) vs Q σ :=
 ⟨rfl,fun f' vs' e1 e2=>by obtain rfl:=er_type e1; exact h vs' e2⟩
noncomputable def retV:Flow→Value
 | .ret v=>v
 | _=>.none
theorem bindL_spec{kindOf:Str→Option NameKind}{x:Str}{v:Value}:∀{names:List Str}{vs':List Value}{m0 mr:Lm},kindOf x=some .local →
  (∀ v,m0 x=some v→∃ v',mr x=some v'∧er v'=v)→updAll m0 names (vs'.map er) x=some v→∃ v',bindL kindOf (names.zip vs') mr x=some v'∧er v'=v
 | [],_,_,_,hk,h0,h=>h0 v h
 | _ :: _,[],_,_,hk,h0,h=>h0 v h
 | y :: ys,u :: us,m0,mr,hk,h0,h=>by
  refine bindL_spec (names:=ys) (vs':=us) (m0:=upd m0 y (er u)) hk (fun w hw=>?_) h
  unfold upd at hw
  by_cases q:x=y
  ·rw [if_pos q] at hw; cases hw
   subst q
   rw [if_pos hk,if_pos rfl]
   exact ⟨u,rfl,rfl⟩
  ·rw [if_neg q] at hw
   by_cases z:kindOf y=some .local
   ·rw [if_pos z,if_neg q]; exact h0 w hw
   ·rw [if_neg z]; exact h0 w hw
theorem bindC_spec{kindOf:Str→Option NameKind}{x:Str}{v:Value}:∀{names:List Str}{vs':List Value}{m0 mr:Lm},kindOf x=some .cell →
  (∀ v,m0 x=some v→∃ v',mr x=some v'∧er v'=v)→updAll m0 names (vs'.map er) x=some v→∃ v',bindC kindOf (names.zip vs') mr x=some v'∧er v'=v
 | [],_,_,_,hk,h0,h=>h0 v h
 | _ :: _,[],_,_,hk,h0,h=>h0 v h
 | y :: ys,u :: us,m0,mr,hk,h0,h=>by
  refine bindC_spec (names:=ys) (vs':=us) (m0:=upd m0 y (er u)) hk (fun w hw=>?_) h
  unfold upd at hw
  by_cases q:x=y
  ·rw [if_pos q] at hw; cases hw
   subst q
   rw [if_neg (by rw [hk]; decide),if_pos rfl]
   exact ⟨u,rfl,rfl⟩
  ·rw [if_neg q] at hw
   by_cases z:kindOf y=some .local
   ·rw [if_pos z]; exact h0 w hw
   ·rw [if_neg z,if_neg q]; exact h0 w hw
theorem updAll_mem{x:Str}{v:Value}:∀{names:List Str}{vs:List Value}{m0:Lm},updAll m0 names vs x=some v→m0 x=some v∨x∈names
 | [],_,_,h=>.inl h
 | _ :: _,[],_,h=>.inl h
 | y :: ys,u :: us,m0,h=>by
  rcases updAll_mem (names:=ys) h with h | h
  ·unfold upd at h
   by_cases q:x=y
   ·exact .inr (q▸.head _)
   ·rw [if_neg q] at h; exact .inl h
  ·exact .inr (.tail _ h)
theorem pair_inj{cs:List (Str × Addr)}(h:cs.Pairwise fun x y=>x.2≠y.2){x y:Str}{c:Addr}(hx:cs.lookup x=some c)(hy:cs.lookup y=some c):x=y:=by
 induction cs with
 | nil=>cases hx
 | cons p r ih =>
  obtain ⟨z,d⟩:=p
  rw [List.pairwise_cons] at h
  have mem:∀{w:Str}{e:Addr}{l:List (Str × Addr)},l.lookup w=some e→(w,e)∈l:=by
   intro w e l
   induction l with
   | nil=>intro h; cases h
   | cons p r ih =>
    obtain ⟨u,f⟩:=p
    intro h
    rw [List.lookup_cons] at h
    split at h
    ·rename_i q; cases h; rw [beq_iff_eq.mp q]; exact .head _
    ·exact .tail _ (ih h)
  rw [List.lookup_cons] at hx hy
  split at hx
  ·rename_i q1
   cases hx
   split at hy
   ·rename_i q2; rw [beq_iff_eq.mp q1,beq_iff_eq.mp q2]
   ·exact absurd rfl (h.1 (y,_) (mem hy))
  ·split at hy
   ·cases hy; exact absurd rfl (h.1 (x,_) (mem hx))
   ·exact ih h.2 hx hy
theorem callok_fun{f:Addr}{vs:List Value}{Q:Value→St→Prop}{name qual:Str}{params:Arguments}{body:List Stmt}{scope:Scope}{dV kV doc pm cdv ct oc:Value}{an od:Option Addr}{osl:Array (Option Value)}{names:List Str}{extra:List Value}
  (ho:W.K.lookup f=some ⟨oc,od,.func (fnOf name qual params body scope dV kV doc pm an cdv ct),osl⟩) (hcd:codeIn W.K cdv qual=true)
  (hbind:∀(s:Shared)(vs':List Value),W.K.In s.heap→vs'.map er=vs→BindsTo s (fnOf name qual params body scope dV kV doc pm an cdv ct) ⟨vs',[]⟩ (names.zip (vs'++extra)))
  (hnames:(names.all fun x=>(scope.names.lookup x==some .local||scope.names.lookup x==some .cell)&&x != "__debug__"&&x != "__classdict__")=true)
  (hnf:(scope.names.all fun p=>p.2 != .free)=true) (hco:scope.isCoroutine=false) (hgen:scope.isGenerator=false) (hk:scope.kind=.function)
  (h:∀ env,env.scope=scope→Exs W n env (updAll (fun _=>none) names (vs++extra.map er)) body (fun fl _ σ'=>Q (retV fl) σ') σ):CallOK W (n+1) f vs Q σ:=by
 intro A s vs' r R evs
 have X:=W.hK.keeps R.keep
 refine codeAny_call_function (fd:=fnOf name qual params body scope dV kV doc pm an cdv ct) r.limit (X _ _ ho) rfl hco hgen rfl (codeRec_of X hcd) (hbind s vs' X evs _ _ _ _ ?_)
 have hnm:=fun x hx=>List.all_eq_true.mp hnames x hx
 refine wpAny_newFunctionEnv_cells hk (fun p hp=>?_) fun env he s' x=>?_
 ·have:=hnm p.1 (List.of_mem_zip hp).1
  simp only [Bool.and_eq_true,Bool.or_eq_true,beq_iff_eq] at this
  rcases this.1.1 with q | q
  ·exact .inl q
  ·exact .inr ⟨q,cellsFrom_some _ _ _ (.inl q)⟩
 ·obtain ⟨h₁,tk,rfl,hkp⟩:=x.done
  have hkp':=x.toInCall.keep
  refine ⟨(W.hlim.keeps R.keep).keeps hkp',codeAny_func ?_⟩
  have hsc:env.scope=scope:=by rw [he]; rfl
  have hkind:∀ y,env.kindOf y=scope.names.lookup y:=fun y=>by unfold Env.kindOf; rw [hsc]
  have hloc:env.locals=s.heap.objs.size:=by rw [he]; rfl
  have hcells:env.cells=cellsFrom (s.heap.objs.size+1) scope.names []:=by rw [he]; rfl
  have R':Rel W σ { s with heap:=h₁,toks:=tk }:=R.of_keeps (s':={ s with heap:=h₁,toks:=tk }) hkp' rfl rfl
  have S':Step σ s σ { s with heap:=h₁,toks:=tk }:=.of_keeps (s':={ s with heap:=h₁,toks:=tk }) hkp'
  have hnew:s.heap.get? env.locals=none:=by rw [hloc]; exact push_none _
  have hu:=R.unknown hnew
  have cnew:∀ y c,env.cells.lookup y=some c→env.locals < c:=fun y c hc=>by
   have mem:∀{w:Str}{e:Addr}{l:List (Str × Addr)},l.lookup w=some e→(w,e)∈l:=by
    intro w e l
    induction l with
    | nil=>intro h; cases h
    | cons p r ih =>
     obtain ⟨u,f⟩:=p
     intro h
     rw [List.lookup_cons] at h
     split at h
     ·rename_i q; cases h; rw [beq_iff_eq.mp q]; exact .head _
     ·exact .tail _ (ih h)
   exact x.above y c (mem hc)
  have cfresh:∀ y c,env.cells.lookup y=some c→s.heap.get? c=none:=fun y c hc=>by
   have:=cnew y c hc
   cases q:s.heap.get? c with
   | none=>rfl
   | some o=>have:=Heap.lt_size q; rw [hloc] at *; exact absurd (Nat.lt_trans ‹s.heap.objs.size < c› this) (Nat.lt_irrefl _)
  have F':FrameOK W env (updAll (fun _=>none) names (vs++extra.map er)) σ { s with heap:=h₁,toks:=tk }:=by
   have e0:vs++extra.map er=(vs'++extra).map er:=by rw [List.map_append,evs]
   rw [e0]
   refine ⟨by rw [hsc]; exact hk,by rw [he]; rfl,by rw [he]; rfl,?_,⟨_,x.toInCall.ns,fun y v hy hv=>?_⟩,St.H_none hu,St.P_none hu,R.fresh0 hnew,fun y v hv=>?_,fun y c hc=>?_,fun y z c=>pair_inj x.apart,fun y hy=>?_,?_,?_⟩
   ·unfold interactive; rw [hsc,hk]; rfl
   ·exact bindL_spec hy (fun _ z=>by cases z) hv
   ·have hm:=(updAll_mem hv).resolve_left (fun z=>nomatch z)
    have:=hnm y hm
    simp only [Bool.and_eq_true,Bool.or_eq_true,beq_iff_eq] at this
    rcases this.1.1 with q | q
    ·exact .inl ((hkind y).trans q)
    ·have q':=(hkind y).trans q
     obtain ⟨v',h1,h2⟩:=bindC_spec (kindOf:=env.kindOf) q' (fun _ z=>by cases z) hv
     obtain ⟨c,hc⟩:=Option.isSome_iff_exists.mp (cellsFrom_some (x:=y) scope.names (s.heap.objs.size+1) [] (.inl q))
     rw [← hcells] at hc
     obtain ⟨o,ho',hd'⟩:=x.cell y c hc
     rw [h1] at hd'
     exact .inr ⟨.inl q',c,hc,o,v',ho',hd',h2⟩
   ·have hn:=cfresh y c hc
    have hu':=R.unknown hn
    obtain ⟨o,ho',hd'⟩:=x.cell y c hc
    exact ⟨St.H_none hu',St.P_none hu',R.fresh0 hn,Nat.ne_of_gt (cnew y c hc),o,_,ho',hd'⟩
   ·rw [hkind] at hy
    rw [hcells]
    rcases hy with hy | hy
    ·exact Option.isSome_iff_exists.mp (cellsFrom_some scope.names _ [] (.inl hy))
    ·have mem:∀{l:List (Str × NameKind)},l.lookup y=some .free→(y,NameKind.free)∈l:=by
      intro l
      induction l with
      | nil=>intro h; cases h
      | cons p r ih =>
       obtain ⟨u,f⟩:=p
       intro h
       rw [List.lookup_cons] at h
       split at h
       ·rename_i q; cases h; rw [beq_iff_eq.mp q]; exact .head _
       ·exact .tail _ (ih h)
     have:=List.all_eq_true.mp hnf _ (mem hy)
     simp at this
   ·cases q:updAll (fun _=>none) names ((vs'++extra).map er) "__debug__" with
    | none=>rfl
    | some v=>have:=hnm _ ((updAll_mem q).resolve_left (fun z=>nomatch z)); simp at this
   ·cases q:updAll (fun _=>none) names ((vs'++extra).map er) "__classdict__" with
    | none=>rfl
    | some v=>have:=hnm _ ((updAll_mem q).resolve_left (fun z=>nomatch z)); simp at this
  refine wpS (h env hsc (A.deeper env) _ (r.deeper env) R' F') (fun fl s₂ m₂ σ₂ R₂ F₂ S₂ q=>?_)
  have S3:Step σ s σ₂ s₂:=by
   have off:∀ b o,s.heap.get? b=some o→¬ Own env b:=fun b o hb w=>by
    rcases w with w | ⟨y,_,w⟩
    ·rw [w,hnew] at hb; cases hb
    ·rw [cfresh y b w] at hb; cases hb
   exact ⟨fun b o hb=>S₂.alive b o (hkp' b o hb),S₂.mono,fun b o hb n=>S₂.keep b o (hkp' b o hb) n (off b o hb),fun b o hb n=>S₂.noH b o (hkp' b o hb) n (off b o hb),fun b o hb n p=>S₂.noP b o (hkp' b o hb) n p (off b o hb)⟩
  refine ⟨σ₂,R₂,S3,?_⟩
  cases fl <;> exact q
theorem callok_class{C fI:Addr}{vs:List Value}{Q:Value→St→Prop}(hm:makesIn W.K C=true)(hi:findIn W.K (.ref C) "__init__"=some (some (.ref fI))) (hf:typeIn W.K (.ref fI)=some (.type "function"))
  (h:∀ x dx,σ.at x=none→σ.at dx=none→x≠dx→CallOK W n fI (.ref x :: vs) (fun r σ'=>r=.none∧Q (.ref x) σ') ((σ.put dx (.attrs [])).newP x (.inst C dx))):CallOK W (n+1) C vs Q σ:=by
 intro A s vs' r R evs
 obtain ⟨hh,g,d,t,os⟩:=s
 have X:W.K.In hh:=W.hK.keeps R.keep
 have hn1:hh.get? hh.objs.size=none:=push_none _
 obtain ⟨u1,R1,S1⟩:=R.putNew (s':=⟨hh.push emptyDict,g,d,t,os⟩) hn1 (push_keeps _ _) (show AbsAt W _ hh.objs.size (.attrs []) from ⟨_,#[],0,Heap.get?_push_size _ rfl,rfl,rfl⟩) rfl rfl
 have hn2:(hh.push emptyDict).get? (hh.objs.size+1)=none:=by
  have:=push_none (hh.push emptyDict); rwa [Heap.size_push] at this
 have hat2:((hh.push emptyDict).push (instObj C hh.objs.size)).get? (hh.objs.size+1)=some (instObj C hh.objs.size):=by
  have:=Heap.get?_push_size (hh.push emptyDict) (o:=instObj C hh.objs.size) rfl; rwa [Heap.size_push] at this
 obtain ⟨u2,R2,S2⟩:=R1.putP (s':=⟨(hh.push emptyDict).push (instObj C hh.objs.size),g,d,t,os⟩) (a:=hh.objs.size+1) (o:=.inst C hh.objs.size) hn2 (push_keeps _ _) hat2 rfl rfl
 have hne:hh.objs.size+1≠hh.objs.size:=Nat.succ_ne_self _
 have u3:σ.at (hh.objs.size+1)=none:=by rwa [St.at_put_ne _ hne] at u2
 refine make_core (makes_of X hm) (looks_findIn X hi) (fun self=>bind_fn X self hf) (.inl rfl) ?_
 have hroom:Room n (A.under (.builtin "type.__call__" ⟨.ref C :: vs',[]⟩)):=by
  refine ⟨r.handled,?_,?_⟩
  ·rw [depth_under_make]; have:=r.depth; exact lin [] [_,_] [922566896750231069396] 922557895769703588564 149058 rfl this
  ·have:=r.units
   rw [units_under_make]
   exact lin [] [_,_] [73788813840315421074180] 73788773259986151678724 149058 rfl this
 refine codeAny_mono (h _ _ u3 u1 hne _ _ (.ref (hh.objs.size+1) :: vs') hroom R2 (by rw [List.map_cons,evs]; rfl)) fun r s' z=>?_
 rcases r with e | (v | _ | _ | _) <;> first | exact z.elim | skip
 obtain ⟨σ',a,b,c1,c2⟩:=z
 exact ⟨er_none c1,σ',a,(S1.trans S2).trans b,c2⟩
end
section
variable {KK:Params→Frag}{W:Wd KK}{n:Nat}{env:Env}{m:Lm}{σ:St}
theorem lookup_mem{w:Str}{β:Type}{e:β}{l:List (Str × β)}(h:l.lookup w=some e):(w,e)∈l:=by
 induction l with
 | nil=>cases h
 | cons p r ih =>
  obtain ⟨u,f⟩:=p
  rw [List.lookup_cons] at h
  split at h
  ·rename_i q; cases h; rw [beq_iff_eq.mp q]; exact .head _
  ·exact .tail _ (ih h)
theorem mem_lookup{w:Str}{β:Type}{e:β}{l:List (Str × β)}(hn:(l.map (·.1)).Nodup)(h:(w,e)∈l):l.lookup w=some e:=by
 induction l with
 | nil=>cases h
 | cons p r ih =>
  obtain ⟨u,f⟩:=p
  rw [List.map_cons,List.nodup_cons] at hn
  rw [List.lookup_cons]
  rcases List.mem_cons.mp h with h | h
  ·cases h; rw [beq_self_eq_true]
  ·have:w≠u:=fun q=>hn.1 (q▸(List.mem_map.mpr ⟨_,h,rfl⟩))
   rw [beq_eq_false_iff_ne.mpr this]
   exact ih hn.2 h
noncomputable def relS(scope outer:Scope):Scope :=
 { scope with names:=scope.names.map fun (n,k)=>if (k==.free&&outer.kind==.function&&outer.names.lookup n==some .cell) then (n,.cell) else (n,k) }
theorem rel_lookup(env:Env)(x:Str):∀ names:List (Str × NameKind),(names.map fun (n,k)=>if (k==NameKind.free&&env.scope.kind==.function&&env.kindOf n==some .cell) then (n,NameKind.cell) else (n,k)).lookup x =
  (names.lookup x).map fun k=>if (k==NameKind.free&&env.scope.kind==.function&&env.kindOf x==some .cell) then NameKind.cell else k
 | []=>rfl
 | (y,k) :: r=>by
  rw [List.map_cons,List.lookup_cons]
  have ih:=rel_lookup env x r
  dsimp only
  by_cases q:x=y
  ·subst q
   cases hc:(k==NameKind.free&&env.scope.kind==.function&&env.kindOf x==some .cell) with
   | true=>simp only [if_true,List.lookup_cons,beq_self_eq_true,Option.map_some,hc]
   | false=>simp only [Bool.false_eq_true,if_false,List.lookup_cons,beq_self_eq_true,Option.map_some,hc]
  ·have q':(x==y)=false:=beq_eq_false_iff_ne.mpr q
   cases hc:(k==NameKind.free&&env.scope.kind==.function&&env.kindOf y==some .cell) with
   | true=>simp only [if_true,List.lookup_cons,q']; exact ih
   | false=>simp only [Bool.false_eq_true,if_false,List.lookup_cons,q']; exact ih
noncomputable def capt(scope:Scope)(m:Lm):Lm:=fun x=>if scope.names.lookup x=some .free then m x else none
theorem closure_ok{scope:Scope}(hf:∀ x∈scope.names,x.2=.free→∃ c,env.cells.lookup x.1=some c):
  ∃ cl,closureFor scope env=pure cl∧(∀ x c,(x,c)∈cl→env.cells.lookup x=some c∧(x,.free)∈scope.names)∧(∀ x,(x,.free)∈scope.names→∃ c,(x,c)∈cl):=by
 have key:∀(names:List (Str × NameKind))(cs:List (Str × Addr)),(∀ x∈names,x.2=.free→∃ c,env.cells.lookup x.1=some c) →
   ∃ cl,(forIn names cs (fun (x:Str × NameKind) (r:List (Str × Addr))=>(match x with
    | (name,kind)=>if (kind==NameKind.free)=true then do let c ← cellOf env name; pure (ForInStep.yield ((name,c) :: r)) else pure (ForInStep.yield r):Sem (ForInStep (List (Str × Addr)))))=pure cl) ∧
    (∀ x c,(x,c)∈cl→(x,c)∈cs∨env.cells.lookup x=some c∧(x,.free)∈names)∧(∀ p∈cs,p∈cl)∧(∀ x,(x,.free)∈names→∃ c,(x,c)∈cl):=by
  intro names
  induction names with
  | nil=>intro cs _; exact ⟨cs,by rw [List.forIn_nil],fun x c h=>.inl h,fun p h=>h,fun x h=>nomatch h⟩
  | cons p r ih =>
   intro cs hf
   obtain ⟨y,k⟩:=p
   have hr:=fun x hx=>hf x (.tail _ hx)
   by_cases hk:k=.free
   ·subst hk
    obtain ⟨c,hc⟩:=hf (y,.free) (.head _) rfl
    obtain ⟨cl,e,h1,h2,h3⟩:=ih ((y,c) :: cs) hr
    refine ⟨cl,?_,fun x d h=>?_,fun p h=>h2 p (.tail _ h),fun x h=>?_⟩
    ·rw [List.forIn_cons]
     have:cellOf env y=pure c:=by unfold cellOf; rw [hc]
     simp only [beq_self_eq_true,if_true,this,pure_bind]
     exact e
    ·rcases h1 x d h with h | ⟨a,b⟩
     ·rcases List.mem_cons.mp h with h | h
      ·cases h; exact .inr ⟨hc,.head _⟩
      ·exact .inl h
     ·exact .inr ⟨a,.tail _ b⟩
    ·rcases List.mem_cons.mp h with h | h
     ·cases h; exact ⟨c,h2 _ (.head _)⟩
     ·exact h3 x h
   ·obtain ⟨cl,e,h1,h2,h3⟩:=ih cs hr
    refine ⟨cl,?_,fun x d h=>(h1 x d h).imp id fun ⟨a,b⟩=>⟨a,.tail _ b⟩,h2,fun x h=>?_⟩
    ·rw [List.forIn_cons]
     have:(k==NameKind.free)=false:=by simpa using hk
     simp only [this,Bool.false_eq_true,if_false,pure_bind]
     exact e
    ·rcases List.mem_cons.mp h with h | h
     ·cases h; exact absurd rfl hk
     ·exact h3 x h
 obtain ⟨cl,e,h1,h2,h3⟩:=key scope.names [] hf
 refine ⟨cl,?_,fun x c h=>(h1 x c h).resolve_left (fun z=>nomatch z),h3⟩
 unfold closureFor
 show (forIn scope.names [] _ >>= fun cs=>pure cs)=_
 rw [show (forIn scope.names ([]:List (Str × Addr)) _:Sem (List (Str × Addr)))=pure cl from e]
 rfl
theorem cellsFrom_app(names:List (Str × NameKind)):∀(k:Nat)(acc:List (Str × Addr)),cellsFrom k names acc=cellsFrom k names []++acc:=by
 induction names with
 | nil=>intro k acc; rfl
 | cons p r ih =>
  obtain ⟨y,kd⟩:=p
  intro k acc
  unfold cellsFrom
  split
  ·rw [ih (k+1) ((y,k) :: acc),ih (k+1) [(y,k)],List.append_assoc]; rfl
  ·exact ih k acc
theorem cellsFrom_names'(names:List (Str × NameKind)):∀(k:Nat) x c,(x,c)∈cellsFrom k names []→(x,.cell)∈names:=by
 induction names with
 | nil=>intro k x c h; cases h
 | cons p r ih =>
  obtain ⟨y,kd⟩:=p
  intro k x c h
  unfold cellsFrom at h
  split at h
  ·rename_i hk
   rw [cellsFrom_app] at h
   rcases List.mem_append.mp h with h | h
   ·exact .tail _ (ih _ x c h)
   ·cases h with
    | head=>rw [beq_iff_eq.mp hk]; exact .head _
    | tail _ h=>cases h
  ·exact .tail _ (ih _ x c h)
theorem cellsFrom_has(names:List (Str × NameKind)):∀(k:Nat) x,(x,.cell)∈names→∃ c,(x,c)∈cellsFrom k names []:=by
 induction names with
 | nil=>intro k x h; cases h
 | cons p r ih =>
  obtain ⟨y,kd⟩:=p
  intro k x h
  unfold cellsFrom
  rcases List.mem_cons.mp h with h | h
  ·cases h
   have:(NameKind.cell==NameKind.cell)=true:=rfl
   simp only [this,if_true]
   rw [cellsFrom_app]
   exact ⟨k,List.mem_append_right _ (.head _)⟩
  ·split
   ·obtain ⟨c,hc⟩:=ih (k+1) x h
    rw [cellsFrom_app]
    exact ⟨c,List.mem_append_left _ hc⟩
   ·exact ih k x h
theorem pushCells_keeps:∀(names:List (Str × NameKind))(h:Heap)(b:Addr)(o:Obj),h.get? b=some o→(pushCells h names).get? b=some o
 | [],_,_,_,e=>e
 | (_,k) :: r,h,b,o,e=>by
  unfold pushCells
  split
  ·exact pushCells_keeps r _ b o (push_keeps _ _ _ _ e)
  ·exact pushCells_keeps r _ b o e
structure CompSc(scope outer:Scope):Prop where
 kind:scope.kind=.function
 nodup:(scope.names.map (·.1)).Nodup
 free:∀ x,(x,.free)∈scope.names→outer.names.lookup x=some .cell∨outer.names.lookup x=some .free
 noDebug:scope.names.lookup ("__debug__":Str)=none
 noClassdict:scope.names.lookup ("__classdict__":Str)=none
noncomputable def compChk(scope outer:Scope):Bool:=scope.kind==.function&&decide ((scope.names.map (·.1)).Nodup)&&(scope.names.all fun (x,k)=>k != .free||outer.names.lookup x==some .cell||outer.names.lookup x==some .free)&&scope.names.lookup ("__debug__":Str)==none&&scope.names.lookup ("__classdict__":Str)==none
theorem compSc_of{scope outer:Scope}(h:compChk scope outer=true):CompSc scope outer:=by
 simp only [compChk,Bool.and_eq_true,beq_iff_eq,decide_eq_true_eq] at h
 obtain ⟨⟨⟨⟨h1,h2⟩,h3⟩,h4⟩,h5⟩:=h
 refine ⟨h1,h2,fun x hx=>?_,h4,h5⟩
 have:=List.all_eq_true.mp h3 _ hx
 simpa using this
theorem closure_of{scope:Scope}{s:Shared}(C:CompSc scope env.scope)(F:FrameOK W env m σ s):
  ∃ cl,closureFor scope env=pure cl∧(∀ x c,(x,c)∈cl→env.cells.lookup x=some c∧(x,.free)∈scope.names)∧(∀ x,(x,.free)∈scope.names→∃ c,(x,c)∈cl) :=
 closure_ok fun x hx hk=>by
  obtain ⟨y,k⟩:=x
  subst hk
  exact F.hasCell y (C.free y hx)
theorem newEnv_comp{scope:Scope}{s:Shared}{cl:List (Str × Addr)}(C:CompSc scope env.scope)(F:FrameOK W env m σ s)(R:Rel W σ s)
  (hcl1:∀ x c,(x,c)∈cl→env.cells.lookup x=some c∧(x,.free)∈scope.names) (hcl2:∀ x,(x,.free)∈scope.names→∃ c,(x,c)∈cl) (A:Around) (E:Value→Shared→Prop) (Q:Env→Shared→Prop)
  (hQ:∀ c0 h',c0.locals=s.heap.objs.size→(∀ b o,s.heap.get? b=some o→h'.get? b=some o)→FrameOK W { c0 with scope:=relabel scope env } (capt scope m) σ { s with heap:=h' } →
    (∀ x c,scope.names.lookup x≠some .free→c0.cells.lookup x=some c→s.heap.get? c=none)→(∀ x c,c0.cells.lookup x=some c→s.heap.get? c=none∨env.cells.lookup x=some c)→Q c0 { s with heap:=h' }) :
   wpAny W.M A (newFunctionEnv scope env.globals cl [] env.qual none .none (some env)) Q E s:=by
 simp only [newFunctionEnv,Option.isSome_some,if_true]
 refine wpAny_bind (wpAny_alloc ?_)
 refine wpAny_bind (wpAny_layCells _ (fun name kind cells=>by cases hkc:kind==NameKind.cell <;> simp [hkc]) _ _ _ _ ?_)
 rw [show ({ s with heap:=s.heap.push { cls:=.type "dict",data:=.dict #[] } }:Shared).heap.objs.size=s.heap.objs.size+1 from Heap.size_push ..]
 refine wpAny_bind ?_
 rw [List.forIn_nil]
 refine wpAny_pure (wpAny_pure ?_)
 have hk:∀ b o,s.heap.get? b=some o→(pushCells (s.heap.push { cls:=.type "dict",data:=.dict #[] }) scope.names).get? b=some o:=fun b o h=>pushCells_keeps _ _ _ _ (push_keeps _ _ _ _ h)
 have hnew:=push_none s.heap
 have hu:=R.unknown hnew
 have ok:=cellsFrom_ok scope.names (s.heap.push { cls:=.type "dict",data:=.dict #[] }) (s.heap.objs.size+1) [] ⟨fun _ _ hm=>(nomatch hm),List.Pairwise.nil⟩ (by rw [Heap.size_push]; exact Nat.le_refl _)
 rw [Heap.size_push] at ok
 have hns:(pushCells (s.heap.push { cls:=.type "dict",data:=.dict #[] }) scope.names).Ns s.heap.objs.size (fun _=>none):=by
  obtain ⟨o,es,ep,h1,h2⟩:=Heap.Ns.new s.heap (.type "dict")
  exact ⟨o,es,ep,pushCells_keeps _ _ _ _ h1,h2⟩
 generalize pushCells (s.heap.push { cls:=.type "dict",data:=.dict #[] }) scope.names=H4 at hk ok hns ⊢
 have happ:=cellsFrom_app scope.names (s.heap.objs.size+1) cl
 have hcn:=cellsFrom_names' scope.names (s.heap.objs.size+1)
 have hch:=cellsFrom_has scope.names (s.heap.objs.size+1)
 generalize cellsFrom (s.heap.objs.size+1) scope.names cl=CL at happ ⊢
 generalize cellsFrom (s.heap.objs.size+1) scope.names []=C1 at happ hcn hch ok
 subst happ
 have split:∀ y c,(C1++cl).lookup y=some c→((y,c)∈C1∧(y,.cell)∈scope.names)∨(env.cells.lookup y=some c∧(y,.free)∈scope.names):=fun y c h =>
  (List.mem_append.mp (lookup_mem h)).elim (fun h=>.inl ⟨h,hcn _ _ h⟩) fun h=>.inr (hcl1 y c h)
 have has:∀{y c},(y,c)∈C1++cl→∃ d,(C1++cl).lookup y=some d:=fun {y c} h=>by
  cases q:(C1++cl).lookup y with
  | some d=>exact ⟨d,rfl⟩
  | none=>exact absurd (List.lookup_eq_none_iff.mp q _ h) (by simp)
 have fresh:∀ y c,(y,c)∈C1→s.heap.get? c=none:=fun y c h=>none_of fun o q=>absurd (Nat.lt_of_lt_of_le (Heap.lt_size q) (Nat.le_trans (Nat.le_succ _) (ok.empty y c h).2)) (Nat.lt_irrefl _)
 have hasF:∀ y,(y,.free)∈scope.names→∃ c,(C1++cl).lookup y=some c∧env.cells.lookup y=some c:=fun y hy=>by
  obtain ⟨c,hc⟩:=hcl2 y hy
  obtain ⟨d,hd⟩:=has (List.mem_append_right _ hc)
  rcases split y d hd with ⟨_,h⟩ | ⟨h,_⟩
  ·cases (mem_lookup C.nodup h).symm.trans (mem_lookup C.nodup hy)
  ·exact ⟨d,hd,h⟩
 refine hQ { scope,locals:=s.heap.objs.size,globals:=env.globals,cells:=C1++cl,qual:=env.qual,func:=none,code:=env.code,frame:=env.frame,builtins:=env.builtins } _ rfl hk ?_ (fun x c hx hc=>(split x c hc).elim (fun h=>fresh x c h.1) fun h=>absurd (mem_lookup C.nodup h.2) hx) fun x c hc=>(split x c hc).imp (fun h=>fresh x c h.1) fun h=>h.1
 generalize hE:({ (({ scope,locals:=s.heap.objs.size,globals:=env.globals,cells:=C1++cl,qual:=env.qual,func:=none,code:=env.code,frame:=env.frame,builtins:=env.builtins }:Env)) with scope:=relabel scope env }:Env)=E
 have hloc:∀ y,E.kindOf y=(scope.names.lookup y).map fun k=>if (k==NameKind.free&&env.scope.kind==.function&&env.kindOf y==some .cell) then NameKind.cell else k:=fun y=>hE▸rel_lookup env y scope.names
 have hEl:E.locals=s.heap.objs.size:=by rw [← hE]
 have hEc:E.cells=C1++cl:=by rw [← hE]
 have hcap:∀ y v,capt scope m y=some v→scope.names.lookup y=some .free∧m y=some v:=fun y v hv=>by
  unfold capt at hv
  by_cases q:scope.names.lookup y=some .free
  ·rw [if_pos q] at hv; exact ⟨q,hv⟩
  ·rw [if_neg q] at hv; cases hv
 have hgl:E.globals=mainGlobals∧E.builtins=builtinsNs∧interactive E=false∧E.scope.kind=.function:=by
  rw [← hE]
  exact ⟨F.globals,F.builtins,by show (scope.kind==.module&&_)=false; rw [C.kind]; rfl,C.kind⟩
 clear hE
 refine ⟨hgl.2.2.2,hgl.1,hgl.2.1,hgl.2.2.1,⟨fun _=>none,hEl▸hns,fun y v hy hv=>?_⟩,hEl▸St.H_none hu,hEl▸St.P_none hu,hEl▸R.fresh0 hnew,fun y v hv=>?_,fun y c hc=>?_,fun y z c hy hz=>?_,fun y hy=>?_,?_,?_⟩
 ·rw [hloc,(hcap y v hv).1] at hy
  simp only [Option.map_some,Option.some.injEq] at hy
  split at hy <;> cases hy
 ·obtain ⟨q,hv⟩:=hcap y v hv
  obtain ⟨c,h1,h2⟩:=hasF y (lookup_mem q)
  rcases F.kinds y v hv with hk' | ⟨_,d,h3,o,v',h4,h5,h6⟩
  ·have:=C.free y (lookup_mem q)
   unfold Env.kindOf at hk'
   rw [hk'] at this
   rcases this with h | h <;> cases h
  ·rw [h2] at h3; cases h3
   refine .inr ⟨?_,c,hEc▸h1,o,v',hk _ _ h4,h5,h6⟩
   rw [hloc,q]
   simp only [Option.map_some]
   split
   ·exact .inl rfl
   ·exact .inr rfl
 ·rw [hEc] at hc
  rcases split y c hc with ⟨h,_⟩ | ⟨h,_⟩
  ·have hu':=R.unknown (fresh y c h)
   obtain ⟨o,h1,h2⟩:=(ok.empty y c h).1
   exact ⟨St.H_none hu',St.P_none hu',R.fresh0 (fresh y c h),hEl▸Nat.ne_of_gt (Nat.lt_of_lt_of_le (Nat.lt_succ_self _) (ok.empty y c h).2),o,none,h1,h2⟩
  ·obtain ⟨a1,a2,a3,a4,o,v,a5,a6⟩:=F.cells y c h
   exact ⟨a1,a2,a3,hEl▸Nat.ne_of_lt (Heap.lt_size a5),o,v,hk _ _ a5,a6⟩
 ·rw [hEc] at hy hz
  have old:∀{x},env.cells.lookup x=some c→∀{y},(y,c)∈C1→False:=fun {x} h {y} h'=>by
   obtain ⟨_,_,_,_,o,v,a5,_⟩:=F.cells x c h
   rw [fresh y c h'] at a5; cases a5
  rcases split y c hy with ⟨h1,_⟩ | ⟨h1,_⟩ <;> rcases split z c hz with ⟨h2,_⟩ | ⟨h2,_⟩
  ·have P:=ok.apart
   clear hy hz old ok hEc split has fresh hasF hcn hch
   induction C1 with
   | nil=>cases h1
   | cons p r ih =>
    rw [List.pairwise_cons] at P
    rcases List.mem_cons.mp h1 with h1 | h1 <;> rcases List.mem_cons.mp h2 with h2 | h2
    ·rw [← h2] at h1; cases h1; rfl
    ·exact absurd (by rw [← h1]) (P.1 _ h2)
    ·exact absurd (by rw [← h2]) (P.1 _ h1)
    ·exact ih h1 h2 P.2
  ·exact (old h2 h1).elim
  ·exact (old h1 h2).elim
  ·exact F.inj y z c h1 h2
 ·rw [hloc] at hy
  rw [hEc]
  cases q:scope.names.lookup y with
  | none=>rw [q] at hy; rcases hy with h | h <;> cases h
  | some k =>
   rw [q] at hy
   have hc:k=.cell∨k=.free:=by
    cases k <;> first | exact .inl rfl | exact .inr rfl | (exfalso; rcases hy with h | h <;> cases h)
   rcases hc with rfl | rfl
   ·obtain ⟨c,hc⟩:=hch y (lookup_mem q); exact has (List.mem_append_left _ hc)
   ·obtain ⟨c,h1,_⟩:=hasF y (lookup_mem q); exact ⟨c,h1⟩
 ·unfold capt; rw [C.noDebug]; rfl
 ·unfold capt; rw [C.noClassdict]; rfl
end
section
variable {KK:Params→Frag}{W:Wd KK}{n:Nat}{env:Env}{m:Lm}{σ:St}
theorem FrameOK.weaken{m':Lm}{s:Shared}(F:FrameOK W env m' σ s)(h:∀ x v,m x=some v→m' x=some v):FrameOK W env m σ s:=by
 obtain ⟨mr,hns,hm⟩:=F.ns
 refine ⟨F.kind,F.globals,F.builtins,F.plain,⟨mr,hns,fun x v k e=>hm x v k (h x v e)⟩,F.noH,F.noP,F.fresh,fun x v e=>F.kinds x v (h x v e),F.cells,F.inj,F.hasCell,none_of fun v e=>?_,none_of fun v e=>?_⟩
 ·have:=h _ v e; rw [F.noDebug] at this; cases this
 ·have:=h _ v e; rw [F.noClassdict] at this; cases this
theorem compLoop_any{A:Around}{R:Result→Shared→Prop}{s:Shared}{elt target iter:Expr}{ifs:List Expr}{scope:Scope}{pos:Pos}{it acc:Value}(I:Nat→Shared→Prop)
  (turn:∀ n s,I n s→wpAny W.M A (pyNext it) (fun r s₁=>match r with
   | none=>R (.ok .next) s₁
   | some v=>wpAny W.M A (letOwnedTupleGo target it v) (fun _ s₁'=>wpAny W.M A (assign target env v) (fun _ s₂ =>
     wpAny W.M A (forIn ifs true fun c r=>if r=true then do let ok ← isTrue c env (eval c env); pure (ForInStep.yield ok) else pure (ForInStep.yield r)) (fun ok s₃ =>
      if ok=true then wpAny W.M A (eval elt env) (fun x s₄ =>
       wpAny W.M A (call (.builtin "list.append") [acc,x]) (fun _ s₅=>∃ m,m < n∧I m s₅) noE s₄) noE s₃
      else ∃ m,m < n∧I m s₃) noE s₂) noE s₁') noE s₁) noE s)
  (n:Nat) (h:I n s) :
  codeAny W.M A (.compLoop (.ListComp elt [⟨target,iter,ifs,0⟩] scope pos) 0 it acc env) R s:=by
 refine codeAny_loop rfl I (fun n s hI=>?_) n h
 show wpAny _ A ((compTurn (.ListComp elt [⟨target,iter,ifs,0⟩] scope pos) 0 it acc env).onRaise (fun x=>do noteFrame x env; theTreesLotGoes x)) _ _ s
 refine wpAny_noted ?_
 rw [compTurn_list]
 refine wpAny_bind (wpAny_standAt (wpAny_bind (wpAny_mono (turn n s hI) (fun r s₁ h₁=>?_) fun _ _ h'=>h'.elim)))
 cases r with
 | none=>exact wpAny_pure h₁
 | some v =>
  refine wpAny_bind (wpAny_mono h₁ (fun _ s₁' h₁'=>?_) fun _ _ h'=>h'.elim)
  refine wpAny_bind (wpAny_mono h₁' (fun _ s₂ h₂=>wpAny_bind (wpAny_mono h₂ (fun ok s₃ h₃=>?_) fun _ _ h'=>h'.elim)) fun _ _ h'=>h'.elim)
  cases ok with
  | false=>exact wpAny_pure ⟨rfl,h₃⟩
  | true =>
   exact wpAny_bind (wpAny_bind (wpAny_mono h₃ (fun x s₄ h₄=>wpAny_bind (wpAny_mono h₄ (fun _ s₅ h₅=>wpAny_pure (wpAny_pure ⟨rfl,h₅⟩)) fun _ _ h'=>h'.elim)) fun _ _ h'=>h'.elim))
theorem Rel.reveal{s:Shared}{a:Addr}{o:AO}(R:Rel W σ s)(hn:σ.at a=none)(h0:W.h0.get? a=none)(hat:AbsAt W s.heap a o):Rel W (σ.put a o) s:=by
 refine ⟨R.keep,fun b ob h=>?_,fun b ob h=>?_,fun b=>?_,R.os,R.gens⟩
 ·by_cases q:b=a
  ·subst q; rw [St.at_put_self] at h; cases h; exact hat
  ·rw [St.at_put_ne _ q] at h; exact R.ats _ _ h
 ·by_cases q:b=a
  ·subst q; exact h0
  ·exact R.fresh b ob (by simpa [St.put,q] using h)
 ·by_cases q:b=a
  ·subst q; exact .inr (show σ.P b=none from St.P_none hn)
  ·have:=R.disj b; simpa [St.put,q] using this
noncomputable def CompBody(W:Wd KK)(n:Nat)(cenv:Env)(m:Lm)(elt:Expr)(yes:Value→St→Prop)(no:St→Prop):List Expr→St→Prop
 | [],σ=>Ev W n cenv m elt yes σ
 | [c],σ=>Te W n cenv m c (fun b σ'=>if b then Ev W n cenv m elt yes σ' else no σ') σ
 | _,_=>False
inductive CompW(W:Wd KK)(n:Nat)(osc:Scope)(m:Lm)(elt:Expr)(tg:Tg)(ifs:List Expr)(scope:Scope)(fin:List Value→Addr→St→Prop)(v:Value)(σ₁:St):Prop
 | mk (xs:List Value) (live:St→Prop) (ov:Over σ₁ v xs live) (hlen:xs.length≤sizeLine) (I:List Value→List Value→St→Prop) (σ₀:St) (g:Ghost σ₁ σ₀) (lv0:live σ₀) (hI0:I [] [] σ₀)
  (st:∀ pre x post acc σ' cenv,cenv.scope=relS scope osc→xs=pre++x :: post→PLe σ₀ σ'→live σ'→I pre acc σ'→BindT tg x (capt scope m) σ' fun m' =>
    CompBody W n cenv m' elt (fun v σ₂=>∃ σ₃,Ghost σ₂ σ₃∧live σ₃∧I (pre++[x]) (acc++[v]) σ₃) (fun σ₂=>∃ σ₃,Ghost σ₂ σ₃∧live σ₃∧I (pre++[x]) acc σ₃) ifs σ')
  (en:∀ acc D σ',PLe σ₀ σ'→live σ'→I xs acc σ'→σ'.at D=none→fin acc D σ')
inductive CmJ(W:Wd KK)(cenv:Env)(m₀:Lm)(own:Addr→Prop)(σ₁ σ₀:St)(s₁:Shared)(itA D:Addr)(live:St→Prop)(I:List Value→List Value→St→Prop)(At:Heap→Nat→Prop)(xs:List Value)(k:Nat)(s':Shared):Prop
 | mk (pre post acc:List Value) (σ':St) (nn:Nat) (items:Array Value) (hxs:xs=pre++post) (hk:k=post.length) (R':Rel W σ' s') (F':FrameOK W cenv m₀ σ' s') (S':StepB own σ₁ s₁ σ' s') (hP:PLe σ₀ σ') (hlv:live σ') (hI:I pre acc σ') (hAt:At s'.heap pre.length) (hH:σ'.H itA=none) (hPn:σ'.P itA=none)
  (hDl:s'.heap.get? D=some { cls:=.type "list",data:=.seq items nn }) (hacc:items.toList.map er=acc) (hal:acc.length≤pre.length) (hDH:σ'.H D=none) (hDP:σ'.P D=none)
theorem updAll_sub{m₀:Lm}{ys:List Str}:∀{vs:List Value}{m₁:Lm},(∀ y∈ys,m₀ y=none)→(∀ y u,m₀ y=some u→m₁ y=some u)→∀ y u,m₀ y=some u→updAll m₁ ys vs y=some u:=by
 induction ys with
 | nil=>exact fun _ h1=>h1
 | cons z zs ih =>
  intro vs m₁ h0 h1
  cases vs with
  | nil=>exact h1
  | cons u us =>
   refine ih (fun y hy=>h0 y (.tail _ hy)) fun y w hy=>?_
   unfold upd
   rw [if_neg (fun q=>by rw [q,h0 z (.head _)] at hy; cases hy)]
   exact h1 y w hy
theorem BindT.sub{tg:Tg}{x:Value}{m₀:Lm}{K:Lm→Prop}(h0:∀ y∈tg.names,m₀ y=none)(h:BindT tg x m₀ σ K):BindT tg x m₀ σ fun m'=>(∀ y u,m₀ y=some u→m' y=some u)∧K m':=by
 cases tg with
 | one y=>exact ⟨updAll_sub (ys:=[y]) (vs:=[x]) h0 fun _ _ e=>e,h⟩
 | many ys=>obtain ⟨a,vs,e1,e2,e3,e4⟩:=h; exact ⟨a,vs,e1,e2,e3,updAll_sub h0 fun _ _ e=>e,e4⟩
theorem comp_core{elt te iter:Expr}{ifs:List Expr}{scope:Scope}{pos pos':Pos}{tg:Tg}{A:Around}{s:Shared}{use:Option (Value→Sem Unit)}{Qs:Value→Shared→Prop}{fin:List Value→Addr→St→Prop}
  (hc:compChk scope env.scope=true) (ht:tgOf te=some tg) (htn:(tg.names.all fun x=>(scope.names.lookup x==some .local||scope.names.lookup x==some .cell)&&x != "__debug__"&&x != "__classdict__")=true) (hns:notSet iter=true) (hlc:(scope.names.all fun x=>x.2 != .local||scope.names.lookup x.1==some .local)=true)
  (r:Room n A) (R:Rel W σ s) (F:FrameOK W env m σ s)
  (h:Ev W n env m iter (CompW W n env.scope m elt tg ifs scope fin) σ)
  (hfin:∀ acc D C σ' s' mr,Rel W (σ'.put D (.list acc)) s'→Step σ s (σ'.put D (.list acc)) s'→s'.heap.Ns C mr→s.heap.get? C=none→(σ'.put D (.list acc)).at C=none→W.h0.get? C=none→fin acc D σ'→compPost W.M A noE use Qs (.ref D) C (.ok .next) s') :
  wpAny W.M A (comprehension (.ListComp elt [⟨te,iter,ifs,0⟩] scope pos) scope env pos' (newList []) false (eval iter env) use) Qs noE s:=by
 have CS:=compSc_of hc
 obtain ⟨cl,ecl,hcl1,hcl2⟩:=closure_of CS F
 refine wpAny_comprehension_free (use:=use) rfl (fun x=>folded_no hns) ecl CS.kind (fun x hx hk=>by have:=List.all_eq_true.mp hlc x hx; simpa [hk] using this) (wpE (h A s r R F) (fun v s₁ σ₁ R₁ S₁ zq=>?_))
 cases zq with
 | mk xs live ov hlen I σ₀ g lv0 hI0 hstep hen =>
 refine tr_iter R₁ ov fun itA At h' IT lv hat hn hkp=>?_
 have F₁:=F.step S₁
 have R₂:Rel W σ₀ { s₁ with heap:=h' }:=Rel.ghost (σ:=σ₁) (R₁.of_keeps (s':={ s₁ with heap:=h' }) hkp rfl rfl) g
 have S₂:Step σ₁ s₁ σ₀ { s₁ with heap:=h' }:=(Step.of_keeps (s':={ s₁ with heap:=h' }) hkp).trans (Step.ghost g)
 refine wpAny_newObj_type ?_
 generalize hD:h'.objs.size=D
 have hDn:h'.get? D=none:=by rw [← hD]; exact push_none _
 have hDo:(h'.push { cls:=.type "list",dict:=none,data:=.seq ([]:List Value).toArray }).get? D=some { cls:=.type "list",data:=.seq #[] }:=by rw [← hD]; exact Heap.get?_push_size _ rfl
 have hk3:=push_keeps h' { cls:=.type "list",dict:=none,data:=.seq ([]:List Value).toArray }
 generalize h'.push { cls:=.type "list",dict:=none,data:=.seq ([]:List Value).toArray }=h3 at hDo hk3 ⊢
 show wpAny W.M A (newFunctionEnv scope env.globals cl [] env.qual none .none (some env)) _ noE { s₁ with heap:=h3 }
 have R₃:Rel W σ₀ { s₁ with heap:=h3 }:=R₂.of_keeps (s':={ s₁ with heap:=h3 }) hk3 rfl rfl
 have S₃:Step σ₁ s₁ σ₀ { s₁ with heap:=h3 }:=S₂.trans (Step.of_keeps (s':={ s₁ with heap:=h3 }) hk3)
 have F₃:FrameOK W env m σ₀ { s₁ with heap:=h3 }:=F₁.step S₃
 refine newEnv_comp (s:={ s₁ with heap:=h3 }) CS F₃ R₃ hcl1 hcl2 A noE _ fun c0 h4 hloc hk4 F₄ hfr4 hout4=>?_
 generalize hcenv:({ c0 with scope:=relabel scope env }:Env)=cenv at F₄ ⊢
 have hCl:cenv.locals=h3.objs.size:=by rw [← hcenv]; exact hloc
 have hcl0:c0.locals=cenv.locals:=by rw [← hcenv]
 have hsc:cenv.scope=relS scope env.scope:=by rw [← hcenv]; rfl
 have hcells:cenv.cells=c0.cells:=by rw [← hcenv]
 have R₄:Rel W σ₀ { s₁ with heap:=h4 }:=R₃.of_keeps (s':={ s₁ with heap:=h4 }) hk4 rfl rfl
 have S₄:Step σ₁ s₁ σ₀ { s₁ with heap:=h4 }:=S₃.trans (Step.of_keeps (s':={ s₁ with heap:=h4 }) hk4)
 have hkind:∀ y,cenv.kindOf y=(scope.names.lookup y).map fun k=>if (k==NameKind.free&&env.scope.kind==.function&&env.kindOf y==some .cell) then NameKind.cell else k:=fun y=>by
  rw [← hcenv]; exact rel_lookup env y scope.names
 have htn':=fun x hx=>List.all_eq_true.mp htn x hx
 have htk:∀ x∈tg.names,okName cenv x∧scope.names.lookup x≠some .free:=fun x hx=>by
  have:=htn' x hx
  simp only [Bool.and_eq_true,Bool.or_eq_true,beq_iff_eq,bne_iff_ne] at this
  obtain ⟨⟨q,d1⟩,d2⟩:=this
  rcases q with q | q
  ·exact ⟨⟨.inl (by rw [hkind,q]; rfl),d1,d2⟩,by rw [q]; decide⟩
  ·exact ⟨⟨.inr (by rw [hkind,q]; rfl),d1,d2⟩,by rw [q]; decide⟩
 let own:Addr→Prop:=fun b=>b=cenv.locals∨∃ x∈tg.names,cenv.cells.lookup x=some b
 have hown:∀ x∈tg.names,own cenv.locals∧(cenv.kindOf x=some .cell→∀ c,cenv.cells.lookup x=some c→own c):=fun x hx=>⟨.inl rfl,fun _ c hc=>.inr ⟨x,hx,hc⟩⟩
 have ownfresh:∀ b,own b→h3.get? b=none:=fun b hb=>by
  rcases hb with hb | ⟨x,hx,hb⟩
  ·rw [hb,hCl]; exact push_none _
  ·exact hfr4 x b (htk x hx).2 (by rw [← hcells]; exact hb)
 have own1:∀ b o,s₁.heap.get? b=some o→¬ own b:=fun b o hb w=>by
  have:=hk3 _ _ (hkp _ _ hb); rw [ownfresh b w] at this; cases this
 obtain ⟨oi,hoi⟩:=IT.some_ hat
 have offI:¬ own itA:=fun w=>by have:=hk3 _ _ hoi; rw [ownfresh _ w] at this; cases this
 have offD:¬ own D:=fun w=>by rw [ownfresh _ w] at hDo; cases hDo
 have hDI:D≠itA:=fun q=>by rw [q,hoi] at hDn; cases hDn
 have outer:∀ x c,cenv.cells.lookup x=some c→h3.get? c=none∨∃ o,s₁.heap.get? c=some o:=fun x c hc=>by
  rcases hout4 x c (by rw [← hcells]; exact hc) with q | q
  ·exact .inl q
  ·obtain ⟨_,_,_,_,o,v,h5,_⟩:=F₁.cells x c q
   exact .inr ⟨o,h5⟩
 have offI':Off cenv itA:=⟨fun q=>offI (.inl q),fun x c hc q=>by
  rcases outer x c hc with z | ⟨o,z⟩
  ·rw [q,hk3 _ _ hoi] at z; cases z
  ·rw [q,hn] at z; cases z⟩
 have offD':Off cenv D:=⟨fun q=>offD (.inl q),fun x c hc q=>by
  rcases outer x c hc with z | ⟨o,z⟩
  ·rw [q,hDo] at z; cases z
  ·rw [q] at z; rw [hkp _ _ z] at hDn; cases hDn⟩
 have hnI:σ₀.at itA=none:=none_of fun o e=>by have:=g.sub _ _ e; rw [R₁.unknown hn] at this; cases this
 have hnD1:s₁.heap.get? D=none:=none_of fun o e=>by have:=hkp _ _ e; rw [hDn] at this; cases this
 have hnD:σ₀.at D=none:=none_of fun o e=>by have:=g.sub _ _ e; rw [R₁.unknown hnD1] at this; cases this
 have hI0n:=R₁.fresh0 hn
 have hD0n:=R₁.fresh0 hnD1
 have hCn1:s₁.heap.get? cenv.locals=none:=none_of fun o e=>own1 _ _ e (.inl rfl)
 have hC0n:=R₁.fresh0 hCn1
 have hsn:∀ b,s₁.heap.get? b=none→s.heap.get? b=none:=fun b hb=>none_of fun o e=>by
  obtain ⟨o',h'⟩:=S₁.alive _ _ e
  rw [hb] at h'; cases h'
 rw [hcl0]
 have J0:CmJ W cenv (capt scope m) own σ₁ σ₀ s₁ itA D live I At xs xs.length { s₁ with heap:=h4 }:=⟨[],xs,[],σ₀,0,#[],rfl,rfl,R₄,F₄,S₄.toB,fun _ _ e=>e,lv0,hI0,IT.same (fun o e=>hk4 _ _ (hk3 _ _ e)) hat,St.H_none hnI,St.P_none hnI,hk4 _ _ hDo,rfl,Nat.le_refl _,St.H_none hnD,St.P_none hnD⟩
 have loop:codeAny W.M A (.compLoop (.ListComp elt [⟨te,iter,ifs,0⟩] scope pos) 0 (.ref itA) (.ref D) cenv) (compPost W.M A noE use Qs (.ref D) cenv.locals) { s₁ with heap:=h4 }:=by
  refine compLoop_any (CmJ W cenv (capt scope m) own σ₁ σ₀ s₁ itA D live I At xs) (fun k s' J=>?_) xs.length J0
  cases J with
  | mk pre post acc σ' nn items hxs hkp R' F' S' hP hlv hI hAt hH hPn hDl hacc hal hDH hDP =>
  cases post with
  | nil =>
   rw [List.append_nil] at hxs
   refine IT.done r.handled R' hlv hAt (by rw [hxs]; exact List.getElem?_eq_none (Nat.le_refl _)) fun h₂ hk₂=>?_
   have R₂:Rel W σ' { s' with heap:=h₂ }:=R'.hidden (s':={ s' with heap:=h₂ }) (St.at_of_none hH hPn) hI0n hk₂ rfl rfl
   have F₂:FrameOK W cenv (capt scope m) σ' { s' with heap:=h₂ }:=F'.hidden (s':={ s' with heap:=h₂ }) offI' hk₂
   have S₂:StepB own σ₁ s₁ σ' { s' with heap:=h₂ }:=S'.hidden (s'':={ s' with heap:=h₂ }) hn hk₂
   have hDl₂:=hk₂ _ _ hDI hDl
   have hDn':=St.at_of_none hDH hDP
   have hR:Rel W (σ'.put D (.list acc)) { s' with heap:=h₂ }:=R₂.reveal hDn' hD0n ⟨nn,items,hDl₂,hacc⟩
   have SS:Step σ₁ s₁ (σ'.put D (.list acc)) { s' with heap:=h₂ }:=by
    refine ⟨S₂.alive,S₂.mono,fun b o e q=>S₂.keep b o e q (own1 b o e),fun b o e q=>?_,fun b o e q p=>S₂.noP b o e q p (own1 b o e)⟩
    have:b≠D:=fun z=>by rw [z,hnD1] at e; cases e
    show (if b=D then _ else σ'.H b)=none
    rw [if_neg this]
    exact S₂.noH b o e q (own1 b o e)
   obtain ⟨mr,hns',_⟩:=F₂.ns
   refine hfin acc D cenv.locals σ' _ mr hR (S₁.trans SS) hns' (hsn _ hCn1) ?_ hC0n (hen acc D σ' hP hlv (hxs▸hI) hDn')
   rw [St.at_put_ne _ (fun z=>offD (.inl z.symm))]
   exact St.at_of_none F₂.noH F₂.noP
  | cons x post =>
   refine IT.item (x:=x) r.handled R' hlv hAt (by rw [hxs,List.getElem?_append_right (Nat.le_refl _),Nat.sub_self]; rfl) fun v₂ h₂ t₂ ev₂ hAt₂ hk₂=>?_
   have hk₂':∀ b o,b≠itA→s'.heap.get? b=some o→h₂.get? b=some o:=fun b o hb e=>(hk₂ b hb).trans e
   refine IT.letGo (s:={ s' with heap:=h₂,toks:=t₂ }) hAt₂ ?_
   have R₂:Rel W σ' { s' with heap:=h₂,toks:=t₂ }:=R'.hidden (s':={ s' with heap:=h₂,toks:=t₂ }) (St.at_of_none hH hPn) hI0n hk₂' rfl rfl
   have F₂:FrameOK W cenv (capt scope m) σ' { s' with heap:=h₂,toks:=t₂ }:=F'.hidden (s':={ s' with heap:=h₂,toks:=t₂ }) offI' hk₂'
   have S₂:StepB own σ₁ s₁ σ' { s' with heap:=h₂,toks:=t₂ }:=S'.hidden (s'':={ s' with heap:=h₂,toks:=t₂ }) hn hk₂'
   have hDl₂:=hk₂' _ _ hDI hDl
   obtain ⟨oi₂,hoi₂⟩:=IT.some_ hAt₂
   have hb:=(hstep pre x post acc σ' cenv hsc hxs hP hlv hI).sub fun y hy=>by show capt scope m y=none; unfold capt; rw [if_neg (htk y hy).2]
   refine wpS (st_target (own:=own) (v:=v₂) (Q:=fun _ m'' σ''=>σ''=σ'∧(∀ y u,capt scope m y=some u→m'' y=some u)∧CompBody W n cenv m'' elt (fun v σ₂=>∃ σ₃,Ghost σ₂ σ₃∧live σ₃∧I (pre++[x]) (acc++[v]) σ₃) (fun σ₂=>∃ σ₃,Ghost σ₂ σ₃∧live σ₃∧I (pre++[x]) acc σ₃) ifs σ') ht hown (fun y hy=>(htk y hy).1) (by rw [ev₂]; exact hb.mono fun _ z=>⟨rfl,z⟩) A _ r R₂ F₂) (fun _ s₃ m₃ σ₃ R₃ F₃ S₃ zq=>?_)
   obtain ⟨e₃,hsub,hb⟩:=zq
   rw [e₃] at R₃ F₃ S₃
   obtain ⟨a1,a2,a3⟩:=S₃.offH offI hoi₂ hH hPn
   obtain ⟨d1,d2,d3⟩:=S₃.offH offD hDl₂ hDH hDP
   have SS₃:=S₂.trans S₃
   -- the end of a turn
   have fin:∀(acc':List Value)(σ₄:St)(s₄ s₅:Shared)(nn':Nat)(items':Array Value),Rel W σ₄ s₄→Step σ' s₃ σ₄ s₄→(∀ b o,b≠D→s₄.heap.get? b=some o→s₅.heap.get? b=some o)→s₅.os=s₄.os→s₅.gens=s₄.gens →
     s₅.heap.get? D=some { cls:=.type "list",data:=.seq items' nn' }→items'.toList.map er=acc'→acc'.length≤pre.length+1→(∃ σ₅,Ghost σ₄ σ₅∧live σ₅∧I (pre++[x]) acc' σ₅)→∃ j,j < k∧CmJ W cenv (capt scope m) own σ₁ σ₀ s₁ itA D live I At xs j s₅:=by
    intro acc' σ₄ s₄ s₅ nn' items' R₄ S₄ hk₅ ho hg hD₅ hacc' hal' ⟨σ₅,g₅,l₅,i₅⟩
    have b1:=S₄.keep _ _ a1 a2
    have b2:=S₄.noH _ _ a1 a2
    have b3:=S₄.noP _ _ a1 a2 a3
    have c1:=S₄.keep _ _ d1 d2
    have c2:=S₄.noH _ _ d1 d2
    have c3:=S₄.noP _ _ d1 d2 d3
    have R₅:Rel W σ₄ s₅:=R₄.hidden (St.at_of_none c2 c3) hD0n hk₅ ho hg
    have F₅:FrameOK W cenv m₃ σ₄ s₅:=(F₃.step S₄).hidden offD' hk₅
    have S₅:StepB own σ₁ s₁ σ₄ s₅:=(SS₃.trans S₄.toB).hidden hnD1 hk₅
    have G5:=Step.ghost (s:=s₅) g₅
    refine ⟨post.length,by rw [hkp]; exact Nat.lt_succ_self _,pre++[x],post,acc',σ₅,nn',items',by rw [hxs,List.append_assoc]; rfl,rfl,R₅.ghost g₅,(F₅.step G5).weaken hsub,S₅.trans G5.toB,fun a o e=>g₅.mono _ _ (S₄.mono _ _ (S₃.mono _ _ (hP _ _ e))),l₅,i₅,?_,?_,?_,hD₅,hacc',by rw [List.length_append]; exact hal',?_,?_⟩
    ·rw [List.length_append,List.length_singleton]
     exact IT.same (fun o e=>Option.some.inj (hoi₂.symm.trans e)▸hk₅ _ _ (Ne.symm hDI) b1) hAt₂
    ·exact G5.noH _ _ (hk₅ _ _ (Ne.symm hDI) b1) b2
    ·exact G5.noP _ _ (hk₅ _ _ (Ne.symm hDI) b1) b2 b3
    ·exact G5.noH _ _ hD₅ c2
    ·exact G5.noP _ _ hD₅ c2 c3
   have yes:∀(σ₄:St)(s₄:Shared),Rel W σ₄ s₄→Step σ' s₃ σ₄ s₄→Ev W n cenv m₃ elt (fun v σ₂=>∃ σ₅,Ghost σ₂ σ₅∧live σ₅∧I (pre++[x]) (acc++[v]) σ₅) σ₄ →
     wpAny W.M A (eval elt cenv) (fun x₁ s₄=>wpAny W.M A (call (.builtin "list.append") [.ref D,x₁]) (fun _ s₅=>∃ j,j < k∧CmJ W cenv (capt scope m) own σ₁ σ₀ s₁ itA D live I At xs j s₅) noE s₄) noE s₄:=by
    intro σ₄ s₄ R₄ S₄ he
    refine wpE (he A s₄ r R₄ (F₃.step S₄)) (fun v s₅ σ₅ R₅ S₅ hq=>?_)
    have SS:=S₄.trans S₅
    have c1:=SS.keep _ _ d1 d2
    have hl1:items.size≤sizeLine:=by
     have h1:items.toList.length=acc.length:=by rw [← hacc]; simp
     rw [Array.length_toList] at h1
     have h2:pre.length≤xs.length:=by rw [hxs]; simp
     exact h1▸Nat.le_trans hal (Nat.le_trans h2 hlen)
    refine wpAny_list_append_plain ⟨nn,c1⟩ (fun h' ⟨n',hp⟩ hs'=>?_) hl1
    refine fin (acc++[er v]) σ₅ s₅ _ n' _ R₅ SS (fun b o hb e=>(hs'.2 b hb).trans e) rfl rfl hp (by simp [hacc]) (by rw [List.length_append]; simp; exact hal) hq
   cases ifs with
   | nil=>exact wpAny_tests_nil (by rw [if_pos rfl]; exact yes σ' s₃ R₃ (.refl _ _) hb)
   | cons c cs =>
    cases cs with
    | cons _ _=>exact hb.elim
    | nil =>
     refine wpAny_tests_one (wpE (hb A s₃ r R₃ F₃) (fun b s₄ σ₄ R₄ S₄ hq=>?_))
     cases b with
     | true=>rw [if_pos rfl] at hq ⊢; exact yes σ₄ s₄ R₄ S₄ hq
     | false =>
      rw [if_neg (by decide)] at hq ⊢
      exact fin acc σ₄ s₄ s₄ nn items R₄ S₄ (fun _ _ _ e=>e) rfl rfl (S₄.keep _ _ d1 d2) hacc (Nat.le_succ_of_le hal) hq
 exact codeAny_compStart_list loop (IT.self (IT.same (fun o e=>hk4 _ _ (hk3 _ _ e)) hat) loop)
noncomputable def compOk(scope osc:Scope)(tg:Tg)(iter:Expr):Bool:=compChk scope osc&&(tg.names.all fun x=>(scope.names.lookup x==some .local||scope.names.lookup x==some .cell)&&x != "__debug__"&&x != "__classdict__")&&notSet iter&&(scope.names.all fun x=>x.2 != .local||scope.names.lookup x.1==some .local)
theorem ev_comp{elt te iter:Expr}{ifs:List Expr}{scope osc:Scope}{pos:Pos}{tg:Tg}{Q:Value→St→Prop}(ho:env.scope=osc)(ht:tgOf te=some tg)(hc:compOk scope osc tg iter=true)
  (h:Ev W n env m iter (CompW W n osc m elt tg ifs scope fun acc D σ'=>Q (.ref D) (σ'.put D (.list acc))) σ):Ev W n env m (.ListComp elt [⟨te,iter,ifs,0⟩] scope pos) Q σ:=fun A s r R F=>by
 subst ho
 simp only [compOk,Bool.and_eq_true] at hc
 obtain ⟨⟨⟨c1,c2⟩,c3⟩,c4⟩:=hc
 refine comp_core (use:=none) c1 ht c2 c3 c4 r R F h fun acc D C σ' s' mr R' S' hns hC hCn hC0 hf=>?_
 refine ⟨mr,hns,fun h' hs'=>⟨_,R'.hidden (s':={ s' with heap:=h' }) hCn hC0 (fun b o hb e=>hs'.extBut b o hb e) rfl rfl,?_,hf⟩⟩
 have hk:∀ b o,b≠C→s'.heap.get? b=some o→h'.get? b=some o:=fun b o hb e=>hs'.extBut b o hb e
 have hne:∀ b o,s.heap.get? b=some o→b≠C:=fun b o e q=>by rw [q,hC] at e; cases e
 exact ⟨fun b o e=>by obtain ⟨o',e'⟩:=S'.alive b o e; exact ⟨o',hk b o' (hne b o e) e'⟩,S'.mono,fun b o e q=>hk b o (hne b o e) (S'.keep b o e q),S'.noH,S'.noP⟩
theorem ex_assign_comp{elt te iter:Expr}{ifs:List Expr}{scope osc:Scope}{pos spos p:Pos}{x:Str}{tg:Tg}{Q:Flow→Lm→St→Prop}(ho:env.scope=osc)(ht:tgOf te=some tg)(hc:compOk scope osc tg iter=true)
  (hsw:(osc.kind==.function&&osc.names.lookup x==some .local&&p.line==pos.line&&!(scope.names.any fun (n,k)=>n==x&&(k==.local||k==.cell)))=true) (hd:x≠"__debug__") (hcd:x≠"__classdict__")
  (h:Ev W n env m iter (CompW W n osc m elt tg ifs scope fun acc D σ'=>Q .next (upd m x (.ref D)) (σ'.put D (.list acc))) σ):Ex W n env m (.Assign [.Name x p] (.ListComp elt [⟨te,iter,ifs,0⟩] scope pos) spos) Q σ:=fun A s r R F=>by
 subst ho
 simp only [compOk,Bool.and_eq_true] at hc
 obtain ⟨⟨⟨c1,c2⟩,c3⟩,c4⟩:=hc
 have hk:env.kindOf x=some .local:=by
  simp only [Bool.and_eq_true,beq_iff_eq] at hsw
  exact hsw.1.1.2
 have hsw':swapsWith (.ListComp elt [⟨te,iter,ifs,0⟩] scope pos) (some (.Name x p)) spos.line env=pure true:=by
  have:(env.blockKind==.function)=(env.scope.kind==.function):=by
   unfold Env.blockKind; rw [F.kind]; rfl
  show pure (env.blockKind==.function&&env.kindOf x==some .local&&p.line==pos.line&&_)=pure true
  rw [this]
  exact congrArg pure hsw
 rw [exec_Assign_Name_used _ _ _ _ hsw']
 refine wpAny_bind (wpAny_standAt (wpAny_bind ?_))
 show wpAny W.M A (comprehension (.ListComp elt [⟨te,iter,ifs,0⟩] scope pos) scope env _ (newList []) false (eval iter env) (some (assign (.Name x p) env)) >>= fun _=>pure ()) _ noE s
 refine wpAny_bind (wpAny_mono (comp_core (use:=some (assign (.Name x p) env)) (Qs:=fun _ s'=>PS (Own env) W env (fun f m' σ'=>Q (erF f) m' σ') σ s .next s') c1 ht c2 c3 c4 r R F h fun acc D C σ' s' mr R' S' hns hC hCn hC0 hf=>?_) (fun v s' z=>wpAny_pure (wpAny_pure z)) fun _ _ e=>e)
 have F':=F.step S'
 have offC:Off env C:=Off.of_new F hC
 refine wpS (st_target (te:=.Name x p) (tg:=.one x) (v:=.ref D) (Q:=fun _ m' σ''=>m'=upd m x (.ref D)∧σ''=σ'.put D (.list acc)) rfl (fun y _=>own_name env y) (fun y hy=>by cases hy with | head=>exact ⟨.inl hk,hd,hcd⟩ | tail _ h=>cases h) ⟨rfl,rfl⟩ A s' r R' F') (fun _ s'' m' σ'' R₂ F₂ S₂ zq=>?_)
 obtain ⟨e1,e2⟩:=zq
 subst e1 e2
 have hCo:∃ o,s'.heap.get? C=some o:=by obtain ⟨o,_,_,ho,_⟩:=hns; exact ⟨o,ho⟩
 obtain ⟨oC,hoC⟩:=hCo
 have hCk:=S₂.keep C oC hoC (St.H_none hCn) offC.notOwn
 obtain ⟨oc,es,ep,h1,h2⟩:=hns
 rw [h1] at hoC; cases hoC
 refine ⟨mr,⟨_,es,ep,hCk,h2⟩,fun h' hs'=>⟨_,_,R₂.hidden (s':={ s'' with heap:=h' }) hCn hC0 (fun b o hb e=>hs'.extBut b o hb e) rfl rfl,F₂.hidden (s':={ s'' with heap:=h' }) offC (fun b o hb e=>hs'.extBut b o hb e),(S'.toB.trans S₂).hidden (s'':={ s'' with heap:=h' }) hC (fun b o hb e=>hs'.extBut b o hb e),hf⟩⟩
end
section
variable {KK:Params→Frag}{W:Wd KK}{n:Nat}{env:Env}{m:Lm}{σ:St}
theorem op_pow{a b:Value}{i j:Int}{Q:Value→St→Prop}(ha:er a=.int i 0)(hb:er b=.int j 0)(h0:0≤j)(hs:(Builtin.Int.intBits i:Int) * j≤2 ^ 27)(h:Q (.int (i ^ j.toNat) 0) σ):Tr W n (binaryOp .Pow a b) (fun v σ'=>Q (er v) σ') σ:=fun A s r R=>by
 obtain ⟨t,rfl⟩:=er_int ha; obtain ⟨u,rfl⟩:=er_int hb
 exact pow_int h0 hs ⟨σ,R.toks _,Step.toks _ _ _,h⟩
theorem tr_list_mul{l:Addr}{vs:List Value}{b:Value}{k:Int}{Q:Value→St→Prop}(hl:σ.at l=some (.list vs))(hb:er b=.int k 0)(hlo:0≤k)(hhi:k < 2 ^ 20)(hsz:vs.length≤8)
  (h:∀ a,σ.at a=none→Q (.ref a) (σ.put a (.list (List.replicate k.toNat vs).flatten))):Tr W n (binaryOp .Mult (.ref l) b) (fun v σ'=>Q (er v) σ') σ:=fun A s r R=>by
 obtain ⟨u,rfl⟩:=er_int hb
 obtain ⟨nn,items,h1,h2⟩:=R.ats _ _ hl
 have hz:=size_of_map h2
 have hb:items.size * k.toNat≤2 ^ 24:=by
  have a1:items.size≤8:=by exact lin [] [_,_] [532500,32838] 4292676 285677123 rfl hsz hz
  have a2:k.toNat≤2 ^ 20:=by omega
  exact Nat.le_trans (Nat.mul_le_mul a1 a2) (by decide)
 refine wpAny_binaryOp_repeat_ref (T:="list") (U:="int") (by decide) ⟨_,h1,rfl⟩ (fun s'=>typeIs_int s' k u) noFill_list_mul PySem.F.fills_int_mul PySem.F.slot_int_rmul repeat_list PySem.F.slot_int_index.lookup
  (call_meets PySem.F.slot_int_rmul (typeIs_int s k u) PySem.F.entry_int_rmul (PySem.F.args_int_rmul_2 _ _) (int___rmul___int_list k u l items nn)
   ⟨h1,rfl,⟨_,h1,rfl⟩,call_meets PySem.F.slot_list_mul ⟨_,h1,rfl⟩ PySem.F.entry_list_mul (PySem.F.args_list_mul_2 _ _)
    (AutoListH.list___mul___list_int_3 l items nn k u (by simp [Builtin.List.listFitsIndex]; exact ⟨lin [_] [] [4129] 2417851639229258349466721 149058 rfl hlo,lin [_,_] [] [65554,549755912259] 604462909807314587361298 285677123 rfl hhi pI20⟩) (by omega) (by simp [Builtin.List.listTooLong,sizeLine]; exact lin [] [_,_] [65556,8796093120582] 1099511635988 285677123 rfl hb pN24))
    ⟨h1,?_⟩⟩)
 obtain ⟨hu,R',S'⟩:=R.putNew (s':={ s with heap:=s.heap.push { cls:=.type "list",data:=.seq (List.foldl (fun x1 x2=>x1++x2) #[] (List.replicate (if items.isEmpty=true then 0 else k.toNat) items)) } }) (push_none _) (push_keeps _ _)
  (show AbsAt W _ s.heap.objs.size (.list (List.replicate k.toNat vs).flatten) from ⟨0,_,Heap.get?_push_size _ rfl,by rw [listMul_foldl_if,← h2]; simp [List.map_flatten]⟩) rfl rfl
 exact ⟨_,R',S',h _ hu⟩
theorem ints_items{xs:List Value}{ns:List Int}(h:xs.map er=ns.map fun i=>Value.int i 0):∃ ts:List (Int × Tok),xs=ts.map (fun p=>Value.int p.1 p.2)∧ts.map (·.1)=ns:=by
 induction xs generalizing ns with
 | nil=>cases ns with | nil=>exact ⟨[],rfl,rfl⟩ | cons=>cases h
 | cons x xs ih =>
  cases ns with
  | nil=>cases h
  | cons i ns =>
   rw [List.map_cons,List.map_cons,List.cons.injEq] at h
   obtain ⟨t,rfl⟩:=er_int h.1
   obtain ⟨ts,rfl,rfl⟩:=ih h.2
   exact ⟨(i,t) :: ts,rfl,rfl⟩
theorem tr_sum{l:Addr}{ns:List Int}{Q:Value→St→Prop}(hl:σ.at l=some (.list (ns.map fun i=>.int i 0)))(h:Q (.int ns.sum 0) σ):Tr W n (call (.builtin "sum") [.ref l]) (fun v σ'=>Q (er v) σ') σ:=fun A s r R=>by
 obtain ⟨nn,items,h1,h2⟩:=R.ats _ _ hl
 obtain ⟨ts,e1,e2⟩:=ints_items h2
 have e3:items=intItems ts.toArray:=by
  apply Array.toList_inj.mp
  rw [e1]; simp [intItems]
 have hI:s.heap.IsList l (intItems ts.toArray):=e3▸⟨_,h1,rfl,nn,rfl⟩
 refine sum_intListG r.handled hI fun h' tk t' hk=>?_
 rw [preSum_eq,List.take_of_length_le (by simp)]
 refine ⟨σ,R.of_keeps (s':={ s with heap:=h',toks:=tk }) hk rfl rfl,.of_keeps (s':={ s with heap:=h',toks:=tk }) hk,?_⟩
 show Q (.int (List.map (·.1) ts).sum 0) σ
 rw [e2]; exact h
theorem tr_str{a:Value}{i:Int}{Q:Value→St→Prop}(ha:er a=.int i 0)(hi:i.natAbs < 2 ^ 60)(h:Q (.str (Str.ofString (toString i)) 0) σ):Tr W n (call (.type "str") [a]) (fun v σ'=>Q (er v) σ') σ:=fun A s r R=>by
 obtain ⟨t,rfl⟩:=er_int ha
 refine P.str_of_int ?_ ⟨σ,R.toks _,Step.toks _ _ _,h⟩
 by_cases q:i.natAbs=0
 ·rw [q]; decide
 ·exact Nat.lt_of_lt_of_le ((Nat.log2_lt q).mpr hi) (by decide)
theorem Room.lt{A:Around}(r:Room n A):A.units < cLine:=by have:=r.units; rw [cLine_is]; exact lin [] [_,_] [2251854652700140052] 648814613 18966730254034856587014 rfl this
section C
variable {l b:Addr}{vs ws:List Value}{e:Nat→Bool}{Q:Value→St→Prop}{ns:List Int}{i:Int}
theorem any_ints{items:Array Value}{ns:List Int}{ts:List (Int × Tok)}(e1:items.toList=ts.map (fun p=>Value.int p.1 p.2))(e2:ts.map (·.1)=ns)(i:Int):items.any (fun y=>match y with | .int j _=>j==i | _=>false)=decide (i∈ns):=by
 rw [← Array.any_toList,e1,List.any_map,← e2]
 rw [Bool.eq_iff_iff]
 simp only [List.any_eq_true,Function.comp,beq_iff_eq,decide_eq_true_eq,List.mem_map]
theorem cmp_in(hl:σ.at l=some (.list (ns.map fun i=>.int i 0)))(h:Q (.bool (decide (i∈ns))) σ):Cmp W n .In (.int i 0) (.ref l) Q σ:=fun va vb ea eb A s r R=>by
 obtain ⟨t,rfl⟩:=er_int ea; obtain rfl:=er_ref eb
 obtain ⟨nn,items,h1,h2⟩:=R.ats _ _ hl
 obtain ⟨ts,e1,e2⟩:=ints_items h2
 refine PySem.SeqAt.in_listAt (fun y=>match y with | .int j _=>j==i | _=>false) ⟨_,h1,rfl,nn,rfl⟩ (fun y hy=>?_) ⟨σ,R,.refl _ _,?_⟩
 ·have:y∈items.toList:=by simpa using hy
  rw [e1] at this
  obtain ⟨p,_,rfl⟩:=List.mem_map.mp this
  exact PySem.SeqAt.EqAt.int_int _ _ _ _
 ·rw [any_ints e1 e2]; exact h
theorem cmp_notin(hl:σ.at l=some (.list (ns.map fun i=>.int i 0)))(h:Q (.bool (!decide (i∈ns))) σ):Cmp W n .NotIn (.int i 0) (.ref l) Q σ:=fun va vb ea eb A s r R=>by
 obtain ⟨t,rfl⟩:=er_int ea; obtain rfl:=er_ref eb
 obtain ⟨nn,items,h1,h2⟩:=R.ats _ _ hl
 obtain ⟨ts,e1,e2⟩:=ints_items h2
 refine PySem.SeqAt.notIn_listAt (fun y=>match y with | .int j _=>j==i | _=>false) ⟨_,h1,rfl,nn,rfl⟩ (fun y hy=>?_) ⟨σ,R,.refl _ _,?_⟩
 ·have:y∈items.toList:=by simpa using hy
  rw [e1] at this
  obtain ⟨p,_,rfl⟩:=List.mem_map.mp this
  exact PySem.SeqAt.EqAt.int_int _ _ _ _
 ·rw [any_ints e1 e2]; exact h
theorem cmp_int{op:CmpOp}{j:Int}{r:Bool}(he:cmpI op i j=some r)(h:Q (.bool r) σ):Cmp W n op (.int i 0) (.int j 0) Q σ:=fun va vb ea eb=>op_cmp ea eb he h
theorem cmp_is_none{v:Value}(hv:v=.none∨(∃ i,v=.int i 0)∨(∃ a,v=.ref a))(h:Q (.bool (v==.none)) σ):Cmp W n .Is v .none Q σ:=fun va vb ea eb A s r R=>by
 obtain rfl:=er_none eb
 rcases hv with rfl | ⟨i,rfl⟩ | ⟨a,rfl⟩
 ·obtain rfl:=er_none ea; exact wpAny_is_plain rfl ⟨σ,R,.refl _ _,h⟩
 ·obtain ⟨t,rfl⟩:=er_int ea; exact wpAny_is_plain rfl ⟨σ,R,.refl _ _,h⟩
 ·obtain rfl:=er_ref ea; exact wpAny_is_plain rfl ⟨σ,R,.refl _ _,h⟩
theorem cmp_isnot_none{v:Value}(hv:v=.none∨(∃ i,v=.int i 0)∨(∃ a,v=.ref a))(h:Q (.bool (!(v==.none))) σ):Cmp W n .IsNot v .none Q σ:=fun va vb ea eb A s r R=>by
 obtain rfl:=er_none eb
 rcases hv with rfl | ⟨i,rfl⟩ | ⟨a,rfl⟩
 ·obtain rfl:=er_none ea; exact wpAny_isNot_plain rfl ⟨σ,R,.refl _ _,h⟩
 ·obtain ⟨t,rfl⟩:=er_int ea; exact wpAny_isNot_plain rfl ⟨σ,R,.refl _ _,h⟩
 ·obtain rfl:=er_ref ea; exact wpAny_isNot_plain rfl ⟨σ,R,.refl _ _,h⟩
end C
end
section
variable {KK:Params→Frag}{W:Wd KK}{n:Nat}{env:Env}{m:Lm}{σ:St}
noncomputable def New(σ:St)(o:AO)(Q:Addr→St→Prop):Prop:=∀ a,σ.at a=none→Q a (σ.put a o)
noncomputable def NewP(σ:St)(o:AO)(Q:Addr→St→Prop):Prop:=∀ a,σ.at a=none→Q a (σ.newP a o)
theorem Tr.kn{α:Type}{t:Sem α}{Q:α→St→Prop}{a:Addr}{o:AO}(k:Kn σ a o)(h:σ.at a=some o→Tr W n t Q σ):Tr W n t Q σ:=fun A s r R=>h (k.up R) A s r R
theorem Kn.H{a:Addr}{o:AO}(h:σ.H a=some o):Kn σ a o:=.inl h
theorem Kn.P{a:Addr}{o:AO}(h:σ.P a=some o):Kn σ a o:=.inr h
theorem upd_here{x:Str}{v:Value}:upd m x v x=some v:=if_pos rfl
theorem upd_there{x y:Str}{v u:Value}(h:(x==y)=false)(k:m x=some u):upd m y v x=some u:=by
 unfold upd; rw [if_neg (beq_eq_false_iff_ne.mp h)]; exact k
theorem kind_of{osc:Scope}{x:Str}{k:NameKind}(h:env.scope=osc)(e:(osc.names.lookup x==some k)=true):env.kindOf x=some k:=by
 unfold Env.kindOf; rw [h]; exact beq_iff_eq.mp e
theorem kind_lc{osc:Scope}{x:Str}(h:env.scope=osc)(e:(osc.names.lookup x==some .local||osc.names.lookup x==some .cell)=true):env.kindOf x=some .local∨env.kindOf x=some .cell:=by
 unfold Env.kindOf; rw [h]
 rw [Bool.or_eq_true,beq_iff_eq,beq_iff_eq] at e
 exact e
section X
variable {Q:Value→St→Prop}{pos:Pos}{x:Str}{v:Value}
theorem v_loc(hx:m x=some v)(h:Q v σ):Ev W n env m (.Name x pos) Q σ:=ev_loc hx h
variable {i j:Int}{l b:Addr}{vs ws:List Value}
theorem b_add(h:Q (.int (i+j) 0) σ):Bin W n .Add (.int i 0) (.int j 0) Q σ:=fun _ _ ha hb=>op_add ha hb h
theorem b_sub(h:Q (.int (i-j) 0) σ):Bin W n .Sub (.int i 0) (.int j 0) Q σ:=fun _ _ ha hb=>op_sub ha hb h
theorem b_mul(hs:i.natAbs < 2 ^ 64∨j.natAbs < 2 ^ 64)(h:Q (.int (i * j) 0) σ):Bin W n .Mult (.int i 0) (.int j 0) Q σ:=fun _ _ ha hb=>op_mul ha hb hs h
theorem b_fdiv(h0:0 < j)(hj:j < 2 ^ 64)(h:Q (.int (i / j) 0) σ):Bin W n .FloorDiv (.int i 0) (.int j 0) Q σ:=fun _ _ ha hb=>op_fdiv ha hb h0 hj h
theorem b_mod(h0:0 < j)(h:Q (.int (i%j) 0) σ):Bin W n .Mod (.int i 0) (.int j 0) Q σ:=fun _ _ ha hb=>op_mod ha hb h0 h
theorem b_pow(h0:0≤j)(hs:(Builtin.Int.intBits i:Int) * j≤2 ^ 27)(h:Q (.int (i ^ j.toNat) 0) σ):Bin W n .Pow (.int i 0) (.int j 0) Q σ:=fun _ _ ha hb=>op_pow ha hb h0 hs h
theorem b_str{x y:Str}(hs:x.length+y.length≤sizeLine)(h:Q (.str (x++y) 0) σ):Bin W n .Add (.str x 0) (.str y 0) Q σ:=fun _ _ ha hb=>op_strcat ha hb hs h
theorem b_list(hl:Kn σ l (.list vs))(hb:Kn σ b (.list ws))(hs:vs.length+ws.length≤sizeLine)(h:New σ (.list (vs++ws)) fun a=>Q (.ref a)):Bin W n .Add (.ref l) (.ref b) Q σ:=fun _ _ ea eb=>by
 obtain rfl:=er_ref ea; obtain rfl:=er_ref eb
 exact Tr.kn hl fun k1=>Tr.kn hb fun k2=>tr_list_add k1 k2 hs h
theorem b_rep{k:Int}(hl:Kn σ l (.list vs))(hlo:0≤k)(hhi:k < 2 ^ 20)(hsz:vs.length≤8)(h:New σ (.list (List.replicate k.toNat vs).flatten) fun a=>Q (.ref a)):Bin W n .Mult (.ref l) (.int k 0) Q σ:=fun _ _ ea eb=>by
 obtain rfl:=er_ref ea
 exact Tr.kn hl fun k1=>tr_list_mul k1 eb hlo hhi hsz h
theorem ite_t{A B:Prop}(h:A):if true=true then A else B:=h
theorem ite_f{A B:Prop}(h:B):if false=true then A else B:=by rw [if_neg (by decide)]; exact h
theorem a_inst{o C dx:Addr}{fs:List (Str × Value)}{name:Str}(hx:Kn σ o (.inst C dx))(hd:Kn σ dx (.attrs fs))(hv:fs.lookup name=some v)(hK:attrK W.K C name=true)(hp:plainV v=true)
  (h:Q v σ):Attr W n (.ref o) name Q σ:=fun _ _ e=>by
 obtain rfl:=er_ref e
 exact Tr.kn hx fun k1=>Tr.kn hd fun k2=>tr_getAttr k1 k2 hv hK hp h
theorem i_list{k:Int}(hl:Kn σ l (.list vs))(h0:0≤k)(hf:k < 2 ^ 63)(hv:vs[k.toNat]?=some v)(h:Q v σ):Item W n (.ref l) (.int k 0) Q σ:=fun _ _ _ _ a b c =>
 Tr.kn hl fun k1=>item_list k1 h0 hf hv h _ _ _ _ a b c
theorem i_list_last{k:Int}(hk:k=-1)(hl:Kn σ l (.list vs))(hf:vs.length < 2 ^ 62)(hv:vs.getLast?=some v)(h:Q v σ):Item W n (.ref l) (.int k 0) Q σ:=fun _ _ _ _ a b c =>
 Tr.kn hl fun k1=>by
  subst hk
  have e:vs[vs.length-1]?=some v:=by rw [← List.getLast?_eq_getElem?]; exact hv
  have hp:0 < vs.length:=by have:=(List.getElem?_eq_some_iff.mp e).1; exact lin [] [_,_] [65557] 135205 2381634 rfl this
  have e2:((-1:Int)+vs.length).toNat=vs.length-1:=by omega
  exact item_list_neg k1 (by decide) (by decide) (by exact lin [] [_] [4133] 28354449441 149058 rfl hp) (by rw [e2]; exact e) h _ _ _ _ a b c
theorem i_tuple{k:Int}(hl:Kn σ l (.tuple vs))(h0:0≤k)(hf:k < 2 ^ 63)(hv:vs[k.toNat]?=some v)(h:Q v σ):Item W n (.ref l) (.int k 0) Q σ:=fun _ _ _ _ a b c =>
 Tr.kn hl fun k1=>item_tuple k1 h0 hf hv h _ _ _ _ a b c
theorem sa_inst{o C dx:Addr}{fs:List (Str × Value)}{name:Str}{Q:St→Prop}(hx:Kn σ o (.inst C dx))(hd:σ.H dx=some (.attrs fs))(hK:setK W.K C name=true)(hl:fs.length≤500)
  (h:Q (σ.put dx (.attrs (fput fs name v)))):SetA W n (.ref o) name v Q σ:=fun _ y e e2=>by
 obtain rfl:=er_ref e
 subst e2
 exact Tr.kn hx fun k1=>tr_setAttr k1 hd hK hl h
theorem si_list{k:Int}{Q:St→Prop}(hl:σ.H l=some (.list vs))(h0:0≤k)(hf:k < 2 ^ 63)(hk:k < vs.length)(h:Q (σ.put l (.list (vs.set k.toNat v)))):SetI W n (.ref l) (.int k 0) v Q σ:=fun _ _ y e1 e2 e3=>by
 obtain rfl:=er_ref e1
 subst e3
 exact tr_set_list hl e2 h0 hf hk h
theorem si_dict{k:Int}{kvs:List (Int × Value)}{Q:St→Prop}(hl:σ.H l=some (.dict kvs))(hs:kvs.length≤sizeLine)(h:Q (σ.put l (.dict (stored kvs k v)))):SetI W n (.ref l) (.int k 0) v Q σ:=fun _ _ y e1 e2 e3=>by
 obtain rfl:=er_ref e1
 subst e3
 exact tr_dict_set hl e2 hs h
variable {K:Value→List Value→St→Prop}
theorem m_inst{o C dx f:Addr}{fs:List (Str × Value)}{name:Str}(hx:Kn σ o (.inst C dx))(hd:Kn σ dx (.attrs fs))(hv:fs.lookup name=none)(hK:methIn W.K C name=some f)(h:K (.ref f) [.ref o] σ):Meth W n (.ref o) name K σ:=fun _ _ e=>by
 obtain rfl:=er_ref e
 exact Tr.kn hx fun k1=>Tr.kn hd fun k2=>tr_method k1 k2 hv hK h
theorem m_append(hl:Kn σ l (.list vs))(h:K (.builtin "list.append") [.ref l] σ):Meth W n (.ref l) "append" K σ:=fun _ _ e=>by
 obtain rfl:=er_ref e
 exact Tr.kn hl fun k1=>tr_m_append k1 h
theorem m_pop(hl:Kn σ l (.list vs))(h:K (.builtin "list.pop") [.ref l] σ):Meth W n (.ref l) "pop" K σ:=fun _ _ e=>by
 obtain rfl:=er_ref e
 exact Tr.kn hl fun k1=>tr_m_pop k1 h
theorem m_get{kvs:List (Int × Value)}(hl:Kn σ l (.dict kvs))(h:K (.builtin "dict.get") [.ref l] σ):Meth W n (.ref l) "get" K σ:=fun _ _ e=>by
 obtain rfl:=er_ref e
 exact Tr.kn hl fun k1=>tr_m_get k1 h
theorem vs1{P:List Value→Prop}{a:Value}(h:∀ x,er x=a→P [x]):∀ vs',vs'.map er=[a]→P vs'
 | [x],e=>h x (by simpa using e)
 | [],e=>by cases e
 | _ :: _ :: _,e=>by cases e
theorem vs2{P:List Value→Prop}{a b:Value}(h:∀ x y,er x=a→er y=b→P [x,y]):∀ vs',vs'.map er=[a,b]→P vs'
 | [x,y],e=>by simp only [List.map_cons,List.map_nil,List.cons.injEq,and_true] at e; exact h x y e.1 e.2
 | [],e=>by cases e
 | [_],e=>by cases e
 | _ :: _ :: _ :: _,e=>by cases e
theorem vs3{P:List Value→Prop}{a b c:Value}(h:∀ x y z,er x=a→er y=b→er z=c→P [x,y,z]):∀ vs',vs'.map er=[a,b,c]→P vs'
 | [x,y,z],e=>by simp only [List.map_cons,List.map_nil,List.cons.injEq,and_true] at e; exact h x y z e.1 e.2.1 e.2.2
 | [],e=>by cases e
 | [_],e=>by cases e
 | [_,_],e=>by cases e
 | _ :: _ :: _ :: _ :: _,e=>by cases e
theorem c_append(hl:σ.H l=some (.list vs))(hs:vs.length≤sizeLine)(h:Q .none (σ.put l (.list (vs++[v])))):Callee W n (.builtin "list.append") [.ref l,v] Q σ :=
 callee_builtin (vs2 fun x y e1 e2=>by obtain rfl:=er_ref e1; subst e2; exact tr_append hl hs h)
theorem c_pop(hl:σ.H l=some (.list vs))(hs:vs.length≤sizeLine)(hv:vs.getLast?=some v)(h:Q v (σ.put l (.list vs.dropLast))):Callee W n (.builtin "list.pop") [.ref l] Q σ :=
 callee_builtin (vs1 fun x e1=>by obtain rfl:=er_ref e1; exact tr_pop hl hs hv h)
theorem c_len(hl:Kn σ l (.list vs))(hs:vs.length < 2 ^ 63)(h:Q (.int vs.length 0) σ):Callee W n (.builtin "len") [.ref l] Q σ :=
 callee_builtin (vs1 fun x e1=>by obtain rfl:=er_ref e1; exact Tr.kn hl fun k1=>tr_len k1 hs h)
theorem c_sum{ns:List Int}(hl:Kn σ l (.list (ns.map fun i=>.int i 0)))(h:Q (.int ns.sum 0) σ):Callee W n (.builtin "sum") [.ref l] Q σ :=
 callee_builtin (vs1 fun x e1=>by obtain rfl:=er_ref e1; exact Tr.kn hl fun k1=>tr_sum k1 h)
theorem c_get{kvs:List (Int × Value)}{k:Int}{d:Value}(hl:Kn σ l (.dict kvs))(h:Q ((valueAt kvs k).getD d) σ):Callee W n (.builtin "dict.get") [.ref l,.int k 0,d] Q σ :=
 callee_builtin (vs3 fun x y z e1 e2 e3=>by obtain rfl:=er_ref e1; subst e3; exact Tr.kn hl fun k1=>tr_dict_get k1 e2 h)
theorem c_range1(h:NewP σ (.range 0 i 1) fun a=>Q (.ref a)):Callee W n (.type "range") [.int i 0] Q σ:=callee_type (vs1 fun x e1=>tr_range1 e1 h)
theorem c_range2(h:NewP σ (.range i j 1) fun a=>Q (.ref a)):Callee W n (.type "range") [.int i 0,.int j 0] Q σ:=callee_type (vs2 fun x y e1 e2=>tr_range2 e1 e2 h)
theorem c_range3{k:Int}(hk0:k≠0)(hk:k.natAbs < 2 ^ 64)(h:NewP σ (.range i j k) fun a=>Q (.ref a)):Callee W n (.type "range") [.int i 0,.int j 0,.int k 0] Q σ:=callee_type (vs3 fun x y z e1 e2 e3=>tr_range3 e1 e2 e3 hk0 hk h)
theorem c_str(hi:i.natAbs < 2 ^ 60)(h:Q (.str (Str.ofString (toString i)) 0) σ):Callee W n (.type "str") [.int i 0] Q σ:=callee_type (vs1 fun x e1=>tr_str e1 hi h)
theorem q_in{ns:List Int}(hl:Kn σ l (.list (ns.map fun i=>.int i 0)))(h:Q (.bool (decide (i∈ns))) σ):Cmp W n .In (.int i 0) (.ref l) Q σ:=fun _ _ e1 e2=>Tr.kn hl fun k1=>cmp_in k1 h _ _ e1 e2
theorem q_notin{ns:List Int}(hl:Kn σ l (.list (ns.map fun i=>.int i 0)))(h:Q (.bool (decide (¬ i∈ns))) σ):Cmp W n .NotIn (.int i 0) (.ref l) Q σ:=fun _ _ e1 e2=>Tr.kn hl fun k1=>cmp_notin k1 (by rw [← decide_not]; exact h) _ _ e1 e2
theorem q_isnone(h:Q (.bool true) σ):Cmp W n .Is .none .none Q σ:=cmp_is_none (.inl rfl) h
theorem q_isnone_ref(h:Q (.bool false) σ):Cmp W n .Is (.ref l) .none Q σ:=cmp_is_none (.inr (.inr ⟨_,rfl⟩)) h
theorem q_isnone_int(h:Q (.bool false) σ):Cmp W n .Is (.int i 0) .none Q σ:=cmp_is_none (.inr (.inl ⟨_,rfl⟩)) h
theorem q_notnone(h:Q (.bool false) σ):Cmp W n .IsNot .none .none Q σ:=cmp_isnot_none (.inl rfl) h
theorem q_notnone_ref(h:Q (.bool true) σ):Cmp W n .IsNot (.ref l) .none Q σ:=cmp_isnot_none (.inr (.inr ⟨_,rfl⟩)) h
theorem q_notnone_int(h:Q (.bool true) σ):Cmp W n .IsNot (.int i 0) .none Q σ:=cmp_isnot_none (.inr (.inl ⟨_,rfl⟩)) h
theorem p_add(h:Q (.int (i+j) 0) σ):Inp W n .Add (.int i 0) (.int j 0) Q σ:=inp_add h
theorem p_list(hl:σ.H l=some (.list vs))(hb:Kn σ b (.list ws))(hs:vs.length+ws.length≤sizeLine)(h:Q (.ref l) (σ.put l (.list (vs++ws)))):Inp W n .Add (.ref l) (.ref b) Q σ:=fun _ _ e1 e2=>Tr.kn hb fun k1=>inp_list hl k1 hs h _ _ e1 e2
theorem v_tuple{es:List Expr}{k:Nat}(hs:(es.all fun | .Starred ..=>false | _=>true)=true)(hl:es.length≤1000)(h:Evs W n env m es (fun vs σ₁=>NewP σ₁ (.tuple vs) fun a=>Q (.ref a)) σ):Ev W n env m (.Tuple es k pos) Q σ:=ev_tuple hs hl h
theorem v_dict(h:New σ (.dict []) fun a=>Q (.ref a)):Ev W n env m (.Dict [] [] pos) Q σ:=fun A s r R F=>tr_newDict h A s r R
theorem v_list{es:List Expr}(hs:(es.all fun | .Starred ..=>false | _=>true)=true)(hl:es.length≤1000)(h:Evs W n env m es (fun vs σ₁=>New σ₁ (.list vs) fun a=>Q (.ref a)) σ):Ev W n env m (.List es pos) Q σ:=ev_list hs hl h
end X
section S
variable {Q:Flow→Lm→St→Prop}{pos:Pos}
noncomputable def okNames(osc:Scope)(xs:List Str):Bool:=xs.all fun x=>(osc.names.lookup x==some .local||osc.names.lookup x==some .cell)&&x != "__debug__"&&x != "__classdict__"
theorem okNames_of{osc:Scope}{xs:List Str}(ho:env.scope=osc)(h:okNames osc xs=true):∀ x∈xs,okName env x:=fun x hx=>by
 have:=List.all_eq_true.mp h x hx
 simp only [Bool.and_eq_true,bne_iff_ne] at this
 exact ⟨kind_lc ho this.1.1,this.1.2,this.2⟩
end S
end
section
structure MemRel(N:Nat)(kvs:List (Int × Value))(f:Int→Int):Prop where
 nodup:(kvs.map (·.1)).Nodup
 range:∀ p∈kvs,0≤p.1∧p.1 < N
 word:∀ k,valueAt kvs k=none∧f k=0∨valueAt kvs k=some (.int (f k) 0)
noncomputable def mset(f:Int→Int)(k v:Int):Int→Int:=fun j=>if j=k then v else f j
theorem pigeon:∀(N:Nat)(l:List Int),l.Nodup→(∀ x∈l,0≤x∧x < N)→l.length≤N
 | 0,l,_,h=>by
  cases l with
  | nil=>exact Nat.le_refl _
  | cons x r=>have:=h x (.head _); exact lin [_] [_] [4129,114706] 8212 149058 rfl this.1 this.2
 | N+1,l,hn,h=>by
  have h1:(l.erase (N:Int)).length≤N:=pigeon N (l.erase N) (hn.erase _) fun x hx=>by
   have hx':=(hn.mem_erase_iff).mp hx
   have:=h x hx'.2
   have hne:=hx'.1
   exact ⟨lin [_] [] [4129] 4129 149058 rfl this.1,(Int.lt_or_gt_of_ne hx'.1).elim (fun z0=>lin [_] [_] [49170] 49170 149058 rfl z0) (fun z0=>lin [_] [_] [2416623634,24626] 49170 149058 rfl this.2 z0)⟩
  have h2:l.length≤(l.erase (N:Int)).length+1:=by
   by_cases q:(N:Int)∈l
   ·rw [List.length_erase_of_mem q]; omega
   ·rw [List.erase_of_not_mem q]; exact lin [] [_] [] 302071828 449 rfl
  exact lin [] [_,_,_] [65556,4833214548] 40806711380 21370435 rfl h1 h2
theorem MemRel.len{N:Nat}{kvs:List (Int × Value)}{f:Int→Int}(h:MemRel N kvs f):kvs.length≤N:=by
 have:=pigeon N (kvs.map (·.1)) h.nodup fun x hx=>by
  obtain ⟨p,hp,rfl⟩:=List.mem_map.mp hx
  exact h.range p hp
 simpa using this
theorem MemRel.get{N:Nat}{kvs:List (Int × Value)}{f:Int→Int}(h:MemRel N kvs f)(k:Int):(valueAt kvs k).getD (.int 0 0)=.int (f k) 0:=by
 rcases h.word k with ⟨a,b⟩ | a
 ·rw [a,b]; rfl
 ·rw [a]; rfl
theorem MemRel.nil(N:Nat):MemRel N [] fun _=>0:=⟨List.nodup_nil,(fun _ h=>nomatch h),fun _=>.inl ⟨rfl,rfl⟩⟩
theorem valueAt_stored(kvs:List (Int × Value))(k:Int)(v:Value)(j:Int):valueAt (stored kvs k v) j=if j=k then some v else valueAt kvs j:=by
 unfold stored valueAt
 induction kvs with
 | nil =>
  by_cases q:k=j
  ·subst q; simp
  ·have q':¬ j=k:=fun e=>q e.symm
   simp [q,q']
 | cons p r ih =>
  obtain ⟨a,u⟩:=p
  by_cases e1:a=k
  ·subst e1
   simp only [List.any_cons,decide_true,Bool.true_or,if_true,List.map_cons]
   by_cases q:a=j
   ·subst q; simp
   ·have q':¬ j=a:=fun e=>q e.symm
    rw [List.find?_cons,List.find?_cons]
    simp only [q,decide_false,q',if_false]
    have:∀(l:List (Int × Value)),(List.find? (fun kv=>decide (kv.1=j)) (l.map fun kv=>if kv.1=a then (kv.1,v) else kv)).map (·.2)=(List.find? (fun kv=>decide (kv.1=j)) l).map (·.2):=by
     intro l
     induction l with
     | nil=>rfl
     | cons c l ih2 =>
      rw [List.map_cons,List.find?_cons,List.find?_cons]
      by_cases e2:c.1=a
      ·rw [if_pos e2]
       have e3:¬ c.1=j:=fun e=>q (e2.symm.trans e)
       simp only [q,e3,decide_false]
       exact ih2
      ·rw [if_neg e2]
       cases decide (c.1=j) with
       | true=>rfl
       | false=>exact ih2
    exact this r
  ·simp only [List.any_cons,e1,decide_false,Bool.false_or]
   by_cases hb:(r.any fun kv=>decide (kv.1=k))=true
   ·rw [if_pos hb] at ih ⊢
    rw [List.map_cons,if_neg e1,List.find?_cons,List.find?_cons]
    dsimp only
    by_cases e2:a=j
    ·have:¬ j=k:=fun e=>e1 (e2.trans e)
     simp [e2,this]
    ·simp only [e2,decide_false]; exact ih
   ·rw [if_neg hb] at ih ⊢
    rw [List.cons_append,List.find?_cons,List.find?_cons]
    dsimp only
    by_cases e2:a=j
    ·have:¬ j=k:=fun e=>e1 (e2.trans e)
     simp [e2,this]
    ·simp only [e2,decide_false]; exact ih
theorem MemRel.set{N:Nat}{kvs:List (Int × Value)}{f:Int→Int}(h:MemRel N kvs f){k v:Int}(h0:0≤k)(h1:k < N):MemRel N (stored kvs k (.int v 0)) (mset f k v):=by
 refine ⟨?_,?_,fun j=>?_⟩
 ·unfold stored
  split
  ·have:(kvs.map fun kv=>if kv.1=k then (kv.1,Value.int v 0) else kv).map (·.1)=kvs.map (·.1):=by
    rw [List.map_map]
    apply List.map_congr_left
    intro p _
    simp only [Function.comp]
    split
    ·rfl
    ·rfl
   rw [this]; exact h.nodup
  ·rename_i hb
   rw [List.map_append,List.nodup_append]
   refine ⟨h.nodup,by simp,fun a ha b hb'=>?_⟩
   simp only [List.map_cons,List.map_nil,List.mem_singleton] at hb'
   subst hb'
   intro e
   subst e
   obtain ⟨p,hp,e⟩:=List.mem_map.mp ha
   exact hb (List.any_eq_true.mpr ⟨p,hp,decide_eq_true e⟩)
 ·intro p hp
  unfold stored at hp
  split at hp
  ·obtain ⟨q,hq,rfl⟩:=List.mem_map.mp hp
   split
   ·exact h.range q hq
   ·exact h.range q hq
  ·rcases List.mem_append.mp hp with hp | hp
   ·exact h.range p hp
   ·cases hp with
    | head=>exact ⟨h0,h1⟩
    | tail _ hp=>cases hp
 ·rw [valueAt_stored]
  unfold mset
  by_cases e:j=k
  ·rw [if_pos e,if_pos e]; exact .inr rfl
  ·rw [if_neg e,if_neg e]; exact h.word j
end
section
section
variable {σ₀ σ:St}{hs hs' ps:List (Addr × AO)}{a:Addr}{o o':AO}
theorem at_some_H{σ:St}{a:Addr}{o:AO}(h:σ.H a=some o):σ.at a≠none:=fun z=>by rw [St.H_none z] at h; cases h
theorem at_some_P{σ:St}{a:Addr}{o:AO}(h:σ.P a=some o):σ.at a≠none:=fun z=>by rw [St.P_none z] at h; cases h
theorem H_put_ne{b:Addr}(h:b≠a):(σ.put a o).H b=σ.H b:=if_neg h
theorem H_put_eq:(σ.put a o).H a=some o:=if_pos rfl
theorem P_newP_ne{b:Addr}(h:b≠a):(σ.newP a o).P b=σ.P b:=if_neg h
theorem P_newP_eq:(σ.newP a o).P a=some o:=if_pos rfl
theorem ne_H{σ:St}{a b:Addr}{o:AO}(h:σ.H b=some o)(ha:σ.at a=none):b≠a:=fun q=>at_some_H h (by rw [q]; exact ha)
theorem ne_P{σ:St}{a b:Addr}{o:AO}(h:σ.P b=some o)(ha:σ.at a=none):b≠a:=fun q=>at_some_P h (by rw [q]; exact ha)
noncomputable def St.frz(σ:St)(a:Addr)(o:AO):St:=⟨fun b=>if b=a then some o else σ.P b,fun b=>if b=a then none else σ.H b⟩
theorem ghost_frz(h:σ.H a=some o)(hp:σ.P a=none):Ghost σ (σ.frz a o):=by
 refine ⟨fun b ob e=>?_,fun b ob e=>?_,fun b ob e=>?_,fun d b=>?_⟩
 ·have:b≠a:=fun q=>by rw [q,hp] at e; cases e
  show (if b=a then some o else σ.P b)=_
  rw [if_neg this]; exact e
 ·unfold St.at at e ⊢
  show (σ.H b).or (σ.P b)=_
  have e:(if b=a then none else σ.H b).or (if b=a then some o else σ.P b)=some ob:=e
  by_cases q:b=a
  ·subst q; rw [if_pos rfl,if_pos rfl] at e; rw [h]; simpa using e
  ·rw [if_neg q,if_neg q] at e; exact e
 ·have e:(if b=a then none else σ.H b)=some ob:=e
  split at e
  ·cases e
  ·exact e
 ·show (if b=a then none else σ.H b)=none∨(if b=a then some o else σ.P b)=none
  by_cases q:b=a
  ·left; rw [if_pos q]
  ·rw [if_neg q,if_neg q]; exact d b
end
variable {KK:Params→Frag}{W:Wd KK}{n:Nat}{env:Env}{m:Lm}{σ₀ σ:St}{hs hs' ps:List (Addr × AO)}
section
variable {Q:Value→St→Prop}{o C dx l f:Addr}{fs fs':List (Str × Value)}{name:Str}{v:Value}{K:Value→List Value→St→Prop}{vs:List Value}{kvs:List (Int × Value)}{k:Int}
end
end
section
noncomputable def intsV(l:List Int):List Value:=l.map fun i=>.int i 0
end
section
variable {KK:Params→Frag}{W:Wd KK}{n:Nat}{env:Env}{m:Lm}{σ:St}
theorem ev_upto0{l:Addr}{items:Array Value}{vs:List Value}{x:Str}{p p' p2 pos:Pos}{k kk:Nat}{Q:Value→St→Prop}(h0:W.h0.IsList l items)(hv:items.toList.map er=vs)(hx:m x=some (.ref l))(hsz:vs.length≤sizeLine)
  (h:New σ (.list (vs.take k)) fun a=>Q (.ref a)):Ev W n env m (.Subscript (.Name x p) (.Slice none (some (.Constant (.int k) kk p2)) none p') pos) Q σ:=fun A s r R F=>by
 refine wpAny_Subscript_list_slice (wpE (v_loc (Q:=fun v σ'=>v=.ref l∧σ'=σ) hx ⟨rfl,rfl⟩ A s r R F) (fun vo s₁ σ₁ R₁ S₁ zq=>?_))
 obtain ⟨e1,e2⟩:=zq
 subst e2
 rw [evalPart_none]
 refine wpAny_pure ?_
 rw [evalPart_some]
 refine wpE (ev_int (Q:=fun v σ'=>v=.int (k:Nat) 0∧σ'=σ₁) ⟨rfl,rfl⟩ A s₁ r R₁ (F.step S₁)) (fun vi s₂ σ₂ R₂ S₂ zq=>?_)
 obtain ⟨e3,e4⟩:=zq
 subst e4
 obtain rfl:=er_ref e1
 obtain ⟨t,rfl⟩:=er_int e3
 obtain ⟨o,a1,a2,nn,a3⟩:=h0
 have z:=size_of_map hv
 refine ⟨l,items,none,some (k:Int),rfl,⟨o,R₂.keep _ _ a1,a2,nn,a3⟩,by rw [z]; exact hsz,.none,.int ..,?_⟩
 have hk:∀ b o,s₂.heap.get? b=some o→((s₂.heap.push { cls:=.type "slice",data:=.fields #[.none,.int k t,.none] }).push { cls:=.type "list",data:=.seq (slicePick items none (some (k:Int)) none) }).get? b=some o :=
  fun b o e=>push_keeps _ _ _ _ (push_keeps _ _ _ _ e)
 have hn:s₂.heap.get? (s₂.heap.objs.size+1)=none:=by
  cases q:s₂.heap.get? (s₂.heap.objs.size+1) with
  | none=>rfl
  | some o=>exact absurd (Heap.lt_size q) (Nat.not_lt.mpr (Nat.le_succ _))
 obtain ⟨hu,R',S'⟩:=R₂.putNew (s':={ s₂ with heap:=(s₂.heap.push { cls:=.type "slice",data:=.fields #[.none,.int k t,.none] }).push { cls:=.type "list",data:=.seq (slicePick items none (some (k:Int)) none) } })
  (a:=s₂.heap.objs.size+1) (o:=.list (vs.take k)) hn hk
  (by
   refine (show ∃ nn items',_∧_ from ⟨0,slicePick items none (some (k:Int)) none,?_,?_⟩)
   ·have:=Heap.get?_push_size (s₂.heap.push { cls:=.type "slice",data:=.fields #[.none,.int k t,.none] }) (o:={ cls:=.type "list",data:=.seq (slicePick items none (some (k:Int)) none) }) rfl
    rw [Heap.size_push] at this; exact this
   ·rw [slicePick_upto',List.toList_toArray,List.map_take,hv]) rfl rfl
 exact ⟨_,R',S₁.trans (S₂.trans S'),h _ hu⟩
theorem intsV_len(l:List Int):(intsV l).length=l.length:=by simp [intsV]
theorem intsAre_er{vs:List Value}{ns:List Int}(h:IntsAre vs ns):vs.map er=intsV ns:=by
 induction h with
 | nil=>rfl
 | cons _ _ _ ih=>simp only [List.map_cons,ih]; rfl
end
section
section
noncomputable def ATL:List (Addr × List Str):=[(465,["data_top","data_limit","stack_low","memory","heap","cpu","loaded","out","given","limit","steps"]),(373,["size","words"]),(164,["memory","start","limit","free"]),
 (317,["memory","regs","h","n","z","c","v","pc","rows"]),(215,["name","key","code_base","data_base","object","clients"]),
 (486,["name","key","imports","rows","data_size","words","data_fixups","fixups","entries","pointers","maps","commands","body"])]
noncomputable def AT(C:Addr)(x:Str):Bool:=((ATL.lookup C).getD []).contains x
noncomputable def biV:Nat→Value
 | 0=>.builtin "len"
 | 1=>.type "range"
 | 2=>.type "str"
 | 3=>.builtin "sum"
 | 4=>.builtin "max"
 | 5=>.builtin "sorted"
 | _=>.type "tuple"
inductive U where
 | int (i:Int)
 | str (s:Str)
 | bool (b:Bool)
 | none
 | fn (f:Addr)
 | bi (k:Nat)
 | tup (us:List U)
 | lst (us:List U)
 | dct (ks:List Int) (us:List U)
 | ins (C:Addr) (xs:List Str) (us:List U)
 | rng (a b c:Int)
inductive T where
 | u (u:U)
 | s (k:Nat)
inductive V where
 | u (u:U)
 | s (k:Nat)
 | o (k:Nat)
 | t (ts:List T)
inductive Cell where
 | attrs (C:Addr) (fs:List (Str × V))
 | list (us:List U)
 | dict (ks:List Int) (us:List U)
 | mem (n:Nat) (f:Int→Int)
 | fz (u:U)
 | hid
inductive L2{α β:Type}(R:α→β→Prop):List α→List β→Prop
 | nil:L2 R [] []
 | cons {a:α} {b:β} {as:List α} {bs:List β}:R a b→L2 R as bs→L2 R (a :: as) (b :: bs)
section
variable {α β γ:Type}{R:α→β→Prop}{as:List α}{bs:List β}
theorem L2.imp{R':α→β→Prop}(h:L2 R as bs):(∀ a∈as,∀ b,R a b→R' a b)→L2 R' as bs:=by
 induction h with
 | nil=>exact fun _=>.nil
 | cons r _ ih=>exact fun k=>.cons (k _ (.head _) _ r) (ih fun a h=>k a (.tail _ h))
theorem L2.mono{R':α→β→Prop}(h:L2 R as bs)(k:∀ a b,R a b→R' a b):L2 R' as bs:=h.imp fun a _ b=>k a b
theorem L2.map{f:α→γ}{R':γ→β→Prop}(h:L2 R as bs):(∀ a b,R a b→R' (f a) b)→L2 R' (as.map f) bs:=by
 induction h with
 | nil=>exact fun _=>.nil
 | cons r _ ih=>exact fun k=>.cons (k _ _ r) (ih k)
theorem L2.len(h:L2 R as bs):bs.length=as.length:=by
 induction h with
 | nil=>rfl
 | cons _ _ ih=>exact congrArg Nat.succ ih
theorem L2.app{as':List α}{bs':List β}(h:L2 R as bs)(h':L2 R as' bs'):L2 R (as++as') (bs++bs'):=by
 induction h with
 | nil=>exact h'
 | cons r _ ih=>exact .cons r ih
theorem L2.inv{a:α}{K:List β→Prop}(h:L2 R (a :: as) bs)(k:∀ b r,R a b→L2 R as r→K (b :: r)):K bs:=by
 cases h with
 | cons r h=>exact k _ _ r h
theorem L2.nil_{K:List β→Prop}(h:L2 R [] bs)(k:K []):K bs:=by
 cases h
 exact k
theorem L2.one{a:α}{K:List β→Prop}(h:L2 R [a] bs)(k:∀ b,R a b→K [b]):K bs:=h.inv fun b r p q=>q.nil_ (K:=fun r=>K (b :: r)) (k b p)
theorem L2.get{a:α}(h:L2 R as bs):∀{k:Nat},as[k]?=some a→∃ b,bs[k]?=some b∧R a b:=by
 induction h with
 | nil=>exact fun e=>nomatch e
 | cons r _ ih =>
  intro k e
  cases k with
  | zero=>cases e; exact ⟨_,rfl,r⟩
  | succ k=>exact ih e
theorem L2.set{a:α}{b:β}(h:L2 R as bs)(r:R a b):∀ k:Nat,L2 R (as.set k a) (bs.set k b):=by
 induction h with
 | nil=>exact fun _=>.nil
 | cons r' h ih =>
  intro k
  cases k with
  | zero=>exact .cons r h
  | succ k=>exact .cons r' (ih k)
theorem L2.dropLast(h:L2 R as bs):L2 R as.dropLast bs.dropLast:=by
 induction h with
 | nil=>exact .nil
 | cons r h ih =>
  cases h with
  | nil=>exact .nil
  | cons _ _=>exact .cons r ih
theorem L2.rep(h:L2 R as bs):∀ k:Nat,L2 R (List.replicate k as).flatten (List.replicate k bs).flatten:=fun k=>by
 induction k with
 | zero=>exact .nil
 | succ k ih=>rw [List.replicate_succ,List.replicate_succ,List.flatten_cons,List.flatten_cons]; exact h.app ih
theorem L2.hd{a:α}{b:β}(h:L2 R (a :: as) (b :: bs)):R a b:=by cases h with | cons r _=>exact r
theorem L2.tl{a:α}{b:β}(h:L2 R (a :: as) (b :: bs)):L2 R as bs:=by cases h with | cons _ h=>exact h
theorem L2.at{b:β}{post:List β}{Z:Prop}{pa:List α}:∀{qa:List α}{pre:List β},L2 R (pa++qa) (pre++b :: post)→pre.length=pa.length→(∀ a qa',qa=a :: qa'→R a b→Z)→Z:=by
 induction pa with
 | nil =>
  intro qa pre h e k
  rw [List.length_eq_zero_iff.mp e] at h
  cases qa with
  | nil=>exact nomatch h.len
  | cons a qa=>exact k a qa rfl h.hd
 | cons a pa ih =>
  intro qa pre h e k
  cases pre with
  | nil=>cases e
  | cons c pre=>exact ih h.tl (Nat.succ.inj e) k
end
noncomputable def PL(P P':AH):Prop:=∀ a o,P a=some o→P' a=some o
mutual
noncomputable def RU(P:AH):U→Value→Prop
 | .int i,x=>x=.int i 0
 | .str s,x=>x=.str s 0
 | .bool b,x=>x=.bool b
 | .none,x=>x=.none
 | .fn f,x=>x=.ref f
 | .bi k,x=>x=biV k
 | .tup us,x=>∃ a ws,x=.ref a∧P a=some (.tuple ws)∧RUs P us ws
 | .lst us,x=>∃ a ws,x=.ref a∧P a=some (.list ws)∧RUs P us ws
 | .dct ks us,x=>∃ a kvs,x=.ref a∧P a=some (.dict kvs)∧kvs.map (·.1)=ks∧RUs P us (kvs.map (·.2))
 | .ins C xs us,x=>∃ a d fs,x=.ref a∧P a=some (.inst C d)∧P d=some (.attrs fs)∧(fs.map (·.1)=xs∧xs.all (AT C)=true)∧RUs P us (fs.map (·.2))
 | .rng a b c,x=>∃ l,x=.ref l∧P l=some (.range a b c)
noncomputable def RUs(P:AH):List U→List Value→Prop
 | [],ws=>ws=[]
 | u :: us,ws=>∃ w r,ws=w :: r∧RU P u w∧RUs P us r
end
noncomputable abbrev RL(P:AH):List U→List Value→Prop:=L2 (RU P)
section
variable {P P':AH}{us:List U}{ws:List Value}{x:Value}{K:Value→Prop}{R:Prop}
theorem RUs.l2:∀{us:List U}{ws:List Value},RUs P us ws→RL P us ws:=fun {us}=>by
 induction us with
 | nil=>intro ws h; rw [show ws=[] from h]; exact .nil
 | cons u us ih =>
  intro ws h
  obtain ⟨w,r,e,a,b⟩:=h
  rw [e]; exact .cons a (ih b)
theorem L2.ru(h:RL P us ws):RUs P us ws:=by
 induction h with
 | nil=>rfl
 | cons r _ ih=>exact ⟨_,_,rfl,r,ih⟩
theorem RU.tup(r:RU P (.tup us) x)(k:∀ a ws,P a=some (.tuple ws)→RL P us ws→K (.ref a)):K x:=by
 obtain ⟨a,ws,e,p,q⟩:=r
 rw [e]; exact k a ws p q.l2
theorem RU.lst(r:RU P (.lst us) x)(k:∀ a ws,P a=some (.list ws)→RL P us ws→K (.ref a)):K x:=by
 obtain ⟨a,ws,e,p,q⟩:=r
 rw [e]; exact k a ws p q.l2
theorem RU.dct{ks:List Int}(r:RU P (.dct ks us) x)(k:∀ a kvs,P a=some (.dict kvs)→kvs.map (·.1)=ks→RL P us (kvs.map (·.2))→K (.ref a)):K x:=by
 obtain ⟨a,ws,e,p,q,z⟩:=r
 rw [e]; exact k a ws p q z.l2
theorem RU.ins{C:Addr}{xs:List Str}(r:RU P (.ins C xs us) x)(k:∀ a d fs,P a=some (.inst C d)→P d=some (.attrs fs)→fs.map (·.1)=xs→xs.all (AT C)=true→RL P us (fs.map (·.2))→K (.ref a)):K x:=by
 obtain ⟨a,d,fs,e,p,q,t,z⟩:=r
 rw [e]; exact k a d fs p q t.1 t.2 z.l2
theorem RU.rng{a b c:Int}(r:RU P (.rng a b c) x)(k:∀ l,P l=some (.range a b c)→K (.ref l)):K x:=by
 obtain ⟨l,e,p⟩:=r
 rw [e]; exact k l p
theorem RU.mono(h:PL P P'):∀{u:U}{x:Value},RU P u x→RU P' u x:=fun {u} =>
 U.rec (motive_1:=fun u=>∀ x,RU P u x→RU P' u x) (motive_2:=fun us=>∀ ws,RUs P us ws→RUs P' us ws)
  (fun _ _ r=>r) (fun _ _ r=>r) (fun _ _ r=>r) (fun _ r=>r) (fun _ _ r=>r) (fun _ _ r=>r)
  (fun _ ih _ r=>RU.tup (K:=RU P' (.tup _)) r fun a ws p q=>⟨a,ws,rfl,h _ _ p,ih _ q.ru⟩)
  (fun _ ih _ r=>RU.lst (K:=RU P' (.lst _)) r fun a ws p q=>⟨a,ws,rfl,h _ _ p,ih _ q.ru⟩)
  (fun _ _ ih _ r=>RU.dct (K:=RU P' (.dct _ _)) r fun a ws p t q=>⟨a,ws,rfl,h _ _ p,t,ih _ q.ru⟩)
  (fun _ _ _ ih _ r=>RU.ins (K:=RU P' (.ins _ _ _)) r fun a d ws p p' t1 t2 q=>⟨a,d,ws,rfl,h _ _ p,h _ _ p',⟨t1,t2⟩,ih _ q.ru⟩)
  (fun _ _ _ _ r=>RU.rng (K:=RU P' (.rng _ _ _)) r fun a p=>⟨a,rfl,h _ _ p⟩)
  (fun _ r=>r) (fun _ _ i1 i2 _ r=>let ⟨w,r,e,a,b⟩:=r; ⟨w,r,e,i1 _ a,i2 _ b⟩) u _
theorem L2.pl(h:PL P P')(r:RL P us ws):RL P' us ws:=r.mono fun _ _=>RU.mono h
theorem L2.ints{ns:List Int}:∀{ws:List Value},RL P (ns.map U.int) ws→ws=ns.map fun i=>.int i 0:=by
 induction ns with
 | nil=>intro ws h; exact h.nil_ (K:=fun ws=>ws=_) rfl
 | cons i ns ih=>intro ws h; exact h.inv (K:=fun ws=>ws=(i :: ns).map fun i=>.int i 0) fun b r e q=>by rw [ih q,show b=.int i 0 from e]; rfl
end
structure Vw where
 ρ:List Addr
 κ:List Addr
 P:AH
noncomputable def RT(w:Vw):T→Value→Prop
 | .u u,x=>RU w.P u x
 | .s k,x=>∃ a,w.ρ[k]?=some a∧x=.ref a
noncomputable def RV(w:Vw):V→Value→Prop
 | .u u,x=>RU w.P u x
 | .s k,x=>∃ a,w.ρ[k]?=some a∧x=.ref a
 | .o k,x=>∃ a,w.κ[k]?=some a∧x=.ref a
 | .t ts,x=>∃ a ws,x=.ref a∧w.P a=some (.tuple ws)∧L2 (RT w) ts ws
noncomputable abbrev RVs(w:Vw):List V→List Value→Prop:=L2 (RV w)
noncomputable def RA(w:Vw)(p:Str × V)(q:Str × Value):Prop:=q.1=p.1∧RV w p.2 q.2
noncomputable def RC(w:Vw)(a:Addr):Cell→List (Addr × AO)→Prop
 | .attrs C fs,h=>∃ d ys,w.P a=some (.inst C d)∧h=[(d,.attrs ys)]∧(fs.all fun p=>AT C p.1)=true∧L2 (RA w) fs ys
 | .list us,h=>∃ ws,h=[(a,.list ws)]∧RL w.P us ws
 | .dict ks us,h=>∃ kvs,h=[(a,.dict kvs)]∧kvs.map (·.1)=ks∧RL w.P us (kvs.map (·.2))
 | .mem n f,h=>∃ kvs,h=[(a,.dict kvs)]∧MemRel n kvs f
 | .fz u,h=>h=[]∧RU w.P u (.ref a)
 | .hid,h=>h=[]
inductive RCs(w:Vw):List Cell→List Addr→List (Addr × AO)→Prop
 | nil:RCs w [] [] []
 | cons {c:Cell} {a:Addr} {h:List (Addr × AO)} {cs:List Cell} {as:List Addr} {hs:List (Addr × AO)}:RC w a c h→RCs w cs as hs→RCs w (c :: cs) (a :: as) (h++hs)
noncomputable def Px(ρ ρ':List Addr):Prop:=∀(k:Nat)(a:Addr),ρ[k]?=some a→ρ'[k]?=some a
noncomputable def Pa(rls:List Nat)(ρ ρ':List Addr):Prop:=∀(k:Nat)(a:Addr),k ∉ rls→ρ[k]?=some a→ρ'[k]?=some a
theorem Px.refl(ρ:List Addr):Px ρ ρ:=fun _ _ h=>h
theorem Px.trans{a b c:List Addr}(x:Px a b)(y:Px b c):Px a c:=fun k a h=>y _ _ (x _ _ h)
theorem Px.app(ρ ρ':List Addr):Px ρ (ρ++ρ'):=fun k a h=>by
 rw [List.getElem?_append_left (List.getElem?_eq_some_iff.mp h).1]; exact h
theorem Px.nil{κ:List Addr}:Px [] κ:=fun k a h=>nomatch h
theorem Px.pa{rls:List Nat}{ρ ρ':List Addr}(h:Px ρ ρ'):Pa rls ρ ρ':=fun k a _ e=>h k a e
theorem Px.shift(κ κ':List Addr){j:Nat}{a:Addr}(h:κ'[j]?=some a):(κ++κ')[κ.length+j]?=some a:=by
 rw [List.getElem?_append_right (Nat.le_add_right _ _),Nat.add_sub_cancel_left]; exact h
theorem Px.last(κ:List Addr)(a:Addr):(κ++[a])[κ.length]?=some a:=Px.shift κ [a] (j:=0) rfl
structure Vle(w w':Vw):Prop where
 r:Px w.ρ w'.ρ
 k:Px w.κ w'.κ
 p:PL w.P w'.P
section
variable {w w' w'':Vw}{a:Addr}{c:Cell}{cs:List Cell}{as:List Addr}{hs h:List (Addr × AO)}{v:V}{x:Value}{K:Value→Prop}
theorem Vle.refl(w:Vw):Vle w w:=⟨.refl _,.refl _,fun _ _ h=>h⟩
theorem Vle.trans(x:Vle w w')(y:Vle w' w''):Vle w w'':=⟨x.r.trans y.r,x.k.trans y.k,fun a o h=>y.p _ _ (x.p _ _ h)⟩
theorem RV.tup{ts:List T}(r:RV w (.t ts) x)(k:∀ a ws,w.P a=some (.tuple ws)→L2 (RT w) ts ws→K (.ref a)):K x:=by
 obtain ⟨a,ws,e,p,q⟩:=r
 rw [e]; exact k a ws p q
noncomputable def lbT(s:Nat→Bool):T→Bool
 | .s k=>s k
 | _=>true
noncomputable def lbV(s o:Nat→Bool):V→Bool
 | .s k=>s k
 | .o k=>o k
 | .t ts=>ts.all (lbT s)
 | _=>true
noncomputable def lbC(s o:Nat→Bool):Cell→Bool
 | .attrs _ fs=>fs.all fun p=>lbV s o p.2
 | _=>true
structure Vl(s o:Nat→Bool)(w w':Vw):Prop where
 r:∀ k a,s k=true→w.ρ[k]?=some a→w'.ρ[k]?=some a
 k:∀ k a,o k=true→w.κ[k]?=some a→w'.κ[k]?=some a
 p:PL w.P w'.P
theorem RT.lb{s o:Nat→Bool}(H:Vl s o w w'){t:T}:lbT s t=true→RT w t x→RT w' t x:=by
 cases t with
 | u u=>exact fun _ r=>RU.mono (u:=u) H.p r
 | s k=>exact fun h ⟨a,e,q⟩=>⟨a,H.r _ _ h e,q⟩
theorem RV.lb{s o:Nat→Bool}(H:Vl s o w w'):lbV s o v=true→RV w v x→RV w' v x:=by
 cases v with
 | u u=>exact fun _ r=>RU.mono (u:=u) H.p r
 | s k=>exact fun h ⟨a,e,q⟩=>⟨a,H.r _ _ h e,q⟩
 | o k=>exact fun h ⟨a,e,q⟩=>⟨a,H.k _ _ h e,q⟩
 | t ts=>exact fun h ⟨a,ws,e,p,q⟩=>⟨a,ws,e,H.p _ _ p,q.imp fun t ht _=>RT.lb H (List.all_eq_true.mp h t ht)⟩
theorem RA.lbs{s o:Nat→Bool}(H:Vl s o w w'){fs:List (Str × V)}{ys:List (Str × Value)}(h:(fs.all fun p=>lbV s o p.2)=true)(r:L2 (RA w) fs ys):L2 (RA w') fs ys:=r.imp fun p hp _ z=>⟨z.1,z.2.lb H (List.all_eq_true.mp h p hp)⟩
theorem RC.lb{s o:Nat→Bool}(H:Vl s o w w'):lbC s o c=true→RC w a c h→RC w' a c h:=by
 cases c with
 | attrs C fs=>exact fun hl r=>by obtain ⟨d,ys,p,e,q,r⟩:=r; exact ⟨d,ys,H.p _ _ p,e,q,RA.lbs H hl r⟩
 | list us=>exact fun _ ⟨ws,e,r⟩=>⟨ws,e,r.pl H.p⟩
 | dict ks us=>exact fun _ ⟨kvs,e,q,r⟩=>⟨kvs,e,q,r.pl H.p⟩
 | mem n f=>exact fun _ r=>r
 | fz u=>exact fun _ r=>⟨r.1,r.2.mono H.p⟩
 | hid=>exact fun _ r=>r
theorem RCs.lb{s o:Nat→Bool}(H:Vl s o w w')(r:RCs w cs as hs):cs.all (lbC s o)=true→RCs w' cs as hs:=by
 induction r with
 | nil=>exact fun _=>.nil
 | cons r _ ih=>exact fun h=>by rw [List.all_cons,Bool.and_eq_true] at h; exact .cons (r.lb H h.1) (ih h.2)
noncomputable def tt_(_:Nat):Bool:=true
theorem Vle.l(H:Vle w w'):Vl tt_ tt_ w w':=⟨fun k a _=>H.r k a,fun k a _=>H.k k a,H.p⟩
theorem all_tt{α:Type}{p:α→Bool}(h:∀ a,p a=true)(l:List α):l.all p=true:=List.all_eq_true.mpr fun a _=>h a
theorem lbV_tt(v:V):lbV tt_ tt_ v=true:=by
 cases v with
 | t ts=>exact all_tt (fun t=>by cases t <;> rfl) ts
 | _=>rfl
theorem lbC_tt(c:Cell):lbC tt_ tt_ c=true:=by
 cases c with
 | attrs C fs=>exact all_tt (fun p=>lbV_tt p.2) fs
 | _=>rfl
theorem RV.mono(H:Vle w w')(r:RV w v x):RV w' v x:=r.lb H.l (lbV_tt v)
theorem L2.vs{vs:List V}{xs:List Value}(H:Vle w w')(r:RVs w vs xs):RVs w' vs xs:=L2.mono r fun _ _=>RV.mono H
theorem RC.mono(H:Vle w w')(r:RC w a c h):RC w' a c h:=r.lb H.l (lbC_tt c)
theorem RCs.mono(H:Vle w w')(r:RCs w cs as hs):RCs w' cs as hs:=r.lb H.l (all_tt lbC_tt cs)
theorem RCs.len(r:RCs w cs as hs):as.length=cs.length:=by
 induction r with
 | nil=>rfl
 | cons _ _ ih=>exact congrArg Nat.succ ih
theorem RCs.app{cs':List Cell}{as':List Addr}{hs':List (Addr × AO)}(z:RCs w cs' as' hs')(r:RCs w cs as hs):RCs w (cs++cs') (as++as') (hs++hs'):=by
 induction r with
 | nil=>exact z
 | cons r _ ih=>rw [List.append_assoc]; exact .cons r ih
theorem RCs.one(r:RC w a c h):RCs w [c] [a] h:=List.append_nil h▸.cons r .nil
theorem RCs.split{R:Prop}(r:RCs w cs as hs):∀{k:Nat},cs[k]?=some c→(∀ a h1 hk h2,as[k]?=some a→hs=h1++(hk++h2)→RC w a c hk→(∀ w' c' hk',Vle w w'→RC w' a c' hk'→RCs w' (cs.set k c') as (h1++(hk'++h2)))→R)→R:=by
 induction r with
 | nil=>exact fun e=>nomatch e
 | @cons d a h cs as hs r rs ih =>
  intro k e K
  cases k with
  | zero=>cases e; exact K a [] h hs rfl rfl r fun w' c' hk' H z=>show RCs w' (c' :: cs) (a :: as) (hk'++hs) from .cons z (rs.mono H)
  | succ k=>exact ih (k:=k) e fun a' h1 hk h2 e1 e2 q z=>K a' (h++h1) hk h2 e1 (by rw [e2,List.append_assoc]) q fun w' c' hk' H y=>by rw [List.append_assoc]; exact .cons (r.mono H) (z w' c' hk' H y)
noncomputable def mpC(f:V→V):Cell→Cell
 | .attrs C fs=>.attrs C (fs.map fun p=>(p.1,f p.2))
 | c=>c
theorem RC.mp{f:V→V}(H:∀ v x,RV w v x→RV w' (f v) x)(p:w'.P=w.P):RC w a c h→RC w' a (mpC f c) h:=by
 cases c with
 | attrs C fs=>exact fun ⟨d,ys,q,e,z,r⟩=>⟨d,ys,p▸q,e,by rw [List.all_map]; exact z,r.map fun _ _ t=>⟨t.1,H _ _ t.2⟩⟩
 | list us=>exact fun ⟨ws,e,r⟩=>⟨ws,e,p▸r⟩
 | dict ks us=>exact fun ⟨kvs,e,q,r⟩=>⟨kvs,e,q,p▸r⟩
 | mem n f=>exact id
 | fz u=>exact fun r=>⟨r.1,p▸r.2⟩
 | hid=>exact id
theorem RCs.mp{f:V→V}(H:∀ v x,RV w v x→RV w' (f v) x)(p:w'.P=w.P)(r:RCs w cs as hs):RCs w' (cs.map (mpC f)) as hs:=by
 induction r with
 | nil=>exact .nil
 | cons r _ ih=>exact .cons (r.mp H p) ih
end
structure Dj(σ:St):Prop where
 d:∀ a,σ.H a=none∨σ.P a=none
 e0:σ.P 183=some (.tuple [])
theorem Dj.P{σ:St}{b:Addr}{o:AO}(d:Dj σ)(h:σ.H b=some o):σ.P b=none:=(d.d b).resolve_left (by rw [h]; exact fun z=>nomatch z)
theorem Dj.put{σ:St}{a:Addr}{o:AO}(d:Dj σ)(h:σ.P a=none):Dj (σ.put a o):=⟨fun b=>by
 by_cases q:b=a
 ·subst q; exact .inr h
 ·rw [H_put_ne q]; exact d.d b,d.e0⟩
structure Bag(σ:St)(h:List (Addr × AO)):Prop where
 H:∀ p∈h,σ.H p.1=some p.2
 nd:(h.map (·.1)).Nodup
 dj:Dj σ
theorem Bag.perm{σ:St}{h h':List (Addr × AO)}(B:Bag σ h)(p:h.Perm h'):Bag σ h':=⟨fun q hq=>B.H q (p.mem_iff.mpr hq),(p.map _).nodup_iff.mp B.nd,B.dj⟩
theorem Bag.tail{σ:St}{a:Addr}{o:AO}{h:List (Addr × AO)}(B:Bag σ ((a,o) :: h)):(∀ p∈h,p.1≠a)∧(h.map (·.1)).Nodup:=by
 have:=List.nodup_cons.mp B.nd
 exact ⟨fun p hp q=>this.1 (q▸List.mem_map.mpr ⟨p,hp,rfl⟩),this.2⟩
theorem Bag.put0{σ:St}{a:Addr}{o o':AO}{h:List (Addr × AO)}(B:Bag σ ((a,o) :: h)):Bag (σ.put a o') ((a,o') :: h):=by
 refine ⟨fun p hp=>?_,B.nd,B.dj.put (B.dj.P (B.H (a,o) (.head _)))⟩
 rcases List.mem_cons.mp hp with rfl | hp
 ·exact H_put_eq
 ·rw [H_put_ne (B.tail.1 p hp)]; exact B.H p (.tail _ hp)
theorem Bag.put{σ:St}{a:Addr}{o o':AO}{h1 h2:List (Addr × AO)}(B:Bag σ (h1++(a,o) :: h2)):Bag (σ.put a o') (h1++(a,o') :: h2) :=
 (B.perm List.perm_middle).put0.perm List.perm_middle.symm
theorem Bag.frz{σ:St}{a:Addr}{o:AO}{h1 h2:List (Addr × AO)}(B:Bag σ (h1++(a,o) :: h2)):Bag (σ.frz a o) (h1++h2):=by
 have B':=B.perm List.perm_middle
 have hb:=B'.H (a,o) (.head _)
 refine ⟨fun p hp=>?_,B'.tail.2,(ghost_frz hb (B.dj.P hb)).disj B.dj.d,(ghost_frz hb (B.dj.P hb)).mono _ _ B.dj.e0⟩
 show (if p.1=a then none else σ.H p.1)=_
 rw [if_neg (B'.tail.1 p hp)]; exact B'.H p (.tail _ hp)
theorem Bag.new{σ:St}{a:Addr}{o:AO}{h:List (Addr × AO)}(B:Bag σ h)(hn:σ.at a=none):Bag (σ.put a o) ((a,o) :: h):=by
 refine ⟨fun p hp=>?_,?_,B.dj.put (St.P_none hn)⟩
 ·rcases List.mem_cons.mp hp with rfl | hp
  ·exact H_put_eq
  ·rw [H_put_ne (ne_H (B.H p hp) hn)]; exact B.H p hp
 ·rw [List.map_cons,List.nodup_cons]
  refine ⟨fun q=>?_,B.nd⟩
  obtain ⟨p,hp,e⟩:=List.mem_map.mp q
  exact ne_H (B.H p hp) hn e
theorem PL.newP{σ:St}{a:Addr}{o:AO}(hn:σ.at a=none):PL σ.P (σ.newP a o).P:=fun b ob e=>by rw [P_newP_ne (ne_P e hn)]; exact e
theorem PL.frz{σ:St}{a:Addr}{o:AO}(hp:σ.P a=none):PL σ.P (σ.frz a o).P:=fun b ob e=>by
 have:b≠a:=fun q=>by rw [q,hp] at e; cases e
 show (if b=a then some o else σ.P b)=_
 rw [if_neg this]; exact e
structure Sx where
 ρ:List Addr
 κ:List Addr
 σ:St
noncomputable abbrev Sx.w(s:Sx):Vw:=⟨s.ρ,s.κ,s.σ.P⟩
noncomputable abbrev Sx.w0(s:Sx):Vw:=⟨s.ρ,[],s.σ.P⟩
noncomputable abbrev Sx.to(s:Sx)(σ:St):Sx:=⟨s.ρ,s.κ,σ⟩
inductive Sim(S O:List Cell)(G:List (Addr × AO))(s:Sx):Prop
 | mk (h1 h2:List (Addr × AO)) (x:RCs s.w0 S s.ρ h1) (y:RCs s.w O s.κ h2) (B:Bag s.σ (h1++(h2++G)))
noncomputable def Sx.wv(s:Sx):V→Vw
 | .o _=>s.w
 | _=>s.w0
noncomputable def cellOf(S O:List Cell):V→Option Cell
 | .s k=>S[k]?
 | .o k=>O[k]?
 | _=>none
noncomputable def setS(v:V)(x:Cell)(S:List Cell):List Cell:=match v with
 | .s k=>S.set k x
 | _=>S
noncomputable def setO(v:V)(x:Cell)(O:List Cell):List Cell:=match v with
 | .o k=>O.set k x
 | _=>O
section
variable {S O:List Cell}{G:List (Addr × AO)}{s:Sx}{a:Addr}{o:AO}{c:Cell}{k:Nat}{v:V}{x:Value}
theorem Sim.dj(M:Sim S O G s):Dj s.σ:=by cases M with | mk _ _ _ _ B=>exact B.dj
theorem Sim.klen(M:Sim S O G s):s.κ.length=O.length:=by cases M with | mk _ _ _ y _=>exact y.len
theorem Sim.slen(M:Sim S O G s):s.ρ.length=S.length:=by cases M with | mk _ _ x _ _=>exact x.len
theorem Vle.P(s:Sx){P:AH}(h:PL s.σ.P P):Vle s.w ⟨s.ρ,s.κ,P⟩:=⟨.refl _,.refl _,h⟩
theorem Vle.K(s:Sx)(l:List Addr):Vle s.w ⟨s.ρ,s.κ++l,s.σ.P⟩:=⟨.refl _,.app _ _,fun _ _ h=>h⟩
theorem Vle.P0(s:Sx){P:AH}(h:PL s.σ.P P):Vle s.w0 ⟨s.ρ,[],P⟩:=⟨.refl _,.refl _,h⟩
theorem Sim.newP(M:Sim S O G s)(hn:s.σ.at a=none):Sim S O G (s.to (s.σ.newP a o)):=by
 cases M with
 | mk h1 h2 x y B=>exact ⟨h1,h2,x.mono (.P0 s (PL.newP hn)),y.mono (.P s (PL.newP hn)),B.H,B.nd,fun b=>by
  by_cases q:b=a
  ·subst q; exact .inl (show s.σ.H b=none from St.H_none hn)
  ·rw [P_newP_ne q]; exact B.dj.d b,PL.newP hn _ _ B.dj.e0⟩
theorem Sim.newG(M:Sim S O G s)(hn:s.σ.at a=none):Sim S O ((a,o) :: G) (s.to (s.σ.put a o)):=by
 cases M with
 | mk h1 h2 x y B=>exact ⟨h1,h2,x,y,(B.new hn).perm (by rw [← List.append_assoc,← List.append_assoc]; exact List.perm_middle.symm)⟩
theorem Sim.adoptG{hk:List (Addr × AO)}(M:Sim S O (hk++G) s)(r:RC ⟨s.ρ,s.κ++[a],s.σ.P⟩ a c hk):Sim S (O++[c]) G ⟨s.ρ,s.κ++[a],s.σ⟩:=by
 cases M with
 | mk h1 h2 x y B=>exact ⟨h1,h2++hk,x,RCs.app (RCs.one r) (y.mono (.K s [a])),by rw [List.append_assoc]; exact B⟩
theorem Sim.adopt(M:Sim S O ((a,o) :: G) s)(r:RC ⟨s.ρ,s.κ++[a],s.σ.P⟩ a c [(a,o)]):Sim S (O++[c]) G ⟨s.ρ,s.κ++[a],s.σ⟩:=Sim.adoptG (hk:=[(a,o)]) M r
theorem Sim.own(M:Sim S O G s)(hn:s.σ.at a=none)(h:RC ⟨s.ρ,s.κ++[a],s.σ.P⟩ a c [(a,o)]):Sim S (O++[c]) G ⟨s.ρ,s.κ++[a],s.σ.put a o⟩:=(M.newG (o:=o) hn).adopt h
theorem Sim.acc{K:Value→Prop}(M:Sim S O G s)(hc:cellOf S O v=some c)(r:RV s.w v x)
  (k:∀ a hk,RC (s.wv v) a c hk→(∀ p∈hk,s.σ.H p.1=some p.2)→(∀ b o o' c',hk=[(b,o)]→RC (s.wv v) a c' [(b,o')]→Sim (setS v c' S) (setO v c' O) G (s.to (s.σ.put b o')))→K (.ref a)):K x:=by
 cases M with
 | mk h1 h2 X Y B =>
  cases v with
  | u u=>cases hc
  | t ts=>cases hc
  | s j =>
   obtain ⟨a,e,rfl⟩:=r
   refine X.split hc fun a' g1 gk g2 q1 q2 q3 q4=>?_
   rw [e] at q1; cases q1; subst q2
   refine k a gk q3 (fun p hp=>B.H p (by simp [hp])) fun b o o' c' q z=>?_
   subst q
   refine ⟨_,h2,q4 _ _ _ (.refl _) z,Y,?_⟩
   have B':Bag s.σ (g1++(b,o) :: (g2++(h2++G))):=by simpa [List.append_assoc] using B
   simpa [List.append_assoc] using B'.put (o':=o')
  | o j =>
   obtain ⟨a,e,rfl⟩:=r
   refine Y.split hc fun a' g1 gk g2 q1 q2 q3 q4=>?_
   rw [e] at q1; cases q1; subst q2
   refine k a gk q3 (fun p hp=>B.H p (by simp [hp])) fun b o o' c' q z=>?_
   subst q
   refine ⟨h1,_,X,q4 _ _ _ (.refl _) z,?_⟩
   have B':Bag s.σ ((h1++g1)++(b,o) :: (g2++G)):=by simpa [List.append_assoc] using B
   simpa [List.append_assoc] using B'.put (o':=o')
theorem Sim.frz{R:Prop}(M:Sim S O G s)(hc:O[k]?=some c)
  (K:∀ a hk,s.κ[k]?=some a→RC s.w a c hk→(∀ p∈hk,s.σ.H p.1=some p.2)→(∀ b o c',hk=[(b,o)]→RC ⟨s.ρ,s.κ,(s.σ.frz b o).P⟩ a c' []→Sim S (O.set k c') G (s.to (s.σ.frz b o)))→R):R:=by
 cases M with
 | mk h1 h2 X Y B =>
  refine Y.split hc fun a g1 gk g2 q1 q2 q3 q4=>?_
  subst q2
  refine K a gk q1 q3 (fun p hp=>B.H p (by simp [hp])) fun b o c' q z=>?_
  subst q
  have p:=PL.frz (o:=o) (B.dj.P (B.H (b,o) (by simp)))
  refine ⟨h1,_,X.mono (.P0 s p),q4 _ _ _ (.P s p) z,?_⟩
  have B':Bag s.σ ((h1++g1)++(b,o) :: (g2++G)):=by simpa [List.append_assoc] using B
  simpa [List.append_assoc] using B'.frz
end
end
end
section
section
inductive Fl where
 | next | brk | cont
 | ret (v:V)
inductive Orc where
 | d (b:Bool)
 | c
 | ad (n:Nat)
 | a (u:U)
 | is (ns:List Int)
 | us (us:List U)
 | r (n:Nat) (v:V) (new S:List Cell) (rls:List Nat)
 | lp (fl:Fl) (l:List (Str × V)) (S O:List Cell) (rls:List Nat)
 | la (l:List (Str × V)) (S O:List Cell) (rls:List Nat)
 | ev (v:V) (S O:List Cell)
structure Cf where
 l:List (Str × V)
 S:List Cell
 O:List Cell
 rl:List Nat
 or:List Orc
 cs:List Prop
noncomputable def AllP:List Prop→Prop
 | []=>True
 | p :: ps=>p∧AllP ps
noncomputable def Cf.say:Cf→Prop→Cf
 | ⟨l,S,O,rl,or,cs⟩,p=>⟨l,S,O,rl,or,p :: cs⟩
noncomputable def Cf.adv:Cf→List Orc→Cf
 | ⟨l,S,O,rl,_,cs⟩,r=>⟨l,S,O,rl,r,cs⟩
noncomputable def Cf.setO:Cf→List Cell→Cf
 | ⟨l,S,_,rl,or,cs⟩,O=>⟨l,S,O,rl,or,cs⟩
noncomputable def Cf.new:Cf→Cell→V × Cf
 | ⟨l,S,O,rl,or,cs⟩,x=>(.o O.length,⟨l,S,O++[x],rl,or,cs⟩)
noncomputable def bnd{α β γ:Type}:Option (α × β)→(α→β→Option γ)→Option γ
 | some (a,b),f=>f a b
 | none,_=>none
noncomputable def gd{γ:Type}(b:Bool)(x:Option γ):Option γ:=match b with
 | true=>x
 | false=>none
noncomputable def Ok{α β:Type}(r:Option (α × β))(Φ:α→β→Prop):Prop:=∀ a b,r=some (a,b)→Φ a b
noncomputable def Oc{γ:Type}(r:Option γ)(Φ:γ→Prop):Prop:=∀ a,r=some a→Φ a
section
variable {α β γ δ:Type}{Φ:α→β→Prop}{Ψ:γ→δ→Prop}{Θ:γ→Prop}{b:Bool}
theorem Ok.none:Ok none Φ:=fun _ _ e=>nomatch e
theorem Oc.none:Oc none Θ:=fun _ e=>nomatch e
theorem Ok.some{x:α}{y:β}(h:Φ x y):Ok (some (x,y)) Φ:=fun _ _ e=>by cases e; exact h
theorem Oc.some{x:γ}(h:Θ x):Oc (some x) Θ:=fun _ e=>by cases e; exact h
theorem bnd_eq{x:Option (α × β)}{f:α→β→Option γ}{c:γ}{R:Prop}(e:bnd x f=.some c)(k:∀ a b,x=.some (a,b)→f a b=.some c→R):R:=by
 cases x with
 | none=>cases e
 | some p=>exact k _ _ rfl e
theorem Ok.bnd{x:Option (α × β)}{f:α→β→Option (γ × δ)}(h:Ok x Φ)(k:∀ a b,Φ a b→Ok (f a b) Ψ):Ok (bnd x f) Ψ:=fun c d e=>bnd_eq e fun a b e1 e2=>k a b (h a b e1) c d e2
theorem Oc.bnd{x:Option (α × β)}{f:α→β→Option γ}(h:Ok x Φ)(k:∀ a b,Φ a b→Oc (f a b) Θ):Oc (Mine.bnd x f) Θ:=fun c e=>bnd_eq e fun a b e1 e2=>k a b (h a b e1) c e2
theorem bind_eq{x:Option α}{f:α→Option γ}{c:γ}{R:Prop}(e:x.bind f=.some c)(k:∀ a,x=.some a→f a=.some c→R):R:=by
 cases x with
 | none=>cases e
 | some p=>exact k _ rfl e
theorem Ok.ob{x:Option α}{f:α→Option (γ × δ)}(k:∀ a,x=.some a→Ok (f a) Ψ):Ok (x.bind f) Ψ:=fun c d e=>bind_eq e fun a e1 e2=>k a e1 c d e2
theorem Oc.ob{x:Option α}{f:α→Option γ}(k:∀ a,x=.some a→Oc (f a) Θ):Oc (x.bind f) Θ:=fun c e=>bind_eq e fun a e1 e2=>k a e1 c e2
theorem Ok.gd{x:Option (α × β)}(k:b=true→Ok x Φ):Ok (gd b x) Φ:=by
 cases b with
 | true=>exact k rfl
 | false=>exact .none
theorem Oc.gd{x:Option γ}(k:b=true→Oc x Θ):Oc (Mine.gd b x) Θ:=by
 cases b with
 | true=>exact k rfl
 | false=>exact .none
theorem and2'{a b:Bool}(h:(a&&b)=true):a=true∧b=true:=Bool.and_eq_true_iff.mp h
end
noncomputable def hold(v:V)(c c':Cf):Bool:=match v with
 | .u _=>true
 | .o _=>true
 | _=>Nat.beq c.rl.length c'.rl.length
noncomputable def Cf.cell(c:Cf):V→Option Cell
 | .s k=>c.S[k]?
 | .o k=>c.O[k]?
 | _=>none
noncomputable def uList:U→Option (List U)
 | .lst us=>some us
 | _=>none
noncomputable def asL:Cell→Option (List U)
 | .list us=>some us
 | _=>none
noncomputable def asLs:Cell→Option (List U)
 | .list us=>some us
 | .fz u=>uList u
 | _=>none
noncomputable def Cf.list(c:Cf):V→Option (List U)
 | .u u=>uList u
 | v=>(c.cell v).bind asLs
noncomputable def Cf.setC:Cf→V→Cell→Cf
 | ⟨l,S,O,rl,or,cs⟩,v,x=>match v with
  | .s k=>⟨l,S.set k x,O,rl,or,cs⟩
  | .o k=>⟨l,S,O.set k x,rl,or,cs⟩
  | _=>⟨l,S,O,rl,or,cs⟩
noncomputable def frC(O:List Cell)(k:Nat):Cell→Option (U × List Cell)
 | .list us=>some (.lst us,O.set k (.fz (.lst us)))
 | .dict ks us=>some (.dct ks us,O.set k (.fz (.dct ks us)))
 | .fz u=>some (u,O)
 | _=>none
noncomputable def frz1(v:V)(O:List Cell):Option (U × List Cell):=match v with
 | .u u=>some (u,O)
 | .o k=>(O[k]?).bind (frC O k)
 | _=>none
noncomputable def frzF:List (Str × V)→List Cell→Option (List U × List Cell)
 | [],O=>some ([],O)
 | (_,v) :: fs,O=>bnd (frz1 v O) fun u O1=>bnd (frzF fs O1) fun us O2=>some (u :: us,O2)
noncomputable def isAt:Cell→Bool
 | .attrs ..=>true
 | _=>false
noncomputable def frzA(O:List Cell)(k:Nat):Cell→Option (U × List Cell)
 | .attrs C fs=>bnd (frzF fs O) fun us O1=>(O1[k]?).bind fun c=>gd (isAt c) (some (.ins C (fs.map (·.1)) us,O1.set k (.fz (.ins C (fs.map (·.1)) us))))
 | c=>frC O k c
noncomputable def frz(v:V)(O:List Cell):Option (U × List Cell):=match v with
 | .u u=>some (u,O)
 | .o k=>(O[k]?).bind (frzA O k)
 | _=>none
noncomputable def frzL:List V→List Cell→Option (List U × List Cell)
 | [],O=>some ([],O)
 | v :: vs,O=>bnd (frz v O) fun u O1=>bnd (frzL vs O1) fun us O2=>some (u :: us,O2)
noncomputable def arg(v:V)(O:List Cell):Option (V × List Cell):=match v with
 | .s k=>some (.s k,O)
 | v=>bnd (frz v O) fun u O1=>some (.u u,O1)
noncomputable def args:List V→List Cell→Option (List V × List Cell)
 | [],O=>some ([],O)
 | v :: vs,O=>bnd (arg v O) fun w O1=>bnd (args vs O1) fun ws O2=>some (w :: ws,O2)
structure Fz(S O':List Cell)(G:List (Addr × AO))(s:Sx)(σ':St):Prop where
 g:Ghost s.σ σ'
 m:Sim S O' G (s.to σ')
section
variable {S O O':List Cell}{G:List (Addr × AO)}{s:Sx}{σ':St}{k:Nat}{c:Cell}{u:U}{v:V}{x:Value}{R:Prop}
theorem Fz.p(F:Fz S O' G s σ'):PL s.σ.P σ'.P:=F.g.mono
theorem Fz.w(F:Fz S O' G s σ'):Vle s.w (s.to σ').w:=.P s F.g.mono
theorem Fz.refl(M:Sim S O G s):Fz S O G s s.σ:=⟨.refl _,M⟩
theorem Fz.trans{O'':List Cell}{σ'':St}(x:Fz S O' G s σ')(y:Fz S O'' G (s.to σ') σ''):Fz S O'' G s σ'':=⟨x.g.trans y.g,y.m⟩
noncomputable def FzJ{α β:Type}(A:Vw→α→Prop)(B:Vw→β→Prop)(O:List Cell)(b:β)(O':List Cell)(a:α):Prop:=∀{S G s}{R:Prop},Sim S O G s→A s.w a→(∀ σ',Fz S O' G s σ'→B (s.to σ').w b→R)→R
theorem Sim.fz(M:Sim S O G s)(hc:O[k]?=some c)(r:RV s.w (.o k) x)
  (q:∀ a hk,s.κ[k]?=some a→RC s.w a c hk→(∀ p∈hk,s.σ.H p.1=some p.2)→∃ b o,hk=[(b,o)]∧∀ P',PL s.σ.P P'→P' b=some o→RU P' u (.ref a))
  (K:∀ σ',Fz S (O.set k (.fz u)) G s σ'→RU σ'.P u x→R):R:=by
 refine M.frz hc fun a hk e rc hH cl=>?_
 obtain ⟨b,o,e1,z⟩:=q a hk e rc hH
 obtain ⟨a',e',ex⟩:=r
 rw [e] at e'; cases e'
 have hb:s.σ.H b=some o:=hH (b,o) (by rw [e1]; exact .head _)
 have hp:=M.dj.P hb
 have ru:=z _ (PL.frz (o:=o) hp) (if_pos rfl)
 exact K _ ⟨ghost_frz hb hp,cl b o _ e1 ⟨rfl,ru⟩⟩ (ex▸ru)
noncomputable abbrev VJ(v:V)(O:List Cell)(u:U)(O':List Cell):Prop:=∀ x,FzJ (fun w v=>RV w v x) (fun w u=>RU w.P u x) O u O' v
theorem frC_ok(hc:O[k]?=some c):Ok (frC O k c) (VJ (.o k) O):=by
 cases c with
 | list us=>exact .some fun x _ _ _ _ M r K=>M.fz (u:=.lst us) hc r (fun a hk _ ⟨ws,q,z⟩ _=>⟨a,_,q,fun P' pl pb=>⟨a,ws,rfl,pb,(z.pl pl).ru⟩⟩) K
 | dict ks us=>exact .some fun x _ _ _ _ M r K=>M.fz (u:=.dct ks us) hc r (fun a hk _ ⟨ws,q,t,z⟩ _=>⟨a,_,q,fun P' pl pb=>⟨a,ws,rfl,pb,t,(z.pl pl).ru⟩⟩) K
 | fz u=>exact .some fun x _ _ _ _ M r K=>M.frz hc fun a hk e rc _ _=>K _ (.refl M) (let ⟨a',e',ex⟩:=r; by rw [e] at e'; cases e'; exact ex▸rc.2)
 | _=>exact .none
theorem frz1_ok:Ok (frz1 v O) (VJ v O):=by
 cases v with
 | u u=>exact .some fun x _ _ _ _ M r K=>K _ (.refl M) r
 | o k=>exact .ob fun c hc=>frC_ok hc
 | _=>exact .none
theorem frzF_ok{fs:List (Str × V)}:∀{O:List Cell},Ok (frzF fs O) fun us O'=>∀ ys,FzJ (fun w fs=>L2 (RA w) fs ys) (fun w us=>RL w.P us (ys.map (·.2))) O us O' fs:=by
 induction fs with
 | nil=>exact .some fun ys _ _ _ _ M r K=>K _ (.refl M) (r.nil_ (K:=fun ys=>RL _ [] (ys.map (·.2))) .nil)
 | cons p fs ih =>
  intro O
  refine .bnd frz1_ok fun u O1 A=>.bnd ih fun us O2 B=>.some fun ys S G s R M r K=>?_
  refine r.inv (K:=fun ys=>(∀ σ',Fz S O2 G s σ'→RL σ'.P (u :: us) (ys.map (·.2))→R)→R) (fun y ys a b K=>?_) K
  exact A _ M a.2 fun σ1 F1 r1=>B _ F1.m (L2.mono b fun _ _ z=>⟨z.1,z.2.mono F1.w⟩) fun σ2 F2 r2=>K σ2 (F1.trans F2) (.cons (RU.mono F2.p r1) r2)
theorem RA.names{w:Vw}{fs:List (Str × V)}{ys:List (Str × Value)}(h:L2 (RA w) fs ys):ys.map (·.1)=fs.map (·.1):=by
 induction h with
 | nil=>rfl
 | cons r _ ih=>rw [List.map_cons,List.map_cons,ih,r.1]
theorem frzA_ok(hc:O[k]?=some c):Ok (frzA O k c) (VJ (.o k) O):=by
 cases c with
 | attrs C fs =>
  refine .bnd frzF_ok fun us O1 A=>.ob fun c' hc'=>.gd fun hi=>.some fun x S G s R M r K=>?_
  refine M.frz hc fun a hk e rc hH _=>?_
  obtain ⟨dx,ys,p1,p2,p3,p4⟩:=rc
  refine A ys M p4 fun σ1 F r1=>F.m.fz (u:=.ins C (fs.map (·.1)) us) hc' (x:=x) r (fun a' hk' e' rc' hH'=>?_) fun σ2 F2 ru=>K σ2 (F.trans F2) ru
  cases c' with
  | attrs C' fs' =>
   obtain ⟨d',ys',p1',p2',_,_⟩:=rc'
   cases e.symm.trans e'
   have h1:=F.p _ _ p1
   cases h1.symm.trans p1'
   have h2:=F.g.subH _ _ (hH' (dx,.attrs ys') (by rw [p2']; exact .head _))
   cases (hH (dx,.attrs ys) (by rw [p2]; exact .head _)).symm.trans h2
   exact ⟨dx,_,p2',fun P' pl pb=>⟨a,dx,ys,rfl,pl _ _ p1',pb,⟨RA.names p4,by rw [List.all_map]; exact p3⟩,(r1.pl pl).ru⟩⟩
  | _=>cases hi
 | _=>exact frC_ok hc
theorem frz_ok:Ok (frz v O) (VJ v O):=by
 cases v with
 | u u=>exact .some fun x _ _ _ _ M r K=>K _ (.refl M) r
 | o k=>exact .ob fun c hc=>frzA_ok hc
 | _=>exact .none
theorem frzL_ok{vs:List V}:∀{O:List Cell},Ok (frzL vs O) fun us O'=>∀ xs,FzJ (fun w vs=>RVs w vs xs) (fun w us=>RL w.P us xs) O us O' vs:=by
 induction vs with
 | nil=>exact .some fun xs _ _ _ _ M r K=>K _ (.refl M) (r.nil_ .nil)
 | cons v vs ih =>
  intro O
  refine .bnd frz_ok fun u O1 A=>.bnd ih fun us O2 B=>.some fun xs S G s R M r K=>?_
  refine r.inv (K:=fun xs=>(∀ σ',Fz S O2 G s σ'→RL σ'.P (u :: us) xs→R)→R) (fun y ys a b K=>?_) K
  exact A _ M a fun σ1 F1 r1=>B _ F1.m (b.vs F1.w) fun σ2 F2 r2=>K σ2 (F1.trans F2) (.cons (RU.mono F2.p r1) r2)
theorem arg_ok:Ok (arg v O) fun w O'=>∀ x,FzJ (fun w v=>RV w v x) (fun w v=>RV { w with κ:=[] } v x) O w O' v:=by
 cases v with
 | s k=>exact .some fun x _ _ _ _ M r K=>K _ (.refl M) r
 | _ =>
  unfold arg
  exact .bnd frz_ok fun u O1 A=>.some fun x _ _ _ _ M r K=>A x M r K
theorem args_ok{vs:List V}:∀{O:List Cell},Ok (args vs O) fun ws O'=>∀ xs,FzJ (fun w vs=>RVs w vs xs) (fun w vs=>RVs { w with κ:=[] } vs xs) O ws O' vs:=by
 induction vs with
 | nil=>exact .some fun xs _ _ _ _ M r K=>K _ (.refl M) (r.nil_ .nil)
 | cons v vs ih =>
  intro O
  refine .bnd arg_ok fun u O1 A=>.bnd ih fun us O2 B=>.some fun xs S G s R M r K=>?_
  refine r.inv (K:=fun xs=>(∀ σ',Fz S O2 G s σ'→RVs (s.to σ').w0 (u :: us) xs→R)→R) (fun y ys a b K=>?_) K
  exact A _ M a fun σ1 F1 r1=>B _ F1.m (b.vs F1.w) fun σ2 F2 r2=>K σ2 (F1.trans F2) (.cons (RV.mono (w:=(s.to σ1).w0) (w':=(s.to σ2).w0) ⟨.refl _,.refl _,F2.p⟩ r1) r2)
end
end
end
section
section
noncomputable def MTL:List (Addr × List (Str × Addr)):=[(465,[("add_rows",406),("add_data",413),("most_frames",434)]),
 (373,[("place",342),("word",349),("put_word",356)]),
 (164,[("put_free",112),("is_free",119),("descriptor",126),("size_of",133),("take_free",140),("alloc",147),("blocks",154),("block_of",161)])]
noncomputable def MT(C:Addr)(x:Str):Option Addr:=((MTL.lookup C).getD []).lookup x
noncomputable def LR(w:Vw)(m:Lm)(l:List (Str × V)):Prop:=∀ x v,l.lookup x=some v→∃ y,m x=some y∧RV w v y
theorem LR.mono{w w':Vw}{m:Lm}{l:List (Str × V)}(H:Vle w w')(h:LR w m l):LR w' m l:=fun x v e=>by
 obtain ⟨y,a,b⟩:=h x v e
 exact ⟨y,a,b.mono H⟩
structure Fr where
 G:List (Addr × AO)
 m:Lm
structure Sat(c:Cf)(F:Fr)(s:Sx):Prop where
 sim:Sim c.S c.O F.G s
 loc:LR s.w F.m c.l
structure Nx(rl rl':List Nat)(s s':Sx):Prop where
 p:PL s.σ.P s'.σ.P
 k:Px s.κ s'.κ
 q:∃ new,rl'=new++rl∧Pa new s.ρ s'.ρ
section
variable {rl rl' rl'':List Nat}{s s' s'':Sx}{c c':Cf}{F:Fr}{v:V}{x:Value}{σ':St}
theorem Nx.of(p:PL s.σ.P s'.σ.P)(k:Px s.κ s'.κ)(r:Px s.ρ s'.ρ):Nx rl rl s s':=⟨p,k,[],rfl,r.pa⟩
theorem Nx.refl:Nx rl rl s s:=.of (fun _ _ h=>h) (.refl _) (.refl _)
theorem Nx.trans(x:Nx rl rl' s s')(y:Nx rl' rl'' s' s''):Nx rl rl'' s s'':=by
 obtain ⟨n1,e1,h1⟩:=x.q
 obtain ⟨n2,e2,h2⟩:=y.q
 exact ⟨fun a o h=>y.p _ _ (x.p _ _ h),x.k.trans y.k,n2++n1,by rw [e2,e1,List.append_assoc],fun k a hk h=>h2 k a (fun q=>hk (List.mem_append_left _ q)) (h1 k a (fun q=>hk (List.mem_append_right _ q)) h)⟩
theorem Nx.same(x:Nx rl rl' s s')(h:rl.length=rl'.length):Px s.ρ s'.ρ:=by
 obtain ⟨n,e,q⟩:=x.q
 rw [e,List.length_append] at h
 rw [List.length_eq_zero_iff.mp (show n.length=0 by exact Nat.le_antisymm (lin [] [_,_] [134496278] 98372 8721475 rfl h) (lin [] [_] [] 4132 83522 rfl ))] at q
 exact fun k a e=>q k a List.not_mem_nil e
theorem Nx.pa(x:Nx rl rl' s s'):Pa rl' s.ρ s'.ρ:=by
 obtain ⟨n,e,q⟩:=x.q
 rw [e]
 exact fun k a hk h=>q k a (fun z=>hk (List.mem_append_left _ z)) h
theorem Nx.vle(x:Nx rl rl s s'):Vle s.w s'.w:=⟨x.same rfl,x.k,x.p⟩
theorem RV.hold(N:Nx c.rl c'.rl s s')(h:hold v c c'=true)(r:RV s.w v x):RV s'.w v x:=by
 cases v with
 | u u=>exact RU.mono (u:=u) N.p r
 | o k=>obtain ⟨a,e,q⟩:=r; exact ⟨a,N.k _ _ e,q⟩
 | _=>exact r.mono ⟨N.same (Nat.eq_of_beq_eq_true h),N.k,N.p⟩
theorem Sat.as{rl:List Nat}{or:List Orc}{cs:List Prop}(M:Sat c F s):Sat ⟨c.l,c.S,c.O,rl,or,cs⟩ F s:=⟨M.sim,M.loc⟩
noncomputable def Ky{α:Type}(R:Sx→α→Prop)(c:Cf)(rl:List Nat)(F:Fr)(s:Sx)(K:α→St→Prop):Prop:=∀ x s',Sat c F s'→Nx rl c.rl s s'→R s' x→K x s'.σ
structure OkJ{α:Type}(T:Fr→Sx→(α→St→Prop)→Prop)(R:Sx→α→Prop)(c c':Cf):Prop where
 cs:AllP c'.cs→AllP c.cs
 ok:AllP c'.cs→∀ F s K,Sat c F s→Ky R c' c.rl F s K→T F s K
noncomputable def Rv(v:V)(s:Sx)(x:Value):Prop:=RV s.w v x
section
variable {α:Type}{R:Sx→α→Prop}{K:α→St→Prop}{y:α}
theorem Ky.st(k:Ky R c' rl F s K)(N:Nx rl rl' s s'):Ky R c' rl' F s' K:=fun x _ M N' r=>k x _ M (N.trans N') r
theorem Ky.go(k:Ky R c' rl F s K)(M:Sat c' F s)(e:c'.rl=rl)(r:R s y):K y s.σ:=k y s M (e▸.refl) r
theorem Ky.to(k:Ky R c' rl F s K)(M:Sat c' F (s.to σ'))(e:c'.rl=rl)(p:PL s.σ.P σ'.P)(r:R (s.to σ') y):K y σ':=k y _ M (e▸.of p (.refl _) (.refl _)) r
end
variable {K:Value→St→Prop}{a:Addr}{o:AO}{cl:Cell}{or:List Orc}{cs:List Prop}
theorem Ky.new(k:Ky (Rv (.o c.O.length)) ⟨c.l,c.S,c.O++[cl],rl,or,cs⟩ rl F s K)(M:Sat c F s)(ha:s.σ.at a=none)(r:RC ⟨s.ρ,s.κ++[a],s.σ.P⟩ a cl [(a,o)]):K (.ref a) (s.σ.put a o) :=
 k _ ⟨s.ρ,s.κ++[a],s.σ.put a o⟩ ⟨M.sim.own ha r,M.loc.mono (.K s [a])⟩ (.of (fun _ _ h=>h) (.app _ _) (.refl _)) ⟨a,M.sim.klen▸Px.last _ _,rfl⟩
theorem Ky.newP(k:Ky (Rv v) c' rl F s K)(M:Sat c' F s)(e:c'.rl=rl)(ha:s.σ.at a=none)(r:∀ P,P a=some o→PL s.σ.P P→RV ⟨s.ρ,s.κ,P⟩ v (.ref a)):K (.ref a) (s.σ.newP a o) :=
 k.to ⟨M.sim.newP ha,M.loc.mono (.P s (PL.newP ha))⟩ e (PL.newP ha) (r _ P_newP_eq (PL.newP ha))
end
theorem Ok.new{c:Cf}{l:List (Str × V)}{S O:List Cell}{rl:List Nat}{or:List Orc}{cs:List Prop}{cl:Cell}{Φ:V→Cf→Prop}(e:c=⟨l,S,O,rl,or,cs⟩)(h:Φ (.o O.length) ⟨l,S,O++[cl],rl,or,cs⟩):Ok (Option.some (c.new cl)) Φ:=by
 rw [e]; exact Ok.some h
inductive Vk where
 | int (i:Int)
 | str (s:Str)
 | bool (b:Bool)
 | tup (us:List U)
 | lst (us:List U)
 | none
 | bi (k:Nat)
 | ins (C:Addr) (xs:List Str) (us:List U)
 | other
noncomputable def vkU:U→Vk
 | .int i=>.int i
 | .str s=>.str s
 | .bool b=>.bool b
 | .tup us=>.tup us
 | .lst us=>.lst us
 | .none=>.none
 | .bi k=>.bi k
 | .ins C xs us=>.ins C xs us
 | _=>.other
noncomputable def vk:V→Vk
 | .u u=>vkU u
 | _=>.other
noncomputable def vkV:Vk→Option U
 | .int i=>some (.int i)
 | .str s=>some (.str s)
 | .bool b=>some (.bool b)
 | .tup us=>some (.tup us)
 | .lst us=>some (.lst us)
 | .none=>some .none
 | .bi k=>some (.bi k)
 | .ins C xs us=>some (.ins C xs us)
 | .other=>none
theorem vkU_ok{u u':U}:vkV (vkU u)=some u'→u=u':=by
 cases u <;> first | exact Option.some.inj | exact fun h=>nomatch h
theorem vk_ok{v:V}{u:U}:vkV (vk v)=some u→v=.u u:=by
 cases v with
 | u u=>exact fun h=>congrArg V.u (vkU_ok h)
 | _=>exact fun h=>nomatch h
noncomputable def vkI:Vk→Option Int
 | .int i=>some i
 | _=>none
noncomputable def vkS:Vk→Option Str
 | .str s=>some s
 | _=>none
noncomputable def vkB:Vk→Option Bool
 | .bool b=>some b
 | _=>none
noncomputable def vkT:Vk→Option (List U)
 | .tup us=>some us
 | _=>none
noncomputable def uInt(v:V):Option Int:=vkI (vk v)
noncomputable def uStr(v:V):Option Str:=vkS (vk v)
noncomputable def uBool(v:V):Option Bool:=vkB (vk v)
noncomputable def uTup(v:V):Option (List U):=vkT (vk v)
section
variable {v:V}{γ δ:Type}{k:Vk}
theorem vkI_eq{i:Int}:vkI k=some i→vkV k=some (.int i):=by cases k <;> first | exact fun h=>congrArg _ (congrArg _ (Option.some.inj h)) | exact fun h=>nomatch h
theorem vkS_eq{i:Str}:vkS k=some i→vkV k=some (.str i):=by cases k <;> first | exact fun h=>congrArg _ (congrArg _ (Option.some.inj h)) | exact fun h=>nomatch h
theorem vkB_eq{i:Bool}:vkB k=some i→vkV k=some (.bool i):=by cases k <;> first | exact fun h=>congrArg _ (congrArg _ (Option.some.inj h)) | exact fun h=>nomatch h
theorem vkT_eq{i:List U}:vkT k=some i→vkV k=some (.tup i):=by cases k <;> first | exact fun h=>congrArg _ (congrArg _ (Option.some.inj h)) | exact fun h=>nomatch h
theorem uInt_eq{i:Int}(h:uInt v=some i):v=.u (.int i):=vk_ok (vkI_eq h)
theorem uTup_eq{i:List U}(h:uTup v=some i):v=.u (.tup i):=vk_ok (vkT_eq h)
end
noncomputable def opt{α β:Type}(x:Option α)(f:α→β)(b:β):β:=match x with
 | some a=>f a
 | none=>b
theorem Ok.opt{α γ δ:Type}{x:Option α}{f:α→Option (γ × δ)}{b:Option (γ × δ)}{Φ:γ→δ→Prop}(k1:∀ a,x=.some a→Ok (f a) Φ)(k2:Ok b Φ):Ok (Mine.opt x f b) Φ:=by
 cases x with
 | none=>exact k2
 | some a=>exact k1 a rfl
noncomputable def sel{β:Type}(b:Bool)(x y:β):β:=match b with
 | true=>x
 | false=>y
theorem Ok.sel{γ δ:Type}{b:Bool}{x y:Option (γ × δ)}{Φ:γ→δ→Prop}(k1:b=true→Ok x Φ)(k2:Ok y Φ):Ok (Mine.sel b x y) Φ:=by
 cases b with
 | true=>exact k1 rfl
 | false=>exact k2
noncomputable def orc{γ:Type}(c:Cf)(f:Orc→Cf→Option γ):Option γ:=match c.or with
 | o :: r=>f o (c.adv r)
 | []=>none
theorem Ok.orc{γ δ:Type}{c:Cf}{f:Orc→Cf→Option (γ × δ)}{Φ:γ→δ→Prop}(k:∀ o r,Ok (f o (c.adv r)) Φ):Ok (Mine.orc c f) Φ:=by
 unfold Mine.orc
 cases c.or with
 | nil=>exact .none
 | cons o r=>exact k o r
end
end
section
section
noncomputable def isAdd:Operator→Bool
 | .Add=>true
 | _=>false
noncomputable def cmpOf(i j:Int):CmpOp→Option Bool
 | .Eq=>some (decide (i=j))
 | .NotEq=>some (decide (i≠j))
 | .Lt=>some (decide (i < j))
 | .LtE=>some (decide (i≤j))
 | .Gt=>some (decide (j < i))
 | .GtE=>some (decide (j≤i))
 | _=>none
noncomputable def jBinI(op:Operator)(i j:Int)(c:Cf):Option (V × Cf):=match op with
 | .Add=>some (.u (.int (i+j)),c)
 | .Sub=>some (.u (.int (i-j)),c)
 | .Mult=>some (.u (.int (i * j)),c.say (i.natAbs < 2 ^ 64∨j.natAbs < 2 ^ 64))
 | .FloorDiv=>some (.u (.int (i / j)),c.say (0 < j∧j < 2 ^ 64))
 | .Mod=>some (.u (.int (i%j)),c.say (0 < j))
 | .Pow=>some (.u (.int (i ^ j.toNat)),c.say (0≤j∧(Builtin.Int.intBits i:Int) * j≤2 ^ 27))
 | _=>none
noncomputable def jBinL(op:Operator)(us:List U)(vb:V)(c:Cf):Option (V × Cf):=match op with
 | .Add=>(c.list vb).bind fun ws=>some ((c.say (us.length+ws.length≤sizeLine)).new (.list (us++ws)))
 | .Mult=>(uInt vb).bind fun k=>some ((c.say (0≤k∧k < 2 ^ 20∧us.length≤8)).new (.list (List.replicate k.toNat us).flatten))
 | _=>none
noncomputable def jBinS(op:Operator)(a b:Str)(c:Cf):Option (V × Cf):=match op with
 | .Add=>some (.u (.str (a++b)),c.say (a.length+b.length≤sizeLine))
 | _=>none
noncomputable def jBin(op:Operator)(va vb:V)(c:Cf):Option (V × Cf):=opt (uInt va) (fun i=>(uInt vb).bind fun j=>jBinI op i j c)
 (opt (uStr va) (fun a=>(uStr vb).bind fun b=>jBinS op a b c) ((c.list va).bind fun us=>jBinL op us vb c))
noncomputable def isBi(v:V):Bool:=match vk v with
 | .bi _=>true
 | _=>false
noncomputable def notRaw(v:V):Option V:=gd (!isBi v) (some v)
noncomputable def insOf:U→Option (Addr × List (Str × U))
 | .ins C xs us=>some (C,xs.zip us)
 | _=>none
noncomputable def insA(u:U)(x:Str):Option V:=(insOf u).bind fun p=>(p.2.lookup x).bind fun w=>notRaw (.u w)
noncomputable def cellA(x:Str):Cell→Option V
 | .attrs _ fs=>(fs.lookup x).bind notRaw
 | .fz u=>insA u x
 | _=>none
noncomputable def jAttr(v:V)(x:Str)(c:Cf):Option V:=match v with
 | .u u=>insA u x
 | v=>(c.cell v).bind (cellA x)
noncomputable def orI(k:Int)(us:List U):Orc→Cf→Option (V × Cf)
 | .a u,c=>some (.u u,c.say (0≤k∧k < 2 ^ 63∧us[k.toNat]?=some u))
 | .c,c=>gd (decide (0≤k∧k < 2 ^ 60)) ((us[k.toNat]?).bind fun u=>some (.u u,c))
 | .us [u],c=>some (.u u,c.say (k=-1∧us.length < 2 ^ 62∧us.getLast?=some u))
 | _,_=>none
noncomputable def jItem(vo vi:V)(c:Cf):Option (V × Cf):=(uInt vi).bind fun k=>opt (uTup vo) (fun us=>gd (decide (0≤k∧k < 2 ^ 60)) ((us[k.toNat]?).bind fun u=>some (.u u,c)))
 ((c.list vo).bind fun us=>orc c (orI k us))
noncomputable def isNone:V→Option Bool
 | .u .none=>some true
 | .u (.int _)=>some false
 | .u (.tup _)=>some false
 | .u (.lst _)=>some false
 | .u (.ins ..)=>some false
 | .s _=>some false
 | .o _=>some false
 | _=>none
noncomputable def pl:Nat→U→Bool
 | 0,_=>false
 | d+1,u=>match u with
  | .int _=>true
  | .str _=>true
  | .bool _=>true
  | .none=>true
  | .tup us=>us.all (pl d)
  | .lst us=>us.all (pl d)
  | _=>false
noncomputable def orE(neg:Bool)(va vb:V):Orc→Cf→Option (Bool × Cf)
 | .d b,c=>opt (uTup va) (fun us=>gd (!neg&&b) ((uTup vb).bind fun ws=>some (true,c.say (us=ws∧us.all (pl 4)=true))))
  ((c.list va).bind fun us=>(c.list vb).bind fun ws=>sel b (some (!neg,c.say (us=ws∧us.all (pl 4)=true))) (some (neg,c.say (us.length≠ws.length))))
 | _,_=>none
noncomputable def jEqL(neg:Bool)(va vb:V)(c:Cf):Option (Bool × Cf):=orc c (orE neg va vb)
noncomputable def orN(neg:Bool)(i:Int)(us:List U):Orc→Cf→Option (Bool × Cf)
 | .is ns,c=>some (sel neg (decide (¬ i∈ns)) (decide (i∈ns)),c.say (us=ns.map U.int))
 | _,_=>none
noncomputable def jIn(neg:Bool)(va vb:V)(c:Cf):Option (Bool × Cf):=(uInt va).bind fun i=>(c.list vb).bind fun us=>orc c (orN neg i us)
noncomputable def isN:V→Bool
 | .u .none=>true
 | _=>false
noncomputable def jIs(neg:Bool)(va vb:V)(c:Cf):Option (Bool × Cf):=gd (isN vb) ((isNone va).bind fun b=>some (sel neg (!b) b,c))
noncomputable def jCmpI(op:CmpOp)(va vb:V)(c:Cf):Option (Bool × Cf):=(uInt va).bind fun i=>(uInt vb).bind fun j=>(cmpOf i j op).bind fun t=>some (t,c)
noncomputable def jCmp(op:CmpOp)(va vb:V)(c:Cf):Option (Bool × Cf):=match op with
 | .Is=>jIs false va vb c
 | .IsNot=>jIs true va vb c
 | .In=>jIn false va vb c
 | .NotIn=>jIn true va vb c
 | .Eq=>opt (uInt va) (fun _=>jCmpI .Eq va vb c) (jEqL false va vb c)
 | .NotEq=>opt (uInt va) (fun _=>jCmpI .NotEq va vb c) (jEqL true va vb c)
 | op=>jCmpI op va vb c
variable {KK:Params→Frag}{W:Wd KK}{n:Nat}{F:Fr}{s:Sx}{c c':Cf}{v:V}{x:Value}{K:Value→Prop}{us:List U}
theorem uList_eq{u:U}:uList u=some us→u=.lst us:=by
 cases u <;> first | exact fun h=>congrArg _ (Option.some.inj h) | exact fun h=>nomatch h
theorem asLs_ok{a:Addr}{cl:Cell}{w:Vw}{hk:List (Addr × AO)}(r:RC w a cl hk)(h:∀ p∈hk,s.σ.H p.1=some p.2)(e:asLs cl=some us)(hw:w.P=s.σ.P)(k:∀ a ws,Kn s.σ a (.list ws)→RL s.σ.P us ws→K (.ref a)):K (.ref a):=by
 cases cl with
 | list us' =>
  cases e
  obtain ⟨ws,q,z⟩:=r
  exact k a ws (.H (h (a,.list ws) (by rw [q]; exact .head _))) (hw▸z)
 | fz u =>
  have r2:=r.2
  rw [uList_eq e] at r2
  exact r2.lst fun a ws p q=>k a ws (.P (hw▸p)) (hw▸q)
 | _=>cases e
theorem wvP(s:Sx)(v:V):(s.wv v).P=s.σ.P:=by cases v <;> rfl
theorem wvle(s:Sx)(v:V):Vle (s.wv v) s.w:=by
 cases v with
 | o k=>exact .refl _
 | _=>exact ⟨.refl _,.nil,fun _ _ h=>h⟩
theorem cell_eq(c:Cf)(v:V):cellOf c.S c.O v=c.cell v:=by cases v <;> rfl
theorem Sat.list(M:Sat c F s)(e:c.list v=some us)(r:RV s.w v x)(k:∀ a ws,Kn s.σ a (.list ws)→RL s.σ.P us ws→K (.ref a)):K x:=by
 have lc:(c.cell v).bind asLs=some us→K x:=fun e=>bind_eq e fun cl e1 e2=>M.sim.acc ((cell_eq c v).trans e1) r fun a hk rc hH _=>asLs_ok rc hH e2 (wvP s v) k
 cases v with
 | u u=>exact RU.lst (uList_eq e▸r) fun a ws p q=>k a ws (.P p) q
 | _=>exact lc e
noncomputable def BinT(W:Wd KK)(n:Nat)(op:Operator)(va vb:V)(F:Fr)(s:Sx)(K:Value→St→Prop):Prop:=∀ xa xb,RV s.w va xa→RV s.w vb xb→Bin W n op xa xb K s.σ
theorem bin_ii{op:Operator}{i j:Int}(cs:AllP c'.cs→AllP c.cs)(h:AllP c'.cs→∀ F s K,Sat c F s→Ky (Rv v) c' c.rl F s K→Bin W n op (.int i 0) (.int j 0) K s.σ):OkJ (BinT W n op (.u (.int i)) (.u (.int j))) (Rv v) c c' :=
 ⟨cs,fun q F s K M k xa xb ra rb=>by cases ra; cases rb; exact h q F s K M k⟩
theorem jBinI_ok{op:Operator}{i j:Int}:Ok (jBinI op i j c) fun v c'=>OkJ (BinT W n op (.u (.int i)) (.u (.int j))) (Rv v) c c':=by
 cases op with
 | Add=>exact .some (bin_ii id fun q F s K M k=>b_add (k.go M.as rfl rfl))
 | Sub=>exact .some (bin_ii id fun q F s K M k=>b_sub (k.go M.as rfl rfl))
 | Mult=>exact .some (bin_ii (fun h=>h.2) fun q F s K M k=>b_mul q.1 (k.go M.as rfl rfl))
 | Mod=>exact .some (bin_ii (fun h=>h.2) fun q F s K M k=>b_mod q.1 (k.go M.as rfl rfl))
 | Pow=>exact .some (bin_ii (fun h=>h.2) fun q F s K M k=>b_pow q.1.1 q.1.2 (k.go M.as rfl rfl))
 | FloorDiv=>exact .some (bin_ii (fun h=>h.2) fun q F s K M k=>b_fdiv q.1.1 q.1.2 (k.go M.as rfl rfl))
 | _=>exact .none
theorem jBinS_ok{op:Operator}{a b:Str}:Ok (jBinS op a b c) fun v c'=>OkJ (BinT W n op (.u (.str a)) (.u (.str b))) (Rv v) c c':=by
 cases op with
 | Add=>exact .some ⟨fun h=>h.2,fun q F s K M k xa xb ra rb=>by cases ra; cases rb; exact b_str q.1 (k.go M.as rfl rfl)⟩
 | _=>exact .none
theorem jBinL_ok{op:Operator}{va vb:V}(hl:c.list va=some us):Ok (jBinL op us vb c) fun v c'=>OkJ (BinT W n op va vb) (Rv v) c c':=by
 cases op with
 | Add =>
  refine .ob fun ws hb=>.new rfl ⟨fun h=>h.2,fun q F s K M k xa xb ra rb=>?_⟩
  apply M.list hl ra; intro a as k1 r1
  apply M.list hb rb; intro b bs k2 r2
  exact b_list k1 k2 (by rw [r1.len,r2.len]; exact q.1) fun a ha=>Ky.new (c:=c) k M ha ⟨_,rfl,r1.app r2⟩
 | Mult =>
  refine .ob fun j hb=>.new rfl ⟨fun h=>h.2,fun q F s K M k xa xb ra rb=>?_⟩
  apply M.list hl ra; intro a as k1 r1
  cases uInt_eq hb
  cases rb
  exact b_rep k1 q.1.1 q.1.2.1 (by rw [r1.len]; exact q.1.2.2) fun a ha=>Ky.new (c:=c) k M ha ⟨_,rfl,r1.rep _⟩
 | _=>exact .none
theorem jBin_ok{op:Operator}{va vb:V}:Ok (jBin op va vb c) fun v c'=>OkJ (BinT W n op va vb) (Rv v) c c' :=
 .opt (fun i h=>.ob fun j h'=>by cases uInt_eq h; cases uInt_eq h'; exact jBinI_ok) (.opt (fun i h=>.ob fun j h'=>by cases vk_ok (vkS_eq h); cases vk_ok (vkS_eq h'); exact jBinS_ok) (.ob fun us h=>jBinL_ok h))
structure KOK(W:Wd KK):Prop where
 at_:∀ C x,AT C x=true→attrK W.K C x=true
 set_:∀ C x,AT C x=true→setK W.K C x=true
 mt:∀ C x f,MT C x=some f→methIn W.K C x=some f
theorem notRaw_eq{v w:V}(h:notRaw v=some w):w=v:=(Oc.gd (Θ:=fun w=>w=v) fun _=>.some rfl) w h
theorem notRaw_plain{w:V}{W:Vw}(h:notRaw v=some w)(r:RV W v x):plainV x=true:=by
 cases v with
 | u u =>
  cases u with
  | bi _=>cases h
  | int | str | bool | none | fn=>cases r; rfl
  | tup=>obtain ⟨a,_,e,_⟩:=r; rw [e]; rfl
  | lst=>obtain ⟨a,_,e,_⟩:=r; rw [e]; rfl
  | dct=>obtain ⟨a,_,e,_⟩:=r; rw [e]; rfl
  | ins=>obtain ⟨a,_,_,e,_⟩:=r; rw [e]; rfl
  | rng=>obtain ⟨a,e,_⟩:=r; rw [e]; rfl
 | s k=>obtain ⟨a,_,e⟩:=r; rw [e]; rfl
 | o k=>obtain ⟨a,_,e⟩:=r; rw [e]; rfl
 | t ts=>obtain ⟨a,_,e,_⟩:=r; rw [e]; rfl
section
variable {β γ:Type}{R:β→γ→Prop}{fs:List (Str × β)}{ys:List (Str × γ)}{y:Str}{z:β}
theorem L2.look(h:L2 (fun p q=>q.1=p.1∧R p.2 q.2) fs ys):fs.lookup y=some z→∃ w,ys.lookup y=some w∧R z w:=by
 induction h with
 | nil=>exact fun e=>nomatch e
 | @cons a b _ _ r _ ih =>
  rw [show (a :: _:List (Str × β))=(a.1,a.2) :: _ from rfl,show (b :: _:List (Str × γ))=(b.1,b.2) :: _ from rfl,List.lookup_cons,List.lookup_cons,r.1]
  cases y==a.1 with
  | true=>exact fun e=>⟨_,rfl,Option.some.inj e▸r.2⟩
  | false=>exact ih
theorem L2.no(h:L2 (fun p q=>q.1=p.1∧R p.2 q.2) fs ys):fs.lookup y=none→ys.lookup y=none:=by
 induction h with
 | nil=>exact fun _=>rfl
 | @cons a b _ _ r _ ih =>
  rw [show (a :: _:List (Str × β))=(a.1,a.2) :: _ from rfl,show (b :: _:List (Str × γ))=(b.1,b.2) :: _ from rfl,List.lookup_cons,List.lookup_cons,r.1]
  cases y==a.1 with
  | true=>exact fun e=>nomatch e
  | false=>exact ih
theorem L2.named{S:List β}:∀{ys:List (Str × γ)},L2 R S (ys.map (·.2))→L2 (fun p q=>q.1=p.1∧R p.2 q.2) ((ys.map (·.1)).zip S) ys:=by
 induction S with
 | nil =>
  intro ys h
  cases ys with
  | nil=>exact .nil
  | cons _ _=>exact nomatch h.len
 | cons u S ih =>
  intro ys h
  cases ys with
  | nil=>exact nomatch h.len
  | cons _ _=>exact .cons ⟨rfl,h.hd⟩ (ih h.tl)
end
theorem at_of{β:Type}{C:Addr}{x:Str}{fs:List (Str × β)}{v:β}(e:fs.lookup x=some v)(h:(fs.all fun p=>AT C p.1)=true):AT C x=true:=List.all_eq_true.mp h (x,v) (lookup_mem e)
theorem insA_ok{u:U}{x:Str}{y:Value}{w:Vw}(k:KOK W)(hw:w.P=s.σ.P)(r:RU s.σ.P u y):Oc (insA u x) fun v=>∀ K:Value→St→Prop,(∀ z,RV w v z→K z s.σ)→Attr W n y x K s.σ:=by
 cases u with
 | ins C xs us =>
  refine .ob fun p hp=>.ob fun u hu v e3 K kk=>?_
  cases hp
  refine RU.ins (K:=fun y=>Attr W n y x K s.σ) r fun a d fs h1 h2 h3 h4 h5=>?_
  subst h3
  obtain ⟨z,g1,g2⟩:=h5.named.look hu
  rw [notRaw_eq e3] at kk
  exact a_inst (.P h1) (.P h2) g1 (k.at_ _ _ (at_of g1 (by rw [List.all_map] at h4; exact h4))) (notRaw_plain (W:=w) (v:=.u u) e3 (show RU w.P u z from hw▸g2)) (kk _ (show RU w.P u z from hw▸g2))
 | _=>exact .none
theorem jAttr_ok{x:Str}{y:Value}(k:KOK W)(M:Sat c F s)(r:RV s.w v y):Oc (jAttr v x c) fun v=>∀ K:Value→St→Prop,(∀ z,RV s.w v z→K z s.σ)→Attr W n y x K s.σ:=by
 have lc:Oc ((c.cell v).bind (cellA x)) fun v=>∀ K:Value→St→Prop,(∀ z,RV s.w v z→K z s.σ)→Attr W n y x K s.σ:=.ob fun cl e1=>by
  refine M.sim.acc (K:=fun y=>Oc (cellA x cl) fun v=>∀ K:Value→St→Prop,(∀ z,RV s.w v z→K z s.σ)→Attr W n y x K s.σ) ((cell_eq c v).trans e1) r fun a hk rc hH _=>?_
  cases cl with
  | attrs C fs =>
   obtain ⟨d,ys,q1,q2,q3,q4⟩:=rc
   refine .ob fun v' f1 w f2 K kk=>?_
   obtain ⟨z,g1,g2⟩:=L2.look (R:=RV (s.wv v)) q4 f1
   rw [notRaw_eq f2] at kk
   exact a_inst (.P (wvP s v▸q1)) (.H (hH (d,.attrs ys) (by rw [q2]; exact .head _))) g1 (k.at_ _ _ (at_of f1 q3)) (notRaw_plain f2 g2) (kk _ (g2.mono (wvle s v)))
  | fz u=>exact insA_ok k rfl (wvP s v▸rc.2)
  | _=>exact .none
 cases v with
 | u u=>exact insA_ok k rfl r
 | _=>exact lc
noncomputable def Rb(t:Bool)(s:Sx)(x:Value):Prop:=x=.bool t
noncomputable def CmpT(W:Wd KK)(n:Nat)(op:CmpOp)(va vb:V)(F:Fr)(s:Sx)(K:Value→St→Prop):Prop:=∀ xa xb,RV s.w va xa→RV s.w vb xb→Cmp W n op xa xb K s.σ
noncomputable def ItemT(W:Wd KK)(n:Nat)(vo vi:V)(F:Fr)(s:Sx)(K:Value→St→Prop):Prop:=∀ xo xi,RV s.w vo xo→RV s.w vi xi→Item W n xo xi K s.σ
theorem orI_ok{vo:V}{k:Int}{o:Orc}(hl:c.list vo=some us)(h0:AllP c'.cs→AllP c.cs)(hc:c'=⟨c.l,c.S,c.O,c.rl,c'.or,c'.cs⟩):Ok (orI k us o c') fun v c₂=>OkJ (ItemT W n vo (.u (.int k))) (Rv v) c c₂:=by
 rw [hc]
 cases o with
 | a u =>
  refine .some ⟨fun h=>h0 h.2,fun q F s K M kk xo xi ro ri=>?_⟩
  apply M.list hl ro; intro a ws p r
  cases ri
  obtain ⟨w,g1,g2⟩:=r.get q.1.2.2
  exact i_list p q.1.1 q.1.2.1 g1 (kk.go M.as rfl g2)
 | c =>
  refine .gd fun hd=>.ob fun u hu=>.some ⟨h0,fun q F s K M kk xo xi ro ri=>?_⟩
  have hd:=of_decide_eq_true hd
  apply M.list hl ro; intro a ws p r
  cases ri
  obtain ⟨w,g1,g2⟩:=r.get hu
  exact i_list p hd.1 (Int.lt_trans hd.2 (by decide)) g1 (kk.go M.as rfl g2)
 | us l =>
  rcases l with _ | ⟨u,_ | ⟨u2,l⟩⟩
  ·exact .none
  ·refine .some ⟨fun h=>h0 h.2,fun q F s K M kk xo xi ro ri=>?_⟩
   apply M.list hl ro; intro a ws p r
   cases ri
   have hg:=q.1.2.2
   rw [List.getLast?_eq_getElem?,← r.len] at hg
   obtain ⟨w,g1,g2⟩:=r.get hg
   exact i_list_last q.1.1 p (by rw [r.len]; exact_mod_cast q.1.2.1) (by rw [List.getLast?_eq_getElem?]; exact g1) (kk.go M.as rfl g2)
  ·exact .none
 | _=>exact .none
theorem jItem_ok{vo vi:V}:Ok (jItem vo vi c) fun v c'=>OkJ (ItemT W n vo vi) (Rv v) c c':=by
 refine .ob fun k hk=>?_
 cases uInt_eq hk
 refine .opt (fun us h=>?_) (.ob fun us hl=>.orc fun o r=>orI_ok hl id rfl)
 cases uTup_eq h
 refine .gd fun hd=>.ob fun u hu=>.some ⟨id,fun q F s K M kk xo xi ro ri=>?_⟩
 have hd:=of_decide_eq_true hd
 cases ri
 apply RU.tup ro; intro a ws p r
 obtain ⟨w,g1,g2⟩:=r.get hu
 exact i_tuple (.P p) hd.1 (Int.lt_trans hd.2 (by decide)) g1 (kk.go M.as rfl g2)
theorem isNone_ok{w:Vw}{K:Bool→Value→Prop}(h1:K true .none)(h2:∀ i,K false (.int i 0))(h3:∀ a,K false (.ref a)){b:Bool}(e:isNone v=some b)(r:RV w v x):K b x:=by
 cases v with
 | u u =>
  cases u with
  | none=>cases e; cases r; exact h1
  | int i=>cases e; cases r; exact h2 i
  | tup us=>cases e; obtain ⟨a,_,q,_⟩:=r; rw [q]; exact h3 a
  | lst us=>cases e; obtain ⟨a,_,q,_⟩:=r; rw [q]; exact h3 a
  | ins C xs us=>cases e; obtain ⟨a,_,_,q,_⟩:=r; rw [q]; exact h3 a
  | _=>cases e
 | s k=>cases e; obtain ⟨a,_,q⟩:=r; rw [q]; exact h3 a
 | o k=>cases e; obtain ⟨a,_,q⟩:=r; rw [q]; exact h3 a
 | t ts=>cases e
theorem jIs_ok{neg:Bool}{va vb:V}:Ok (jIs neg va vb c) fun t c'=>OkJ (CmpT W n (if neg=true then .IsNot else .Is) va vb) (Rb t) c c':=by
 refine .gd fun hn=>.ob fun b hb=>.some ⟨id,fun q F s K M k xa xb ra rb=>?_⟩
 have e:xb=.none:=by
  cases vb with
  | u u=>cases u <;> first | exact rb | cases hn
  | _=>cases hn
 rw [e]
 cases neg with
 | true=>exact isNone_ok (K:=fun b x=>Ky (Rb (sel true (!b) b)) c c.rl F s K→Cmp W n .IsNot x .none K s.σ) (fun k=>q_notnone (k.go M rfl rfl)) (fun i k=>q_notnone_int (k.go M rfl rfl)) (fun a k=>q_notnone_ref (k.go M rfl rfl)) hb ra k
 | false=>exact isNone_ok (K:=fun b x=>Ky (Rb (sel false (!b) b)) c c.rl F s K→Cmp W n .Is x .none K s.σ) (fun k=>q_isnone (k.go M rfl rfl)) (fun i k=>q_isnone_int (k.go M rfl rfl)) (fun a k=>q_isnone_ref (k.go M rfl rfl)) hb ra k
theorem orN_ok{neg:Bool}{i:Int}{vb:V}{o:Orc}(hl:c.list vb=some us)(h0:AllP c'.cs→AllP c.cs)(hc:c'=⟨c.l,c.S,c.O,c.rl,c'.or,c'.cs⟩):Ok (orN neg i us o c') fun t c₂=>OkJ (CmpT W n (if neg=true then .NotIn else .In) (.u (.int i)) vb) (Rb t) c c₂:=by
 rw [hc]
 cases o with
 | is ns =>
  refine .some ⟨fun h=>h0 h.2,fun q F s K M k xa xb ra rb=>?_⟩
  cases ra
  apply M.list hl rb; intro a ws p r
  rw [q.1] at r
  rw [r.ints] at p
  cases neg with
  | true=>exact q_notin p (k.go M.as rfl rfl)
  | false=>exact q_in p (k.go M.as rfl rfl)
 | _=>exact .none
theorem jIn_ok{neg:Bool}{va vb:V}:Ok (jIn neg va vb c) fun t c'=>OkJ (CmpT W n (if neg=true then .NotIn else .In) va vb) (Rb t) c c':=by
 refine .ob fun i hi=>.ob fun us hl=>?_
 cases uInt_eq hi
 exact .orc fun o r=>orN_ok hl id rfl
theorem jCmpI_ok{op:CmpOp}{va vb:V}(hc:∀ i j,cmpI op i j=cmpOf i j op):Ok (jCmpI op va vb c) fun t c'=>OkJ (CmpT W n op va vb) (Rb t) c c':=by
 refine .ob fun i hi=>.ob fun j hj=>.ob fun t ht=>.some ⟨id,fun q F s K M k xa xb ra rb=>?_⟩
 cases uInt_eq hi; cases uInt_eq hj
 cases ra; cases rb
 exact cmp_int ((hc i j).trans ht) (k.go M rfl rfl)
theorem rngT(k:Nat):(List.range k).all (fun _=>true)=true:=List.all_eq_true.mpr fun _ _=>rfl
section
variable {d:Nat}{A:Around}{sh:Shared}{σ:St}{P:AH}
theorem eqL(E:∀{u:U}{va vb:Value},pl d u=true→RU P u (er va)→RU P u (er vb)→PySem.SeqAt.EqAt A sh va vb true){ws ws':List Value}{items items':Array Value}(hp:us.all (pl d)=true)(r:RL P us ws)(r':RL P us ws')(e:items.toList.map er=ws)(e':items'.toList.map er=ws'):
  items.size=items'.size∧∀ j (h1:j < items.size) (h2:j < items'.size),PySem.SeqAt.EqAt A sh items[j] items'[j] true:=by
 subst e e'
 have l1:=r.len
 have l2:=r'.len
 rw [List.length_map,Array.length_toList] at l1 l2
 refine ⟨l1.trans l2.symm,fun j h1 h2=>?_⟩
 have hj:j < us.length:=l1▸h1
 have g:∀{ws:List Value}{items:Array Value}(h1:j < items.size),ws=items.toList.map er→RL P us ws→RU P us[j] (er items[j]):=fun {ws items} h1 e r=>by
  obtain ⟨w,g1,g2⟩:=r.get (List.getElem?_eq_getElem hj)
  rw [e,List.getElem?_map,Array.getElem?_toList,Array.getElem?_eq_getElem h1] at g1
  exact Option.some.inj g1▸g2
 exact E (List.all_eq_true.mp hp _ (List.getElem_mem hj)) (g h1 rfl r) (g h2 rfl r')
theorem EqAt.eq{i j:Value}(h:i=j):PySem.SeqAt.EqAt A sh i j true:=h▸PySem.SeqAt.EqAt.same _
theorem eqU:∀(d:Nat){A:Around}{u:U}{va vb:Value},A.units+d≤9000→Rel W σ sh→pl d u=true→RU σ.P u (er va)→RU σ.P u (er vb)→PySem.SeqAt.EqAt A sh va vb true:=fun d=>by
 induction d with
 | zero=>exact fun _ _ h=>nomatch h
 | succ d ih =>
  intro A u va vb hu R h ra rb
  have hc:A.units < cLine:=by rw [cLine_is]; exact lin [] [_,_] [633332716942696948] 648814613 423746 rfl hu
  have ihq:=fun {u va vb}=>@ih A.in1 u va vb (by show A.units+1+d≤9000; exact lin [] [_,_] [633332716942696948] 633332201060573684 149058 rfl hu) R
  cases u with
  | int i =>
   obtain ⟨t,rfl⟩:=er_int (show er va=_ from ra)
   obtain ⟨t',rfl⟩:=er_int (show er vb=_ from rb)
   have:=PySem.SeqAt.EqAt.int_int (A:=A) (s:=sh) i t i t'
   rwa [beq_self_eq_true] at this
  | str i =>
   obtain ⟨t,rfl⟩:=er_str (show er va=_ from ra)
   obtain ⟨t',rfl⟩:=er_str (show er vb=_ from rb)
   have:=PySem.SeqAt.EqAt.str_str (A:=A) (s:=sh) i t i t'
   rwa [beq_self_eq_true] at this
  | bool b=>exact EqAt.eq ((er_bool (show er va=_ from ra)).trans (er_bool (show er vb=_ from rb)).symm)
  | none=>exact EqAt.eq ((er_none (show er va=_ from ra)).trans (er_none (show er vb=_ from rb)).symm)
  | tup us =>
   obtain ⟨a,ws,ea,pa,ua⟩:=ra
   obtain ⟨b,ws',eb,pb,ub⟩:=rb
   rw [er_ref ea,er_ref eb]
   obtain ⟨n1,items,h1,z1⟩:=R.ats _ _ ((Kn.P pa).up R)
   obtain ⟨n2,items',h2,z2⟩:=R.ats _ _ ((Kn.P pb).up R)
   have e:=eqL ihq h ua.l2 ub.l2 z1 z2
   by_cases q:a=b
   ·exact EqAt.eq (congrArg _ q)
   ·have:=PySem.SeqAt.RcAt.tuples (e:=fun _=>true) ⟨_,h1,rfl,n1,rfl⟩ ⟨_,h2,rfl,n2,rfl⟩ hc e.2
    rw [e.1,Nat.min_self,rngT,beq_self_eq_true] at this
    exact PySem.SeqAt.EqAt.of_refs q this
  | lst us =>
   obtain ⟨a,ws,ea,pa,ua⟩:=ra
   obtain ⟨b,ws',eb,pb,ub⟩:=rb
   rw [er_ref ea,er_ref eb]
   obtain ⟨n1,items,h1,z1⟩:=R.ats _ _ ((Kn.P pa).up R)
   obtain ⟨n2,items',h2,z2⟩:=R.ats _ _ ((Kn.P pb).up R)
   have e:=eqL ihq h ua.l2 ub.l2 z1 z2
   by_cases q:a=b
   ·exact EqAt.eq (congrArg _ q)
   ·have:=PySem.SeqAt.RcAt.lists (e:=fun _=>true) ⟨_,h1,rfl,n1,rfl⟩ ⟨_,h2,rfl,n2,rfl⟩ e.1 hc e.2
    rw [rngT] at this
    exact PySem.SeqAt.EqAt.of_refs q this
  | _=>cases h
variable {Q:Value→St→Prop}{us':List U}{vs ws:List Value}{l l':Addr}
theorem cmpL{neg:Bool}(k1:Kn σ l (.list vs))(k2:Kn σ l' (.list ws))(r1:RL σ.P us vs)(r2:RL σ.P us ws)(hp:us.all (pl 4)=true)(h:Q (.bool (!neg)) σ):Cmp W n (if neg=true then .NotEq else .Eq) (.ref l) (.ref l') Q σ:=fun va vb ea eb A s r R=>by
 obtain rfl:=er_ref ea; obtain rfl:=er_ref eb
 obtain ⟨n1,items,h1,z1⟩:=R.ats _ _ (k1.up R)
 obtain ⟨n2,items',h2,z2⟩:=R.ats _ _ (k2.up R)
 have hu:=r.units
 have e:=eqL (A:=A.in1) (fun {u va vb}=>eqU (W:=W) 4 (by show A.units+1+4≤9000; exact lin [] [_,_] [2251854652700140052] 2533328426031915540 18966730254034856587014 rfl hu) R) hp r1 r2 z1 z2
 cases neg with
 | true=>exact PySem.SeqAt.RcNeAt.lists (e:=fun _=>true) ⟨_,h1,rfl,n1,rfl⟩ ⟨_,h2,rfl,n2,rfl⟩ e.1 r.lt e.2 W.prog W.w _ _ ⟨σ,R,.refl _ _,by rw [rngT]; exact h⟩
 | false=>exact PySem.SeqAt.RcAt.lists (e:=fun _=>true) ⟨_,h1,rfl,n1,rfl⟩ ⟨_,h2,rfl,n2,rfl⟩ e.1 r.lt e.2 W.prog W.w _ _ ⟨σ,R,.refl _ _,by rw [rngT]; exact h⟩
theorem cmpN{neg:Bool}(k1:Kn σ l (.list vs))(k2:Kn σ l' (.list ws))(r1:RL σ.P us vs)(r2:RL σ.P us' ws)(hn:us.length≠us'.length)(h:Q (.bool neg) σ):Cmp W n (if neg=true then .NotEq else .Eq) (.ref l) (.ref l') Q σ:=fun va vb ea eb A s r R=>by
 obtain rfl:=er_ref ea; obtain rfl:=er_ref eb
 obtain ⟨n1,items,h1,z1⟩:=R.ats _ _ (k1.up R)
 obtain ⟨n2,items',h2,z2⟩:=R.ats _ _ (k2.up R)
 have l1:=r1.len
 have l2:=r2.len
 rw [← z1,List.length_map,Array.length_toList] at l1
 rw [← z2,List.length_map,Array.length_toList] at l2
 have hs:(items.size != items'.size)=true:=bne_iff_ne.mpr fun z=>hn (l1.symm.trans (z.trans l2))
 cases neg with
 | true=>exact PySem.SeqAt.RcNeAt.lists_lengths ⟨_,h1,rfl,n1,rfl⟩ ⟨_,h2,rfl,n2,rfl⟩ hs r.lt W.prog W.w _ _ ⟨σ,R,.refl _ _,h⟩
 | false=>exact PySem.SeqAt.RcAt.lists_lengths ⟨_,h1,rfl,n1,rfl⟩ ⟨_,h2,rfl,n2,rfl⟩ hs r.lt W.prog W.w _ _ ⟨σ,R,.refl _ _,h⟩
theorem cmpT(k1:Kn σ l (.tuple vs))(k2:Kn σ l' (.tuple ws))(r1:RL σ.P us vs)(r2:RL σ.P us ws)(hp:us.all (pl 4)=true)(h:Q (.bool true) σ):Cmp W n .Eq (.ref l) (.ref l') Q σ:=fun va vb ea eb A s r R=>by
 obtain rfl:=er_ref ea; obtain rfl:=er_ref eb
 obtain ⟨n1,items,h1,z1⟩:=R.ats _ _ (k1.up R)
 obtain ⟨n2,items',h2,z2⟩:=R.ats _ _ (k2.up R)
 have hu:=r.units
 have e:=eqL (A:=A.in1) (fun {u va vb}=>eqU (W:=W) 4 (by show A.units+1+4≤9000; exact lin [] [_,_] [2251854652700140052] 2533328426031915540 18966730254034856587014 rfl hu) R) hp r1 r2 z1 z2
 exact PySem.SeqAt.RcAt.tuples (e:=fun _=>true) ⟨_,h1,rfl,n1,rfl⟩ ⟨_,h2,rfl,n2,rfl⟩ r.lt e.2 W.prog W.w _ _ ⟨σ,R,.refl _ _,by rw [e.1,Nat.min_self,rngT,beq_self_eq_true]; exact h⟩
end
theorem orE_ok{neg:Bool}{va vb:V}{o:Orc}(h0:AllP c'.cs→AllP c.cs)(hc:c'=⟨c.l,c.S,c.O,c.rl,c'.or,c'.cs⟩):Ok (orE neg va vb o c') fun t c₂=>OkJ (CmpT W n (if neg=true then .NotEq else .Eq) va vb) (Rb t) c c₂:=by
 rw [hc]
 cases o with
 | d b =>
  refine .opt (fun us h=>.gd fun hb=>.ob fun ws h'=>.some ⟨fun h=>h0 h.2,fun q F s K M k xa xb ra rb=>?_⟩) (.ob fun us hl=>.ob fun ws hw=>.sel (fun hb=>.some ⟨fun h=>h0 h.2,fun q F s K M k xa xb ra rb=>?_⟩) (.some ⟨fun h=>h0 h.2,fun q F s K M k xa xb ra rb=>?_⟩))
  ·cases uTup_eq h
   cases uTup_eq h'
   have hn:neg=false:=by cases neg <;> first | rfl | cases hb
   rw [hn]
   apply RU.tup ra; intro a vs p r
   apply RU.tup rb; intro b ws' p' r'
   exact cmpT (.P p) (.P p') r (q.1.1▸r') q.1.2 (k.go M.as rfl rfl)
  ·apply M.list hl ra; intro a vs p r
   apply M.list hw rb; intro b ws' p' r'
   exact cmpL p p' r (q.1.1▸r') q.1.2 (k.go M.as rfl rfl)
  ·apply M.list hl ra; intro a vs p r
   apply M.list hw rb; intro b ws' p' r'
   exact cmpN p p' r r' q.1 (k.go M.as rfl rfl)
 | _=>exact .none
theorem jCmp_ok{op:CmpOp}{va vb:V}:Ok (jCmp op va vb c) fun t c'=>OkJ (CmpT W n op va vb) (Rb t) c c':=by
 cases op with
 | Is=>exact jIs_ok (neg:=false)
 | IsNot=>exact jIs_ok (neg:=true)
 | In=>exact jIn_ok (neg:=false)
 | NotIn=>exact jIn_ok (neg:=true)
 | Eq=>exact .opt (fun _ _=>jCmpI_ok fun _ _=>rfl) (.orc fun o r=>orE_ok (neg:=false) id rfl)
 | NotEq=>exact .opt (fun _ _=>jCmpI_ok fun _ _=>rfl) (.orc fun o r=>orE_ok (neg:=true) id rfl)
 | _=>exact jCmpI_ok fun _ _=>rfl
end
end
section
section
variable {prog:Program}{w:World}{A:Around}{E:Value→Shared→Prop}{s:Shared}
theorem list_sort_raw{a:Addr}{vs:List Value}{n:Nat}{P:Fin→Shared→Prop}{p:Array Nat}(ho:s.heap.get? a=some (seqObj "list" vs.toArray n)) (h64:vs.length < 64) (hp:p.size=vs.length) (h1:vs.length < 2→p.toList.map (fun i=>vs.getD i Value.none)=vs)
  (ask:2≤vs.length→∀ h',(∀ b o,b≠a→s.heap.get? b=some o→h'.get? b=some o)→∀ R:Array Nat→Shared→Prop,R p { s with heap:=h' } →
   wpAny (model prog w) A (keyKind' vs.toArray) (fun κ s'=>(kas_sort vs.length).kasWp (kas_ask prog w A κ vs) R s') (fun _ _=>False) { s with heap:=h' })
  (h:P (.done (.ret .none)) { s with heap:=sortedHeap s.heap a vs (List.toArray (p.toList.map fun i=>vs.getD i Value.none)) }) :
  wpAny (model prog w) A (Builtin.«list.sort» ⟨[.ref a],[]⟩) P E s:=by
 rw [list_sort_plain]
 have ha:a < s.heap.objs.size:=Heap.lt_size ho
 refine wpAny_bind (listItems_at ho rfl ?_)
 refine wpAny_bind (listUpdate_at ho rfl ?_ (by rw [List.size_toArray,sizeLine_eq]; exact lin [] [_] [4202517] 1099511635988 149058 rfl h64) (Nat.zero_le _))
 obtain ⟨e1,ho1⟩:∃ e1,(s.heap.update a (Obj.mapSeq fun _=>#[])).get? a=some (seqObj "list" #[] e1):=⟨_,get?_update_seq ho (fun _=>#[])⟩
 refine wpAny_bind (seqEpoch_at ho1 rfl ?_)
 refine wpAny_bind (wpAny_newTuple ?_ (by show vs.length≤_; rw [sizeLine_eq]; exact lin [] [_] [4202517] 1099511635988 149058 rfl h64))
 refine wpAny_bind (wpAny_newList ?_ (Nat.zero_le _))
 refine wpAny_holding ?_
 have ho6:(((s.heap.update a (Obj.mapSeq fun _=>#[])).push (seqObj "tuple" vs.toArray 0)).push (seqObj "list" #[] 0)).get? a=some (seqObj "list" #[] e1):=by
  rw [Heap.get?_push_ne _ _ _ (by rw [size_push',Heap.size_update]; exact Nat.ne_of_lt (Nat.lt_succ_of_lt ha)),Heap.get?_push_ne _ _ _ (by rw [Heap.size_update]; exact Nat.ne_of_lt ha)]
  exact ho1
 show wpAny (model prog w) A _ P E { s with heap:=((s.heap.update a (Obj.mapSeq fun _=>#[])).push (seqObj "tuple" vs.toArray 0)).push (seqObj "list" #[] 0) }
 dsimp only
 have hsz:vs.toArray.size=vs.length:=by simp
 have hl:(p.toList.map fun i=>vs.getD i Value.none).length=vs.length:=by rw [List.length_map,Array.length_toList,hp]
 by_cases h2:vs.toArray.size < 2
 ·rw [if_pos h2,if_pos h2]
  refine wpAny_bind (wpAny_pure ?_)
  rw [StateT.run_pure]
  refine wpAny_bind (wpAny_pure ?_)
  dsimp only
  refine wpAny_bind (seqEpoch_at ho6 rfl ?_)
  refine wpAny_bind (listUpdate_at ho6 rfl ?_ (Nat.zero_le _) (by rw [Array.size_map]; show (pairsOf vs).size≤_; rw [pairsOf_size,sizeLine_eq]; exact lin [] [_] [4202517] 42784196478648340 149058 rfl h64))
  simp only [bne_self_eq_false,Bool.false_eq_true,if_false]
  refine wpAny_pure ?_
  rw [hsz] at h2
  rw [h1 h2] at h
  have e:(arrOf (SortSt.mk' general' (vs.toArray.zip vs.toArray) #[] 7 none)).map (·.2)=vs.toArray:=by
   show (vs.toArray.zip vs.toArray).map (·.2)=vs.toArray
   apply Array.ext (by simp)
   intro i h1 h2
   simp
  rw [e]; exact h
 ·rw [if_neg h2,if_neg h2]
  rw [hsz] at h2
  have ask:=ask (by exact lin [] [_] [139290] 69716 149058 rfl h2) (((s.heap.update a (Obj.mapSeq fun _=>#[])).push (seqObj "tuple" vs.toArray 0)).push (seqObj "list" #[] 0)) (fun b o hb e=>by
   have hlt:=Heap.lt_size e
   rw [Heap.get?_push_ne _ _ _ (by rw [size_push',Heap.size_update]; exact Nat.ne_of_lt (Nat.lt_succ_of_lt hlt)),Heap.get?_push_ne _ _ _ (by rw [Heap.size_update]; exact Nat.ne_of_lt hlt),Heap.get?_update_ne _ _ _ _ hb]
   exact e) (fun p' s'=>p'=p∧s'={ s with heap:=((s.heap.update a (Obj.mapSeq fun _=>#[])).push (seqObj "tuple" vs.toArray 0)).push (seqObj "list" #[] 0) }) ⟨rfl,rfl⟩
  refine wpAny_bind (wpAny_mono ask (fun κ s0 hk=>?_) fun _ _ x=>x.elim)
  refine wpAny_bind (wpAny_mono (kat_run (Q:=fun st' s'=>arrOf st'=p.map (kas_item (vs.toArray.zip vs.toArray))∧failedOf st'=none∧s'={ s with heap:=((s.heap.update a (Obj.mapSeq fun _=>#[])).push (seqObj "tuple" vs.toArray 0)).push (seqObj "list" #[] 0) })
   rfl (by exact lin [] [_] [139290] 69716 149058 rfl h2) h64 (fun p' st' s' a1 a2 a3 a4=>⟨by rw [← a4.1]; exact a2,a3,a4.2⟩) hk) ?_ fun _ _ e=>e)
  rintro ⟨⟨⟩,st'⟩ s' ⟨har,hf,rfl⟩
  dsimp only
  refine wpAny_bind (seqEpoch_at ho6 rfl ?_)
  have ho:=kat_snds rfl har
  rw [ho]
  refine wpAny_bind (listUpdate_at ho6 rfl ?_ (Nat.zero_le _) (by rw [List.size_toArray,hl,sizeLine_eq]; exact lin [] [_] [4202517] 42784196478648340 149058 rfl h64))
  rw [hf]
  simp only [bne_self_eq_false,Bool.false_eq_true,if_false]
  exact wpAny_pure h
theorem sorted_raw{l:Addr}{vs:List Value}{Q:Value→Shared→Prop}{p:Array Nat}(hl:s.heap.IsList l vs.toArray)(h64:vs.length < 64)(hp:p.size=vs.length)(h1:vs.length < 2→p.toList.map (fun i=>vs.getD i Value.none)=vs)
  (ask:2≤vs.length→∀ h',(∀ b o,s.heap.get? b=some o→h'.get? b=some o)→∀ R:Array Nat→Shared→Prop,R p { s with heap:=h' } →
   wpAny (model prog w) A.in1.in1 (keyKind' vs.toArray) (fun κ s'=>(kas_sort vs.length).kasWp (kas_ask prog w A.in1.in1 κ vs) R s') (fun _ _=>False) { s with heap:=h' })
  (h:∀ h' D,s.heap.get? D=none→(∀ b o,s.heap.get? b=some o→h'.get? b=some o)→(∃ e,h'.get? D=some (seqObj "list" (List.toArray (p.toList.map fun i=>vs.getD i Value.none)) e))→Q (.ref D) { s with heap:=h' }) :
  wpAny (model prog w) A (call (.builtin "sorted") [.ref l]) Q E s:=by
 refine Calls.call_function_entry kind_sorted plain_sorted entry_sorted (args_sorted1 _) ?_
 unfold Builtin.«sorted»
 refine wpAny_bind (m:=checkCount "sorted" 1 1 _) (wpAny_pure ?_)
 refine wpAny_bind (collect_list hl ?_ (by rw [sizeLine_eq]; exact lin [] [_] [4202517] 1099511635988 149058 rfl h64))
 refine wpAny_bind (wpAny_newList ?_ (by rw [sizeLine_eq]; exact lin [] [_] [4202517] 1099511635988 149058 rfl h64))
 have hsz:((s.heap.push (seqObj "list" #[] 0)).update s.heap.objs.size (Obj.mapSeq (·++vs.toArray))).objs.size=s.heap.objs.size+1:=by
  rw [Heap.size_update,size_push']
 have hoL:(((s.heap.push (seqObj "list" #[] 0)).update s.heap.objs.size (Obj.mapSeq (·++vs.toArray))).push (seqObj "list" vs.toArray 0)).get? (s.heap.objs.size+1)=some (seqObj "list" vs.toArray 0):=by
  rw [← hsz]; exact Heap.get?_push_size _ rfl
 have hn:s.heap.get? (s.heap.objs.size+1)=none:=Heap.get?_none_of_le (Nat.le_succ _)
 have keep:∀ b o,s.heap.get? b=some o→(((s.heap.push (seqObj "list" #[] 0)).update s.heap.objs.size (Obj.mapSeq (·++vs.toArray))).push (seqObj "list" vs.toArray 0)).get? b=some o:=fun b o q=>by
  have hlt:b < s.heap.objs.size:=Heap.lt_size q
  rw [Heap.get?_push_ne _ _ _ (by rw [hsz]; exact Nat.ne_of_lt (Nat.lt_succ_of_lt hlt)),Heap.get?_update_ne _ _ _ _ (Nat.ne_of_lt hlt),Heap.get?_push_ne _ _ _ (Nat.ne_of_lt hlt)]
  exact q
 show wpAny _ _ _ _ _ { s with heap:=((s.heap.push (seqObj "list" #[] 0)).update s.heap.objs.size (Obj.mapSeq (·++vs.toArray))).push (seqObj "list" vs.toArray 0) }
 rw [hsz]
 refine wpAny_bind (wpAny_holding (wpAny_call_entry slot_list_sort ⟨_,hoL,rfl⟩ entry_list_sort (list_sort_raw (p:=p) hoL h64 hp h1 (fun h2 h' hk R hR=>ask h2 h' (fun b o e=>hk b o (fun q=>by rw [q,hn] at e; cases e) (keep b o e)) R hR) ⟨_,rfl,?_⟩) (args_list_sort _)))
 refine wpAny_pure ⟨_,rfl,h _ _ hn (fun b o e=>?_) (sortedHeap_at hoL)⟩
 have hb:b≠s.heap.objs.size+1:=fun q=>by rw [q,hn] at e; cases e
 exact (sortedHeap_old hb (Nat.lt_of_lt_of_le (Heap.lt_size e) (by rw [size_push',hsz]; exact lin [] [_] [] 10514248777748 449 rfl ))).trans (keep b o e)
end
noncomputable def kasRun{α:Type}(n:Nat)(lt:Nat→Nat→Bool):KasT α→Option α
 | .ret a=>some a
 | .ask i j k=>if (Nat.blt i n&&Nat.blt j n)&&!(Nat.beq i j) then kasRun n lt (k (lt i j)) else none
theorem kas_of{α:Type}{n:Nat}{lt:Nat→Nat→Bool}{cmp:Nat→Nat→(Bool→Shared→Prop)→Shared→Prop}{Q:α→Shared→Prop}{s:Shared}(hc:∀ i j,i < n→j < n→i≠j→∀ C:Bool→Shared→Prop,C (lt i j) s→cmp i j C s){a:α}(hq:Q a s):
  ∀ T:KasT α,kasRun n lt T=some a→T.kasWp cmp Q s
 | .ret b,e=>by cases e; exact hq
 | .ask i j k,e=>by
  unfold kasRun at e
  split at e
  ·rename_i hb
   have hb:=Bool.and_eq_true_iff.mp hb
   have hn:=Bool.and_eq_true_iff.mp hb.1
   exact hc i j (Nat.blt_eq.mp hn.1) (Nat.blt_eq.mp hn.2) (fun q=>by have:=hb.2; rw [q,Nat.beq_refl] at this; cases this) _ (kas_of hc hq _ e)
  ·cases e
noncomputable def rkL(n k i:Nat):Nat:=if i=n-1 then k else if i < k then i else i+1
noncomputable def outL(n k:Nat):List Nat:=List.range k++(n-1) :: (List.range (n-1-k)).map (k+·)
theorem kas_all:∀ n,n < 12→∀ k,k < n→kasRun n (fun i j=>decide (rkL n k i < rkL n k j)) (kas_sort n)=some (outL n k).toArray:=by decide +kernel
variable {KK:Params→Frag}{W:Wd KK}{n:Nat}{σ:St}{P:AH}
noncomputable def fk:U→Option Int
 | .tup (.int i :: _)=>some i
 | _=>none
noncomputable def SortC(us ws:List U):Prop:=us=[]∧ws=[]∨∃ pre post x,∃ ks:List Int,us=pre++post++[x]∧ws=pre++x :: post∧us.length < 12∧ws.map fk=ks.map some∧ks.Pairwise (· < ·)
theorem fk_obj{u:U}{i:Int}{v:Value}{s:Shared}(R:Rel W σ s)(h:fk u=some i)(r:RU σ.P u (er v)):∃ a xs nn t,v=.ref a∧s.heap.get? a=some { cls:=.type "tuple",data:=.seq xs nn }∧xs[0]?=some (.int i t):=by
 cases u with
 | tup us =>
  rcases us with _ | ⟨u0,us⟩
  ·cases h
  ·cases u0 with
   | int i0 =>
    cases h
    obtain ⟨a,ws,e,p,w,r,e1,e2,r2⟩:=r
    rw [e1] at p
    obtain ⟨nn,items,h1,h2⟩:=R.ats _ _ ((Kn.P p).up R)
    obtain ⟨x,g1,g2⟩:=get_of_map (i:=0) h2 rfl
    rw [show w=.int i 0 from e2] at g2
    obtain ⟨t,g3⟩:=er_int g2
    exact ⟨a,items,nn,t,er_ref e,h1,g3▸g1⟩
   | _=>cases h
 | _=>cases h
theorem fk_all{s:Shared}(R:Rel W σ s){us:List U}:∀{vs:List Value}{ks:List Int},us.map fk=ks.map some→RL σ.P us (vs.map er)→∃ fs,KatTups s.heap vs fs∧fs.length=us.length∧∀ v∈fs,∃ i t,v=.int i t:=by
 induction us with
 | nil =>
  intro vs ks _ h
  cases vs with
  | nil=>exact ⟨[],trivial,rfl,fun v h=>nomatch h⟩
  | cons _ _=>exact nomatch h.len
 | cons u us ih =>
  intro vs ks h r
  cases vs with
  | nil=>exact nomatch r.len
  | cons v vs =>
   cases ks with
   | nil=>cases h
   | cons k ks =>
    rw [List.map_cons,List.map_cons,List.cons.injEq] at h
    obtain ⟨fs,a1,a2,a3⟩:=ih h.2 r.tl
    obtain ⟨a,xs,nn,t,e,o,x0⟩:=fk_obj R h.1 r.hd
    exact ⟨.int k t :: fs,⟨⟨a,_,xs,nn,e,o,rfl,rfl,x0⟩,a1⟩,congrArg Nat.succ a2,fun v hv=>(List.mem_cons.mp hv).elim (fun e=>⟨k,t,e⟩) (a3 v)⟩
theorem fk_lt{A:Around}{s:Shared}{E:Value→Shared→Prop}{C:Bool→Shared→Prop}{u u':U}{i j:Int}{v v':Value}(R:Rel W σ s)(h:fk u=some i)(h':fk u'=some j)(r:RU σ.P u (er v))(r':RU σ.P u' (er v'))(ne:i≠j)(hC:C (decide (i < j)) s):
  wpAny (model W.prog W.w) A (keyLt' (tuples' true) v v') C E s:=by
 obtain ⟨a,xs,nn,t,rfl,o,x0⟩:=fk_obj R h r
 obtain ⟨b,ys,mm,t',rfl,o',y0⟩:=fk_obj R h' r'
 refine kat_lt o rfl o' rfl ?_
 rw [← Array.getElem?_toList] at x0 y0
 cases hx:xs.toList with
 | nil=>rw [hx] at x0; cases x0
 | cons p xr =>
  cases hy:ys.toList with
  | nil=>rw [hy] at y0; cases y0
  | cons q yr =>
   rw [hx] at x0; rw [hy] at y0
   cases x0; cases y0
   refine kat_cons (PySem.SeqAt.EqAt.int_int i t j t' W.prog W.w _ _ ?_)
   rw [show (i==j)=false from beq_eq_false_iff_ne.mpr ne]
   exact kat_no (oneLt_int hC)
theorem L2.mapget{us:List U}{vs:List Value}(h:RL P us (vs.map er)){i:Nat}{u:U}(e:us[i]?=some u):RU P u (er (vs.getD i .none)):=by
 obtain ⟨w,g1,g2⟩:=h.get e
 rw [List.getElem?_map] at g1
 obtain ⟨v,g3,g4⟩:=Option.map_eq_some_iff.mp g1
 rw [List.getD_eq_getElem?_getD,g3]; exact g4▸g2
theorem outL_get{α:Type}{d:α}{pre post:List α}{x:α}:(outL (pre++post++[x]).length pre.length).map (fun i=>(pre++post++[x]).getD i d)=pre++x :: post:=by
 have hn:(pre++post++[x]).length-1=pre.length+post.length:=by simp
 unfold outL
 rw [hn,Nat.add_sub_cancel_left,List.map_append,List.map_cons,List.map_map]
 congr 1
 ·apply List.ext_getElem (by simp)
  intro i h1 h2
  simp at h1
  simp [List.getElem?_append_left,h1,List.getElem?_append]
 ·congr 1
  ·simp
  ·apply List.ext_getElem (by simp)
   intro i h1 h2
   simp at h1
   simp [List.getElem?_append,h1]
   rw [if_neg (by exact fun z0=>lin [] [_,_] [134258949] 0 214594 rfl z0)]; rfl
theorem L2.pick{us:List U}{vs:List Value}{d:U}(h:RL P us (vs.map er))(ix:List Nat):(∀ i∈ix,i < us.length)→RL P (ix.map fun i=>us.getD i d) ((ix.map fun i=>vs.getD i Value.none).map er):=by
 induction ix with
 | nil=>exact fun _=>.nil
 | cons i ix ih =>
  intro hi
  have h0:=hi i (.head _)
  refine .cons ?_ (ih fun j hj=>hi j (.tail _ hj))
  show RU P (us.getD i d) _
  rw [List.getD_eq_getElem?_getD,List.getElem?_eq_getElem h0]
  exact h.mapget (List.getElem?_eq_getElem h0)
theorem tr_sorted{l:Addr}{vs:List Value}{us ws:List U}{Q:Value→St→Prop}(hl:Kn σ l (.list vs))(ru:RL σ.P us vs)(hc:SortC us ws)(h:∀ vs',RL σ.P ws vs'→New σ (.list vs') fun a=>Q (.ref a)):Tr W n (call (.builtin "sorted") [.ref l]) (fun v σ'=>Q (er v) σ') σ:=fun A s r R=>by
 obtain ⟨nn,items,h1,rfl⟩:=R.ats _ _ (hl.up R)
 have hI:s.heap.IsList l items.toList.toArray:=by rw [Array.toArray_toList]; exact ⟨_,h1,rfl,nn,rfl⟩
 have hlen:items.toList.length=us.length:=by have:=ru.len; rwa [List.length_map] at this
 have fin:∀{out:List Value},RL σ.P ws (out.map er)→∀ h' D,s.heap.get? D=none→(∀ b o,s.heap.get? b=some o→h'.get? b=some o)→(∃ e,h'.get? D=some (seqObj "list" (List.toArray out) e))→PE W (fun v σ'=>Q (er v) σ') σ s (.ref D) { s with heap:=h' }:=fun {out} ro h' D hD hk ⟨e,he⟩=>by
  obtain ⟨hu,R',S'⟩:=R.putNew (s':={ s with heap:=h' }) (o:=.list (out.map er)) hD hk (show ∃ n items',_∧_ from ⟨e,_,he,by rw [List.toList_toArray]⟩) rfl rfl
  exact ⟨_,R',S',h _ ro _ hu⟩
 rcases hc with ⟨rfl,rfl⟩ | ⟨pre,post,x,ks,rfl,rfl,h12,hk,hp⟩
 ·have e0:items.toList=[]:=List.length_eq_zero_iff.mp hlen
  have e1:(#[]:Array Nat).size=items.toList.length:=by rw [e0]; rfl
  refine sorted_raw (p:=#[]) hI (by rw [e0]; decide) e1 (fun _=>by rw [e0]; exact rfl) (fun h2=>by rw [e0] at h2; exact absurd h2 (by decide)) fun h' D hD hk he=>fin (out:=[]) .nil h' D hD hk he
 ·have hpos:pre.length < (pre++post++[x]).length:=by simp only [List.length_append,List.length_singleton]; exact lin [] [_,_] [] 10445529301013 214594 rfl
  have hrun:=kas_all _ h12 _ hpos
  generalize hv:items.toList=v0 at *
  have hfk:∀{i u},(pre++post++[x])[i]?=some u→∃ k:Int,fk u=some k∧ks[rkL (pre++post++[x]).length pre.length i]?=some k:=fun {i u} e=>by
   have hin:=(List.getElem?_eq_some_iff.mp e).1
   have e2:(pre++x :: post)[rkL (pre++post++[x]).length pre.length i]?=some u:=by
    rw [← e]
    unfold rkL
    simp only [List.length_append,List.length_singleton] at hin ⊢
    by_cases q1:i=pre.length+post.length
    ·subst q1
     rw [if_pos (by omega)]
     rw [List.getElem?_append_right (Nat.le_refl _),List.getElem?_append_right (by simp)]
     simp
    ·rw [if_neg (by omega)]
     by_cases q2:i < pre.length
     ·rw [if_pos q2,List.getElem?_append_left q2,List.getElem?_append_left (by simp; exact lin [] [_,_,_] [65557] 4429463573 21403203 rfl q2),List.getElem?_append_left q2]
     ·rw [if_neg q2,List.getElem?_append_right (by exact lin [] [_,_] [65562] 2416607300 149058 rfl q2),List.getElem?_append_left (by simp; exact (Nat.lt_or_gt_of_ne q1).elim (fun z0=>lin [] [_,_,_] [4429463573] 4429463573 149058 rfl z0) (fun z0=>lin [] [_,_,_] [167401217081365,2214732101] 4429463573 149058 rfl hin z0)),List.getElem?_append_right (by exact lin [] [_,_] [65562] 32836 149058 rfl q2)]
      rw [show i+1-pre.length=(i-pre.length)+1 by omega,List.getElem?_cons_succ]
   have e3:=congrArg (fun l=>l[rkL (pre++post++[x]).length pre.length i]?) hk
   simp only [List.getElem?_map,e2,Option.map_some] at e3
   obtain ⟨k,g1,g2⟩:=Option.map_eq_some_iff.mp e3.symm
   exact ⟨k,g2.symm,g1⟩
  have hks:∀{a b:Nat}{i j:Int},ks[a]?=some i→ks[b]?=some j→a < b→i < j:=fun {a b i j} e1 e2 hab=>by
   obtain ⟨q1,rfl⟩:=List.getElem?_eq_some_iff.mp e1
   obtain ⟨q2,rfl⟩:=List.getElem?_eq_some_iff.mp e2
   exact List.pairwise_iff_getElem.mp hp _ _ q1 q2 hab
  have rkne:∀{i j:Nat},i < (pre++post++[x]).length→j < (pre++post++[x]).length→i≠j→rkL (pre++post++[x]).length pre.length i≠rkL (pre++post++[x]).length pre.length j:=fun {i j} h1 h2 h3=>by
   unfold rkL; split <;> split <;> (try split) <;> (try split) <;> omega
  have out:RL σ.P (pre++x :: post) (((outL (pre++post++[x]).length pre.length).map fun i=>v0.getD i Value.none).map er):=by
   have:=ru.pick (d:=.none) (outL (pre++post++[x]).length pre.length) fun i hi=>by
    unfold outL at hi
    simp at hi
    simp
    omega
   rwa [outL_get] at this
  refine sorted_raw (p:=(outL (pre++post++[x]).length pre.length).toArray) hI (by exact lin [] [_,_] [794645,32838] 33652805 285677123 rfl h12 hlen) (by rw [hlen,List.size_toArray]; simp [outL]) (fun h2=>?_) (fun h2 h' hkp R0 hR0=>?_) fun h' D hD hk he=>fin out h' D hD hk he
  ·rw [hlen] at h2
   simp at h2
   obtain ⟨rfl,rfl⟩:pre=[]∧post=[]:=⟨List.length_eq_zero_iff.mp (by exact Nat.le_antisymm (lin [] [_,_] [154756832076277] 8212 423746 rfl h2) (lin [] [_] [] 4132 83522 rfl )),List.length_eq_zero_iff.mp (by exact Nat.le_antisymm (lin [] [_,_] [154756832076277] 98372 354114 rfl h2) (lin [] [_] [] 4132 83522 rfl ))⟩
   obtain ⟨v,rfl⟩:=List.length_eq_one_iff.mp hlen
   rfl
  ·have R':Rel W σ { s with heap:=h' }:=R.of_keeps hkp rfl rfl
   obtain ⟨fs,t1,t2,t3⟩:=fk_all (ks:=(pre++post++[x]).map fun u=>(fk u).getD 0) R' (us:=pre++post++[x]) (vs:=v0) (by
    rw [List.map_map]
    refine List.map_congr_left fun u hu=>?_
    obtain ⟨i,_,e⟩:=List.mem_iff_getElem.mp hu
    obtain ⟨k,g1,_⟩:=hfk (List.getElem?_eq_some_iff.mpr ⟨_,e⟩)
    show fk u=some ((fk u).getD 0)
    rw [g1]; rfl) ru
   refine kat_kind t1 (by rw [t2]; exact lin [] [_,_] [65557] 135205 2381634 rfl hpos) (T:=.type "int") (fun v hv=>by obtain ⟨i,t,rfl⟩:=t3 v hv; exact Looks.of_pure rfl) rfl ?_
   rw [hlen]
   refine kas_of (fun i j hi hj hne C hC=>?_) hR0 _ hrun
   obtain ⟨i1,f1,g1⟩:=hfk (List.getElem?_eq_getElem hi)
   obtain ⟨j1,f2,g2⟩:=hfk (List.getElem?_eq_getElem hj)
   have r1:=ru.mapget (List.getElem?_eq_getElem hi)
   have r2:=ru.mapget (List.getElem?_eq_getElem hj)
   have hr:=rkne hi hj hne
   have hd:decide (i1 < j1)=decide (rkL (pre++post++[x]).length pre.length i < rkL (pre++post++[x]).length pre.length j):=by
    rcases Nat.lt_or_gt_of_ne hr with q | q
    ·rw [decide_eq_true q,decide_eq_true (hks g1 g2 q)]
    ·have:=hks g2 g1 q
     rw [decide_eq_false (by exact fun z0=>lin [_,_] [] [65554,32834] 0 149058 rfl this z0),decide_eq_false (by exact fun z0=>lin [] [_,_] [65557,32837] 0 149058 rfl q z0)]
   refine fk_lt R' f1 f2 r1 r2 (fun q=>?_) (by rw [hd]; exact hC)
   rcases Nat.lt_or_gt_of_ne hr with q' | q'
   ·have:=hks g1 g2 q'; exact lin [_,_] [] [65555,65554] 0 8721475 rfl q this
   ·have:=hks g2 g1 q'; exact lin [_,_] [] [65555,32834] 0 8655939 rfl q this
theorem tr_max{l:Addr}{ns:List Int}{k:Int}{Q:Value→St→Prop}(hl:Kn σ l (.list (ns.map fun i=>.int i 0)))(hk:k∈ns)(hm:∀ x∈ns,x≤k)(h:Q (.int k 0) σ):Tr W n (call (.builtin "max") [.ref l]) (fun v σ'=>Q (er v) σ') σ:=fun A s r R=>by
 obtain ⟨nn,items,h1,h2⟩:=R.ats _ _ (hl.up R)
 obtain ⟨ts,e1,e2⟩:=ints_items h2
 have e3:items=intItems ts.toArray:=by
  apply Array.toList_inj.mp
  rw [e1]; simp [intItems]
 have hI:s.heap.IsList l (intItems ts.toArray):=e3▸⟨_,h1,rfl,nn,rfl⟩
 have hsz:0 < ts.toArray.size:=by
  rw [List.size_toArray,← List.length_map (f:=(·.1)),e2]; exact List.length_pos_of_mem hk
 refine max_intList r.handled hI hsz fun v h' tk hv hkp=>?_
 obtain ⟨t,rfl⟩:=intItems_at hv
 obtain ⟨g1,g2⟩:=argBest_gt (numAt ts.toArray) (ts.toArray.size-1)
 have e4:ts.toArray.toList.map (·.1)=ns:=e2
 have hmem:∀ j,j < ts.toArray.size→numAt ts.toArray j∈ns:=fun j hj=>by
  rw [numAt_eq,e4]; refine getD_mem ?_; rw [← e4,List.length_map,Array.length_toList]; exact hj
 have ek:numAt ts.toArray (argBest (fun i j=>decide (numAt ts.toArray i > numAt ts.toArray j)) (ts.toArray.size-1))=k:=by
  refine Int.le_antisymm (hm _ (hmem _ (by omega))) ?_
  obtain ⟨j,hj,rfl⟩:=mem_getD hk
  rw [← e4,List.length_map,Array.length_toList] at hj
  have:=g2 j (by omega)
  rwa [numAt_eq,e4] at this
 refine ⟨σ,R.of_keeps (s':={ s with heap:=h',toks:=tk }) hkp rfl rfl,.of_keeps (s':={ s with heap:=h',toks:=tk }) hkp,?_⟩
 rw [ek]; exact h
theorem tr_tuple{l:Addr}{vs:List Value}{Q:Value→St→Prop}(hl:Kn σ l (.list vs))(hs:vs.length≤sizeLine)(h:NewP σ (.tuple vs) fun a=>Q (.ref a)):Tr W n (call (.type "tuple") [.ref l]) (fun v σ'=>Q (er v) σ') σ:=fun A s r R=>by
 obtain ⟨nn,items,h1,h2⟩:=R.ats _ _ (hl.up R)
 have hsz:items.size≤sizeLine:=by rw [size_of_map h2]; exact hs
 refine call_tuple_list ⟨_,h1,rfl,nn,rfl⟩ (fun h' hk=>?_) hsz
 have hk2:∀ b o,s.heap.get? b=some o→(h'.push { cls:=.type "tuple",data:=.seq items }).get? b=some o:=fun b o e=>push_keeps _ _ _ _ (hk b o e)
 have hn:s.heap.get? h'.objs.size=none:=none_of fun o e=>absurd (Heap.lt_size (hk _ _ e)) (Nat.lt_irrefl _)
 obtain ⟨hu,R',S'⟩:=R.putP (s':={ s with heap:=h'.push { cls:=.type "tuple",data:=.seq items } }) (o:=.tuple vs) hn hk2 (show ∃ n items',_∧_ from ⟨0,items,Heap.get?_push_size _ rfl,h2⟩) rfl rfl
 exact ⟨_,R',S',h _ hu⟩
end
section
section
section
variable {KK:Params→Frag}(W:Wd KK)(n:Nat)
noncomputable def CallTo(f:Addr)(vs:List V)(S:List Cell)(v:V)(new S':List Cell)(rls:List Nat):Prop :=
 ∀ G ρ σ xs K,Sim S [] G ⟨ρ,[],σ⟩→RVs ⟨ρ,[],σ.P⟩ vs xs→(∀ x s',Sim S' new G s'→Pa rls ρ s'.ρ→RV s'.w v x→K x s'.σ)→Callee W n (.ref f) xs K σ
noncomputable def shV(k:Nat):V→V
 | .o j=>.o (k+j)
 | v=>v
noncomputable def offN(rls:List Nat)(k:Nat):Bool:=!rls.contains k
noncomputable def jUser(f:Addr)(vs:List V):Cf→Option (V × Cf)
 | ⟨l,S,O,rl,or,cs⟩=>match or with
  | .r nn v new S' rls :: r=>bnd (args vs O) fun vs' O1=>gd (Nat.ble nn n&&(rls.isEmpty||(O1.all (lbC (offN rls) tt_)&&l.all fun p=>lbV (offN rls) tt_ p.2)))
   (some (shV O1.length v,⟨l,S',O1++new.map (mpC (shV O1.length)),rls++rl,r,CallTo W nn f vs' S v new S' rls :: cs⟩))
  | _=>none
end
noncomputable def one:List V→Option V
 | [v]=>some v
 | _=>none
noncomputable def two:List V→Option (V × V)
 | [v,w]=>some (v,w)
 | _=>none
noncomputable def jLen(vs:List V)(c:Cf):Option (V × Cf):=(one vs).bind fun v=>(c.list v).bind fun us=>some (.u (.int us.length),c.say (us.length < 2 ^ 63))
noncomputable def jRng(vs:List V)(c:Cf):Option (V × Cf):=match vs with
 | [a]=>(uInt a).bind fun i=>some (.u (.rng 0 i 1),c)
 | [a,b]=>(uInt a).bind fun i=>(uInt b).bind fun j=>some (.u (.rng i j 1),c)
 | [a,b,d]=>(uInt a).bind fun i=>(uInt b).bind fun j=>(uInt d).bind fun k=>some (.u (.rng i j k),c.say (k≠0∧k.natAbs < 2 ^ 64))
 | _=>none
noncomputable def jStr(vs:List V)(c:Cf):Option (V × Cf):=(one vs).bind fun v=>(uInt v).bind fun i=>some (.u (.str (Str.ofString (toString i))),c.say (i.natAbs < 2 ^ 60))
noncomputable def orSum(us:List U):Orc→Cf→Option (V × Cf)
 | .is ns,c=>some (.u (.int ns.sum),c.say (us=ns.map U.int))
 | _,_=>none
noncomputable def orMax(us:List U):Orc→Cf→Option (V × Cf)
 | .is (k :: ns),c=>some (.u (.int k),c.say (us=ns.map U.int∧k∈ns∧∀ x∈ns,x≤k))
 | _,_=>none
noncomputable def orSort(us:List U):Orc→Cf→Option (V × Cf)
 | .us ws,c=>some ((c.say (SortC us ws)).new (.list ws))
 | _,_=>none
noncomputable def jL1(g:List U→Orc→Cf→Option (V × Cf))(vs:List V)(c:Cf):Option (V × Cf):=(one vs).bind fun v=>(c.list v).bind fun us=>orc c (g us)
noncomputable def jTpl(vs:List V)(c:Cf):Option (V × Cf):=(one vs).bind fun v=>(c.list v).bind fun us=>some (.u (.tup us),c.say (us.length≤sizeLine))
noncomputable def jBi(k:Nat)(vs:List V)(c:Cf):Option (V × Cf):=match k with
 | 0=>jLen vs c
 | 1=>jRng vs c
 | 2=>jStr vs c
 | 3=>jL1 orSum vs c
 | 4=>jL1 orMax vs c
 | 5=>jL1 orSort vs c
 | 6=>jTpl vs c
 | _=>none
inductive Mk where
 | fn (f:Addr)
 | app | pop | get
noncomputable def mkF:Mk→Value
 | .fn f=>.ref f
 | .app=>.builtin "list.append"
 | .pop=>.builtin "list.pop"
 | .get=>.builtin "dict.get"
noncomputable def uDct:V→Option (List Int × List U)
 | .u (.dct ks us)=>some (ks,us)
 | _=>none
noncomputable def resC(x:Str):Cell→Option Mk
 | .attrs C fs=>gd (fs.lookup x).isNone ((MT C x).bind fun f=>some (.fn f))
 | .list _=>sel (x=="append") (some .app) (gd (x=="pop") (some .pop))
 | .mem ..=>gd (x=="get") (some .get)
 | _=>none
noncomputable def jRes(v:V)(x:Str)(c:Cf):Option Mk:=opt (c.cell v) (resC x) (gd ((uDct v).isSome&&x=="get") (some .get))
noncomputable def dgetU:List Int→List U→Int→U→U
 | k0 :: ks,u :: us,k,d=>if k0=k then u else dgetU ks us k d
 | _,_,_,d=>d
noncomputable def asM:Cell→Option (Nat × (Int→Int))
 | .mem n f=>some (n,f)
 | _=>none
noncomputable def opt2{α β γ:Type}(x:Option (α × β))(f:α→β→γ)(b:γ):γ:=match x with
 | some (a,b)=>f a b
 | none=>b
noncomputable def jApp(v:V)(vs:List V)(c:Cf):Option (V × Cf):=(one vs).bind fun x=>bnd (frz x c.O) fun u O1=>((c.setO O1).cell v).bind fun cl=>(asL cl).bind fun us=>some (.u .none,((c.setO O1).setC v (.list (us++[u]))).say (us.length≤sizeLine))
noncomputable def orPop(v:V)(us:List U):Orc→Cf→Option (V × Cf)
 | .a u,c=>some (.u u,(c.setC v (.list us.dropLast)).say (us.getLast?=some u∧us.length≤sizeLine))
 | _,_=>none
noncomputable def jPop(v:V)(vs:List V)(c:Cf):Option (V × Cf):=gd vs.isEmpty ((c.cell v).bind fun cl=>(asL cl).bind fun us=>orc c (orPop v us))
noncomputable def orGet(ks:List Int)(us:List U)(k:Int)(d:U):Orc→Cf→Option (V × Cf)
 | .a u,c=>some (.u u,c.say (dgetU ks us k d=u))
 | _,_=>none
noncomputable def jGet(v:V)(vs:List V)(c:Cf):Option (V × Cf):=bnd (two vs) fun a d=>(uInt a).bind fun k=>opt2 (uDct v) (fun ks us=>bnd (frz d c.O) fun ud O1=>orc (c.setO O1) (orGet ks us k ud))
 ((c.cell v).bind fun cl=>bnd (asM cl) fun n f=>(uInt d).bind fun z=>gd (decide (z=0)) (some (.u (.int (f k)),c)))
section
variable {KK:Params→Frag}(W:Wd KK)(n:Nat)
noncomputable def jDo(mk:Mk)(v:V)(vs:List V)(c:Cf):Option (V × Cf):=match mk with
 | .fn f=>jUser W n f (v :: vs) c
 | .app=>jApp v vs c
 | .pop=>jPop v vs c
 | .get=>jGet v vs c
noncomputable def jCall(vf:V)(vs:List V)(c:Cf):Option (V × Cf):=match vf with
 | .u (.fn f)=>jUser W n f vs c
 | .u (.bi k)=>jBi k vs c
 | _=>none
noncomputable def CalT(f:Value)(vs:List V)(F:Fr)(s:Sx)(K:Value→St→Prop):Prop:=∀ xs,RVs s.w vs xs→Callee W n f xs K s.σ
end
variable {KK:Params→Frag}{W:Wd KK}{n:Nat}{F:Fr}{s:Sx}{σ:St}{c c':Cf}{v:V}{x f:Value}{us:List U}{Q:Value→St→Prop}
theorem Tr.ple{α:Type}{t:Sem α}{Q:α→St→Prop}(h:Tr W n t Q σ):Tr W n t (fun v σ'=>PL σ.P σ'.P∧Q v σ') σ:=fun A s r R =>
 wpE (h A s r R) fun v s' σ' a b q=>⟨σ',a,b,b.mono,q⟩
theorem Callee.ple{xs:List Value}(h:Callee W n f xs (fun v σ'=>PL σ.P σ'.P→Q v σ') σ):Callee W n f xs Q σ:=⟨h.1,fun f' vs' e1 e2=>(h.2 f' vs' e1 e2).ple.mono fun _ _ z=>z.2 z.1⟩
theorem Callee.ghost{σ':St}{xs:List Value}(g:Ghost σ σ')(h:Callee W n f xs Q σ'):Callee W n f xs Q σ:=⟨h.1,fun f' vs' e1 e2=>(h.2 f' vs' e1 e2).ghost g⟩
theorem Tr.up{α:Type}{t:Sem α}{Q:α→St→Prop}{k:Nat}(h:Tr W k t Q σ)(hk:k≤n):Tr W n t Q σ:=fun A s r R=>h A s (r.mono hk) R
theorem Callee.up{k:Nat}{xs:List Value}(h:Callee W k f xs Q σ)(hk:k≤n):Callee W n f xs Q σ:=⟨h.1,fun f' vs' e1 e2=>(h.2 f' vs' e1 e2).up hk⟩
theorem RV.shift{ρ κ κ':List Addr}{P:AH}(r:RV ⟨ρ,κ',P⟩ v x):RV ⟨ρ,κ++κ',P⟩ (shV κ.length v) x:=by
 cases v with
 | o j=>obtain ⟨a,h,e⟩:=r; exact ⟨a,Px.shift _ _ h,e⟩
 | _=>exact r
theorem LR.lb{S O:Nat→Bool}{w w':Vw}{m:Lm}{l:List (Str × V)}(H:Vl S O w w')(h:LR w m l)(hl:(l.all fun p=>lbV S O p.2)=true):LR w' m l:=fun x v e=>by
 obtain ⟨y,a,b⟩:=h x v e
 exact ⟨y,a,b.lb H (List.all_eq_true.mp hl (x,v) (lookup_mem e))⟩
theorem offN_not{rls:List Nat}{k:Nat}(h:offN rls k=true):k ∉ rls:=fun z=>by
 unfold offN at h
 rw [List.contains_iff_mem.mpr z] at h; cases h
theorem jUser_ok{f:Addr}{vs:List V}:Ok (jUser W n f vs c) fun v c'=>OkJ (CalT W n (.ref f) vs) (Rv v) c c':=by
 obtain ⟨l,S,O,rl,or,cs⟩:=c
 cases or with
 | nil=>exact .none
 | cons o r =>
  cases o with
  | r nn v0 new S' rls =>
   refine .bnd args_ok fun vs' O1 A=>.gd fun hb=>.some ⟨fun h=>h.2,fun q F s K M k xs rx=>A xs M.sim rx fun σ1 Z r1=>Callee.ghost Z.g ?_⟩
   have hb:=and2' hb
   have hh:O1.all (lbC (offN rls) tt_)=true∧(l.all fun p=>lbV (offN rls) tt_ p.2)=true:=(Bool.or_eq_true_iff.mp hb.2).elim (fun h=>by rw [List.isEmpty_iff.mp h]; exact ⟨all_tt lbC_tt _,all_tt (fun (p:Str × V)=>lbV_tt p.2) _⟩) and2'
   have m:=Z.m
   cases m with
   | mk h1 h2 y1 y2 B =>
    refine Callee.ple (Callee.up (q.1 (h2++F.G) s.ρ σ1 xs (fun x σ'=>PL σ1.P σ'.P→K x σ') ⟨h1,[],y1,.nil,B⟩ r1 fun x s' M' hr rv pl=>?_) (Nat.le_of_ble_eq_true hb.1))
    cases M' with
    | mk g1 g2 z1 z2 B' =>
     have H:Vl (offN rls) tt_ (s.to σ1).w ⟨s'.ρ,s.κ++s'.κ,s'.σ.P⟩:=⟨fun k a h e=>hr k a (offN_not h) e,fun k a _ e=>Px.app _ _ _ _ e,pl⟩
     have hl:s.κ.length=O1.length:=y2.len
     refine k x ⟨s'.ρ,s.κ++s'.κ,s'.σ⟩ ⟨⟨g1,h2++g2,z1,RCs.app (z2.mp (fun v x r=>hl▸r.shift) rfl) (y2.lb H hh.1),B'.perm ?_⟩,(M.loc.mono Z.w).lb H hh.2⟩ ⟨fun a o h=>pl _ _ (Z.p _ _ h),.app _ _,rls,rfl,hr⟩ (hl▸rv.shift)
     refine List.Perm.append_left _ ?_
     rw [← List.append_assoc]
     exact List.Perm.append_right _ List.perm_append_comm
  | _=>exact .none
theorem one_eq{vs:List V}(h:one vs=some v):vs=[v]:=by
 rcases vs with _ | ⟨a,_ | ⟨b,r⟩⟩
 ·cases h
 ·exact congrArg (fun x=>[x]) (Option.some.inj h)
 ·cases h
theorem cal_list{vs:List V}{xs:List Value}(h1:one vs=some v)(h2:c.list v=some us)(M:Sat c F s)(rx:RVs s.w vs xs)(k:∀ a ws,Kn s.σ a (.list ws)→RL s.σ.P us ws→Callee W n f [.ref a] Q s.σ):Callee W n f xs Q s.σ:=by
 rw [one_eq h1] at rx
 apply L2.one rx; intro x r
 apply M.list h2 r; exact k
theorem RVs.int{w:Vw}{vs:List V}{xs:List Value}{i:Int}{K:List Value→Prop}(rx:RVs w (.u (.int i) :: vs) xs)(k:∀ xs,RVs w vs xs→K (.int i 0 :: xs)):K xs:=rx.inv fun b r e q=>e▸k r q
theorem jRng_ok{vs:List V}:Ok (jRng vs c) fun v c'=>OkJ (CalT W n (.type "range") vs) (Rv v) c c':=by
 rcases vs with _ | ⟨a,_ | ⟨b,_ | ⟨d,_ | ⟨x,vs⟩⟩⟩⟩
 ·exact .none
 ·refine .ob fun i hi=>.some ⟨id,fun q F s K M k xs rx=>?_⟩
  cases uInt_eq hi
  exact RVs.int (K:=fun xs=>Callee W n _ xs K s.σ) rx fun xs rx=>rx.nil_ (K:=fun r=>Callee W n _ (_ :: r) K s.σ) (c_range1 fun a ha=>k.newP M rfl ha fun P h _=>⟨a,rfl,h⟩)
 ·refine .ob fun i hi=>.ob fun j hj=>.some ⟨id,fun q F s K M k xs rx=>?_⟩
  cases uInt_eq hi; cases uInt_eq hj
  exact RVs.int (K:=fun xs=>Callee W n _ xs K s.σ) rx fun xs rx=>RVs.int (K:=fun r=>Callee W n _ (_ :: r) K s.σ) rx fun xs rx=>rx.nil_ (K:=fun r=>Callee W n _ (_ :: _ :: r) K s.σ) (c_range2 fun a ha=>k.newP M rfl ha fun P h _=>⟨a,rfl,h⟩)
 ·refine .ob fun i hi=>.ob fun j hj=>.ob fun l hl=>.some ⟨fun h=>h.2,fun q F s K M k xs rx=>?_⟩
  cases uInt_eq hi; cases uInt_eq hj; cases uInt_eq hl
  exact RVs.int (K:=fun xs=>Callee W n _ xs K s.σ) rx fun xs rx=>RVs.int (K:=fun r=>Callee W n _ (_ :: r) K s.σ) rx fun xs rx=>RVs.int (K:=fun r=>Callee W n _ (_ :: _ :: r) K s.σ) rx fun xs rx=>rx.nil_ (K:=fun r=>Callee W n _ (_ :: _ :: _ :: r) K s.σ) (c_range3 q.1.1 q.1.2 fun a ha=>k.newP M.as rfl ha fun P h _=>⟨a,rfl,h⟩)
 ·exact .none
theorem jL1_ok{vs:List V}{b:Value}{g:List U→Orc→Cf→Option (V × Cf)}(H:∀ us o r,Ok (g us o (c.adv r)) fun v c'=>(AllP c'.cs→AllP c.cs)∧∀ F s K a ws,AllP c'.cs→Sat c F s→Ky (Rv v) c' c.rl F s K→Kn s.σ a (.list ws)→RL s.σ.P us ws→Callee W n b [.ref a] K s.σ):
  Ok (jL1 g vs c) fun v c'=>OkJ (CalT W n b vs) (Rv v) c c':=.ob fun w h1=>.ob fun us h2=>.orc fun o r v c' e=>⟨(H us o r v c' e).1,fun q F s K M k xs rx=>cal_list h1 h2 M rx fun a ws=>(H us o r v c' e).2 F s K a ws q M k⟩
theorem jBi_ok{k:Nat}{vs:List V}:Ok (jBi k vs c) fun v c'=>OkJ (CalT W n (biV k) vs) (Rv v) c c':=by
 rcases k with _ | _ | _ | _ | _ | _ | _ | k
 ·exact .ob fun w h1=>.ob fun us h2=>.some ⟨fun h=>h.2,fun q F s K M k xs rx=>cal_list h1 h2 M rx fun a ws p r=>c_len p (by rw [r.len]; exact q.1) (k.go M.as rfl (by rw [r.len]; rfl))⟩
 ·exact jRng_ok
 ·refine .ob fun w h1=>.ob fun i h2=>.some ⟨fun h=>h.2,fun q F s K M k xs rx=>?_⟩
  rw [one_eq h1,uInt_eq h2] at rx
  exact RVs.int (K:=fun xs=>Callee W n _ xs K s.σ) rx fun xs rx=>rx.nil_ (K:=fun r=>Callee W n _ (_ :: r) K s.σ) (c_str q.1 (k.go M.as rfl rfl))
 ·refine jL1_ok fun us o r=>?_
  cases o with
  | is ns=>exact .some ⟨fun h=>h.2,fun F s K a ws q M k p r=>c_sum (L2.ints (q.1▸r)▸p) (k.go M.as rfl rfl)⟩
  | _=>exact .none
 ·refine jL1_ok fun us o r=>?_
  cases o with
  | is ns =>
   cases ns with
   | nil=>exact .none
   | cons m ns=>exact .some ⟨fun h=>h.2,fun F s K a ws q M k p r=>callee_builtin (vs1 fun x e1=>by rw [er_ref e1]; exact tr_max (L2.ints (q.1.1▸r)▸p) q.1.2.1 q.1.2.2 (k.go M.as rfl rfl))⟩
  | _=>exact .none
 ·refine jL1_ok fun us o r=>?_
  cases o with
  | us ws'=>exact .new rfl ⟨fun h=>h.2,fun F s K a ws q M k p r=>callee_builtin (vs1 fun x e1=>by rw [er_ref e1]; exact tr_sorted p r q.1 fun vs' rv a ha=>Ky.new (c:=c) k M ha ⟨_,rfl,rv⟩)⟩
  | _=>exact .none
 ·exact .ob fun w h1=>.ob fun us h2=>.some ⟨fun h=>h.2,fun q F s K M k xs rx=>cal_list h1 h2 M rx fun a ws p r=>callee_type (vs1 fun x e1=>by rw [er_ref e1]; exact tr_tuple p (by rw [r.len]; exact q.1) fun a ha=>k.newP M.as rfl ha fun P h hp=>⟨a,ws,rfl,h,(r.pl hp).ru⟩)⟩
 ·exact .none
theorem setC_cs(c:Cf)(v:V)(x:Cell):(c.setC v x).cs=c.cs:=by cases v <;> rfl
theorem setC_rl(c:Cf)(v:V)(x:Cell):(c.setC v x).rl=c.rl:=by cases v <;> rfl
theorem AllP_setC(c:Cf)(v:V)(x:Cell)(h:AllP (c.setC v x).cs):AllP c.cs:=setC_cs c v x▸h
section
variable {K:Value→Prop}{cl:Cell}
theorem Sat.acc(M:Sat c F s)(hc:c.cell v=some cl)(r:RV s.w v x)(k:∀ a hk,RC (s.wv v) a cl hk→(∀ p∈hk,s.σ.H p.1=some p.2)→(∀ b o o' cl',hk=[(b,o)]→RC (s.wv v) a cl' [(b,o')]→Sat (c.setC v cl') F (s.to (s.σ.put b o')))→K (.ref a)):K x :=
 M.sim.acc ((cell_eq c v).trans hc) r fun a hk rc hH cl=>k a hk rc hH fun b o o' cl' e z=>by
  have S:=cl b o o' cl' e z
  cases v <;> exact ⟨S,M.loc⟩
theorem Sat.lst(M:Sat c F s)(hc:c.cell v=some cl)(hl:asL cl=some us)(r:RV s.w v x)(k:∀ a ws,s.σ.H a=some (.list ws)→RL s.σ.P us ws→(∀ us' ws',RL s.σ.P us' ws'→Sat (c.setC v (.list us')) F (s.to (s.σ.put a (.list ws'))))→K (.ref a)):K x:=by
 apply M.acc hc r
 intro a hk rc hH upd
 cases cl with
 | list us' =>
  cases hl
  obtain ⟨ws,q,z⟩:=rc
  exact k a ws (hH (a,.list ws) (by rw [q]; exact .head _)) (wvP s v▸z) fun us' ws' z'=>upd a _ _ _ q ⟨ws',rfl,(wvP s v).symm▸z'⟩
 | _=>cases hl
theorem Sat.mem{m:Nat}{g:Int→Int}(M:Sat c F s)(hc:c.cell v=some (.mem m g))(r:RV s.w v x)(k:∀ a kvs,s.σ.H a=some (.dict kvs)→MemRel m kvs g→(∀ g' kvs',MemRel m kvs' g'→Sat (c.setC v (.mem m g')) F (s.to (s.σ.put a (.dict kvs'))))→K (.ref a)):K x:=by
 apply M.acc hc r
 intro a hk rc hH upd
 obtain ⟨kvs,q,z⟩:=rc
 exact k a kvs (hH (a,.dict kvs) (by rw [q]; exact .head _)) z fun g' kvs' z'=>upd a _ _ _ q ⟨kvs',rfl,z'⟩
theorem Sat.att{C:Addr}{fs:List (Str × V)}(M:Sat c F s)(hc:c.cell v=some (.attrs C fs))(r:RV s.w v x)(k:∀ a d ys,s.σ.P a=some (.inst C d)→s.σ.H d=some (.attrs ys)→(fs.all fun p=>AT C p.1)=true→L2 (RA (s.wv v)) fs ys→(∀ fs' ys',(fs'.all fun p=>AT C p.1)=true→L2 (RA (s.wv v)) fs' ys'→Sat (c.setC v (.attrs C fs')) F (s.to (s.σ.put d (.attrs ys'))))→K (.ref a)):K x:=by
 apply M.acc hc r
 intro a hk rc hH upd
 obtain ⟨d,ys,p,q,h,z⟩:=rc
 exact k a d ys (wvP s v▸p) (hH (d,.attrs ys) (by rw [q]; exact .head _)) h z fun fs' ys' h' z'=>upd d _ _ _ q ⟨d,ys',p,rfl,h',z'⟩
end
theorem jRes_ok{y:Str}(k:KOK W)(M:Sat c F s)(r:RV s.w v x):Oc (jRes v y c) fun mk=>∀ K,K (mkF mk) [x] s.σ→Meth W n x y K s.σ:=by
 unfold jRes
 cases hc:c.cell v with
 | some cl =>
  show Oc (resC y cl) _
  cases cl with
  | attrs C fs =>
   refine .gd fun hn=>.ob fun f hm=>.some fun K h=>?_
   apply M.att (K:=fun x=>K _ [x] s.σ→Meth W n x y K s.σ) hc r
   ·exact fun a d ys q1 q2 _ q4 _ h=>m_inst (.P q1) (.H q2) (L2.no (R:=RV (s.wv v)) q4 (Option.isNone_iff_eq_none.mp hn)) (k.mt _ _ _ hm) h
   ·exact h
  | list us =>
   have hl:∀ K:Value→Prop,(∀ a ws,s.σ.H a=some (.list ws)→K (.ref a))→K x:=fun K k=>M.lst hc rfl r fun a ws h _ _=>k a ws h
   unfold resC
   cases e:y=="append" with
   | true=>exact .some fun K h=>by rw [beq_iff_eq.mp e]; exact hl (fun x=>K _ [x] s.σ→Meth W n x "append" K s.σ) (fun a ws h k=>m_append (.H h) k) h
   | false=>exact .gd fun e=>.some fun K h=>by rw [beq_iff_eq.mp e]; exact hl (fun x=>K _ [x] s.σ→Meth W n x "pop" K s.σ) (fun a ws h k=>m_pop (.H h) k) h
  | mem m g=>exact .gd fun e=>.some fun K h=>by rw [beq_iff_eq.mp e]; exact M.mem (K:=fun x=>K _ [x] s.σ→Meth W n x "get" K s.σ) hc r (fun a ws h _ _ k=>m_get (.H h) k) h
  | _=>exact .none
 | none =>
  refine .gd fun e=>.some fun K h=>?_
  have e:=and2' e
  rw [beq_iff_eq.mp e.2]
  cases v with
  | u u =>
   cases u with
   | dct ks us=>exact RU.dct (K:=fun x=>K _ [x] s.σ→Meth W n x "get" K s.σ) r (fun a kvs p _ _ k=>m_get (.P p) k) h
   | _=>cases e.1
  | _=>cases e.1
theorem dgetU_ok{P:AH}{k:Int}{d:U}{dv:Value}(hd:RU P d dv){us:List U}:∀{kvs:List (Int × Value)},RL P us (kvs.map (·.2))→RU P (dgetU (kvs.map (·.1)) us k d) ((valueAt kvs k).getD dv):=by
 induction us with
 | nil =>
  intro kvs h
  cases kvs with
  | nil=>exact hd
  | cons _ _=>exact nomatch h.len
 | cons u us ih =>
  intro kvs h
  cases kvs with
  | nil=>exact nomatch h.len
  | cons p kvs =>
   unfold valueAt
   show RU P (if p.1=k then u else dgetU (kvs.map (·.1)) us k d) _
   rw [List.find?_cons]
   by_cases q:p.1=k
   ·simp only [q,decide_true,if_true]; exact h.hd
   ·simp only [q,decide_false,if_false]; exact ih h.tl
noncomputable def DoT(W:Wd KK)(n:Nat)(mk:Mk)(v0:V)(vs:List V)(F:Fr)(s:Sx)(K:Value→St→Prop):Prop:=∀ x xs,RV s.w v0 x→RVs s.w vs xs→Callee W n (mkF mk) ([x]++xs) K s.σ
theorem jApp_ok{v0:V}{vs:List V}:Ok (jApp v0 vs c) fun v c'=>OkJ (DoT W n .app v0 vs) (Rv v) c c':=by
 refine .ob fun y hy=>.bnd frz_ok fun u O1 A=>.ob fun cl hc=>.ob fun us hl=>.some ⟨fun h=>AllP_setC (c.setO O1) v0 _ h.2,fun q F s K M k x xs r rs=>?_⟩
 rw [one_eq hy] at rs
 apply L2.one rs; intro yv ry
 refine A yv M.sim ry fun σ1 Z ru=>Callee.ghost Z.g ?_
 have M1:Sat (c.setO O1) F (s.to σ1):=⟨Z.m,M.loc.mono Z.w⟩
 apply M1.lst (K:=fun x=>Callee W n _ ([x]++[yv]) K σ1) hc hl (r.mono Z.w)
 intro a ws hH rw' upd
 exact c_append hH (by rw [rw'.len]; exact q.1) (k.to (upd _ _ (rw'.app (.cons ru .nil))).as (setC_rl (c.setO O1) v0 (.list (us++[u]))) Z.p rfl)
theorem jPop_ok{v0:V}{vs:List V}:Ok (jPop v0 vs c) fun v c'=>OkJ (DoT W n .pop v0 vs) (Rv v) c c':=by
 refine .gd fun he=>.ob fun cl hc=>.ob fun us hl=>.orc fun o r0=>?_
 cases o with
 | a u =>
  refine .some ⟨fun h=>AllP_setC (c.adv r0) v0 _ h.2,fun q F s K M k x xs r rs=>?_⟩
  rw [List.isEmpty_iff.mp he] at rs
  apply L2.nil_ rs
  have M1:Sat (c.adv r0) F s:=M.as
  apply M1.lst (K:=fun x=>Callee W n _ ([x]++[]) K s.σ) (by cases v0 <;> exact hc) hl r
  intro a ws hH rw' upd
  have hg:=q.1.1
  rw [List.getLast?_eq_getElem?,← rw'.len] at hg
  obtain ⟨w,g1,g2⟩:=rw'.get hg
  exact c_pop hH (by rw [rw'.len]; exact q.1.2) (by rw [List.getLast?_eq_getElem?]; exact g1) (k.to (upd _ _ rw'.dropLast).as (setC_rl (c.adv r0) v0 (.list us.dropLast)) (fun _ _ h=>h) g2)
 | _=>exact .none
theorem two_eq{vs:List V}:Ok (two vs) fun a b=>vs=[a,b]:=by
 rcases vs with _ | ⟨a,_ | ⟨b,_ | ⟨d,r⟩⟩⟩
 ·exact .none
 ·exact .none
 ·exact .some rfl
 ·exact .none
theorem uDct_eq:Ok (uDct v) fun ks us=>v=.u (.dct ks us):=by
 cases v with
 | u u =>
  cases u with
  | dct ks us=>exact .some rfl
  | _=>exact .none
 | _=>exact .none
theorem asM_eq{cl:Cell}:Ok (asM cl) fun n f=>cl=.mem n f:=by
 cases cl with
 | mem n f=>exact .some rfl
 | _=>exact .none
theorem Ok.opt2{α β γ δ:Type}{x:Option (α × β)}{f:α→β→Option (γ × δ)}{b:Option (γ × δ)}{Φ:γ→δ→Prop}{Ψ:α→β→Prop}(h:Ok x Ψ)(k1:∀ a b,Ψ a b→Ok (f a b) Φ)(k2:Ok b Φ):Ok (Mine.opt2 x f b) Φ:=by
 cases x with
 | none=>exact k2
 | some p=>exact k1 _ _ (h _ _ rfl)
theorem jGet_ok{v0:V}{vs:List V}:Ok (jGet v0 vs c) fun v c'=>OkJ (DoT W n .get v0 vs) (Rv v) c c':=by
 refine .bnd two_eq fun a d h2=>.ob fun k hk=>?_
 cases uInt_eq hk
 refine .opt2 uDct_eq (fun ks us hd=>.bnd frz_ok fun ud O1 A=>.orc fun o r0=>?_) (.ob fun cl hc=>.bnd asM_eq fun m g hm=>.ob fun z hz=>.gd fun h0=>.some ⟨id,fun q F s K M kk x xs r rs=>?_⟩)
 ·cases o with
  | a u =>
   refine .some ⟨fun h=>h.2,fun q F s K M kk x xs r rs=>?_⟩
   rw [h2] at rs
   rw [hd] at r
   refine RVs.int (K:=fun xs=>Callee W n _ ([x]++xs) K s.σ) rs fun xs rs=>?_
   refine rs.one (K:=fun xs=>Callee W n _ ([x]++_ :: xs) K s.σ) fun dv rd=>?_
   refine A dv M.sim rd fun σ1 Z ru=>Callee.ghost Z.g ?_
   refine RU.dct (K:=fun x=>Callee W n _ ([x]++[_,dv]) K σ1) r fun b kvs p t rl=>?_
   exact c_get (.P (Z.p _ _ p)) (kk.to (Sat.as (c:=c.setO O1) ⟨Z.m,M.loc.mono Z.w⟩) rfl Z.p (by show RU _ u _; rw [← q.1,← t]; exact dgetU_ok ru (rl.pl Z.p)))
  | _=>exact .none
 ·cases uInt_eq hz
  cases of_decide_eq_true h0
  rw [h2] at rs
  rw [hm] at hc
  refine RVs.int (K:=fun xs=>Callee W n _ ([x]++xs) K s.σ) rs fun xs rs=>?_
  refine RVs.int (K:=fun xs=>Callee W n _ ([x]++_ :: xs) K s.σ) rs fun xs rs=>rs.nil_ (K:=fun xs=>Callee W n _ ([x]++_ :: _ :: xs) K s.σ) ?_
  refine M.mem (K:=fun x=>Callee W n _ ([x]++[_,_]) K s.σ) hc r fun a kvs hH mr _=>?_
  exact c_get (.H hH) (kk.go M rfl (by rw [mr.get]; rfl))
theorem jDo_ok{mk:Mk}{v0:V}{vs:List V}:Ok (jDo W n mk v0 vs c) fun v c'=>OkJ (DoT W n mk v0 vs) (Rv v) c c':=by
 cases mk with
 | fn f=>exact fun v c' e=>let J:=jUser_ok (W:=W) (n:=n) v c' e; ⟨J.cs,fun q F s K M k x xs r rs=>J.ok q F s K M k _ (.cons r rs)⟩
 | app=>exact jApp_ok
 | pop=>exact jPop_ok
 | get=>exact jGet_ok
noncomputable def CaT(W:Wd KK)(n:Nat)(vf:V)(vs:List V)(F:Fr)(s:Sx)(K:Value→St→Prop):Prop:=∀ f xs,RV s.w vf f→RVs s.w vs xs→Callee W n f xs K s.σ
theorem OkJ.cal{vf:V}{vs:List V}(J:OkJ (CalT W n f vs) (Rv v) c c')(h:∀ s x,RV s vf x→x=f):OkJ (CaT W n vf vs) (Rv v) c c':=⟨J.cs,fun q F s K M k x xs r rs=>by rw [h _ x r]; exact J.ok q F s K M k xs rs⟩
theorem jCall_ok{vf:V}{vs:List V}:Ok (jCall W n vf vs c) fun v c'=>OkJ (CaT W n vf vs) (Rv v) c c':=by
 cases vf with
 | u u =>
  cases u with
  | fn f=>exact fun v c' e=>(jUser_ok v c' e).cal fun _ _ r=>r
  | bi k=>exact fun v c' e=>(jBi_ok v c' e).cal fun _ _ r=>r
  | _=>exact .none
 | _=>exact .none
end
end
section
section
noncomputable def notStar:Expr→Bool
 | .Starred ..=>false
 | _=>true
noncomputable def orD(b:Bool):Orc→Cf→Option (Bool × Cf)
 | .d t,c=>some (t,c.say (b=t))
 | _,_=>none
noncomputable def dec(b:Bool)(c:Cf):Option (Bool × Cf):=orc c (orD b)
section
variable (f:Expr→Cf→Option (V × Cf))
noncomputable def jL:List Expr→Cf→Option (List V × Cf)
 | [],c=>some ([],c)
 | e :: es,c=>bnd (f e c) fun v c1=>bnd (jL es c1) fun vs c2=>gd (hold v c1 c2) (some (v :: vs,c2))
noncomputable def jC{γ:Type}(op:CmpOp)(a b:Expr)(c:Cf)(k:V→Bool→Cf→Option γ):Option γ :=
 gd (!behindInMarks op b) (bnd (f a c) fun va c1=>bnd (f b c1) fun vb c2=>gd (hold va c1 c2) (bnd (jCmp op va vb c2) fun t c3=>gd (hold vb c2 c3) (k vb t c3)))
noncomputable def jTn(op:UnaryOp)(r:Option (Bool × Cf)):Option (Bool × Cf):=match op with
 | .Not=>bnd r fun d c1=>some (!d,c1)
 | _=>none
noncomputable def jTb(op:BoolOp)(h:Expr→Cf→Option (Bool × Cf))(es:List Expr)(c:Cf):Option (Bool × Cf):=match es with
 | [a,b]=>bnd (h a c) fun d c1=>match op with
  | .And=>sel d (h b c1) (some (false,c1))
  | .Or=>sel d (some (true,c1)) (h b c1)
 | _=>none
noncomputable def jTc2(o2:CmpOp)(d:Expr)(vb:V)(t:Bool)(c1:Cf):Option (Bool × Cf):=bnd (dec t c1) fun t1 c2 =>
 sel t1 (bnd (f d c2) fun vd c3=>gd (hold vb c1 c3) (bnd (jCmp o2 vb vd c3) fun t2 c4=>dec t2 c4)) (some (false,c2))
noncomputable def jTc(a:Expr)(ops:List CmpOp)(es:List Expr)(c:Cf):Option (Bool × Cf):=match ops with
 | [op]=>match es with
  | [b]=>jC f op a b c fun _ t c1=>dec t c1
  | _=>none
 | [o1,o2]=>match es with
  | [b,d]=>gd (!behindInMarks o2 d) (jC f o1 a b c (jTc2 f o2 d))
  | _=>none
 | _=>none
noncomputable def jTk(k:Const)(c:Cf):Option (Bool × Cf):=match k with
 | .bool b=>some (b,c)
 | _=>none
noncomputable def jTv(r:Option (V × Cf)):Option (Bool × Cf):=bnd r fun v c1=>(uBool v).bind fun b=>dec b c1
noncomputable def jT:Nat→Expr→Cf→Option (Bool × Cf)
 | 0,_,_=>none
 | k+1,e,c=>match e with
  | .UnaryOp op a _=>jTn op (jT k a c)
  | .BoolOp op es _=>jTb op (jT k) es c
  | .Compare a ops es _=>jTc f a ops es c
  | .Constant b _ _=>jTk b c
  | .Call fn es ks pos=>jTv (f (.Call fn es ks pos) c)
  | _=>none
end
noncomputable def uU:V→Option U
 | .u u=>some u
 | _=>none
noncomputable def uT:V→Option T
 | .u u=>some (.u u)
 | .s k=>some (.s k)
 | _=>none
noncomputable def mapO{α β:Type}(f:α→Option β):List α→Option (List β)
 | []=>some []
 | a :: as=>(f a).bind fun b=>(mapO f as).bind fun bs=>some (b :: bs)
noncomputable def jTup(vs:List V)(c:Cf):Option (V × Cf):=bnd (args vs c.O) fun vs' O1=>opt (mapO uU vs') (fun us=>some (.u (.tup us),c.setO O1)) ((mapO uT vs').bind fun ts=>some (.t ts,c.setO O1))
section
variable {KK:Params→Frag}(W:Wd KK)(n:Nat)(osc:Scope)(g:List (Str × U))
noncomputable def EvS(e:Expr)(l:List (Str × V))(S O:List Cell)(v:V)(S' O':List Cell):Prop :=
 ∀ env,env.scope=osc→∀(F:Fr) s K,Sim S O F.G s→LR s.w F.m l→(∀ x s',Sim S' O' F.G s'→Vle s.w s'.w→RV s'.w v x→K x s'.σ)→Ev W n env F.m e K s.σ
noncomputable def jEv(e:Expr):Cf→Option (V × Cf)
 | ⟨l,S0,O0,rl,or,cs⟩=>match or with
  | .ev v S O :: r=>some (v,⟨l,S,O,rl,r,EvS W n osc e l S0 O0 v S O :: cs⟩)
  | _=>none
noncomputable def gOK(x:Str):Bool:=osc.names.lookup x==some .globalImplicit&&!(x==("__debug__":Str))
noncomputable def jN(x:Str)(c:Cf):Option (V × Cf):=opt (c.l.lookup x) (fun v=>some (v,c)) (gd (gOK osc x) ((g.lookup x).bind fun u=>some (.u u,c)))
noncomputable def jConst(k:Const)(c:Cf):Option (V × Cf):=match k with
 | .int i=>some (.u (.int i),c)
 | .none=>some (.u .none,c)
 | .str s=>some (.u (.str s),c)
 | .bool b=>some (.u (.bool b),c)
 | _=>none
section
variable (f:Expr→Cf→Option (V × Cf))
noncomputable def jBo(a:Expr)(op:Operator)(b:Expr)(c:Cf):Option (V × Cf):=bnd (f a c) fun va c1=>bnd (f b c1) fun vb c2=>gd (hold va c1 c2) (jBin op va vb c2)
noncomputable def jUn(op:UnaryOp)(a:Expr)(c:Cf):Option (V × Cf):=match op with
 | .USub=>bnd (f a c) fun v c1=>(uInt v).bind fun i=>some (.u (.int (-i)),c1)
 | _=>none
noncomputable def jCe1(a:Expr)(ops:List CmpOp)(es:List Expr)(c:Cf):Option (V × Cf):=match ops with
 | [op]=>match es with
  | [b]=>jC f op a b c fun _ t c1=>some (.u (.bool t),c1)
  | _=>none
 | _=>none
noncomputable def jIf(k:Nat)(t a b:Expr)(c:Cf):Option (V × Cf):=bnd (jT f k t c) fun d c1=>sel d (f a c1) (f b c1)
noncomputable def jBv(op:BoolOp)(es:List Expr)(c:Cf):Option (V × Cf):=match es with
 | [a,b]=>bnd (f a c) fun v c1=>(uBool v).bind fun t=>match op with
  | .And=>sel t (f b c1) (some (v,c1))
  | .Or=>sel t (some (v,c1)) (f b c1)
 | _=>none
noncomputable def jAt(o:Expr)(x:Str)(c:Cf):Option (V × Cf):=gd (notBareCall o) (bnd (f o c) fun vo c1=>(jAttr vo x c1).bind fun v=>some (v,c1))
noncomputable def jSu(ev:Option (V × Cf))(o i:Expr)(c:Cf):Option (V × Cf):=sel (notSlice i) (bnd (f o c) fun vo c1=>bnd (f i c1) fun vi c2=>gd (hold vo c1 c2) (jItem vo vi c2)) ev
noncomputable def jMe(o:Expr)(x:Str)(apos:Pos)(es:List Expr)(pos:Pos)(c:Cf):Option (V × Cf):=gd (notBareCall o&&es.all notStar&&decide (es.length < 30)&&(apos.endLine==pos.line))
 (bnd (f o c) fun vo c1=>(jRes vo x c1).bind fun mk=>bnd (jL f es c1) fun vs c2=>gd (hold vo c1 c2) (jDo W n mk vo vs c2))
noncomputable def jFn(fn:Expr)(es:List Expr)(c:Cf):Option (V × Cf):=gd (es.all notStar) (bnd (f fn c) fun vf c1=>bnd (jL f es c1) fun vs c2=>gd (hold vf c1 c2) (jCall W n vf vs c2))
noncomputable def jCl(fn:Expr)(es:List Expr)(ks:List Keyword)(pos:Pos)(c:Cf):Option (V × Cf):=match ks with
 | []=>match fn with
  | .Attribute o x apos=>jMe W n f o x apos es pos c
  | fn=>jFn W n f fn es c
 | _=>none
noncomputable def okEs(es:List Expr):Bool:=es.all notStar&&decide (es.length≤1000)
noncomputable def jLi(es:List Expr)(c:Cf):Option (V × Cf):=gd (okEs es) (bnd (jL f es c) fun vs c1=>bnd (frzL vs c1.O) fun us O1=>some ((c1.setO O1).new (.list us)))
noncomputable def jTp(es:List Expr)(c:Cf):Option (V × Cf):=gd (okEs es) (bnd (jL f es c) fun vs c1=>jTup vs c1)
noncomputable def jDi(ks:List (Option Expr))(vs:List Expr)(c:Cf):Option (V × Cf):=match ks with
 | []=>match vs with
  | []=>some (c.new (.dict [] []))
  | _=>none
 | _=>none
end
noncomputable def jE:Nat→Expr→Cf→Option (V × Cf)
 | 0,_,_=>none
 | k+1,e,c=>match e with
  | .Name x _=>jN osc g x c
  | .Constant b _ _=>jConst b c
  | .BinOp a op b _=>jBo (jE k) a op b c
  | .UnaryOp op a _=>jUn (jE k) op a c
  | .Compare a ops es _=>jCe1 (jE k) a ops es c
  | .BoolOp op es _=>jBv (jE k) op es c
  | .IfExp t a b _=>jIf (jE k) k t a b c
  | .Attribute o x _=>jAt (jE k) o x c
  | .Subscript o i pos=>jSu (jE k) (jEv W n osc (.Subscript o i pos) c) o i c
  | .Call fn es ks pos=>jCl W n (jE k) fn es ks pos c
  | .List es _=>jLi (jE k) es c
  | .Tuple es _ _=>jTp (jE k) es c
  | .Dict ks vs _=>jDi ks vs c
  | .ListComp elt gs sc pos=>jEv W n osc (.ListComp elt gs sc pos) c
  | _=>none
end
variable {KK:Params→Frag}{W:Wd KK}{n:Nat}{env:Env}{osc:Scope}{g:List (Str × U)}{m:Lm}{σ:St}{c c' c₁:Cf}{v:V}{F:Fr}{s:Sx}{es:List Expr}
theorem TrE.gh{α:Type}{t:Sem α}{Q:α→St→Prop}(h:TrE W n env m t (fun v σ'=>∃ σ'',Ghost σ' σ''∧Q v σ'') σ):TrE W n env m t Q σ:=fun A s r R F =>
 wpE (h A s r R F) fun v s' σ' a b z=>let ⟨σ'',g,q⟩:=z; ⟨σ'',a.ghost g,b.trans (Step.ghost g),q⟩
theorem Ev.gh{e:Expr}{Q:Value→St→Prop}(h:Ev W n env m e (fun v σ'=>∃ σ'',Ghost σ' σ''∧Q v σ'') σ):Ev W n env m e Q σ:=TrE.gh h
section
variable (W n env)
noncomputable def EvT(e:Expr)(F:Fr)(s:Sx)(K:Value→St→Prop):Prop:=Ev W n env F.m e K s.σ
noncomputable def TeT(e:Expr)(F:Fr)(s:Sx)(K:Bool→St→Prop):Prop:=Te W n env F.m e K s.σ
noncomputable def EvsT(es:List Expr)(F:Fr)(s:Sx)(K:List Value→St→Prop):Prop:=Evs W n env F.m es K s.σ
noncomputable def Rt(t:Bool)(_:Sx)(b:Bool):Prop:=b=t
noncomputable def Rvs(vs:List V)(s:Sx)(xs:List Value):Prop:=RVs s.w vs xs
noncomputable abbrev EvJ(e:Expr)(c:Cf)(v:V)(c':Cf):Prop:=OkJ (EvT W n env e) (Rv v) c c'
noncomputable abbrev TeJ(e:Expr)(c:Cf)(t:Bool)(c':Cf):Prop:=OkJ (TeT W n env e) (Rt t) c c'
noncomputable def FJ(f:Expr→Cf→Option (V × Cf)):Prop:=∀ e c,Ok (f e c) (EvJ W n env e c)
noncomputable def TFJ(h:Expr→Cf→Option (Bool × Cf)):Prop:=∀ e c,Ok (h e c) (TeJ W n env e c)
end
theorem OkJ.ev{e:Expr}{K:Value→St→Prop}(A:EvJ W n env e c v c₁)(q:AllP c₁.cs)(M:Sat c F s)(k:∀ x s',Sat c₁ F s'→Nx c.rl c₁.rl s s'→RV s'.w v x→K x s'.σ):Ev W n env F.m e K s.σ:=A.ok q F s K M k
theorem OkJ.te{e:Expr}{t:Bool}{K:Bool→St→Prop}(A:TeJ W n env e c t c₁)(q:AllP c₁.cs)(M:Sat c F s)(k:∀ s',Sat c₁ F s'→Nx c.rl c₁.rl s s'→K t s'.σ):Te W n env F.m e K s.σ:=A.ok q F s K M fun b s' M N r=>r▸k s' M N
theorem OkJ.evs{vs:List V}{K:List Value→St→Prop}(A:OkJ (EvsT W n env es) (Rvs vs) c c₁)(q:AllP c₁.cs)(M:Sat c F s)(k:∀ x s',Sat c₁ F s'→Nx c.rl c₁.rl s s'→RVs s'.w vs x→K x s'.σ):Evs W n env F.m es K s.σ:=A.ok q F s K M k
structure Dc(b:Bool)(c:Cf)(t:Bool)(c':Cf):Prop where
 h:AllP c'.cs→b=t∧AllP c.cs
 l:c'.rl=c.rl
 s:∀ F s,Sat c F s→Sat c' F s
theorem dec_ok{b:Bool}:Ok (dec b c) (Dc b c):=.orc fun o r=>by
 cases o with
 | d t=>exact .some ⟨id,rfl,fun F s M=>M.as⟩
 | _=>exact .none
theorem Dc.k{b t:Bool}{s':Sx}{K:Bool→St→Prop}(D:Dc b c₁ t c')(q:AllP c'.cs)(k:Ky (Rt t) c' c.rl F s K)(M:Sat c₁ F s')(N:Nx c.rl c₁.rl s s'):K b s'.σ:=(D.h q).1▸k t s' (D.s _ _ M) (D.l.symm▸N) rfl
section
variable {f:Expr→Cf→Option (V × Cf)}(hf:FJ W n env f)
include hf
theorem jL_ok{es:List Expr}:∀{c:Cf},Ok (jL f es c) fun vs c'=>OkJ (EvsT W n env es) (Rvs vs) c c':=by
 induction es with
 | nil=>exact fun {c}=>.some ⟨id,fun q F s K M k=>k.go M rfl .nil⟩
 | cons e es ih =>
  intro c
  refine .bnd (hf e c) fun v c1 A=>.bnd ih fun vs c2 B=>.gd fun hh=>.some ⟨fun q=>A.cs (B.cs q),fun q F s K M k=>?_⟩
  show Ev W n env F.m e (fun v σ'=>Evs W n env F.m es (fun vs σ''=>K (v :: vs) σ'') σ') s.σ
  exact A.ev (B.cs q) M fun x s1 M1 N1 r1=>B.evs q M1 fun xs s2 M2 N2 rs=>k _ s2 M2 (N1.trans N2) (.cons (r1.hold N2 hh) rs)
structure CJ(W:Wd KK)(n:Nat)(env:Env)(op:CmpOp)(a b:Expr)(c:Cf)(vb:V)(t:Bool)(c':Cf):Prop where
 m:behindInMarks op b=false
 cs:AllP c'.cs→AllP c.cs
 ok:AllP c'.cs→∀ F s (K:Value→Value→St→Prop),Sat c F s→(∀ xb s',Sat c' F s'→Nx c.rl c'.rl s s'→RV s'.w vb xb→K xb (.bool t) s'.σ)→Ev W n env F.m a (fun xa σ₁=>Ev W n env F.m b (fun xb σ₂=>Cmp W n op xa xb (K xb) σ₂) σ₁) s.σ
theorem jC_ok{γ δ:Type}{op:CmpOp}{a b:Expr}{k:V→Bool→Cf→Option (γ × δ)}{Φ:γ→δ→Prop}(H:∀ vb t c',CJ W n env op a b c vb t c'→Ok (k vb t c') Φ):Ok (jC f op a b c k) Φ :=
 .gd fun hm=>.bnd (hf a c) fun va c1 A=>.bnd (hf b c1) fun vb c2 B=>.gd fun hh=>.bnd (jCmp_ok (W:=W) (n:=n)) fun t c3 C=>.gd fun hk=>H vb t c3 ⟨by simpa using hm,fun q=>A.cs (B.cs (C.cs q)),fun q F s K M k =>
  A.ev (B.cs (C.cs q)) M fun xa s1 M1 N1 r1=>B.ev (C.cs q) M1 fun xb s2 M2 N2 r2=>C.ok q F s2 (K xb) M2 (fun x s3 M3 N3 (r3:x=.bool t)=>r3▸k xb s3 M3 ((N1.trans N2).trans N3) (r2.hold N3 hk)) xa xb (r1.hold N2 hh) r2⟩
omit hf in
theorem jTb_ok{h:Expr→Cf→Option (Bool × Cf)}(hh:TFJ W n env h){op:BoolOp}{p:Pos}:Ok (jTb op h es c) (TeJ W n env (.BoolOp op es p) c):=by
 rcases es with _ | ⟨a,_ | ⟨b,_ | ⟨d,es⟩⟩⟩
 ·exact .none
 ·exact .none
 ·refine .bnd (hh a c) fun d c1 A=>?_
  cases op <;> cases d
  ·exact .some ⟨A.cs,fun q F s K M k=>te_and (A.te q M fun s1 M1 N1=>k _ s1 M1 N1 rfl)⟩
  ·exact fun t c' e=>let B:=hh b c1 t c' e; ⟨fun q=>A.cs (B.cs q),fun q F s K M k=>te_and (A.te (B.cs q) M fun s1 M1 N1=>B.ok q F s1 K M1 (k.st N1))⟩
  ·exact fun t c' e=>let B:=hh b c1 t c' e; ⟨fun q=>A.cs (B.cs q),fun q F s K M k=>te_or (A.te (B.cs q) M fun s1 M1 N1=>B.ok q F s1 K M1 (k.st N1))⟩
  ·exact .some ⟨A.cs,fun q F s K M k=>te_or (A.te q M fun s1 M1 N1=>k _ s1 M1 N1 rfl)⟩
 ·exact .none
theorem jTc_ok{a:Expr}{ops:List CmpOp}{p:Pos}:Ok (jTc f a ops es c) (TeJ W n env (.Compare a ops es p) c):=by
 rcases ops with _ | ⟨o1,_ | ⟨o2,_ | ⟨o3,os⟩⟩⟩
 ·exact .none
 ·rcases es with _ | ⟨b,_ | ⟨d,es⟩⟩
  ·exact .none
  ·exact jC_ok hf fun vb t c1 J t' c' e=>let D:=dec_ok t' c' e; ⟨fun q=>J.cs (D.h q).2,fun q F s K M k=>te_cmp J.m (J.ok (D.h q).2 F s (fun _ v σ=>∃ b,v=.bool b∧K b σ) M fun xb s3 M3 N3 _=>⟨t,rfl,D.k q k M3 N3⟩)⟩
  ·exact .none
 ·rcases es with _ | ⟨b,_ | ⟨d,_ | ⟨d2,es⟩⟩⟩
  ·exact .none
  ·exact .none
  ·refine .gd fun hm=>jC_ok hf fun vb t c1 J=>.bnd dec_ok fun t1 c2 D=>?_
   have hm:behindInMarks o2 d=false:=by simpa using hm
   cases t1 with
   | false =>
    refine .some ⟨fun q=>J.cs (D.h q).2,fun q F s K M k=>te_cmp2 hm (J.ok (D.h q).2 F s (fun xb v σ=>∃ b,v=.bool b∧if b=true then Ev W n env F.m d (fun vc σ₄=>Cmp W n o2 xb vc (fun v σ₅=>∃ b,v=.bool b∧K b σ₅) σ₄) σ else K false σ) M fun xb s3 M3 N3 _=>⟨t,rfl,?_⟩)⟩
    rw [(D.h q).1]
    exact k _ s3 (D.s _ _ M3) (D.l.symm▸N3) rfl
   | true =>
    refine .bnd (hf d c2) fun vd c3 B=>.gd fun hh=>.bnd (jCmp_ok (W:=W) (n:=n)) fun t2 c4 C t3 c' e=>?_
    have E:=dec_ok t3 c' e
    refine ⟨fun q=>J.cs (D.h (B.cs (C.cs (E.h q).2))).2,fun q F s K M k=>?_⟩
    have q4:=(E.h q).2
    have q3:=C.cs q4
    have q2:=D.h (B.cs q3)
    refine te_cmp2 hm (J.ok q2.2 F s (fun xb v σ=>∃ b,v=.bool b∧if b=true then Ev W n env F.m d (fun vc σ₄=>Cmp W n o2 xb vc (fun v σ₅=>∃ b,v=.bool b∧K b σ₅) σ₄) σ else K false σ) M fun xb s3 M3 N3 r3=>⟨t,rfl,?_⟩)
    rw [q2.1]
    refine ite_t (B.ev q3 (D.s _ _ M3) fun xd s4 M4 N4 r4=>?_)
    have N4:Nx c1.rl c3.rl s3 s4:=D.l▸N4
    exact C.ok q4 F s4 (fun v σ=>∃ b,v=.bool b∧K b σ) M4 (fun x s5 M5 N5 r5=>⟨t2,r5,E.k q k M5 ((N3.trans N4).trans N5)⟩) xb xd (r3.hold N4 hh) r4
  ·exact .none
 ·exact .none
theorem jTv_ok{e:Expr}(hw:isTrue e env (eval e env)=(do let v ← eval e env; standAt e.pos; PySem.holding [v] (truthy v))):Ok (jTv (f e c)) (TeJ W n env e c) :=
 .bnd (hf e c) fun v c1 A=>.ob fun b h2 t c' e=>by
  have D:=dec_ok t c' e
  cases vk_ok (vkB_eq h2)
  exact ⟨fun q=>A.cs (D.h q).2,fun q F s K M k=>te_of_ev hw (A.ev (D.h q).2 M fun x s1 M1 N1 r1=>⟨b,r1,D.k q k M1 N1⟩)⟩
theorem jT_ok{k:Nat}:TFJ W n env (jT f k):=by
 induction k with
 | zero=>exact fun _ _=>.none
 | succ k ih =>
  intro e c
  cases e with
  | UnaryOp op a p =>
   cases op with
   | Not=>exact Ok.bnd (ih a c) fun d c1 A=>.some ⟨A.cs,fun q F s K M k=>te_not (A.te q M fun s1 M1 N1=>k _ s1 M1 N1 rfl)⟩
   | _=>exact .none
  | BoolOp op es p=>exact jTb_ok ih
  | Compare a ops es p=>exact jTc_ok hf
  | Constant b z p =>
   cases b with
   | bool b=>exact Ok.some ⟨id,fun q F s K M k=>te_of_ev (by rfl) (ev_bool ⟨_,rfl,k.go M rfl rfl⟩)⟩
   | _=>exact .none
  | Call fn es ks pos=>exact jTv_ok hf (by rfl)
  | _=>exact .none
end
theorem mapO_ok{α β:Type}{f:α→Option β}{R:α→Value→Prop}{R':β→Value→Prop}(H:∀ a b x,f a=some b→R a x→R' b x){as:List α}:Oc (mapO f as) fun bs=>∀ xs,L2 R as xs→L2 R' bs xs:=by
 induction as with
 | nil=>exact .some fun xs h=>h.nil_ (K:=L2 R' []) .nil
 | cons a as ih=>exact .ob fun b hb=>.ob fun bs hbs=>.some fun xs h=>h.inv (K:=L2 R' (b :: bs)) fun y r p q=>.cons (H _ _ _ hb p) (ih _ hbs _ q)
noncomputable def GOK(W:Wd KK)(g:List (Str × U)):Prop:=∀ p∈g,∃ w,globIn W.K p.1=some w∧RU (fun _=>none) p.2 w
theorem jN_ok{x:Str}{pos:Pos}(ho:env.scope=osc)(hg:GOK W g):Ok (jN osc g x c) (EvJ W n env (.Name x pos) c) :=
 .opt (fun v0 hx=>.some ⟨id,fun q F s K M k=>by
  obtain ⟨y,a,b⟩:=M.loc x _ hx
  exact ev_loc a (k.go M rfl b)⟩) (.gd fun hk=>.ob fun u hu=>.some ⟨id,fun q F s K M k=>by
  have hk:=and2' hk
  obtain ⟨w,a,b⟩:=hg _ (lookup_mem hu)
  exact ev_glob (kind_of ho hk.1) a (by simpa using hk.2) (k.go M rfl (RU.mono (P:=fun _=>none) (fun _ o h=>nomatch h) b))⟩)
theorem jEv_ok{ex:Expr}(ho:env.scope=osc):Ok (jEv W n osc ex c) (EvJ W n env ex c):=by
 obtain ⟨l,S,O,rl,or,cs⟩:=c
 cases or with
 | nil=>exact .none
 | cons o r =>
  cases o with
  | ev v S' O'=>exact .some ⟨fun h=>h.2,fun q F s K M k=>q.1 env ho F s K M.sim M.loc fun x s' M' H r=>k x s' ⟨M',M.loc.mono H⟩ (.of H.p H.k H.r) r⟩
  | _=>exact .none
theorem star_eq'(es:List Expr):(es.all fun | .Starred ..=>false | _=>true)=es.all notStar:=rfl
theorem jConst_ok{b:Const}{z:Nat}{p:Pos}:Ok (jConst b c) (EvJ W n env (.Constant b z p) c):=by
 cases b with
 | int i=>exact .some ⟨id,fun q F s K M k=>ev_int (k.go M rfl rfl)⟩
 | none=>exact .some ⟨id,fun q F s K M k=>ev_none (k.go M rfl rfl)⟩
 | str i=>exact .some ⟨id,fun q F s K M k=>ev_str (k.go M rfl rfl)⟩
 | bool i=>exact .some ⟨id,fun q F s K M k=>ev_bool (k.go M rfl rfl)⟩
 | _=>exact .none
theorem jDi_ok{ks:List (Option Expr)}{vs:List Expr}{p:Pos}:Ok (jDi ks vs c) (EvJ W n env (.Dict ks vs p) c):=by
 rcases ks with _ | ⟨_,_⟩
 ·rcases vs with _ | ⟨_,_⟩
  ·exact .new rfl ⟨id,fun q F s K M k=>v_dict fun a ha=>Ky.new (c:=c) k M ha ⟨[],rfl,rfl,.nil⟩⟩
  ·exact .none
 ·exact .none
section
variable {f:Expr→Cf→Option (V × Cf)}(hf:FJ W n env f)
include hf
theorem jBo_ok{a b:Expr}{op:Operator}{p:Pos}:Ok (jBo f a op b c) (EvJ W n env (.BinOp a op b p) c) :=
 .bnd (hf a c) fun va c1 A=>.bnd (hf b c1) fun vb c2 B=>.gd fun hh v c' e=>let C:=jBin_ok (W:=W) (n:=n) v c' e
 ⟨fun q=>A.cs (B.cs (C.cs q)),fun q F s K M k=>ev_bin (A.ev (B.cs (C.cs q)) M fun xa s1 M1 N1 r1=>B.ev (C.cs q) M1 fun xb s2 M2 N2 r2=>C.ok q F s2 K M2 (k.st (N1.trans N2)) xa xb (r1.hold N2 hh) r2)⟩
theorem jUn_ok{a:Expr}{op:UnaryOp}{p:Pos}:Ok (jUn f op a c) (EvJ W n env (.UnaryOp op a p) c):=by
 cases op with
 | USub =>
  refine .bnd (hf a c) fun va c1 A=>.ob fun i hi=>.some ?_
  cases uInt_eq hi
  exact ⟨A.cs,fun q F s K M k=>ev_neg (A.ev q M fun x s1 M1 N1 r1=>⟨i,r1,k _ s1 M1 N1 rfl⟩)⟩
 | _=>exact .none
theorem jCe1_ok{a:Expr}{ops:List CmpOp}{p:Pos}:Ok (jCe1 f a ops es c) (EvJ W n env (.Compare a ops es p) c):=by
 rcases ops with _ | ⟨op,_ | ⟨o2,os⟩⟩
 ·exact .none
 ·rcases es with _ | ⟨b,_ | ⟨d,es⟩⟩
  ·exact .none
  ·exact jC_ok hf fun vb t c1 J=>.some ⟨J.cs,fun q F s K M k=>ev_cmp J.m (J.ok q F s (fun _=>K) M fun xb s3 M3 N3 _=>k _ s3 M3 N3 rfl)⟩
  ·exact .none
 ·exact .none
theorem jIf_ok{k:Nat}{t a b:Expr}{p:Pos}:Ok (jIf f k t a b c) (EvJ W n env (.IfExp t a b p) c) :=
 .bnd (jT_ok hf t c) fun d c1 A=>by
  cases d with
  | true=>exact fun v c' e=>let B:=hf a c1 v c' e; ⟨fun q=>A.cs (B.cs q),fun q F s K M k=>ev_ife (A.te (B.cs q) M fun s1 M1 N1=>B.ok q F s1 K M1 (k.st N1))⟩
  | false=>exact fun v c' e=>let B:=hf b c1 v c' e; ⟨fun q=>A.cs (B.cs q),fun q F s K M k=>ev_ife (A.te (B.cs q) M fun s1 M1 N1=>B.ok q F s1 K M1 (k.st N1))⟩
theorem jBv_ok{op:BoolOp}{p:Pos}:Ok (jBv f op es c) (EvJ W n env (.BoolOp op es p) c):=by
 rcases es with _ | ⟨a,_ | ⟨b,_ | ⟨d,es⟩⟩⟩
 ·exact .none
 ·exact .none
 ·refine .bnd (hf a c) fun va c1 A=>.ob fun t h2=>?_
  cases vk_ok (vkB_eq h2)
  cases op <;> cases t
  ·exact .some ⟨A.cs,fun q F s K M k=>ev_and (A.ev q M fun x s1 M1 N1 r1=>⟨false,r1,k _ s1 M1 N1 rfl⟩)⟩
  ·exact fun v c' e=>let B:=hf b c1 v c' e; ⟨fun q=>A.cs (B.cs q),fun q F s K M k=>ev_and (A.ev (B.cs q) M fun x s1 M1 N1 r1=>⟨true,r1,B.ok q F s1 K M1 (k.st N1)⟩)⟩
  ·exact fun v c' e=>let B:=hf b c1 v c' e; ⟨fun q=>A.cs (B.cs q),fun q F s K M k=>ev_or (A.ev (B.cs q) M fun x s1 M1 N1 r1=>⟨false,r1,B.ok q F s1 K M1 (k.st N1)⟩)⟩
  ·exact .some ⟨A.cs,fun q F s K M k=>ev_or (A.ev q M fun x s1 M1 N1 r1=>⟨true,r1,k _ s1 M1 N1 rfl⟩)⟩
 ·exact .none
theorem jAt_ok(kk:KOK W){o:Expr}{x:Str}{p:Pos}:Ok (jAt f o x c) (EvJ W n env (.Attribute o x p) c) :=
 .gd fun hb=>.bnd (hf o c) fun vo c1 A=>.ob fun w hw=>.some ⟨A.cs,fun q F s K M k=>ev_attr hb (A.ev q M fun xo s1 M1 N1 r1=>jAttr_ok kk M1 r1 w hw K fun z rz=>k z s1 M1 N1 rz)⟩
theorem jSu_ok{ev:Option (V × Cf)}{o i:Expr}{p:Pos}(he:Ok ev (EvJ W n env (.Subscript o i p) c)):Ok (jSu f ev o i c) (EvJ W n env (.Subscript o i p) c) :=
 .sel (fun hs=>.bnd (hf o c) fun va c1 A=>.bnd (hf i c1) fun vb c2 B=>.gd fun hh v c' e=>let C:=jItem_ok (W:=W) (n:=n) v c' e
 ⟨fun q=>A.cs (B.cs (C.cs q)),fun q F s K M k=>ev_item hs (A.ev (B.cs (C.cs q)) M fun xa s1 M1 N1 r1=>B.ev (C.cs q) M1 fun xb s2 M2 N2 r2=>C.ok q F s2 K M2 (k.st (N1.trans N2)) xa xb (r1.hold N2 hh) r2)⟩) he
theorem jMe_ok(kk:KOK W){o:Expr}{x:Str}{apos pos:Pos}:Ok (jMe W n f o x apos es pos c) (EvJ W n env (.Call (.Attribute o x apos) es [] pos) c):=by
 refine .gd fun hb=>.bnd (hf o c) fun vo c1 A=>.ob fun mk hm=>.bnd (jL_ok hf) fun vs c2 B=>.gd fun hh v c' e=>?_
 have C:=jDo_ok (W:=W) (n:=n) v c' e
 have b1:=and2' hb
 have b2:=and2' b1.1
 have b3:=and2' b2.1
 refine ⟨fun q=>A.cs (B.cs (C.cs q)),fun q F s K M k=>ev_meth b3.1 ((star_eq' _).trans b3.2) (of_decide_eq_true b2.2) (beq_iff_eq.mp b1.2) (A.ev (B.cs (C.cs q)) M fun xo s1 M1 N1 r1=>?_)⟩
 exact jRes_ok kk M1 r1 mk hm (fun f first σ₂=>Evs W n env F.m es (fun vs σ₃=>Callee W n f (first++vs) K σ₃) σ₂) (B.evs (C.cs q) M1 fun xs s2 M2 N2 rs=>C.ok q F s2 K M2 (k.st (N1.trans N2)) xo xs (r1.hold N2 hh) rs)
theorem jFn_ok{fn:Expr}{pos:Pos}(ha:notAttr fn=true):Ok (jFn W n f fn es c) (EvJ W n env (.Call fn es [] pos) c) :=
 .gd fun hs=>.bnd (hf fn c) fun vf c1 A=>.bnd (jL_ok hf) fun vs c2 B=>.gd fun hh v c' e=>let C:=jCall_ok (W:=W) (n:=n) v c' e
 ⟨fun q=>A.cs (B.cs (C.cs q)),fun q F s K M k=>ev_call ha ((star_eq' _).trans hs) (A.ev (B.cs (C.cs q)) M fun xf s1 M1 N1 r1=>B.evs (C.cs q) M1 fun xs s2 M2 N2 rs=>C.ok q F s2 K M2 (k.st (N1.trans N2)) xf xs (r1.hold N2 hh) rs)⟩
theorem jCl_ok(kk:KOK W){fn:Expr}{ks:List Keyword}{pos:Pos}:Ok (jCl W n f fn es ks pos c) (EvJ W n env (.Call fn es ks pos) c):=by
 cases ks with
 | cons _ _=>exact .none
 | nil =>
  cases fn with
  | Attribute o x apos=>exact jMe_ok hf kk
  | _=>exact jFn_ok hf rfl
theorem jLi_ok{p:Pos}:Ok (jLi f es c) (EvJ W n env (.List es p) c):=by
 refine .gd fun hs=>.bnd (jL_ok hf) fun vs c1 B=>.bnd frzL_ok fun us O1 A=>.new rfl ⟨B.cs,fun q F s K M k=>Ev.gh (v_list ((star_eq' _).trans (and2' hs).1) (of_decide_eq_true (and2' hs).2) (B.evs q M fun xs s1 M1 N1 rs a ha=>?_))⟩
 exact A xs (M1.sim.newG (o:=.list xs) ha) rs fun σ2 Z ru=>⟨σ2,Z.g,k _ ⟨s1.ρ,s1.κ++[a],σ2⟩ ⟨Z.m.adopt ⟨xs,rfl,ru⟩,(M1.loc.mono Z.w).mono (.K (s1.to σ2) [a])⟩ (N1.trans (.of Z.p (.app _ _) (.refl _))) ⟨a,Z.m.klen▸Px.last _ _,rfl⟩⟩
theorem jTp_ok{p:Pos}{z:Nat}:Ok (jTp f es c) (EvJ W n env (.Tuple es z p) c):=by
 refine .gd fun hs=>.bnd (jL_ok hf) fun vs c1 B=>.bnd args_ok fun vs' O1 A=>?_
 have fin:∀{v:V},(∀ P xs a,P a=some (.tuple xs)→∀ ρ,RVs ⟨ρ,[],P⟩ vs' xs→∀ κ,RV ⟨ρ,κ,P⟩ v (.ref a))→EvJ W n env (.Tuple es z p) c v (c1.setO O1):=fun {v} H=>by
  refine ⟨B.cs,fun q F s K M k=>Ev.gh (v_tuple ((star_eq' _).trans (and2' hs).1) (of_decide_eq_true (and2' hs).2) (B.evs q M fun xs s1 M1 N1 rs a ha=>?_))⟩
  have V1:Vle s1.w (s1.to (s1.σ.newP a (.tuple xs))).w:=.P s1 (PL.newP ha)
  exact A xs (M1.sim.newP (o:=.tuple xs) ha) (rs.vs V1) fun σ2 Z rv=>⟨σ2,Z.g,k _ (s1.to σ2) ⟨Z.m,(M1.loc.mono V1).mono Z.w⟩ (N1.trans (.of (fun a o h=>Z.p _ _ (V1.p _ _ h)) (.refl _) (.refl _))) (H _ xs a (Z.p _ _ P_newP_eq) _ rv _)⟩
 refine .opt (fun us h=>.some (fin fun P xs a p ρ rv κ=>⟨a,xs,rfl,p,?_⟩)) (.ob fun ts h=>.some (fin fun P xs a p ρ rv κ=>⟨a,xs,rfl,p,?_⟩))
 ·refine L2.ru (mapO_ok (R:=RV ⟨ρ,[],P⟩) (fun v u x e r=>?_) us h xs rv)
  cases v with
  | u u=>cases e; exact r
  | _=>cases e
 ·refine mapO_ok (R:=RV ⟨ρ,[],P⟩) (fun v u x e r=>?_) ts h xs rv
  cases v with
  | u u=>cases e; exact r
  | s k=>cases e; exact r
  | _=>cases e
end
theorem jE_ok(kk:KOK W)(ho:env.scope=osc)(hg:GOK W g){k:Nat}:FJ W n env (jE W n osc g k):=by
 induction k with
 | zero=>exact fun _ _=>.none
 | succ k IH =>
  intro e c
  cases e with
  | Name x p=>exact jN_ok ho hg
  | Constant b z p=>exact jConst_ok
  | BinOp a op b p=>exact jBo_ok IH
  | UnaryOp op a p=>exact jUn_ok IH
  | Compare a ops es p=>exact jCe1_ok IH
  | BoolOp op es p=>exact jBv_ok IH
  | IfExp t a b p=>exact jIf_ok IH
  | Attribute o x p=>exact jAt_ok IH kk
  | Subscript o i p=>exact jSu_ok IH (jEv_ok ho)
  | Call fn es ks pos=>exact jCl_ok IH kk
  | List es p=>exact jLi_ok IH
  | Tuple es k p=>exact jTp_ok IH
  | Dict ks vs p=>exact jDi_ok
  | ListComp elt gs sc pos=>exact jEv_ok ho
  | _=>exact .none
end
end
section
section
section
variable {S O:List Cell}{G hk L:List (Addr × AO)}{s:Sx}{a b:Addr}{c:Cell}{k:Nat}{σ:St}{R:Prop}
theorem Sim.outO(M:Sim S O G s)(h:O[k]?=some c)(K:∀ a hk,s.κ[k]?=some a→RC s.w a c hk→Sim S (O.set k .hid) (hk++G) s→R):R:=by
 cases M with
 | mk h1 h2 X Y B =>
  refine Y.split h fun a g1 gk g2 q1 q2 q3 q4=>K a gk q1 q3 ⟨h1,_,X,q4 s.w .hid [] (.refl _) rfl,B.perm (List.Perm.append_left h1 ?_)⟩
  rw [q2,List.nil_append,List.append_assoc,List.append_assoc,List.append_assoc]
  exact List.Perm.append_left g1 (List.perm_append_comm_assoc gk g2 G)
theorem Sim.outS(M:Sim S O G s)(h:S[k]?=some c)(K:∀ a hk,s.ρ[k]?=some a→RC s.w0 a c hk→Sim (S.set k .hid) O (hk++G) s→R):R:=by
 cases M with
 | mk h1 h2 X Y B =>
  refine X.split h fun a g1 gk g2 q1 q2 q3 q4=>K a gk q1 q3 ⟨_,h2,q4 s.w0 .hid [] (.refl _) rfl,Y,B.perm ?_⟩
  rw [q2,List.nil_append,List.append_assoc,List.append_assoc,List.append_assoc]
  exact List.Perm.append_left g1 ((List.perm_append_comm_assoc gk g2 _).trans (List.Perm.append_left g2 (List.perm_append_comm_assoc gk h2 G)))
theorem Sim.inS(M:Sim S O (hk++G) s)(h:S[k]?=some .hid)(ha:s.ρ[k]?=some a)(r:RC s.w0 a c hk):Sim (S.set k c) O G s:=by
 cases M with
 | mk h1 h2 X Y B =>
  refine X.split h fun a' g1 gk g2 q1 q2 q3 q4=>?_
  rw [ha] at q1; cases q1
  cases q3
  refine ⟨_,h2,q4 s.w0 c hk (.refl _) r,Y,B.perm ?_⟩
  rw [q2,List.nil_append,List.append_assoc,List.append_assoc,List.append_assoc]
  exact List.Perm.append_left g1 ((List.Perm.append_left g2 (List.perm_append_comm_assoc h2 hk G)).trans (List.perm_append_comm_assoc g2 hk _))
theorem Sim.adoptS(M:Sim S O (hk++G) s)(r:RC ⟨s.ρ++[a],[],s.σ.P⟩ a c hk):Sim (S++[c]) O G ⟨s.ρ++[a],s.κ,s.σ⟩:=by
 cases M with
 | mk h1 h2 X Y B =>
  refine ⟨h1++hk,h2,RCs.app (RCs.one r) (RCs.mono (w:=s.w0) ⟨.app _ _,.refl _,fun _ _ h=>h⟩ X),RCs.mono (w:=s.w) ⟨.app _ _,.refl _,fun _ _ h=>h⟩ Y,B.perm ?_⟩
  rw [List.append_assoc]
  exact List.Perm.append_left h1 (List.perm_append_comm_assoc h2 hk G)
end
noncomputable def lput:List (Str × V)→Str→V→List (Str × V)
 | [],x,v=>[(x,v)]
 | (y,u) :: r,x,v=>match y==x with
  | true=>(y,v) :: r
  | false=>(y,u) :: lput r x v
noncomputable def lputs:List (Str × V)→List Str→List V→List (Str × V)
 | l,x :: xs,v :: vs=>lputs (lput l x v) xs vs
 | l,_,_=>l
noncomputable def RFl(w:Vw):Fl→Flow→Prop
 | .next,f=>f=.next
 | .brk,f=>f=.brk
 | .cont,f=>f=.cont
 | .ret v,f=>∃ x,f=.ret x∧RV w v x
section
variable {KK:Params→Frag}(W:Wd KK)(n:Nat)
noncomputable def ExS(osc:Scope)(st:Stmt)(l:List (Str × V))(S O:List Cell)(fl:Fl)(l':List (Str × V))(S' O':List Cell)(rls:List Nat):Prop :=
 ∀ env,env.scope=osc→∀(F:Fr) s K,Sim S O F.G s→LR s.w F.m l→(∀ f m' s',Sim S' O' F.G s'→LR s'.w m' l'→Pa rls s.ρ s'.ρ→Px s.κ s'.κ→RFl s'.w fl f→K f m' s'.σ)→Ex W n env F.m st K s.σ
noncomputable def jSv(osc:Scope)(st:Stmt):Cf→Option (Fl × Cf)
 | ⟨l0,S0,O0,rl,or,cs⟩=>match or with
  | .lp fl l S O rls :: r=>some (fl,⟨l,S,O,rls++rl,r,ExS W n osc st l0 S0 O0 fl l S O rls :: cs⟩)
  | .la l S O rls :: r=>some (.next,⟨l,S,O,rls++rl,r,ExS W n osc st l0 S0 O0 .next l S O rls :: cs⟩)
  | _=>none
end
noncomputable def Cf.put:Cf→Str→V→Cf
 | ⟨l,S,O,rl,or,cs⟩,x,v=>⟨lput l x v,S,O,rl,or,cs⟩
noncomputable def Cf.puts:Cf→List Str→List V→Cf
 | ⟨l,S,O,rl,or,cs⟩,xs,vs=>⟨lputs l xs vs,S,O,rl,or,cs⟩
noncomputable def isLp:List Orc→Bool
 | .la .. :: _=>true
 | _=>false
noncomputable def isO:V→Option Nat
 | .o j=>some j
 | _=>none
noncomputable def isSk:V→Option Nat
 | .s j=>some j
 | _=>none
noncomputable def notO(v:V):Bool:=(isO v).isNone
noncomputable def asA:Cell→Option (Addr × List (Str × V))
 | .attrs C fs=>some (C,fs)
 | _=>none
noncomputable def asD:Cell→Option (List Int × List U)
 | .dict ks us=>some (ks,us)
 | _=>none
noncomputable def adC(n:Nat):Cell→Option Cell
 | .list us=>some (.list us)
 | .dict [] []=>some (.mem n fun _=>0)
 | _=>none
noncomputable def jAd(k j:Nat)(x:Str):Cf→Option Cf
 | ⟨l,S,O,rl,or,cs⟩=>match or with
  | .ad n :: r=>(S[k]?).bind fun c0=>bnd (asA c0) fun C fs=>gd (AT C x&&Nat.ble fs.length 400) ((O[j]?).bind fun c1=>(adC n c1).bind fun cl=>some ⟨l,S.set k (.attrs C (lput fs x (.s S.length)))++[cl],O.set j .hid,rl,r,cs⟩)
  | _=>none
noncomputable def frcF{β:Type}:List (Str × V)→(List (Str × V)→β)→β
 | [],k=>k []
 | (x,v) :: r,k=>frcF r fun r'=>k ((x,v) :: r')
noncomputable def frcC{β:Type}(x:Cell)(k:Cell→β):β:=match x with
 | .attrs C fs=>frcF fs fun fs'=>k (.attrs C fs')
 | x=>k x
noncomputable def frcO{β:Type}:List Cell→(List Cell→β)→β
 | [],k=>k []
 | x :: r,k=>frcC x fun x'=>frcO r fun r'=>k (x' :: r')
noncomputable def Cf.frc:Cf→Option Cf
 | ⟨l,S,O,rl,or,cs⟩=>frcO O fun O'=>some ⟨l,S,O',rl,or,cs⟩
theorem frcF_eq{β:Type}(l:List (Str × V)):∀ k:List (Str × V)→β,frcF l k=k l:=by
 induction l with
 | nil=>exact fun _=>rfl
 | cons p r ih=>exact fun k=>ih _
theorem frcO_eq{β:Type}(l:List Cell):∀ k:List Cell→β,frcO l k=k l:=by
 induction l with
 | nil=>exact fun _=>rfl
 | cons x r ih =>
  intro k
  cases x with
  | attrs C fs=>exact (frcF_eq fs _).trans (ih _)
  | _=>exact ih _
theorem Cf.frc_eq(c:Cf):c.frc=some c:=frcO_eq _ _
noncomputable def jSetA(vo:V)(x:Str)(v:V)(c:Cf):Option Cf:=(c.cell vo).bind fun cl=>bnd (asA cl) fun C fs=>sel (AT C x&&(Nat.ble fs.length 400&&(notO v||!notO vo))) ((c.setC vo (.attrs C (lput fs x v))).frc)
 ((isO v).bind fun j=>(isSk vo).bind fun k=>jAd k j x c)
noncomputable def siC(k:Int)(vo v:V)(c:Cf):Cell→Option Cf
 | .mem n f=>gd (Nat.ble n 100000) ((uInt v).bind fun i=>some ((c.setC vo (.mem n (mset f k i))).say (0≤k∧k < n)))
 | .list _=>bnd (frz v c.O) fun u O1=>((c.setO O1).cell vo).bind fun cl=>(asL cl).bind fun us=>some (((c.setO O1).setC vo (.list (us.set k.toNat u))).say (0≤k∧k < 2 ^ 63∧k < us.length))
 | .dict _ _=>bnd (frz v c.O) fun u O1=>((c.setO O1).cell vo).bind fun cl=>bnd (asD cl) fun ks us=>some (((c.setO O1).setC vo (.dict (ks++[k]) (us++[u]))).say (k ∉ ks∧ks.length≤sizeLine))
 | _=>none
noncomputable def jSetI(vo vi v:V)(c:Cf):Option Cf:=(uInt vi).bind fun k=>(c.cell vo).bind (siC k vo v c)
noncomputable def jInp(op:Operator)(v0 v:V)(c:Cf):Option (V × Cf):=gd (isAdd op) (opt (uInt v0) (fun i=>(uInt v).bind fun j=>some (.u (.int (i+j)),c))
 ((c.cell v0).bind fun cl=>(asL cl).bind fun us=>(c.list v).bind fun ws=>some (v0,(c.setC v0 (.list (us++ws))).say (us.length+ws.length≤sizeLine))))
noncomputable def tV:T→V
 | .u u=>.u u
 | .s k=>.s k
noncomputable def jUnp(v:V):Option (List V):=match v with
 | .u (.tup us)=>some (us.map V.u)
 | .t ts=>some (ts.map tV)
 | _=>none
noncomputable def noRef:V→Bool
 | .u .none=>true
 | .u (.int _)=>true
 | _=>false
noncomputable def notTup:Expr→Bool
 | .Tuple ..=>false
 | .List ..=>false
 | _=>true
noncomputable def notSD:Expr→Bool
 | .SetComp ..=>false
 | .DictComp ..=>false
 | _=>true
noncomputable def okN(osc:Scope)(x:Str):Bool:=(osc.names.lookup x==some .local||osc.names.lookup x==some .cell)&&x != "__debug__"&&x != "__classdict__"
section
variable (f:Expr→Cf→Option (V × Cf))(osc:Scope)
noncomputable def jAsN(x:Str)(e:Expr)(c:Cf):Option Cf:=gd (notComp e&&okN osc x) (bnd (f e c) fun v c1=>some (c1.put x v))
noncomputable def jAsA(o:Expr)(x:Str)(e:Expr)(c:Cf):Option Cf:=gd (notSD e) (bnd (f e c) fun v c1=>bnd (f o c1) fun vo c2=>gd (hold v c1 c2) (jSetA vo x v c2))
noncomputable def jAsI(o i e:Expr)(c:Cf):Option Cf:=bnd (f e c) fun v c1=>bnd (f o c1) fun vo c2=>bnd (f i c2) fun vi c3=>gd (hold v c1 c3&&hold vo c2 c3) (jSetI vo vi v c3)
noncomputable def jAsT(es:List Expr)(e:Expr)(c:Cf):Option Cf:=(namesOfEs es).bind fun xs=>gd (notComp e&&(notTup e&&okNames osc xs)) (bnd (f e c) fun v c1=>(jUnp v).bind fun vs=>gd (Nat.beq vs.length xs.length) (some (c1.puts xs vs)))
noncomputable def jAsg(t e:Expr)(c:Cf):Option Cf:=match t with
 | .Name x _=>jAsN f osc x e c
 | .Attribute o x _=>jAsA f o x e c
 | .Subscript o i _=>jAsI f o i e c
 | .Tuple es _ _=>jAsT f osc es e c
 | _=>none
noncomputable def jAug(t:Expr)(op:Operator)(e:Expr)(c:Cf):Option Cf:=match t with
 | .Name x _=>gd (okN osc x) ((c.l.lookup x).bind fun v0=>bnd (f e c) fun v c1=>gd (hold v0 c c1) (bnd (jInp op v0 v c1) fun w c2=>some (c2.put x w)))
 | _=>none
noncomputable def jExp(e:Expr)(c:Cf):Option Cf:=gd (notComp e) (bnd (f e c) fun v c1=>gd (noRef v) (some c1))
noncomputable def jRet(e:Option Expr)(c:Cf):Option (Fl × Cf):=match e with
 | some e=>bnd (f e c) fun v c1=>some (.ret v,c1)
 | none=>some (.ret (.u .none),c)
end
noncomputable def jSs(f:Stmt→Cf→Option (Fl × Cf)):List Stmt→Cf→Option (Fl × Cf)
 | [],c=>some (.next,c)
 | s :: ss,c=>bnd (f s c) fun fl c1=>match fl with
  | .next=>jSs f ss c1
  | fl=>some (fl,c1)
noncomputable def nx(x:Option Cf):Option (Fl × Cf):=x.bind fun c=>some (.next,c)
section
variable {KK:Params→Frag}(W:Wd KK)(n:Nat)(osc:Scope)(g:List (Str × U))
noncomputable def jS:Nat→Stmt→Cf→Option (Fl × Cf)
 | 0,_,_=>none
 | k+1,s,c=>match s with
  | .Assign ts e p=>sel (isLp c.or) (jSv W n osc (.Assign ts e p) c) (match ts with
   | [t]=>nx (jAsg (jE W n osc g k) osc t e c)
   | _=>none)
  | .AugAssign t op e _=>nx (jAug (jE W n osc g k) osc t op e c)
  | .Return e _=>jRet (jE W n osc g k) e c
  | .If t a b _=>bnd (jT (jE W n osc g k) k t c) fun d c1=>sel d (jSs (jS k) a c1) (jSs (jS k) b c1)
  | .Expr e _=>nx (jExp (jE W n osc g k) e c)
  | .Pass _=>some (.next,c)
  | .Continue _=>some (.cont,c)
  | .Break _=>some (.brk,c)
  | .For a b d e p=>jSv W n osc (.For a b d e p) c
  | .While a b d p=>jSv W n osc (.While a b d p) c
  | _=>none
end
end
end
section
section
variable {KK:Params→Frag}{W:Wd KK}{n:Nat}{env:Env}{osc:Scope}{g:List (Str × U)}{m:Lm}{σ:St}{c c' c₁:Cf}{v:V}{F:Fr}{s s':Sx}{w:Vw}{rl rl':List Nat}{fl:Fl}
theorem Oc.sel{γ:Type}{b:Bool}{x y:Option γ}{Θ:γ→Prop}(k1:b=true→Oc x Θ)(k2:Oc y Θ):Oc (Mine.sel b x y) Θ:=by
 cases b with
 | true=>exact k1 rfl
 | false=>exact k2
noncomputable def Kx(fl:Fl)(c:Cf)(rl:List Nat)(F:Fr)(s:Sx)(K:Flow→Lm→St→Prop):Prop:=∀ f m' s',Sat c ⟨F.G,m'⟩ s'→Nx rl c.rl s s'→RFl s'.w fl f→K f m' s'.σ
structure OkX(T:Fr→Sx→(Flow→Lm→St→Prop)→Prop)(fl:Fl)(c c':Cf):Prop where
 cs:AllP c'.cs→AllP c.cs
 ok:AllP c'.cs→∀ F s K,Sat c F s→Kx fl c' c.rl F s K→T F s K
section
variable (W n env)
noncomputable def ExT(st:Stmt)(F:Fr)(s:Sx)(K:Flow→Lm→St→Prop):Prop:=Ex W n env F.m st K s.σ
noncomputable def ExsT(ss:List Stmt)(F:Fr)(s:Sx)(K:Flow→Lm→St→Prop):Prop:=Exs W n env F.m ss K s.σ
noncomputable abbrev ExJ(st:Stmt)(c:Cf)(fl:Fl)(c':Cf):Prop:=OkX (ExT W n env st) fl c c'
noncomputable abbrev ExsJ(ss:List Stmt)(c:Cf)(fl:Fl)(c':Cf):Prop:=OkX (ExsT W n env ss) fl c c'
noncomputable def SFJ(f:Stmt→Cf→Option (Fl × Cf)):Prop:=∀ s c,Ok (f s c) (ExJ W n env s c)
end
theorem Kx.st{K:Flow→Lm→St→Prop}{m':Lm}(k:Kx fl c' rl F s K)(N:Nx rl rl' s s'):Kx fl c' rl' ⟨F.G,m'⟩ s' K:=fun f m' _ M N' r=>k f m' _ M (N.trans N') r
theorem Kx.go{K:Flow→Lm→St→Prop}{f:Flow}{σ':St}(k:Kx fl c' rl F s K)(M:Sat c' F (s.to σ'))(e:c'.rl=rl)(p:PL s.σ.P σ'.P)(r:RFl (s.to σ').w fl f):K f F.m σ':=k f F.m (s.to σ') M (e▸.of p (.refl _) (.refl _)) r
theorem OkX.ex{st:Stmt}{K:Flow→Lm→St→Prop}(A:ExJ W n env st c fl c₁)(q:AllP c₁.cs)(M:Sat c F s)(k:∀ f m' s',Sat c₁ ⟨F.G,m'⟩ s'→Nx c.rl c₁.rl s s'→RFl s'.w fl f→K f m' s'.σ):Ex W n env F.m st K s.σ:=A.ok q F s K M k
theorem TrS.ple{α:Type}{own:Addr→Prop}{t:Sem α}{Q:α→Lm→St→Prop}(h:TrSo own W n env m t (fun v m' σ'=>PL σ.P σ'.P→Q v m' σ') σ):TrSo own W n env m t Q σ:=fun A s r R F =>
 wpS (h A s r R F) fun v s' m' σ' a f b q=>⟨m',σ',a,f,b,q b.mono⟩
section
variable {x:Str}
theorem lput_get{z:Str}{l:List (Str × V)}:(lput l x v).lookup z=if z=x then some v else l.lookup z:=by
 induction l with
 | nil =>
  show List.lookup z [(x,v)]=_
  rw [List.lookup_cons]
  by_cases q:z=x
  ·rw [if_pos q,beq_iff_eq.mpr q]
  ·rw [beq_eq_false_iff_ne.mpr q,if_neg q]
 | cons p r ih =>
  obtain ⟨y,u⟩:=p
  show (match y==x with | true=>(y,v) :: r | false=>(y,u) :: lput r x v).lookup z=_
  cases hy:y==x with
  | true =>
   obtain rfl:=beq_iff_eq.mp hy
   show ((y,v) :: r).lookup z=_
   rw [List.lookup_cons,List.lookup_cons]
   by_cases q:z=y
   ·rw [if_pos q,beq_iff_eq.mpr q]
   ·rw [beq_eq_false_iff_ne.mpr q,if_neg q]
  | false =>
   show ((y,u) :: lput r x v).lookup z=_
   rw [List.lookup_cons,List.lookup_cons,ih]
   by_cases q:z=y
   ·have hz:¬ z=x:=fun w=>beq_eq_false_iff_ne.mp hy (q.symm.trans w)
    rw [beq_iff_eq.mpr q,if_neg hz,if_neg hz]
   ·rw [beq_eq_false_iff_ne.mpr q]
theorem LR.put{l:List (Str × V)}{y:Value}(h:LR w m l)(r:RV w v y):LR w (upd m x y) (lput l x v):=fun z u e=>by
 rw [lput_get] at e
 by_cases q:z=x
 ·rw [if_pos q] at e; cases e; exact ⟨y,q▸upd_here,r⟩
 ·rw [if_neg q] at e
  obtain ⟨y',a,b⟩:=h z u e
  exact ⟨y',upd_there (beq_eq_false_iff_ne.mpr q) a,b⟩
theorem LR.puts{xs:List Str}:∀{vs:List V}{l:List (Str × V)}{m:Lm}{ws:List Value},LR w m l→RVs w vs ws→LR w (updAll m xs ws) (lputs l xs vs):=by
 induction xs with
 | nil=>intro vs l m ws h r; cases vs <;> cases ws <;> exact h
 | cons x xs ih =>
  intro vs l m ws h r
  cases r with
  | nil=>exact h
  | cons a b=>exact ih (h.put a) b
theorem RA.put{y:Value}{fs:List (Str × V)}{ys:List (Str × Value)}(h:L2 (RA w) fs ys)(r:RV w v y):L2 (RA w) (lput fs x v) (fput ys x y):=by
 induction h with
 | nil=>exact .cons ⟨rfl,r⟩ .nil
 | @cons a b as bs r' h ih =>
  obtain ⟨z,u⟩:=a
  obtain ⟨z',u'⟩:=b
  obtain ⟨e,ru⟩:=r'
  have e:z'=z:=e
  subst e
  unfold lput fput
  by_cases q:z'=x
  ·rw [if_pos q,beq_iff_eq.mpr q]; exact .cons ⟨rfl,r⟩ h
  ·rw [if_neg q,beq_eq_false_iff_ne.mpr q]; exact .cons ⟨rfl,ru⟩ ih
theorem lput_all{p:Str × V→Bool}{fs:List (Str × V)}(hx:p (x,v)=true)(h:fs.all p=true):(lput fs x v).all p=true:=by
 induction fs with
 | nil=>exact Bool.and_eq_true_iff.mpr ⟨hx,rfl⟩
 | cons q r ih =>
  obtain ⟨y,u⟩:=q
  rw [List.all_cons,Bool.and_eq_true] at h
  unfold lput
  cases hy:y==x with
  | true=>rw [List.all_cons,Bool.and_eq_true]; exact ⟨beq_iff_eq.mp hy▸hx,h.2⟩
  | false=>rw [List.all_cons,Bool.and_eq_true]; exact ⟨h.1,ih h.2⟩
end
theorem okN_of{x:Str}(ho:env.scope=osc)(h:okN osc x=true):(env.kindOf x=some .local∨env.kindOf x=some .cell)∧x≠"__debug__"∧x≠"__classdict__" :=
 okNames_of (xs:=[x]) ho (Bool.and_eq_true_iff.mpr ⟨h,rfl⟩) x (.head _)
theorem isO_eq:Oc (isO v) fun j=>v=.o j:=by
 cases v with
 | o j=>exact .some rfl
 | _=>exact .none
theorem isSk_eq:Oc (isSk v) fun j=>v=.s j:=by
 cases v with
 | s j=>exact .some rfl
 | _=>exact .none
theorem asA_eq{cl:Cell}:Ok (asA cl) fun C fs=>cl=.attrs C fs:=by
 cases cl with
 | attrs C fs=>exact .some rfl
 | _=>exact .none
theorem asD_eq{cl:Cell}:Ok (asD cl) fun C fs=>cl=.dict C fs:=by
 cases cl with
 | dict C fs=>exact .some rfl
 | _=>exact .none
theorem adC_ok{k:Nat}{cl:Cell}{b:Addr}{hk:List (Addr × AO)}:Oc (adC k cl) fun cl'=>RC w b cl hk→∀ w',w'.P=w.P→RC w' b cl' hk:=by
 cases cl with
 | list us=>exact .some fun ⟨ws,e,r⟩ w' h=>⟨ws,e,h▸r⟩
 | dict ks us =>
  cases ks with
  | nil =>
   cases us with
   | nil =>
    refine .some fun r w' _=>?_
    obtain ⟨kvs,e,h1,_⟩:=r
    rw [List.map_eq_nil_iff.mp h1] at e
    exact ⟨[],e,MemRel.nil _⟩
   | cons _ _=>exact .none
  | cons _ _=>exact .none
 | _=>exact .none
noncomputable def SetAT(W:Wd KK)(n:Nat)(vo:V)(x:Str)(v:V)(_:Fr)(s:Sx)(K:Unit→St→Prop):Prop:=∀ xo xv,RV s.w vo xo→RV s.w v xv→SetA W n xo x xv (K ()) s.σ
noncomputable def SetIT(W:Wd KK)(n:Nat)(vo vi v:V)(_:Fr)(s:Sx)(K:Unit→St→Prop):Prop:=∀ xo xi xv,RV s.w vo xo→RV s.w vi xi→RV s.w v xv→SetI W n xo xi xv (K ()) s.σ
noncomputable def Ru(_:Sx)(_:Unit):Prop:=True
theorem set_len{C:Addr}{fs:List (Str × V)}{ys:List (Str × Value)}{r:(Str × V)→(Str × Value)→Prop}(h:L2 r fs ys)(hl:Nat.ble fs.length 400=true):ys.length≤500:=by rw [h.len]; exact Nat.le_trans (Nat.le_of_ble_eq_true hl) (by decide)
theorem jAd_ok{k j:Nat}{x:Str}(kk:KOK W):Oc (jAd k j x c) fun c'=>OkJ (SetAT W n (.s k) x (.o j)) Ru c c':=by
 obtain ⟨l,S,O,rl,or,cs⟩:=c
 cases or with
 | nil=>exact .none
 | cons o r =>
  cases o with
  | ad N =>
   refine .ob fun c0 h0=>.bnd asA_eq fun C fs e0=>.gd fun hb=>.ob fun c1 h1=>.ob fun cl h2=>.some ⟨id,fun q F s K M k' xo xv ro rv=>?_⟩
   rw [e0] at h0
   have b1:=and2' hb
   refine M.sim.outO h1 fun b hk rb rc M1=>?_
   have M2:=M1.adoptS (a:=b) (adC_ok cl h2 rc _ rfl)
   have hk:k < S.length:=(List.getElem?_eq_some_iff.mp h0).1
   have V1:Vle s.w ⟨s.ρ++[b],s.κ,s.σ.P⟩:=⟨.app _ _,.refl _,fun _ _ h=>h⟩
   have M3:Sat ⟨l,S++[cl],O.set j .hid,rl,r,cs⟩ F ⟨s.ρ++[b],s.κ,s.σ⟩:=⟨M2,M.loc.mono V1⟩
   obtain ⟨b',rb',ex⟩:=rv
   rw [rb] at rb'; cases rb'
   apply M3.att (v:=.s k) (by show (S++[cl])[k]?=_; rw [List.getElem?_append_left hk]; exact h0) (ro.mono V1)
   intro a d ys q1 q2 q3 q4 upd
   have hv:RV ⟨s.ρ++[b],[],s.σ.P⟩ (.s S.length) xv:=⟨b,M.sim.slen▸Px.last _ _,ex⟩
   refine sa_inst (.P q1) q2 (kk.set_ _ _ b1.1) (set_len (C:=C) q4 b1.2) (k' () ⟨s.ρ++[b],s.κ,_⟩ ?_ (.of (fun _ _ h=>h) (.refl _) (.app _ _)) trivial)
   have M4:=upd _ _ (lput_all (p:=fun p=>AT C p.1) b1.1 q3) (RA.put q4 hv)
   exact ⟨List.set_append_left k _ hk▸M4.sim,M4.loc⟩
  | _=>exact .none
theorem jSetA_ok{vo:V}{x:Str}(kk:KOK W):Oc (jSetA vo x v c) fun c'=>OkJ (SetAT W n vo x v) Ru c c':=by
 refine .ob fun cl hc=>.bnd asA_eq fun C fs e=>.sel (fun hb=>?_) (.ob fun j hj=>.ob fun k hk=>?_)
 ·rw [e] at hc
  rw [Cf.frc_eq]
  refine .some ⟨AllP_setC _ _ _,fun q F s K M k xo xv ro rv=>?_⟩
  have b1:=and2' hb
  have b2:=and2' b1.2
  apply M.att hc ro
  intro a d ys q1 q2 q3 q4 upd
  refine sa_inst (.P q1) q2 (kk.set_ _ _ b1.1) (set_len (C:=C) q4 b2.1) (k.to (y:=()) (upd _ _ (lput_all (p:=fun p=>AT C p.1) b1.1 q3) (RA.put q4 ?_)) (setC_rl _ _ _) (fun _ _ h=>h) trivial)
  cases vo with
  | o z=>exact rv
  | _ =>
   have hv:notO v=true:=(Bool.or_eq_true_iff.mp b2.2).elim id fun h=>absurd (show false=true from h) (by decide)
   cases v with
   | o _=>cases hv
   | _=>exact rv
 ·cases isO_eq j hj
  cases isSk_eq k hk
  exact jAd_ok kk
theorem SetI.ghost{a b d:Value}{Q:St→Prop}{σ':St}(g:Ghost σ σ')(h:SetI W n a b d Q σ'):SetI W n a b d Q σ:=fun o i x e1 e2 e3=>(h o i x e1 e2 e3).ghost g
theorem Sat.dct{K:Value→Prop}{x:Value}{ks:List Int}{us:List U}(M:Sat c F s)(hc:c.cell v=some (.dict ks us))(r:RV s.w v x)(k:∀ a kvs,s.σ.H a=some (.dict kvs)→kvs.map (·.1)=ks→RL s.σ.P us (kvs.map (·.2))→(∀ ks' us' kvs',kvs'.map (·.1)=ks'→RL s.σ.P us' (kvs'.map (·.2))→Sat (c.setC v (.dict ks' us')) F (s.to (s.σ.put a (.dict kvs'))))→K (.ref a)):K x:=by
 apply M.acc hc r
 intro a hk rc hH upd
 obtain ⟨kvs,q,t,z⟩:=rc
 exact k a kvs (hH (a,.dict kvs) (by rw [q]; exact .head _)) t (wvP s v▸z) fun ks' us' kvs' t' z'=>upd a _ _ _ q ⟨kvs',rfl,t',(wvP s v).symm▸z'⟩
theorem stored_new{ks:List Int}{kvs:List (Int × Value)}{k:Int}{x:Value}(h:k ∉ ks)(e:kvs.map (·.1)=ks):stored kvs k x=kvs++[(k,x)]:=by
 unfold stored
 rw [if_neg]
 intro hany
 obtain ⟨p,hp,he⟩:=List.any_eq_true.mp hany
 exact h (e▸List.mem_map.mpr ⟨p,hp,of_decide_eq_true he⟩)
theorem siC_ok{vo:V}{i:Int}{cl:Cell}(hc:c.cell vo=some cl):Oc (siC i vo v c cl) fun c'=>OkJ (SetIT W n vo (.u (.int i)) v) Ru c c':=by
 cases cl with
 | mem N f =>
  refine .gd fun hn=>.ob fun j hj=>.some ⟨fun h=>AllP_setC _ _ _ h.2,fun q F s K M k xo xi xv ro ri rv=>?_⟩
  cases uInt_eq hj
  cases ri; cases rv
  apply M.mem hc ro
  intro a kvs hH mr upd
  have hl:=Nat.le_of_ble_eq_true hn
  have ml:=mr.len
  exact si_dict hH (by rw [sizeLine_eq]; exact lin [] [_,_] [6553608212,32836] 8796093120580 21370435 rfl hl ml) (k.to (y:=()) (upd _ _ (mr.set q.1.1 q.1.2)).as (setC_rl c vo (.mem N (mset f i j))) (fun _ _ h=>h) trivial)
 | list us0 =>
  refine .bnd frz_ok fun u O1 A=>.ob fun cl hc=>.ob fun us hl=>.some ⟨fun h=>AllP_setC (c.setO O1) vo _ h.2,fun q F s K M k xo xi xv ro ri rv=>?_⟩
  cases ri
  refine A xv M.sim rv fun σ1 Z ru=>SetI.ghost Z.g ?_
  have M1:Sat (c.setO O1) F (s.to σ1):=⟨Z.m,M.loc.mono Z.w⟩
  apply M1.lst hc hl (ro.mono Z.w)
  intro a ws hH rw' upd
  exact si_list hH q.1.1 q.1.2.1 (by rw [rw'.len]; exact q.1.2.2) (k.to (y:=()) (upd _ _ (rw'.set ru _)).as (setC_rl (c.setO O1) vo (.list (us.set i.toNat u))) Z.p trivial)
 | dict _ _ =>
  refine .bnd frz_ok fun u O1 A=>.ob fun cl hc=>.bnd asD_eq fun ks us e=>.some ⟨fun h=>AllP_setC (c.setO O1) vo _ h.2,fun q F s K M k xo xi xv ro ri rv=>?_⟩
  cases ri
  rw [e] at hc
  refine A xv M.sim rv fun σ1 Z ru=>SetI.ghost Z.g ?_
  have M1:Sat (c.setO O1) F (s.to σ1):=⟨Z.m,M.loc.mono Z.w⟩
  apply M1.dct hc (ro.mono Z.w)
  intro a kvs hH ht rl' upd
  have hst:=stored_new (x:=xv) q.1.1 ht
  refine si_dict hH (by rw [← List.length_map (f:=(·.1)) (as:=kvs),ht]; exact q.1.2) ?_
  rw [hst]
  exact k.to (y:=()) (upd (ks++[i]) (us++[u]) _ (by rw [List.map_append,ht]; rfl) (by rw [List.map_append]; exact rl'.app (.cons ru .nil))).as (setC_rl (c.setO O1) vo (.dict (ks++[i]) (us++[u]))) Z.p trivial
 | _=>exact .none
theorem jSetI_ok{vo vi:V}:Oc (jSetI vo vi v c) fun c'=>OkJ (SetIT W n vo vi v) Ru c c':=.ob fun i hi=>by
 cases uInt_eq hi
 exact .ob fun cl hc=>siC_ok hc
noncomputable def InpT(W:Wd KK)(n:Nat)(op:Operator)(v0 v:V)(_:Fr)(s:Sx)(K:Value→St→Prop):Prop:=∀ x0 x,RV s.w v0 x0→RV s.w v x→Inp W n op x0 x K s.σ
theorem jInp_ok{op:Operator}{v0:V}:Ok (jInp op v0 v c) fun w c'=>OkJ (InpT W n op v0 v) (Rv w) c c':=by
 cases op with
 | Add =>
  refine Ok.opt (fun i hi=>.ob fun j hj=>.some ⟨id,fun q F s K M k x0 x r0 r=>?_⟩) (.ob fun cl hc=>.ob fun us hl=>.ob fun ws hw=>.some ⟨fun h=>AllP_setC _ _ _ h.2,fun q F s K M k x0 x r0 r=>?_⟩)
  ·cases uInt_eq hi; cases uInt_eq hj
   cases r0; cases r
   exact p_add (k.go M rfl rfl)
  ·apply M.list hw r
   intro b ys kn ry
   refine M.lst (K:=fun x0=>RV s.w v0 x0→Inp W n .Add x0 (.ref b) K s.σ) hc hl r0 (fun a xs hH rx upd r0=>?_) r0
   exact p_list hH kn (by rw [rx.len,ry.len]; exact q.1) (k.to (upd _ _ (rx.app ry)).as (setC_rl c v0 (.list (us++ws))) (fun _ _ h=>h) r0)
 | _=>exact .none
theorem jUnp_ok:Oc (jUnp v) fun vs=>∀{w x}{K:Value→Prop},RV w v x→(∀ a ws,w.P a=some (.tuple ws)→RVs w vs ws→K (.ref a))→K x:=by
 cases v with
 | u u =>
  cases u with
  | tup us=>exact .some fun r k=>RU.tup r fun a ws p q=>k a ws p (q.map fun _ _ r=>r)
  | _=>exact .none
 | t ts=>exact .some fun r k=>RV.tup r fun a ws p q=>k a ws p (q.map fun t _ r=>by cases t <;> exact r)
 | _=>exact .none
theorem noRef_ok{x:Value}(e:noRef v=true)(r:RV w v x):∀ a,x≠.ref a:=fun a q=>by
 cases v with
 | u u =>
  cases u with
  | none=>exact nomatch q.symm.trans r
  | int i=>exact nomatch q.symm.trans r
  | _=>cases e
 | _=>cases e
theorem jSs_ok{f:Stmt→Cf→Option (Fl × Cf)}(hf:SFJ W n env f){ss:List Stmt}:∀{c:Cf},Ok (jSs f ss c) (ExsJ W n env ss c):=by
 induction ss with
 | nil=>exact .some ⟨id,fun q F s K M k=>exs_nil (k.go M rfl (fun _ _ h=>h) rfl)⟩
 | cons st ss ih =>
  intro c
  refine .bnd (hf st c) fun f1 c1 A=>?_
  cases f1 with
  | next=>exact fun fl c' e=>let B:=ih (c:=c1) fl c' e; ⟨fun q=>A.cs (B.cs q),fun q F s K M k=>exs_cons (A.ex (B.cs q) M fun f m' s1 M1 N1 (r1:f=.next)=>by rw [r1]; exact B.ok q ⟨F.G,m'⟩ s1 K M1 (k.st N1))⟩
  | brk=>exact .some ⟨A.cs,fun q F s K M k=>exs_cons (A.ex q M fun f m' s1 M1 N1 (r1:f=.brk)=>by rw [r1]; exact k _ m' s1 M1 N1 rfl)⟩
  | cont=>exact .some ⟨A.cs,fun q F s K M k=>exs_cons (A.ex q M fun f m' s1 M1 N1 (r1:f=.cont)=>by rw [r1]; exact k _ m' s1 M1 N1 rfl)⟩
  | ret v=>exact .some ⟨A.cs,fun q F s K M k=>exs_cons (A.ex q M fun f m' s1 M1 N1 r1=>by obtain ⟨x,e,r⟩:=r1; rw [e]; exact k _ m' s1 M1 N1 ⟨x,rfl,r⟩)⟩
theorem jSv_ok{st:Stmt}(ho:env.scope=osc):Ok (jSv W n osc st c) (ExJ W n env st c):=by
 obtain ⟨l,S,O,rl,or,cs⟩:=c
 have main:∀{fl l' S' O' rls r},ExJ W n env st ⟨l,S,O,rl,or,cs⟩ fl ⟨l',S',O',rls++rl,r,ExS W n osc st l S O fl l' S' O' rls :: cs⟩:=fun {fl l' S' O' rls r}=>⟨fun h=>h.2,fun q F s K M k=>TrS.ple (q.1 env ho F s (fun f m' σ'=>PL s.σ.P σ'.P→K f m' σ') M.sim M.loc fun f m' s' M' L pa pk r pl=>k f m' s' ⟨M',L⟩ ⟨pl,pk,rls,rfl,pa⟩ r)⟩
 cases or with
 | nil=>exact .none
 | cons o r =>
  cases o with
  | lp fl l' S' O' rls=>exact .some main
  | la l' S' O' rls=>exact .some main
  | _=>exact .none
section
variable {f:Expr→Cf→Option (V × Cf)}(E:FJ W n env f)
include E
theorem jAsN_ok(ho:env.scope=osc){x:Str}{e:Expr}{p p':Pos}:Oc (jAsN f osc x e c) (ExJ W n env (.Assign [.Name x p'] e p) c .next) :=
 .gd fun hb=>.bnd (E e c) fun v c1 A=>.some (have b2:=okN_of ho (and2' hb).2; ⟨A.cs,fun q F s K M k=>ex_assign (and2' hb).1 b2.1 b2.2.1 b2.2.2 (A.ev q M fun y s1 M1 N1 r1=>k _ _ s1 ⟨M1.sim,M1.loc.put r1⟩ N1 rfl)⟩)
theorem jAsA_ok(kk:KOK W){o e:Expr}{x:Str}{p p':Pos}:Oc (jAsA f o x e c) (ExJ W n env (.Assign [.Attribute o x p'] e p) c .next) :=
 .gd fun hb=>.bnd (E e c) fun v c1 A=>.bnd (E o c1) fun vo c2 B=>.gd fun hh c' e'=>let C:=jSetA_ok kk c' e'
 ⟨fun q=>A.cs (B.cs (C.cs q)),fun q F s K M k=>ex_setattr (.inr hb) (A.ev (B.cs (C.cs q)) M fun xv s1 M1 N1 r1=>B.ev (C.cs q) M1 fun xo s2 M2 N2 r2=>C.ok q F s2 (fun _ σ=>K .next F.m σ) M2 (fun _ s3 M3 N3 _=>k _ _ s3 M3 ((N1.trans N2).trans N3) rfl) xo xv r2 (r1.hold N2 hh))⟩
theorem jAsI_ok{o i e:Expr}{p p':Pos}:Oc (jAsI f o i e c) (ExJ W n env (.Assign [.Subscript o i p'] e p) c .next) :=
 .bnd (E e c) fun v c1 A=>.bnd (E o c1) fun vo c2 B=>.bnd (E i c2) fun vi c3 C=>.gd fun hh c' e'=>let D:=jSetI_ok (W:=W) (n:=n) c' e'
 ⟨fun q=>A.cs (B.cs (C.cs (D.cs q))),fun q F s K M k=>ex_setitem (A.ev (B.cs (C.cs (D.cs q))) M fun xv s1 M1 N1 r1=>B.ev (C.cs (D.cs q)) M1 fun xo s2 M2 N2 r2=>C.ev (D.cs q) M2 fun xi s3 M3 N3 r3 =>
  D.ok q F s3 (fun _ σ=>K .next F.m σ) M3 (fun _ s4 M4 N4 _=>k _ _ s4 M4 (((N1.trans N2).trans N3).trans N4) rfl) xo xi xv (r2.hold N3 (and2' hh).2) r3 (r1.hold (N2.trans N3) (and2' hh).1))⟩
theorem jAsT_ok(ho:env.scope=osc){es:List Expr}{e:Expr}{z:Nat}{p p':Pos}:Oc (jAsT f osc es e c) (ExJ W n env (.Assign [.Tuple es z p'] e p) c .next) :=
 .ob fun xs hx=>.gd fun hb=>.bnd (E e c) fun v c1 A=>.ob fun vs hv=>.gd fun hl=>.some (have b1:=and2' hb; have b2:=and2' b1.2; ⟨A.cs,fun q F s K M k=>ex_unpack b1.1 (by cases e <;> first | rfl | exact b2.1) hx (okNames_of ho b2.2) (A.ev q M fun y s1 M1 N1 r1=>by
  refine jUnp_ok vs hv (K:=fun y=>BindT (.many xs) y F.m s1.σ fun m'=>K .next m' s1.σ) r1 fun a ws p rs=>?_
  exact ⟨a,ws,rfl,.P p,by rw [rs.len]; exact Nat.eq_of_beq_eq_true hl,k _ _ s1 ⟨M1.sim,M1.loc.puts rs⟩ N1 rfl⟩)⟩)
theorem jAsg_ok(kk:KOK W)(ho:env.scope=osc){t e:Expr}{p:Pos}:Oc (jAsg f osc t e c) (ExJ W n env (.Assign [t] e p) c .next):=by
 cases t with
 | Name x p=>exact jAsN_ok E ho
 | Attribute o x p=>exact jAsA_ok E kk
 | Subscript o i p=>exact jAsI_ok E
 | Tuple es k p=>exact jAsT_ok E ho
 | _=>exact .none
theorem jAug_ok(ho:env.scope=osc){t e:Expr}{op:Operator}{p:Pos}:Oc (jAug f osc t op e c) (ExJ W n env (.AugAssign t op e p) c .next):=by
 cases t with
 | Name x p =>
  refine Oc.gd fun hb=>.ob fun v0 hx=>.bnd (E e c) fun v c1 A=>.gd fun hh=>.bnd (jInp_ok (W:=W) (n:=n)) fun w c2 B=>.some ⟨fun q=>A.cs (B.cs q),fun q F s K M k=>?_⟩
  have b2:=okN_of ho hb
  obtain ⟨y,hy,ry⟩:=M.loc _ _ hx
  exact ex_aug hy b2.1 b2.2.1 b2.2.2 (A.ev (B.cs q) M fun x s1 M1 N1 r1=>B.ok q F s1 (fun v' σ=>K .next (upd F.m _ v') σ) M1 (fun x s2 M2 N2 r2=>k _ _ s2 ⟨M2.sim,M2.loc.put r2⟩ (N1.trans N2) rfl) y x (ry.hold N1 hh) r1)
 | _=>exact .none
theorem jExp_ok{e:Expr}{p:Pos}:Oc (jExp f e c) (ExJ W n env (.Expr e p) c .next) :=
 .gd fun hc=>.bnd (E e c) fun v c1 A=>.gd fun hr=>.some ⟨A.cs,fun q F s K M k=>ex_expr hc (A.ev q M fun x s1 M1 N1 r1=>⟨noRef_ok hr r1,k _ _ s1 M1 N1 rfl⟩)⟩
theorem jRet_ok{e:Option Expr}{p:Pos}:Ok (jRet f e c) (ExJ W n env (.Return e p) c):=by
 cases e with
 | none=>exact .some ⟨id,fun q F s K M k=>ex_ret0 (k.go M rfl (fun _ _ h=>h) ⟨_,rfl,rfl⟩)⟩
 | some e=>exact Ok.bnd (E e c) fun v c1 A=>.some ⟨A.cs,fun q F s K M k=>ex_ret (A.ev q M fun x s1 M1 N1 r1=>k _ _ s1 M1 N1 ⟨x,rfl,r1⟩)⟩
end
theorem nx_ok{x:Option Cf}{Φ:Fl→Cf→Prop}(h:Oc x (Φ .next)):Ok (nx x) Φ:=.ob fun c e=>.some (h c e)
theorem jS_ok(kk:KOK W)(ho:env.scope=osc)(hg:GOK W g){k:Nat}:SFJ W n env (jS W n osc g k):=by
 induction k with
 | zero=>exact fun _ _=>.none
 | succ k IH =>
  intro s c
  have E:FJ W n env (jE W n osc g k):=jE_ok kk ho hg
  cases s with
  | Assign ts e p =>
   refine Ok.sel (fun _=>jSv_ok ho) ?_
   rcases ts with _ | ⟨t,_ | ⟨u,ts⟩⟩
   ·exact .none
   ·exact nx_ok (jAsg_ok E kk ho)
   ·exact .none
  | AugAssign t op e p=>exact nx_ok (jAug_ok E ho)
  | Return e p=>exact jRet_ok E
  | If t a b p =>
   refine Ok.bnd (jT_ok E t c) fun d c1 A=>?_
   cases d with
   | true=>exact fun fl c' e=>let B:=jSs_ok IH (ss:=a) fl c' e; ⟨fun q=>A.cs (B.cs q),fun q F s K M k=>ex_if (A.te (B.cs q) M fun s1 M1 N1=>B.ok q F s1 K M1 (k.st N1))⟩
   | false=>exact fun fl c' e=>let B:=jSs_ok IH (ss:=b) fl c' e; ⟨fun q=>A.cs (B.cs q),fun q F s K M k=>ex_if (A.te (B.cs q) M fun s1 M1 N1=>B.ok q F s1 K M1 (k.st N1))⟩
  | Expr e p=>exact nx_ok (jExp_ok E)
  | Pass p=>exact Ok.some ⟨id,fun q F s K M k=>ex_pass (k.go M rfl (fun _ _ h=>h) rfl)⟩
  | Continue p=>exact Ok.some ⟨id,fun q F s K M k=>ex_cont (k.go M rfl (fun _ _ h=>h) rfl)⟩
  | Break p=>exact Ok.some ⟨id,fun q F s K M k=>ex_brk (k.go M rfl (fun _ _ h=>h) rfl)⟩
  | For a b d e p=>exact jSv_ok ho
  | While a b d p=>exact jSv_ok ho
  | _=>exact .none
end
end
section
section
noncomputable abbrev Res:=Option (Fl × Cf)
noncomputable def flV:Fl→Option V
 | .ret v=>some v
 | .next=>some (.u .none)
 | _=>none
variable {KK:Params→Frag}{W:Wd KK}{n:Nat}{env:Env}{osc:Scope}{g:List (Str × U)}{m:Lm}{σ σ':St}{c c':Cf}{F:Fr}{s:Sx}{w:Vw}{P:AH}
theorem runs(kk:KOK W)(ho:env.scope=osc)(hg:GOK W g){k:Nat}{body:List Stmt}{fl:Fl}{v:V}{K:Value→St→Prop}(hr:jSs (jS W n osc g k) body c=some (fl,c'))(hv:flV fl=some v)(hc:AllP c'.cs)(M:Sat c F s)(h:∀ x s',Sim c'.S c'.O F.G s'→Nx c.rl c'.rl s s'→RV s'.w v x→K x s'.σ):
  Exs W n env F.m body (fun f _ σ'=>K (retV f) σ') s.σ:=by
 refine (jSs_ok (jS_ok kk ho hg) fl c' hr).ok hc F s (fun f _ σ'=>K (retV f) σ') M fun f m' s' M' N r=>h (retV f) s' M'.sim N ?_
 cases fl with
 | next =>
  cases hv
  rw [show f=.next from r]; exact (rfl:(Value.none:Value)=.none)
 | ret v =>
  cases hv
  obtain ⟨x,e,rv⟩:=r
  rw [e]; exact rv
 | brk=>cases hv
 | cont=>cases hv
noncomputable def funcOf(K:Frag)(f:Addr):Option FuncData:=match K.lookup f with
 | some ⟨_,_,.func fd,_⟩=>some fd
 | _=>none
noncomputable def bodyOf(K:Frag)(f:Addr):List Stmt:=match funcOf K f with
 | some fd=>match fd.body with
  | .stmts b=>b
  | _=>[]
 | none=>[]
noncomputable def scopeOf(K:Frag)(f:Addr):Scope:=match funcOf K f with
 | some fd=>fd.scope
 | none=>default
structure FnP(W:Wd KK)(f:Addr)(names:List Str):Prop where
 kp:keepIn W.K (.ref f)=true
 run:∀{n vs Q σ},vs.length=names.length→(∀ env,env.scope=scopeOf W.K f→Exs W n env (updAll (fun _=>none) names vs) (bodyOf W.K f) (fun fl _ σ'=>Q (retV fl) σ') σ)→CallOK W (n+1) f vs Q σ
noncomputable def All:Nat→(List Value→Prop)→Prop
 | 0,P=>P []
 | k+1,P=>∀ x,All k fun l=>P (x :: l)
theorem All.at{k:Nat}:∀{P:List Value→Prop},All k P→∀ l:List Value,l.length=k→P l:=by
 induction k with
 | zero=>exact fun h l e=>List.length_eq_zero_iff.mp e▸h
 | succ k ih =>
  intro P h l e
  cases l with
  | nil=>cases e
  | cons x l=>exact ih (h x) l (Nat.succ.inj e)
theorem fn_mk{f:Addr}{name qual:Str}{params:Arguments}{body:List Stmt}{scope:Scope}{dV kV doc pm cdv ct oc:Value}{an od:Option Addr}{osl:Array (Option Value)}{names:List Str}
  (hkp:keepIn W.K (.ref f)=true)
  (ho:W.K.lookup f=some ⟨oc,od,.func (fnOf name qual params body scope dV kV doc pm an cdv ct),osl⟩) (hcd:codeIn W.K cdv qual=true)
  (hbind:∀ s:Shared,W.K.In s.heap→All names.length fun vs'=>BindsTo s (fnOf name qual params body scope dV kV doc pm an cdv ct) ⟨vs',[]⟩ (names.zip vs'))
  (hnames:(names.all fun x=>(scope.names.lookup x==some .local||scope.names.lookup x==some .cell)&&x != "__debug__"&&x != "__classdict__")=true)
  (hnf:(scope.names.all fun p=>p.2 != .free)=true) (hco:scope.isCoroutine=false) (hgen:scope.isGenerator=false) (hk:scope.kind=.function):FnP W f names:=by
 refine ⟨hkp,fun {n vs Q σ} hl h=>callok_fun (names:=names) (extra:=[]) ho hcd (fun s vs' X e=>?_) hnames hnf hco hgen hk fun env he=>?_⟩
 ·rw [List.append_nil]
  exact (hbind s X).at vs' (by rw [← hl,← e,List.length_map])
 ·rw [List.map_nil,List.append_nil]
  have e1:funcOf W.K f=some (fnOf name qual params body scope dV kV doc pm an cdv ct):=by unfold funcOf; rw [ho]
  have e2:bodyOf W.K f=body:=by unfold bodyOf; rw [e1]
  have e3:scopeOf W.K f=scope:=by unfold scopeOf; rw [e1]
  have:=h env (by rw [e3]; exact he)
  rw [e2] at this
  exact this
noncomputable def run(W:Wd KK)(n:Nat)(g:List (Str × U))(f:Addr)(names:List Str)(vs:List V)(S:List Cell)(or:List Orc):Res :=
 jSs (jS W n (scopeOf W.K f) g 40) (bodyOf W.K f) ⟨lputs [] names vs,S,[],[],or,[]⟩
structure Co where
 l:List (Str × V)
 S:List Cell
 O:List Cell
variable {a b a':Co}
structure At(a:Co)(F:Fr)(s:Sx):Prop where
 sim:Sim a.S a.O F.G s
 loc:LR s.w F.m a.l
noncomputable def Pk(fl:Fl)(b:Co)(F:Fr)(s:Sx)(K:Flow→Lm→St→Prop):Prop:=∀ f m' s',At b ⟨F.G,m'⟩ s'→Vle s.w s'.w→RFl s'.w fl f→K f m' s'.σ
section
variable (W n osc)
noncomputable def BoS(body:List Stmt)(a:Co)(fl:Fl)(b:Co):Prop:=∀ env,env.scope=osc→∀ F s K,At a F s→Pk fl b F s K→Exs W n env F.m body K s.σ
noncomputable def TuS(t:Expr)(body:List Stmt)(a:Co)(tb:Bool)(fl:Fl)(b:Co):Prop:=∀ env,env.scope=osc→∀ F s K (E:St→Prop),At a F s→(tb=true→Pk fl b F s K)→(tb=false→∀ s',At b F s'→Vle s.w s'.w→E s'.σ) →
 Te W n env F.m t (fun x σ₁=>if x=true then Exs W n env F.m body K σ₁ else E σ₁) s.σ
end
noncomputable def bltJ(j k:Nat):Bool:=Nat.blt k j
noncomputable def okV(j:Nat)(v:V):Bool:=lbV tt_ (bltJ j) v
noncomputable def okCl(j:Nat)(c:Cell):Bool:=lbC tt_ (bltJ j) c
structure Less(b b':Co):Prop where
 l:∀ x v,b'.l.lookup x=some v→b.l.lookup x=some v
 S:b'.S=b.S
 O:b'.O=b.O.take b'.O.length
 cl:b'.O.all (okCl b'.O.length)=true
 lo:b'.l.all (fun p=>okV b'.O.length p.2)=true
theorem Vl.take(w:Vw)(j:Nat):Vl tt_ (bltJ j) w { w with κ:=w.κ.take j }:=⟨fun _ _ _ e=>e,fun k a h e=>by show (w.κ.take j)[k]?=_; rw [List.getElem?_take,if_pos (Nat.blt_eq.mp h)]; exact e,fun _ _ h=>h⟩
theorem RCs.take{R:Prop}{cs:List Cell}{as:List Addr}{hs:List (Addr × AO)}(r:RCs w cs as hs):∀ k:Nat,(∀ h1 h2,hs=h1++h2→RCs w (cs.take k) (as.take k) h1→R)→R:=by
 induction r with
 | nil=>exact fun k K=>K [] [] rfl (by rw [List.take_nil,List.take_nil]; exact .nil)
 | @cons x a h cs as hs x1 x2 ih =>
  intro k K
  cases k with
  | zero=>exact K [] _ rfl .nil
  | succ k=>exact ih k fun h1 h2 e z=>K (h++h1) h2 (by rw [e,List.append_assoc]) (.cons x1 z)
theorem Sim.less{S O:List Cell}{G:List (Addr × AO)}{j:Nat}(M:Sim S O G s)(h:(O.take j).all (okCl j)=true):Sim S (O.take j) G ⟨s.ρ,s.κ.take j,s.σ⟩:=by
 cases M with
 | mk h1 h2 x y B =>
  refine y.take j fun g1 g2 q z=>⟨h1,g1,x,z.lb (.take s.w j) h,?_⟩
  rw [q,List.append_assoc] at B
  have p:(h1++(g1++(g2++G))).Perm (g2++(h1++(g1++G))):=(List.Perm.append_left h1 (List.perm_append_comm_assoc g1 g2 G)).trans (List.perm_append_comm_assoc h1 g2 _)
  have B':=B.perm p
  exact ⟨fun p hp=>B'.H p (List.mem_append_right _ hp),(List.nodup_append.mp (List.map_append▸B'.nd)).2.1,B'.dj⟩
theorem At.less(L:Less b a)(M:At b F s):At a F ⟨s.ρ,s.κ.take a.O.length,s.σ⟩:=by
 have:=M.sim.less (j:=a.O.length) (by rw [← L.O]; exact L.cl)
 rw [← L.O,← L.S] at this
 exact ⟨this,fun x v e=>by
  obtain ⟨y',a1,a2⟩:=M.loc x v (L.l x v e)
  exact ⟨y',a1,a2.lb (.take s.w _) (List.all_eq_true.mp L.lo (x,v) (lookup_mem e))⟩⟩
theorem Px.take{j:Nat}{κ κ':List Addr}(h:Px κ κ')(hj:κ.length≤j):Px κ (κ'.take j):=fun k x e=>by
 have hk:=(List.getElem?_eq_some_iff.mp e).1
 rw [List.getElem?_take,if_pos (Nat.lt_of_lt_of_le hk hj)]; exact h k x e
theorem Vle.take{s':Sx}{j:Nat}(h:Vle s.w s'.w)(hj:s.κ.length≤j):Vle s.w (Sx.w ⟨s'.ρ,s'.κ.take j,s'.σ⟩):=⟨h.r,h.k.take hj,h.p⟩
inductive WhT(W:Wd KK)(n:Nat)(osc:Scope)(t:Expr)(body:List Stmt)(j:Nat)(a:Co)(fl':Fl)(c:Co)(rest:Co→Prop):Prop
 | stop (fl:Fl):TuS W n osc t body a false fl c→fl'=.next→WhT W n osc t body j a fl' c rest
 | brk:TuS W n osc t body a true .brk c→fl'=.next→WhT W n osc t body j a fl' c rest
 | ret (v:V):TuS W n osc t body a true (.ret v) c→fl'=.ret v→WhT W n osc t body j a fl' c rest
 | go (b a':Co) (fl:Fl):TuS W n osc t body a true fl b→(fl=.next∨fl=.cont)→Less b a'→j≤a'.O.length→rest a'→WhT W n osc t body j a fl' c rest
noncomputable def Wh(W:Wd KK)(n:Nat)(osc:Scope)(t:Expr)(body:List Stmt)(j k:Nat):Co→Fl→Co→Prop :=
 Nat.rec (motive:=fun _=>Co→Fl→Co→Prop) (fun a fl c=>WhT W n osc t body j a fl c fun _=>False) (fun _ ih a fl c=>WhT W n osc t body j a fl c fun a'=>ih a' fl c) k
section
variable {t:Expr}{body:List Stmt}{j k:Nat}{a b a' c:Co}{fl fl':Fl}{v:V}
theorem Wh.stop(h:TuS W n osc t body a false fl b):Wh W n osc t body j k a .next b:=by cases k <;> exact WhT.stop _ h rfl
theorem Wh.ret(h:TuS W n osc t body a true (.ret v) b):Wh W n osc t body j k a (.ret v) b:=by cases k <;> exact WhT.ret v h rfl
theorem Wh.go(h:TuS W n osc t body a true fl b)(hf:fl=.next∨fl=.cont)(L:Less b a')(hj:j≤a'.O.length)(w:Wh W n osc t body j k a' fl' c):Wh W n osc t body j (k+1) a fl' c:=WhT.go b a' fl h hf L hj w
theorem Wh.one(w:Wh W n osc t body j k a fl' c):WhT W n osc t body j a fl' c fun a'=>∃ i,i < k∧Wh W n osc t body j i a' fl' c:=by
 cases k with
 | zero=>cases w with
  | stop fl h e=>exact .stop fl h e
  | brk h e=>exact .brk h e
  | ret v h e=>exact .ret v h e
  | go _ _ _ _ _ _ _ r=>exact r.elim
 | succ k=>cases w with
  | stop fl h e=>exact .stop fl h e
  | brk h e=>exact .brk h e
  | ret v h e=>exact .ret v h e
  | go b a' fl h hf L hj r=>exact .go b a' fl h hf L hj ⟨k,Nat.lt_succ_self k,r⟩
end
inductive WhI(W:Wd KK)(n:Nat)(osc:Scope)(t:Expr)(body:List Stmt)(j:Nat)(fl:Fl)(b:Co)(F:Fr)(s:Sx)(k:Nat)(m':Lm):St→Prop
 | mk (a':Co) (s':Sx):At a' ⟨F.G,m'⟩ s'→Vle s.w s'.w→Wh W n osc t body j k a' fl b→WhI W n osc t body j fl b F s k m' s'.σ
theorem go_on{fl:Fl}{f:Flow}(h:fl=.next∨fl=.cont)(r:RFl w fl f):f=.next∨f=.cont:=by
 rcases h with rfl | rfl
 ·exact .inl r
 ·exact .inr r
theorem Wh.sound{t:Expr}{body:List Stmt}{pos:Pos}{k:Nat}{fl:Fl}{K:Flow→Lm→St→Prop}(ho:env.scope=osc)(wh:Wh W n osc t body a.O.length k a fl b)(M:At a F s)(kk:Pk fl b F s K):Ex W n env F.m (.While t body [] pos) K s.σ:=by
 have hl:s.κ.length=a.O.length:=M.sim.klen
 refine ex_while (WhI W n osc t body a.O.length fl b F s) k ⟨a,s,M,.refl _,wh⟩ fun k m' σ' _ z=>?_
 cases z with
 | mk a' s' M' V w =>
  cases w.one with
  | stop _ h e=>rw [e] at kk; exact h env ho ⟨F.G,m'⟩ s' _ _ M' (fun e=>nomatch e) fun _ s2 A V2=>kk _ _ s2 A (V.trans V2) rfl
  | brk h e=>rw [e] at kk; exact h env ho ⟨F.G,m'⟩ s' _ _ M' (fun _ f m2 s2 A V2 (r:f=.brk)=>by rw [r]; exact kk _ m2 s2 A (V.trans V2) rfl) fun e=>nomatch e
  | ret v h e=>rw [e] at kk; exact h env ho ⟨F.G,m'⟩ s' _ _ M' (fun _ f m2 s2 A V2 r=>by obtain ⟨x,e,r⟩:=r; rw [e]; exact kk _ m2 s2 A (V.trans V2) ⟨x,rfl,r⟩) fun e=>nomatch e
  | go _ _ _ h hf L hj w =>
   obtain ⟨i,hi,w⟩:=w
   refine h env ho ⟨F.G,m'⟩ s' _ _ M' (fun _ f m2 s2 A V2 r=>?_) fun e=>nomatch e
   have I:WhI W n osc t body a.O.length fl b F s i m2 s2.σ:=.mk _ ⟨s2.ρ,s2.κ.take _,s2.σ⟩ (A.less L) ((V.trans V2).take (by rw [hl]; exact hj)) w
   rcases go_on hf r with e | e
   ·rw [e]; exact ⟨i,hi,s2.σ,.refl _,I⟩
   ·rw [e]; exact ⟨i,hi,s2.σ,.refl _,I⟩
noncomputable def bindU(tg:Tg)(u:U)(l:List (Str × V)):Option (List (Str × V)):=match tg with
 | .one x=>some (lput l x (.u u))
 | .many xs=>(uTup (.u u)).bind fun us=>gd (Nat.beq us.length xs.length) (some (lputs l xs (us.map V.u)))
theorem bindU_ok{tg:Tg}{u:U}{l:List (Str × V)}{x:Value}{K:Lm→Prop}(r:RU s.σ.P u x)(lr:LR s.w m l):Oc (bindU tg u l) fun l'=>(∀ m',LR s.w m' l'→K m')→BindT tg x m s.σ K:=by
 cases tg with
 | one y=>exact .some fun k=>k _ (lr.put (v:=.u u) r)
 | many xs =>
  refine .ob fun us h=>.gd fun hl=>.some fun k=>?_
  cases uTup_eq h
  refine RU.tup (K:=fun x=>BindT (.many xs) x m s.σ K) r fun a ws p rs=>⟨a,ws,rfl,.P p,by rw [rs.len]; exact Nat.eq_of_beq_eq_true hl,k _ (lr.puts (rs.map fun _ _ r=>r))⟩
inductive FoT(W:Wd KK)(n:Nat)(osc:Scope)(tg:Tg)(body:List Stmt)(j:Nat)(u:U)(a:Co)(fl':Fl)(c:Co)(rest:Co→Prop):Prop
 | brk (l:List (Str × V)):bindU tg u a.l=some l→BoS W n osc body ⟨l,a.S,a.O⟩ .brk c→fl'=.next→FoT W n osc tg body j u a fl' c rest
 | ret (l:List (Str × V)) (v:V):bindU tg u a.l=some l→BoS W n osc body ⟨l,a.S,a.O⟩ (.ret v) c→fl'=.ret v→FoT W n osc tg body j u a fl' c rest
 | go (l:List (Str × V)) (b a':Co) (fl:Fl):bindU tg u a.l=some l→BoS W n osc body ⟨l,a.S,a.O⟩ fl b→(fl=.next∨fl=.cont)→Less b a'→j≤a'.O.length→rest a'→FoT W n osc tg body j u a fl' c rest
noncomputable def Fo(W:Wd KK)(n:Nat)(osc:Scope)(tg:Tg)(body:List Stmt)(j:Nat)(us:List U):Co→Fl→Co→Prop :=
 List.rec (motive:=fun _=>Co→Fl→Co→Prop) (fun a fl c=>fl=.next∧c=a) (fun u _ ih a fl c=>FoT W n osc tg body j u a fl c fun a'=>ih a' fl c) us
section
variable {tg:Tg}{body:List Stmt}{j:Nat}{u:U}{us:List U}{a b a' c:Co}{l:List (Str × V)}{fl fl':Fl}{v:V}
theorem Fo.nil:Fo W n osc tg body j [] a .next a:=⟨rfl,rfl⟩
theorem Fo.ret(hb:bindU tg u a.l=some l)(h:BoS W n osc body ⟨l,a.S,a.O⟩ (.ret v) b):Fo W n osc tg body j (u :: us) a (.ret v) b:=FoT.ret l v hb h rfl
theorem Fo.go(hb:bindU tg u a.l=some l)(h:BoS W n osc body ⟨l,a.S,a.O⟩ fl b)(hf:fl=.next∨fl=.cont)(L:Less b a')(hj:j≤a'.O.length)(w:Fo W n osc tg body j us a' fl' c):Fo W n osc tg body j (u :: us) a fl' c:=FoT.go l b a' fl hb h hf L hj w
end
inductive FoI(W:Wd KK)(n:Nat)(osc:Scope)(tg:Tg)(body:List Stmt)(j:Nat)(us:List U)(fl:Fl)(b:Co)(F:Fr)(s:Sx)(pre:List Value)(m':Lm):St→Prop
 | mk (pu qu:List U) (a':Co) (s':Sx):us=pu++qu→pre.length=pu.length→At a' ⟨F.G,m'⟩ s'→Vle s.w s'.w→Fo W n osc tg body j qu a' fl b→FoI W n osc tg body j us fl b F s pre m' s'.σ
inductive FoW(a:Co)(us:List U)(fl:Fl)(b:Co)(m:Lm)(K:Flow→Lm→St→Prop)(x:Value)(σ₁:St):Prop
 | mk (xs:List Value) (live:St→Prop) (s₀:Sx) (G':List (Addr × AO)) (ov:Over σ₁ x xs live) (g:Ghost σ₁ s₀.σ) (M:At a ⟨G',m⟩ s₀) (ru:RL s₀.σ.P us xs) (hl:∀ a' m' s',At a' ⟨G',m'⟩ s'→PL s₀.σ.P s'.σ.P→live s'.σ) (k:Pk fl b ⟨G',m⟩ s₀ K)
theorem Fo.core{te it:Expr}{body:List Stmt}{tg:Tg}{pos:Pos}{us:List U}{fl:Fl}{K:Flow→Lm→St→Prop}(ho:env.scope=osc)(ht:tgOf te=some tg)(hk:okNames osc tg.names=true)(hs:notSet it=true)(w:Fo W n osc tg body a.O.length us a fl b)
  (h:Ev W n env m it (FoW a us fl b m K) σ):Ex W n env m (.For te it body [] pos) K σ:=by
 refine ex_for ht (okNames_of ho hk) hs (TrE.mono h fun x σ₁ z=>?_)
 cases z with
 | mk xs live s₀ G' ov g M ru hl k =>
  have hkl:s₀.κ.length=a.O.length:=M.sim.klen
  refine ⟨xs,live,ov,FoI W n osc tg body a.O.length us fl b ⟨G',m⟩ s₀,s₀.σ,g,hl _ _ _ M fun _ _ h=>h,.mk [] us a s₀ rfl rfl M (.refl _) w,fun pre y post m' σ' hx pl lv I=>?_,fun m' σ' pl lv I=>?_⟩
  ·cases I with
   | mk pu qu a' s' e l M' V w' =>
    rw [hx,e] at ru
    refine ru.at l fun u qu' eq ry=>?_
    rw [eq] at w' e
    have ry:=ry.mono V.p
    cases w' with
    | brk _ hb hbo e=>rw [e] at k; exact bindU_ok ry M'.loc _ hb fun m'' lr=>hbo env ho ⟨G',m''⟩ s' _ ⟨M'.sim,lr⟩ fun f m2 s2 A V2 (r:f=.brk)=>by rw [r]; exact k _ m2 s2 A (V.trans V2) rfl
    | ret _ _ hb hbo e=>rw [e] at k; exact bindU_ok ry M'.loc _ hb fun m'' lr=>hbo env ho ⟨G',m''⟩ s' _ ⟨M'.sim,lr⟩ fun f m2 s2 A V2 r=>by obtain ⟨x,e,r⟩:=r; rw [e]; exact k _ m2 s2 A (V.trans V2) ⟨x,rfl,r⟩
    | go _ _ _ _ hb hbo hf L hj w2 =>
     refine bindU_ok ry M'.loc _ hb fun m'' lr=>hbo env ho ⟨G',m''⟩ s' _ ⟨M'.sim,lr⟩ fun f m2 s2 A V2 r=>?_
     have A2:=A.less L
     have V3:Vle s₀.w (Sx.w ⟨s2.ρ,s2.κ.take _,s2.σ⟩):=(V.trans V2).take (by rw [hkl]; exact hj)
     have I:FoI W n osc tg body a.O.length us fl b ⟨G',m⟩ s₀ (pre++[y]) m2 s2.σ:=.mk (pu++[u]) qu' _ ⟨s2.ρ,s2.κ.take _,s2.σ⟩ (by rw [e,List.append_assoc]; rfl) (by rw [List.length_append,List.length_append,l]; rfl) A2 V3 w2
     rcases go_on hf r with e | e
     ·rw [e]; exact ⟨s2.σ,.refl _,hl _ _ ⟨s2.ρ,s2.κ.take _,s2.σ⟩ A2 V3.p,I⟩
     ·rw [e]; exact ⟨s2.σ,.refl _,hl _ _ ⟨s2.ρ,s2.κ.take _,s2.σ⟩ A2 V3.p,I⟩
  ·cases I with
   | mk pu qu a' s' e l M' V w' =>
    have e3:=ru.len
    rw [e,List.length_append,l] at e3
    rw [List.length_eq_zero_iff.mp (show qu.length=0 by exact Nat.le_antisymm (lin [] [_,_] [268517398] 98372 8721475 rfl e3) (lin [] [_] [] 4132 83522 rfl ))] at w'
    obtain ⟨e1,e2⟩:=w'
    rw [e1,e2] at k
    exact k _ _ _ M' V rfl
noncomputable def rangeU(a b c:Int):List U:=(List.range (Builtin.Range.rangeSize a b c).toNat).map fun k:Nat=>U.int (a+k * c)
theorem rangeU_ok(a b c:Int):RL P (rangeU a b c) (rangeL a b c):=by
 unfold rangeU rangeL
 generalize List.range _=l
 induction l with
 | nil=>exact .nil
 | cons k l ih=>exact .cons rfl ih
noncomputable def ItU(u:U)(us:List U):Prop:=match u with
 | .lst vs=>us=vs
 | .tup vs=>us=vs
 | .rng a b c=>Builtin.Range.small a b c=true∧us=rangeU a b c
 | _=>False
theorem ItU.ok{u:U}{us:List U}{x:Value}{K:Value→Prop}(h:ItU u us)(r:RU σ.P u x)(k:∀ x xs live,Over σ x xs live→RL σ.P us xs→(∀ σ',PL σ.P σ'.P→live σ')→K x):K x:=by
 cases u with
 | tup vs=>exact RU.tup (K:=K) r fun a ws p rs=>k _ ws _ (.tuple (.P p)) (by rw [show us=vs from h]; exact rs) fun σ' pl=>.P (pl _ _ p)
 | lst vs=>exact RU.lst (K:=K) r fun a ws p rs=>k _ ws _ (.list (.P p)) (by rw [show us=vs from h]; exact rs) fun σ' pl=>.P (pl _ _ p)
 | rng a b c=>exact RU.rng (K:=K) r fun l p=>k _ _ _ (.range (.P p) h.1) (by rw [h.2]; exact rangeU_ok _ _ _) fun _ _=>trivial
 | _=>exact h.elim
section
variable {te it:Expr}{body:List Stmt}{tg:Tg}{pos:Pos}{us:List U}{fl:Fl}{l:List (Str × V)}{S O S' O':List Cell}{v:V}{G:List (Addr × AO)}
theorem Sim.head{p:Addr × AO}(M:Sim S O (p :: G) s):s.σ.H p.1=some p.2:=by
 cases M with | mk h1 h2 _ _ B=>exact B.H p (List.mem_append_right _ (List.mem_append_right _ (.head _)))
theorem for_s{k:Nat}(e:EvS W n osc it l S O (.s k) S' O')(hc:S'[k]?=some (.list us))(ht:tgOf te=some tg)(hk:okNames osc tg.names=true)(hs:notSet it=true)(w:Fo W n osc tg body O'.length us ⟨l,S'.set k .hid,O'⟩ fl b)(hb:b.S[k]?=some .hid):
  ExS W n osc (.For te it body [] pos) l S O fl b.l (b.S.set k (.list us)) b.O []:=fun env ho F s K M lr kk=>by
 refine Fo.core (a:=⟨l,S'.set k .hid,O'⟩) ho ht hk hs w (e env ho F s _ M lr fun x s1 M1 V1 r=>M1.outS hc fun a hk ha rc M2=>?_)
 obtain ⟨a',ha',ex⟩:=r
 rw [ha] at ha'; cases ha'
 obtain ⟨ws,eh,ru⟩:=rc
 rw [eh] at M2
 rw [ex]
 refine .mk ws _ s1 ((a,.list ws) :: F.G) (.list (.H M2.head)) (.refl _) ⟨M2,lr.mono V1⟩ ru (fun _ _ s' A _=>.H A.sim.head) fun f m' s' A V2 r=>?_
 exact kk f m' s' (Sim.inS (hk:=[(a,.list ws)]) A.sim hb (V2.r _ _ ha) ⟨ws,rfl,ru.pl V2.p⟩) A.loc (V1.trans V2).r.pa (V1.trans V2).k r
theorem wh_ok{t:Expr}{k:Nat}{l':List (Str × V)}(w:Wh W n osc t body O.length k ⟨l,S,O⟩ fl ⟨l',S',O'⟩):ExS W n osc (.While t body [] pos) l S O fl l' S' O' []:=fun env ho F s K M lr kk =>
 Wh.sound (a:=⟨l,S,O⟩) ho w ⟨M,lr⟩ fun f m' s' A V r=>kk f m' s' A.sim A.loc V.r.pa V.k r
noncomputable def SrS(W:Wd KK)(n:Nat)(osc:Scope)(it:Expr)(l:List (Str × V))(S O:List Cell)(us:List U)(S' O':List Cell):Prop:=∀ env,env.scope=osc→∀(F:Fr) s K,Sim S O F.G s→LR s.w F.m l →
 (∀ x xs live s',Over s'.σ x xs live→Sim S' O' F.G s'→Vle s.w s'.w→RL s'.σ.P us xs→(∀ σ',PL s'.σ.P σ'.P→live σ')→K x s'.σ)→Ev W n env F.m it K s.σ
theorem sr_u{u:U}(e:EvS W n osc it l S O (.u u) S' O')(hi:ItU u us):SrS W n osc it l S O us S' O':=fun env ho F s K M lr k =>
 e env ho F s K M lr fun x s1 M1 V1 r=>hi.ok (K:=fun x=>K x s1.σ) r fun x xs live ov ru hl=>k x xs live s1 ov M1 V1 ru hl
theorem sr_o{u:U}{k:Nat}{O'':List Cell}(e:EvS W n osc it l S O (.o k) S' O'')(hf:frz (.o k) O''=some (u,O'))(hi:ItU u us):SrS W n osc it l S O us S' O':=fun env ho F s K M lr kk =>
 Ev.gh (e env ho F s (fun x σ=>∃ σ'',Ghost σ σ''∧K x σ'') M lr fun x s1 M1 V1 r=>frz_ok u O' hf x M1 r fun σ2 Z ru=>⟨σ2,Z.g,hi.ok (K:=fun x=>K x σ2) ru fun x xs live ov ru hl=>kk x xs live (s1.to σ2) ov Z.m (V1.trans Z.w) ru hl⟩)
theorem for_ok{l2:List (Str × V)}{S2 O2:List Cell}(e:SrS W n osc it l S O us S' O')(ht:tgOf te=some tg)(hk:okNames osc tg.names=true)(hs:notSet it=true)(w:Fo W n osc tg body O'.length us ⟨l,S',O'⟩ fl ⟨l2,S2,O2⟩):
  ExS W n osc (.For te it body [] pos) l S O fl l2 S2 O2 []:=fun env ho F s K M lr kk =>
 Fo.core (a:=⟨l,S',O'⟩) ho ht hk hs w (e env ho F s _ M lr fun x xs live s1 ov M1 V1 ru hl=>.mk xs live s1 F.G ov (.refl _) ⟨M1,lr.mono V1⟩ ru (fun _ _ s' _ q=>hl s'.σ q) fun f m' s' A V2 r=>kk f m' s' A.sim A.loc (V1.trans V2).r.pa (V1.trans V2).k r)
end
noncomputable def cfOf(a:Co)(or:List Orc):Cf:=⟨a.l,a.S,a.O,[],or,[]⟩
inductive SaysB(r:Res)(fl:Fl)(b:Co)(cs:List Prop):Prop
 | mk {or:List Orc} (h:r=some (fl,⟨b.l,b.S,b.O,[],or,cs⟩))
theorem At.sat{or:List Orc}(M:At a F s):Sat (cfOf a or) F s:=⟨M.sim,M.loc⟩
theorem bo_run{body:List Stmt}{fl:Fl}{cs:List Prop}(or:List Orc)(K:KOK W)(hg:GOK W g)(h:SaysB (jSs (jS W n osc g 40) body (cfOf a or)) fl b cs)(hc:AllP cs):BoS W n osc body a fl b:=fun env ho F s Q M k=>by
 cases h with
 | mk h1=>exact (jSs_ok (jS_ok K ho hg) _ _ h1).ok hc F s Q M.sat fun f m' s' M' N r=>k f m' s' ⟨M'.sim,M'.loc⟩ N.vle r
noncomputable def jTu(f:Expr→Cf→Option (V × Cf))(h:Stmt→Cf→Option (Fl × Cf))(t:Expr)(body:List Stmt)(c:Cf):Option (Bool × Fl × Cf):=bnd (jT f 40 t c) fun d c1=>sel d (bnd (jSs h body c1) fun fl c2=>some (true,fl,c2)) (some (false,.next,c1))
inductive SaysT(r:Option (Bool × Fl × Cf))(tb:Bool)(fl:Fl)(b:Co)(cs:List Prop):Prop
 | mk {or:List Orc} (h:r=some (tb,fl,⟨b.l,b.S,b.O,[],or,cs⟩))
theorem tu_run{t:Expr}{body:List Stmt}{tb:Bool}{fl:Fl}{cs:List Prop}(or:List Orc)(K:KOK W)(hg:GOK W g)(h:SaysT (jTu (jE W n osc g 40) (jS W n osc g 40) t body (cfOf a or)) tb fl b cs)(hc:AllP cs):TuS W n osc t body a tb fl b:=fun env ho F s Q E M k1 k2=>by
 have H:Ok (jTu (jE W n osc g 40) (jS W n osc g 40) t body (cfOf a or)) fun tb p=>AllP p.2.cs→∀ F s Q (E:St→Prop),At a F s→(tb=true→Kx p.1 p.2 [] F s Q)→(tb=false→∀ s',Sat p.2 F s'→Nx [] p.2.rl s s'→E s'.σ)→Te W n env F.m t (fun x σ₁=>if x=true then Exs W n env F.m body Q σ₁ else E σ₁) s.σ:=by
  refine .bnd (jT_ok (jE_ok K ho hg) t _) fun d c1 A=>?_
  cases d with
  | true=>exact Ok.bnd (jSs_ok (jS_ok K ho hg)) fun fl c2 B=>.some fun q F s Q E M k1 _=>A.te (B.cs q) M.sat fun s1 M1 N1=>ite_t (B.ok q F s1 Q M1 ((k1 rfl).st N1))
  | false=>exact Ok.some fun q F s Q E M _ k2=>A.te q M.sat fun s1 M1 N1=>ite_f (k2 rfl s1 M1 N1)
 cases h with
 | mk h1=>exact H _ _ h1 hc F s Q E M (fun e f m' s' M' N r=>k1 e f m' s' ⟨M'.sim,M'.loc⟩ N.vle r) fun e s' M' N=>k2 e s' ⟨M'.sim,M'.loc⟩ N.vle
inductive SaysE(r:Option (V × Cf))(v:V)(S' O':List Cell)(cs:List Prop):Prop
 | mk {l:List (Str × V)} {or:List Orc} (h:r=some (v,⟨l,S',O',[],or,cs⟩))
theorem ev_run{e:Expr}{l:List (Str × V)}{S O S' O':List Cell}{v:V}{cs:List Prop}(or:List Orc)(K:KOK W)(hg:GOK W g)(h:SaysE (jE W n osc g 40 e ⟨l,S,O,[],or,[]⟩) v S' O' cs)(hc:AllP cs):EvS W n osc e l S O v S' O':=fun env ho F s Q M lr k=>by
 cases h with
 | mk h1=>exact (jE_ok K ho hg e _ _ _ h1).ok hc F s Q ⟨M,lr⟩ fun x s' M' N r=>k x s' M'.sim N.vle r
end
end
section
section
variable {KK:Params→Frag}{W:Wd KK}{n:Nat}{env:Env}{osc scope:Scope}{g:List (Str × U)}{m:Lm}{σ σ':St}{c c':Cf}{F:Fr}{s:Sx}{w:Vw}{P:AH}{l:List (Str × V)}{S O S' O':List Cell}{us res:List U}{tg:Tg}{te it elt:Expr}{ifs:List Expr}
noncomputable def captL(scope:Scope)(l:List (Str × V)):List (Str × V):=l.filter fun p=>scope.names.lookup p.1==some .free
theorem captL_get{x:Str}{v:V}:(captL scope l).lookup x=some v→scope.names.lookup x=some .free∧l.lookup x=some v:=by
 induction l with
 | nil=>exact fun e=>nomatch e
 | cons p l ih =>
  obtain ⟨y,u⟩:=p
  show (List.filter (fun p=>scope.names.lookup p.1==some .free) ((y,u) :: l)).lookup x=_→_
  rw [List.filter_cons]
  by_cases hy:(scope.names.lookup y==some .free)=true
  ·rw [if_pos hy,List.lookup_cons,List.lookup_cons]
   cases q:x==y with
   | true=>exact fun e=>⟨beq_iff_eq.mp q▸beq_iff_eq.mp hy,e⟩
   | false=>exact ih
  ·rw [if_neg hy,List.lookup_cons]
   intro e
   have z:=ih e
   have hx:(x==y)=false:=beq_eq_false_iff_ne.mpr fun q=>hy (q▸beq_iff_eq.mpr z.1)
   rw [hx]; exact z
theorem LR.capt(h:LR w m l):LR w (capt scope m) (captL scope l):=fun x v e=>by
 obtain ⟨a,b⟩:=captL_get e
 obtain ⟨y,c,d⟩:=h x v b
 exact ⟨y,by show (if _ then _ else _)=_; rw [if_pos a]; exact c,d⟩
noncomputable def CtS(W:Wd KK)(n:Nat)(sc:Scope)(elt:Expr)(ifs:List Expr)(l:List (Str × V))(S O:List Cell)(out:Option U)(S' O':List Cell):Prop:=∀ env,env.scope=sc→∀(F:Fr) s (Y:Value→St→Prop) (N:St→Prop),Sim S O F.G s→LR s.w F.m l →
 (∀ u,out=some u→∀ x σ₂ s',Ghost σ₂ s'.σ→Sim S' O' F.G s'→Vle s.w s'.w→RU s'.σ.P u x→Y x σ₂)→(out=none→∀ s',Sim S' O' F.G s'→Vle s.w s'.w→N s'.σ)→CompBody W n env F.m elt Y N ifs s.σ
inductive CmT(W:Wd KK)(n:Nat)(sc:Scope)(tg:Tg)(elt:Expr)(ifs:List Expr)(l:List (Str × V))(j:Nat)(u:U)(S O:List Cell)(res:List U)(rest:List Cell→List Cell→List U→Prop):Prop
 | yes (w:U) (r:List U) (S1 O1:List Cell) (lc:List (Str × V)):bindU tg u l=some lc→CtS W n sc elt ifs lc S O (some w) S1 O1→(O1.take j).all (okCl j)=true→rest S1 (O1.take j) r→res=w :: r→CmT W n sc tg elt ifs l j u S O res rest
 | no (S1 O1:List Cell) (lc:List (Str × V)):bindU tg u l=some lc→CtS W n sc elt ifs lc S O none S1 O1→(O1.take j).all (okCl j)=true→rest S1 (O1.take j) res→CmT W n sc tg elt ifs l j u S O res rest
noncomputable def Cm(W:Wd KK)(n:Nat)(sc:Scope)(tg:Tg)(elt:Expr)(ifs:List Expr)(l:List (Str × V))(j:Nat)(us:List U):List Cell→List Cell→List U→List Cell→List Cell→Prop :=
 List.rec (motive:=fun _=>List Cell→List Cell→List U→List Cell→List Cell→Prop) (fun S O res S' O'=>res=[]∧S'=S∧O'=O) (fun u _ ih S O res S' O'=>CmT W n sc tg elt ifs l j u S O res fun S1 O1 r=>ih S1 O1 r S' O') us
section
variable {sc:Scope}{j:Nat}{u w:U}{S1 O1:List Cell}{lc:List (Str × V)}
theorem Cm.nil:Cm W n sc tg elt ifs l j [] S O [] S O:=⟨rfl,rfl,rfl⟩
theorem Cm.yes(hb:bindU tg u l=some lc)(h:CtS W n sc elt ifs lc S O (some w) S1 O1)(ha:(O1.take j).all (okCl j)=true)(_:j≤O1.length)(r:Cm W n sc tg elt ifs l j us S1 (O1.take j) res S' O'):Cm W n sc tg elt ifs l j (u :: us) S O (w :: res) S' O':=CmT.yes w res S1 O1 lc hb h ha r rfl
theorem Cm.no(hb:bindU tg u l=some lc)(h:CtS W n sc elt ifs lc S O none S1 O1)(ha:(O1.take j).all (okCl j)=true)(_:j≤O1.length)(r:Cm W n sc tg elt ifs l j us S1 (O1.take j) res S' O'):Cm W n sc tg elt ifs l j (u :: us) S O res S' O':=CmT.no S1 O1 lc hb h ha r
end
inductive CmI(W:Wd KK)(n:Nat)(sc:Scope)(tg:Tg)(elt:Expr)(ifs:List Expr)(l:List (Str × V))(j:Nat)(us res:List U)(S' O':List Cell)(G:List (Addr × AO))(s:Sx)(pre acc:List Value):St→Prop
 | mk (pu qu:List U) (S1 O1:List Cell) (r1 r2:List U) (s':Sx):us=pu++qu→pre.length=pu.length→res=r1++r2→RL s'.σ.P r1 acc→Sim S1 O1 G s'→Vle s.w s'.w→Cm W n sc tg elt ifs l j qu S1 O1 r2 S' O'→CmI W n sc tg elt ifs l j us res S' O' G s pre acc s'.σ
theorem Cm.core{x:Value}{fin:List Value→Addr→St→Prop}{xs:List Value}{live:St→Prop}(w:Cm W n (relS scope osc) tg elt ifs (captL scope l) O.length us S O res S' O')(M:Sim S O F.G s)(lr:LR s.w F.m l)(ov:Over s.σ x xs live)(hl:us.length≤sizeLine)(ru:RL s.σ.P us xs)
  (lv:∀ σ',PL s.σ.P σ'.P→live σ') (hf:∀ acc D s',Sim S' O' F.G s'→Vle s.w s'.w→RL s'.σ.P res acc→s'.σ.at D=none→fin acc D s'.σ):CompW W n osc F.m elt tg ifs scope fin x s.σ:=by
 have hk:s.κ.length=O.length:=M.klen
 refine ⟨xs,live,ov,by rw [ru.len]; exact hl,CmI W n (relS scope osc) tg elt ifs (captL scope l) O.length us res S' O' F.G s,s.σ,.refl _,lv _ fun _ _ h=>h,.mk [] us S O [] res s rfl rfl rfl .nil M (.refl _) w,fun pre y post acc σ' cenv hsc hx pl lvv I=>?_,fun acc D σ' pl lvv I hD=>?_⟩
 ·cases I with
  | mk pu qu S1 O1 r1 r2 s' e1 e2 e3 racc M1 V w' =>
   rw [hx,e1] at ru
   refine ru.at e2 fun u qu' eq ry=>?_
   rw [eq] at w' e1
   have ry:=ry.mono V.p
   have lc0:=(lr.mono V).capt (scope:=scope)
   have e5:us=(pu++[u])++qu':=by rw [e1,List.append_assoc]; rfl
   have e6:(pre++[y]).length=(pu++[u]).length:=by rw [List.length_append,List.length_append,e2]; rfl
   cases w' with
   | yes w0 r3 _ _ _ hb ct hall w2 e7 =>
    refine bindU_ok ry lc0 _ hb fun m' lm=>ct cenv hsc ⟨F.G,m'⟩ s' _ _ M1 lm (fun u3 eo v σ₂ s3 gh M3 V3 rv=>?_) fun e=>nomatch e
    cases eo
    have V4:Vle s.w (Sx.w ⟨s3.ρ,s3.κ.take O.length,s3.σ⟩):=(V.trans V3).take (by rw [hk]; exact Nat.le_refl _)
    exact ⟨s3.σ,gh,lv _ V4.p,.mk (pu++[u]) qu' _ _ (r1++[w0]) r3 ⟨s3.ρ,s3.κ.take O.length,s3.σ⟩ e5 e6 (by rw [e3,e7,List.append_assoc]; rfl) ((racc.pl V3.p).app (.cons rv .nil)) (M3.less hall) V4 w2⟩
   | no _ _ _ hb ct hall w2 =>
    refine bindU_ok ry lc0 _ hb fun m' lm=>ct cenv hsc ⟨F.G,m'⟩ s' _ _ M1 lm (fun u3 eo=>nomatch eo) fun _ s3 M3 V3=>?_
    have V4:Vle s.w (Sx.w ⟨s3.ρ,s3.κ.take O.length,s3.σ⟩):=(V.trans V3).take (by rw [hk]; exact Nat.le_refl _)
    exact ⟨s3.σ,.refl _,lv _ V4.p,.mk (pu++[u]) qu' _ _ r1 _ ⟨s3.ρ,s3.κ.take O.length,s3.σ⟩ e5 e6 e3 (racc.pl V3.p) (M3.less hall) V4 w2⟩
 ·cases I with
  | mk pu qu S1 O1 r1 r2 s' e1 e2 e3 racc M1 V w' =>
   have e4:=ru.len
   rw [e1,List.length_append,e2] at e4
   rw [List.length_eq_zero_iff.mp (show qu.length=0 by exact Nat.le_antisymm (lin [] [_,_] [268517398] 98372 8721475 rfl e4) (lin [] [_] [] 4132 83522 rfl ))] at w'
   obtain ⟨e7,e8,e9⟩:=w'
   rw [e8,e9] at hf
   exact hf acc D s' M1 V (by rw [e3,e7,List.append_nil]; exact racc) hD
theorem comp_ok{pos:Pos}{S1 O1:List Cell}(e:SrS W n osc it l S O us S1 O1)(hl:us.length≤sizeLine)(ht:tgOf te=some tg)(hc:compOk scope osc tg it=true)(w:Cm W n (relS scope osc) tg elt ifs (captL scope l) O1.length us S1 O1 res S' O'):
  EvS W n osc (.ListComp elt [⟨te,it,ifs,0⟩] scope pos) l S O (.o O'.length) S' (O'++[.list res]):=fun env ho F s K M lr k =>
 ev_comp ho ht hc (e env ho F s _ M lr fun x xs live s1 ov M1 V1 ru hlv=>Cm.core w M1 (lr.mono V1) ov hl ru hlv fun acc D s' M' V2 rr hD =>
  k (.ref D) ⟨s'.ρ,s'.κ++[D],s'.σ.put D (.list acc)⟩ (M'.own hD ⟨acc,rfl,rr⟩) ((V1.trans V2).trans (.K s' [D])) ⟨D,M'.klen▸Px.last _ _,rfl⟩)
theorem acomp_ok{pos spos p:Pos}{x:Str}{S1 O1:List Cell}(e:SrS W n osc it l S O us S1 O1)(hl:us.length≤sizeLine)(ht:tgOf te=some tg)(hc:compOk scope osc tg it=true)
  (hsw:(osc.kind==.function&&osc.names.lookup x==some .local&&p.line==pos.line&&!(scope.names.any fun (n,k)=>n==x&&(k==.local||k==.cell)))=true) (hd:(x=="__debug__")=false) (hcd:(x=="__classdict__")=false)
  (w:Cm W n (relS scope osc) tg elt ifs (captL scope l) O1.length us S1 O1 res S' O') :
  ExS W n osc (.Assign [.Name x p] (.ListComp elt [⟨te,it,ifs,0⟩] scope pos) spos) l S O .next (lput l x (.o O'.length)) S' (O'++[.list res]) []:=fun env ho F s K M lr k =>
 ex_assign_comp ho ht hc hsw (beq_eq_false_iff_ne.mp hd) (beq_eq_false_iff_ne.mp hcd) (e env ho F s _ M lr fun y xs live s1 ov M1 V1 ru hlv=>Cm.core w M1 (lr.mono V1) ov hl ru hlv fun acc D s' M' V2 rr hD =>
  have V3:=(V1.trans V2).trans (.K s' [D])
  k .next _ ⟨s'.ρ,s'.κ++[D],s'.σ.put D (.list acc)⟩ (M'.own hD ⟨acc,rfl,rr⟩) ((lr.mono V3).put ⟨D,M'.klen▸Px.last _ _,rfl⟩) V3.r.pa V3.k rfl)
noncomputable def jCe(f:Expr→Cf→Option (V × Cf))(elt:Expr)(c:Cf):Option (Option U × Cf):=bnd (f elt c) fun v c1=>bnd (frz v c1.O) fun u O1=>some (some u,c1.setO O1)
noncomputable def jCt(f:Expr→Cf→Option (V × Cf))(elt:Expr)(ifs:List Expr)(c:Cf):Option (Option U × Cf):=match ifs with
 | []=>jCe f elt c
 | [t]=>bnd (jT f 40 t c) fun d c1=>sel d (jCe f elt c1) (some (none,c1))
 | _=>none
inductive SaysC(r:Option (Option U × Cf))(out:Option U)(S' O':List Cell)(cs:List Prop):Prop
 | mk {l:List (Str × V)} {or:List Orc} (h:r=some (out,⟨l,S',O',[],or,cs⟩))
structure CeJ(W:Wd KK)(n:Nat)(env:Env)(elt:Expr)(c:Cf)(out:Option U)(c':Cf):Prop where
 cs:AllP c'.cs→AllP c.cs
 ok:AllP c'.cs→∀ F s (Y:Value→St→Prop),Sat c F s→(∀ u,out=some u→∀ x σ₂ s',Ghost σ₂ s'.σ→Sim c'.S c'.O F.G s'→Nx c.rl c'.rl s s'→RU s'.σ.P u x→Y x σ₂)→Ev W n env F.m elt Y s.σ
theorem jCe_ok{f:Expr→Cf→Option (V × Cf)}(hf:FJ W n env f):Ok (jCe f elt c) (CeJ W n env elt c) :=
 .bnd (hf elt c) fun v c1 A=>.bnd frz_ok fun u O1 Z=>.some ⟨A.cs,fun q F s Y M k=>A.ev q M fun x s1 M1 N1 r1=>Z x M1.sim r1 fun σ3 F3 ru=>k u rfl x s1.σ (s1.to σ3) F3.g F3.m (N1.trans (.of F3.p (.refl _) (.refl _))) ru⟩
theorem ct_run{out:Option U}{cs:List Prop}(or:List Orc)(K:KOK W)(hg:GOK W g)(h:SaysC (jCt (jE W n osc g 40) elt ifs ⟨l,S,O,[],or,[]⟩) out S' O' cs)(hc:AllP cs):CtS W n osc elt ifs l S O out S' O':=fun env ho F s Y N M lr k1 k2=>by
 have E:=jE_ok (W:=W) (n:=n) K ho hg (k:=40)
 have H:Ok (jCt (jE W n osc g 40) elt ifs ⟨l,S,O,[],or,[]⟩) fun out c'=>AllP c'.cs→(∀ u,out=some u→∀ x σ₂ s',Ghost σ₂ s'.σ→Sim c'.S c'.O F.G s'→Nx [] c'.rl s s'→RU s'.σ.P u x→Y x σ₂)→(out=none→∀ s',Sim c'.S c'.O F.G s'→Nx [] c'.rl s s'→N s'.σ)→CompBody W n env F.m elt Y N ifs s.σ:=by
  rcases ifs with _ | ⟨t,_ | ⟨d,r⟩⟩
  ·exact fun out c' e q k1 _=>(jCe_ok E out c' e).ok q F s Y ⟨M,lr⟩ k1
  ·refine Ok.bnd (jT_ok E t _) fun d c1 A=>?_
   cases d with
   | true=>exact fun out c' e q k1 _=>let B:=jCe_ok E (c:=c1) out c' e; A.te (B.cs q) ⟨M,lr⟩ fun s1 M1 N1=>B.ok q F s1 Y M1 fun u e x σ₂ s' g M' N' r=>k1 u e x σ₂ s' g M' (N1.trans N') r
   | false=>exact Ok.some fun q _ k2=>A.te q ⟨M,lr⟩ fun s1 M1 N1=>k2 rfl s1 M1.sim N1
  ·exact .none
 cases h with
 | mk h1=>exact H _ _ h1 hc (fun u e x σ₂ s' g M' N' r=>k1 u e x σ₂ s' g M' N'.vle r) fun e s' M' N'=>k2 e s' M' N'.vle
end
end
section
section
variable {KK:Params→Frag}{W:Wd KK}{n:Nat}{env:Env}{osc scope:Scope}{g:List (Str × U)}{m:Lm}{σ σ':St}{c c':Cf}{F:Fr}{s:Sx}{w:Vw}{P:AH}{l:List (Str × V)}{S O S' O':List Cell}{us:List U}{G hk:List (Addr × AO)}{a b:Addr}{o o':AO}
structure Rl(S O:List Cell)(l:List (Str × V))(k i j:Nat)(C:Addr)(fs:List (Str × V))(x:Str)(us:List U):Prop where
 hk:S[k]?=some (.attrs C fs)
 ha:(AT C x&&Nat.ble fs.length 400)=true
 hi:∃ vs,S[i]?=some (.list vs)
 hne:Nat.beq k i=false
 hj:O[j]?=some (.list us)
 hf:((lput fs x (.u .none)).all fun p=>lbV (offN [i]) tt_ p.2)=true
 hs:((S.set k .hid).set i .hid).all (lbC (offN [i]) tt_)=true
 ho:(O.set j .hid).all (lbC (offN [i]) tt_)=true
 hl:l.all (fun p=>lbV (offN [i]) tt_ p.2)=true
theorem lput_lput{x:Str}{u v:V}{fs:List (Str × V)}:lput (lput fs x u) x v=lput fs x v:=by
 induction fs with
 | nil=>show (match x==x with | true=>[(x,v)] | false=>(x,u) :: lput [] x v)=[(x,v)]; rw [beq_self_eq_true]
 | cons p fs ih =>
  obtain ⟨y,z⟩:=p
  show lput (match y==x with | true=>(y,u) :: fs | false=>(y,z) :: lput fs x u) x v=(match y==x with | true=>(y,v) :: fs | false=>(y,z) :: lput fs x v)
  cases h:y==x with
  | true=>show (match y==x with | true=>(y,v) :: fs | false=>(y,u) :: lput fs x v)=_; rw [h]
  | false=>show (match y==x with | true=>(y,v) :: lput fs x u | false=>(y,z) :: lput (lput fs x u) x v)=_; rw [h,ih]
theorem fput_fput{x:Str}{u v:Value}{fs:List (Str × Value)}:fput (fput fs x u) x v=fput fs x v:=by
 induction fs with
 | nil=>exact if_pos rfl
 | cons p fs ih =>
  obtain ⟨y,z⟩:=p
  show fput (if y=x then (y,u) :: fs else (y,z) :: fput fs x u) x v=if y=x then (y,v) :: fs else (y,z) :: fput fs x v
  by_cases h:y=x
  ·rw [if_pos h,if_pos h]; exact if_pos h
  ·rw [if_neg h,if_neg h]; exact (if_neg h).trans (congrArg _ ih)
theorem RCs.re{cs:List Cell}{as:List Addr}{hs:List (Addr × AO)}(r:RCs w cs as hs):∀{i:Nat},cs[i]?=some .hid→RCs w cs (as.set i b) hs:=by
 induction r with
 | nil=>exact fun e=>nomatch e
 | cons x y ih =>
  intro i e
  cases i with
  | zero=>cases e; exact .cons x y
  | succ i=>exact .cons x (ih e)
theorem Sim.drop(M:Sim S O (hk++G) s):Sim S O G s:=by
 cases M with
 | mk h1 h2 X Y B =>
  have B':=B.perm ((List.Perm.append_left h1 (List.perm_append_comm_assoc h2 hk G)).trans (List.perm_append_comm_assoc h1 hk _))
  exact ⟨h1,h2,X,Y,fun p hp=>B'.H p (List.mem_append_right _ hp),(List.nodup_append.mp (List.map_append▸B'.nd)).2.1,B'.dj⟩
theorem Sim.putG(M:Sim S O ((a,o) :: G) s):Sim S O ((a,o') :: G) (s.to (s.σ.put a o')):=by
 cases M with
 | mk h1 h2 X Y B =>
  rw [← List.append_assoc] at B
  exact ⟨h1,h2,X,Y,List.append_assoc h1 h2 _▸B.put⟩
theorem offN_pa{i:Nat}{ρ:List Addr}:Pa [i] ρ (ρ.set i b):=fun k a hk e=>by
 rw [List.getElem?_set_ne (fun q=>hk (List.mem_singleton.mpr q.symm))]; exact e
theorem Vl.re{i:Nat}{ρ κ:List Addr}:Vl (offN [i]) tt_ ⟨ρ,κ,P⟩ ⟨ρ.set i b,κ,P⟩:=⟨fun k a h e=>offN_pa k a (offN_not h) e,fun _ _ _ e=>e,fun _ _ h=>h⟩
theorem Sim.relab{i:Nat}(M:Sim S O G s)(h:S[i]?=some .hid)(hs:S.all (lbC (offN [i]) tt_)=true)(ho:O.all (lbC (offN [i]) tt_)=true):Sim S O G ⟨s.ρ.set i b,s.κ,s.σ⟩:=by
 cases M with
 | mk h1 h2 X Y B=>exact ⟨h1,h2,(X.lb .re hs).re h,Y.lb .re ho,B⟩
theorem reloc_ok{e o:Expr}{x:Str}{p pos:Pos}{S1 O1:List Cell}{k i j:Nat}{C:Addr}{fs:List (Str × V)}(K:KOK W)(hc:notSD e=true)(he:EvS W n osc e l S O (.o j) S1 O1)(ho:EvS W n osc o l S1 O1 (.s k) S' O')(R:Rl S' O' l k i j C fs x us):
  ExS W n osc (.Assign [.Attribute o x p] e pos) l S O .next l ((((S'.set k .hid).set i .hid).set i (.list us)).set k (.attrs C (lput fs x (.s i)))) (O'.set j .hid) [i]:=fun env hE F s Q M lr kk=>by
 refine ex_setattr (.inr hc) (he env hE F s _ M lr fun xv s1 M1 V1 rv=>ho env hE F s1 _ M1 (lr.mono V1) fun xo s2 M2 V2 ro=>?_)
 have lr2:=(lr.mono V1).mono V2
 have ne:k≠i:=fun q=>by have:=R.hne; rw [q,Nat.beq_refl] at this; cases this
 obtain ⟨vs,hi⟩:=R.hi
 have b1:=and2' R.ha
 refine M2.outS R.hk fun a hk ra rc M3=>M3.outO R.hj fun b hb rb rcb M4=>M4.outS (k:=i) (by rw [List.getElem?_set_ne ne]; exact hi) fun ai hi' rai _ M5=>?_
 obtain ⟨dx,ys,pa,eh,hat,rf⟩:=rc
 obtain ⟨ws,ehb,ru⟩:=rcb
 obtain ⟨a',ra',ex⟩:=ro
 rw [ra] at ra'; cases ra'
 obtain ⟨b',rb',ev⟩:=rv
 rw [V2.k _ _ rb'] at rb; cases rb
 rw [ex,ev]
 have hik:i < (S'.set k .hid).length:=by rw [List.length_set]; exact (List.getElem?_eq_some_iff.mp hi).1
 have hdx:s2.σ.H dx=some (.attrs ys):=by rw [eh] at M3; exact M3.head
 have M6:=M5.drop.relab (b:=b) (List.getElem?_set_self hik) R.hs R.ho
 rw [ehb] at M6
 have hil:i < s2.ρ.length:=(List.getElem?_eq_some_iff.mp rai).1
 have M7:=M6.inS (hk:=[(b,.list ws)]) (c:=.list us) (List.getElem?_set_self hik) (List.getElem?_set_self hil) ⟨ws,rfl,ru⟩
 rw [eh] at M7
 have M8:=M7.putG (o':=.attrs (fput ys x (.ref b)))
 refine sa_inst (.P pa) hdx (K.set_ _ _ b1.1) (set_len (C:=C) rf b1.2) (kk .next F.m ⟨s2.ρ.set i b,s2.κ,_⟩ (Sim.inS (hk:=[(dx,_)]) (a:=a) M8 ?_ ?_ ?_) (lr2.lb .re R.hl) (fun k a hk e=>offN_pa k a hk ((V1.trans V2).r k a e)) (V1.trans V2).k rfl)
 ·rw [List.getElem?_set_ne (Ne.symm ne),List.getElem?_set_ne (Ne.symm ne),List.getElem?_set_self (List.getElem?_eq_some_iff.mp R.hk).1]
 ·show (s2.ρ.set i b)[k]?=_
  rw [List.getElem?_set_ne (Ne.symm ne)]; exact ra
 ·have r1:=RA.lbs (Vl.re (b:=b) (P:=s2.σ.P) (κ:=[])) R.hf (RA.put rf (v:=.u .none) (y:=.none) rfl)
  have r2:=RA.put r1 (v:=.s i) (x:=x) (y:=.ref b) ⟨b,List.getElem?_set_self hil,rfl⟩
  rw [lput_lput,fput_fput] at r2
  exact ⟨dx,_,pa,rfl,lput_all (p:=fun p=>AT C p.1) b1.1 hat,r2⟩
inductive Says(r:Res)(v:V)(new S':List Cell)(rls:List Nat)(cs:List Prop):Prop
 | mk {fl:Fl} {l:List (Str × V)} {O:List Cell} {or:List Orc} (hr:r=some (fl,⟨l,S',O,rls,or,cs⟩)) (hv:flV fl=some v) (ho:O.take new.length=new) (ok:(new.all (okCl new.length)&&okV new.length v)=true)
theorem Says.exs{body:List Stmt}{v:V}{new:List Cell}{rls:List Nat}{cs:List Prop}{K:Value→St→Prop}(hs:Says (jSs (jS W n osc g 40) body c) v new S' rls cs)(kk:KOK W)(hg:GOK W g)(hc:AllP cs)(ho:env.scope=osc)(M:Sat c F s)(h0:c.rl=[])(k:∀ x s' κ,Px s.κ κ→s'.κ=κ.take new.length→Sim S' new F.G s'→Pa rls s.ρ s'.ρ→RV s'.w v x→K x s'.σ):
  Exs W n env F.m body (fun f _ σ'=>K (retV f) σ') s.σ:=by
 cases hs with
 | mk hr hv hO hok =>
  have hok:=and2' hok
  exact runs kk ho hg hr hv hc M fun x s' M' N r=>k x ⟨s'.ρ,s'.κ.take new.length,s'.σ⟩ s'.κ N.k rfl (by have:=M'.less (j:=new.length) (by rw [hO]; exact hok.1); rw [hO] at this; exact this) N.pa (r.lb (.take s'.w _) hok.2)
theorem callTo_run{f:Addr}{vs:List V}{S new S':List Cell}{v:V}{rls:List Nat}{names:List Str}{cs:List Prop}(or:List Orc)
  (F:FnP W f names) (K:KOK W) (hg:GOK W g) (hl:vs.length=names.length) (hr:Says (run W n g f names vs S or) v new S' rls cs) (hc:AllP cs):CallTo W (n+1) f vs S v new S' rls:=fun G ρ σ xs Q M rv k =>
 callee_own F.kp (F.run (by rw [rv.len,hl]) fun env he=>hr.exs (F:=⟨G,_⟩) (s:=⟨ρ,[],σ⟩) K hg hc he ⟨M,LR.puts (fun _ _ e=>nomatch e) rv⟩ rfl fun x s' _ _ _ M' px r=>k x s' M' px r)
section
variable {C f:Addr}{vs:List V}{new:List Cell}{names:List Str}{cs:List Prop}(or:List Orc)(hkp:keepIn W.K (.ref C)=true)(hm:makesIn W.K C=true)(hi:findIn W.K (.ref C) "__init__"=some (some (.ref f))) (hf:typeIn W.K (.ref f)=some (.type "function")) (Fp:FnP W f names) (K:KOK W) (hg:GOK W g) (hl:vs.length+1=names.length)
include or hkp hm hi hf Fp K hg hl
theorem callTo_new(ha:Nat.blt 0 new.length=true)
  (hr:Says (jSs (jS W n (scopeOf W.K f) g 40) (bodyOf W.K f) ⟨lputs [] names (.o 0 :: vs),S,[.attrs C []],[],or,[]⟩) (.u .none) new S' [] cs) (hc:AllP cs):CallTo W (n+2) C vs S (.o 0) new S' []:=fun G ρ σ xs Q M rv k=>by
 refine callee_own hkp (callok_class (n:=n+1) hm hi hf fun x dx hx hd hne=>?_)
 have hx1:(σ.put dx (.attrs [])).at x=none:=by rw [St.at_put_ne _ hne]; exact hx
 have M2:=(M.newG (a:=dx) (o:=.attrs []) hd).newP (o:=.inst C dx) hx1
 have M3:=Sim.adoptG (hk:=[(dx,.attrs [])]) (a:=x) (c:=.attrs C []) M2 ⟨dx,[],P_newP_eq,rfl,rfl,.nil⟩
 refine Fp.run (by rw [List.length_cons,rv.len,hl]) fun env he=>hr.exs (K:=fun v σ'=>v=.none∧Q (.ref x) σ') (F:=⟨G,updAll (fun _=>none) names (.ref x :: xs)⟩) (s:=⟨ρ,[x],_⟩) K hg hc he ⟨M3,LR.puts (fun _ _ e=>nomatch e) (.cons ⟨x,rfl,rfl⟩ (L2.vs (w:=⟨ρ,[],(σ.put dx (.attrs [])).P⟩) ⟨.refl _,.nil,PL.newP hx1⟩ rv))⟩ rfl fun y s' κ pk ek M' px r=>⟨r,k (.ref x) s' M' px ⟨x,?_,rfl⟩⟩
 show s'.κ[0]?=_
 rw [ek,List.getElem?_take,if_pos (Nat.blt_eq.mp ha)]; exact pk 0 x rfl
theorem callTo_newS(hr:Says (run W n g f names (.s S.length :: vs) (S++[.attrs C []]) or) (.u .none) new S' [] cs)(hc:AllP cs):CallTo W (n+2) C vs S (.s S.length) new S' []:=fun G ρ σ xs Q M rv k=>by
 refine callee_own hkp (callok_class (n:=n+1) hm hi hf fun x dx hx hd hne=>?_)
 have hx1:(σ.put dx (.attrs [])).at x=none:=by rw [St.at_put_ne _ hne]; exact hx
 have M2:=(M.newG (a:=dx) (o:=.attrs []) hd).newP (o:=.inst C dx) hx1
 have M3:=Sim.adoptS (hk:=[(dx,.attrs [])]) (a:=x) (c:=.attrs C []) M2 ⟨dx,[],P_newP_eq,rfl,rfl,.nil⟩
 have rx:(ρ++[x])[S.length]?=some x:=M.slen▸Px.last ρ x
 exact Fp.run (by rw [List.length_cons,rv.len,hl]) fun env he=>hr.exs (K:=fun v σ'=>v=.none∧Q (.ref x) σ') (F:=⟨G,updAll (fun _=>none) names (.ref x :: xs)⟩) (s:=⟨ρ++[x],[],_⟩) K hg hc he ⟨M3,LR.puts (fun _ _ e=>nomatch e) (.cons ⟨x,rx,rfl⟩ (L2.vs (w:=⟨ρ,[],(σ.put dx (.attrs [])).P⟩) ⟨.app _ _,.refl _,PL.newP hx1⟩ rv))⟩ rfl fun y s' κ pk ek M' px r=>⟨r,k (.ref x) s' M' (fun k a hk e=>px k a hk (Px.app _ _ _ _ e)) ⟨x,px _ x List.not_mem_nil rx,rfl⟩⟩
end
theorem lookup_pre{x:Str}{v:V}{l l':List (Str × V)}:l.lookup x=some v→(l++l').lookup x=some v:=by
 induction l with
 | nil=>exact fun e=>nomatch e
 | cons p l ih =>
  obtain ⟨y,u⟩:=p
  rw [List.cons_append,List.lookup_cons,List.lookup_cons]
  cases x==y with
  | true=>exact id
  | false=>exact ih
theorem less_of{b a:Co}(ex:List (Str × V))(hl:b.l=a.l++ex)(hS:a.S=b.S)(hO:a.O=b.O.take a.O.length)(hc:(a.O.all (okCl a.O.length)&&a.l.all fun p=>okV a.O.length p.2)=true):Less b a :=
 ⟨fun x v e=>by rw [hl]; exact lookup_pre e,hS,hO,(and2' hc).1,(and2' hc).2⟩
end
end
section
noncomputable abbrev KH:Params→Frag:=Mine.hd.heap_1
variable {W:Wd KH}{n:Nat}
noncomputable def tabOK(K:Frag):Bool:=(ATL.all fun p=>p.2.all fun x=>attrK K p.1 x&&setK K p.1 x)&&MTL.all fun p=>p.2.all fun q=>methIn K p.1 q.1==some q.2
theorem kok_of{K:Frag}{W:Wd KH}(e:W.K=K)(h:tabOK K=true):KOK W:=by
 subst e
 have h:=and2' h
 have a1:∀ C x,AT C x=true→(attrK W.K C x&&setK W.K C x)=true:=fun C x hx=>by
  unfold AT at hx
  cases hl:ATL.lookup C with
  | none=>rw [hl] at hx; cases hx
  | some xs =>
   rw [hl] at hx
   have hm:(C,xs)∈ATL:=by
    have:∀{l:List (Addr × List Str)},l.lookup C=some xs→(C,xs)∈l:=fun {l} e=>by
     induction l with
     | nil=>cases e
     | cons p r ih =>
      obtain ⟨a,b⟩:=p
      rw [List.lookup_cons] at e
      split at e
      ·rename_i q; cases e; rw [beq_iff_eq.mp q]; exact .head _
      ·exact .tail _ (ih e)
    exact this hl
   exact List.all_eq_true.mp (List.all_eq_true.mp h.1 _ hm) x (List.contains_iff_mem.mp hx)
 refine ⟨fun C x hx=>(and2' (a1 C x hx)).1,fun C x hx=>(and2' (a1 C x hx)).2,fun C x f hx=>?_⟩
 unfold MT at hx
 cases hl:MTL.lookup C with
 | none=>rw [hl] at hx; cases hx
 | some xs =>
  rw [hl] at hx
  have hm:(C,xs)∈MTL:=by
   have:∀{l:List (Addr × List (Str × Addr))},l.lookup C=some xs→(C,xs)∈l:=fun {l} e=>by
    induction l with
    | nil=>cases e
    | cons p r ih =>
     obtain ⟨a,b⟩:=p
     rw [List.lookup_cons] at e
     split at e
     ·rename_i q; cases e; rw [beq_iff_eq.mp q]; exact .head _
     ·exact .tail _ (ih e)
   exact this hl
  have:=List.all_eq_true.mp (List.all_eq_true.mp h.2 _ hm) (x,f) (lookup_mem hx)
  simpa using this
theorem kok:KOK W:=kok_of rfl (by kernel_rfl)
end
section
variable {W:Wd KH}{n:Nat}
noncomputable def gT:List (Str × U):=("len",.bi 0) :: ("range",.bi 1) :: ("str",.bi 2) :: ("sum",.bi 3) :: ("max",.bi 4) :: ("sorted",.bi 5) :: ("tuple",.bi 6) :: ("OFFSETS",.int (20)) :: ("END",.int (4294967295)) :: ("MARK",.int (-4)) :: ("TAG",.int (-8)) :: ("WORD_roots",.int (4294967296)) :: ("FP",.int (11)) :: ("GRAIN_heap",.int (16)) :: ("HEADER",.int (8)) :: ("LISTS",.int (4)) :: ("WORD_memory",.int (4294967296)) :: ("DATA_START",.int (64)) :: ("GRAIN_machine",.int (16)) :: ("COMMAND_END",.int (9)) :: ("first_offset",.fn 28) :: ("is_fresh",.fn 35) :: ("mark_from",.fn 42) :: ("mark",.fn 49) :: ("module_at",.fn 56) :: ("map_at",.fn 63) :: ("stack_roots",.fn 70) :: ("global_roots",.fn 77) :: ("block_size",.fn 84) :: ("list_number",.fn 91) :: ("free_runs",.fn 175) :: ("sweep",.fn 182) :: ("collect",.fn 191) :: ("make_record",.fn 198) :: ("rounded",.fn 384) :: ("_law_pick",.fn 497) :: ("_law_world",.fn 502) :: ("_law_word",.fn 509) :: ("_law_modules",.fn 514) :: ("_law_frames",.fn 519) :: ("_law_block",.fn 526) :: ("_law_reached",.fn 531) :: ("_law_kept",.fn 536) :: ("_law_seen",.fn 541) :: ("Loaded",.fn 215) :: ("Machine",.fn 465) :: ("Memory",.fn 373) :: ("Heap",.fn 164) :: ("Cpu",.fn 317) :: ("ObjectFile",.fn 486) :: []
noncomputable def uV:U→Option Value
 | .int i=>some (.int i 0)
 | .fn a=>some (.ref a)
 | .bi k=>some (biV k)
 | _=>none
noncomputable def gChk(K:Frag):List (Str × U)→Bool
 | []=>true
 | p :: r=>(match globIn K p.1,uV p.2 with
  | some v,some w=>v==w
  | _,_=>false)&&gChk K r
theorem gok_of:∀{g:List (Str × U)},gChk W.K g=true→GOK W g
 | [],_=>fun p hp=>nomatch hp
 | q :: r,h=>fun p hp=>by
  have h1:=and2' h
  rcases List.mem_cons.mp hp with rfl | hp
  ·obtain ⟨x,u⟩:=p
   have h2:=h1.1
   split at h2
   ·rename_i v w e1 e2
    refine ⟨v,e1,?_⟩
    rw [beq_iff_eq.mp h2]
    cases u <;> first | (cases e2; done) | (cases e2; rfl)
   ·cases h2
  ·exact gok_of h1.2 p hp
theorem gok:GOK W gT:=gok_of (by kernel_rfl)
theorem fn_pick:FnP W 497 ["hand","limit"]:=fn_mk (by rfl) (by rfl) (by rfl) (fun _ _ _ _=>BindsTo.of_eq rfl) (by rfl) (by rfl) rfl rfl rfl
noncomputable def handC(ns:List Int)(p f s:Int):Cell:=.list [.lst (ns.map U.int),.int p,.int f,.int s]
variable {ns:List Int}{p f s k:Int}{R:List Cell}
theorem pickA(h0:0 < k)(h1:k < 2 ^ 60)(hf:f≠0):
  CallTo W 1 497 [.s 0,.u (.int k)] (handC ns p f s :: R) (.u (.int (f%k))) [] (handC ns p (f / k) s :: R) [] :=
 callTo_run [.c,.d false,.c,.c] fn_pick kok gok rfl ⟨rfl,rfl,rfl,rfl⟩ ⟨⟨by decide,by decide,(by decide:(2:Int) < (4:Nat))⟩,⟨h0,by exact lin [_,_,_] [] [65554,604462909807314587451459,19342813113834066795495507] 131090 9072588378180 rfl h1 pI60 pI64⟩,h0,decide_eq_false hf,True.intro⟩
theorem pickB(h0:0 < k)(hl:ns.length≤63):
  CallTo W 1 497 [.s 0,.u (.int k)] (handC ns ns.length 0 s :: R) (.u (.int (s * 48271%2147483647 / 7%k))) [] (handC ns ns.length 0 (s * 48271%2147483647) :: R) [] :=
 callTo_run [.c,.d true,.c,.c,.d true,.c,.c] fn_pick kok gok rfl ⟨rfl,rfl,rfl,rfl⟩
  ⟨h0,⟨by decide,by decide⟩,⟨by decide,by decide,(by decide:(3:Int) < (4:Nat))⟩,by decide,.inr (by decide),decide_eq_true (by rw [List.length_map]),by rw [List.length_map]; exact lin [] [_,_] [4136980,4835703278458516698923078] 65557 566498883 rfl hl pN63,decide_eq_true rfl,True.intro⟩
theorem pickC{x:Int}(h0:0 < k)(h1:k < 2 ^ 60)(hp:0≤p)(hl:ns.length≤63)(hx:ns[p.toNat]?=some x):
  CallTo W 1 497 [.s 0,.u (.int k)] (handC ns p 0 s :: R) (.u (.int ((if 0≤x then x else -x)%k))) [] (handC ns (p+1) ((if 0≤x then x else -x) / k) s :: R) []:=by
 have hlt:p.toNat < ns.length:=(List.getElem?_eq_some_iff.mp hx).1
 have e:(ns.map U.int)[p.toNat]?=some (.int x):=by rw [List.getElem?_map,hx]; rfl
 have d3:(1:Int) < (4:Nat):=by decide
 have d2:(2:Int) < (4:Nat):=by decide
 have q1:decide (p=((ns.map U.int).length:Nat))=false:=decide_eq_false (by rw [List.length_map]; omega)
 have q2:(ns.map U.int).length < 2 ^ 63:=by rw [List.length_map]; exact lin [] [_,_] [4136980,4835703278458516698923078] 65557 566498883 rfl hl pN63
 by_cases q:0≤x
 ·rw [if_pos q]
  exact callTo_run [.c,.d true,.c,.c,.d false,.c,.c,.a (.int x),.c,.d true,.c,.c] fn_pick kok gok rfl ⟨rfl,rfl,rfl,rfl⟩
   ⟨⟨by decide,by decide,d2⟩,⟨h0,by exact lin [_,_,_] [] [65554,604462909807314587451459,19342813113834066795495507] 131090 9072588378180 rfl h1 pI60 pI64⟩,h0,⟨by decide,by decide,d2⟩,decide_eq_true q,⟨by decide,by decide,d3⟩,⟨hp,by omega,e⟩,q1,q2,decide_eq_true rfl,True.intro⟩
 ·rw [if_neg q]
  exact callTo_run [.c,.d true,.c,.c,.d false,.c,.c,.a (.int x),.c,.d false,.c,.c] fn_pick kok gok rfl ⟨rfl,rfl,rfl,rfl⟩
   ⟨⟨by decide,by decide,d2⟩,⟨h0,by exact lin [_,_,_] [] [65554,604462909807314587451459,19342813113834066795495507] 131090 9072588378180 rfl h1 pI60 pI64⟩,h0,⟨by decide,by decide,d2⟩,decide_eq_false q,⟨by decide,by decide,d3⟩,⟨hp,by omega,e⟩,q1,q2,decide_eq_true rfl,True.intro⟩
theorem c_pick(h0:0 < k)(h1:k < 2 ^ 60)(hl:ns.length≤63)(hp:0≤p)(hp2:p≤ns.length):∃ d p' f' s',CallTo W 1 497 [.s 0,.u (.int k)] (handC ns p f s :: R) (.u (.int d)) [] (handC ns p' f' s' :: R) []∧0≤d∧d < k∧0≤p'∧p'≤ns.length:=by
 by_cases hf:f=0
 ·subst hf
  by_cases q:p=ns.length
  ·subst q
   exact ⟨_,_,_,_,pickB h0 hl,Int.emod_nonneg _ (by exact fun z0=>lin [_] [] [4130,8211] 0 149058 rfl h0 z0),Int.emod_lt_of_pos _ h0,hp,hp2⟩
  ·have hx:p.toNat < ns.length:=by omega
   exact ⟨_,_,_,_,pickC (x:=ns[p.toNat]) h0 h1 hp hl (List.getElem?_eq_getElem hx),Int.emod_nonneg _ (by exact fun z0=>lin [_] [] [4130,8211] 0 149058 rfl h0 z0),Int.emod_lt_of_pos _ h0,by exact lin [_] [] [4129] 604147745 149058 rfl hp,by exact (Int.lt_or_gt_of_ne q).elim (fun z0=>lin [_] [_] [49170] 1761648897 149058 rfl z0) (fun z0=>lin [_] [_] [49169,24626] 1761648897 149058 rfl hp2 z0)⟩
 ·exact ⟨_,_,_,_,pickA h0 h1 hf,Int.emod_nonneg _ (by exact fun z0=>lin [_] [] [4130,8211] 0 149058 rfl h0 z0),Int.emod_lt_of_pos _ h0,hp,hp2⟩
end
section
variable {W:Wd KH}{n:Nat}
theorem fn_Memory:FnP W 335 ["self","size"]:=fn_mk (by rfl) (by rfl) (by rfl) (fun _ _ _ _=>BindsTo.of_eq rfl) (by rfl) (by rfl) rfl rfl rfl
theorem n_Memory{h ma:Cell}{k:Int}:CallTo W 2 373 [.u (.int k)] [h,ma] (.s 2) [] [h,ma,.attrs 373 [("size",.u (.int k)),("words",.s 3)],.mem 916 fun _=>0] [] :=
 callTo_newS [.ad 916] (by rfl) (by rfl) (by rfl) (by rfl) fn_Memory kok gok rfl ⟨rfl,rfl,rfl,rfl⟩ True.intro
noncomputable abbrev i_(i:Int):V:=.u (.int i)
noncomputable def memA:Cell:=.attrs 373 [("size",i_ 3664),("words",.s 3)]
noncomputable def sM(h ma:Cell)(f:Int→Int)(R:List Cell):List Cell:=h :: ma :: memA :: .mem 916 f :: R
variable {h ma:Cell}{f:Int→Int}{R:List Cell}
theorem fn_place:FnP W 342 ["self","address"]:=fn_mk (by rfl) (by rfl) (by rfl) (fun _ _ _ _=>BindsTo.of_eq rfl) (by rfl) (by rfl) rfl rfl rfl
theorem c_place{a:Int}(h0:0≤a)(h1:a < 3664):CallTo W 1 342 [.s 2,i_ a] (sM h ma f R) (i_ (a / 4)) [] (sM h ma f R) [] :=
 callTo_run [.d false,.d false] fn_place kok gok rfl ⟨rfl,rfl,rfl,rfl⟩ ⟨by decide,decide_eq_false (by exact fun z0=>lin [_] [] [240132114,120066289] 0 149058 rfl h1 z0),decide_eq_false (by exact fun z0=>lin [_] [] [4129,8210] 0 149058 rfl h0 z0),True.intro⟩
theorem fn_word:FnP W 349 ["self","address"]:=fn_mk (by rfl) (by rfl) (by rfl) (fun _ _ _ _=>BindsTo.of_eq rfl) (by rfl) (by rfl) rfl rfl rfl
theorem c_word{a:Int}(h0:0≤a)(h1:a < 3664):CallTo W 2 349 [.s 2,i_ a] (sM h ma f R) (i_ (f (a / 4))) [] (sM h ma f R) [] :=
 callTo_run [.r 1 (i_ (a / 4)) [] (sM h ma f R) []] fn_word kok gok rfl ⟨rfl,rfl,rfl,rfl⟩ ⟨c_place h0 h1,True.intro⟩
theorem fn_put_word:FnP W 356 ["self","address","value"]:=fn_mk (by rfl) (by rfl) (by rfl) (fun _ _ _ _ _=>BindsTo.of_eq rfl) (by rfl) (by rfl) rfl rfl rfl
theorem c_put_word{a v:Int}(h0:0≤a)(h1:a < 3664):CallTo W 2 356 [.s 2,i_ a,i_ v] (sM h ma f R) (.u .none) [] (sM h ma (mset f (a / 4) (v%4294967296)) R) [] :=
 callTo_run [.r 1 (i_ (a / 4)) [] (sM h ma f R) []] fn_put_word kok gok rfl ⟨rfl,rfl,rfl,rfl⟩ ⟨⟨by exact lin [_,_,_] [] [4129,36352838672931,4390994] 135201 36353682722884 rfl h0 (dmA _ 4) (dmC _ 4 rfl),by exact lin [_,_,_] [] [240132114,36352838672931,266273] 3842932802 9072599912516 rfl h1 (dmA _ 4) (dmB _ 4 rfl)⟩,c_place h0 h1,by decide,True.intro⟩
theorem fn_list_number:FnP W 91 ["size"]:=fn_mk (by rfl) (by rfl) (by rfl) (fun _ _ _=>BindsTo.of_eq rfl) (by rfl) (by rfl) rfl rfl rfl
noncomputable def lnum(s:Int):Int:=if s < 32 then 0 else if s < 64 then 1 else if s < 128 then 2 else 3
theorem c_list_number{s:Int}{S:List Cell}:CallTo W 1 91 [i_ s] S (i_ (lnum s)) [] S []:=by
 unfold lnum
 by_cases h1:s < 32
 ·rw [if_pos h1]
  exact callTo_run [.d true] fn_list_number kok gok rfl ⟨rfl,rfl,rfl,rfl⟩ ⟨decide_eq_true h1,True.intro⟩
 ·rw [if_neg h1]
  by_cases h2:s < 64
  ·rw [if_pos h2]
   exact callTo_run [.d false,.d true] fn_list_number kok gok rfl ⟨rfl,rfl,rfl,rfl⟩ ⟨decide_eq_true h2,decide_eq_false h1,True.intro⟩
  ·rw [if_neg h2]
   by_cases h3:s < 128
   ·rw [if_pos h3]
    exact callTo_run [.d false,.d false,.d true] fn_list_number kok gok rfl ⟨rfl,rfl,rfl,rfl⟩ ⟨decide_eq_true h3,decide_eq_false h2,decide_eq_false h1,True.intro⟩
   ·rw [if_neg h3]
    exact callTo_run [.d false,.d false,.d false] fn_list_number kok gok rfl ⟨rfl,rfl,rfl,rfl⟩ ⟨decide_eq_false h3,decide_eq_false h2,decide_eq_false h1,True.intro⟩
end
section
variable {W:Wd KH}{n:Nat}{h ma:Cell}{f:Int→Int}{R:List Cell}{fl:List U}
noncomputable def heapA:Cell:=.attrs 164 [("memory",.s 2),("start",i_ 1088),("limit",i_ 1600),("free",.s 5)]
noncomputable def sH(h ma:Cell)(f:Int→Int)(fl:List U)(R:List Cell):List Cell:=h :: ma :: memA :: .mem 916 f :: heapA :: .list fl :: R
theorem lnum_b(s:Int):0≤lnum s∧lnum s < 4:=by unfold lnum; split <;> (try split) <;> (try split) <;> decide
theorem fn_put_free:FnP W 112 ["self","block","size"]:=fn_mk (by rfl) (by rfl) (by rfl) (fun _ _ _ _ _=>BindsTo.of_eq rfl) (by rfl) (by rfl) rfl rfl rfl
theorem c_put_free{b s x:Int}(h0:0≤b)(h1:b+4 < 3664)(hl:fl.length=4)(hx:fl[(lnum s).toNat]?=some (.int x)):
  CallTo W 3 112 [.s 4,i_ b,i_ s] (sH h ma f fl R) (.u .none) [] (sH h ma (mset (mset f (b / 4) ((s+1)%4294967296)) ((b+4) / 4) (x%4294967296)) (fl.set (lnum s).toNat (.int b)) R) [] :=
 have hb:=lnum_b s
 callTo_run [.r 1 (i_ (lnum s)) [] (sH h ma f fl R) [],.r 2 (.u .none) [] (sH h ma (mset f (b / 4) ((s+1)%4294967296)) fl R) [],.a (.int x),.r 2 (.u .none) [] (sH h ma (mset (mset f (b / 4) ((s+1)%4294967296)) ((b+4) / 4) (x%4294967296)) fl R) []] fn_put_free kok gok rfl ⟨rfl,rfl,rfl,rfl⟩
  ⟨⟨hb.1,by exact lin [_,_] [] [270354,4835703278458516698923075] 65554 566498883 rfl hb.2 pI63,by rw [hl]; exact hb.2⟩,c_put_word (by exact lin [_] [] [4129] 2214760481 149058 rfl h0) h1,⟨hb.1,by exact lin [_,_] [] [270354,4835703278458516698923075] 65554 566498883 rfl hb.2 pI63,hx⟩,c_put_word h0 (by exact lin [_] [] [31475147776290] 240132114 149058 rfl h1),c_list_number,True.intro⟩
theorem fn_Heap:FnP W 105 ["self","memory","start","limit"]:=fn_mk (by rfl) (by rfl) (by rfl) (fun _ _ _ _ _ _=>BindsTo.of_eq rfl) (by rfl) (by rfl) rfl rfl rfl
noncomputable def mem1(f:Int→Int):Int→Int:=mset (mset f (1088 / 4) ((512+1)%4294967296)) ((1088+4) / 4) (0%4294967296)
noncomputable def fl1:List U:=[.int 0,.int 0,.int 0,.int 1088]
theorem n_Heap:CallTo W 5 164 [.s 2,i_ 1088,i_ 1600] (sM h ma f []) (.s 4) [] (sH h ma (mem1 f) fl1 []) [] :=
 callTo_newS [.ad 0,.d true,.r 3 (.u .none) [] (sH h ma (mem1 f) fl1 []) []] (by rfl) (by rfl) (by rfl) (by rfl) fn_Heap kok gok rfl ⟨rfl,rfl,rfl,rfl⟩
  ⟨c_put_free (x:=0) (s:=512) (fl:=[.int 0,.int 0,.int 0,.int 0]) (by decide) (by decide) rfl rfl,by decide,⟨by decide,by decide,by decide⟩,True.intro⟩
theorem fn_Cpu:FnP W 265 ["self","memory"]:=fn_mk (by rfl) (by rfl) (by rfl) (fun _ _ _ _=>BindsTo.of_eq rfl) (by rfl) (by rfl) rfl rfl rfl
noncomputable def cpuA(pc:Int):Cell:=.attrs 317 [("memory",.s 2),("regs",.s 7),("h",i_ 0),("n",i_ 0),("z",i_ 0),("c",i_ 0),("v",i_ 0),("pc",i_ pc),("rows",.s 8)]
noncomputable def regs0:List U:=List.replicate 16 (.int 0)
noncomputable def sC(h ma:Cell)(f:Int→Int)(fl:List U)(pc:Int)(rg rows:List U)(R:List Cell):List Cell:=h :: ma :: memA :: .mem 916 f :: heapA :: .list fl :: cpuA pc :: .list rg :: .list rows :: R
theorem n_Cpu:CallTo W 2 317 [.s 2] (sH h ma f fl []) (.s 6) [] (sC h ma f fl 0 regs0 [] []) [] :=
 callTo_newS [.ad 0,.ad 0] (by rfl) (by rfl) (by rfl) (by rfl) fn_Cpu kok gok rfl ⟨rfl,rfl,rfl,rfl⟩ ⟨⟨by decide,by decide,by decide⟩,True.intro⟩
theorem fn_rounded:FnP W 384 ["size"]:=fn_mk (by rfl) (by rfl) (by rfl) (fun _ _ _=>BindsTo.of_eq rfl) (by rfl) (by rfl) rfl rfl rfl
theorem c_rounded{s:Int}{S:List Cell}:CallTo W 1 384 [i_ s] S (i_ ((s+16-1) / 16 * 16)) [] S [] :=
 callTo_run [] fn_rounded kok gok rfl ⟨rfl,rfl,rfl,rfl⟩ ⟨.inr (by decide),⟨by decide,by decide⟩,True.intro⟩
end
section
variable {W:Wd KH}{n:Nat}{h ma:Cell}{f:Int→Int}{R:List Cell}{fl:List U}
theorem fn_Machine:FnP W 399 ["self","heap_bytes","stack_bytes","limit","data_bytes"]:=fn_mk (by rfl) (by rfl) (by rfl) (fun _ X _ _ _ _ _=>binds_K X rfl (by rfl) rfl rfl rfl) (by rfl) (by rfl) rfl rfl rfl
noncomputable def mfs(t:Int):List (Str × V):=[("data_top",i_ t),("data_limit",i_ 1088),("stack_low",i_ 1616),("memory",.s 2),("heap",.s 4),("cpu",.s 6),("loaded",.s 9),("out",.s 10),("given",.s 11),("limit",i_ 60000),("steps",i_ 0)]
noncomputable def mA(t:Int):Cell:=.attrs 465 (mfs t)
noncomputable def mAk(k:Nat):Cell:=.attrs 465 ((mfs 64).take k)
noncomputable def row0:U:=.tup [.str "TRAP",.str "AL",.int 0,.int 9]
noncomputable def sA(h:Cell)(t:Int)(f:Int→Int)(fl:List U)(pc:Int)(rg rows ld:List U):List Cell:=sC h (mA t) f fl pc rg rows [.list ld,.list [],.list []]
noncomputable def mem0:Int→Int:=mem1 fun _=>0
theorem n_Machine:CallTo W 8 465 [i_ 512,i_ 2048,i_ 60000,i_ 1024] [h] (.s 1) [] (sA h 64 mem0 fl1 0 regs0 [row0] []) [] :=
 callTo_newS [.r 1 (i_ 1024) [] [h,mAk 1] [],.r 1 (i_ 512) [] [h,mAk 2] [],.r 1 (i_ 2048) [] [h,mAk 3] [],.r 2 (.s 2) [] (sM h (mAk 3) (fun _=>0) []) [],
  .r 5 (.s 4) [] (sH h (mAk 4) mem0 fl1 []) [],.r 2 (.s 6) [] (sC h (mAk 5) mem0 fl1 0 regs0 [] []) [],.ad 0,.ad 0,.ad 0] (by rfl) (by rfl) (by rfl) (by rfl) fn_Machine kok gok rfl ⟨rfl,rfl,rfl,rfl⟩
  ⟨by decide,n_Cpu,n_Heap,n_Memory,c_rounded,c_rounded,c_rounded,True.intro⟩
end
section
variable {W:Wd KH}{n:Nat}{h ma:Cell}{f:Int→Int}{R:List Cell}{fl:List U}
noncomputable def stAt(K:Frag)(f:Addr)(i:Nat):Stmt:=((bodyOf K f)[i]?).getD (.Pass default)
noncomputable def whT:Stmt→Expr
 | .While t _ _ _=>t
 | _=>default
noncomputable def whB:Stmt→List Stmt
 | .While _ b _ _=>b
 | .For _ _ b _ _=>b
 | _=>[]
theorem fn_is_free:FnP W 119 ["self","block"]:=fn_mk (by rfl) (by rfl) (by rfl) (fun _ _ _ _=>BindsTo.of_eq rfl) (by rfl) (by rfl) rfl rfl rfl
theorem c_is_free{b:Int}(h0:0≤b)(h1:b < 3664):CallTo W 3 119 [.s 4,i_ b] (sH h ma f fl R) (.u (.bool (decide (f (b / 4)%2=1)))) [] (sH h ma f fl R) [] :=
 callTo_run [.r 2 (i_ (f (b / 4))) [] (sH h ma f fl R) []] fn_is_free kok gok rfl ⟨rfl,rfl,rfl,rfl⟩ ⟨by decide,c_word h0 h1,True.intro⟩
theorem fn_descriptor:FnP W 126 ["self","block"]:=fn_mk (by rfl) (by rfl) (by rfl) (fun _ _ _ _=>BindsTo.of_eq rfl) (by rfl) (by rfl) rfl rfl rfl
theorem c_descriptor{b:Int}(h0:0≤b)(h1:b < 3664):CallTo W 3 126 [.s 4,i_ b] (sH h ma f fl R) (i_ (f (b / 4))) [] (sH h ma f fl R) [] :=
 callTo_run [.r 2 (i_ (f (b / 4))) [] (sH h ma f fl R) []] fn_descriptor kok gok rfl ⟨rfl,rfl,rfl,rfl⟩ ⟨c_word h0 h1,True.intro⟩
noncomputable def bsz(r:Int):Int:=(r+8+16-1) / 16 * 16
theorem fn_block_size:FnP W 84 ["record_size"]:=fn_mk (by rfl) (by rfl) (by rfl) (fun _ _ _=>BindsTo.of_eq rfl) (by rfl) (by rfl) rfl rfl rfl
theorem c_block_size{s:Int}{S:List Cell}:CallTo W 1 84 [i_ s] S (i_ (bsz s)) [] S [] :=
 callTo_run [] fn_block_size kok gok rfl ⟨rfl,rfl,rfl,rfl⟩ ⟨.inr (by decide),⟨by decide,by decide⟩,True.intro⟩
noncomputable def szf(f:Int→Int)(b:Int):Int:=if f (b / 4)%2=1 then f (b / 4)-1 else bsz (f (f (b / 4) / 4))
theorem fn_size_of:FnP W 133 ["self","block"]:=fn_mk (by rfl) (by rfl) (by rfl) (fun _ _ _ _=>BindsTo.of_eq rfl) (by rfl) (by rfl) rfl rfl rfl
theorem c_size_of{b:Int}(h0:0≤b)(h1:b < 3664)(h2:f (b / 4)%2=1∨0≤f (b / 4)∧f (b / 4) < 3664):CallTo W 3 133 [.s 4,i_ b] (sH h ma f fl R) (i_ (szf f b)) [] (sH h ma f fl R) []:=by
 unfold szf
 by_cases q:f (b / 4)%2=1
 ·rw [if_pos q]
  exact callTo_run [.r 2 (i_ (f (b / 4))) [] (sH h ma f fl R) [],.d true] fn_size_of kok gok rfl ⟨rfl,rfl,rfl,rfl⟩ ⟨decide_eq_true q,by decide,c_word h0 h1,True.intro⟩
 ·rw [if_neg q]
  have h3:=h2.resolve_left q
  exact callTo_run [.r 2 (i_ (f (b / 4))) [] (sH h ma f fl R) [],.d false,.r 2 (i_ (f (f (b / 4) / 4))) [] (sH h ma f fl R) [],.r 1 (i_ (bsz (f (f (b / 4) / 4)))) [] (sH h ma f fl R) []] fn_size_of kok gok rfl ⟨rfl,rfl,rfl,rfl⟩ ⟨c_block_size,c_word h3.1 h3.2,decide_eq_false q,by decide,c_word h0 h1,True.intro⟩
noncomputable def HB(f:Int→Int):Int→List (Int × Int × Option Int)→Prop
 | a,[]=>a=1600
 | a,(b,s,d) :: r=>b=a∧a < 1600∧0≤a∧szf f a=s∧(f (a / 4)%2=1∨0≤f (a / 4)∧f (a / 4) < 3664)∧d=(if f (a / 4)%2=1 then none else some (f (a / 4)))∧HB f (a+s) r
noncomputable def encB(p:Int × Int × Option Int):U:=.tup [.int p.1,.int p.2.1,match p.2.2 with | none=>.none | some t=>.int t]
noncomputable def lB(a:Int):List (Str × V):=[("self",.s 4),("found",.o 0),("block",i_ a)]
theorem L_blocks(bs:List (Int × Int × Option Int)):∀(a:Int)(us:List U),us.length+bs.length≤sizeLine→HB f a bs→Wh W 4 (scopeOf W.K 154) (whT (stAt W.K 154 2)) (whB (stAt W.K 154 2)) 1 bs.length ⟨lB a,sH h ma f fl R,[.list us]⟩ .next ⟨lB 1600,sH h ma f fl R,[.list (us++bs.map encB)]⟩:=by
 induction bs with
 | nil =>
  intro a us hl hb
  have hb:a=1600:=hb
  subst hb
  rw [List.map_nil,List.append_nil]
  exact .stop (tu_run [.d false] kok gok ⟨rfl⟩ ⟨by decide,True.intro⟩)
 | cons p bs ih =>
  intro a us hl hb
  obtain ⟨b,s,d⟩:=p
  obtain ⟨rfl,h1,h2,h3,h4,h5,h6⟩:=hb
  subst h3
  have hl1:us.length≤sizeLine:=by rw [List.length_cons] at hl; exact lin [] [_,_,_] [145960739054068] 131092 423746 rfl hl
  have ihh:=ih (b+szf f b) (us++[encB (b,szf f b,d)]) (by rw [List.length_append,List.length_cons] at *; simp only [List.length_nil]; exact lin [] [_,_,_] [145960739054068] 1191554563720520388 149058 rfl hl) h6
  rw [List.append_assoc] at ihh
  rw [List.map_cons]
  refine .go (fl:=.next) (a':=⟨lB (b+szf f b),sH h ma f fl R,[.list (us++[encB (b,szf f b,d)])]⟩) (b:=⟨lB (b+szf f b)++[(("size":Str),i_ (szf f b))],sH h ma f fl R,[.list (us++[encB (b,szf f b,d)])]⟩) ?_ (.inl rfl) (less_of [(("size":Str),i_ (szf f b))] rfl rfl rfl rfl) (Nat.le_refl _) ihh
  subst h5
  by_cases q:f (b / 4)%2=1
  ·rw [if_pos q]
   exact tu_run [.d true,.r 3 (i_ (szf f b)) [] (sH h ma f fl R) [],.r 3 (.u (.bool (decide (f (b / 4)%2=1)))) [] (sH h ma f fl R) [],.d true] kok gok ⟨rfl⟩ ⟨hl1,decide_eq_true q,c_is_free h2 (by exact lin [_] [] [104865810] 240132114 149058 rfl h1),c_size_of h2 (by exact lin [_] [] [104865810] 240132114 149058 rfl h1) h4,decide_eq_true h1,True.intro⟩
  ·rw [if_neg q]
   exact tu_run [.d true,.r 3 (i_ (szf f b)) [] (sH h ma f fl R) [],.r 3 (.u (.bool (decide (f (b / 4)%2=1)))) [] (sH h ma f fl R) [],.d false,.r 3 (i_ (f (b / 4))) [] (sH h ma f fl R) []] kok gok ⟨rfl⟩ ⟨hl1,c_descriptor h2 (by exact lin [_] [] [104865810] 240132114 149058 rfl h1),decide_eq_false q,c_is_free h2 (by exact lin [_] [] [104865810] 240132114 149058 rfl h1),c_size_of h2 (by exact lin [_] [] [104865810] 240132114 149058 rfl h1) h4,decide_eq_true h1,True.intro⟩
theorem fn_blocks:FnP W 154 ["self"]:=fn_mk (by rfl) (by rfl) (by rfl) (fun _ _ _=>BindsTo.of_eq rfl) (by rfl) (by rfl) rfl rfl rfl
theorem c_blocks{bs:List (Int × Int × Option Int)}(hl:bs.length≤sizeLine)(hb:HB f 1088 bs):CallTo W 5 154 [.s 4] (sH h ma f fl R) (.o 0) [.list (bs.map encB)] (sH h ma f fl R) [] :=
 callTo_run [.lp .next (lB 1600) (sH h ma f fl R) [.list (bs.map encB)] []] fn_blocks kok gok rfl ⟨rfl,rfl,rfl,rfl⟩ ⟨wh_ok (L_blocks bs 1088 [] (by rw [List.length_nil,Nat.zero_add]; exact hl) hb),True.intro⟩
end
section
variable {W:Wd KH}{n:Nat}{h:Cell}{f:Int→Int}{fl rg rows ld:List U}{t pc:Int}
noncomputable def rnd(s:Int):Int:=(s+16-1) / 16 * 16
theorem fn_add_data:FnP W 413 ["self","size"]:=fn_mk (by rfl) (by rfl) (by rfl) (fun _ _ _ _=>BindsTo.of_eq rfl) (by rfl) (by rfl) rfl rfl rfl
theorem c_add_data{s:Int}(h0:0≤s)(h1:t+rnd s≤1088):CallTo W 2 413 [.s 1,i_ s] (sA h t f fl pc rg rows ld) (i_ t) [] (sA h (t+rnd s) f fl pc rg rows ld) [] :=
 callTo_run [.d false,.r 1 (i_ (rnd s)) [] (sA h t f fl pc rg rows ld) [],.d false,.r 1 (i_ (rnd s)) [] (sA h t f fl pc rg rows ld) []] fn_add_data kok gok rfl ⟨rfl,rfl,rfl,rfl⟩
  ⟨c_rounded,decide_eq_false (by exact fun z0=>lin [_,_] [] [2336864903425,2199730000098] 0 149058 rfl h1 z0),c_rounded,decide_eq_false (by exact fun z0=>lin [_] [] [4129,8210] 0 149058 rfl h0 z0),True.intro⟩
theorem fn_most_frames:FnP W 434 ["self"]:=fn_mk (by rfl) (by rfl) (by rfl) (fun _ _ _=>BindsTo.of_eq rfl) (by rfl) (by rfl) rfl rfl rfl
theorem c_most_frames:CallTo W 1 434 [.s 1] (sA h t f fl pc rg rows ld) (i_ ((3664-1616) / 8+2)) [] (sA h t f fl pc rg rows ld) [] :=
 callTo_run [] fn_most_frames kok gok rfl ⟨rfl,rfl,rfl,rfl⟩ ⟨⟨by decide,by decide⟩,True.intro⟩
theorem fn_add_rows:FnP W 406 ["self","rows"]:=fn_mk (by rfl) (by rfl) (by rfl) (fun _ _ _ _=>BindsTo.of_eq rfl) (by rfl) (by rfl) rfl rfl rfl
noncomputable def lR(rs:List U)(k:Int):List (Str × V):=[("self",.s 1),("rows",.u (.lst rs)),("base",i_ k)]
theorem L_add_rows{r0:List U}{k:Int}:∀(rs rows:List U),rows.length+rs.length≤sizeLine→Fo W 0 (scopeOf W.K 406) (.one "row") (whB (stAt W.K 406 1)) 0 rs ⟨lR r0 k,sA h t f fl pc rg rows ld,[]⟩ .next ⟨lR r0 k,sA h t f fl pc rg (rows++rs) ld,[]⟩:=by
 intro rs
 induction rs with
 | nil=>intro rows _; rw [List.append_nil]; exact .nil
 | cons u rs ih =>
  intro rows hl
  have ih:=ih (rows++[u]) (by rw [List.length_append]; simp only [List.length_cons,List.length_nil] at *; exact lin [] [_,_,_] [145960739054068] 1191554563720520388 149058 rfl hl)
  rw [List.append_assoc] at ih
  have st:BoS W 0 (scopeOf W.K 406) (whB (stAt W.K 406 1)) ⟨lR r0 k++[(("row":Str),V.u u)],sA h t f fl pc rg rows ld,[]⟩ .next ⟨lR r0 k++[(("row":Str),V.u u)],sA h t f fl pc rg (rows++[u]) ld,[]⟩:=bo_run [] kok gok ⟨rfl⟩ ⟨by rw [List.length_cons] at hl; exact lin [] [_,_,_] [145960739054068] 131092 423746 rfl hl,True.intro⟩
  exact .go (fl:=.next) (a':=⟨lR r0 k,sA h t f fl pc rg (rows++[u]) ld,[]⟩) rfl st (.inl rfl) (less_of [(("row":Str),V.u u)] rfl rfl rfl rfl) (Nat.le_refl _) ih
theorem c_add_rows{rs:List U}(hl:rows.length+rs.length≤100000):CallTo W 1 406 [.s 1,.u (.lst rs)] (sA h t f fl pc rg rows ld) (i_ rows.length) [] (sA h t f fl pc rg (rows++rs) ld) [] :=
 callTo_run [.lp .next (lR rs rows.length) (sA h t f fl pc rg (rows++rs) ld) [] []] fn_add_rows kok gok rfl ⟨rfl,rfl,rfl,rfl⟩
  ⟨for_ok (sr_u (ev_run [] kok gok ⟨rfl⟩ True.intro) rfl) rfl rfl rfl (L_add_rows rs rows (by rw [sizeLine_eq]; exact lin [] [_,_] [214748767494404] 36028797421658372 149058 rfl hl)),by omega,True.intro⟩
end
section
variable {W:Wd KH}{n:Nat}{h ma:Cell}{f:Int→Int}{R:List Cell}{fl:List U}{osc:Scope}
theorem ExS.nil{st:Stmt}{l l':List (Str × V)}{S O S' O':List Cell}{fw:Fl}{rls:List Nat}(h:ExS W n osc st l S O fw l' S' O' rls):ExS W n osc st l S O fw [] S' O' rls:=fun env ho F s K M lr k=>h env ho F s K M lr fun f m' s' M' _=>k f m' s' M' fun _ _ e=>nomatch e
noncomputable def bof(x:Int):List (Int × Int × Option Int)→Int
 | []=>0
 | (b,s,d) :: r=>if x < b+s then (if d=none∨x < b+8 then 0 else b+8) else bof x r
noncomputable def lO(x a:Int):List (Str × V):=[("self",.s 4),("address",i_ x),("block",i_ a)]
theorem L_block_of{x:Int}(hx:x < 1600)(bs:List (Int × Int × Option Int)):∀ a:Int,a≤x→HB f a bs→∃ l',Wh W 3 (scopeOf W.K 161) (whT (stAt W.K 161 2)) (whB (stAt W.K 161 2)) 0 bs.length ⟨lO x a,sH h ma f fl R,[]⟩ (.ret (i_ (bof x bs))) ⟨l',sH h ma f fl R,[]⟩:=by
 induction bs with
 | nil=>intro a h1 hb; have hb:a=1600:=hb; exact False.elim (lin [_,_] [] [104865810,32833,838959171] 0 826545731 rfl hx h1 hb)
 | cons p bs ih =>
  intro a ha hb
  obtain ⟨b,s,d⟩:=p
  obtain ⟨rfl,h1,h2,h3,h4,h5,h6⟩:=hb
  subst h3
  by_cases q:x < b+szf f b
  ·refine ⟨lO x b++[(("size":Str),i_ (szf f b))],.ret ?_⟩
   unfold bof
   rw [if_pos q]
   subst h5
   by_cases q2:f (b / 4)%2=1
   ·rw [if_pos q2,if_pos (.inl rfl)]
    exact tu_run [.d true,.r 3 (i_ (szf f b)) [] (sH h ma f fl R) [],.d true,.r 3 (.u (.bool (decide (f (b / 4)%2=1)))) [] (sH h ma f fl R) [],.d true] kok gok ⟨rfl⟩ ⟨decide_eq_true q2,c_is_free h2 (by exact lin [_] [] [104865810] 240132114 149058 rfl h1),decide_eq_true q,c_size_of h2 (by exact lin [_] [] [104865810] 240132114 149058 rfl h1) h4,decide_eq_true h1,True.intro⟩
   ·rw [if_neg q2]
    by_cases q3:x < b+8
    ·rw [if_pos (.inr q3)]
     exact tu_run [.d true,.r 3 (i_ (szf f b)) [] (sH h ma f fl R) [],.d true,.r 3 (.u (.bool (decide (f (b / 4)%2=1)))) [] (sH h ma f fl R) [],.d false,.d true] kok gok ⟨rfl⟩ ⟨decide_eq_true q3,decide_eq_false q2,c_is_free h2 (by exact lin [_] [] [104865810] 240132114 149058 rfl h1),decide_eq_true q,c_size_of h2 (by exact lin [_] [] [104865810] 240132114 149058 rfl h1) h4,decide_eq_true h1,True.intro⟩
    ·rw [if_neg (by simp [q3])]
     exact tu_run [.d true,.r 3 (i_ (szf f b)) [] (sH h ma f fl R) [],.d true,.r 3 (.u (.bool (decide (f (b / 4)%2=1)))) [] (sH h ma f fl R) [],.d false,.d false] kok gok ⟨rfl⟩ ⟨decide_eq_false q3,decide_eq_false q2,c_is_free h2 (by exact lin [_] [] [104865810] 240132114 149058 rfl h1),decide_eq_true q,c_size_of h2 (by exact lin [_] [] [104865810] 240132114 149058 rfl h1) h4,decide_eq_true h1,True.intro⟩
  ·obtain ⟨l',w⟩:=ih (b+szf f b) (by exact lin [_,_,_] [] [4429463576] 2214732097 149058 rfl q) h6
   refine ⟨l',?_⟩
   unfold bof
   rw [if_neg q]
   exact .go (fl:=.next) (a':=⟨lO x (b+szf f b),sH h ma f fl R,[]⟩) (b:=⟨lO x (b+szf f b)++[(("size":Str),i_ (szf f b))],sH h ma f fl R,[]⟩) (tu_run [.d true,.r 3 (i_ (szf f b)) [] (sH h ma f fl R) [],.d false] kok gok ⟨rfl⟩ ⟨decide_eq_false q,c_size_of h2 (by exact lin [_] [] [104865810] 240132114 149058 rfl h1) h4,decide_eq_true h1,True.intro⟩) (.inl rfl) (less_of [(("size":Str),i_ (szf f b))] rfl rfl rfl rfl) (Nat.le_refl _) w
theorem fn_block_of:FnP W 161 ["self","address"]:=fn_mk (by rfl) (by rfl) (by rfl) (fun _ _ _ _=>BindsTo.of_eq rfl) (by rfl) (by rfl) rfl rfl rfl
noncomputable def bofA(x:Int)(bs:List (Int × Int × Option Int)):Int:=if x < 1088∨1600≤x then 0 else bof x bs
theorem c_block_of{x:Int}{bs:List (Int × Int × Option Int)}(hb:HB f 1088 bs):CallTo W 4 161 [.s 4,i_ x] (sH h ma f fl R) (i_ (bofA x bs)) [] (sH h ma f fl R) []:=by
 unfold bofA
 by_cases q:x < 1088
 ·rw [if_pos (.inl q)]
  exact callTo_run [.d true] fn_block_of kok gok rfl ⟨rfl,rfl,rfl,rfl⟩ ⟨decide_eq_true q,True.intro⟩
 ·by_cases q2:1600≤x
  ·rw [if_pos (.inr q2)]
   exact callTo_run [.d false,.d true] fn_block_of kok gok rfl ⟨rfl,rfl,rfl,rfl⟩ ⟨decide_eq_true q2,decide_eq_false q,True.intro⟩
  ·rw [if_neg (by exact fun z0=>z0.elim (fun z1=>lin [_] [] [71311384,71311378] 0 149058 rfl q z1) (fun z1=>lin [_] [] [52433127,52433121] 0 149058 rfl q2 z1))]
   obtain ⟨l',w⟩:=L_block_of (W:=W) (h:=h) (ma:=ma) (R:=R) (fl:=fl) (x:=x) (by exact lin [_] [] [52433127] 104865810 149058 rfl q2) bs 1088 (by exact lin [_] [] [71311384] 35655905 149058 rfl q) hb
   exact callTo_run [.d false,.d false,.lp (.ret (i_ (bof x bs))) [] (sH h ma f fl R) [] []] fn_block_of kok gok rfl ⟨rfl,rfl,rfl,rfl⟩ ⟨(wh_ok w).nil,decide_eq_false q2,decide_eq_false q,True.intro⟩
end
section
variable {W:Wd KH}{n:Nat}{h ma:Cell}{f:Int→Int}{R:List Cell}{fl:List U}{osc:Scope}
theorem fn_first_offset:FnP W 28 ["heap","record"]:=fn_mk (by rfl) (by rfl) (by rfl) (fun _ _ _ _=>BindsTo.of_eq rfl) (by rfl) (by rfl) rfl rfl rfl
theorem c_first_offset{r:Int}(h0:0≤r+-8)(h1:r+-8 < 3664):CallTo W 3 28 [.s 4,i_ r] (sH h ma f fl R) (i_ (f ((r+-8) / 4)+20)) [] (sH h ma f fl R) [] :=
 callTo_run [.r 2 (i_ (f ((r+-8) / 4))) [] (sH h ma f fl R) []] fn_first_offset kok gok rfl ⟨rfl,rfl,rfl,rfl⟩ ⟨c_word h0 h1,True.intro⟩
theorem fn_is_fresh:FnP W 35 ["heap","record"]:=fn_mk (by rfl) (by rfl) (by rfl) (fun _ _ _ _=>BindsTo.of_eq rfl) (by rfl) (by rfl) rfl rfl rfl
noncomputable def fresh(f:Int→Int)(r:Int):Bool:=if r≤1088∨1600≤r then false else decide (f ((r+-4) / 4)=0)
theorem c_is_fresh{r:Int}:CallTo W 3 35 [.s 4,i_ r] (sH h ma f fl R) (.u (.bool (fresh f r))) [] (sH h ma f fl R) []:=by
 unfold fresh
 by_cases q:r≤1088
 ·rw [if_pos (.inl q)]
  exact callTo_run [.d true] fn_is_fresh kok gok rfl ⟨rfl,rfl,rfl,rfl⟩ ⟨decide_eq_true q,True.intro⟩
 ·by_cases q2:1600≤r
  ·rw [if_pos (.inr q2)]
   exact callTo_run [.d false,.d true] fn_is_fresh kok gok rfl ⟨rfl,rfl,rfl,rfl⟩ ⟨decide_eq_true q2,decide_eq_false q,True.intro⟩
  ·rw [if_neg (by exact fun z0=>z0.elim (fun z1=>lin [_] [] [71311383,71311377] 0 149058 rfl q z1) (fun z1=>lin [_] [] [52433127,52433121] 0 149058 rfl q2 z1))]
   exact callTo_run [.d false,.d false,.r 2 (i_ (f ((r+-4) / 4))) [] (sH h ma f fl R) []] fn_is_fresh kok gok rfl ⟨rfl,rfl,rfl,rfl⟩ ⟨c_word (by exact lin [_] [] [71311383] 18052452385 149058 rfl q) (by exact lin [_] [] [52433127] 251801265807698 149058 rfl q2),decide_eq_false q2,decide_eq_false q,True.intro⟩
noncomputable def okA(a:Int):Prop:=0≤a∧a < 3664
noncomputable def put(f:Int→Int)(a v:Int):Int→Int:=mset f (a / 4) (v%4294967296)
noncomputable def at_(f:Int→Int)(a:Int):Int:=f (a / 4)
noncomputable def Sw(k:Nat)(f:Int→Int)(c b x:Int)(f':Int→Int)(c':Int):Prop :=
 ∀ P:Nat→(Int→Int)→Int→Int→Int→Prop,
  (∀{k:Nat}{x:Int},okA (x+-4)→okA (at_ f' (x+-4))→at_ f' (at_ f' (x+-4))=4294967295→P k f' c' 0 x) →
  (∀{k:Nat}{f:Int→Int}{c b x t:Int},okA (x+-4)→okA (at_ f (x+-4))→at_ f (at_ f (x+-4))≠4294967295→okA (x+at_ f (at_ f (x+-4)))→at_ f (x+at_ f (at_ f (x+-4)))=t→fresh f t=true→okA (t+-8)→okA (t+-4) →
   P k (put (put f (x+at_ f (at_ f (x+-4))) b) (t+-4) (at_ (put f (x+at_ f (at_ f (x+-4))) b) (t+-8)+20)) (c+1) x t→P (k+1) f c b x) →
  (∀{k:Nat}{f:Int→Int}{c b x:Int},okA (x+-4)→okA (at_ f (x+-4))→at_ f (at_ f (x+-4))≠4294967295→okA (x+at_ f (at_ f (x+-4)))→fresh f (at_ f (x+at_ f (at_ f (x+-4))))=false →
   P k (put f (x+-4) (at_ f (x+-4)+4)) c b x→P (k+1) f c b x) →
  (∀{k:Nat}{f:Int→Int}{c b x:Int},okA (x+-4)→okA (at_ f (x+-4))→at_ f (at_ f (x+-4))=4294967295→b≠0→okA (b+-4)→okA (at_ f (b+-4))→okA (b+at_ f (at_ f (b+-4))) →
   P k (put (put f (b+at_ f (at_ f (b+-4))) x) (b+-4) (at_ f (b+-4)+4)) c (at_ f (b+at_ f (at_ f (b+-4)))) b→P (k+1) f c b x) →
  P k f c b x
theorem Sw.fin{k:Nat}{f:Int→Int}{c x:Int}(h1:okA (x+-4))(h2:okA (at_ f (x+-4)))(h3:at_ f (at_ f (x+-4))=4294967295):Sw k f c 0 x f c:=fun _ a _ _ _=>a h1 h2 h3
theorem Sw.down{k:Nat}{f:Int→Int}{c b x t:Int}{f':Int→Int}{c':Int}(h1:okA (x+-4))(h2:okA (at_ f (x+-4)))(h3:at_ f (at_ f (x+-4))≠4294967295)(h4:okA (x+at_ f (at_ f (x+-4))))(h5:at_ f (x+at_ f (at_ f (x+-4)))=t)(h6:fresh f t=true)(h7:okA (t+-8))(h8:okA (t+-4))
  (w:Sw k (put (put f (x+at_ f (at_ f (x+-4))) b) (t+-4) (at_ (put f (x+at_ f (at_ f (x+-4))) b) (t+-8)+20)) (c+1) x t f' c'):Sw (k+1) f c b x f' c':=fun P a d n u=>d h1 h2 h3 h4 h5 h6 h7 h8 (w P a d n u)
theorem Sw.next{k:Nat}{f:Int→Int}{c b x:Int}{f':Int→Int}{c':Int}(h1:okA (x+-4))(h2:okA (at_ f (x+-4)))(h3:at_ f (at_ f (x+-4))≠4294967295)(h4:okA (x+at_ f (at_ f (x+-4))))(h5:fresh f (at_ f (x+at_ f (at_ f (x+-4))))=false)
  (w:Sw k (put f (x+-4) (at_ f (x+-4)+4)) c b x f' c'):Sw (k+1) f c b x f' c':=fun P a d n u=>n h1 h2 h3 h4 h5 (w P a d n u)
theorem Sw.up{k:Nat}{f:Int→Int}{c b x:Int}{f':Int→Int}{c':Int}(h1:okA (x+-4))(h2:okA (at_ f (x+-4)))(h3:at_ f (at_ f (x+-4))=4294967295)(h4:b≠0)(h5:okA (b+-4))(h6:okA (at_ f (b+-4)))(h7:okA (b+at_ f (at_ f (b+-4))))
  (w:Sw k (put (put f (b+at_ f (at_ f (b+-4))) x) (b+-4) (at_ f (b+-4)+4)) c (at_ f (b+at_ f (at_ f (b+-4)))) b f' c'):Sw (k+1) f c b x f' c':=fun P a d n u=>u h1 h2 h3 h4 h5 h6 h7 (w P a d n u)
noncomputable def lM(r c b x:Int):List (Str × V):=[("heap",.s 4),("record",i_ r),("memory",.s 2),("count",i_ c),("back",i_ b),("here",i_ x)]
theorem L_mark{r c b x c':Int}{f':Int→Int}{k:Nat}(w:Sw k f c b x f' c'):∃ l',Wh W 3 (scopeOf W.K 42) (whT (stAt W.K 42 6)) (whB (stAt W.K 42 6)) 0 k ⟨lM r c b x,sH h ma f fl R,[]⟩ (.ret (i_ c')) ⟨l',sH h ma f' fl R,[]⟩:=by
 apply w
 ·intro k x h1 h2 h3
  exact ⟨_,.ret (b:=⟨lM r c' 0 x++[(("at":Str),i_ (at_ f' (x+-4))),(("offset":Str),i_ (at_ f' (at_ f' (x+-4))))],sH h ma f' fl R,[]⟩) (tu_run [.r 2 (i_ (at_ f' (x+-4))) [] (sH h ma f' fl R) [],.r 2 (i_ (at_ f' (at_ f' (x+-4)))) [] (sH h ma f' fl R) [],.d false,.d true] kok gok ⟨rfl⟩ ⟨decide_eq_true rfl,decide_eq_false (by simp [h3]),c_word h2.1 h2.2,c_word h1.1 h1.2,True.intro⟩)⟩
 ·intro k f c b x t h1 h2 h3 h4 h5 h6 h7 h8 ih
  obtain ⟨l',w⟩:=ih
  subst h5
  generalize ho:at_ f (at_ f (x+-4))=o at *
  generalize ht:at_ f (x+o)=t at *
  generalize hf1:put f (x+o) b=f1 at *
  generalize hf2:put f1 (t+-4) (at_ f1 (t+-8)+20)=f2 at *
  have c1:CallTo W 2 356 [.s 2,i_ (x+o),i_ b] (sH h ma f fl R) (.u .none) [] (sH h ma f1 fl R) []:=by rw [← hf1]; exact c_put_word h4.1 h4.2
  have c2:CallTo W 2 356 [.s 2,i_ (t+-4),i_ (at_ f1 (t+-8)+20)] (sH h ma f1 fl R) (.u .none) [] (sH h ma f2 fl R) []:=by rw [← hf2]; exact c_put_word h8.1 h8.2
  have c3:CallTo W 2 349 [.s 2,i_ (x+o)] (sH h ma f fl R) (i_ t) [] (sH h ma f fl R) []:=by rw [← ht]; exact c_word h4.1 h4.2
  have c4:CallTo W 2 349 [.s 2,i_ (at_ f (x+-4))] (sH h ma f fl R) (i_ o) [] (sH h ma f fl R) []:=by rw [← ho]; exact c_word h2.1 h2.2
  exact ⟨l',.go (fl:=.next) (a':=⟨lM r (c+1) x t,sH h ma f2 fl R,[]⟩) (b:=⟨lM r (c+1) x t++[(("at":Str),i_ (at_ f (x+-4))),(("offset":Str),i_ o),(("target":Str),i_ t)],sH h ma f2 fl R,[]⟩)
   (tu_run [.r 2 (i_ (at_ f (x+-4))) [] (sH h ma f fl R) [],.r 2 (i_ o) [] (sH h ma f fl R) [],.d true,.r 2 (i_ t) [] (sH h ma f fl R) [],.r 3 (.u (.bool (fresh f t))) [] (sH h ma f fl R) [],.d true,.r 2 (.u .none) [] (sH h ma f1 fl R) [],.r 3 (i_ (at_ f1 (t+-8)+20)) [] (sH h ma f1 fl R) [],.r 2 (.u .none) [] (sH h ma f2 fl R) []] kok gok ⟨rfl⟩
    ⟨c2,c_first_offset h7.1 h7.2,c1,h6,c_is_fresh,c3,decide_eq_true h3,c4,c_word h1.1 h1.2,True.intro⟩) (.inl rfl) (less_of [(("at":Str),i_ (at_ f (x+-4))),(("offset":Str),i_ o),(("target":Str),i_ t)] rfl rfl rfl rfl) (Nat.le_refl _) w⟩
 ·intro k f c b x h1 h2 h3 h4 h5 ih
  obtain ⟨l',w⟩:=ih
  exact ⟨l',.go (fl:=.next) (a':=⟨lM r c b x,sH h ma (put f (x+-4) (at_ f (x+-4)+4)) fl R,[]⟩) (b:=⟨lM r c b x++[(("at":Str),i_ (at_ f (x+-4))),(("offset":Str),i_ (at_ f (at_ f (x+-4)))),(("target":Str),i_ (at_ f (x+at_ f (at_ f (x+-4)))))],sH h ma (put f (x+-4) (at_ f (x+-4)+4)) fl R,[]⟩)
   (tu_run [.r 2 (i_ (at_ f (x+-4))) [] (sH h ma f fl R) [],.r 2 (i_ (at_ f (at_ f (x+-4)))) [] (sH h ma f fl R) [],.d true,.r 2 (i_ (at_ f (x+at_ f (at_ f (x+-4))))) [] (sH h ma f fl R) [],.r 3 (.u (.bool (fresh f (at_ f (x+at_ f (at_ f (x+-4))))))) [] (sH h ma f fl R) [],.d false,.r 2 (.u .none) [] (sH h ma (put f (x+-4) (at_ f (x+-4)+4)) fl R) []] kok gok ⟨rfl⟩
    ⟨c_put_word h1.1 h1.2,h5,c_is_fresh,c_word h4.1 h4.2,decide_eq_true h3,c_word h2.1 h2.2,c_word h1.1 h1.2,True.intro⟩) (.inl rfl) (less_of [(("at":Str),i_ (at_ f (x+-4))),(("offset":Str),i_ (at_ f (at_ f (x+-4)))),(("target":Str),i_ (at_ f (x+at_ f (at_ f (x+-4)))))] rfl rfl rfl rfl) (Nat.le_refl _) w⟩
 ·intro k f c b x h1 h2 h3 h4 h5 h6 h7 ih
  obtain ⟨l',w⟩:=ih
  generalize ha:at_ f (b+-4)=a at *
  generalize ho:at_ f a=o at *
  generalize ht:at_ f (b+o)=t at *
  generalize hf1:put f (b+o) x=f1 at *
  generalize hf2:put f1 (b+-4) (a+4)=f2 at *
  have c1:CallTo W 2 356 [.s 2,i_ (b+o),i_ x] (sH h ma f fl R) (.u .none) [] (sH h ma f1 fl R) []:=by rw [← hf1]; exact c_put_word h7.1 h7.2
  have c2:CallTo W 2 356 [.s 2,i_ (b+-4),i_ (a+4)] (sH h ma f1 fl R) (.u .none) [] (sH h ma f2 fl R) []:=by rw [← hf2]; exact c_put_word h5.1 h5.2
  have c3:CallTo W 2 349 [.s 2,i_ (b+o)] (sH h ma f fl R) (i_ t) [] (sH h ma f fl R) []:=by rw [← ht]; exact c_word h7.1 h7.2
  have c4:CallTo W 2 349 [.s 2,i_ a] (sH h ma f fl R) (i_ o) [] (sH h ma f fl R) []:=by rw [← ho]; exact c_word h6.1 h6.2
  have c5:CallTo W 2 349 [.s 2,i_ (b+-4)] (sH h ma f fl R) (i_ a) [] (sH h ma f fl R) []:=by rw [← ha]; exact c_word h5.1 h5.2
  exact ⟨l',.go (fl:=.next) (a':=⟨lM r c t b,sH h ma f2 fl R,[]⟩) (b:=⟨lM r c t b++[(("at":Str),i_ a),(("offset":Str),i_ o),(("before":Str),i_ t)],sH h ma f2 fl R,[]⟩)
   (tu_run [.r 2 (i_ (at_ f (x+-4))) [] (sH h ma f fl R) [],.r 2 (i_ (at_ f (at_ f (x+-4)))) [] (sH h ma f fl R) [],.d false,.d false,.r 2 (i_ a) [] (sH h ma f fl R) [],.r 2 (i_ o) [] (sH h ma f fl R) [],.r 2 (i_ t) [] (sH h ma f fl R) [],.r 2 (.u .none) [] (sH h ma f1 fl R) [],.r 2 (.u .none) [] (sH h ma f2 fl R) []] kok gok ⟨rfl⟩
    ⟨c2,c1,c3,c4,c5,decide_eq_false h4,decide_eq_false (by simp [h3]),c_word h2.1 h2.2,c_word h1.1 h1.2,True.intro⟩) (.inl rfl) (less_of [(("at":Str),i_ a),(("offset":Str),i_ o),(("before":Str),i_ t)] rfl rfl rfl rfl) (Nat.le_refl _) w⟩
theorem fn_mark_from:FnP W 42 ["heap","record"]:=fn_mk (by rfl) (by rfl) (by rfl) (fun _ _ _ _=>BindsTo.of_eq rfl) (by rfl) (by rfl) rfl rfl rfl
theorem c_mark_from0{r:Int}(hr:fresh f r=false):CallTo W 4 42 [.s 4,i_ r] (sH h ma f fl R) (i_ 0) [] (sH h ma f fl R) [] :=
 callTo_run [.r 3 (.u (.bool (fresh f r))) [] (sH h ma f fl R) [],.d false] fn_mark_from kok gok rfl ⟨rfl,rfl,rfl,rfl⟩ ⟨hr,c_is_fresh,True.intro⟩
theorem c_mark_from{r c':Int}{f':Int→Int}{k:Nat}(hr:fresh f r=true)(h8:okA (r+-8))(h4:okA (r+-4))(w:Sw k (put f (r+-4) (at_ f (r+-8)+20)) 1 0 r f' c'):CallTo W 4 42 [.s 4,i_ r] (sH h ma f fl R) (i_ c') [] (sH h ma f' fl R) []:=by
 obtain ⟨l',w⟩:=L_mark (W:=W) (h:=h) (ma:=ma) (R:=R) (fl:=fl) (r:=r) w
 generalize hf1:put f (r+-4) (at_ f (r+-8)+20)=f1 at *
 have c1:CallTo W 2 356 [.s 2,i_ (r+-4),i_ (at_ f (r+-8)+20)] (sH h ma f fl R) (.u .none) [] (sH h ma f1 fl R) []:=by rw [← hf1]; exact c_put_word h4.1 h4.2
 exact callTo_run [.r 3 (.u (.bool (fresh f r))) [] (sH h ma f fl R) [],.d true,.r 3 (i_ (at_ f (r+-8)+20)) [] (sH h ma f fl R) [],.r 2 (.u .none) [] (sH h ma f1 fl R) [],.lp (.ret (i_ c')) [] (sH h ma f' fl R) [] []] fn_mark_from kok gok rfl ⟨rfl,rfl,rfl,rfl⟩
  ⟨(wh_ok w).nil,c1,c_first_offset h8.1 h8.2,hr,c_is_fresh,True.intro⟩
end
section
variable {W:Wd KH}{n:Nat}{h ma:Cell}{f:Int→Int}{R:List Cell}{fl:List U}{osc:Scope}
noncomputable def Ln(f:Int→Int):Int→List Int→Prop
 | b,[]=>b=0
 | b,c :: r=>b=c∧c≠0∧okA c∧okA (c+4)∧f (c / 4)%2=1∧Ln f (at_ f (c+4)) r
noncomputable def lT(s k p b:Int):List (Str × V):=[("self",.s 4),("size",i_ s),("number",i_ k),("before",i_ p),("block",i_ b)]
noncomputable def tfW(K:Frag):Stmt:=((whB (stAt K 140 0))[2]?).getD (.Pass default)
theorem L_tf_no{s k:Int}:∀(bs:List Int)(b p:Int),Ln f b bs→(∀ c∈bs,szf f c < s)→∃ p',Wh W 3 (scopeOf W.K 140) (whT (tfW W.K)) (whB (tfW W.K)) 0 bs.length ⟨lT s k p b,sH h ma f fl R,[]⟩ .next ⟨lT s k p' 0,sH h ma f fl R,[]⟩:=by
 intro bs
 induction bs with
 | nil =>
  intro b p hb _
  have hb:b=0:=hb
  subst hb
  exact ⟨p,.stop (fl:=.next) (tu_run [.d false] kok gok ⟨rfl⟩ ⟨by decide,True.intro⟩)⟩
 | cons c bs ih =>
  intro b p hb hs
  obtain ⟨rfl,h0,h1,h2,h3,h4⟩:=hb
  obtain ⟨p',w⟩:=ih (at_ f (b+4)) b h4 fun c hc=>hs c (.tail _ hc)
  have hq:¬ s≤szf f b:=by have:=hs b (.head _); exact fun z0=>lin [_,_] [] [65554,32833] 0 149058 rfl this z0
  exact ⟨p',.go (fl:=.next) (a':=⟨lT s k b (at_ f (b+4)),sH h ma f fl R,[]⟩) (b:=⟨lT s k b (at_ f (b+4))++[(("following":Str),i_ (at_ f (b+4)))],sH h ma f fl R,[]⟩)
   (tu_run [.d true,.r 2 (i_ (at_ f (b+4))) [] (sH h ma f fl R) [],.r 3 (i_ (szf f b)) [] (sH h ma f fl R) [],.d false] kok gok ⟨rfl⟩ ⟨decide_eq_false hq,c_size_of h1.1 h1.2 (.inl h3),c_word h2.1 h2.2,decide_eq_true h0,True.intro⟩)
   (.inl rfl) (less_of [(("following":Str),i_ (at_ f (b+4)))] rfl rfl rfl rfl) (Nat.le_refl _) w⟩
noncomputable def tfS(f:Int→Int)(fl:List U)(k p x:Int):(Int→Int) × List U:=if p=0 then (f,fl.set k.toNat (.int x)) else (put f (p+4) x,fl)
theorem L_tf_yes{s k c:Int}{post:List Int}(hk:0≤k)(hk4:k < 4)(hfl:fl.length=4)(hc:s≤szf f c):∀(pre:List Int)(b p:Int),(p=0∨okA (p+4))→Ln f b (pre++c :: post)→(∀ d∈pre,szf f d < s) →
  ∃ l',Wh W 3 (scopeOf W.K 140) (whT (tfW W.K)) (whB (tfW W.K)) 0 pre.length ⟨lT s k p b,sH h ma f fl R,[]⟩ (.ret (i_ c)) ⟨l',sH h ma (tfS f fl k (pre.getLast?.getD p) (at_ f (c+4))).1 (tfS f fl k (pre.getLast?.getD p) (at_ f (c+4))).2 R,[]⟩:=by
 intro pre
 induction pre with
 | nil =>
  intro b p hp hb _
  obtain ⟨rfl,h0,h1,h2,h3,h4⟩:=hb
  show ∃ l',Wh _ _ _ _ _ _ _ _ _ ⟨l',sH h ma (tfS f fl k p (at_ f (b+4))).1 (tfS f fl k p (at_ f (b+4))).2 R,[]⟩
  unfold tfS
  by_cases q:p=0
  ·rw [if_pos q]
   exact ⟨_,.ret (b:=⟨lT s k p b++[(("following":Str),i_ (at_ f (b+4)))],sH h ma f (fl.set k.toNat (.int (at_ f (b+4)))) R,[]⟩) (tu_run [.d true,.r 2 (i_ (at_ f (b+4))) [] (sH h ma f fl R) [],.r 3 (i_ (szf f b)) [] (sH h ma f fl R) [],.d true,.d true] kok gok ⟨rfl⟩
    ⟨⟨hk,by exact lin [_,_] [] [270354,4835703278458516698923075] 65554 566498883 rfl hk4 pI63,by rw [hfl]; exact hk4⟩,decide_eq_true q,decide_eq_true hc,c_size_of h1.1 h1.2 (.inl h3),c_word h2.1 h2.2,decide_eq_true h0,True.intro⟩)⟩
  ·rw [if_neg q]
   have hp:=hp.resolve_left q
   exact ⟨_,.ret (b:=⟨lT s k p b++[(("following":Str),i_ (at_ f (b+4)))],sH h ma (put f (p+4) (at_ f (b+4))) fl R,[]⟩) (tu_run [.d true,.r 2 (i_ (at_ f (b+4))) [] (sH h ma f fl R) [],.r 3 (i_ (szf f b)) [] (sH h ma f fl R) [],.d true,.d false,.r 2 (.u .none) [] (sH h ma (put f (p+4) (at_ f (b+4))) fl R) []] kok gok ⟨rfl⟩
    ⟨c_put_word hp.1 hp.2,decide_eq_false q,decide_eq_true hc,c_size_of h1.1 h1.2 (.inl h3),c_word h2.1 h2.2,decide_eq_true h0,True.intro⟩)⟩
 | cons d pre ih =>
  intro b p hp hb hs
  obtain ⟨rfl,h0,h1,h2,h3,h4⟩:=hb
  obtain ⟨l',w⟩:=ih (at_ f (b+4)) b (.inr h2) h4 fun c hc=>hs c (.tail _ hc)
  have hq:¬ s≤szf f b:=by have:=hs b (.head _); exact fun z0=>lin [_,_] [] [65554,32833] 0 149058 rfl this z0
  have hg:((b :: pre).getLast?.getD p)=pre.getLast?.getD b:=by cases pre <;> rfl
  rw [hg]
  exact ⟨l',.go (fl:=.next) (a':=⟨lT s k b (at_ f (b+4)),sH h ma f fl R,[]⟩) (b:=⟨lT s k b (at_ f (b+4))++[(("following":Str),i_ (at_ f (b+4)))],sH h ma f fl R,[]⟩)
   (tu_run [.d true,.r 2 (i_ (at_ f (b+4))) [] (sH h ma f fl R) [],.r 3 (i_ (szf f b)) [] (sH h ma f fl R) [],.d false] kok gok ⟨rfl⟩ ⟨decide_eq_false hq,c_size_of h1.1 h1.2 (.inl h3),c_word h2.1 h2.2,decide_eq_true h0,True.intro⟩)
   (.inl rfl) (less_of [(("following":Str),i_ (at_ f (b+4)))] rfl rfl rfl rfl) (Nat.le_refl _) w⟩
noncomputable def rngI(a b c:Int):List Int:=(List.range (Builtin.Range.rangeSize a b c).toNat).map fun k:Nat=>a+k * c
theorem rangeU_eq(a b c:Int):rangeU a b c=(rngI a b c).map U.int:=by unfold rangeU rngI; rw [List.map_map]; rfl
noncomputable def lT0(s:Int):List (Str × V):=[("self",.s 4),("size",i_ s)]
noncomputable def Fls(f:Int→Int)(fl:List U)(Ls:Int→List Int):Prop:=fl.length=4∧∀ k,0≤k→k < 4→∃ b,fl[k.toNat]?=some (.int b)∧Ln f b (Ls k)
theorem F_tf_no{s:Int}{Ls:Int→List Int}(hF:Fls f fl Ls):∀ ks:List Int,(∀ k∈ks,0≤k∧k < 4)→(∀ k∈ks,∀ c∈Ls k,szf f c < s)→Fo W 3 (scopeOf W.K 140) (.one "number") (whB (stAt W.K 140 0)) 0 (ks.map U.int) ⟨lT0 s,sH h ma f fl R,[]⟩ .next ⟨lT0 s,sH h ma f fl R,[]⟩:=by
 intro ks
 induction ks with
 | nil=>intro _ _; exact .nil
 | cons k ks ih =>
  intro hk hs
  have hk0:=hk k (.head _)
  obtain ⟨b,e,hL⟩:=hF.2 k hk0.1 hk0.2
  obtain ⟨p',w⟩:=L_tf_no (W:=W) (h:=h) (ma:=ma) (R:=R) (fl:=fl) (s:=s) (k:=k) (Ls k) b 0 hL (hs k (.head _))
  exact .go (fl:=.next) (a':=⟨lT0 s,sH h ma f fl R,[]⟩) (b:=⟨lT s k p' 0,sH h ma f fl R,[]⟩) rfl
   (bo_run [.a (.int b),.lp .next (lT s k p' 0) (sH h ma f fl R) [] []] kok gok ⟨rfl⟩ ⟨wh_ok w,⟨hk0.1,by exact lin [_,_] [] [270354,4835703278458516698923075] 65554 566498883 rfl hk0.2 pI63,e⟩,True.intro⟩) (.inl rfl) (less_of [(("number":Str),i_ k),(("before":Str),i_ p'),(("block":Str),i_ 0)] rfl rfl rfl rfl) (Nat.le_refl _)
   (ih (fun k hk'=>hk k (.tail _ hk')) fun k hk'=>hs k (.tail _ hk'))
theorem F_tf_yes{s i c:Int}{Ls:Int→List Int}{pre post:List Int}(hF:Fls f fl Ls)(hc:s≤szf f c)(hi:Ls i=pre++c :: post)(hp:∀ d∈pre,szf f d < s)(kp:List Int):∀ ks:List Int,(∀ k∈ks,0≤k∧k < 4)→(0≤i∧i < 4)→(∀ k∈ks,∀ c∈Ls k,szf f c < s) →
  Fo W 3 (scopeOf W.K 140) (.one "number") (whB (stAt W.K 140 0)) 0 ((ks++i :: kp).map U.int) ⟨lT0 s,sH h ma f fl R,[]⟩ (.ret (i_ c)) ⟨[],sH h ma (tfS f fl i (pre.getLast?.getD 0) (at_ f (c+4))).1 (tfS f fl i (pre.getLast?.getD 0) (at_ f (c+4))).2 R,[]⟩:=by
 intro ks
 induction ks with
 | nil =>
  intro _ hi0 _
  obtain ⟨b,e,hL⟩:=hF.2 i hi0.1 hi0.2
  rw [hi] at hL
  obtain ⟨l',w⟩:=L_tf_yes (W:=W) (h:=h) (ma:=ma) (R:=R) (s:=s) (k:=i) hi0.1 hi0.2 hF.1 hc pre b 0 (.inl rfl) hL hp
  exact .ret rfl (bo_run [.a (.int b),.lp (.ret (i_ c)) [] (sH h ma (tfS f fl i (pre.getLast?.getD 0) (at_ f (c+4))).1 (tfS f fl i (pre.getLast?.getD 0) (at_ f (c+4))).2 R) [] []] kok gok ⟨rfl⟩ ⟨(wh_ok w).nil,⟨hi0.1,by exact lin [_,_] [] [270354,4835703278458516698923075] 65554 566498883 rfl hi0.2 pI63,e⟩,True.intro⟩)
 | cons k ks ih =>
  intro hk hi0 hs
  have hk0:=hk k (.head _)
  obtain ⟨b,e,hL⟩:=hF.2 k hk0.1 hk0.2
  obtain ⟨p',w⟩:=L_tf_no (W:=W) (h:=h) (ma:=ma) (R:=R) (fl:=fl) (s:=s) (k:=k) (Ls k) b 0 hL (hs k (.head _))
  exact .go (fl:=.next) (a':=⟨lT0 s,sH h ma f fl R,[]⟩) (b:=⟨lT s k p' 0,sH h ma f fl R,[]⟩) rfl
   (bo_run [.a (.int b),.lp .next (lT s k p' 0) (sH h ma f fl R) [] []] kok gok ⟨rfl⟩ ⟨wh_ok w,⟨hk0.1,by exact lin [_,_] [] [270354,4835703278458516698923075] 65554 566498883 rfl hk0.2 pI63,e⟩,True.intro⟩) (.inl rfl) (less_of [(("number":Str),i_ k),(("before":Str),i_ p'),(("block":Str),i_ 0)] rfl rfl rfl rfl) (Nat.le_refl _)
   (ih (fun k hk'=>hk k (.tail _ hk')) hi0 fun k hk'=>hs k (.tail _ hk'))
theorem fn_take_free:FnP W 140 ["self","size"]:=fn_mk (by rfl) (by rfl) (by rfl) (fun _ _ _ _=>BindsTo.of_eq rfl) (by rfl) (by rfl) rfl rfl rfl
noncomputable def forI:Stmt→Expr
 | .For _ it _ _ _=>it
 | _=>default
theorem it_lists{s:Int}:SrS W 3 (scopeOf W.K 140) (forI (stAt W.K 140 0)) (lT0 s) (sH h ma f fl R) [] ((rngI (lnum s) 4 1).map U.int) (sH h ma f fl R) []:=by
 have hb:=lnum_b s
 exact sr_u (ev_run [.r 1 (i_ (lnum s)) [] (sH h ma f fl R) []] kok gok ⟨rfl⟩ ⟨c_list_number,True.intro⟩) ⟨small_of (by exact ⟨lin [_,_] [] [4129,604462909807314587451459] 282738 566498883 rfl hb.1 pI60,lin [_,_] [] [270354,604462909807314587451459] 65554 566498883 rfl hb.2 pI60⟩) (by decide) (by decide),(rangeU_eq _ _ _).symm⟩
theorem rng_b{s:Int}:∀ k∈rngI (lnum s) 4 1,lnum s≤k∧k < 4:=by
 have hb:=lnum_b s
 generalize lnum s=x at *
 intro k hk
 have:x=0∨x=1∨x=2∨x=3:=by exact (Classical.em _).elim Or.inl fun z0=>Or.inr ((Classical.em _).elim Or.inl fun z1=>Or.inr ((Classical.em _).elim Or.inl fun z2=>Or.inr (Int.le_antisymm (lin [_] [] [270354] 204817 149058 rfl hb.2) ((Int.lt_or_gt_of_ne z0).elim (fun z3=>lin [_] [] [4129,8210] 102481 149058 rfl hb.1 z3) (fun z3=>(Int.lt_or_gt_of_ne z1).elim (fun z4=>lin [_] [] [4130,73746] 102481 149058 rfl z3 z4) (fun z4=>(Int.lt_or_gt_of_ne z2).elim (fun z5=>lin [_] [] [36930,139282] 102481 149058 rfl z4 z5) (fun z5=>lin [_] [] [69714] 102481 149058 rfl z5)))))))
 rcases this with rfl | rfl | rfl | rfl
 ·have hk:k∈([0,1,2,3]:List Int):=hk
  simp at hk; exact ⟨hk.elim (fun z0=>lin [_] [] [8211] 4129 8721475 rfl z0) (fun z0=>z0.elim (fun z1=>lin [_] [] [73747] 4129 8721475 rfl z1) (fun z1=>z1.elim (fun z2=>lin [_] [] [139283] 4129 8721475 rfl z2) (fun z2=>lin [_] [] [204819] 4129 8721475 rfl z2))),hk.elim (fun z0=>lin [_] [] [8211] 270354 8655939 rfl z0) (fun z0=>z0.elim (fun z1=>lin [_] [] [73747] 270354 8655939 rfl z1) (fun z1=>z1.elim (fun z2=>lin [_] [] [139283] 270354 8655939 rfl z2) (fun z2=>lin [_] [] [204819] 270354 8655939 rfl z2)))⟩
 ·have hk:k∈([1,2,3]:List Int):=hk
  simp at hk; exact ⟨hk.elim (fun z0=>lin [_] [] [73747] 36929 8721475 rfl z0) (fun z0=>z0.elim (fun z1=>lin [_] [] [139283] 36929 8721475 rfl z1) (fun z1=>lin [_] [] [204819] 36929 8721475 rfl z1)),hk.elim (fun z0=>lin [_] [] [73747] 270354 8655939 rfl z0) (fun z0=>z0.elim (fun z1=>lin [_] [] [139283] 270354 8655939 rfl z1) (fun z1=>lin [_] [] [204819] 270354 8655939 rfl z1))⟩
 ·have hk:k∈([2,3]:List Int):=hk
  simp at hk; exact ⟨hk.elim (fun z0=>lin [_] [] [139283] 69713 8721475 rfl z0) (fun z0=>lin [_] [] [204819] 69713 8721475 rfl z0),hk.elim (fun z0=>lin [_] [] [139283] 270354 8655939 rfl z0) (fun z0=>lin [_] [] [204819] 270354 8655939 rfl z0)⟩
 ·have hk:k∈([3]:List Int):=hk
  simp at hk; exact ⟨lin [_] [] [204819] 102481 8721475 rfl hk,lin [_] [] [204819] 270354 8655939 rfl hk⟩
theorem rng_split{s i:Int}(h1:lnum s≤i)(h2:i < 4):∃ ks kp,rngI (lnum s) 4 1=ks++i :: kp∧∀ k∈ks,lnum s≤k∧k < i:=by
 have hb:=lnum_b s
 generalize lnum s=x at *
 have hx:x=0∨x=1∨x=2∨x=3:=by exact (Classical.em _).elim Or.inl fun z0=>Or.inr ((Classical.em _).elim Or.inl fun z1=>Or.inr ((Classical.em _).elim Or.inl fun z2=>Or.inr (Int.le_antisymm (lin [_] [] [270354] 204817 149058 rfl hb.2) ((Int.lt_or_gt_of_ne z0).elim (fun z3=>lin [_] [] [4129,8210] 102481 149058 rfl hb.1 z3) (fun z3=>(Int.lt_or_gt_of_ne z1).elim (fun z4=>lin [_] [] [4130,73746] 102481 149058 rfl z3 z4) (fun z4=>(Int.lt_or_gt_of_ne z2).elim (fun z5=>lin [_] [] [36930,139282] 102481 149058 rfl z4 z5) (fun z5=>lin [_] [] [69714] 102481 149058 rfl z5)))))))
 have hi:i=0∨i=1∨i=2∨i=3:=by exact (Classical.em _).elim Or.inl fun z0=>Or.inr ((Classical.em _).elim Or.inl fun z1=>Or.inr ((Classical.em _).elim Or.inl fun z2=>Or.inr (Int.le_antisymm (lin [_] [] [270354] 204817 149058 rfl h2) (hx.elim (fun z3=>(Int.lt_or_gt_of_ne z0).elim (fun z4=>lin [_,_] [] [65553,4129,98370] 1151057 21370435 rfl h1 hb.1 z4) (fun z4=>(Int.lt_or_gt_of_ne z1).elim (fun z5=>lin [_] [] [4130,73746] 102481 149058 rfl z4 z5) (fun z5=>(Int.lt_or_gt_of_ne z2).elim (fun z6=>lin [_] [] [36930,139282] 102481 149058 rfl z5 z6) (fun z6=>lin [_] [] [69714] 102481 149058 rfl z6)))) (fun z3=>(Int.lt_or_gt_of_ne z0).elim (fun z4=>lin [_,_] [] [65553,4129,98370] 1151057 21370435 rfl h1 hb.1 z4) (fun z4=>(Int.lt_or_gt_of_ne z1).elim (fun z5=>lin [_] [] [4130,73746] 102481 149058 rfl z4 z5) (fun z5=>(Int.lt_or_gt_of_ne z2).elim (fun z6=>lin [_] [] [36930,139282] 102481 149058 rfl z5 z6) (fun z6=>lin [_] [] [69714] 102481 149058 rfl z6))))))))
 rcases hx with rfl | rfl | rfl | rfl <;> rcases hi with rfl | rfl | rfl | rfl <;> first
  | (exfalso; omega)
  | exact ⟨[],_,rfl,fun k hk=>nomatch hk⟩
  | exact ⟨[_],_,rfl,fun k hk=>by simp at hk; omega⟩
  | exact ⟨[_,_],_,rfl,fun k hk=>by simp at hk; omega⟩
  | exact ⟨[_,_,_],_,rfl,fun k hk=>by simp at hk; exact ⟨hk.elim (fun z0=>lin [_] [] [8211] 4129 8721475 rfl z0) (fun z0=>z0.elim (fun z1=>lin [_] [] [73747] 4129 8721475 rfl z1) (fun z1=>lin [_] [] [139283] 4129 8721475 rfl z1)),hk.elim (fun z0=>lin [_] [] [8211] 204818 8655939 rfl z0) (fun z0=>z0.elim (fun z1=>lin [_] [] [73747] 204818 8655939 rfl z1) (fun z1=>lin [_] [] [139283] 204818 8655939 rfl z1))⟩⟩
theorem c_take_free_no{s:Int}{Ls:Int→List Int}(hF:Fls f fl Ls)(hs:∀ k,lnum s≤k→k < 4→∀ c∈Ls k,szf f c < s):CallTo W 4 140 [.s 4,i_ s] (sH h ma f fl R) (i_ 0) [] (sH h ma f fl R) [] :=
 have hb:=lnum_b s
 callTo_run [.lp .next (lT0 s) (sH h ma f fl R) [] []] fn_take_free kok gok rfl ⟨rfl,rfl,rfl,rfl⟩
  ⟨for_ok it_lists rfl rfl rfl (F_tf_no hF _ (fun k hk=>by have:=rng_b k hk; exact ⟨lin [_,_] [] [4129,65553] 135201 285611587 rfl hb.1 this.1,lin [_] [] [270354] 270354 149058 rfl this.2⟩) fun k hk=>hs k (rng_b k hk).1 (rng_b k hk).2),True.intro⟩
theorem c_take_free{s i c:Int}{Ls:Int→List Int}{pre post:List Int}(hF:Fls f fl Ls)(h1:lnum s≤i)(h2:i < 4)(hc:s≤szf f c)(hi:Ls i=pre++c :: post)(hp:∀ d∈pre,szf f d < s)(hs:∀ k,lnum s≤k→k < i→∀ c∈Ls k,szf f c < s):
  CallTo W 4 140 [.s 4,i_ s] (sH h ma f fl R) (i_ c) [] (sH h ma (tfS f fl i (pre.getLast?.getD 0) (at_ f (c+4))).1 (tfS f fl i (pre.getLast?.getD 0) (at_ f (c+4))).2 R) []:=by
 have hb:=lnum_b s
 obtain ⟨ks,kp,e,hks⟩:=rng_split h1 h2
 have w:=F_tf_yes (W:=W) (h:=h) (ma:=ma) (R:=R) hF hc hi hp kp ks (fun k hk=>by have:=hks k hk; exact ⟨lin [_,_] [] [4129,65553] 135201 285611587 rfl hb.1 this.1,lin [_,_] [] [270354,32834] 2195522 21370435 rfl h2 this.2⟩) ⟨by exact lin [_,_] [] [65553,4129] 135201 21370435 rfl h1 hb.1,h2⟩ fun k hk=>hs k (hks k hk).1 (hks k hk).2
 rw [← e] at w
 exact callTo_run [.lp (.ret (i_ c)) [] (sH h ma (tfS f fl i (pre.getLast?.getD 0) (at_ f (c+4))).1 (tfS f fl i (pre.getLast?.getD 0) (at_ f (c+4))).2 R) [] []] fn_take_free kok gok rfl ⟨rfl,rfl,rfl,rfl⟩ ⟨for_ok it_lists rfl rfl rfl w,True.intro⟩
end
section
variable {W:Wd KH}{n:Nat}{h ma:Cell}{f f1:Int→Int}{R:List Cell}{fl fl1:List U}{osc:Scope}
noncomputable def zer(f:Int→Int):List Int→Int→Int
 | []=>f
 | a :: r=>zer (put f a 0) r
noncomputable def lA(d s b r:Int):List (Str × V):=[("self",.s 4),("descriptor",i_ d),("size",i_ s),("block",i_ b),("rest",i_ r)]
theorem F_zero{d s b r:Int}:∀(ks:List Int)(f:Int→Int),(∀ k∈ks,okA k)→Fo W 4 (scopeOf W.K 147) (.one "address") (whB (stAt W.K 147 6)) 0 (ks.map U.int) ⟨lA d s b r,sH h ma f fl R,[]⟩ .next ⟨lA d s b r,sH h ma (zer f ks) fl R,[]⟩:=by
 intro ks
 induction ks with
 | nil=>intro f _; exact .nil
 | cons k ks ih =>
  intro f hk
  have hk0:=hk k (.head _)
  exact .go (fl:=.next) (a':=⟨lA d s b r,sH h ma (put f k 0) fl R,[]⟩) (b:=⟨lA d s b r++[(("address":Str),i_ k)],sH h ma (put f k 0) fl R,[]⟩) rfl
   (bo_run [.r 2 (.u .none) [] (sH h ma (put f k 0) fl R) []] kok gok ⟨rfl⟩ ⟨c_put_word hk0.1 hk0.2,True.intro⟩) (.inl rfl) (less_of [(("address":Str),i_ k)] rfl rfl rfl rfl) (Nat.le_refl _) (ih _ fun k hk'=>hk k (.tail _ hk'))
theorem it_zero{d s b r:Int}(hb:0≤b∧b < 4000)(hs:0≤s∧s < 4000):SrS W 4 (scopeOf W.K 147) (forI (stAt W.K 147 6)) (lA d s b r) (sH h ma f fl R) [] ((rngI (b+4) (b+s) 4).map U.int) (sH h ma f fl R) [] :=
 sr_u (ev_run [] kok gok ⟨rfl⟩ ⟨⟨by decide,by decide⟩,True.intro⟩) ⟨small_of (by exact ⟨lin [_,_] [] [4129,604462909807314587451459] 70872486002 566498883 rfl hb.1 pI60,lin [_,_] [] [262152210,604462909807314587451459] 9143623970 566498883 rfl hb.2 pI60⟩) (by exact ⟨lin [_,_,_] [] [4129,135201,1208925819614629174902867] 34370769026 26801674408004 rfl hb.1 hs.1 pI60,lin [_,_,_] [] [262152210,2097250370,1208925819614629174902867] 4429226242 379572473924 rfl hb.2 hs.2 pI60⟩) (by decide),(rangeU_eq _ _ _).symm⟩
theorem fn_alloc:FnP W 147 ["self","descriptor"]:=fn_mk (by rfl) (by rfl) (by rfl) (fun _ _ _ _=>BindsTo.of_eq rfl) (by rfl) (by rfl) rfl rfl rfl
theorem c_alloc_no{d:Int}(hd:okA d)(hT:CallTo W 4 140 [.s 4,i_ (bsz (at_ f d))] (sH h ma f fl R) (i_ 0) [] (sH h ma f fl R) []):CallTo W 5 147 [.s 4,i_ d] (sH h ma f fl R) (i_ 0) [] (sH h ma f fl R) [] :=
 callTo_run [.r 2 (i_ (at_ f d)) [] (sH h ma f fl R) [],.r 1 (i_ (bsz (at_ f d))) [] (sH h ma f fl R) [],.r 4 (i_ 0) [] (sH h ma f fl R) [],.d true] fn_alloc kok gok rfl ⟨rfl,rfl,rfl,rfl⟩ ⟨by decide,hT,c_block_size,c_word hd.1 hd.2,True.intro⟩
theorem c_alloc0{d s c:Int}(hd:okA d)(hs:bsz (at_ f d)=s)(hT:CallTo W 4 140 [.s 4,i_ s] (sH h ma f fl R) (i_ c) [] (sH h ma f1 fl1 R) [])(hc:c≠0)(hc2:okA c)(h3:f1 (c / 4)%2=1)(hr:szf f1 c-s≤0)(hs1:0≤s)(hs2:c+s≤3664)
  (hk:∀ k∈rngI (c+4) (c+s) 4,okA k):CallTo W 5 147 [.s 4,i_ d] (sH h ma f fl R) (i_ (c+8)) [] (sH h ma (zer (put f1 c d) (rngI (c+4) (c+s) 4)) fl1 R) []:=by
 subst hs
 have e:okA c:=hc2
 exact callTo_run [.r 2 (i_ (at_ f d)) [] (sH h ma f fl R) [],.r 1 (i_ (bsz (at_ f d))) [] (sH h ma f fl R) [],.r 4 (i_ c) [] (sH h ma f1 fl1 R) [],.d false,.r 3 (i_ (szf f1 c)) [] (sH h ma f1 fl1 R) [],.d false,.r 2 (.u .none) [] (sH h ma (put f1 c d) fl1 R) [],
   .lp .next (lA d (bsz (at_ f d)) c (szf f1 c-bsz (at_ f d))) (sH h ma (zer (put f1 c d) (rngI (c+4) (c+bsz (at_ f d)) 4)) fl1 R) [] []] fn_alloc kok gok rfl ⟨rfl,rfl,rfl,rfl⟩
  ⟨for_ok (it_zero ⟨e.1,by have:=e.2; exact lin [_] [] [240132114] 262152210 149058 rfl this⟩ ⟨hs1,by have:=e.1; exact lin [_,_] [] [7868782780673,4129] 2097250370 21370435 rfl hs2 this⟩) rfl rfl rfl (F_zero _ _ hk),c_put_word e.1 e.2,decide_eq_false (by exact fun z0=>lin [_,_] [] [402698497,537055266] 0 149058 rfl hr z0),c_size_of e.1 e.2 (.inl h3),decide_eq_false hc,hT,c_block_size,c_word hd.1 hd.2,True.intro⟩
theorem c_alloc1{d s c x q:Int}(hd:okA d)(hs:bsz (at_ f d)=s)(hT:CallTo W 4 140 [.s 4,i_ s] (sH h ma f fl R) (i_ c) [] (sH h ma f1 fl1 R) [])(hc:c≠0)(hc2:okA c)(h3:f1 (c / 4)%2=1)(hq:szf f1 c-s=q)(hr:0 < q)(hs1:0≤s)(hs2:c+s+4 < 3664)
  (hl:fl1.length=4) (hx:fl1[(lnum q).toNat]?=some (.int x)) (hk:∀ k∈rngI (c+4) (c+s) 4,okA k) :
  CallTo W 5 147 [.s 4,i_ d] (sH h ma f fl R) (i_ (c+8)) [] (sH h ma (zer (put (put (put f1 (c+s) (q+1)) (c+s+4) x) c d) (rngI (c+4) (c+s) 4)) (fl1.set (lnum q).toNat (.int (c+s))) R) []:=by
 have e:okA c:=hc2
 subst hs
 subst hq
 have c1:=c_put_free (W:=W) (h:=h) (ma:=ma) (f:=f1) (R:=R) (fl:=fl1) (b:=c+bsz (at_ f d)) (s:=szf f1 c-bsz (at_ f d)) (x:=x) (by have:=e.1; exact lin [_,_] [] [4129,135201] 268996641 553981507 rfl hs1 this) hs2 hl hx
 generalize hf2:put (put f1 (c+bsz (at_ f d)) (szf f1 c-bsz (at_ f d)+1)) (c+bsz (at_ f d)+4) x=f2 at *
 have c1:CallTo W 3 112 [.s 4,i_ (c+bsz (at_ f d)),i_ (szf f1 c-bsz (at_ f d))] (sH h ma f1 fl1 R) (.u .none) [] (sH h ma f2 (fl1.set (lnum (szf f1 c-bsz (at_ f d))).toNat (.int (c+bsz (at_ f d)))) R) []:=by rw [← hf2]; exact c1
 generalize (fl1.set (lnum (szf f1 c-bsz (at_ f d))).toNat (.int (c+bsz (at_ f d))))=fl2 at *
 exact callTo_run [.r 2 (i_ (at_ f d)) [] (sH h ma f fl R) [],.r 1 (i_ (bsz (at_ f d))) [] (sH h ma f fl R) [],.r 4 (i_ c) [] (sH h ma f1 fl1 R) [],.d false,.r 3 (i_ (szf f1 c)) [] (sH h ma f1 fl1 R) [],.d true,.r 3 (.u .none) [] (sH h ma f2 fl2 R) [],.r 2 (.u .none) [] (sH h ma (put f2 c d) fl2 R) [],
   .lp .next (lA d (bsz (at_ f d)) c (szf f1 c-bsz (at_ f d))) (sH h ma (zer (put f2 c d) (rngI (c+4) (c+bsz (at_ f d)) 4)) fl2 R) [] []] fn_alloc kok gok rfl ⟨rfl,rfl,rfl,rfl⟩
  ⟨for_ok (it_zero ⟨e.1,by have:=e.2; exact lin [_] [] [240132114] 262152210 149058 rfl this⟩ ⟨hs1,by have:=e.1; exact lin [_,_] [] [1031377915944116754,4129] 2097250370 21370435 rfl hs2 this⟩) rfl rfl rfl (F_zero _ _ hk),c_put_word e.1 e.2,c1,decide_eq_true hr,c_size_of e.1 e.2 (.inl h3),decide_eq_false hc,hT,c_block_size,c_word hd.1 hd.2,True.intro⟩
end
section
variable {W:Wd KH}{n:Nat}{S:List Cell}
theorem fn_Loaded:FnP W 212 ["self","name","key","code_base","data_base","made"]:=fn_mk (by rfl) (by rfl) (by rfl) (fun _ _ _ _ _ _ _ _=>BindsTo.of_eq rfl) (by rfl) (by rfl) rfl rfl rfl
theorem n_Loaded{x m:U}{k cb db:Int}:CallTo W 2 215 [.u x,i_ k,i_ cb,i_ db,.u m] S (.o 0) [.attrs 215 [("name",.u x),("key",i_ k),("code_base",i_ cb),("data_base",i_ db),("object",.u m),("clients",.o 1)],.list []] S [] :=
 callTo_new [] (by rfl) (by rfl) (by rfl) (by rfl) fn_Loaded kok gok rfl rfl ⟨rfl,rfl,rfl,rfl⟩ True.intro
end
section
variable {W:Wd KH}{n:Nat}{h ma:Cell}{f:Int→Int}{R:List Cell}{fl:List U}{S:List Cell}
theorem fn_ObjectFile:FnP W 483 ["self","name","key"]:=fn_mk (by rfl) (by rfl) (by rfl) (fun _ _ _ _ _=>BindsTo.of_eq rfl) (by rfl) (by rfl) rfl rfl rfl
noncomputable def ofs(x:U)(k:Int):List (Str × V):=[("name",.u x),("key",i_ k),("imports",.o 1),("rows",.o 2),("data_size",i_ 0),("words",.o 3),("data_fixups",.o 4),("fixups",.o 5),("entries",.o 6),("pointers",.o 7),("maps",.o 8),("commands",.o 9),("body",i_ 0)]
theorem n_ObjectFile{x:U}{k:Int}:CallTo W 2 486 [.u x,i_ k] S (.o 0) [.attrs 486 (ofs x k),.list [],.list [],.list [],.list [],.list [],.list [],.list [],.dict [] [],.dict [] []] S [] :=
 callTo_new [] (by rfl) (by rfl) (by rfl) (by rfl) fn_ObjectFile kok gok rfl rfl ⟨rfl,rfl,rfl,rfl⟩ True.intro
end
section
variable {W:Wd KH}{n:Nat}{h ma:Cell}{f:Int→Int}{R:List Cell}{fl:List U}{S:List Cell}
noncomputable def Mk_(bs:List (Int × Int × Option Int))(f:Int→Int)(ws:List Int)(f':Int→Int):Prop :=
 ∀ P:(Int→Int)→List Int→Prop,P f' [] →
  (∀{f:Int→Int}{w:Int}{ws:List Int},HB f 1088 bs→bofA w bs=0→P f ws→P f (w :: ws)) →
  (∀{f:Int→Int}{w r:Int}{ws:List Int},HB f 1088 bs→bofA w bs=r→r≠0→fresh f r=false→P f ws→P f (w :: ws)) →
  (∀{f:Int→Int}{w r c:Int}{ws:List Int}{k:Nat}{f1:Int→Int},HB f 1088 bs→bofA w bs=r→r≠0→fresh f r=true→okA (r+-8)→okA (r+-4)→Sw k (put f (r+-4) (at_ f (r+-8)+20)) 1 0 r f1 c→P f1 ws→P f (w :: ws)) →
  P f ws
theorem Mk_.nil{bs:List (Int × Int × Option Int)}{f:Int→Int}:Mk_ bs f [] f:=fun _ a _ _ _=>a
theorem Mk_.skip{bs:List (Int × Int × Option Int)}{f:Int→Int}{w:Int}{ws:List Int}{f':Int→Int}(h1:HB f 1088 bs)(h2:bofA w bs=0)(h:Mk_ bs f ws f'):Mk_ bs f (w :: ws) f':=fun P a s o n=>s h1 h2 (h P a s o n)
theorem Mk_.old{bs:List (Int × Int × Option Int)}{f:Int→Int}{w r:Int}{ws:List Int}{f':Int→Int}(h1:HB f 1088 bs)(h2:bofA w bs=r)(h3:r≠0)(h4:fresh f r=false)(h:Mk_ bs f ws f'):Mk_ bs f (w :: ws) f':=fun P a s o n=>o h1 h2 h3 h4 (h P a s o n)
theorem Mk_.new{bs:List (Int × Int × Option Int)}{f:Int→Int}{w r c:Int}{ws:List Int}{k:Nat}{f1 f':Int→Int}(h1:HB f 1088 bs)(h2:bofA w bs=r)(h3:r≠0)(h4:fresh f r=true)(h5:okA (r+-8))(h6:okA (r+-4))(h7:Sw k (put f (r+-4) (at_ f (r+-8)+20)) 1 0 r f1 c)(h:Mk_ bs f1 ws f'):Mk_ bs f (w :: ws) f':=fun P a s o n=>n h1 h2 h3 h4 h5 h6 h7 (h P a s o n)
theorem fn_mark:FnP W 49 ["heap","roots"]:=fn_mk (by rfl) (by rfl) (by rfl) (fun _ _ _ _=>BindsTo.of_eq rfl) (by rfl) (by rfl) rfl rfl rfl
noncomputable def lK(u:U)(c:Int):List (Str × V):=[("heap",.s 4),("roots",.u u),("count",i_ c)]
theorem L_marks{u:U}{bs:List (Int × Int × Option Int)}{ws:List Int}{f':Int→Int}(w:Mk_ bs f ws f'):∀ c:Int,∃ c',Fo W 4 (scopeOf W.K 49) (.one "word") (whB (stAt W.K 49 1)) 0 (ws.map U.int) ⟨lK u c,sH h ma f fl R,[]⟩ .next ⟨lK u c',sH h ma f' fl R,[]⟩:=by
 apply w
 ·exact fun c=>⟨c,.nil⟩
 ·intro f w ws hb h0 ih c
  obtain ⟨c',ih⟩:=ih c
  exact ⟨c',.go (fl:=.next) (a':=⟨lK u c,sH h ma f fl R,[]⟩) (b:=⟨lK u c++[(("word":Str),i_ w),(("record":Str),i_ (bofA w bs))],sH h ma f fl R,[]⟩) rfl
   (bo_run [.r 4 (i_ (bofA w bs)) [] (sH h ma f fl R) [],.d false] kok gok ⟨rfl⟩ ⟨decide_eq_false (by simp [h0]),c_block_of hb,True.intro⟩) (.inl rfl) (less_of [(("word":Str),i_ w),(("record":Str),i_ (bofA w bs))] rfl rfl rfl rfl) (Nat.le_refl _) ih⟩
 ·intro f w r ws hb h0 h1 h2 ih c
  obtain ⟨c',ih⟩:=ih (c+0)
  subst h0
  exact ⟨c',.go (fl:=.next) (a':=⟨lK u (c+0),sH h ma f fl R,[]⟩) (b:=⟨lK u (c+0)++[(("word":Str),i_ w),(("record":Str),i_ (bofA w bs))],sH h ma f fl R,[]⟩) rfl
   (bo_run [.r 4 (i_ (bofA w bs)) [] (sH h ma f fl R) [],.d true,.r 4 (i_ 0) [] (sH h ma f fl R) []] kok gok ⟨rfl⟩ ⟨c_mark_from0 h2,decide_eq_true h1,c_block_of hb,True.intro⟩) (.inl rfl) (less_of [(("word":Str),i_ w),(("record":Str),i_ (bofA w bs))] rfl rfl rfl rfl) (Nat.le_refl _) ih⟩
 ·intro f w r c1 ws k f1 hb h0 h1 h2 h3 h4 s ih c
  obtain ⟨c',ih⟩:=ih (c+c1)
  subst h0
  exact ⟨c',.go (fl:=.next) (a':=⟨lK u (c+c1),sH h ma f1 fl R,[]⟩) (b:=⟨lK u (c+c1)++[(("word":Str),i_ w),(("record":Str),i_ (bofA w bs))],sH h ma f1 fl R,[]⟩) rfl
   (bo_run [.r 4 (i_ (bofA w bs)) [] (sH h ma f fl R) [],.d true,.r 4 (i_ c1) [] (sH h ma f1 fl R) []] kok gok ⟨rfl⟩ ⟨c_mark_from h2 h3 h4 s,decide_eq_true h1,c_block_of hb,True.intro⟩) (.inl rfl) (less_of [(("word":Str),i_ w),(("record":Str),i_ (bofA w bs))] rfl rfl rfl rfl) (Nat.le_refl _) ih⟩
theorem c_mark{u:U}{bs:List (Int × Int × Option Int)}{ws:List Int}{f':Int→Int}(hu:ItU u (ws.map U.int))(w:Mk_ bs f ws f'):∃ c,CallTo W 5 49 [.s 4,.u u] (sH h ma f fl R) (i_ c) [] (sH h ma f' fl R) []:=by
 obtain ⟨c',w⟩:=L_marks (W:=W) (h:=h) (ma:=ma) (R:=R) (fl:=fl) (u:=u) w 0
 exact ⟨c',callTo_run [.lp .next (lK u c') (sH h ma f' fl R) [] []] fn_mark kok gok rfl ⟨rfl,rfl,rfl,rfl⟩
  ⟨for_ok (sr_u (ev_run [] kok gok ⟨rfl⟩ True.intro) hu) rfl rfl rfl w,True.intro⟩⟩
end
section
variable {W:Wd KH}{n:Nat}{h:Cell}{f:Int→Int}{fl rg rows:List U}{t pc:Int}
theorem for_s2{osc:Scope}{te it:Expr}{body:List Stmt}{tg:Tg}{pos:Pos}{us:List U}{fw:Fl}{l l2:List (Str × V)}{S O S' O' S2 Sh O2:List Cell}(k:Nat)(e:EvS W n osc it l S O (.s k) S' O')(hc:S'[k]?=some (.list us))(ht:tgOf te=some tg)(hk:okNames osc tg.names=true)(hs:notSet it=true)(w:Fo W n osc tg body O'.length us ⟨l,S'.set k .hid,O'⟩ fw ⟨l2,Sh,O2⟩)(hb:Sh[k]?=some .hid)
  (hS:Sh.set k (.list us)=S2):ExS W n osc (.For te it body [] pos) l S O fw l2 S2 O2 []:=by
 subst hS
 exact for_s e hc ht hk hs w hb
structure Md where
 nm:Str
 key:Int
 cb:Int
 db:Int
 rws:List U
 ptrs:List Int
 mks:List Int
 mvs:List (List Int)
noncomputable def uI(l:List Int):U:=.lst (l.map U.int)
noncomputable def uOf(m:Md):U:=.ins 486 ["name","key","imports","rows","data_size","words","data_fixups","fixups","entries","pointers","maps","commands","body"]
 [.str m.nm,.int m.key,.lst [],.lst m.rws,.int 32,.lst [],.lst [],.lst [],.lst [],uI m.ptrs,.dct m.mks (m.mvs.map uI),.dct [] [],.int 0]
noncomputable def uLd(m:Md):U:=.ins 215 ["name","key","code_base","data_base","object","clients"] [.str m.nm,.int m.key,.int m.cb,.int m.db,uOf m,.lst []]
noncomputable abbrev Md.has(m:Md)(r:Int):Prop:=m.cb≤r∧r < m.cb+(m.rws.length:Nat)
noncomputable def modAt(r:Int):List Md→Option Md
 | []=>none
 | m :: ms=>if m.has r then some m else modAt r ms
noncomputable def sAh(h:Cell)(t:Int)(f:Int→Int)(fl:List U)(pc:Int)(rg rows:List U):List Cell:=sC h (mA t) f fl pc rg rows [.hid,.list [],.list []]
noncomputable def lMa(r:Int):List (Str × V):=[("machine",.s 1),("row",i_ r)]
theorem F_module_at{r:Int}:∀ ms:List Md,(∀ m∈ms,m.rws.length < 1000)→(∀ m,modAt r ms=some m→∃ l',Fo W 0 (scopeOf W.K 56) (.one "loaded") (whB (stAt W.K 56 0)) 0 (ms.map uLd) ⟨lMa r,sAh h t f fl pc rg rows,[]⟩ (.ret (.u (uLd m))) ⟨l',sAh h t f fl pc rg rows,[]⟩) ∧
  (modAt r ms=none→Fo W 0 (scopeOf W.K 56) (.one "loaded") (whB (stAt W.K 56 0)) 0 (ms.map uLd) ⟨lMa r,sAh h t f fl pc rg rows,[]⟩ .next ⟨lMa r,sAh h t f fl pc rg rows,[]⟩):=by
 intro ms
 induction ms with
 | nil=>exact fun _=>⟨(fun m e=>nomatch e),fun _=>.nil⟩
 | cons m ms ih =>
  intro hs
  have ih:=ih fun m hm=>hs m (.tail _ hm)
  have hl:m.rws.length < 2 ^ 63:=Nat.lt_trans (hs m (.head _)) (by decide)
  unfold modAt
  by_cases q:m.has r
  ·rw [if_pos q]
   refine ⟨fun m' e=>?_,(fun e=>nomatch e)⟩
   cases e
   exact ⟨_,.ret (b:=⟨lMa r++[(("loaded":Str),V.u (uLd m))],sAh h t f fl pc rg rows,[]⟩) rfl (bo_run [.d true,.d true] kok gok ⟨rfl⟩ ⟨decide_eq_true q.2,hl,decide_eq_true q.1,True.intro⟩)⟩
  ·rw [if_neg q]
   have step:BoS W 0 (scopeOf W.K 56) (whB (stAt W.K 56 0)) ⟨lMa r++[(("loaded":Str),V.u (uLd m))],sAh h t f fl pc rg rows,[]⟩ .next ⟨lMa r++[(("loaded":Str),V.u (uLd m))],sAh h t f fl pc rg rows,[]⟩:=by
    by_cases q1:m.cb≤r
    ·exact bo_run [.d true,.d false] kok gok ⟨rfl⟩ ⟨decide_eq_false fun q2=>q ⟨q1,q2⟩,hl,decide_eq_true q1,True.intro⟩
    ·exact bo_run [.d false] kok gok ⟨rfl⟩ ⟨decide_eq_false q1,True.intro⟩
   exact ⟨fun m' e=>by
    obtain ⟨l',w⟩:=ih.1 m' e
    exact ⟨l',.go (fl:=.next) (a':=⟨lMa r,sAh h t f fl pc rg rows,[]⟩) rfl step (.inl rfl) (less_of [(("loaded":Str),V.u (uLd m))] rfl rfl rfl rfl) (Nat.le_refl _) w⟩,
    fun e=>.go (fl:=.next) (a':=⟨lMa r,sAh h t f fl pc rg rows,[]⟩) rfl step (.inl rfl) (less_of [(("loaded":Str),V.u (uLd m))] rfl rfl rfl rfl) (Nat.le_refl _) (ih.2 e)⟩
theorem fn_module_at:FnP W 56 ["machine","row"]:=fn_mk (by rfl) (by rfl) (by rfl) (fun _ _ _ _=>BindsTo.of_eq rfl) (by rfl) (by rfl) rfl rfl rfl
noncomputable def modU(m:Option Md):U:=match m with
 | some m=>uLd m
 | none=>.none
theorem c_module_at{r:Int}{ms:List Md}(hs:∀ m∈ms,m.rws.length < 1000):CallTo W 1 56 [.s 1,i_ r] (sA h t f fl pc rg rows (ms.map uLd)) (.u (modU (modAt r ms))) [] (sA h t f fl pc rg rows (ms.map uLd)) []:=by
 have F:=F_module_at (W:=W) (h:=h) (t:=t) (f:=f) (fl:=fl) (pc:=pc) (rg:=rg) (rows:=rows) (r:=r) ms hs
 cases e:modAt r ms with
 | none =>
  exact callTo_run [.lp .next (lMa r) (sA h t f fl pc rg rows (ms.map uLd)) [] []] fn_module_at kok gok rfl ⟨rfl,rfl,rfl,rfl⟩
   ⟨for_s2 9 (ev_run [] kok gok ⟨rfl⟩ True.intro) rfl rfl rfl rfl (F.2 e) rfl rfl,True.intro⟩
 | some m =>
  obtain ⟨l',w⟩:=F.1 m e
  exact callTo_run [.lp (.ret (.u (uLd m))) [] (sA h t f fl pc rg rows (ms.map uLd)) [] []] fn_module_at kok gok rfl ⟨rfl,rfl,rfl,rfl⟩
   ⟨ExS.nil (for_s2 9 (ev_run [] kok gok ⟨rfl⟩ True.intro) rfl rfl rfl rfl w rfl rfl),True.intro⟩
theorem fn_map_at:FnP W 63 ["machine","row"]:=fn_mk (by rfl) (by rfl) (by rfl) (fun _ _ _ _=>BindsTo.of_eq rfl) (by rfl) (by rfl) rfl rfl rfl
noncomputable def dgetI:List Int→List (List Int)→Int→List Int
 | k0 :: ks,u :: us,k=>if k0=k then u else dgetI ks us k
 | _,_,_=>[]
theorem dgetI_ok:∀(ks:List Int)(us:List (List Int))(k:Int),dgetU ks (us.map uI) k (.lst [])=uI (dgetI ks us k)
 | [],us,k=>by cases us <;> rfl
 | k0 :: ks,[],k=>rfl
 | k0 :: ks,u :: us,k=>by
  show (if k0=k then uI u else dgetU ks (us.map uI) k (.lst []))=uI (if k0=k then u else dgetI ks us k)
  by_cases q:k0=k
  ·rw [if_pos q,if_pos q]
  ·rw [if_neg q,if_neg q]; exact dgetI_ok ks us k
theorem c_map_at0{r:Int}{ms:List Md}(hs:∀ m∈ms,m.rws.length < 1000)(e:modAt r ms=none):CallTo W 2 63 [.s 1,i_ r] (sA h t f fl pc rg rows (ms.map uLd)) (.o 0) [.list []] (sA h t f fl pc rg rows (ms.map uLd)) []:=by
 have c:=c_module_at (W:=W) (h:=h) (t:=t) (f:=f) (fl:=fl) (pc:=pc) (rg:=rg) (rows:=rows) (r:=r) hs
 rw [e] at c
 exact callTo_run [.r 1 (.u .none) [] (sA h t f fl pc rg rows (ms.map uLd)) [],.d true] fn_map_at kok gok rfl ⟨rfl,rfl,rfl,rfl⟩ ⟨rfl,c,True.intro⟩
theorem c_map_at{r:Int}{ms:List Md}{m:Md}(hs:∀ m∈ms,m.rws.length < 1000)(e:modAt r ms=some m):CallTo W 2 63 [.s 1,i_ r] (sA h t f fl pc rg rows (ms.map uLd)) (.u (uI (dgetI m.mks m.mvs (r-m.cb)))) [] (sA h t f fl pc rg rows (ms.map uLd)) []:=by
 have c:=c_module_at (W:=W) (h:=h) (t:=t) (f:=f) (fl:=fl) (pc:=pc) (rg:=rg) (rows:=rows) (r:=r) hs
 rw [e] at c
 exact callTo_run [.r 1 (.u (uLd m)) [] (sA h t f fl pc rg rows (ms.map uLd)) [],.d false,.a (uI (dgetI m.mks m.mvs (r-m.cb)))] fn_map_at kok gok rfl ⟨rfl,rfl,rfl,rfl⟩ ⟨dgetI_ok _ _ _,rfl,c,True.intro⟩
end
section
variable {W:Wd KH}{n:Nat}{h:Cell}{f:Int→Int}{fl rg rows:List U}{t pc:Int}
noncomputable def subS(st:Stmt)(i:Nat):Stmt:=((whB st)[i]?).getD (.Pass default)
noncomputable def mapOf(r:Int)(ms:List Md):List Int:=match modAt r ms with
 | some m=>dgetI m.mks m.mvs (r-m.cb)
 | none=>[]
noncomputable def intsC(l:List Int):Cell:=.list (l.map U.int)
noncomputable def lS(r p k:Int):List (Str × V):=[("machine",.s 1),("memory",.s 2),("words",.o 0),("row",i_ r),("fp",i_ p),("turns",i_ k)]
theorem F_words{r p k:Int}{S:List Cell}{R:List Cell}{ma:Cell}(hS:S=sM h ma f R):∀(os acc:List Int),(∀ o∈os,okA ((p+o)%4294967296))→acc.length+os.length≤sizeLine →
  Fo W 2 (scopeOf W.K 70) (.one "offset") (whB (subS (stAt W.K 70 5) 0)) 1 (os.map U.int) ⟨lS r p k,S,[intsC acc]⟩ .next ⟨lS r p k,S,[intsC (acc++os.map fun o=>at_ f ((p+o)%4294967296))]⟩:=by
 intro os
 induction os with
 | nil=>intro acc _ _; rw [List.map_nil,List.map_nil,List.append_nil]; exact .nil
 | cons o os ih =>
  intro acc ho hl
  have ho0:=ho o (.head _)
  have ih:=ih (acc++[at_ f ((p+o)%4294967296)]) (fun o ho'=>ho o (.tail _ ho')) (by rw [List.length_append]; simp only [List.length_cons,List.length_nil] at *; exact lin [] [_,_,_] [145960739054068] 1191554563720520388 149058 rfl hl)
  rw [List.append_assoc] at ih
  have e:intsC (acc++[at_ f ((p+o)%4294967296)])=.list (acc.map U.int++[U.int (at_ f ((p+o)%4294967296))]):=by unfold intsC; rw [List.map_append]; rfl
  rw [e] at ih
  refine .go (fl:=.next) (a':=⟨lS r p k,S,[.list (acc.map U.int++[U.int (at_ f ((p+o)%4294967296))])]⟩) (b:=⟨lS r p k++[(("offset":Str),i_ o)],S,[.list (acc.map U.int++[U.int (at_ f ((p+o)%4294967296))])]⟩) rfl ?_ (.inl rfl) (less_of [(("offset":Str),i_ o)] rfl rfl rfl rfl) (Nat.le_refl _) ih
  subst hS
  exact bo_run [.r 2 (i_ (at_ f ((p+o)%4294967296))) [] (sM h ma f R) []] kok gok ⟨rfl⟩ ⟨by rw [List.length_map]; rw [List.length_cons] at hl; exact lin [] [_,_,_] [145960739054068] 131092 423746 rfl hl,c_word ho0.1 ho0.2,by decide,True.intro⟩
noncomputable def StR(ms:List Md)(f:Int→Int)(k:Nat)(r p i:Int)(ws:List Int):Prop :=
 ∀ P:Nat→Int→Int→Int→List Int→Prop,(∀{k:Nat}{p i:Int},P k 0 p i []) →
  (∀{k:Nat}{r p i:Int}{ws:List Int},r≠0→i < 258→(∀ o∈mapOf r ms,okA ((p+o)%4294967296))→okA ((p-4)%4294967296)→okA ((p-8)%4294967296)→P k (at_ f ((p-4)%4294967296)) (at_ f ((p-8)%4294967296)) (i+1) ws →
   P (k+1) r p i ((mapOf r ms).map (fun o=>at_ f ((p+o)%4294967296))++ws))→P k r p i ws
theorem StR.stop{ms:List Md}{f:Int→Int}{k:Nat}{p i:Int}:StR ms f k 0 p i []:=fun _ a _=>a
theorem StR.go{ms:List Md}{f:Int→Int}{k:Nat}{r p i:Int}{ws:List Int}(h1:r≠0)(h2:i < 258)(h3:∀ o∈mapOf r ms,okA ((p+o)%4294967296))(h4:okA ((p-4)%4294967296))(h5:okA ((p-8)%4294967296))(w:StR ms f k (at_ f ((p-4)%4294967296)) (at_ f ((p-8)%4294967296)) (i+1) ws):
  StR ms f (k+1) r p i ((mapOf r ms).map (fun o=>at_ f ((p+o)%4294967296))++ws):=fun P a b=>b h1 h2 h3 h4 h5 (w P a b)
theorem L_stack{ms:List Md}(hs:∀ m∈ms,m.rws.length < 1000){k:Nat}{r p i:Int}{ws:List Int}(w:StR ms f k r p i ws):∀ acc:List Int,acc.length+ws.length≤sizeLine→∃ r' p' i',Wh W 2 (scopeOf W.K 70) (whT (stAt W.K 70 5)) (whB (stAt W.K 70 5)) 1 k
  ⟨lS r p i,sA h t f fl pc rg rows (ms.map uLd),[intsC acc]⟩ .next ⟨lS r' p' i',sA h t f fl pc rg rows (ms.map uLd),[intsC (acc++ws)]⟩:=by
 apply w
 ·intro k p i acc _
  rw [List.append_nil]
  exact ⟨0,p,i,.stop (fl:=.next) (tu_run [.d false] kok gok ⟨rfl⟩ ⟨by decide,True.intro⟩)⟩
 ·intro k r p i ws h0 hi ho h4 h8 ih acc hl
  obtain ⟨r',p',i',ih⟩:=ih (acc++(mapOf r ms).map fun o=>at_ f ((p+o)%4294967296)) (by rw [List.length_append] at *; exact lin [] [_,_,_,_] [431284006461956] 431283520414212 149058 rfl hl)
  rw [List.append_assoc] at ih
  refine ⟨r',p',i',?_⟩
  have hl2:acc.length+(mapOf r ms).length≤sizeLine:=by rw [List.length_append,List.length_map] at hl; exact lin [] [_,_,_,_] [431284006461956] 6576709892 21403203 rfl hl
  have c1:CallTo W 1 434 [.s 1] (sA h t f fl pc rg rows (ms.map uLd)) (i_ 258) [] (sA h t f fl pc rg rows (ms.map uLd)) []:=c_most_frames
  have d1:=decide_eq_true h0
  have d2:=decide_eq_true hi
  have F:=F_words (W:=W) (h:=h) (f:=f) (r:=r) (p:=p) (k:=i) (S:=sA h t f fl pc rg rows (ms.map uLd)) rfl (mapOf r ms) acc ho hl2
  generalize hr2:at_ f ((p-4)%4294967296)=r2 at *
  generalize hp2:at_ f ((p-8)%4294967296)=p2 at *
  generalize hac:(acc++(mapOf r ms).map fun o=>at_ f ((p+o)%4294967296))=acc2 at *
  have c2:CallTo W 2 349 [.s 2,i_ ((p-4)%4294967296)] (sA h t f fl pc rg rows (ms.map uLd)) (i_ r2) [] (sA h t f fl pc rg rows (ms.map uLd)) []:=by rw [← hr2]; exact c_word h4.1 h4.2
  have c3:CallTo W 2 349 [.s 2,i_ ((p-8)%4294967296)] (sA h t f fl pc rg rows (ms.map uLd)) (i_ p2) [] (sA h t f fl pc rg rows (ms.map uLd)) []:=by rw [← hp2]; exact c_word h8.1 h8.2
  cases e:modAt r ms with
  | none =>
   have e0:mapOf r ms=[]:=by unfold mapOf; rw [e]
   rw [e0,List.map_nil,List.append_nil] at hac
   subst hac
   have c4:=c_map_at0 (W:=W) (h:=h) (t:=t) (f:=f) (fl:=fl) (pc:=pc) (rg:=rg) (rows:=rows) (r:=r) hs e
   refine .go (fl:=.next) (a':=⟨lS r2 p2 (i+1),sA h t f fl pc rg rows (ms.map uLd),[intsC acc]⟩) (b:=⟨lS r2 p2 (i+1),sA h t f fl pc rg rows (ms.map uLd),[intsC acc,.fz (.lst [])]⟩) ?_ (.inl rfl) (less_of [] rfl rfl rfl rfl) (Nat.le_refl _) ih
   exact tu_run [.d true,.r 1 (i_ 258) [] (sA h t f fl pc rg rows (ms.map uLd)) [],.d true,.lp .next (lS r p i) (sA h t f fl pc rg rows (ms.map uLd)) [intsC acc,.fz (.lst [])] [],.r 2 (i_ r2) [] (sA h t f fl pc rg rows (ms.map uLd)) [],.r 2 (i_ p2) [] (sA h t f fl pc rg rows (ms.map uLd)) []] kok gok ⟨rfl⟩
    ⟨c3,by decide,c2,by decide,for_ok (us:=[]) (sr_o (O'':=[intsC acc,.list []]) (ev_run [.r 2 (.o 0) [.list []] (sA h t f fl pc rg rows (ms.map uLd)) []] kok gok ⟨rfl⟩ ⟨c4,True.intro⟩) rfl rfl) rfl rfl rfl .nil,d2,c1,d1,True.intro⟩
  | some m =>
   have e0:mapOf r ms=dgetI m.mks m.mvs (r-m.cb):=by unfold mapOf; rw [e]
   rw [e0] at F
   have c4:=c_map_at (W:=W) (h:=h) (t:=t) (f:=f) (fl:=fl) (pc:=pc) (rg:=rg) (rows:=rows) (r:=r) hs e
   refine .go (fl:=.next) (a':=⟨lS r2 p2 (i+1),sA h t f fl pc rg rows (ms.map uLd),[intsC acc2]⟩) (b:=⟨lS r2 p2 (i+1),sA h t f fl pc rg rows (ms.map uLd),[intsC acc2]⟩) ?_ (.inl rfl) (less_of [] rfl rfl rfl rfl) (Nat.le_refl _) ih
   exact tu_run [.d true,.r 1 (i_ 258) [] (sA h t f fl pc rg rows (ms.map uLd)) [],.d true,.lp .next (lS r p i) (sA h t f fl pc rg rows (ms.map uLd)) [intsC acc2] [],.r 2 (i_ r2) [] (sA h t f fl pc rg rows (ms.map uLd)) [],.r 2 (i_ p2) [] (sA h t f fl pc rg rows (ms.map uLd)) []] kok gok ⟨rfl⟩
    ⟨c3,by decide,c2,by decide,for_ok (us:=(dgetI m.mks m.mvs (r-m.cb)).map U.int) (sr_u (ev_run [.r 2 (.u (uI (dgetI m.mks m.mvs (r-m.cb)))) [] (sA h t f fl pc rg rows (ms.map uLd)) []] kok gok ⟨rfl⟩ ⟨c4,True.intro⟩) rfl) rfl rfl rfl F,d2,c1,d1,True.intro⟩
theorem fn_stack_roots:FnP W 70 ["machine"]:=fn_mk (by rfl) (by rfl) (by rfl) (fun _ _ _=>BindsTo.of_eq rfl) (by rfl) (by rfl) rfl rfl rfl
theorem c_stack_roots{ms:List Md}(hs:∀ m∈ms,m.rws.length < 1000){k:Nat}{p:Int}{ws:List Int}(hp:rg[11]?=some (.int p))(hr:rg.length=16)(w:StR ms f k pc p 0 ws)(hl:ws.length≤sizeLine):
  CallTo W 3 70 [.s 1] (sA h t f fl pc rg rows (ms.map uLd)) (.o 0) [intsC ws] (sA h t f fl pc rg rows (ms.map uLd)) []:=by
 obtain ⟨r',p',i',w⟩:=L_stack (W:=W) (h:=h) (t:=t) (fl:=fl) (pc:=pc) (rg:=rg) (rows:=rows) hs w [] (by simpa using hl)
 exact callTo_run [.a (.int p),.lp .next (lS r' p' i') (sA h t f fl pc rg rows (ms.map uLd)) [intsC ws] []] fn_stack_roots kok gok rfl ⟨rfl,rfl,rfl,rfl⟩ ⟨wh_ok w,⟨by decide,by decide,hp⟩,True.intro⟩
end
section
variable {W:Wd KH}{n:Nat}{h:Cell}{f:Int→Int}{fl rg rows:List U}{t pc:Int}
noncomputable def lG:List (Str × V):=[("machine",.s 1),("words",.o 0)]
theorem G_in{m:Md}:∀(os acc:List Int),(∀ o∈os,okA (m.db+o))→acc.length+os.length≤sizeLine →
  Fo W 2 (scopeOf W.K 77) (.one "offset") (whB (subS (stAt W.K 77 1) 0)) 1 (os.map U.int) ⟨lG++[(("loaded":Str),V.u (uLd m))],sAh h t f fl pc rg rows,[intsC acc]⟩ .next ⟨lG++[(("loaded":Str),V.u (uLd m))],sAh h t f fl pc rg rows,[intsC (acc++os.map fun o=>at_ f (m.db+o))]⟩:=by
 intro os
 induction os with
 | nil=>intro acc _ _; rw [List.map_nil,List.map_nil,List.append_nil]; exact .nil
 | cons o os ih =>
  intro acc ho hl
  have ho0:=ho o (.head _)
  have ih:=ih (acc++[at_ f (m.db+o)]) (fun o ho'=>ho o (.tail _ ho')) (by rw [List.length_append]; simp only [List.length_cons,List.length_nil] at *; exact lin [] [_,_,_] [145960739054068] 1191554563720520388 149058 rfl hl)
  rw [List.append_assoc] at ih
  have e:intsC (acc++[at_ f (m.db+o)])=.list (acc.map U.int++[U.int (at_ f (m.db+o))]):=by unfold intsC; rw [List.map_append]; rfl
  rw [e] at ih
  refine .go (fl:=.next) (a':=⟨lG++[(("loaded":Str),V.u (uLd m))],sAh h t f fl pc rg rows,[.list (acc.map U.int++[U.int (at_ f (m.db+o))])]⟩) (b:=⟨lG++[(("loaded":Str),V.u (uLd m)),(("offset":Str),i_ o)],sAh h t f fl pc rg rows,[.list (acc.map U.int++[U.int (at_ f (m.db+o))])]⟩) rfl ?_ (.inl rfl) (less_of [(("offset":Str),i_ o)] rfl rfl rfl rfl) (Nat.le_refl _) ih
  exact bo_run [.r 2 (i_ (at_ f (m.db+o))) [] (sAh h t f fl pc rg rows) []] kok gok ⟨rfl⟩ ⟨by rw [List.length_map]; rw [List.length_cons] at hl; exact lin [] [_,_,_] [145960739054068] 131092 423746 rfl hl,c_word ho0.1 ho0.2,True.intro⟩
noncomputable def gRoots(f:Int→Int)(ms:List Md):List Int:=ms.flatMap fun m=>m.ptrs.map fun o=>at_ f (m.db+o)
theorem G_out:∀(ms:List Md)(acc:List Int),(∀ m∈ms,∀ o∈m.ptrs,okA (m.db+o))→acc.length+(gRoots f ms).length≤sizeLine →
  Fo W 2 (scopeOf W.K 77) (.one "loaded") (whB (stAt W.K 77 1)) 1 (ms.map uLd) ⟨lG,sAh h t f fl pc rg rows,[intsC acc]⟩ .next ⟨lG,sAh h t f fl pc rg rows,[intsC (acc++gRoots f ms)]⟩:=by
 intro ms
 induction ms with
 | nil=>intro acc _ _; show Fo _ _ _ _ _ _ _ _ _ ⟨_,_,[intsC (acc++[])]⟩; rw [List.append_nil]; exact .nil
 | cons m ms ih =>
  intro acc ho hl
  have e:gRoots f (m :: ms)=(m.ptrs.map fun o=>at_ f (m.db+o))++gRoots f ms:=rfl
  rw [e] at hl ⊢
  rw [List.length_append,List.length_map] at hl
  have ih:=ih (acc++m.ptrs.map fun o=>at_ f (m.db+o)) (fun m hm=>ho m (.tail _ hm)) (by rw [List.length_append,List.length_map]; exact lin [] [_,_,_,_] [431284006461956] 431283520414212 149058 rfl hl)
  rw [List.append_assoc] at ih
  have F:=G_in (W:=W) (h:=h) (t:=t) (f:=f) (fl:=fl) (pc:=pc) (rg:=rg) (rows:=rows) (m:=m) m.ptrs acc (ho m (.head _)) (by exact lin [] [_,_,_,_] [431284006461956] 6576709892 21403203 rfl hl)
  generalize hac:(acc++m.ptrs.map fun o=>at_ f (m.db+o))=acc2 at *
  refine .go (fl:=.next) (a':=⟨lG,sAh h t f fl pc rg rows,[intsC acc2]⟩) (b:=⟨lG++[(("loaded":Str),V.u (uLd m))],sAh h t f fl pc rg rows,[intsC acc2]⟩) rfl ?_ (.inl rfl) (less_of [(("loaded":Str),V.u (uLd m))] rfl rfl rfl rfl) (Nat.le_refl _) ih
  exact bo_run [.lp .next (lG++[(("loaded":Str),V.u (uLd m))]) (sAh h t f fl pc rg rows) [intsC acc2] []] kok gok ⟨rfl⟩ ⟨for_ok (sr_u (ev_run [] kok gok ⟨rfl⟩ True.intro) rfl) rfl rfl rfl F,True.intro⟩
theorem fn_global_roots:FnP W 77 ["machine"]:=fn_mk (by rfl) (by rfl) (by rfl) (fun _ _ _=>BindsTo.of_eq rfl) (by rfl) (by rfl) rfl rfl rfl
theorem c_global_roots{ms:List Md}(ho:∀ m∈ms,∀ o∈m.ptrs,okA (m.db+o))(hl:(gRoots f ms).length≤sizeLine):CallTo W 3 77 [.s 1] (sA h t f fl pc rg rows (ms.map uLd)) (.o 0) [intsC (gRoots f ms)] (sA h t f fl pc rg rows (ms.map uLd)) [] :=
 callTo_run [.lp .next lG (sA h t f fl pc rg rows (ms.map uLd)) [intsC (gRoots f ms)] []] fn_global_roots kok gok rfl ⟨rfl,rfl,rfl,rfl⟩
  ⟨for_s2 9 (ev_run [] kok gok ⟨rfl⟩ True.intro) rfl rfl rfl rfl (G_out ms [] ho (by simpa using hl)) rfl rfl,True.intro⟩
end
section
variable {W:Wd KH}{n:Nat}{h ma:Cell}{f:Int→Int}{R:List Cell}{fl:List U}
noncomputable abbrev Bk:=Int × Int × Option Int
noncomputable def encR(r:Int × Int):U:=.tup [.int r.1,.int r.2]
noncomputable def runPut(rs:List (Int × Int))(be b s:Int):List (Int × Int):=match rs.getLast? with
 | some r=>if be=b then rs.dropLast++[(r.1,r.2+s)] else rs++[(b,s)]
 | none=>rs++[(b,s)]
noncomputable def frA:List Bk→(Int→Int)→List (Int × Int)→Int→Int→(Int→Int) × List (Int × Int) × Int
 | [],f,rs,fr,be=>(f,rs,fr)
 | (b,s,d) :: r,f,rs,fr,be=>match d with
  | some _=>if at_ f (b+4)≠0 then frA r (put f (b+4) 0) rs fr be else frA r f (runPut rs be b s) (fr+s) (b+s)
  | none=>frA r f (runPut rs be b s) fr (b+s)
noncomputable def lF(fr be:Int):List (Str × V):=[("heap",.s 4),("memory",.s 2),("runs",.o 0),("freed",i_ fr),("behind",i_ be)]
noncomputable def rnC(rs:List (Int × Int)):Cell:=.list (rs.map encR)
theorem rnC_pop{rs:List (Int × Int)}{r:Int × Int}:rnC (rs.dropLast++[r])=.list ((rs.map encR).dropLast++[encR r]):=by unfold rnC; rw [List.map_append,List.map_dropLast]; rfl
theorem rnC_app{rs:List (Int × Int)}{r:Int × Int}:rnC (rs++[r])=.list (rs.map encR++[encR r]):=by unfold rnC; rw [List.map_append]; rfl
noncomputable def optU:Option Int→U
 | none=>.none
 | some t=>.int t
noncomputable def lFb(fr be b s:Int)(d:Option Int):List (Str × V):=lF fr be++[(("block":Str),i_ b),(("size":Str),i_ s),(("descriptor":Str),V.u (optU d))]
theorem runPut_len{rs:List (Int × Int)}{be b s:Int}:(runPut rs be b s).length≤rs.length+1:=by
 unfold runPut
 split
 ·split
  ·rw [List.length_append,List.length_dropLast,List.length_singleton]; omega
  ·rw [List.length_append]; exact Nat.le_refl _
 ·rw [List.length_append]; exact Nat.le_refl _
noncomputable def frd(d:Option Int)(fr s:Int):Int:=match d with
 | some _=>fr+s
 | none=>fr
theorem fr_step{u:U}{rs:List (Int × Int)}{fr be b s:Int}{d:Option Int}(hb:okA (b+4))(hl:rs.length≤1000)(hd:d=none∨at_ f (b+4)=0):
  ∃ ex,BoS W 5 (scopeOf W.K 175) (whB (stAt W.K 175 4)) ⟨lFb fr be b s d,sH h ma f fl R,[rnC rs,.fz u]⟩ .next ⟨lF (frd d fr s) (b+s)++ex,sH h ma f fl R,[rnC (runPut rs be b s),.fz u]⟩:=by
 have h1:(rs.map encR).length < 2 ^ 63:=by rw [List.length_map]; exact lin [] [_,_] [65544212,4835703278458516698923078] 65557 566498883 rfl hl pN63
 have h2:(rs.map encR).length≤sizeLine:=by rw [List.length_map,sizeLine_eq]; exact lin [] [_] [65544212] 1099511635988 149058 rfl hl
 have h3:(rs.map encR).dropLast.length≤sizeLine:=by rw [List.length_dropLast]; omega
 unfold runPut
 cases hg:rs.getLast? with
 | none =>
  have e0:rs=[]:=List.getLast?_eq_none_iff.mp hg
  subst e0
  cases d with
  | none=>exact ⟨[(("block":Str),i_ b),(("size":Str),i_ s),(("descriptor":Str),V.u .none)],bo_run [.d false,.d false,.d false] kok gok ⟨rfl⟩ ⟨by decide,by decide,by decide,rfl,rfl,True.intro⟩⟩
  | some t =>
   have hz:=hd.resolve_left (fun e=>nomatch e)
   have c1:CallTo W 2 349 [.s 2,i_ (b+4)] (sH h ma f fl R) (i_ 0) [] (sH h ma f fl R) []:=by rw [← hz]; exact c_word hb.1 hb.2
   exact ⟨[(("block":Str),i_ b),(("size":Str),i_ s),(("descriptor":Str),i_ t)],bo_run [.d true,.r 2 (i_ 0) [] (sH h ma f fl R) [],.d false,.d true,.d false] kok gok ⟨rfl⟩ ⟨by decide,by decide,by decide,rfl,by decide,c1,rfl,True.intro⟩⟩
 | some r =>
  have hne:rs≠[]:=fun e=>by rw [e] at hg; cases hg
  have h4:decide ((0:Int) < ((rs.map encR).length:Nat))=true:=decide_eq_true (by rw [List.length_map]; have:=List.length_pos_iff.mpr hne; exact lin [] [_] [4133] 102434 149058 rfl this)
  have h5:(rs.map encR).getLast?=some (encR r):=by rw [List.getLast?_map,hg]; rfl
  by_cases q:be=b
  ·show ∃ ex,BoS _ _ _ _ _ _ ⟨_,_,[rnC (if be=b then _ else _),_]⟩
   rw [if_pos q,rnC_pop]
   cases d with
   | none=>exact ⟨[(("block":Str),i_ b),(("size":Str),i_ s),(("descriptor":Str),V.u .none),(("start":Str),i_ r.1),(("length":Str),i_ r.2)],bo_run [.d false,.d false,.d true,.d true,.a (encR r)] kok gok ⟨rfl⟩ ⟨h3,⟨h5,h2⟩,decide_eq_true q,h4,h1,rfl,rfl,True.intro⟩⟩
   | some t =>
    have hz:=hd.resolve_left (fun e=>nomatch e)
    have c1:CallTo W 2 349 [.s 2,i_ (b+4)] (sH h ma f fl R) (i_ 0) [] (sH h ma f fl R) []:=by rw [← hz]; exact c_word hb.1 hb.2
    exact ⟨[(("block":Str),i_ b),(("size":Str),i_ s),(("descriptor":Str),i_ t),(("start":Str),i_ r.1),(("length":Str),i_ r.2)],bo_run [.d true,.r 2 (i_ 0) [] (sH h ma f fl R) [],.d false,.d true,.d true,.d true,.a (encR r)] kok gok ⟨rfl⟩ ⟨h3,⟨h5,h2⟩,decide_eq_true q,h4,h1,rfl,by decide,c1,rfl,True.intro⟩⟩
  ·show ∃ ex,BoS _ _ _ _ _ _ ⟨_,_,[rnC (if be=b then _ else _),_]⟩
   rw [if_neg q,rnC_app]
   cases d with
   | none=>exact ⟨[(("block":Str),i_ b),(("size":Str),i_ s),(("descriptor":Str),V.u .none)],bo_run [.d false,.d false,.d true,.d false] kok gok ⟨rfl⟩ ⟨h2,decide_eq_false q,h4,h1,rfl,rfl,True.intro⟩⟩
   | some t =>
    have hz:=hd.resolve_left (fun e=>nomatch e)
    have c1:CallTo W 2 349 [.s 2,i_ (b+4)] (sH h ma f fl R) (i_ 0) [] (sH h ma f fl R) []:=by rw [← hz]; exact c_word hb.1 hb.2
    exact ⟨[(("block":Str),i_ b),(("size":Str),i_ s),(("descriptor":Str),i_ t)],bo_run [.d true,.r 2 (i_ 0) [] (sH h ma f fl R) [],.d false,.d true,.d true,.d false] kok gok ⟨rfl⟩ ⟨h2,decide_eq_false q,h4,h1,rfl,by decide,c1,rfl,True.intro⟩⟩
theorem F_free{u:U}:∀(bs:List Bk)(f:Int→Int)(rs:List (Int × Int))(fr be:Int),(∀ p∈bs,okA (p.1+4))→rs.length+bs.length≤1000 →
  ∃ be',Fo W 5 (scopeOf W.K 175) (.many ["block","size","descriptor"]) (whB (stAt W.K 175 4)) 2 (bs.map encB) ⟨lF fr be,sH h ma f fl R,[rnC rs,.fz u]⟩ .next ⟨lF (frA bs f rs fr be).2.2 be',sH h ma (frA bs f rs fr be).1 fl R,[rnC (frA bs f rs fr be).2.1,.fz u]⟩:=by
 intro bs
 induction bs with
 | nil=>exact fun f rs fr be _ _=>⟨be,.nil⟩
 | cons p bs ih =>
  intro f rs fr be ho hl
  obtain ⟨b,s,d⟩:=p
  have hb:okA (b+4):=ho _ (.head _)
  have ho':∀ p∈bs,okA (p.1+4):=fun p hp=>ho p (.tail _ hp)
  rw [List.length_cons] at hl
  have hrl:=runPut_len (rs:=rs) (be:=be) (b:=b) (s:=s)
  by_cases q:d=none∨at_ f (b+4)=0
  ·obtain ⟨be',w⟩:=ih f (runPut rs be b s) (frd d fr s) (b+s) ho' (by exact lin [] [_,_,_] [70382763521384948,4833214548] 34366315209028 21370435 rfl hl hrl)
   obtain ⟨ex,st⟩:=fr_step (W:=W) (h:=h) (ma:=ma) (fl:=fl) (R:=R) (u:=u) (rs:=rs) (fr:=fr) (be:=be) (s:=s) hb (by exact lin [] [_,_] [70382763521384948] 65544212 423746 rfl hl) q
   have e:frA ((b,s,d) :: bs) f rs fr be=frA bs f (runPut rs be b s) (frd d fr s) (b+s):=by
    cases d with
    | none=>rfl
    | some t =>
     show (if _ then _ else _)=_
     rw [if_neg (by simpa using q)]; rfl
   rw [e]
   exact ⟨be',.go (fl:=.next) (a':=⟨lF (frd d fr s) (b+s),sH h ma f fl R,[rnC (runPut rs be b s),.fz u]⟩) (by cases d <;> rfl) st (.inl rfl) (less_of ex rfl rfl rfl rfl) (Nat.le_refl _) w⟩
  ·cases d with
   | none=>exact absurd (.inl rfl) q
   | some t =>
    have q:at_ f (b+4)≠0:=fun e=>q (.inr e)
    obtain ⟨be',w⟩:=ih (put f (b+4) 0) rs fr be ho' (by exact lin [] [_,_] [70382763521384948] 2147886342404 149058 rfl hl)
    have e:frA ((b,s,some t) :: bs) f rs fr be=frA bs (put f (b+4) 0) rs fr be:=by show (if _ then _ else _)=_; rw [if_pos q]
    rw [e]
    exact ⟨be',.go (fl:=.cont) (a':=⟨lF fr be,sH h ma (put f (b+4) 0) fl R,[rnC rs,.fz u]⟩) (b:=⟨lFb fr be b s (some t),sH h ma (put f (b+4) 0) fl R,[rnC rs,.fz u]⟩) rfl
     (bo_run [.d true,.r 2 (i_ (at_ f (b+4))) [] (sH h ma f fl R) [],.d true,.r 2 (.u .none) [] (sH h ma (put f (b+4) 0) fl R) []] kok gok ⟨rfl⟩ ⟨c_put_word hb.1 hb.2,decide_eq_true q,c_word hb.1 hb.2,rfl,True.intro⟩) (.inr rfl) (less_of [(("block":Str),i_ b),(("size":Str),i_ s),(("descriptor":Str),i_ t)] rfl rfl rfl rfl) (Nat.le_refl _) w⟩
theorem fn_free_runs:FnP W 175 ["heap"]:=fn_mk (by rfl) (by rfl) (by rfl) (fun _ _ _=>BindsTo.of_eq rfl) (by rfl) (by rfl) rfl rfl rfl
theorem c_free_runs{bs:List Bk}(hb:HB f 1088 bs)(ho:∀ p∈bs,okA (p.1+4))(hl:bs.length≤1000):CallTo W 6 175 [.s 4] (sH h ma f fl R) (.u (.tup [.lst ((frA bs f [] 0 0).2.1.map encR),.int (frA bs f [] 0 0).2.2])) [] (sH h ma (frA bs f [] 0 0).1 fl R) []:=by
 obtain ⟨be',w⟩:=F_free (W:=W) (h:=h) (ma:=ma) (fl:=fl) (R:=R) (u:=.lst (bs.map encB)) bs f [] 0 0 ho (by simpa using hl)
 have c1:=c_blocks (W:=W) (h:=h) (ma:=ma) (fl:=fl) (R:=R) (bs:=bs) (by rw [sizeLine_eq]; exact lin [] [_] [65544212] 1099511635988 149058 rfl hl) hb
 generalize frA bs f [] 0 0=r at *
 exact callTo_run [.lp .next (lF r.2.2 be') (sH h ma r.1 fl R) [rnC r.2.1,.fz (.lst (bs.map encB))] []] fn_free_runs kok gok rfl ⟨rfl,rfl,rfl,rfl⟩
  ⟨for_ok (us:=bs.map encB) (sr_o (ev_run [.r 5 (.o 0) [.list (bs.map encB)] (sH h ma f fl R) []] kok gok ⟨rfl⟩ ⟨c1,True.intro⟩) rfl rfl) rfl rfl rfl w,True.intro⟩
end
section
variable {W:Wd KH}{n:Nat}{f:Int→Int}{fl rg rows ld hu:List U}{t pc:Int}
theorem reloc_ok2{osc:Scope}{e o:Expr}{x:Str}{p pos:Pos}{l:List (Str × V)}{S O S1 O1 S' O' S2 O2:List Cell}{us:List U}{fs:List (Str × V)}(k i j:Nat)(C:Addr)(hc:notSD e=true)(he:EvS W n osc e l S O (.o j) S1 O1)(ho:EvS W n osc o l S1 O1 (.s k) S' O')(R:Rl S' O' l k i j C fs x us)
  (hS:(((S'.set k .hid).set i .hid).set i (.list us)).set k (.attrs C (lput fs x (.s i)))=S2) (hO:O'.set j .hid=O2):ExS W n osc (.Assign [.Attribute o x p] e pos) l S O .next l S2 O2 [i]:=by
 subst hS hO
 exact reloc_ok kok hc he ho R
noncomputable def flU(g:Int→Int):List U:=[.int (g 0),.int (g 1),.int (g 2),.int (g 3)]
theorem flU_get(g:Int→Int)(s:Int):(flU g)[(lnum s).toNat]?=some (.int (g (lnum s))):=by
 unfold lnum; split
 ·rfl
 ·split
  ·rfl
  ·split <;> rfl
theorem flU_set(g:Int→Int)(s b:Int):(flU g).set (lnum s).toNat (.int b)=flU (mset g (lnum s) b):=by
 unfold lnum; split
 ·rfl
 ·split
  ·rfl
  ·split <;> rfl
noncomputable def pfS(r:Int × Int)(st:(Int→Int) × (Int→Int)):(Int→Int) × (Int→Int):=(put (put st.1 r.1 (r.2+1)) (r.1+4) (st.2 (lnum r.2)),mset st.2 (lnum r.2) r.1)
theorem c_pf{h ma:Cell}{R:List Cell}{g:Int→Int}{b s:Int}(h0:0≤b)(h1:b+4 < 3664):CallTo W 3 112 [.s 4,i_ b,i_ s] (sH h ma f (flU g) R) (.u .none) [] (sH h ma (pfS (b,s) (f,g)).1 (flU (pfS (b,s) (f,g)).2) R) []:=by
 have c:=c_put_free (W:=W) (h:=h) (ma:=ma) (f:=f) (R:=R) (fl:=flU g) (b:=b) (s:=s) h0 h1 rfl (flU_get g s)
 rw [flU_set] at c
 exact c
noncomputable def lSw(rs:List (Int × Int))(fr:Int):List (Str × V):=[("heap",.s 4),("runs",.u (.lst (rs.map encR))),("freed",i_ fr)]
noncomputable def dn:Nat→List Int
 | 0=>[]
 | k+1=>(k:Int) :: dn k
theorem dn_eq(k:Nat):rngI ((k:Int)-1) (-1) (-1)=dn k:=by
 have e:∀ k:Nat,dn k=(List.range k).map fun i:Nat=>(k:Int)-1+i * -1:=fun k=>by
  induction k with
  | zero=>rfl
  | succ k ih =>
   rw [List.range_succ_eq_map,List.map_cons,List.map_map,dn,ih]
   congr 1
   ·simp
   ·apply List.map_congr_left
    intro i _
    simp only [Function.comp]
    omega
 rw [e]
 unfold rngI
 have:(Builtin.Range.rangeSize ((k:Int)-1) (-1) (-1)).toNat=k:=by
  unfold Builtin.Range.rangeSize
  rw [if_neg (by decide),show (- -1:Int)=1 from rfl,Int.ediv_one]
  split <;> omega
 rw [this]
theorem F_sweep{h ma:Cell}{R:List Cell}{rs:List (Int × Int)}{fr:Int}(hr:∀ r∈rs,0≤r.1∧r.1+4 < 3664)(hl:rs.length < 1000)(ini:(Int→Int) × (Int→Int)):∀ k:Nat,k≤rs.length →
  Fo W 6 (scopeOf W.K 182) (.one "number") (whB (stAt W.K 182 2)) 2 ((dn k).map U.int) ⟨lSw rs fr,sH h ma ((rs.drop k).foldr pfS ini).1 (flU ((rs.drop k).foldr pfS ini).2) R,[.list [.int 0],.hid]⟩ .next ⟨lSw rs fr,sH h ma (rs.foldr pfS ini).1 (flU (rs.foldr pfS ini).2) R,[.list [.int 0],.hid]⟩:=by
 intro k
 induction k with
 | zero=>exact fun _=>.nil
 | succ k ih =>
  intro hk
  have ih:=ih (by exact lin [] [_,_] [2298519812] 65556 149058 rfl hk)
  have e:rs.drop k=rs[k] :: rs.drop (k+1):=List.drop_eq_getElem_cons (by exact lin [] [_,_] [2298519812] 65557 149058 rfl hk)
  rw [e,List.foldr_cons] at ih
  have hr:=hr _ (List.getElem_mem (h:=(by exact lin [] [_,_] [2298519812] 65557 149058 rfl hk:k < rs.length)))
  have hg:(rs.map encR)[((k:Nat):Int).toNat]?=some (encR rs[k]):=by rw [Int.toNat_natCast,List.getElem?_map,List.getElem?_eq_getElem (by exact lin [] [_,_] [2298519812] 65557 149058 rfl hk)]; rfl
  generalize rs[k]=r at *
  obtain ⟨b,s⟩:=r
  generalize (rs.drop (k+1)).foldr pfS ini=st at *
  obtain ⟨f,g⟩:=st
  have c1:=c_pf (W:=W) (f:=f) (h:=h) (ma:=ma) (R:=R) (g:=g) (s:=s) hr.1 hr.2
  generalize pfS (b,s) (f,g)=st' at *
  have hk2:0≤(k:Int)∧(k:Int) < 2 ^ 63∧(rs.map encR)[((k:Nat):Int).toNat]?=some (encR (b,s)):=⟨by exact lin [] [_] [] 102433 83522 rfl ,by exact lin [_] [_,_] [65544213,1275207988,604462909807314587361299] 286834 310720352324 rfl hl hk pI63,hg⟩
  exact .go (fl:=.next) (a':=⟨lSw rs fr,sH h ma st'.1 (flU st'.2) R,[.list [.int 0],.hid]⟩) (b:=⟨lSw rs fr++[(("number":Str),i_ k)],sH h ma st'.1 (flU st'.2) R,[.list [.int 0],.hid]⟩) rfl
   (bo_run [.a (encR (b,s)),.a (encR (b,s)),.r 3 (.u .none) [] (sH h ma st'.1 (flU st'.2) R) []] kok gok ⟨rfl⟩ ⟨c1,hk2,hk2,True.intro⟩) (.inl rfl) (less_of [(("number":Str),i_ k)] rfl rfl rfl rfl) (Nat.le_refl _) ih
theorem fn_sweep:FnP W 182 ["heap"]:=fn_mk (by rfl) (by rfl) (by rfl) (fun _ _ _=>BindsTo.of_eq rfl) (by rfl) (by rfl) rfl rfl rfl
noncomputable def swS(bs:List Bk)(f:Int→Int):(Int→Int) × (Int→Int):=(frA bs f [] 0 0).2.1.foldr pfS ((frA bs f [] 0 0).1,fun _=>0)
theorem c_sweep{bs:List Bk}(hb:HB f 1088 bs)(ho:∀ p∈bs,okA (p.1+4))(hl:bs.length≤900)(hr:∀ r∈(frA bs f [] 0 0).2.1,0≤r.1∧r.1+4 < 3664)(hrl:(frA bs f [] 0 0).2.1.length < 1000):
  CallTo W 7 182 [.s 4] (sA (.list hu) t f fl pc rg rows ld) (i_ (frA bs f [] 0 0).2.2) [] (sA (.list hu) t (swS bs f).1 (flU (swS bs f).2) pc rg rows ld) [5]:=by
 have c1:=c_free_runs (W:=W) (f:=f) (h:=.list hu) (ma:=mA t) (fl:=fl) (R:=cpuA pc :: .list rg :: .list rows :: [.list ld,.list [],.list []]) hb ho (by exact lin [] [_] [58990612] 65544212 149058 rfl hl)
 unfold swS
 generalize frA bs f [] 0 0=r at *
 obtain ⟨f1,rs,fr⟩:=r
 have hrl:rs.length < 1000:=hrl
 have F:=F_sweep (W:=W) (h:=.list hu) (ma:=mA t) (R:=cpuA pc :: .list rg :: .list rows :: [.list ld,.list [],.list []]) (rs:=rs) (fr:=fr) hr hrl (f1,fun _=>0) rs.length (Nat.le_refl _)
 rw [List.drop_length] at F
 generalize rs.foldr pfS (f1,fun _=>0)=st at *
 exact callTo_run [.r 6 (.u (.tup [.lst (rs.map encR),.int fr])) [] (sA (.list hu) t f1 fl pc rg rows ld) [],.la (lSw rs fr) (sA (.list hu) t f1 (flU fun _=>0) pc rg rows ld) [.list [.int 0],.hid] [5],.lp .next (lSw rs fr) (sA (.list hu) t st.1 (flU st.2) pc rg rows ld) [.list [.int 0],.hid] []] fn_sweep kok gok rfl ⟨rfl,rfl,rfl,rfl⟩
  ⟨for_ok (us:=(dn rs.length).map U.int) (sr_u (ev_run [] kok gok ⟨rfl⟩ ⟨⟨by decide,by decide⟩,by rw [List.length_map]; (rename_i q0; exact lin [] [_,_] [65544213,4835703278458516698923078] 65557 566498883 rfl q0 pN63),True.intro⟩) ⟨small_of (by rw [List.length_map]; (rename_i q0; exact ⟨lin [_] [_] [75557863725914323427347] 5235396658 293901891 rfl pI60,lin [_] [_] [65544213,75557863725914323427347] 654422306 566498883 rfl q0 pI60⟩)) (by decide) (by decide),by rw [rangeU_eq,List.length_map,dn_eq]⟩) rfl rfl rfl F,
  reloc_ok2 4 5 1 164 rfl (ev_run [] kok gok ⟨rfl⟩ ⟨by decide,True.intro⟩) (ev_run [] kok gok ⟨rfl⟩ True.intro) (fs:=[("memory",.s 2),("start",i_ 1088),("limit",i_ 1600),("free",.s 5)]) (us:=[.int 0,.int 0,.int 0,.int 0]) ⟨rfl,rfl,⟨_,rfl⟩,rfl,rfl,rfl,rfl,rfl,rfl⟩ rfl rfl,c1,True.intro⟩
end
section
variable {W:Wd KH}{n:Nat}{f:Int→Int}{fl rg rows ld hu:List U}{t pc:Int}
structure FnD(W:Wd KH)(f:Addr)(names:List Str):Prop where
 kp:keepIn W.K (.ref f)=true
 run:∀{n vs Q σ},vs.length+1=names.length→(∀ env,env.scope=scopeOf W.K f→Exs W n env (updAll (fun _=>none) names (vs++[.ref 183])) (bodyOf W.K f) (fun fl _ σ'=>Q (retV fl) σ') σ)→CallOK W (n+1) f vs Q σ
theorem fn_mkD{f:Addr}{name qual:Str}{params:Arguments}{body:List Stmt}{scope:Scope}{dV kV doc pm cdv ct oc:Value}{an od:Option Addr}{osl:Array (Option Value)}{names:List Str}{k:Nat}(hk:k+1=names.length)
  (hkp:keepIn W.K (.ref f)=true)
  (ho:W.K.lookup f=some ⟨oc,od,.func (fnOf name qual params body scope dV kV doc pm an cdv ct),osl⟩) (hcd:codeIn W.K cdv qual=true)
  (hbind:∀ s:Shared,W.K.In s.heap→All k fun vs'=>BindsTo s (fnOf name qual params body scope dV kV doc pm an cdv ct) ⟨vs',[]⟩ (names.zip (vs'++[.ref 183])))
  (hnames:(names.all fun x=>(scope.names.lookup x==some .local||scope.names.lookup x==some .cell)&&x != "__debug__"&&x != "__classdict__")=true)
  (hnf:(scope.names.all fun p=>p.2 != .free)=true) (hco:scope.isCoroutine=false) (hgen:scope.isGenerator=false) (hk2:scope.kind=.function):FnD W f names:=by
 refine ⟨hkp,fun {n vs Q σ} hl h=>callok_fun (names:=names) (extra:=[.ref 183]) ho hcd (fun s vs' X e=>?_) hnames hnf hco hgen hk2 fun env he=>?_⟩
 ·exact (hbind s X).at vs' (by have:=congrArg List.length e; rw [List.length_map] at this; exact Nat.le_antisymm (lin [] [_,_,_,_] [2298519814,36910047558,2195542] 98388 35529184792644 rfl hk hl this) (lin [] [_,_,_,_] [2298519814,36910047558,2195542] 196628 44359503335492 rfl hk hl this))
 ·have e1:funcOf W.K f=some (fnOf name qual params body scope dV kV doc pm an cdv ct):=by unfold funcOf; rw [ho]
  have e2:bodyOf W.K f=body:=by unfold bodyOf; rw [e1]
  have e3:scopeOf W.K f=scope:=by unfold scopeOf; rw [e1]
  have:=h env (by rw [e3]; exact he)
  rw [e2] at this
  exact this
theorem callTo_runD{f:Addr}{vs:List V}{S new S':List Cell}{v:V}{rls:List Nat}{names:List Str}{cs:List Prop}(or:List Orc)
  (F:FnD W f names) (hl:vs.length+1=names.length) (hr:Says (run W n gT f names (vs++[.u (.tup [])]) S or) v new S' rls cs) (hc:AllP cs):CallTo W (n+1) f vs S v new S' rls:=fun G ρ σ xs Q M rv k =>
 callee_own F.kp (F.run (by rw [rv.len,hl]) fun env he=>hr.exs (F:=⟨G,updAll (fun _=>none) names (xs++[.ref 183])⟩) (s:=⟨ρ,[],σ⟩) kok gok hc he ⟨M,LR.puts (fun _ _ e=>nomatch e) (rv.app (.cons ⟨_,[],rfl,M.dj.e0,rfl⟩ .nil))⟩ rfl fun x s' _ _ _ M' px r=>k x s' M' px r)
theorem fd_collect:FnD W 191 ["machine","beside"]:=fn_mkD (k:=1) rfl (by rfl) (by rfl) (by rfl) (fun _ X _=>binds_K X rfl (by rfl) rfl rfl rfl) (by rfl) (by rfl) rfl rfl rfl
theorem fn_collect:FnP W 191 ["machine","beside"]:=fn_mk (by rfl) (by rfl) (by rfl) (fun _ X _ _=>binds_K X rfl (by rfl) rfl rfl rfl) (by rfl) (by rfl) rfl rfl rfl
structure Col(bs:List Bk)(ms:List Md)(f:Int→Int)(pc p:Int)(be:List Int)(f3:Int→Int):Prop where
 ho:∀ m∈ms,∀ o∈m.ptrs,okA (m.db+o)
 hs:∀ m∈ms,m.rws.length < 1000
 hl:(gRoots f ms).length≤sizeLine
 w:∃ f1 f2 k ws,Mk_ bs f (gRoots f ms) f1∧StR ms f1 k pc p 0 ws∧ws.length≤sizeLine∧Mk_ bs f1 ws f2∧Mk_ bs f2 be f3
 hb:HB f3 1088 bs
 hp:∀ p∈bs,okA (p.1+4)
 hn:bs.length≤900
 hr:∀ r∈(frA bs f3 [] 0 0).2.1,0≤r.1∧r.1+4 < 3664
 hrl:(frA bs f3 [] 0 0).2.1.length < 1000
theorem col_run{p:Int}{bs:List Bk}{ms:List Md}{be:List Int}{b:U}{f3:Int→Int}(hi:ItU b (be.map U.int))(hp:rg[11]?=some (.int p))(hr:rg.length=16)(C:Col bs ms f pc p be f3):
  ∃ or cs,Says (run W 7 gT 191 ["machine","beside"] [.s 1,.u b] (sA (.list hu) t f fl pc rg rows (ms.map uLd)) or) (i_ (frA bs f3 [] 0 0).2.2) [] (sA (.list hu) t (swS bs f3).1 (flU (swS bs f3).2) pc rg rows (ms.map uLd)) [5] cs∧AllP cs:=by
 obtain ⟨f1,f2,k,ws,m1,st,wl,m2,m3⟩:=C.w
 have g:=c_global_roots (W:=W) (h:=.list hu) (t:=t) (f:=f) (fl:=fl) (pc:=pc) (rg:=rg) (rows:=rows) C.ho C.hl
 have s:=c_stack_roots (W:=W) (h:=.list hu) (t:=t) (f:=f1) (fl:=fl) (pc:=pc) (rg:=rg) (rows:=rows) C.hs hp hr st wl
 obtain ⟨c1,q1⟩:=c_mark (W:=W) (h:=.list hu) (ma:=mA t) (fl:=fl) (R:=cpuA pc :: .list rg :: .list rows :: [.list (ms.map uLd),.list [],.list []]) (u:=.lst ((gRoots f ms).map U.int)) rfl m1
 obtain ⟨c2,q2⟩:=c_mark (W:=W) (h:=.list hu) (ma:=mA t) (fl:=fl) (R:=cpuA pc :: .list rg :: .list rows :: [.list (ms.map uLd),.list [],.list []]) (u:=.lst (ws.map U.int)) rfl m2
 obtain ⟨c3,q3⟩:=c_mark (W:=W) (h:=.list hu) (ma:=mA t) (fl:=fl) (R:=cpuA pc :: .list rg :: .list rows :: [.list (ms.map uLd),.list [],.list []]) (u:=b) hi m3
 have q4:=c_sweep (W:=W) (hu:=hu) (t:=t) (fl:=fl) (pc:=pc) (rg:=rg) (rows:=rows) (ld:=ms.map uLd) C.hb C.hp C.hn C.hr C.hrl
 generalize gRoots f ms=gr at *
 generalize swS bs f3=sw at *
 generalize frA bs f3 [] 0 0=fa at *
 exact ⟨[.r 3 (.o 0) [intsC gr] (sA (.list hu) t f fl pc rg rows (ms.map uLd)) [],.r 5 (i_ c1) [] (sA (.list hu) t f1 fl pc rg rows (ms.map uLd)) [],.r 3 (.o 0) [intsC ws] (sA (.list hu) t f1 fl pc rg rows (ms.map uLd)) [],.r 5 (i_ c2) [] (sA (.list hu) t f2 fl pc rg rows (ms.map uLd)) [],
  .r 5 (i_ c3) [] (sA (.list hu) t f3 fl pc rg rows (ms.map uLd)) [],.r 7 (i_ fa.2.2) [] (sA (.list hu) t sw.1 (flU sw.2) pc rg rows (ms.map uLd)) [5]],_,⟨rfl,rfl,rfl,rfl⟩,q4,q3,q2,s,q1,g,True.intro⟩
theorem c_collect{p:Int}{bs:List Bk}{ms:List Md}{be:List Int}{b:U}{f3:Int→Int}(hi:ItU b (be.map U.int))(hp:rg[11]?=some (.int p))(hr:rg.length=16)(C:Col bs ms f pc p be f3):
  CallTo W 8 191 [.s 1,.u b] (sA (.list hu) t f fl pc rg rows (ms.map uLd)) (i_ (frA bs f3 [] 0 0).2.2) [] (sA (.list hu) t (swS bs f3).1 (flU (swS bs f3).2) pc rg rows (ms.map uLd)) [5]:=by
 obtain ⟨or,cs,s,c⟩:=col_run (W:=W) (hu:=hu) (t:=t) (fl:=fl) (rows:=rows) hi hp hr C
 exact callTo_run or fn_collect kok gok rfl s c
theorem c_collect0{p:Int}{bs:List Bk}{ms:List Md}{f3:Int→Int}(hp:rg[11]?=some (.int p))(hr:rg.length=16)(C:Col bs ms f pc p [] f3):
  CallTo W 8 191 [.s 1] (sA (.list hu) t f fl pc rg rows (ms.map uLd)) (i_ (frA bs f3 [] 0 0).2.2) [] (sA (.list hu) t (swS bs f3).1 (flU (swS bs f3).2) pc rg rows (ms.map uLd)) [5]:=by
 obtain ⟨or,cs,s,c⟩:=col_run (W:=W) (hu:=hu) (t:=t) (fl:=fl) (rows:=rows) (b:=.tup []) (be:=[]) rfl hp hr C
 exact callTo_runD or fd_collect rfl s c
theorem fn_make_record:FnP W 198 ["machine","variable","descriptor"]:=fn_mk (by rfl) (by rfl) (by rfl) (fun _ _ _ _ _=>BindsTo.of_eq rfl) (by rfl) (by rfl) rfl rfl rfl
theorem c_make_record{v d r:Int}{f1:Int→Int}{fl1:List U}(hA:CallTo W 5 147 [.s 4,i_ d] (sA (.list hu) t f fl pc rg rows ld) (i_ r) [] (sA (.list hu) t f1 fl1 pc rg rows ld) [])(hr:r≠0)(hv:okA v):
  CallTo W 9 198 [.s 1,i_ v,i_ d] (sA (.list hu) t f fl pc rg rows ld) (.u .none) [] (sA (.list hu) t (put f1 v r) fl1 pc rg rows ld) [] :=
 callTo_run [.r 5 (i_ r) [] (sA (.list hu) t f1 fl1 pc rg rows ld) [],.d false,.d false,.r 2 (.u .none) [] (sA (.list hu) t (put f1 v r) fl1 pc rg rows ld) []] fn_make_record kok gok rfl ⟨rfl,rfl,rfl,rfl⟩
  ⟨c_put_word hv.1 hv.2,decide_eq_false hr,decide_eq_false hr,hA,True.intro⟩
theorem c_make_record0{v d c:Int}{f1:Int→Int}{fl1:List U}(hA:CallTo W 5 147 [.s 4,i_ d] (sA (.list hu) t f fl pc rg rows ld) (i_ 0) [] (sA (.list hu) t f fl pc rg rows ld) [])
  (hC:CallTo W 8 191 [.s 1,.u (.tup [.int v])] (sA (.list hu) t f fl pc rg rows ld) (i_ c) [] (sA (.list hu) t f1 fl1 pc rg rows ld) [5])
  (hA2:CallTo W 5 147 [.s 4,i_ d] (sA (.list hu) t f1 fl1 pc rg rows ld) (i_ 0) [] (sA (.list hu) t f1 fl1 pc rg rows ld) []) :
  CallTo W 9 198 [.s 1,i_ v,i_ d] (sA (.list hu) t f fl pc rg rows ld) (.u (.tup [.str "trap",.int 9,.int 0])) [] (sA (.list hu) t f1 fl1 pc rg rows ld) [5] :=
 callTo_run [.r 5 (i_ 0) [] (sA (.list hu) t f fl pc rg rows ld) [],.d true,.r 8 (i_ c) [] (sA (.list hu) t f1 fl1 pc rg rows ld) [5],.r 5 (i_ 0) [] (sA (.list hu) t f1 fl1 pc rg rows ld) [],.d true] fn_make_record kok gok rfl ⟨rfl,rfl,rfl,rfl⟩
  ⟨by decide,hA2,hC,by decide,hA,True.intro⟩
end
section
variable {W:Wd KH}{n:Nat}{f:Int→Int}{fl rg rows ld:List U}{t pc:Int}
theorem fn_law_block:FnP W 526 ["wide"]:=fn_mk (by rfl) (by rfl) (by rfl) (fun _ _ _=>BindsTo.of_eq rfl) (by rfl) (by rfl) rfl rfl rfl
theorem c_law_block{w:Int}{S:List Cell}:CallTo W 1 526 [i_ w] S (i_ (bsz w)) [] S []:=by
 have e:bsz w=-(-(w+8) / 16) * 16:=by unfold bsz; exact Int.le_antisymm (lin [_,_,_,_,_] [] [753135399730582235492473381363,135201,38664760086782794179171,528417] 3474469494649089 14582750814180557231033349 rfl (dmA _ 16) (dmB _ 16 rfl) (dmA _ 16) (dmB _ 16 rfl)) (lin [_,_,_,_,_] [] [302068438348008530419,8486978,96401331165514526121274295100003,33947746] 3448170873024817 35077816714575269731568645 rfl (dmA _ 16) (dmC _ 16 rfl) (dmA _ 16) (dmC _ 16 rfl))
 rw [e]
 exact callTo_run [] fn_law_block kok gok rfl ⟨rfl,rfl,rfl,rfl⟩ ⟨.inr (by decide),⟨by decide,by decide⟩,True.intro⟩
structure Hd where
 ns:List Int
 p:Int
 f:Int
 s:Int
 hl:ns.length≤63
 h0:0≤p
 h1:p≤ns.length
noncomputable def Hd.u(h:Hd):List U:=[.lst (h.ns.map U.int),.int h.p,.int h.f,.int h.s]
noncomputable def Hd.c(h:Hd):Cell:=.list h.u
theorem pick(hd:Hd){R:List Cell}{k:Int}(h0:0 < k)(h1:k < 2 ^ 60):∃ d hd',CallTo W 1 497 [.s 0,i_ k] (Hd.c hd :: R) (i_ d) [] (Hd.c hd' :: R) []∧0≤d∧d < k:=by
 obtain ⟨d,p',f',s',c,a1,a2,a3,a4⟩:=c_pick (W:=W) (f:=hd.f) (s:=hd.s) (R:=R) h0 h1 hd.hl hd.h0 hd.h1
 exact ⟨d,⟨hd.ns,p',f',s',hd.hl,a3,a4⟩,c,a1,a2⟩
theorem fn_law_word:FnP W 509 ["hand","records"]:=fn_mk (by rfl) (by rfl) (by rfl) (fun _ _ _ _=>BindsTo.of_eq rfl) (by rfl) (by rfl) rfl rfl rfl
structure Ki where
 w:Int
 wd:Int
 os:List Int
noncomputable def encK(k:Ki):U:=.tup [.int k.w,.int k.wd,uI k.os]
noncomputable abbrev Rk:=Int × Ki
noncomputable def encRk(r:Rk):U:=.tup [.int r.1,encK r.2]
theorem at4{α:Type}{d:Int}(a b c e:α)(h0:0≤d)(h1:d < 4):∃ x,[a,b,c,e][d.toNat]?=some x∧(x=a∨x=b∨x=c∨x=e):=by
 have:d=0∨d=1∨d=2∨d=3:=by exact (Classical.em _).elim Or.inl fun z0=>Or.inr ((Classical.em _).elim Or.inl fun z1=>Or.inr ((Classical.em _).elim Or.inl fun z2=>Or.inr (Int.le_antisymm (lin [_] [] [270354] 204817 149058 rfl h1) ((Int.lt_or_gt_of_ne z0).elim (fun z3=>lin [_] [] [4129,8210] 102481 149058 rfl h0 z3) (fun z3=>(Int.lt_or_gt_of_ne z1).elim (fun z4=>lin [_] [] [4130,73746] 102481 149058 rfl z3 z4) (fun z4=>(Int.lt_or_gt_of_ne z2).elim (fun z5=>lin [_] [] [36930,139282] 102481 149058 rfl z4 z5) (fun z5=>lin [_] [] [69714] 102481 149058 rfl z5)))))))
 rcases this with rfl | rfl | rfl | rfl
 ·exact ⟨a,rfl,.inl rfl⟩
 ·exact ⟨b,rfl,.inr (.inl rfl)⟩
 ·exact ⟨c,rfl,.inr (.inr (.inl rfl))⟩
 ·exact ⟨e,rfl,.inr (.inr (.inr rfl))⟩
theorem at_map{α:Type}{g:α→U}{l:List α}{d:Int}(h0:0≤d)(h1:d < l.length):∃ x,x∈l∧(l.map g)[d.toNat]?=some (g x):=by
 have h:d.toNat < l.length:=by omega
 exact ⟨l[d.toNat],List.getElem_mem h,by rw [List.getElem?_map,List.getElem?_eq_getElem h]; rfl⟩
theorem c_law_word(hd:Hd){R:List Cell}{rs:List Rk}(hl:rs.length < 1000)(hr:∀ r∈rs,4≤r.1∧r.1 < 10000):∃ w hd',CallTo W 2 509 [.s 0,.u (.lst (rs.map encRk))] (hd.c :: R) (i_ w) [] (Hd.c hd' :: R) []∧0≤w∧w < 4294967296:=by
 by_cases q:rs=[]
 ·subst q
  obtain ⟨d,hd',c1,d0,d1⟩:=pick (W:=W) hd (R:=R) (k:=4) (by decide) (by decide)
  obtain ⟨x,e,hx⟩:=at4 (U.int 0) (.int 64) (.int 1100) (.int 4294967295) d0 d1
  have hw:∃ w,x=.int w∧0≤w∧w < 4294967296:=by rcases hx with rfl | rfl | rfl | rfl <;> exact ⟨_,rfl,by decide,by decide⟩
  obtain ⟨w,rfl,w0,w1⟩:=hw
  exact ⟨w,hd',callTo_run [.d true,.d true,.r 1 (i_ d) [] (hd'.c :: R) [],.a (.int w)] fn_law_word kok gok rfl ⟨rfl,rfl,rfl,rfl⟩ ⟨⟨d0,by exact lin [_,_] [] [270354,4835703278458516698923075] 65554 566498883 rfl d1 pI63,e⟩,c1,rfl,⟨rfl,rfl⟩,True.intro⟩,w0,w1⟩
 ·have hne:(rs.map encRk).length≠([]:List U).length:=by rw [List.length_map]; exact fun e=>q (List.length_eq_zero_iff.mp e)
  have hpos:=List.length_pos_iff.mpr q
  obtain ⟨d,hd1,c1,d0,d1⟩:=pick (W:=W) hd (R:=R) (k:=3) (by decide) (by decide)
  by_cases q2:d=2
  ·obtain ⟨d',hd',c2,d2,d3⟩:=pick (W:=W) hd1 (R:=R) (k:=4) (by decide) (by decide)
   obtain ⟨x,e,hx⟩:=at4 (U.int 0) (.int 64) (.int 1100) (.int 4294967295) d2 d3
   have hw:∃ w,x=.int w∧0≤w∧w < 4294967296:=by rcases hx with rfl | rfl | rfl | rfl <;> exact ⟨_,rfl,by decide,by decide⟩
   obtain ⟨w,rfl,w0,w1⟩:=hw
   exact ⟨w,hd',callTo_run [.d false,.d false,.r 1 (i_ d) [] (hd1.c :: R) [],.d true,.r 1 (i_ d') [] (hd'.c :: R) [],.a (.int w)] fn_law_word kok gok rfl ⟨rfl,rfl,rfl,rfl⟩ ⟨⟨d2,by exact lin [_,_] [] [270354,4835703278458516698923075] 65554 566498883 rfl d3 pI63,e⟩,c2,decide_eq_true q2,c1,rfl,hne,True.intro⟩,w0,w1⟩
  ·obtain ⟨d',hd2,c2,d2,d3⟩:=pick (W:=W) hd1 (R:=R) (k:=(rs.map encRk).length) (by rw [List.length_map]; exact lin [] [_] [4133] 102434 149058 rfl hpos) (by rw [List.length_map]; exact lin [_] [_] [65544213,75557863725914323427347] 24626 566498883 rfl hl pI60)
   rw [List.length_map] at d3
   obtain ⟨r,hm,e⟩:=at_map (g:=encRk) d2 d3
   have hr:=hr r hm
   obtain ⟨d4,hd',c3,d5,d6⟩:=pick (W:=W) hd2 (R:=R) (k:=4) (by decide) (by decide)
   obtain ⟨x,e2,hx⟩:=at4 (U.int 0) (.int 0) (.int 4) (.int (-4)) d5 d6
   have hw:∃ w,x=.int w∧0≤r.1+w∧r.1+w < 4294967296:=by rcases hx with rfl | rfl | rfl | rfl <;> exact ⟨_,rfl,by omega,by omega⟩
   obtain ⟨w,rfl,w0,w1⟩:=hw
   exact ⟨r.1+w,hd',callTo_run [.d false,.d false,.r 1 (i_ d) [] (hd1.c :: R) [],.d false,.r 1 (i_ d') [] (hd2.c :: R) [],.a (encRk r),.r 1 (i_ d4) [] (hd'.c :: R) [],.a (.int w)] fn_law_word kok gok rfl ⟨rfl,rfl,rfl,rfl⟩
    ⟨⟨d5,by exact lin [_,_] [] [270354,4835703278458516698923075] 65554 566498883 rfl d6 pI63,e2⟩,c3,⟨d2,by exact lin [_,_] [_] [65544213,49170,4835703278458516698923075] 65554 9175664971844 rfl hl d3 pI63,e⟩,c2,by rw [List.length_map]; exact lin [] [_,_] [65544213,4835703278458516698923078] 65557 566498883 rfl hl pN63,decide_eq_false q2,c1,rfl,hne,True.intro⟩,w0,w1⟩
end
section
variable {W:Wd KH}{n:Nat}{h:Cell}{f:Int→Int}{R:List Cell}{t:Int}
theorem comp_ok2{osc scope:Scope}{tg:Tg}{te it elt:Expr}{ifs:List Expr}{pos:Pos}{l:List (Str × V)}{S O S1 O1 S' O' O2:List Cell}{us res:List U}{v:V}{j:Nat}(w:Cm W n (relS scope osc) tg elt ifs (captL scope l) j us S1 O1 res S' O')(hj:O1.length=j)(hv:V.o O'.length=v)(hO:O'++[Cell.list res]=O2)(e:SrS W n osc it l S O us S1 O1)(hl:us.length≤sizeLine)(ht:tgOf te=some tg)(hc:compOk scope osc tg it=true):
  EvS W n osc (.ListComp elt [⟨te,it,ifs,0⟩] scope pos) l S O v S' O2:=by
 subst hj hv hO
 exact comp_ok e hl ht hc w
noncomputable def cParts:Expr→Expr × List Expr × Scope
 | .ListComp e (g :: _) sc _=>(e,g.ifs,sc)
 | e=>(e,[],default)
noncomputable def augE:Stmt→Expr
 | .AugAssign _ _ e _=>e
 | .Assign _ e _=>e
 | .If e _ _ _=>e
 | .Return (some e) _=>e
 | _=>default
noncomputable def subE:Expr→Expr
 | .Subscript e _ _=>e
 | .BoolOp _ (e :: _) _=>e
 | .Compare _ _ (e :: _) _=>e
 | _=>default
noncomputable def Cmp_(W:Wd KH)(n:Nat)(osc:Scope)(tg:Tg)(e:Expr):=Cm W n (relS (cParts e).2.2 osc) tg (cParts e).1 (cParts e).2.1
noncomputable def rcE(K:Frag):Expr:=augE (subS (stAt K 531 1) 0)
noncomputable abbrev inR(r:Rk)(w:Int):Prop:=r.1≤w∧w < r.1-8+bsz r.2.wd
noncomputable def newW(fs:List Int)(w:Int):List Rk→List Int
 | []=>[]
 | r :: rs=>if inR r w∧r.1 ∉ fs then r.1 :: newW fs w rs else newW fs w rs
theorem C_root{w:Int}{fs:List Int}{S:List Cell}:∀ rs:List Rk,Cmp_ W 2 (scopeOf W.K 531) (.many ["where","kind"]) (rcE W.K) [("found",.o 0),("word",i_ w)] 1 (rs.map encRk) S [intsC fs] ((newW fs w rs).map U.int) S [intsC fs]:=by
 intro rs
 induction rs with
 | nil=>exact .nil
 | cons r rs ih =>
  unfold newW
  by_cases q:inR r w∧r.1 ∉ fs
  ·rw [if_pos q,List.map_cons]
   exact .yes (lc:=[("found",.o 0),("word",i_ w),("where",i_ r.1),("kind",.u (encK r.2))]) rfl (ct_run [.d true,.r 1 (i_ (bsz r.2.wd)) [] S [],.d true,.is fs,.d true] kok gok ⟨rfl⟩ ⟨decide_eq_true q.2,rfl,decide_eq_true q.1.2,c_law_block,decide_eq_true q.1.1,True.intro⟩) rfl (Nat.le_refl _) ih
  ·rw [if_neg q,List.map_cons]
   refine .no (lc:=[("found",.o 0),("word",i_ w),("where",i_ r.1),("kind",.u (encK r.2))]) (S1:=S) (O1:=[intsC fs]) rfl ?_ rfl (Nat.le_refl _) ih
   by_cases q1:r.1≤w
   ·by_cases q2:w < r.1-8+bsz r.2.wd
    ·exact ct_run [.d true,.r 1 (i_ (bsz r.2.wd)) [] S [],.d true,.is fs,.d false] kok gok ⟨rfl⟩ ⟨decide_eq_false fun q3=>q ⟨⟨q1,q2⟩,q3⟩,rfl,decide_eq_true q2,c_law_block,decide_eq_true q1,True.intro⟩
    ·exact ct_run [.d true,.r 1 (i_ (bsz r.2.wd)) [] S [],.d false] kok gok ⟨rfl⟩ ⟨decide_eq_false q2,c_law_block,decide_eq_true q1,True.intro⟩
   ·exact ct_run [.d false] kok gok ⟨rfl⟩ ⟨decide_eq_false q1,True.intro⟩
theorem newW_len{fs:List Int}{w:Int}:∀ rs:List Rk,(newW fs w rs).length≤rs.length
 | []=>Nat.le_refl _
 | r :: rs=>by
  unfold newW
  split
  ·exact Nat.succ_le_succ (newW_len rs)
  ·exact Nat.le_succ_of_le (newW_len rs)
noncomputable def uR(rs:List Rk):V:=.u (.lst (rs.map encRk))
noncomputable def lX(rs:List Rk)(ws:List Int):List (Str × V):=[("machine",.s 1),("records",uR rs),("roots",.u (uI ws)),("found",.o 0)]
theorem intsC_app(a b:List Int):intsC (a++b)=.list (a.map U.int++b.map U.int):=by unfold intsC; rw [List.map_append]
theorem F_roots{rs:List Rk}{ws0:List Int}{S:List Cell}(hrs:rs.length < 1000):∀(ws fs:List Int),fs.length+1000 * ws.length≤1000000 →
  Fo W 2 (scopeOf W.K 531) (.one "word") (whB (stAt W.K 531 1)) 1 (ws.map U.int) ⟨lX rs ws0,S,[intsC fs]⟩ .next ⟨lX rs ws0,S,[intsC (ws.foldl (fun fs w=>fs++newW fs w rs) fs)]⟩:=by
 intro ws
 induction ws with
 | nil=>exact fun fs _=>.nil
 | cons w ws ih =>
  intro fs hl
  have hn:=newW_len (fs:=fs) (w:=w) rs
  rw [List.length_cons] at hl
  have ih:=ih (fs++newW fs w rs) (by rw [List.length_append]; exact lin [] [_,_,_,_] [65544213,2361183711838893324711895940,98388] 4722367386328504867844924308 19076094019 rfl hrs hl hn)
  have C:=C_root (W:=W) (w:=w) (fs:=fs) (S:=S) rs
  have hs:(fs.map U.int).length+((newW fs w rs).map U.int).length≤sizeLine:=by rw [List.length_map,List.length_map,sizeLine_eq]; exact lin [] [_,_,_,_] [65544213,2361183711838893324711895940,98388] 576460759886864708 166235104558327005131028553498165322 rfl hrs hl hn
  have hm:(rs.map encRk).length≤sizeLine:=by rw [List.length_map,sizeLine_eq]; exact lin [] [_] [65544213] 1099511635988 149058 rfl hrs
  rw [intsC_app] at ih
  rw [List.foldl_cons]
  generalize (newW fs w rs).map U.int=nw at *
  exact .go (fl:=.next) (a':=⟨lX rs ws0,S,[.list (fs.map U.int++nw)]⟩) (b:=⟨lX rs ws0++[(("word":Str),i_ w)],S,[.list (fs.map U.int++nw),.list nw]⟩) rfl
   (bo_run [.ev (.o 1) S [intsC fs,.list nw]] kok gok ⟨rfl⟩ ⟨hs,comp_ok2 C rfl rfl rfl (sr_u (ev_run [] kok gok ⟨rfl⟩ True.intro) rfl) hm rfl rfl,True.intro⟩) (.inl rfl) (less_of [(("word":Str),i_ w)] rfl rfl rfl rfl) (Nat.le_refl _) ih
noncomputable def kdE(K:Frag):Expr:=subE (augE (subS (stAt K 531 3) 0))
noncomputable def inS(K:Frag):Stmt:=subS (stAt K 531 3) 1
noncomputable def alE(K:Frag):Expr:=subE (subE (augE (subS (inS K) 1)))
noncomputable def kOf(rs:List Rk)(x:Int):List Ki:=(rs.filter fun r=>decide (r.1=x)).map (·.2)
theorem C_kind{a x:Int}{fs:List Int}{S:List Cell}(h0:0≤a)(h1:a < 2 ^ 63)(hx:(fs.map U.int)[a.toNat]?=some (.int x)):∀ rs:List Rk,Cmp_ W 2 (scopeOf W.K 531) (.one "entry") (kdE W.K) [("found",.o 0),("at",i_ a)] 1 (rs.map encRk) S [intsC fs] ((kOf rs x).map encK) S [intsC fs]:=by
 intro rs
 induction rs with
 | nil=>exact .nil
 | cons r rs ih =>
  unfold kOf
  rw [List.filter_cons]
  by_cases q:r.1=x
  ·rw [if_pos (decide_eq_true q)]
   exact .yes (lc:=[("found",.o 0),("at",i_ a),("entry",.u (encRk r))]) rfl (ct_run [.a (.int x),.d true] kok gok ⟨rfl⟩ ⟨decide_eq_true q,⟨h0,h1,hx⟩,True.intro⟩) rfl (Nat.le_refl _) ih
  ·rw [if_neg (by simpa using q)]
   exact .no (lc:=[("found",.o 0),("at",i_ a),("entry",.u (encRk r))]) (S1:=S) (O1:=[intsC fs]) rfl (ct_run [.a (.int x),.d false] kok gok ⟨rfl⟩ ⟨decide_eq_false q,⟨h0,h1,hx⟩,True.intro⟩) rfl (Nat.le_refl _) ih
noncomputable def fsts(rs:List Rk):List Int:=rs.map (·.1)
theorem C_all{fs:List Int}{S:List Cell}{kl:List U}:∀ rs:List Rk,Cmp_ W 2 (scopeOf W.K 531) (.one "entry") (alE W.K) [] 2 (rs.map encRk) S [intsC fs,.list kl] ((fsts rs).map U.int) S [intsC fs,.list kl]:=by
 intro rs
 induction rs with
 | nil=>exact .nil
 | cons r rs ih=>exact .yes (lc:=[("entry",.u (encRk r))]) rfl (ct_run [] kok gok ⟨rfl⟩ True.intro) rfl (Nat.le_refl _) ih
noncomputable def addT(rs:List Rk)(w:Int)(fs:List Int):List Int:=if w∈fsts rs∧w ∉ fs then fs++[w] else fs
noncomputable def lY(rs:List Rk)(ws:List Int)(a:Int)(k:Ki):List (Str × V):=lX rs ws++[(("at":Str),i_ a),(("kind":Str),V.u (encK k))]
theorem addT_len{rs:List Rk}{w:Int}{fs:List Int}:(addT rs w fs).length≤fs.length+1:=by
 unfold addT; split
 ·rw [List.length_append]; exact Nat.le_refl _
 ·exact Nat.le_succ _
theorem addT_get{rs:List Rk}{w x:Int}{fs:List Int}{a:Nat}(h:(fs.map U.int)[a]?=some (.int x)):((addT rs w fs).map U.int)[a]?=some (.int x):=by
 unfold addT; split
 ·rw [List.map_append,List.getElem?_append_left (List.getElem?_eq_some_iff.mp h).1]; exact h
 ·exact h
theorem F_spots{rs:List Rk}{ws:List Int}{a x:Int}{k:Ki}{kl:List U}(hrs:rs.length < 1000)(h0:0≤a)(h1:a < 2 ^ 63):∀(os fs:List Int),(fs.map U.int)[a.toNat]?=some (.int x)→(∀ o∈os,okA (x+o))→fs.length+os.length≤1000000 →
  Fo W 2 (scopeOf W.K 531) (.one "spot") (whB (inS W.K)) 2 (os.map U.int) ⟨lY rs ws a k,sM h (mA t) f R,[intsC fs,.list kl]⟩ .next ⟨lY rs ws a k,sM h (mA t) f R,[intsC (os.foldl (fun fs o=>addT rs (at_ f (x+o)) fs) fs),.list kl]⟩:=by
 intro os
 induction os with
 | nil=>exact fun fs _ _ _=>.nil
 | cons o os ih =>
  intro fs hx ho hl
  rw [List.length_cons] at hl
  have hn:=addT_len (rs:=rs) (w:=at_ f (x+o)) (fs:=fs)
  have ho0:=ho o (.head _)
  have ih:=ih (addT rs (at_ f (x+o)) fs) (addT_get hx) (fun o h=>ho o (.tail _ h)) (by exact lin [] [_,_,_] [70368758197007720948,4833214548] 34359744944841028 21370435 rfl hl hn)
  have C:=C_all (W:=W) (fs:=fs) (S:=sM h (mA t) f R) (kl:=kl) rs
  have c1:CallTo W 2 349 [.s 2,i_ (x+o)] (sM h (mA t) f R) (i_ (at_ f (x+o))) [] (sM h (mA t) f R) []:=c_word ho0.1 ho0.2
  have hm:(rs.map encRk).length≤sizeLine:=by rw [List.length_map,sizeLine_eq]; exact lin [] [_] [65544213] 1099511635988 149058 rfl hrs
  have hf:(fs.map U.int).length≤sizeLine:=by rw [List.length_map,sizeLine_eq]; exact lin [] [_,_] [70368758197007720948] 1099511635988 423746 rfl hl
  rw [List.foldl_cons]
  generalize at_ f (x+o)=w at *
  by_cases q1:w∈fsts rs
  ·by_cases q2:w∈fs
   ·have e:addT rs w fs=fs:=by unfold addT; rw [if_neg fun q=>q.2 q2]
    rw [e] at ih ⊢
    exact .go (fl:=.next) (a':=⟨lY rs ws a k,sM h (mA t) f R,[intsC fs,.list kl]⟩) (b:=⟨lY rs ws a k++[(("spot":Str),i_ o),(("word":Str),i_ w)],sM h (mA t) f R,[intsC fs,.list kl,.list ((fsts rs).map U.int)]⟩) rfl
     (bo_run [.a (.int x),.r 2 (i_ w) [] (sM h (mA t) f R) [],.ev (.o 2) (sM h (mA t) f R) [intsC fs,.list kl,.list ((fsts rs).map U.int)],.is (fsts rs),.d true,.is fs,.d false] kok gok ⟨rfl⟩
      ⟨decide_eq_false (fun q=>q q2),rfl,decide_eq_true q1,rfl,comp_ok2 C rfl rfl rfl (sr_u (ev_run [] kok gok ⟨rfl⟩ True.intro) rfl) hm rfl rfl,c1,⟨h0,h1,hx⟩,True.intro⟩) (.inl rfl) (less_of [(("spot":Str),i_ o),(("word":Str),i_ w)] rfl rfl rfl rfl) (Nat.le_refl _) ih
   ·have e:addT rs w fs=fs++[w]:=by unfold addT; rw [if_pos ⟨q1,q2⟩]
    rw [e] at ih ⊢
    rw [intsC_app] at ih
    exact .go (fl:=.next) (a':=⟨lY rs ws a k,sM h (mA t) f R,[.list (fs.map U.int++[U.int w]),.list kl]⟩) (b:=⟨lY rs ws a k++[(("spot":Str),i_ o),(("word":Str),i_ w)],sM h (mA t) f R,[.list (fs.map U.int++[U.int w]),.list kl,.list ((fsts rs).map U.int)]⟩) rfl
     (bo_run [.a (.int x),.r 2 (i_ w) [] (sM h (mA t) f R) [],.ev (.o 2) (sM h (mA t) f R) [intsC fs,.list kl,.list ((fsts rs).map U.int)],.is (fsts rs),.d true,.is fs,.d true] kok gok ⟨rfl⟩
      ⟨hf,decide_eq_true q2,rfl,decide_eq_true q1,rfl,comp_ok2 C rfl rfl rfl (sr_u (ev_run [] kok gok ⟨rfl⟩ True.intro) rfl) hm rfl rfl,c1,⟨h0,h1,hx⟩,True.intro⟩) (.inl rfl) (less_of [(("spot":Str),i_ o),(("word":Str),i_ w)] rfl rfl rfl rfl) (Nat.le_refl _) ih
  ·have e:addT rs w fs=fs:=by unfold addT; rw [if_neg fun q=>q1 q.1]
   rw [e] at ih ⊢
   exact .go (fl:=.next) (a':=⟨lY rs ws a k,sM h (mA t) f R,[intsC fs,.list kl]⟩) (b:=⟨lY rs ws a k++[(("spot":Str),i_ o),(("word":Str),i_ w)],sM h (mA t) f R,[intsC fs,.list kl,.list ((fsts rs).map U.int)]⟩) rfl
    (bo_run [.a (.int x),.r 2 (i_ w) [] (sM h (mA t) f R) [],.ev (.o 2) (sM h (mA t) f R) [intsC fs,.list kl,.list ((fsts rs).map U.int)],.is (fsts rs),.d false] kok gok ⟨rfl⟩
     ⟨decide_eq_false q1,rfl,comp_ok2 C rfl rfl rfl (sr_u (ev_run [] kok gok ⟨rfl⟩ True.intro) rfl) hm rfl rfl,c1,⟨h0,h1,hx⟩,True.intro⟩) (.inl rfl) (less_of [(("spot":Str),i_ o),(("word":Str),i_ w)] rfl rfl rfl rfl) (Nat.le_refl _) ih
end
section
variable {W:Wd KH}{n:Nat}{h:Cell}{f:Int→Int}{R:List Cell}{t:Int}
noncomputable def Bfs(rs:List Rk)(f:Int→Int)(k:Nat)(a:Int)(fs fs':List Int):Prop :=
 ∀ P:Nat→Int→List Int→Prop,(∀{k:Nat}{a:Int},(fs'.length:Int)≤a→P k a fs') →
  (∀{k:Nat}{a x:Int}{fs:List Int}{kd:Ki},0≤a→a < fs.length→(fs.map U.int)[a.toNat]?=some (.int x)→(kOf rs x)[0]?=some kd→(∀ o∈kd.os,okA (x+o))→fs.length≤1000→kd.os.length≤1000 →
   P k (a+1) (kd.os.foldl (fun fs o=>addT rs (at_ f (x+o)) fs) fs)→P (k+1) a fs)→P k a fs
theorem Bfs.stop{rs:List Rk}{f:Int→Int}{k:Nat}{a:Int}{fs:List Int}(h:(fs.length:Int)≤a):Bfs rs f k a fs fs:=fun _ s _=>s h
theorem Bfs.go{rs:List Rk}{f:Int→Int}{k:Nat}{a x:Int}{fs fs':List Int}{kd:Ki}(h1:0≤a)(h2:a < fs.length)(h3:(fs.map U.int)[a.toNat]?=some (.int x))(h4:(kOf rs x)[0]?=some kd)(h5:∀ o∈kd.os,okA (x+o))(h6:fs.length≤1000)(h7:kd.os.length≤1000)
  (w:Bfs rs f k (a+1) (kd.os.foldl (fun fs o=>addT rs (at_ f (x+o)) fs) fs) fs'):Bfs rs f (k+1) a fs fs':=fun P s g=>g h1 h2 h3 h4 h5 h6 h7 (w P s g)
noncomputable def lXa(rs:List Rk)(ws:List Int)(a:Int):List (Str × V):=lX rs ws++[(("at":Str),i_ a)]
theorem L_bfs{rs:List Rk}{ws:List Int}(hrs:rs.length < 1000){k:Nat}{a:Int}{fs fs':List Int}(b:Bfs rs f k a fs fs'):fs.length < 2 ^ 60→∃ a',Wh W 2 (scopeOf W.K 531) (whT (stAt W.K 531 3)) (whB (stAt W.K 531 3)) 1 k ⟨lXa rs ws a,sM h (mA t) f R,[intsC fs]⟩ .next ⟨lXa rs ws a',sM h (mA t) f R,[intsC fs']⟩:=by
 apply b
 ·intro k a h1 hl
  exact ⟨a,.stop (fl:=.next) (tu_run [.d false] kok gok ⟨rfl⟩ ⟨decide_eq_false (by rw [List.length_map]; exact fun z0=>lin [_] [_] [24625,49170] 0 149058 rfl h1 z0),by rw [List.length_map]; exact lin [] [_,_,_] [65557,604462909807314587451462,9671406556917033397846102] 131093 9072588378180 rfl hl pN60 pN63,True.intro⟩)⟩
 ·intro k a x fs kd h0 h1 hx hk ho hl2 hl3 ih hl
  have F:=F_spots (W:=W) (h:=h) (t:=t) (f:=f) (R:=R) (rs:=rs) (ws:=ws) (k:=kd) (kl:=(kOf rs x).map encK) hrs h0 (by exact lin [_,_] [_] [49170,65544212,4835703278458516698923075] 65554 379572473924 rfl h1 hl2 pI63) kd.os fs hx ho (by exact lin [] [_,_] [65544212,524386372] 2147484050694404 25499203 rfl hl2 hl3)
  have C:=C_kind (W:=W) (S:=sM h (mA t) f R) (fs:=fs) h0 (by exact lin [_,_] [_] [49170,65544212,4835703278458516698923075] 65554 379572473924 rfl h1 hl2 pI63) hx rs
  have hm:(rs.map encRk).length≤sizeLine:=by rw [List.length_map,sizeLine_eq]; exact lin [] [_] [65544213] 1099511635988 149058 rfl hrs
  have hk0:((kOf rs x).map encK)[(0:Int).toNat]?=some (encK kd):=by rw [List.getElem?_map]; show ((kOf rs x)[0]?).map encK=_; rw [hk]; rfl
  have d1:decide (a < (((fs.map U.int).length:Nat):Int))=true:=decide_eq_true (by rw [List.length_map]; exact h1)
  have d2:(fs.map U.int).length < 2 ^ 63:=by rw [List.length_map]; exact lin [] [_,_] [65544212,4835703278458516698923078] 65557 566498883 rfl hl2 pN63
  obtain ⟨a',ih⟩:=ih (by
   have:∀(os fs:List Int),(os.foldl (fun fs o=>addT rs (at_ f (x+o)) fs) fs).length≤fs.length+os.length:=fun os=>by
    induction os with
    | nil=>exact fun fs=>Nat.le_refl _
    | cons o os ih=>intro fs; have:=ih (addT rs (at_ f (x+o)) fs); have:=addT_len (rs:=rs) (w:=at_ f (x+o)) (fs:=fs); rw [List.foldl_cons,List.length_cons]; (rename_i q0; exact lin [] [_,_,_,_] [4429463572,41878716484] 334274486419476 25499203 rfl q0 this)
   have:=this kd.os fs
   exact lin [] [_,_,_,_] [65544212,524386372,4296343636,1208925819614629174935638] 3211349 2322513772696644 rfl hl2 hl3 this pN60)
  generalize (kOf rs x).map encK=kl at *
  generalize kd.os.foldl (fun fs o=>addT rs (at_ f (x+o)) fs) fs=fs2 at *
  exact ⟨a',.go (fl:=.next) (a':=⟨lXa rs ws (a+1),sM h (mA t) f R,[intsC fs2]⟩) (b:=⟨lXa rs ws (a+1)++[(("kind":Str),V.u (encK kd))],sM h (mA t) f R,[intsC fs2,.list kl]⟩)
   (tu_run [.d true,.ev (.o 1) (sM h (mA t) f R) [intsC fs,.list kl],.a (encK kd),.lp .next (lY rs ws a kd) (sM h (mA t) f R) [intsC fs2,.list kl] []] kok gok ⟨rfl⟩
    ⟨for_ok (sr_u (ev_run [] kok gok ⟨rfl⟩ True.intro) rfl) rfl rfl rfl F,⟨by decide,by decide,hk0⟩,comp_ok2 C rfl rfl rfl (sr_u (ev_run [] kok gok ⟨rfl⟩ True.intro) rfl) hm rfl rfl,d1,d2,True.intro⟩) (.inl rfl) (less_of [(("kind":Str),V.u (encK kd))] rfl rfl rfl rfl) (Nat.le_refl _) ih⟩
theorem fn_law_reached:FnP W 531 ["machine","records","roots"]:=fn_mk (by rfl) (by rfl) (by rfl) (fun _ _ _ _ _=>BindsTo.of_eq rfl) (by rfl) (by rfl) rfl rfl rfl
theorem c_law_reached{rs:List Rk}{ws fs:List Int}{k:Nat}(hrs:rs.length < 1000)(hws:ws.length≤1000)(hl:(ws.foldl (fun fs w=>fs++newW fs w rs) []).length < 2 ^ 60)(b:Bfs rs f k 0 (ws.foldl (fun fs w=>fs++newW fs w rs) []) fs):
  CallTo W 3 531 [.s 1,uR rs,.u (uI ws)] (sM h (mA t) f R) (.o 0) [intsC fs] (sM h (mA t) f R) []:=by
 have F:=F_roots (W:=W) (rs:=rs) (ws0:=ws) (S:=sM h (mA t) f R) hrs ws [] (by simp; exact lin [] [_] [65544212] 68719493714886996 316990021383443848630521428490 rfl hws)
 generalize ws.foldl (fun fs w=>fs++newW fs w rs) []=fs0 at *
 obtain ⟨a',L⟩:=L_bfs (W:=W) (h:=h) (t:=t) (R:=R) (ws:=ws) hrs b hl
 exact callTo_run [.lp .next (lX rs ws) (sM h (mA t) f R) [intsC fs0] [],.lp .next (lXa rs ws a') (sM h (mA t) f R) [intsC fs] []] fn_law_reached kok gok rfl ⟨rfl,rfl,rfl,rfl⟩
  ⟨wh_ok L,for_ok (O':=[intsC []]) (sr_u (ev_run [] kok gok ⟨rfl⟩ True.intro) rfl) rfl rfl rfl F,True.intro⟩
end
section
variable {W:Wd KH}{n:Nat}{h:Cell}{f:Int→Int}{R:List Cell}{fl:List U}{t:Int}
noncomputable def exprE:Stmt→Expr
 | .Expr e _=>e
 | _=>default
noncomputable def argE(i:Nat):Expr→Expr
 | .Call _ es _ _=>(es[i]?).getD default
 | .Tuple es _ _=>(es[i]?).getD default
 | _=>default
noncomputable def ifB:Stmt→List Stmt
 | .If _ b _ _=>b
 | _=>[]
noncomputable def seE(K:Frag):Expr:=argE 3 (argE 0 (exprE (((ifB (subS (stAt K 541 1) 0))[1]?).getD (.Pass default))))
noncomputable def wordsAt(f:Int→Int)(x w:Int):List Int:=(rngI 0 w 4).map fun o=>at_ f (x+o)
theorem C_seen{b:Int}{rw_:List U}{u:U}:∀ us:List Int,(∀ o∈us,okA (b+8+o))→Cmp_ W 5 (scopeOf W.K 541) (.one "spot") (seE W.K) [("machine",.s 1),("block",i_ b)] 2 (us.map U.int) (sM h (mA t) f R) [.list rw_,.fz u] ((us.map fun o=>at_ f (b+8+o)).map U.int) (sM h (mA t) f R) [.list rw_,.fz u]:=by
 intro us
 induction us with
 | nil=>exact fun _=>.nil
 | cons o us ih =>
  intro ho
  have ho0:=ho o (.head _)
  have c1:CallTo W 2 349 [.s 2,i_ (b+8+o)] (sM h (mA t) f R) (i_ (at_ f (b+8+o))) [] (sM h (mA t) f R) []:=c_word ho0.1 ho0.2
  exact .yes (lc:=[("machine",.s 1),("block",i_ b),("spot",i_ o)]) rfl (ct_run [.r 2 (i_ (at_ f (b+8+o))) [] (sM h (mA t) f R) []] kok gok ⟨rfl⟩ ⟨c1,True.intro⟩) rfl (Nat.le_refl _) (ih fun o h=>ho o (.tail _ h))
noncomputable def seenRow(f:Int→Int)(b s tg:Int):U:=.tup [.int b,.int s,.int tg,uI (wordsAt f (b+8) (at_ f tg))]
noncomputable def seenL(f:Int→Int):List Bk→List U
 | []=>[]
 | (b,s,d) :: r=>match d with
  | some tg=>seenRow f b s tg :: seenL f r
  | none=>seenL f r
noncomputable def lSe(rs:List Rk):List (Str × V):=[("machine",.s 1),("records",uR rs),("rows",.o 0)]
noncomputable def SeenOK(f:Int→Int)(p:Bk):Prop:=∀ tg,p.2.2=some tg→okA (p.1+4)∧at_ f (p.1+4)=0∧okA tg∧0≤at_ f tg∧at_ f tg < 1000∧∀ o∈rngI 0 (at_ f tg) 4,okA (p.1+8+o)
theorem F_seen{rs:List Rk}{u:U}:∀(bs:List Bk)(rw_:List U),(∀ p∈bs,SeenOK f p)→rw_.length+bs.length≤10000 →
  Fo W 5 (scopeOf W.K 541) (.many ["block","size_of","tag"]) (whB (stAt W.K 541 1)) 2 (bs.map encB) ⟨lSe rs,sH h (mA t) f fl R,[.list rw_,.fz u]⟩ .next ⟨lSe rs,sH h (mA t) f fl R,[.list (rw_++seenL f bs),.fz u]⟩:=by
 intro bs
 induction bs with
 | nil=>intro rw_ _ _; show Fo _ _ _ _ _ _ _ _ _ ⟨_,_,[.list (rw_++[]),_]⟩; rw [List.append_nil]; exact .nil
 | cons p bs ih =>
  intro rw_ ho hl
  obtain ⟨b,s,d⟩:=p
  have hp:=ho _ (.head _)
  have ho':∀ p∈bs,SeenOK f p:=fun p h=>ho p (.tail _ h)
  rw [List.length_cons] at hl
  cases d with
  | none =>
   have ih:=ih rw_ ho' (by exact lin [] [_,_] [703701461120360948] 21475239174404 149058 rfl hl)
   exact .go (fl:=.next) (a':=⟨lSe rs,sH h (mA t) f fl R,[.list rw_,.fz u]⟩) (b:=⟨lSe rs++[(("block":Str),i_ b),(("size_of":Str),i_ s),(("tag":Str),V.u .none)],sH h (mA t) f fl R,[.list rw_,.fz u]⟩) rfl
    (bo_run [.d false] kok gok ⟨rfl⟩ ⟨rfl,True.intro⟩) (.inl rfl) (less_of [(("block":Str),i_ b),(("size_of":Str),i_ s),(("tag":Str),V.u .none)] rfl rfl rfl rfl) (Nat.le_refl _) ih
  | some tg =>
   obtain ⟨h1,h2,h3,h4,h4',h5⟩:=hp tg rfl
   have h1:okA (b+4):=h1
   have h2:at_ f (b+4)=0:=h2
   have h5:∀ o∈rngI 0 (at_ f tg) 4,okA (b+8+o):=h5
   have ih:=ih (rw_++[seenRow f b s tg]) ho' (by rw [List.length_append,List.length_singleton]; exact lin [] [_,_] [703701461120360948] 703700945238237684 149058 rfl hl)
   rw [List.append_assoc] at ih
   have C:=C_seen (W:=W) (h:=h) (t:=t) (f:=f) (R:=heapA :: .list fl :: R) (b:=b) (rw_:=rw_) (u:=u) _ h5
   have c1:CallTo W 2 349 [.s 2,i_ (b+4)] (sH h (mA t) f fl R) (i_ 0) [] (sH h (mA t) f fl R) []:=by rw [← h2]; exact c_word h1.1 h1.2
   have c2:CallTo W 2 349 [.s 2,i_ tg] (sH h (mA t) f fl R) (i_ (at_ f tg)) [] (sH h (mA t) f fl R) []:=c_word h3.1 h3.2
   have hs:Builtin.Range.small 0 (at_ f tg) 4=true:=small_of (by decide) (by exact ⟨lin [_,_] [] [4129,604462909807314587451459] 282738 566498883 rfl h4 pI60,lin [_,_] [] [65544210,604462909807314587451459] 65554 566498883 rfl h4' pI60⟩) (by decide)
   have hr:((rngI 0 (at_ f tg) 4).map U.int)=rangeU 0 (at_ f tg) 4:=(rangeU_eq _ _ _).symm
   have hz:((rngI 0 (at_ f tg) 4).map U.int).length≤sizeLine:=by
    rw [sizeLine_eq,List.length_map]
    unfold rngI
    rw [List.length_map,List.length_range]
    unfold Builtin.Range.rangeSize
    rw [if_pos (by decide)]
    split <;> omega
   have e0:seenL f ((b,s,some tg) :: bs)=seenRow f b s tg :: seenL f bs:=rfl
   rw [e0]
   unfold seenRow wordsAt uI at *
   generalize ((rngI 0 (at_ f tg) 4).map fun o=>at_ f (b+8+o)).map U.int=wl at *
   generalize (rngI 0 (at_ f tg) 4).map U.int=us at *
   exact .go (fl:=.next) (a':=⟨lSe rs,sH h (mA t) f fl R,[.list (rw_++[U.tup [.int b,.int s,.int tg,.lst wl]]),.fz u]⟩) (b:=⟨lSe rs++[(("block":Str),i_ b),(("size_of":Str),i_ s),(("tag":Str),i_ tg)],sH h (mA t) f fl R,[.list (rw_++[U.tup [.int b,.int s,.int tg,.lst wl]]),.fz u,.fz (.lst wl)]⟩) rfl
    (bo_run [.d true,.r 2 (i_ 0) [] (sH h (mA t) f fl R) [],.d false,.ev (.o 2) (sH h (mA t) f fl R) [.list rw_,.fz u,.list wl]] kok gok ⟨rfl⟩
     ⟨by rw [sizeLine_eq]; exact lin [] [_,_] [703701461120360948] 1099511635988 423746 rfl hl,comp_ok2 C rfl rfl rfl (sr_u (u:=.rng 0 (at_ f tg) 4) (ev_run [.r 2 (i_ (at_ f tg)) [] (sH h (mA t) f fl R) []] kok gok ⟨rfl⟩ ⟨⟨by decide,by decide⟩,c2,True.intro⟩) ⟨hs,hr⟩) hz rfl rfl,by decide,c1,rfl,True.intro⟩) (.inl rfl) (less_of [(("block":Str),i_ b),(("size_of":Str),i_ s),(("tag":Str),i_ tg)] rfl rfl rfl rfl) (Nat.le_refl _) ih
theorem fn_law_seen:FnP W 541 ["machine","records"]:=fn_mk (by rfl) (by rfl) (by rfl) (fun _ _ _ _=>BindsTo.of_eq rfl) (by rfl) (by rfl) rfl rfl rfl
theorem c_law_seen{rs:List Rk}{bs:List Bk}(hb:HB f 1088 bs)(ho:∀ p∈bs,SeenOK f p)(hl:bs.length≤900):CallTo W 6 541 [.s 1,uR rs] (sH h (mA t) f fl R) (.o 0) [.list (seenL f bs)] (sH h (mA t) f fl R) []:=by
 have F:=F_seen (W:=W) (h:=h) (t:=t) (fl:=fl) (R:=R) (rs:=rs) (u:=.lst (bs.map encB)) bs [] ho (by simp; exact lin [] [_] [58990612] 655368212 149058 rfl hl)
 have c1:=c_blocks (W:=W) (h:=h) (ma:=mA t) (fl:=fl) (R:=R) (bs:=bs) (by rw [sizeLine_eq]; exact lin [] [_] [58990612] 1099511635988 149058 rfl hl) hb
 exact callTo_run [.lp .next (lSe rs) (sH h (mA t) f fl R) [.list (seenL f bs),.fz (.lst (bs.map encB))] []] fn_law_seen kok gok rfl ⟨rfl,rfl,rfl,rfl⟩
  ⟨for_ok (us:=bs.map encB) (sr_o (ev_run [.r 5 (.o 0) [.list (bs.map encB)] (sH h (mA t) f fl R) []] kok gok ⟨rfl⟩ ⟨c1,True.intro⟩) rfl rfl) rfl rfl rfl F,True.intro⟩
end
section
variable {W:Wd KH}{n:Nat}{h:Cell}{f:Int→Int}{R:List Cell}{t:Int}
noncomputable def keE(K:Frag):Expr:=augE (stAt K 536 0)
noncomputable def keO(K:Frag):Scope:=relS (cParts (keE K)).2.2 (scopeOf K 536)
noncomputable def keI(K:Frag):Expr:=argE 3 (cParts (keE K)).1
theorem C_kin{x:Int}{u:U}:∀ us:List Int,(∀ o∈us,okA (x+o))→Cmp_ W 2 (keO W.K) (.one "spot") (keI W.K) [("machine",.s 1),("where",i_ x)] 1 (us.map U.int) (sM h (mA t) f R) [.fz u] ((us.map fun o=>at_ f (x+o)).map U.int) (sM h (mA t) f R) [.fz u]:=by
 intro us
 induction us with
 | nil=>exact fun _=>.nil
 | cons o us ih =>
  intro ho
  have ho0:=ho o (.head _)
  have c1:CallTo W 2 349 [.s 2,i_ (x+o)] (sM h (mA t) f R) (i_ (at_ f (x+o))) [] (sM h (mA t) f R) []:=c_word ho0.1 ho0.2
  exact .yes (lc:=[("machine",.s 1),("where",i_ x),("spot",i_ o)]) rfl (ct_run [.r 2 (i_ (at_ f (x+o))) [] (sM h (mA t) f R) []] kok gok ⟨rfl⟩ ⟨c1,True.intro⟩) rfl (Nat.le_refl _) (ih fun o h=>ho o (.tail _ h))
noncomputable def keptRow(f:Int→Int)(r:Rk):U:=.tup [.int (r.1-8),.int (bsz r.2.wd),.int r.2.w,uI (wordsAt f r.1 r.2.wd)]
noncomputable def keptL(f:Int→Int)(fs:List Int):List Rk→List U
 | []=>[]
 | r :: rs=>if r.1∈fs then keptRow f r :: keptL f fs rs else keptL f fs rs
noncomputable def RkOK(r:Rk):Prop:=0≤r.2.wd∧r.2.wd < 1000∧∀ o∈rngI 0 r.2.wd 4,okA (r.1+o)
theorem rng_len{a b:Int}(h0:0≤a)(h1:b < 1000):((rngI a b 4).map U.int).length≤sizeLine:=by
 rw [sizeLine_eq,List.length_map]
 unfold rngI
 rw [List.length_map,List.length_range]
 unfold Builtin.Range.rangeSize
 rw [if_pos (by decide)]
 split <;> omega
theorem C_kept{fs:List Int}{u:U}:∀ rs:List Rk,(∀ r∈rs,RkOK r)→Cmp_ W 2 (scopeOf W.K 536) (.many ["where","kind"]) (keE W.K) [("machine",.s 1),("found",.u (uI fs))] 1 (rs.map encRk) (sM h (mA t) f R) [.fz u] (keptL f fs rs) (sM h (mA t) f R) [.fz u]:=by
 intro rs
 induction rs with
 | nil=>exact fun _=>.nil
 | cons r rs ih =>
  intro ho
  obtain ⟨h0,h1,h2⟩:=ho r (.head _)
  have ih:=ih fun r h=>ho r (.tail _ h)
  unfold keptL
  by_cases q:r.1∈fs
  ·rw [if_pos q]
   have C:=C_kin (W:=W) (h:=h) (t:=t) (f:=f) (R:=R) (u:=u) _ h2
   have hs:Builtin.Range.small 0 r.2.wd 4=true:=small_of (by decide) (by exact ⟨lin [_,_] [] [4129,604462909807314587451459] 282738 566498883 rfl h0 pI60,lin [_,_] [] [65544210,604462909807314587451459] 65554 566498883 rfl h1 pI60⟩) (by decide)
   have hr:((rngI 0 r.2.wd 4).map U.int)=rangeU 0 r.2.wd 4:=(rangeU_eq _ _ _).symm
   have hz:=rng_len (a:=0) (by decide) h1
   unfold keptRow wordsAt uI
   generalize ((rngI 0 r.2.wd 4).map fun o=>at_ f (r.1+o)).map U.int=wl at *
   generalize (rngI 0 r.2.wd 4).map U.int=us at *
   exact .yes (lc:=[("machine",.s 1),("found",.u (uI fs)),("where",i_ r.1),("kind",.u (encK r.2))]) rfl
    (ct_run [.is fs,.d true,.r 1 (i_ (bsz r.2.wd)) [] (sM h (mA t) f R) [],.ev (.o 1) (sM h (mA t) f R) [.fz u,.list wl]] kok gok ⟨rfl⟩
     ⟨comp_ok2 C rfl rfl rfl (sr_u (u:=.rng 0 r.2.wd 4) (ev_run [] kok gok ⟨rfl⟩ ⟨⟨by decide,by decide⟩,True.intro⟩) ⟨hs,hr⟩) hz rfl rfl,c_law_block,decide_eq_true q,rfl,True.intro⟩) rfl (Nat.le_succ 1) ih
  ·rw [if_neg q]
   exact .no (lc:=[("machine",.s 1),("found",.u (uI fs)),("where",i_ r.1),("kind",.u (encK r.2))]) (S1:=sM h (mA t) f R) (O1:=[.fz u]) rfl (ct_run [.is fs,.d false] kok gok ⟨rfl⟩ ⟨decide_eq_false q,rfl,True.intro⟩) rfl (Nat.le_refl _) ih
theorem fn_law_kept:FnP W 536 ["machine","records","found"]:=fn_mk (by rfl) (by rfl) (by rfl) (fun _ _ _ _ _=>BindsTo.of_eq rfl) (by rfl) (by rfl) rfl rfl rfl
theorem c_law_kept{rs:List Rk}{fs:List Int}(hs:SortC (rs.map encRk) (rs.map encRk))(hl:rs.length < 1000)(ho:∀ r∈rs,RkOK r):CallTo W 3 536 [.s 1,uR rs,.u (uI fs)] (sM h (mA t) f R) (.o 1) [.fz (.lst (rs.map encRk)),.list (keptL f fs rs)] (sM h (mA t) f R) []:=by
 have C:=C_kept (W:=W) (h:=h) (t:=t) (f:=f) (R:=R) (fs:=fs) (u:=.lst (rs.map encRk)) rs ho
 have hm:(rs.map encRk).length≤sizeLine:=by rw [List.length_map,sizeLine_eq]; exact lin [] [_] [65544213] 1099511635988 149058 rfl hl
 exact callTo_run [.ev (.o 1) (sM h (mA t) f R) [.fz (.lst (rs.map encRk)),.list (keptL f fs rs)]] fn_law_kept kok gok rfl ⟨rfl,rfl,rfl,rfl⟩
  ⟨comp_ok2 C rfl rfl rfl (sr_o (ev_run [.us (rs.map encRk)] kok gok ⟨rfl⟩ ⟨hs,True.intro⟩) rfl rfl) hm rfl rfl,True.intro⟩
end
section
theorem at_put_eq{f:Int→Int}{a v:Int}:at_ (put f a v) a=v%4294967296:=if_pos rfl
theorem at_put_i{f:Int→Int}{a v:Int}(h0:0≤v)(h1:v < 4294967296):at_ (put f a v) a=v:=at_put_eq.trans (Int.emod_eq_of_lt h0 h1)
theorem at_put_ne{f:Int→Int}{a b v:Int}(h:b / 4≠a / 4):at_ (put f a v) b=at_ f b:=if_neg h
theorem div_ne{a b:Int}(ha:a%4=0)(hb:b%4=0)(h:b≠a):b / 4≠a / 4:=by exact fun z0=>(Int.lt_or_gt_of_ne h).elim (fun z1=>lin [_,_,_,_,_,_] [] [8211,98371,3211347,10616930,179289350316515,2289252164018723] 0 54570991865369264542925793541 rfl ha hb z0 z1 (dmA _ 4) (dmA _ 4)) (fun z1=>lin [_,_,_,_,_,_] [] [8211,98371,3211347,10616930,144104978227683,2852202117440035] 0 54566156157483628001178495237 rfl ha hb z0 z1 (dmA _ 4) (dmA _ 4))
theorem at_put_n{f:Int→Int}{a b v:Int}(ha:a%4=0)(hb:b%4=0)(h:b≠a):at_ (put f a v) b=at_ f b:=at_put_ne (div_ne ha hb h)
noncomputable def wrI(f:Int→Int)(w:Int):Int→List Int→Int→Int
 | _,[]=>f
 | i,x :: l=>wrI (put f (w+4 * i) x) w (i+1) l
theorem wrI_out{w b:Int}(hw:w%4=0)(hb:b%4=0):∀(l:List Int)(f:Int→Int)(i:Int),(b < w+4 * i∨w+4 * (i+l.length)≤b)→at_ (wrI f w i l) b=at_ f b
 | [],f,i,_=>rfl
 | x :: l,f,i,h=>by
  rw [List.length_cons] at h
  exact (wrI_out hw hb l (put f (w+4 * i) x) (i+1) (by exact (Classical.em _).elim Or.inl fun z0=>Or.inr (h.elim (fun z1=>lin [_,_,_] [_] [2738375498068672536,72575418122258] 31138293504951177061361 149058 rfl z0 z1) (fun z1=>lin [_,_,_] [_] [78214974004747791541185] 39725082545501042156465 149058 rfl z1)))).trans (at_put_n (by exact Int.le_antisymm (lin [_,_,_,_,_,_] [] [8211,36352838672851,12240899667770275116196419,8781922] 393313 49128355079546559906686749562307281494277 rfl hw (dmA _ 4) (dmA _ 4) (dmC _ 4 rfl)) (lin [_] [] [4129] 4129 149058 rfl (dmB _ 4 rfl))) hb (by exact fun z0=>h.elim (fun z1=>lin [_,_,_] [] [72575418122259,72575418122258] 0 8721475 rfl z0 z1) (fun z1=>lin [_,_,_] [_] [72575418122259,42513764403057682162689] 0 3377203647747 rfl z0 z1)))
theorem wrI_in{w:Int}(hw:w%4=0):∀(l:List Int)(f:Int→Int)(i:Int)(j:Nat)(x:Int),l[j]?=some x→0≤x→x < 4294967296→at_ (wrI f w i l) (w+4 * (i+j))=x
 | [],_,_,_,_,e,_,_=>by cases e
 | y :: l,f,i,0,x,e,h0,h1=>by
  have e:y=x:=Option.some.inj e
  subst e
  rw [show w+4 * (i+(0:Nat))=w+4 * i by exact Int.le_antisymm (lin [_,_] [] [] 82223485588250581348164305 449 rfl ) (lin [_,_] [] [] 140245578182475147601027553 449 rfl )]
  exact (wrI_out hw (by exact Int.le_antisymm (lin [_,_,_,_,_,_] [] [8211,36352838672851,12240899667770275116196419,8781922] 393313 49128355079546559906686749562307281494277 rfl hw (dmA _ 4) (dmA _ 4) (dmC _ 4 rfl)) (lin [_] [] [4129] 4129 149058 rfl (dmB _ 4 rfl))) l (put f (w+4 * i) y) (i+1) (by exact Or.inl (lin [_,_] [] [] 91888545397889980612780514 449 rfl ))).trans (at_put_i h0 h1)
 | y :: l,f,i,j+1,x,e,h0,h1=>by
  have:=wrI_in hw l (put f (w+4 * i) y) (i+1) j x e h0 h1
  rw [show w+4 * (i+((j+1:Nat):Int))=w+4 * (i+1+j) by exact Int.le_antisymm (lin [_,_] [_] [] 2243758973110132848942370666572970763201 449 rfl ) (lin [_,_] [_] [] 1531719790289500386600869689157207761841 449 rfl )]
  exact this
noncomputable def ups(i:Int):Nat→List Int
 | 0=>[]
 | k+1=>i :: ups (i+1) k
theorem ups_eq:∀(k:Nat)(i:Int),ups i k=(List.range k).map fun j:Nat=>i+j * 1
 | 0,_=>rfl
 | k+1,i=>by
  rw [List.range_succ_eq_map,List.map_cons,List.map_map,ups,ups_eq k (i+1)]
  congr 1
  ·simp
  ·apply List.map_congr_left
   intro j _
   simp only [Function.comp]
   exact Int.le_antisymm (lin [_] [_] [] 356631004560720638921390170801 449 rfl ) (lin [_] [_] [] 495403899716297024931918553793 449 rfl )
theorem rng_ups(n:Nat):rngI 0 n 1=ups 0 n:=by
 rw [ups_eq]
 unfold rngI
 have:(Builtin.Range.rangeSize 0 (n:Int) 1).toNat=n:=by
  unfold Builtin.Range.rangeSize
  rw [if_pos (by decide)]
  split <;> omega
 rw [this]
end
section
variable {W:Wd KH}{n:Nat}{f:Int→Int}{fl rg rows ld:List U}{t pc:Int}
noncomputable def wB(K:Frag):Stmt:=stAt K 502 2
noncomputable def lW:List (Str × V):=[("hand",.s 0),("machine",.s 1),("kinds",.o 0)]
noncomputable def lWa(a wd w:Int):List (Str × V):=lW++[(("at":Str),i_ a),(("wide":Str),i_ wd),(("offsets":Str),V.o 1),(("where":Str),i_ w),(("row":Str),V.o 5)]
theorem F_row{h:Cell}{a wd w:Int}{L:List Int}{Lu u0 u1 u2 u3 u4:List U}(hL:Lu=L.map U.int)(hw0:0≤w)(hw:w+4 * L.length < 3664):∀(suf pre:List Int)(f:Int→Int),L=pre++suf →
  Fo W 8 (scopeOf W.K 502) (.one "spot") (whB (subS (wB W.K) 4)) 6 ((ups pre.length suf.length).map U.int) ⟨lWa a wd w,sA h t f fl pc rg rows ld,[.list u0,.list u1,.list u2,.list u3,.list u4,.list Lu]⟩ .next ⟨lWa a wd w,sA h t (wrI f w pre.length suf) fl pc rg rows ld,[.list u0,.list u1,.list u2,.list u3,.list u4,.list Lu]⟩:=by
 intro suf
 induction suf with
 | nil=>exact fun pre f _=>.nil
 | cons x suf ih =>
  intro pre f e
  have ih:=ih (pre++[x]) (put f (w+4 * pre.length) x) (by rw [e,List.append_assoc]; rfl)
  rw [List.length_append,List.length_singleton,Int.natCast_add,Int.natCast_one] at ih
  have hl:L.length=pre.length+(suf.length+1):=by rw [e,List.length_append,List.length_cons]
  have hx:Lu[((pre.length:Nat):Int).toNat]?=some (.int x):=by
   rw [hL,e,Int.toNat_natCast,List.getElem?_map,List.getElem?_append_right (Nat.le_refl _),Nat.sub_self]; rfl
  have hp:w+4 * (pre.length:Int) < 3664:=by exact lin [_] [_,_,_] [64461755866194386,167137176207382] 1031378878402175506 2329566419992726788 rfl hw hl
  have hp0:0≤(pre.length:Int):=Int.natCast_nonneg _
  have hp1:(pre.length:Int) < 2 ^ 63:=by exact lin [_,_] [_] [4129,64461755866194386,4835703278458516698923075] 286770 2907179440213608708 rfl hw0 hp pI63
  show Fo _ _ _ _ _ _ (((pre.length:Int) :: ups _ _).map U.int) _ _ _
  clear hL e hl
  generalize (pre.length:Int)=i at *
  exact .go (fl:=.next) (a':=⟨lWa a wd w,sA h t (put f (w+4 * i) x) fl pc rg rows ld,[.list u0,.list u1,.list u2,.list u3,.list u4,.list Lu]⟩) (b:=⟨lWa a wd w++[(("spot":Str),i_ i)],sA h t (put f (w+4 * i) x) fl pc rg rows ld,[.list u0,.list u1,.list u2,.list u3,.list u4,.list Lu]⟩) rfl
   (bo_run [.a (.int x),.r 2 (.u .none) [] (sA h t (put f (w+4 * i) x) fl pc rg rows ld) []] kok gok ⟨rfl⟩ ⟨c_put_word (by exact lin [_,_] [] [4129,135201] 9347728052257 3385801839875 rfl hw0 hp0) hp,⟨hp0,hp1,hx⟩,.inl (by decide),True.intro⟩) (.inl rfl) (less_of [(("spot":Str),i_ i)] rfl rfl rfl rfl) (Nat.le_refl _) ih
noncomputable def ofE(K:Frag):Expr:=augE (subS (wB K) 1)
theorem C_offs{u:List U}:∀(us:List Int)(hd:Hd),∃ (l:List Int) (hd':Hd),l.Sublist us∧Cmp_ W 8 (scopeOf W.K 502) (.one "spot") (ofE W.K) [("hand",.s 0)] 1 (us.map U.int) (sA hd.c t f fl pc rg rows ld) [.list u] ((l.map (4 * ·)).map U.int) (sA (Hd.c hd') t f fl pc rg rows ld) [.list u]:=by
 intro us
 induction us with
 | nil=>exact fun hd=>⟨[],hd,.slnil,.nil⟩
 | cons x us ih =>
  intro hd
  obtain ⟨d,hd1,c1,d0,d1⟩:=pick (W:=W) hd (R:=(sA hd.c t f fl pc rg rows ld).tail) (k:=2) (by decide) (by decide)
  obtain ⟨l,hd',hs,C⟩:=ih hd1
  by_cases q:d=0
  ·exact ⟨x :: l,hd',hs.cons_cons x,.yes (lc:=[("hand",.s 0),("spot",i_ x)]) rfl (ct_run [.r 1 (i_ d) [] (sA hd1.c t f fl pc rg rows ld) [],.d true] kok gok ⟨rfl⟩ ⟨.inl (by decide),decide_eq_true q,c1,True.intro⟩) rfl (Nat.le_refl _) C⟩
  ·exact ⟨l,hd',hs.cons x,.no (lc:=[("hand",.s 0),("spot",i_ x)]) (S1:=sA hd1.c t f fl pc rg rows ld) (O1:=[.list u]) rfl (ct_run [.r 1 (i_ d) [] (sA hd1.c t f fl pc rg rows ld) [],.d false] kok gok ⟨rfl⟩ ⟨decide_eq_false q,c1,True.intro⟩) rfl (Nat.le_refl _) C⟩
theorem acomp_ok2{osc scope:Scope}{tg:Tg}{te it elt:Expr}{ifs:List Expr}{pos spos p:Pos}{x:Str}{l l2:List (Str × V)}{S O S1 O1 S' O' O2:List Cell}{us res:List U}{j:Nat}(w:Cm W n (relS scope osc) tg elt ifs (captL scope l) j us S1 O1 res S' O')(hj:O1.length=j)(hv:lput l x (.o O'.length)=l2)(hO:O'++[Cell.list res]=O2)(e:SrS W n osc it l S O us S1 O1)(hl:us.length≤sizeLine)(ht:tgOf te=some tg)(hc:compOk scope osc tg it=true)
  (hsw:(osc.kind==.function&&osc.names.lookup x==some .local&&p.line==pos.line&&!(scope.names.any fun (n,k)=>n==x&&(k==.local||k==.cell)))=true) (hd:(x=="__debug__")=false) (hcd:(x=="__classdict__")=false) :
  ExS W n osc (.Assign [.Name x p] (.ListComp elt [⟨te,it,ifs,0⟩] scope pos) spos) l S O .next l2 S' O2 []:=by
 subst hj hv hO
 exact acomp_ok e hl ht hc hsw hd hcd w
noncomputable def rowI(k:Ki):List Int:=[k.wd,0,0,0,0]++(k.os++[4294967295])
structure KdB(k:Ki):Prop where
 w0:0≤k.wd
 w1:k.wd≤20
 w4:k.wd%4=0
 ol:k.os.length≤5
 os:∀ o∈k.os,0≤o∧o < k.wd∧o%4=0
theorem ups_mem{x:Int}:∀(k:Nat)(i:Int),x∈ups i k→i≤x∧x < i+k
 | 0,i,h=>nomatch h
 | k+1,i,h=>by
  rcases List.mem_cons.mp h with rfl | h
  ·exact ⟨lin [_] [] [] 17 449 rfl ,lin [_] [_] [] 9898490413074 83522 rfl ⟩
  ·have:=ups_mem k (i+1) h; exact ⟨lin [_,_] [] [2298519809] 65553 149058 rfl this.1,lin [_,_] [_] [57999810052114] 79188057145362 149058 rfl this.2⟩
theorem ups_len:∀(k:Nat)(i:Int),(ups i k).length=k
 | 0,i=>rfl
 | k+1,i=>by rw [ups,List.length_cons,ups_len]
noncomputable abbrev u5(d:Int):List U:=[.int (4 * d),.int 0,.int 0,.int 0,.int 0]
noncomputable abbrev uE:List U:=[.int 4294967295]
theorem L_kind(hd:Hd){a:Int}{us:List U}(ht:0≤t)(ht2:t≤1000)(hus:us.length < 1000):∃ (k:Ki) (hd':Hd) (ex:List (Str × V)) (u1 u2 u3 u4 u5:Cell),k.w=t∧KdB k∧BoS W 8 (scopeOf W.K 502) (whB (wB W.K)) ⟨lW++[(("at":Str),i_ a)],sA hd.c t f fl pc rg rows ld,[.list us]⟩ .next
  ⟨lW++((("at":Str),i_ a) :: ex),sA hd'.c (t+64) (wrI f t 0 (rowI k)) fl pc rg rows ld,[.list (us++[encK k]),u1,u2,u3,u4,u5]⟩:=by
 obtain ⟨d,hd1,c1,d0,d1⟩:=pick (W:=W) hd (R:=(sA hd.c t f fl pc rg rows ld).tail) (k:=6) (by decide) (by decide)
 have hwd:4 * d / 4=d:=by exact Int.le_antisymm (lin [_,_,_] [] [594537891930513875,135201] 131089 9104266594633988 rfl (dmA _ 4) (dmB _ 4 rfl)) (lin [_,_,_] [] [594537891930513875,2195522] 65617 9104266728851716 rfl (dmA _ 4) (dmC _ 4 rfl))
 have hn:(d:Int)=(d.toNat:Int):=by omega
 obtain ⟨l,hd2,hs,C⟩:=C_offs (W:=W) (t:=t) (f:=f) (fl:=fl) (pc:=pc) (rg:=rg) (rows:=rows) (ld:=ld) (u:=us) (ups 0 d.toNat) hd1
 have hos:∀ o∈l.map (4 * ·),0≤o∧o < 4 * d∧o%4=0:=fun o ho=>by
  obtain ⟨x,hx,rfl⟩:=List.mem_map.mp ho
  have:=ups_mem _ _ (hs.subset hx)
  show 0≤4 * x∧4 * x < 4 * d∧4 * x%4=0
  exact ⟨lin [_] [] [4129] 134680609 35454784259 rfl this.1,⟨lin [_,_] [_] [49171,3356655682] 8826728333602 2357697808188676 rfl hn this.2,Int.le_antisymm (lin [_,_,_] [] [594537891930513875,2195522] 98369 190670755247105448102148 rfl (dmA _ 4) (dmC _ 4 rfl)) (lin [_] [] [4129] 4129 149058 rfl (dmB _ 4 rfl))⟩⟩
 have hol:(l.map (4 * ·)).length≤5:=by
  have:=hs.length_le
  rw [ups_len] at this
  rw [List.length_map]; exact lin [_] [_,_] [401426,49171,32836] 2719812 17868546658372 rfl d1 hn this
 generalize l.map (4 * ·)=os at *
 have hit:(ups 0 d.toNat).map U.int=rangeU 0 (4 * d / 4) 1:=by rw [rangeU_eq,hwd,hn,rng_ups]; rfl
 have hsm:Builtin.Range.small 0 (4 * d / 4) 1=true:=small_of (by decide) (by exact ⟨lin [_,_,_] [_] [65555,426051,1208925819614629174902867] 544898 2366631540184132 rfl hwd hn pI60,lin [_,_,_] [] [401426,32835,1208925819614629174902867] 1081410 9072588378180 rfl d1 hwd pI60⟩) (by decide)
 have hul:((ups 0 d.toNat).map U.int).length≤sizeLine:=by rw [List.length_map,ups_len,sizeLine_eq]; exact lin [_] [_] [401426,49171] 1099511635988 554112579 rfl d1 hn
 have c2:CallTo W 2 413 [.s 1,i_ 64] (sA hd2.c t f fl pc rg rows ld) (i_ t) [] (sA hd2.c (t+64) f fl pc rg rows ld) []:=c_add_data (by decide) (by show t+64≤1088; exact lin [_] [] [65544209] 149559367999841 149058 rfl ht2)
 have hLu:((u5 d++os.map U.int)++uE)=(rowI ⟨t,4 * d,os⟩).map U.int:=by unfold rowI; rw [List.map_append,List.map_append,List.append_assoc]; rfl
 have hLl:(rowI ⟨t,4 * d,os⟩).length=os.length+6:=by unfold rowI; rw [List.length_append,List.length_append]; simp only [List.length_cons,List.length_nil]; exact Nat.le_antisymm (lin [] [_] [] 136599263533300018395842780231528028918163284 449 rfl ) (lin [] [_] [] 103165450396076518208522002937762232500527396 449 rfl )
 have F:=F_row (W:=W) (h:=hd2.c) (t:=t+64) (fl:=fl) (pc:=pc) (rg:=rg) (rows:=rows) (ld:=ld) (a:=a) (wd:=4 * d) (w:=t) (u0:=us) (u1:=os.map U.int) (u2:=u5 d) (u3:=u5 d++os.map U.int) (u4:=uE) hLu ht (by rw [hLl]; exact lin [_] [_] [65544209,335892] 16898235408811143766770 3385793582339 rfl ht2 hol) (rowI ⟨t,4 * d,os⟩) [] f rfl
 have hz:((ups 0 (rowI ⟨t,4 * d,os⟩).length).map U.int)=rangeU 0 (((u5 d++os.map U.int)++uE).length:Nat) 1:=by rw [rangeU_eq,rng_ups,hLu,List.length_map]
 have hsm2:Builtin.Range.small 0 (((u5 d++os.map U.int)++uE).length:Nat) 1=true:=small_of (by decide) (by rw [hLu,List.length_map,hLl]; exact ⟨lin [_] [_] [75557863725914323427347] 52616187954 293901891 rfl pI60,lin [_] [_] [335892,75557863725914323427347] 6577021266 566498883 rfl hol pI60⟩) (by decide)
 have hl3:((u5 d++os.map U.int)++uE).length < 2 ^ 63:=by rw [hLu,List.length_map,hLl]; exact lin [] [_,_] [335892,4835703278458516698923078] 9412059429 566498883 rfl hol pN63
 have hl1:(u5 d).length+(os.map U.int).length≤sizeLine:=by rw [List.length_map,sizeLine_eq]; simp only [List.length_cons,List.length_nil]; exact lin [] [_] [335892] 170141185488709771639101659647977104772 149058 rfl hol
 have hl2:(u5 d++os.map U.int).length+uE.length≤sizeLine:=by rw [List.length_append,List.length_map,sizeLine_eq]; simp only [List.length_cons,List.length_nil]; exact lin [] [_] [335892] 45671926703647114850894440094965354862767515460 149058 rfl hol
 have hus2:us.length≤sizeLine:=by rw [sizeLine_eq]; exact lin [] [_] [65544213] 1099511635988 149058 rfl hus
 refine ⟨⟨t,4 * d,os⟩,hd2,[(("wide":Str),i_ (4 * d)),(("offsets":Str),V.o 1),(("where":Str),i_ t),(("row":Str),V.o 5)],.fz (uI os),.list (u5 d),.list (u5 d++os.map U.int),.list uE,.list ((u5 d++os.map U.int)++uE),rfl,⟨by dsimp only; exact lin [_] [] [4129] 134680609 35454784259 rfl d0,by dsimp only; exact lin [_] [] [401426] 10838196449 35454784259 rfl d1,by dsimp only; exact Int.le_antisymm (lin [_,_,_] [] [65555,612614962602779107] 196689 38929452100 rfl hwd (dmA _ 4)) (lin [_] [] [4129] 4129 149058 rfl (dmB _ 4 rfl)),hol,hos⟩,?_⟩
 generalize wrI f t 0 (rowI ⟨t,4 * d,os⟩)=f2 at *
 exact bo_run [.r 1 (i_ d) [] (sA hd1.c t f fl pc rg rows ld) [],.la (lW++[(("at":Str),i_ a),(("wide":Str),i_ (4 * d)),(("offsets":Str),V.o 1)]) (sA hd2.c t f fl pc rg rows ld) [.list us,.list (os.map U.int)] [],.r 2 (i_ t) [] (sA hd2.c (t+64) f fl pc rg rows ld) [],
   .lp .next (lWa a (4 * d) t) (sA hd2.c (t+64) f2 fl pc rg rows ld) [.list us,.list (os.map U.int),.list (u5 d),.list (u5 d++os.map U.int),.list uE,.list ((u5 d++os.map U.int)++uE)] []] kok gok ⟨rfl⟩
  ⟨hus2,for_ok (sr_u (ev_run [] kok gok ⟨rfl⟩ ⟨hl3,True.intro⟩) ⟨hsm2,hz⟩) rfl rfl rfl F,hl2,⟨by decide,by decide⟩,hl1,c2,
  acomp_ok2 C rfl rfl rfl (sr_u (ev_run [] kok gok ⟨rfl⟩ ⟨⟨by decide,by decide⟩,True.intro⟩) ⟨hsm,hit⟩) hul rfl rfl rfl rfl rfl,.inl (by decide),c1,True.intro⟩
end
section
theorem bsz_b{w:Int}(h0:0≤w)(h1:w≤20):bsz w=16∧w≤8∨bsz w=32∧8 < w:=by unfold bsz; omega
structure KiOK(f:Int→Int)(k:Ki):Prop where
 b:KdB k
 a0:64≤k.w
 a1:k.w≤192
 a4:k.w%16=0
 d0:at_ f k.w=k.wd
 ds:∀(j:Nat)(o:Int),k.os[j]?=some o→at_ f (k.w+20+4 * j)=o
 de:at_ f (k.w+20+4 * k.os.length)=4294967295
theorem KiOK.cong{f f':Int→Int}{k:Ki}(h:KiOK f k)(e:∀ a,a%4=0→k.w≤a→a < k.w+44→at_ f' a=at_ f a):KiOK f' k:=by
 have h4:k.w%4=0:=by have:=h.a4; exact Int.le_antisymm (lin [_,_,_,_,_] [] [8211,145410782536179,4647704605598275,8781922] 393313 49128355079546559906686749562307281494277 rfl this (dmA _ 16) (dmA _ 4) (dmC _ 4 rfl)) (lin [_] [] [4129] 4129 149058 rfl (dmB _ 4 rfl))
 have hl:=h.b.ol
 refine ⟨h.b,h.a0,h.a1,h.a4,(e _ h4 (Int.le_refl _) (by exact lin [_] [] [] 11844796434 449 rfl )).trans h.d0,fun j o ho=>?_,?_⟩
 ·have:=(List.getElem?_eq_some_iff.mp ho).1
  exact (e _ (by exact Int.le_antisymm (lin [_,_,_,_,_] [_] [8211,36352838672851,1030243013390792035080025514563,8781922] 393313 49128355079546559906686749562307281494277 rfl h4 (dmA _ 4) (dmA _ 4) (dmC _ 4 rfl)) (lin [_] [] [4129] 4129 149058 rfl (dmB _ 4 rfl))) (by exact lin [_] [_] [] 1874001090200223761 18409067267 rfl ) (by exact lin [_] [_,_] [335892,32837] 26672120523061075217359682 87801860867 rfl hl this)).trans (h.ds j o ho)
 ·exact (e _ (by exact Int.le_antisymm (lin [_,_,_,_,_] [_] [8211,36352838672851,1030243013390792035080025514563,8781922] 393313 49128355079546559906686749562307281494277 rfl h4 (dmA _ 4) (dmA _ 4) (dmC _ 4 rfl)) (lin [_] [] [4129] 4129 149058 rfl (dmB _ 4 rfl))) (by exact lin [_] [_] [] 1874001090200223761 18409067267 rfl ) (by exact lin [_] [_] [335892] 1667007834668575929017090 35454784259 rfl hl)).trans h.de
structure KsI(ks:List Ki)(f:Int→Int):Prop where
 k:∀ k∈ks,KiOK f k∧k.w+64≤64+64 * ks.length
 n:ks.length≤3
 z:∀ a,a%4=0→64+64 * (ks.length:Int)≤a→at_ f a=at_ mem0 a
theorem KsI.nil:KsI [] mem0:=⟨(fun _ h=>nomatch h),by decide,fun _ _ _=>rfl⟩
theorem rowI_len(k:Ki):(rowI k).length=k.os.length+6:=by unfold rowI; rw [List.length_append,List.length_append]; simp only [List.length_cons,List.length_nil]; exact Nat.le_antisymm (lin [] [_] [] 136599263533300018395842780231528028918163284 449 rfl ) (lin [] [_] [] 103165450396076518208522002937762232500527396 449 rfl )
theorem KsI.push{ks:List Ki}{f:Int→Int}{k:Ki}(h:KsI ks f)(hl:ks.length≤2)(hw:k.w=64+64 * ks.length)(hb:KdB k):KsI (ks++[k]) (wrI f k.w 0 (rowI k)):=by
 have h4:k.w%4=0:=by exact Int.le_antisymm (lin [_,_,_] [_] [29274436977442835,36352838672931,4390994] 196689 17466901880707660517741186308 rfl hw (dmA _ 4) (dmC _ 4 rfl)) (lin [_] [] [4129] 4129 149058 rfl (dmB _ 4 rfl))
 have hol:=hb.ol
 have hrl:=rowI_len k
 have out:∀ a,a%4=0→(a < k.w∨k.w+64≤a)→at_ (wrI f k.w 0 (rowI k)) a=at_ f a:=fun a ha hr=>wrI_out h4 ha _ _ _ (by rw [hrl]; exact (Classical.em _).elim Or.inl fun z0=>Or.inr (hr.elim (fun z1=>lin [_,_] [_] [6604720455704,65554] 28926048490133775328241 149058 rfl z0 z1) (fun z1=>lin [_,_] [_] [335892,146045706593] 41394687924223875261377 3368617907459 rfl hol z1)))
 have inn:∀(j:Nat)(x:Int),(rowI k)[j]?=some x→0≤x→x < 4294967296→at_ (wrI f k.w 0 (rowI k)) (k.w+4 * j)=x:=fun j x e h0 h1=>by
  have:=wrI_in h4 (rowI k) f 0 j x e h0 h1
  rwa [Int.zero_add] at this
 refine ⟨fun k' hk'=>?_,by rw [List.length_append]; exact Nat.succ_le_succ hl,fun a ha hr=>?_⟩
 ·rw [List.length_append,List.length_singleton]
  rcases List.mem_append.mp hk' with hk' | hk'
  ·have g:=h.k k' hk'
   exact ⟨g.1.cong fun a ha h1 h2=>out a ha (by exact Or.inl (lin [_,_,_] [_] [29274436977442835,491143552449014172623249,1518275461202] 65618 17971357438020 rfl hw g.2 h2)),by exact lin [_] [_] [61392944056126763213153] 2786182059973420888520434017 149058 rfl g.2⟩
  ·rw [List.mem_singleton.mp hk']
   refine ⟨⟨hb,by exact lin [_] [_] [29274436977442835] 2101409 58104592185067976621314055 rfl hw,by exact lin [_] [_] [139284,29274436977442835] 12591121 77446815003091684979396615 rfl hl hw,by exact Int.le_antisymm (lin [_,_,_] [_] [29274436977442835,145410782536259,16973906] 196689 36457715534445283827492605407599621 rfl hw (dmA _ 16) (dmC _ 16 rfl)) (lin [_] [] [4129] 4129 149058 rfl (dmB _ 16 rfl)),?_,fun j o ho=>?_,?_⟩,by exact lin [_] [_] [29274436977442835] 2786182059973420888520434017 8655939 rfl hw⟩
   ·have:=inn 0 k.wd rfl hb.w0 (by have:=hb.w1; exact lin [_] [] [1318929] 281474976718866 149058 rfl this)
    rwa [show k.w+4 * ((0:Nat):Int)=k.w by exact Int.le_antisymm (lin [_] [] [] 3986199454177 449 rfl ) (lin [_] [] [] 7972398907409 449 rfl )] at this
   ·have e:(rowI k)[j+5]?=some o:=by
     show (k.os++[4294967295])[j]?=some o
     rw [List.getElem?_append_left (List.getElem?_eq_some_iff.mp ho).1]; exact ho
    have hoo:=hb.os o (List.mem_of_getElem? ho)
    have:=inn (j+5) o e hoo.1 (by have:=hb.w1; exact lin [_,_] [] [65554,10584129] 281474976718866 25499203 rfl hoo.2.1 this)
    rwa [show k.w+4 * ((j+5:Nat):Int)=k.w+20+4 * j by exact Int.le_antisymm (lin [_] [_] [] 131871103304963352392536940389105 449 rfl ) (lin [_] [_] [] 103954041964290925245782070797057 449 rfl )] at this
   ·have e:(rowI k)[k.os.length+5]?=some 4294967295:=by
     show (k.os++[4294967295])[k.os.length]?=_
     rw [List.getElem?_append_right (Nat.le_refl _),Nat.sub_self]; rfl
    have:=inn _ _ e (by decide) (by decide)
    rwa [show k.w+4 * ((k.os.length+5:Nat):Int)=k.w+20+4 * k.os.length by exact Int.le_antisymm (lin [_] [_] [] 131871103304963352392536940389105 449 rfl ) (lin [_] [_] [] 103954041964290925245782070797057 449 rfl )] at this
 ·rw [List.length_append,List.length_singleton] at hr
  rw [out a ha (by exact Or.inr (lin [_,_] [_] [29274436977442835,10109010533596417827745] 146045706593 29759043 rfl hw hr))]
  exact h.z a ha (by exact lin [_] [_] [664277567857127400353] 14637218488722081 149058 rfl hr)
noncomputable def Cons(ks:List Ki):Int→List Rk→Int→Prop
 | a,[],e=>a=e
 | a,r :: rs,e=>r.1=a+8∧r.2∈ks∧Cons ks (a+bsz r.2.wd) rs e
noncomputable def Tgt(rs:List Rk)(x:Int):Prop:=x=0∨x=12∨x=2000∨x∈fsts rs
structure WI(ks:List Ki)(rs:List Rk)(f:Int→Int)(e t:Int):Prop where
 ko:∀ k∈ks,KiOK f k∧k.w+64≤t
 co:Cons ks 1088 rs e
 n:rs.length≤9
 tg:∀ r∈rs,at_ f (r.1-8)=r.2.w∧at_ f (r.1-4)=0
 wd:∀ r∈rs,∀ o,o%4=0→0≤o→o < r.2.wd→Tgt rs (at_ f (r.1+o))
 h0:at_ f e=1601-e
 h4:at_ f (e+4)=0
 z:∀ a,a%4=0→t≤a→a < 1088→at_ f a=0
theorem Cons.ks{ks:List Ki}:∀{rs:List Rk}{a e:Int},Cons ks a rs e→∀ r∈rs,r.2∈ks
 | r :: rs,a,e,⟨_,h,c⟩,r',hr=>by
  rcases List.mem_cons.mp hr with rfl | hr
  ·exact h
  ·exact c.ks r' hr
theorem Cons.at{ks:List Ki}(hk:∀ k∈ks,KdB k):∀{rs:List Rk}{a e:Int},Cons ks a rs e→a%16=0→e%16=0∧a≤e∧e≤a+32 * rs.length∧∀ r∈rs,a+8≤r.1∧r.1-8+bsz r.2.wd≤e∧r.1%16=8
 | [],a,e,h,ha=>by
  have h:a=e:=h
  subst h
  exact ⟨ha,Int.le_refl _,by simp,(fun _ h=>nomatch h)⟩
 | r :: rs,a,e,⟨h1,h2,c⟩,ha=>by
  have hb:=hk _ h2
  have b:=bsz_b hb.w0 hb.w1
  have g:=c.at hk (by exact Int.le_antisymm (b.elim (fun z0=>lin [_,_,_,_,_,_] [] [8211,8486979,431283805790723,1291368085994160726643,33980514] 426081 62943945980766184564549972577774762128545229829 rfl ha z0.1 (dmA _ 16) (dmA _ 16) (dmC _ 16 rfl)) (fun z0=>lin [_,_,_,_,_,_] [] [8211,16875587,431283805790723,1291368085994160726643,33980514] 426081 62943945980766184564549972577774762128545229829 rfl ha z0.1 (dmA _ 16) (dmA _ 16) (dmC _ 16 rfl))) (lin [_] [] [4129] 4129 149058 rfl (dmB _ 16 rfl)))
  refine ⟨g.1,by exact b.elim (fun z0=>lin [_,_,_] [] [4429226241,8486979] 131089 554112579 rfl g.2.1 z0.1) (fun z0=>lin [_,_,_] [] [4429226241,16875587] 131089 554112579 rfl g.2.1 z0.1),by rw [List.length_cons]; exact b.elim (fun z0=>lin [_,_,_] [_] [14988903425106001937,16973907] 10379337003740446737 285677123 rfl g.2.2.1 z0.1) (fun z0=>lin [_,_,_] [_] [14988903425106001937,33751123] 10379337003740446737 285677123 rfl g.2.2.1 z0.1),fun r' hr=>?_⟩
  rcases List.mem_cons.mp hr with rfl | hr
  ·exact ⟨lin [_,_] [] [17582800915] 8791400801 8721475 rfl h1,⟨lin [_,_,_,_] [] [17582800915,105293947201] 3450301940605489 29759043 rfl h1 g.2.1,Int.le_antisymm (lin [_,_,_,_,_,_] [] [8211,281323143235,294944363946499,19439640826815091,33980514] 17203297 62943945970147932418243849155311423915619855365 rfl ha h1 (dmA _ 16) (dmA _ 16) (dmC _ 16 rfl)) (lin [_,_,_,_,_,_] [] [8211,281323143235,294944363946499,19439640826815091,659489] 21237873 62943945964836207656408559425872785905559874565 rfl ha h1 (dmA _ 16) (dmA _ 16) (dmB _ 16 rfl))⟩⟩
  ·have:=g.2.2.2 r' hr; exact ⟨b.elim (fun z0=>lin [_,_,_] [] [1161908997071393,8486979] 35450298673 554112579 rfl this.1 z0.1) (fun z0=>lin [_,_,_] [] [1161908997071393,16875587] 35450298673 554112579 rfl this.1 z0.1),⟨lin [_,_,_] [] [1163317754831393] 1163317754831393 149058 rfl this.2.1,Int.le_antisymm (lin [_] [] [532499] 532497 8655939 rfl this.2.2) (lin [_] [] [532499] 266353 8721475 rfl this.2.2)⟩⟩
theorem Cons.apart{ks:List Ki}(hk:∀ k∈ks,KdB k):∀{rs:List Rk}{a e:Int},Cons ks a rs e→a%16=0→∀ r∈rs,∀ r'∈rs,r=r'∨r.1+bsz r.2.wd≤r'.1∨r'.1+bsz r'.2.wd≤r.1
 | r0 :: rs,a,e,⟨h1,h2,c⟩,ha,r,hr,r',hr'=>by
  have hb:=hk _ h2
  have b:=bsz_b hb.w0 hb.w1
  have g:=(c.at hk (by exact Int.le_antisymm (b.elim (fun z0=>lin [_,_,_,_,_,_] [] [8211,8486979,431283805790723,1291368085994160726643,33980514] 426081 62943945980766184564549972577774762128545229829 rfl ha z0.1 (dmA _ 16) (dmA _ 16) (dmC _ 16 rfl)) (fun z0=>lin [_,_,_,_,_,_] [] [8211,16875587,431283805790723,1291368085994160726643,33980514] 426081 62943945980766184564549972577774762128545229829 rfl ha z0.1 (dmA _ 16) (dmA _ 16) (dmC _ 16 rfl))) (lin [_] [] [4129] 4129 149058 rfl (dmB _ 16 rfl)))).2.2.2
  rcases List.mem_cons.mp hr with q1 | q1 <;> rcases List.mem_cons.mp hr' with q2 | q2
  ·exact .inl (q1.trans q2.symm)
  ·have:=g r' q2; subst q1; exact .inr (.inl (by exact lin [_,_,_,_] [] [17582800915,27597879582007905] 13153378577 29759043 rfl h1 this.1))
  ·have:=g r q1; subst q2; exact .inr (.inr (by exact lin [_,_,_,_] [] [17582800915,27597879582007905] 13153378577 29759043 rfl h1 this.1))
  ·exact c.apart hk (by exact Int.le_antisymm (b.elim (fun z0=>lin [_,_,_,_,_,_] [] [8211,8486979,431283805790723,1291368085994160726643,33980514] 426081 62943945980766184564549972577774762128545229829 rfl ha z0.1 (dmA _ 16) (dmA _ 16) (dmC _ 16 rfl)) (fun z0=>lin [_,_,_,_,_,_] [] [8211,16875587,431283805790723,1291368085994160726643,33980514] 426081 62943945980766184564549972577774762128545229829 rfl ha z0.1 (dmA _ 16) (dmA _ 16) (dmC _ 16 rfl))) (lin [_] [] [4129] 4129 149058 rfl (dmB _ 16 rfl))) r q1 r' q2
theorem Cons.snoc{ks:List Ki}{r:Rk}(h2:r.2∈ks):∀{rs:List Rk}{a e:Int},Cons ks a rs e→r.1=e+8→Cons ks a (rs++[r]) (e+bsz r.2.wd)
 | [],a,e,h,h1=>by
  have h:a=e:=h
  subst h
  exact ⟨h1,h2,rfl⟩
 | r0 :: rs,a,e,⟨g1,g2,c⟩,h1=>⟨g1,g2,c.snoc h2 h1⟩
end
section
theorem mem_rng{x a b:Int}:x∈rngI a b 4↔a≤x∧x < b∧(x-a)%4=0:=by
 unfold rngI
 rw [List.mem_map]
 have hs:(Builtin.Range.rangeSize a b 4).toNat=if a < b then ((b-a-1) / 4+1).toNat else 0:=by
  unfold Builtin.Range.rangeSize
  rw [if_pos (by decide)]
  split <;> rfl
 rw [hs]
 constructor
 ·rintro ⟨k,hk,rfl⟩
  rw [List.mem_range] at hk
  split at hk <;> omega
 ·rintro ⟨h1,h2,h3⟩
  refine ⟨((x-a) / 4).toNat,List.mem_range.mpr ?_,by omega⟩
  rw [if_pos (by exact lin [_,_,_] [] [65553,1081410] 131090 25499203 rfl h1 h2)]
  omega
theorem at_zer{b:Int}(hb:b%4=0):∀(l:List Int)(f:Int→Int),(∀ k∈l,k%4=0)→at_ (zer f l) b=if b∈l then 0 else at_ f b
 | [],f,_=>(if_neg List.not_mem_nil).symm
 | a :: l,f,h=>by
  have:=at_zer hb l (put f a 0) fun k hk=>h k (.tail _ hk)
  show at_ (zer (put f a 0) l) b=_
  rw [this]
  by_cases q:b∈l
  ·rw [if_pos q,if_pos (.tail _ q)]
  ·rw [if_neg q]
   by_cases q2:b=a
   ·subst q2; rw [at_put_i (by decide) (by decide),if_pos (.head _)]
   ·rw [at_put_n (h a (.head _)) hb q2,if_neg fun z=>(List.mem_cons.mp z).elim q2 q]
noncomputable def alF(f:Int→Int)(c s d q x:Int):Int→Int:=zer (put (put (put f (c+s) (q+1)) (c+s+4) x) c d) (rngI (c+4) (c+s) 4)
structure AlF(f f':Int→Int)(c s d q x:Int):Prop where
 tag:at_ f' c=d
 zero:∀ a,a%4=0→c+4≤a→a < c+s→at_ f' a=0
 rest:at_ f' (c+s)=q+1
 next:at_ f' (c+s+4)=x
 out:∀ a,a%4=0→(a < c∨c+s+8≤a)→at_ f' a=at_ f a
theorem alF_ok{f:Int→Int}{c s d q x:Int}(hc:c%4=0)(hs:s%4=0)(hs0:4≤s)(hd:0≤d∧d < 4294967296)(hq:0≤q+1∧q+1 < 4294967296)(hx:0≤x∧x < 4294967296):AlF f (alF f c s d q x) c s d q x:=by
 have hl:∀ k∈rngI (c+4) (c+s) 4,k%4=0:=fun k hk=>by have:=(mem_rng.mp hk).2.2; exact Int.le_antisymm (lin [_,_,_,_,_,_,_,_] [] [8211,98371,107821094511075,40802032711712324167803443,23017245370884691,8880226] 491617 77985824560292404452244409730081235264417669440418053 rfl hc this (dmA _ 4) (dmA _ 4) (dmA _ 4) (dmC _ 4 rfl)) (lin [_] [] [4129] 4129 149058 rfl (dmB _ 4 rfl))
 have no:∀ a,¬ (c+4≤a∧a < c+s)→a ∉ rngI (c+4) (c+s) 4:=fun a h m=>h ⟨(mem_rng.mp m).1,(mem_rng.mp m).2.1⟩
 unfold alF
 refine ⟨?_,fun a ha h1 h2=>?_,?_,?_,fun a ha h=>?_⟩
 ·rw [at_zer hc _ _ hl,if_neg (no _ (by exact fun z0=>lin [_] [] [553689377] 0 449 rfl z0.1)),at_put_i hd.1 hd.2]
 ·rw [at_zer ha _ _ hl,if_pos (mem_rng.mpr ⟨h1,h2,by exact Int.le_antisymm (lin [_,_,_,_,_,_,_,_] [] [8211,98371,107821094511075,5704335279923763,163208130847049200922403411,8880226] 491617 77985824526868487986554023060444853437904970248696069 rfl hc ha (dmA _ 4) (dmA _ 4) (dmA _ 4) (dmC _ 4 rfl)) (lin [_] [] [4129] 4129 149058 rfl (dmB _ 4 rfl))⟩)]
 ·rw [at_zer (by exact Int.le_antisymm (lin [_,_,_,_,_,_,_,_] [] [8211,98371,107821094511075,5704335279923763,1503433785152606184019,8880226] 491617 77985824526868493298273709341573517420103513459994885 rfl hc hs (dmA _ 4) (dmA _ 4) (dmA _ 4) (dmC _ 4 rfl)) (lin [_] [] [4129] 4129 149058 rfl (dmB _ 4 rfl))) _ _ hl,if_neg (no _ (by exact fun z0=>lin [_,_] [] [8798911635714] 0 449 rfl z0.2)),at_put_n hc (by exact Int.le_antisymm (lin [_,_,_,_,_,_,_,_] [] [8211,98371,107821094511075,5704335279923763,1503433785152606184019,8880226] 491617 77985824526868493298273709341573517420103513459994885 rfl hc hs (dmA _ 4) (dmA _ 4) (dmA _ 4) (dmC _ 4 rfl)) (lin [_] [] [4129] 4129 149058 rfl (dmB _ 4 rfl))) (by exact fun z0=>lin [_,_] [] [135265,1140990195] 0 149058 rfl hs0 z0),at_put_n (by exact Int.le_antisymm (lin [_,_,_,_,_,_,_,_] [] [8211,98371,107821094511075,5704335279923763,162657239659369592171143763,8880226] 491617 77985824526868493298273709341573517420103513459994885 rfl hc hs (dmA _ 4) (dmA _ 4) (dmA _ 4) (dmC _ 4 rfl)) (lin [_] [] [4129] 4129 149058 rfl (dmB _ 4 rfl))) (by exact Int.le_antisymm (lin [_,_,_,_,_,_,_,_] [] [8211,98371,107821094511075,5704335279923763,1503433785152606184019,8880226] 491617 77985824526868493298273709341573517420103513459994885 rfl hc hs (dmA _ 4) (dmA _ 4) (dmA _ 4) (dmC _ 4 rfl)) (lin [_] [] [4129] 4129 149058 rfl (dmB _ 4 rfl))) (by exact fun z0=>lin [_,_] [] [1206970232724300035] 0 9538 rfl z0),at_put_i hq.1 hq.2]
 ·rw [at_zer (by exact Int.le_antisymm (lin [_,_,_,_,_,_,_,_] [] [8211,98371,107821094511075,5704335279923763,162657239659369592171143763,8880226] 491617 77985824526868493298273709341573517420103513459994885 rfl hc hs (dmA _ 4) (dmA _ 4) (dmA _ 4) (dmC _ 4 rfl)) (lin [_] [] [4129] 4129 149058 rfl (dmB _ 4 rfl))) _ _ hl,if_neg (no _ (by exact fun z0=>lin [_,_] [] [1153291765231919634] 0 449 rfl z0.2)),at_put_n hc (by exact Int.le_antisymm (lin [_,_,_,_,_,_,_,_] [] [8211,98371,107821094511075,5704335279923763,162657239659369592171143763,8880226] 491617 77985824526868493298273709341573517420103513459994885 rfl hc hs (dmA _ 4) (dmA _ 4) (dmA _ 4) (dmC _ 4 rfl)) (lin [_] [] [4129] 4129 149058 rfl (dmB _ 4 rfl))) (by exact fun z0=>lin [_,_] [] [135265,149946183950851] 0 149058 rfl hs0 z0),at_put_i hx.1 hx.2]
 ·rw [at_zer ha _ _ hl,if_neg (no _ (by exact fun z0=>h.elim (fun z1=>lin [_,_] [] [9143623969,32834] 0 149058 rfl z0.1 z1) (fun z1=>lin [_,_,_] [] [4429463570,576281817784929] 0 149058 rfl z0.2 z1))),at_put_n hc ha (by exact fun z0=>h.elim (fun z1=>lin [_,_] [] [65555,65554] 0 8721475 rfl z0 z1) (fun z1=>lin [_,_,_] [] [135265,1081411,598959312085537] 0 298063427 rfl hs0 z0 z1)),at_put_n (by exact Int.le_antisymm (lin [_,_,_,_,_,_,_,_] [] [8211,98371,107821094511075,5704335279923763,162657239659369592171143763,8880226] 491617 77985824526868493298273709341573517420103513459994885 rfl hc hs (dmA _ 4) (dmA _ 4) (dmA _ 4) (dmC _ 4 rfl)) (lin [_] [] [4129] 4129 149058 rfl (dmB _ 4 rfl))) ha (by exact fun z0=>h.elim (fun z1=>lin [_,_,_] [] [135265,294674761941059,1081410] 0 554112579 rfl hs0 z0 z1) (fun z1=>lin [_,_,_] [] [589613682147347,576281817784929] 0 8655939 rfl z0 z1)),at_put_n (by exact Int.le_antisymm (lin [_,_,_,_,_,_,_,_] [] [8211,98371,107821094511075,5704335279923763,1503433785152606184019,8880226] 491617 77985824526868493298273709341573517420103513459994885 rfl hc hs (dmA _ 4) (dmA _ 4) (dmA _ 4) (dmC _ 4 rfl)) (lin [_] [] [4129] 4129 149058 rfl (dmB _ 4 rfl))) ha (by exact fun z0=>h.elim (fun z1=>lin [_,_,_] [] [135265,2150268995,1081410] 0 554112579 rfl hs0 z0 z1) (fun z1=>lin [_,_,_] [] [4429463571,576281817784929] 0 8655939 rfl z0 z1))]
section
variable {W:Wd KH}{h ma:Cell}{f:Int→Int}{R:List Cell}
noncomputable def flE(e:Int):List U:=[.int 0,.int 0,.int 0,.int e]
noncomputable def LsE(e k:Int):List Int:=if k=3 then [e] else []
theorem c_allocW{k:Ki}{e:Int}(hk:KiOK f k)(he:1088≤e)(he2:e≤1400)(he4:e%16=0)(h0:at_ f e=1601-e)(h4:at_ f (e+4)=0):
  CallTo W 5 147 [.s 4,i_ k.w] (sH h ma f (flE e) R) (i_ (e+8)) [] (sH h ma (alF f e (bsz k.wd) k.w (1600-e-bsz k.wd) 0) (flE (e+bsz k.wd)) R) []:=by
 have b:=bsz_b hk.b.w0 hk.b.w1
 have hs:szf f e=1600-e:=by
  unfold szf
  have h0:f (e / 4)=1601-e:=h0
  rw [h0,if_pos (by exact Int.le_antisymm (lin [_] [] [139282] 73745 149058 rfl (dmC _ 2 rfl)) (lin [_,_,_,_,_] [] [8211,145410782536179,79249822870905299739187,528417] 2134081 49128355074480918932615024295605899960453 rfl he4 (dmA _ 16) (dmA _ 2) (dmB _ 2 rfl)))]; exact Int.le_antisymm (lin [_] [] [] 118068906111067833021057 449 rfl ) (lin [_] [] [] 92386514865537977627025 449 rfl )
 have hF:Fls f (flE e) (LsE e):=⟨rfl,fun k k0 k1=>by
  have:k=0∨k=1∨k=2∨k=3:=by exact (Classical.em _).elim Or.inl fun z0=>Or.inr ((Classical.em _).elim Or.inl fun z1=>Or.inr ((Classical.em _).elim Or.inl fun z2=>Or.inr (Int.le_antisymm (lin [_] [] [270354] 204817 149058 rfl k1) (b.elim (fun z3=>(Int.lt_or_gt_of_ne z0).elim (fun z4=>lin [_] [] [4129,8210] 102481 149058 rfl k0 z4) (fun z4=>(Int.lt_or_gt_of_ne z1).elim (fun z5=>lin [_] [] [4130,73746] 102481 149058 rfl z4 z5) (fun z5=>(Int.lt_or_gt_of_ne z2).elim (fun z6=>lin [_] [] [36930,139282] 102481 149058 rfl z5 z6) (fun z6=>lin [_] [] [69714] 102481 149058 rfl z6)))) (fun z3=>(Int.lt_or_gt_of_ne z0).elim (fun z4=>lin [_] [] [4129,8210] 102481 149058 rfl k0 z4) (fun z4=>(Int.lt_or_gt_of_ne z1).elim (fun z5=>lin [_] [] [4130,73746] 102481 149058 rfl z4 z5) (fun z5=>(Int.lt_or_gt_of_ne z2).elim (fun z6=>lin [_] [] [36930,139282] 102481 149058 rfl z5 z6) (fun z6=>lin [_] [] [69714] 102481 149058 rfl z6))))))))
  rcases this with rfl | rfl | rfl | rfl
  ·exact ⟨0,rfl,rfl⟩
  ·exact ⟨0,rfl,rfl⟩
  ·exact ⟨0,rfl,rfl⟩
  ·exact ⟨e,rfl,rfl,by exact fun z0=>lin [_] [] [35655905,8211] 0 149058 rfl he z0,⟨by exact lin [_] [] [35655905] 4129 149058 rfl he,by exact lin [_] [] [91758609] 240132114 149058 rfl he2⟩,⟨by exact lin [_] [] [35655905] 2214760481 149058 rfl he,by exact lin [_] [] [91758609] 31475147776290 149058 rfl he2⟩,by have h0:f (e / 4)=1601-e:=h0; rw [h0]; exact Int.le_antisymm (lin [_] [] [139282] 73745 149058 rfl (dmC _ 2 rfl)) (lin [_,_,_,_,_] [] [8211,145410782536179,79249822870905299739187,528417] 2134081 49128355074480918932615024295605899960453 rfl he4 (dmA _ 16) (dmA _ 2) (dmB _ 2 rfl)),h4⟩⟩
 have hn:lnum (bsz k.wd)≤3:=by have:=lnum_b (bsz k.wd); exact lin [_] [] [270354] 204817 149058 rfl this.2
 have T:=c_take_free (W:=W) (h:=h) (ma:=ma) (R:=R) (s:=bsz k.wd) (i:=3) (c:=e) (pre:=[]) (post:=[]) hF hn (by decide) (by rw [hs]; exact b.elim (fun z0=>lin [_,_] [] [91758609,8486979] 1718128705601 298063427 rfl he2 z0.1) (fun z0=>lin [_,_] [] [91758609,16875587] 1718128705601 298063427 rfl he2 z0.1)) rfl (fun _ h=>nomatch h) fun k _ h2 c hc=>by
  unfold LsE at hc
  rw [if_neg (by exact fun z0=>lin [_] [] [204818,204819] 0 8655939 rfl h2 z0)] at hc
  cases hc
 rw [show (tfS f (flE e) 3 (([]:List Int).getLast?.getD 0) (at_ f (e+4)))=(f,flE 0) by rw [h4]; rfl] at T
 have hl:lnum (1600-e-bsz k.wd)=3:=by unfold lnum; rw [if_neg (by exact fun z0=>b.elim (fun z1=>lin [_,_] [] [91758609,1159896824518849154,8486979] 0 558110275 rfl he2 z0 z1.1) (fun z1=>lin [_,_] [] [91758609,1159896824518849154,16875587] 0 558110275 rfl he2 z0 z1.1)),if_neg (by exact fun z0=>b.elim (fun z1=>lin [_,_] [] [91758609,2312818329125696130,8486979] 0 558110275 rfl he2 z0 z1.1) (fun z1=>lin [_,_] [] [91758609,2312818329125696130,16875587] 0 558110275 rfl he2 z0 z1.1)),if_neg (by exact fun z0=>b.elim (fun z1=>lin [_,_] [] [91758609,4618661338339390082,8486979] 0 558110275 rfl he2 z0 z1.1) (fun z1=>lin [_,_] [] [91758609,4618661338339390082,16875587] 0 558110275 rfl he2 z0 z1.1))]
 have A:=c_alloc1 (W:=W) (h:=h) (ma:=ma) (f:=f) (f1:=f) (R:=R) (fl:=flE e) (fl1:=flE 0) (d:=k.w) (s:=bsz k.wd) (c:=e) (x:=0) (q:=1600-e-bsz k.wd) ⟨by have:=hk.a0; exact lin [_] [] [2101409] 4129 149058 rfl this,by have:=hk.a1; exact lin [_] [] [12591121] 240132114 149058 rfl this⟩ (by rw [hk.d0]) T (by exact fun z0=>lin [_] [] [35655905,8211] 0 149058 rfl he z0) ⟨by exact lin [_] [] [35655905] 4129 149058 rfl he,by exact lin [_] [] [91758609] 240132114 149058 rfl he2⟩ (by have h0:f (e / 4)=1601-e:=h0; rw [h0]; exact Int.le_antisymm (lin [_] [] [139282] 73745 149058 rfl (dmC _ 2 rfl)) (lin [_,_,_,_,_] [] [8211,145410782536179,79249822870905299739187,528417] 2134081 49128355074480918932615024295605899960453 rfl he4 (dmA _ 16) (dmA _ 2) (dmB _ 2 rfl))) (by rw [hs]) (by exact b.elim (fun z0=>lin [_,_] [] [91758609,8486979] 9886881138528290 298063427 rfl he2 z0.1) (fun z0=>lin [_,_] [] [91758609,16875587] 9886881138528290 298063427 rfl he2 z0.1)) (by exact b.elim (fun z0=>lin [_] [] [1056787] 4129 8721475 rfl z0.1) (fun z0=>lin [_] [] [2105363] 4129 8721475 rfl z0.1)) (by exact b.elim (fun z0=>lin [_,_] [] [91758609,8486979] 1031377915944116754 298063427 rfl he2 z0.1) (fun z0=>lin [_,_] [] [91758609,16875587] 1031377915944116754 298063427 rfl he2 z0.1)) rfl (by rw [hl]; rfl) fun k hk=>by have:=mem_rng.mp hk; exact ⟨by exact lin [_,_] [] [35655905,9143623969] 135201 285611587 rfl he this.1,by exact b.elim (fun z0=>lin [_,_,_] [] [91758609,4295655490,16973907] 1921089602 344811655236 rfl he2 this.2.1 z0.1) (fun z0=>lin [_,_,_] [] [91758609,4295655490,33751123] 1921089602 344811655236 rfl he2 this.2.1 z0.1)⟩
 rw [hl] at A
 exact A
end
end
section
theorem Tgt.mono{rs rs':List Rk}{x:Int}(h:Tgt rs x)(hs:∀ y∈fsts rs,y∈fsts rs'):Tgt rs' x:=h.imp id (.imp id (.imp id (hs x)))
section
variable {ks:List Ki}{rs:List Rk}{f:Int→Int}{e t:Int}
theorem WI.kb(I:WI ks rs f e t):∀ k∈ks,KdB k:=fun k h=>(I.ko k h).1.b
structure RcB(r:Rk)(e:Int):Prop where
 k:KdB r.2
 lo:1096≤r.1
 al:r.1%16=8
 hi:r.1-8+bsz r.2.wd≤e
 sz:r.2.wd+8≤bsz r.2.wd
theorem WI.rb(I:WI ks rs f e t){r:Rk}(hr:r∈rs):RcB r e:=by
 have hk:=I.kb _ (I.co.ks r hr)
 have g:=(I.co.at I.kb (by decide)).2.2.2 r hr
 have b:=bsz_b hk.w0 hk.w1
 have w1:=hk.w1
 exact ⟨hk,by exact lin [_] [] [9006555275777] 35918049 149058 rfl g.1,g.2.2,g.2.1,by exact b.elim (fun z0=>lin [_,_] [] [1056787,4292673] 8791400801 298194499 rfl z0.1 z0.2) (fun z0=>lin [_,_] [] [1318929,16875587] 18270429489 566498883 rfl w1 z0.1)⟩
theorem WI.eb(I:WI ks rs f e t):e%16=0∧1088≤e∧e≤1088+32 * rs.length:=by
 have g:=I.co.at I.kb (by decide)
 exact ⟨g.1,g.2.1,g.2.2.1⟩
theorem WI.nil(K:KsI ks f):WI ks [] f 1088 (64+64 * ks.length):=by
 have hn:=K.n
 refine ⟨K.k,rfl,by decide,(fun _ h=>nomatch h),(fun _ h=>nomatch h),?_,?_,fun a h1 h2 h3=>?_⟩
 ·rw [K.z 1088 (by decide) (by exact lin [] [_] [204820] 156829976243529392801 2365795213343722582023 rfl hn)]; rfl
 ·rw [K.z (1088+4) (by decide) (by exact lin [] [_] [204820] 20268435906243313245954721 2365795213343722582023 rfl hn)]; rfl
 ·rw [K.z a h1 h2]
  show mset (mset (fun _=>0) (1088 / 4) _) ((1088+4) / 4) _ (a / 4)=0
  unfold mset
  rw [if_neg (by exact fun z0=>lin [_,_,_,_,_] [] [8211,570523714,3211347,37452350333411,316694310950450208809539,8781922] 0 57216806322403707483114316744431877 rfl h1 h3 z0 (dmA _ 4) (dmA _ 4) (dmC _ 4 rfl)),if_neg (by exact fun z0=>lin [_,_,_,_,_] [] [8211,570523714,3211347,37452350333411,2450383777244488259,8781922] 0 57216806322403707483114316744431877 rfl h1 h3 z0 (dmA _ 4) (dmA _ 4) (dmC _ 4 rfl))]
theorem WI.alloc(I:WI ks rs f e t){k:Ki}(hk:k∈ks)(hn:rs.length≤8)(ht:t≤1088):WI ks (rs++[(e+8,k)]) (alF f e (bsz k.wd) k.w (1600-e-bsz k.wd) 0) (e+bsz k.wd) t:=by
 have hb:=I.kb k hk
 have b:=bsz_b hb.w0 hb.w1
 have E:=I.eb
 have hko:=(I.ko k hk).1
 have A:=alF_ok (f:=f) (c:=e) (s:=bsz k.wd) (d:=k.w) (q:=1600-e-bsz k.wd) (x:=0) (by exact Int.le_antisymm (lin [_,_,_,_,_] [] [8211,145410782536179,4647704605598275,8781922] 393313 49128355079546559906686749562307281494277 rfl E.1 (dmA _ 16) (dmA _ 4) (dmC _ 4 rfl)) (lin [_] [] [4129] 4129 149058 rfl (dmB _ 4 rfl))) (by exact Int.le_antisymm (b.elim (fun z0=>lin [_,_,_] [] [1056787,36352838672931,4390994] 196689 17466901586712676774544166148 rfl z0.1 (dmA _ 4) (dmC _ 4 rfl)) (fun z0=>lin [_,_,_] [] [2105363,36352838672931,4390994] 196689 17466901586712676774544166148 rfl z0.1 (dmA _ 4) (dmC _ 4 rfl))) (lin [_] [] [4129] 4129 149058 rfl (dmB _ 4 rfl))) (by exact b.elim (fun z0=>lin [_] [] [1056787] 135265 8721475 rfl z0.1) (fun z0=>lin [_] [] [2105363] 135265 8721475 rfl z0.1)) ⟨by have:=hko.a0; exact lin [_] [] [2101409] 4129 149058 rfl this,by have:=hko.a1; exact lin [_] [] [12591121] 281474976718866 149058 rfl this⟩ ⟨by exact b.elim (fun z0=>lin [_,_] [_] [532500,234201620321026065,8486979] 352289725898474688545 193730438704645651894122502 rfl hn E.2.2 z0.1) (fun z0=>lin [_,_] [_] [532500,234201620321026065,16875587] 352289725898474688545 193730438704645651894122502 rfl hn E.2.2 z0.1),by exact b.elim (fun z0=>lin [_,_] [] [35655905,8486979] 5070602401148563990051107906418 566498883 rfl E.2.1 z0.1) (fun z0=>lin [_,_] [] [35655905,16875587] 5070602401148563990051107906418 566498883 rfl E.2.1 z0.1)⟩ (by decide)
 have hin:∀ y∈fsts rs,y∈fsts (rs++[(e+8,k)]):=fun y hy=>by unfold fsts at *; rw [List.map_append]; exact List.mem_append_left _ hy
 refine ⟨fun k' h=>⟨(I.ko k' h).1.cong fun a h1 _ h3=>A.out a h1 (.inl ?_),(I.ko k' h).2⟩,I.co.snoc (r:=(e+8,k)) hk rfl,by rw [List.length_append]; exact Nat.succ_le_succ hn,fun r hr=>?_,fun r hr o h1 h2 h3=>?_,?_,A.next,fun a h1 h2 h3=>?_⟩
 ·have:=(I.ko k' h).1.a1; exact lin [_,_,_] [] [35655905,1518273724482,201523281] 32834 19076094019 rfl E.2.1 h3 this
 ·rcases List.mem_append.mp hr with hr | hr
  ·have R:=I.rb hr
   have r1:=R.al
   have r2:=R.hi
   have r3:=R.sz
   have r4:=R.k.w0
   rw [A.out _ (by exact Int.le_antisymm (lin [_,_,_,_,_] [] [532499,145410782536179,1208273984356952416835,8781922] 393313 49128355079546559906686749562307281494277 rfl r1 (dmA _ 16) (dmA _ 4) (dmC _ 4 rfl)) (lin [_] [] [4129] 4129 149058 rfl (dmB _ 4 rfl))) (by exact Or.inl (lin [_,_,_,_] [] [1163317754831393,292527710577,397345] 35450302770 1900419139 rfl r2 r3 r4)),A.out _ (by exact Int.le_antisymm (lin [_,_,_,_,_] [] [532499,145410782536179,617978173998246765123,8781922] 393313 49128355079546559906686749562307281494277 rfl r1 (dmA _ 16) (dmA _ 4) (dmC _ 4 rfl)) (lin [_] [] [4129] 4129 149058 rfl (dmB _ 4 rfl))) (by exact Or.inl (lin [_,_,_,_] [] [1163317754831393,292527710577,397345] 17733562658 1900419139 rfl r2 r3 r4))]
   exact I.tg r hr
  ·rw [List.mem_singleton.mp hr]
   show at_ _ (e+8-8)=k.w∧at_ _ (e+8-4)=0
   rw [show e+8-8=e by exact Int.le_antisymm (lin [_] [] [] 288106490737233 449 rfl ) (lin [_] [] [] 576212981473297 449 rfl ),show e+8-4=e+4 by exact Int.le_antisymm (lin [_] [] [] 38049371770795438657 449 rfl ) (lin [_] [] [] 38631899760800342305 449 rfl )]
   exact ⟨A.tag,A.zero _ (by exact Int.le_antisymm (lin [_,_,_,_,_] [] [8211,145410782536179,617977892523270054467,8781922] 393313 49128355079546559906686749562307281494277 rfl E.1 (dmA _ 16) (dmA _ 4) (dmC _ 4 rfl)) (lin [_] [] [4129] 4129 149058 rfl (dmB _ 4 rfl))) (Int.le_refl _) (by exact b.elim (fun z0=>lin [_,_] [] [1056787] 141034042564946 8721475 rfl z0.1) (fun z0=>lin [_,_] [] [2105363] 141034042564946 8721475 rfl z0.1))⟩
 ·rcases List.mem_append.mp hr with hr | hr
  ·have R:=I.rb hr
   have r1:=R.al
   have r2:=R.hi
   have r3:=R.sz
   rw [A.out _ (by exact Int.le_antisymm (lin [_,_,_,_,_,_,_,_] [] [8211,4292675,107821094511075,22817340547342931,1817032938005295931987,8880226] 491617 77985824526868493298273709341573517420103513459994885 rfl h1 r1 (dmA _ 4) (dmA _ 16) (dmA _ 4) (dmC _ 4 rfl)) (lin [_] [] [4129] 4129 149058 rfl (dmB _ 4 rfl))) (by exact Or.inl (lin [_,_,_,_,_] [] [65554,73782453265474161,421108261217] 8724324610 35463174211 rfl h3 r2 r3))]
   exact (I.wd r hr o h1 h2 h3).mono hin
  ·rw [List.mem_singleton.mp hr] at h3 ⊢
   have h3:o < k.wd:=h3
   have w1:=hb.w1
   exact .inl (A.zero (e+8+o) (by exact Int.le_antisymm (lin [_,_,_,_,_,_,_,_] [] [8211,98371,431283805790723,5704335279923763,391824240344571334728753747,8880226] 491617 77985824526868493298273709341573517420103513459994885 rfl E.1 h1 (dmA _ 16) (dmA _ 4) (dmA _ 4) (dmC _ 4 rfl)) (lin [_] [] [4129] 4129 149058 rfl (dmB _ 4 rfl))) (by exact lin [_,_] [] [4129] 37758778943704539473 149058 rfl h2) (by (rename_i q0; exact b.elim (fun z0=>lin [_,_,_,_] [] [65554,16973907,4292673] 77248732442712056354 345213784132 rfl q0 z0.1 z0.2) (fun z0=>lin [_,_,_,_] [] [65554,10584129,33751123] 77248732442712056354 379572473924 rfl q0 w1 z0.1))))
 ·rw [A.rest]; exact Int.le_antisymm (lin [_,_] [] [] 162312665730549716528136084267889 449 rfl ) (lin [_,_] [] [] 193673324985696386693963497026193 449 rfl )
 ·rw [A.out a h1 (by exact Or.inl (lin [_,_] [] [35655905,570523714] 32834 553981507 rfl E.2.1 h3))]
  exact I.z a h1 h2 h3
theorem mem_fsts{x:Int}(h:x∈fsts rs):∃ r∈rs,r.1=x:=List.mem_map.mp h
theorem WI.tgt(I:WI ks rs f e t){x:Int}(h:Tgt rs x):0≤x∧x < 4294967296:=by
 have hn:=I.n
 have E:=I.eb
 rcases h with rfl | rfl | rfl | h
 ·decide
 ·decide
 ·decide
 ·obtain ⟨r,hr,rfl⟩:=mem_fsts h
  have R:=I.rb hr
  have r1:=R.lo
  have r2:=R.hi
  have r3:=R.sz
  have r4:=R.k.w0
  exact ⟨lin [_] [] [35918049] 4129 149058 rfl r1,lin [_,_,_,_] [_] [598036,234201620321026065,580954750657121,567405617521,397345] 2251799813783618 9680929709379045801877574 rfl hn E.2.2 r2 r3 r4⟩
theorem WI.put(I:WI ks rs f e t){r:Rk}(hr:r∈rs){o x:Int}(o4:o%4=0)(o0:0≤o)(o1:o < r.2.wd)(hx:Tgt rs x)(ht:t≤1088):WI ks rs (put f (r.1+o) x) e t:=by
 have R:=I.rb hr
 have r1:=R.al
 have r2:=R.hi
 have r3:=R.sz
 have r5:=R.lo
 have X:=I.tgt hx
 have out:∀ a,a%4=0→a≠r.1+o→at_ (Mine.put f (r.1+o) x) a=at_ f a:=fun a ha hne=>at_put_n (by exact Int.le_antisymm (lin [_,_,_,_,_,_,_,_] [] [8211,4292675,107821094511075,22817340547342931,1817032938005295931987,8880226] 491617 77985824526868493298273709341573517420103513459994885 rfl o4 r1 (dmA _ 4) (dmA _ 16) (dmA _ 4) (dmC _ 4 rfl)) (lin [_] [] [4129] 4129 149058 rfl (dmB _ 4 rfl))) ha hne
 have ap:∀ r'∈rs,∀ d,-8≤d→d < r'.2.wd→r'.1+d=r.1+o→r'=r:=fun r' hr' d d0 d1 he=>by
  have R':=I.rb hr'
  have s2:=R'.sz
  rcases I.co.apart I.kb (by decide) r' hr' r hr with q | q | q
  ·exact q
  ·exact False.elim (lin [_,_,_,_,_,_] [] [4129,1081410,281692074058051,1391972229489,560694731105] 0 9086743129642052 rfl o0 d1 he s2 q)
  ·exact False.elim (lin [_,_,_,_,_,_] [] [65554,283669307745,102813857,1408247030554979,558681497953] 0 11338542941754436 rfl o1 r3 d0 he q)
 refine ⟨fun k' h=>⟨(I.ko k' h).1.cong fun a h1 _ h3=>out a h1 ?_,(I.ko k' h).2⟩,I.co,I.n,fun r' hr'=>?_,fun r' hr' o' h1 h2 h3=>?_,?_,?_,fun a h1 h2 h3=>?_⟩
 ·have:=(I.ko k' h).1.a1; exact fun z0=>lin [_,_,_,_] [] [4129,572788961,3038694932562,201556049,2152005715] 0 4618224928314436 rfl o0 r5 h3 this z0
 ·have R':=I.rb hr'
  have s1:=R'.al
  have s3:=R'.k.w0
  rw [out _ (by exact Int.le_antisymm (lin [_,_,_,_,_] [] [532499,145410782536179,1208273984356952416835,8781922] 393313 49128355079546559906686749562307281494277 rfl s1 (dmA _ 16) (dmA _ 4) (dmC _ 4 rfl)) (lin [_] [] [4129] 4129 149058 rfl (dmB _ 4 rfl))) fun q=>?_,out _ (by exact Int.le_antisymm (lin [_,_,_,_,_] [] [532499,145410782536179,617978173998246765123,8781922] 393313 49128355079546559906686749562307281494277 rfl s1 (dmA _ 16) (dmA _ 4) (dmC _ 4 rfl)) (lin [_] [] [4129] 4129 149058 rfl (dmB _ 4 rfl))) fun q=>?_]
  ·exact I.tg r' hr'
  ·have:=ap r' hr' (-4) (by decide) (by exact lin [_] [] [4129] 1101970 149058 rfl s3) q; subst this; exact lin [_,_] [] [4129,141034042569043] 0 8655939 rfl o0 q
  ·have:=ap r' hr' (-8) (by decide) (by exact lin [_] [] [4129] 2150562 149058 rfl s3) q; subst this; exact lin [_,_] [] [4129,282067883667811] 0 8655939 rfl o0 q
 ·have R':=I.rb hr'
  have s1:=R'.al
  by_cases q:r'.1+o'=r.1+o
  ·rw [q,at_put_i X.1 X.2]; exact hx
  ·rw [out _ (by exact Int.le_antisymm (lin [_,_,_,_,_,_,_,_] [] [8211,4292675,107821094511075,22817340547342931,1817032938005295931987,8880226] 491617 77985824526868493298273709341573517420103513459994885 rfl h1 s1 (dmA _ 4) (dmA _ 16) (dmA _ 4) (dmC _ 4 rfl)) (lin [_] [] [4129] 4129 149058 rfl (dmB _ 4 rfl))) q]; exact I.wd r' hr' o' h1 h2 h3
 ·rw [out _ (by have:=I.eb; exact Int.le_antisymm (lin [_,_,_,_,_] [] [8211,145410782536179,4647704605598275,8781922] 393313 49128355079546559906686749562307281494277 rfl this.1 (dmA _ 16) (dmA _ 4) (dmC _ 4 rfl)) (lin [_] [] [4129] 4129 149058 rfl (dmB _ 4 rfl))) (by exact fun z0=>lin [_,_,_,_,_] [] [65554,73782453265474161,421108261217,8601075811] 0 36255897667 rfl o1 r2 r3 z0)]; exact I.h0
 ·rw [out _ (by have:=I.eb; exact Int.le_antisymm (lin [_,_,_,_,_] [] [8211,145410782536179,617977892523270054467,8781922] 393313 49128355079546559906686749562307281494277 rfl this.1 (dmA _ 16) (dmA _ 4) (dmC _ 4 rfl)) (lin [_] [] [4129] 4129 149058 rfl (dmB _ 4 rfl))) (by exact fun z0=>lin [_,_,_,_,_] [] [65554,73782453265474161,421108261217,1127361001234803] 0 36255897667 rfl o1 r2 r3 z0)]; exact I.h4
 ·rw [out a h1 (by exact fun z0=>lin [_,_,_] [] [4129,572788961,1141047378,2152005715] 0 35460463218756 rfl o0 r5 h3 z0)]; exact I.z a h1 h2 h3
theorem WI.far(I:WI ks rs f e t){f':Int→Int}{t2:Int}(ht:t≤t2)(hf:∀ a,a%4=0→(a < t∨t2≤a∧a < 1600)→at_ f' a=at_ f a)(h2:t2≤1088):WI ks rs f' e t2:=by
 have E:=I.eb
 have hn:=I.n
 have hh:∀ a,a%4=0→1088≤a→a < 1600→at_ f' a=at_ f a:=fun a ha h1 h3=>hf a ha (.inr ⟨by exact lin [_,_] [] [71311377,572526817] 65553 25499203 rfl h2 h1,h3⟩)
 refine ⟨fun k' h=>⟨(I.ko k' h).1.cong fun a h1 _ h3=>hf a h1 (.inl ?_),Int.le_trans (I.ko k' h).2 ht⟩,I.co,I.n,fun r hr=>?_,fun r hr o h1 h2 h3=>?_,?_,?_,fun a h1 h2 h3=>?_⟩
 ·have:=(I.ko k' h).2; exact lin [_,_,_] [] [94892212242,2267944198545] 131090 25499203 rfl h3 this
 ·have R:=I.rb hr
  have r1:=R.al
  have r2:=R.hi
  have r3:=R.sz
  have r4:=R.lo
  have r5:=R.k.w0
  rw [hh _ (by exact Int.le_antisymm (lin [_,_,_,_,_] [] [532499,145410782536179,1208273984356952416835,8781922] 393313 49128355079546559906686749562307281494277 rfl r1 (dmA _ 16) (dmA _ 4) (dmC _ 4 rfl)) (lin [_] [] [4129] 4129 149058 rfl (dmB _ 4 rfl))) (by exact lin [_] [] [35918049] 17867837804769 149058 rfl r4) (by exact lin [_,_,_,_] [_] [234201620321026065,598036,580954750657121,567405617521,397345] 219928296829282 48357111204081440102047814 rfl E.2.2 hn r2 r3 r5),hh _ (by exact Int.le_antisymm (lin [_,_,_,_,_] [] [532499,145410782536179,617978173998246765123,8781922] 393313 49128355079546559906686749562307281494277 rfl r1 (dmA _ 16) (dmA _ 4) (dmC _ 4 rfl)) (lin [_] [] [4129] 4129 149058 rfl (dmB _ 4 rfl))) (by exact lin [_] [] [35918049] 9071744782561 149058 rfl r4) (by exact lin [_,_,_,_] [_] [234201620321026065,598036,580954750657121,567405617521,397345] 109964249149778 48357111204081440102047814 rfl E.2.2 hn r2 r3 r5)]
  exact I.tg r hr
 ·have R:=I.rb hr
  have r1:=R.al
  have r2:=R.hi
  have r3:=R.sz
  have r4:=R.lo
  rw [hh _ (by exact Int.le_antisymm (lin [_,_,_,_,_,_,_,_] [] [8211,4292675,107821094511075,22817340547342931,1817032938005295931987,8880226] 491617 77985824526868493298273709341573517420103513459994885 rfl h1 r1 (dmA _ 4) (dmA _ 16) (dmA _ 4) (dmC _ 4 rfl)) (lin [_] [] [4129] 4129 149058 rfl (dmB _ 4 rfl))) (by exact lin [_,_] [] [4129,572788961] 1101828985057 553981507 rfl h2 r4) (by exact lin [_,_,_,_,_] [_] [234201620321026065,598036,1081410,2287946619921025,1117094322545] 54982225338690 155063711166417098269548614 rfl E.2.2 hn h3 r2 r3)]
  exact I.wd r hr o h1 h2 h3
 ·rw [hh e (by exact Int.le_antisymm (lin [_,_,_,_,_] [] [8211,145410782536179,4647704605598275,8781922] 393313 49128355079546559906686749562307281494277 rfl E.1 (dmA _ 16) (dmA _ 4) (dmC _ 4 rfl)) (lin [_] [] [4129] 4129 149058 rfl (dmB _ 4 rfl))) (by exact lin [_] [] [35655905] 35655905 149058 rfl E.2.1) (by exact lin [_] [_] [234201620321026065,598036] 104865810 28410310298269573720070 rfl E.2.2 hn)]; exact I.h0
 ·rw [hh _ (by exact Int.le_antisymm (lin [_,_,_,_,_] [] [8211,145410782536179,617977892523270054467,8781922] 393313 49128355079546559906686749562307281494277 rfl E.1 (dmA _ 16) (dmA _ 4) (dmC _ 4 rfl)) (lin [_] [] [4129] 4129 149058 rfl (dmB _ 4 rfl))) (by exact lin [_] [] [35655905] 9071677673697 149058 rfl E.2.1) (by exact lin [_] [_] [234201620321026065,598036] 13745522778402 28410310298269573720070 rfl E.2.2 hn)]; exact I.h4
 ·rw [hf a h1 (.inr ⟨h2,by exact lin [_] [] [71311378] 104865810 149058 rfl h3⟩)]
  exact I.z a h1 (Int.le_trans ht h2) h3
end
end
section
variable {W:Wd KH}{n:Nat}{f:Int→Int}{fl rg rows ld:List U}{t pc:Int}
theorem L_kinds:∀(us:List Int)(ks:List Ki)(hd:Hd)(f:Int→Int),KsI ks f→us.length+ks.length≤3→∃ (ks':List Ki) (hd':Hd) (f':Int→Int),KsI ks' f'∧ks'.length=us.length+ks.length ∧
  Fo W 8 (scopeOf W.K 502) (.one "at") (whB (wB W.K)) 1 (us.map U.int) ⟨lW,sA hd.c (64+64 * (ks.length:Nat)) f fl pc rg rows ld,[.list (ks.map encK)]⟩ .next ⟨lW,sA hd'.c (64+64 * (ks'.length:Nat)) f' fl pc rg rows ld,[.list (ks'.map encK)]⟩:=by
 intro us
 induction us with
 | nil=>exact fun ks hd f K _=>⟨ks,hd,f,K,(Nat.zero_add _).symm,.nil⟩
 | cons a us ih =>
  intro ks hd f K hl
  rw [List.length_cons] at hl
  obtain ⟨k,hd1,ex,u1,u2,u3,u4,u5,hw,hb,B⟩:=L_kind (W:=W) (f:=f) (fl:=fl) (rg:=rg) (rows:=rows) (ld:=ld) (pc:=pc) (t:=64+64 * (ks.length:Nat)) hd (a:=a) (us:=ks.map encK) (by exact lin [] [_] [] 58548873954889761 1185239621423061807111 rfl ) (by exact lin [] [_,_] [224609694130676] 2306289991996410241761 76152915625569028157447 rfl hl) (by rw [List.length_map]; exact lin [] [_,_] [224609694130676] 524386373 354114 rfl hl)
  have K2:=K.push (by exact lin [] [_,_] [224609694130676] 1146948 354114 rfl hl) hw hb
  rw [hw] at K2
  have e1:(ks++[k]).length=ks.length+1:=by rw [List.length_append]; rfl
  obtain ⟨ks',hd',f',K',e2,F⟩:=ih (ks++[k]) hd1 _ K2 (by rw [e1]; exact lin [] [_,_] [224609694130676] 225125576253940 149058 rfl hl)
  rw [e1,show (64+64 * ((ks.length+1:Nat):Int))=64+64 * (ks.length:Nat)+64 by exact Int.le_antisymm (lin [] [_] [] 5463791983450492374498417774110928348065 449 rfl ) (lin [] [_] [] 6126879144083329712894411451756491121649 449 rfl ),List.map_append] at F
  refine ⟨ks',hd',f',K',by rw [e2,e1,List.length_cons]; exact Nat.le_antisymm (lin [] [_,_] [] 10108997045093272691188 449 rfl ) (lin [] [_,_] [] 11216845468582350954996 449 rfl ),?_⟩
  exact .go (fl:=.next) (a':=⟨lW,sA hd1.c (64+64 * (ks.length:Nat)+64) (wrI f (64+64 * (ks.length:Nat)) 0 (rowI k)) fl pc rg rows ld,[.list (ks.map encK++[encK k])]⟩) rfl B (.inl rfl) (less_of ((("at":Str),i_ a) :: ex) rfl rfl rfl rfl) (Nat.le_refl _) F
noncomputable def lWr:List (Str × V):=lW++[(("records":Str),V.o 1)]
theorem L_recs{ks:List Ki}(hk0:0 < ks.length)(hn:ks.length≤3):∀(us:List Int)(rs:List Rk)(hd:Hd)(f:Int→Int)(e:Int),WI ks rs f e t→t≤1088→us.length+rs.length≤9→∃ (rs':List Rk) (hd':Hd) (f':Int→Int) (e':Int),WI ks rs' f' e' t ∧
  Fo W 8 (scopeOf W.K 502) (.one "_") (whB (stAt W.K 502 4)) 2 (us.map U.int) ⟨lWr,sA hd.c t f (flE e) pc rg rows ld,[.list (ks.map encK),.list (rs.map encRk)]⟩ .next ⟨lWr,sA hd'.c t f' (flE e') pc rg rows ld,[.list (ks.map encK),.list (rs'.map encRk)]⟩:=by
 intro us
 induction us with
 | nil=>exact fun rs hd f e I _ _=>⟨rs,hd,f,e,I,.nil⟩
 | cons a us ih =>
  intro rs hd f e I ht hl
  rw [List.length_cons] at hl
  have E:=I.eb
  obtain ⟨d,hd1,c1,d0,d1⟩:=pick (W:=W) hd (R:=(sA hd.c t f (flE e) pc rg rows ld).tail) (k:=((ks.map encK).length:Nat)) (by rw [List.length_map]; exact lin [] [_] [4133] 102434 149058 rfl hk0) (by rw [List.length_map]; exact lin [_] [_] [204820,75557863725914323427347] 24626 566498883 rfl hn pI60)
  rw [List.length_map] at d1
  obtain ⟨k,hk,hx⟩:=at_map (g:=encK) d0 d1
  have c2:=c_allocW (W:=W) (h:=hd1.c) (ma:=mA t) (f:=f) (R:=cpuA pc :: .list rg :: .list rows :: [.list ld,.list [],.list []]) (I.ko k hk).1 E.2.1 (by exact lin [_] [_,_] [646822159196660,2540044629534720017] 91758609 307034544755209484380166 rfl hl E.2.2) E.1 I.h0 I.h4
  have I2:=I.alloc hk (by exact lin [] [_,_] [646822159196660] 4292676 354114 rfl hl) ht
  obtain ⟨rs',hd',f',e',I',F⟩:=ih _ hd1 _ _ I2 ht (by rw [List.length_append,List.length_singleton]; exact lin [] [_,_] [646822159196660] 647338041319924 149058 rfl hl)
  rw [List.map_append] at F
  generalize alF f e (bsz k.wd) k.w (1600-e-bsz k.wd) 0=f2 at *
  generalize e+bsz k.wd=e2 at *
  have hne:e+8≠0:=by exact fun z0=>lin [_] [] [35655905,3238043955] 0 149058 rfl E.2.1 z0
  have hrl:(rs.map encRk).length≤sizeLine:=by rw [List.length_map,sizeLine_eq]; exact lin [] [_,_] [646822159196660] 8796093120580 354114 rfl hl
  have hkl:(ks.map encK).length < 2 ^ 63:=by rw [List.length_map]; exact lin [] [_,_] [204820,4835703278458516698923078] 65557 566498883 rfl hn pN63
  refine ⟨rs',hd',f',e',I',?_⟩
  exact .go (fl:=.next) (a':=⟨lWr,sA hd1.c t f2 (flE e2) pc rg rows ld,[.list (ks.map encK),.list (rs.map encRk++[encRk (e+8,k)])]⟩) (b:=⟨lWr++[(("_":Str),i_ a),(("kind":Str),V.u (encK k)),(("told":Str),i_ (e+8))],sA hd1.c t f2 (flE e2) pc rg rows ld,[.list (ks.map encK),.list (rs.map encRk++[encRk (e+8,k)])]⟩) rfl
   (bo_run [.r 1 (i_ d) [] (sA hd1.c t f (flE e) pc rg rows ld) [],.a (encK k),.r 5 (i_ (e+8)) [] (sA hd1.c t f2 (flE e2) pc rg rows ld) [],.d true] kok gok ⟨rfl⟩
    ⟨hrl,decide_eq_true hne,c2,⟨d0,by exact lin [_,_] [_] [204820,49170,4835703278458516698923075] 65554 9175664971844 rfl hn d1 pI63,hx⟩,c1,hkl,True.intro⟩) (.inl rfl) (less_of [(("_":Str),i_ a),(("kind":Str),V.u (encK k)),(("told":Str),i_ (e+8))] rfl rfl rfl rfl) (Nat.le_refl _) F
theorem tgt3{d:Int}(h0:0≤d)(h1:d < 3):∃ x,[U.int 0,.int 12,.int 2000][d.toNat]?=some (.int x)∧(x=0∨x=12∨x=2000):=by
 have:d=0∨d=1∨d=2:=by exact (Classical.em _).elim Or.inl fun z0=>Or.inr ((Classical.em _).elim Or.inl fun z1=>Or.inr (Int.le_antisymm (lin [_] [] [204818] 139281 149058 rfl h1) ((Int.lt_or_gt_of_ne z0).elim (fun z2=>lin [_] [] [4129,8210] 69713 149058 rfl h0 z2) (fun z2=>(Int.lt_or_gt_of_ne z1).elim (fun z3=>lin [_] [] [4130,73746] 69713 149058 rfl z2 z3) (fun z3=>lin [_] [] [36930] 69713 149058 rfl z3)))))
 rcases this with rfl | rfl | rfl
 ·exact ⟨0,rfl,.inl rfl⟩
 ·exact ⟨12,rfl,.inr (.inl rfl)⟩
 ·exact ⟨2000,rfl,.inr (.inr rfl)⟩
noncomputable def lFi(r:Rk):List (Str × V):=lWr++[(("where":Str),i_ r.1),(("kind":Str),V.u (encK r.2))]
theorem L_fill{ks:List Ki}{rs:List Rk}{r:Rk}{e:Int}{u:List U}(hr:r∈rs)(ht:t≤1088):∀(us:List Int)(hd:Hd)(f:Int→Int),(∀ o∈us,o%4=0∧0≤o∧o < r.2.wd)→WI ks rs f e t→∃ (hd':Hd) (f':Int→Int),WI ks rs f' e t ∧
  Fo W 8 (scopeOf W.K 502) (.one "spot") (whB (subS (stAt W.K 502 5) 0)) 2 (us.map U.int) ⟨lFi r,sA hd.c t f fl pc rg rows ld,[.list u,.fz (.lst (rs.map encRk))]⟩ .next ⟨lFi r,sA hd'.c t f' fl pc rg rows ld,[.list u,.fz (.lst (rs.map encRk))]⟩:=by
 intro us
 induction us with
 | nil=>exact fun hd f _ I=>⟨hd,f,I,.nil⟩
 | cons o us ih =>
  intro hd f ho I
  obtain ⟨o4,o0,o1⟩:=ho o (.head _)
  have hn:=I.n
  have B:=I.rb hr
  have b1:=B.lo
  have b2:=B.hi
  have b3:=B.sz
  have E:=I.eb
  have ad:okA (r.1+o):=⟨by exact lin [_,_] [] [4129,572788961] 268996641 553981507 rfl o0 b1,by exact lin [_,_,_,_,_] [_] [65554,598036,73782453265474161,421108261217,7494451850272964705] 7868782911746 77701891916947155440656454 rfl o1 hn b2 b3 E.2.2⟩
  obtain ⟨d,hd1,c1,d0,d1⟩:=pick (W:=W) hd (R:=(sA hd.c t f fl pc rg rows ld).tail) (k:=3) (by decide) (by decide)
  obtain ⟨x,hx,hx2⟩:=tgt3 d0 d1
  obtain ⟨d',hd2,c2,d2,d3⟩:=pick (W:=W) hd1 (R:=(sA hd.c t f fl pc rg rows ld).tail) (k:=2) (by decide) (by decide)
  have step:∃ (hd':Hd) (y:Int),Tgt rs y∧BoS W 8 (scopeOf W.K 502) (whB (subS (stAt W.K 502 5) 0)) ⟨lFi r++[(("spot":Str),i_ o)],sA hd.c t f fl pc rg rows ld,[.list u,.fz (.lst (rs.map encRk))]⟩ .next ⟨lFi r++[(("spot":Str),i_ o),(("word":Str),i_ y)],sA hd'.c t (put f (r.1+o) y) fl pc rg rows ld,[.list u,.fz (.lst (rs.map encRk)),.list [.int 0,.int 12,.int 2000]]⟩:=by
   by_cases q:d'=0
   ·have hp:=List.length_pos_of_mem hr
    obtain ⟨d4,hd3,c3,d5,d6⟩:=pick (W:=W) hd2 (R:=(sA hd.c t f fl pc rg rows ld).tail) (k:=((rs.map encRk).length:Nat)) (by rw [List.length_map]; exact lin [] [_] [4133] 102434 149058 rfl hp) (by rw [List.length_map]; exact lin [_] [_] [598036,75557863725914323427347] 24626 566498883 rfl hn pI60)
    rw [List.length_map] at d6
    obtain ⟨r',hr',hx'⟩:=at_map (g:=encRk) d5 d6
    refine ⟨hd3,r'.1,.inr (.inr (.inr (List.mem_map.mpr ⟨r',hr',rfl⟩))),?_⟩
    exact bo_run [.r 1 (i_ d) [] (sA hd1.c t f fl pc rg rows ld) [],.a (.int x),.r 1 (i_ d') [] (sA hd2.c t f fl pc rg rows ld) [],.d true,.r 1 (i_ d4) [] (sA hd3.c t f fl pc rg rows ld) [],.a (encRk r'),.r 2 (.u .none) [] (sA hd3.c t (put f (r.1+o) r'.1) fl pc rg rows ld) []] kok gok ⟨rfl⟩
     ⟨c_put_word ad.1 ad.2,⟨d5,by exact lin [_,_] [_] [598036,49170,4835703278458516698923075] 65554 9175664971844 rfl hn d6 pI63,hx'⟩,c3,by rw [List.length_map]; exact lin [] [_,_] [598036,4835703278458516698923078] 65557 566498883 rfl hn pN63,decide_eq_true q,c2,⟨d0,by exact lin [_,_] [] [204818,4835703278458516698923075] 65554 566498883 rfl d1 pI63,hx⟩,c1,True.intro⟩
   ·refine ⟨hd2,x,hx2.imp id (.imp id .inl),?_⟩
    exact bo_run [.r 1 (i_ d) [] (sA hd1.c t f fl pc rg rows ld) [],.a (.int x),.r 1 (i_ d') [] (sA hd2.c t f fl pc rg rows ld) [],.d false,.r 2 (.u .none) [] (sA hd2.c t (put f (r.1+o) x) fl pc rg rows ld) []] kok gok ⟨rfl⟩
     ⟨c_put_word ad.1 ad.2,decide_eq_false q,c2,⟨d0,by exact lin [_,_] [] [204818,4835703278458516698923075] 65554 566498883 rfl d1 pI63,hx⟩,c1,True.intro⟩
  obtain ⟨hd3,y,hy,B⟩:=step
  obtain ⟨hd',f',I',F⟩:=ih hd3 _ (fun o h=>ho o (.tail _ h)) (I.put hr o4 o0 o1 hy ht)
  exact ⟨hd',f',I',.go (fl:=.next) (a':=⟨lFi r,sA hd3.c t (put f (r.1+o) y) fl pc rg rows ld,[.list u,.fz (.lst (rs.map encRk))]⟩) rfl B (.inl rfl) (less_of [(("spot":Str),i_ o),(("word":Str),i_ y)] rfl rfl rfl rfl) (Nat.le_refl _) F⟩
theorem L_fills{ks:List Ki}{rs:List Rk}{e:Int}{u:List U}(ht:t≤1088):∀(us:List Rk)(hd:Hd)(f:Int→Int),(∀ r∈us,r∈rs)→WI ks rs f e t→∃ (hd':Hd) (f':Int→Int),WI ks rs f' e t ∧
  Fo W 8 (scopeOf W.K 502) (.many ["where","kind"]) (whB (stAt W.K 502 5)) 2 (us.map encRk) ⟨lWr,sA hd.c t f fl pc rg rows ld,[.list u,.fz (.lst (rs.map encRk))]⟩ .next ⟨lWr,sA hd'.c t f' fl pc rg rows ld,[.list u,.fz (.lst (rs.map encRk))]⟩:=by
 intro us
 induction us with
 | nil=>exact fun hd f _ I=>⟨hd,f,I,.nil⟩
 | cons r us ih =>
  intro hd f hs I
  have hr:=hs r (.head _)
  have B:=(I.rb hr).k
  have b0:=B.w0
  have b1:=B.w1
  obtain ⟨hd1,f1,I1,F1⟩:=L_fill (W:=W) (fl:=fl) (pc:=pc) (rg:=rg) (rows:=rows) (ld:=ld) (u:=u) hr ht (rngI 0 r.2.wd 4) hd f (fun o h=>by have:=mem_rng.mp h; exact ⟨Int.le_antisymm (lin [_,_,_,_,_] [] [8211,216268508580356563,4647704605598275,8781922] 393313 49128355079546559906686749562307281494277 rfl this.2.2 (dmA _ 4) (dmA _ 4) (dmC _ 4 rfl)) (lin [_] [] [4129] 4129 149058 rfl (dmB _ 4 rfl)),⟨lin [_] [] [4129] 4129 149058 rfl this.1,lin [_,_] [] [65554] 65554 149058 rfl this.2.1⟩⟩) I
  obtain ⟨hd',f',I',F⟩:=ih hd1 f1 (fun r h=>hs r (.tail _ h)) I1
  have hsm:Builtin.Range.small 0 r.2.wd 4=true:=small_of (by decide) (by exact ⟨lin [_,_] [] [4129,604462909807314587451459] 282738 566498883 rfl b0 pI60,lin [_,_] [] [1318929,604462909807314587451459] 65554 566498883 rfl b1 pI60⟩) (by decide)
  have hri:((rngI 0 r.2.wd 4).map U.int)=rangeU 0 r.2.wd 4:=(rangeU_eq _ _ _).symm
  exact ⟨hd',f',I',.go (fl:=.next) (a':=⟨lWr,sA hd1.c t f1 fl pc rg rows ld,[.list u,.fz (.lst (rs.map encRk))]⟩) (b:=⟨lFi r,sA hd1.c t f1 fl pc rg rows ld,[.list u,.fz (.lst (rs.map encRk))]⟩) rfl
   (bo_run [.lp .next (lFi r) (sA hd1.c t f1 fl pc rg rows ld) [.list u,.fz (.lst (rs.map encRk))] []] kok gok ⟨rfl⟩ ⟨for_ok (sr_u (u:=.rng 0 r.2.wd 4) (ev_run [] kok gok ⟨rfl⟩ ⟨⟨by decide,by decide⟩,True.intro⟩) ⟨hsm,hri⟩) rfl rfl rfl F1,True.intro⟩) (.inl rfl) (less_of [(("where":Str),i_ r.1),(("kind":Str),V.u (encK r.2))] rfl rfl rfl rfl) (Nat.le_refl _) F⟩
theorem fn_law_world:FnP W 502 ["hand"]:=fn_mk (by rfl) (by rfl) (by rfl) (fun _ _ _=>BindsTo.of_eq rfl) (by rfl) (by rfl) rfl rfl rfl
theorem pickN{k:Int}(h0:0≤k):((ups 0 k.toNat).map U.int)=rangeU 0 k 1:=by
 rw [rangeU_eq,← rng_ups]
 rw [show ((k.toNat:Nat):Int)=k by omega]
theorem c_law_world(hd:Hd):∃ (ks:List Ki) (rs:List Rk) (hd':Hd) (f:Int→Int) (e:Int),WI ks rs f e (64+64 * (ks.length:Nat))∧0 < ks.length∧ks.length≤3 ∧
  CallTo W 9 502 [.s 0] [hd.c] (.t [.s 1,.u (.lst (ks.map encK)),.u (.lst (rs.map encRk))]) [] (sA hd'.c (64+64 * (ks.length:Nat)) f (flE e) 0 regs0 [row0] []) []:=by
 obtain ⟨d,hd1,c1,d0,d1⟩:=pick (W:=W) hd (R:=(sA hd.c 64 mem0 fl1 0 regs0 [row0] []).tail) (k:=3) (by decide) (by decide)
 obtain ⟨ks,hd2,f2,K,e2,F1⟩:=L_kinds (W:=W) (fl:=fl1) (pc:=0) (rg:=regs0) (rows:=[row0]) (ld:=[]) (ups 0 (1+d).toNat) [] hd1 mem0 KsI.nil (by rw [ups_len]; simp; exact lin [_] [] [204818] 3431080177 149058 rfl d1)
 rw [ups_len,List.length_nil,Nat.add_zero] at e2
 obtain ⟨d',hd3,c2,d2,d3⟩:=pick (W:=W) hd2 (R:=(sA hd.c (64+64 * (ks.length:Nat)) f2 fl1 0 regs0 [row0] []).tail) (k:=10) (by decide) (by decide)
 have hk3:ks.length≤3:=K.n
 obtain ⟨rs,hd4,f4,e4,I4,F2⟩:=L_recs (W:=W) (pc:=0) (rg:=regs0) (rows:=[row0]) (ld:=[]) (t:=64+64 * (ks.length:Nat)) (by omega) hk3 (ups 0 d'.toNat) [] hd3 f2 1088 (WI.nil K) (by exact lin [] [_] [204820] 156829976243529392801 2365795213343722582023 rfl hk3) (by rw [ups_len]; simp; exact lin [_] [] [663570] 598033 149058 rfl d3)
 obtain ⟨hd5,f5,I5,F3⟩:=L_fills (W:=W) (fl:=flE e4) (pc:=0) (rg:=regs0) (rows:=[row0]) (ld:=[]) (u:=ks.map encK) (by exact lin [] [_] [204820] 156829976243529392801 2365795213343722582023 rfl hk3) rs hd4 f4 (fun _ h=>h) I4
 refine ⟨ks,rs,hd5,f5,e4,I5,by omega,hk3,?_⟩
 have sm1:Builtin.Range.small 0 (1+d) 1=true:=small_of (by decide) (by exact ⟨lin [_,_] [] [4129,604462909807314587451459] 9681784946 566498883 rfl d0 pI60,lin [_,_] [] [204818,604462909807314587451459] 1149378802 566498883 rfl d1 pI60⟩) (by decide)
 have sm2:Builtin.Range.small 0 d' 1=true:=small_of (by decide) (by exact ⟨lin [_,_] [] [4129,604462909807314587451459] 282738 566498883 rfl d2 pI60,lin [_,_] [] [663570,604462909807314587451459] 65554 566498883 rfl d3 pI60⟩) (by decide)
 exact callTo_run [.r 8 (.s 1) [] (sA hd.c 64 mem0 fl1 0 regs0 [row0] []) [],.lp .next lW (sA hd2.c (64+64 * (ks.length:Nat)) f2 fl1 0 regs0 [row0] []) [.list (ks.map encK)] [],.lp .next lWr (sA hd4.c (64+64 * (ks.length:Nat)) f4 (flE e4) 0 regs0 [row0] []) [.list (ks.map encK),.list (rs.map encRk)] [],
   .lp .next lWr (sA hd5.c (64+64 * (ks.length:Nat)) f5 (flE e4) 0 regs0 [row0] []) [.list (ks.map encK),.fz (.lst (rs.map encRk))] []] fn_law_world kok gok rfl ⟨rfl,rfl,rfl,rfl⟩
  ⟨for_ok (us:=rs.map encRk) (sr_o (O'':=[.list (ks.map encK),.list (rs.map encRk)]) (ev_run [] kok gok ⟨rfl⟩ True.intro) rfl rfl) rfl rfl rfl F3,
  for_ok (sr_u (u:=.rng 0 d' 1) (ev_run [.r 1 (i_ d') [] (sA hd3.c (64+64 * (ks.length:Nat)) f2 fl1 0 regs0 [row0] []) []] kok gok ⟨rfl⟩ ⟨c2,True.intro⟩) ⟨sm2,pickN d2⟩) rfl rfl rfl F2,
  for_ok (sr_u (u:=.rng 0 (1+d) 1) (ev_run [.r 1 (i_ d) [] (sA hd1.c 64 mem0 fl1 0 regs0 [row0] []) []] kok gok ⟨rfl⟩ ⟨c1,True.intro⟩) ⟨sm1,pickN (by exact lin [_] [] [4129] 302551073 149058 rfl d0)⟩) rfl rfl rfl F1,n_Machine,True.intro⟩
end
section
variable {W:Wd KH}{n:Nat}{f:Int→Int}{fl rg rows ld:List U}{t pc:Int}
noncomputable def mB(K:Frag):Stmt:=stAt K 514 1
noncomputable def rowT:U:=.tup [.str "BR",.str "AL",.int 15,.int 0]
noncomputable def rowsT(k:Int):List U:=(List.replicate k.toNat [rowT]).flatten
noncomputable def ofM(x:U)(k:Int):List (Str × V):=[("name",.u x),("key",i_ k),("imports",.o 2),("rows",.o 12),("data_size",i_ 32),("words",.o 4),("data_fixups",.o 5),("fixups",.o 6),("entries",.o 7),("pointers",.o 13),("maps",.o 9),("commands",.o 10),("body",i_ 0)]
noncomputable def ofM0(x:U)(k:Int):List (Str × V):=[("name",.u x),("key",i_ k),("imports",.o 2),("rows",.o 12),("data_size",i_ 32),("words",.o 4),("data_fixups",.o 5),("fixups",.o 6),("entries",.o 7),("pointers",.o 8),("maps",.o 9),("commands",.o 10),("body",i_ 0)]
noncomputable def oM0(ws:List U)(x:U)(k:Int)(rw_:List U):List Cell:=[.list ws,.attrs 486 (ofM0 x k),.list [],.list [],.list [],.list [],.list [],.list [],.list [],.dict [] [],.dict [] [],.list [rowT],.list rw_]
noncomputable def oM(ws:List U)(x:U)(k:Int)(rw_ ps:List U)(mk:List Int)(mv:List U):List Cell:=[.list ws,.attrs 486 (ofM x k),.list [],.list [],.list [],.list [],.list [],.list [],.list [],.dict mk mv,.dict [] [],.list [rowT],.list rw_,.list ps]
noncomputable def ptE(K:Frag):Expr:=augE (subS (mB K) 3)
theorem C_ptr{ws rw_:List U}{x:U}{k:Int}:∀(us:List Int)(hd:Hd),∃ (l:List Int) (hd':Hd),l.Sublist us∧Cmp_ W 3 (scopeOf W.K 514) (.one "spot") (ptE W.K) [("hand",.s 0)] 13 (us.map U.int) (sA hd.c t f fl pc rg rows ld) (oM0 ws x k rw_) ((l.map (4 * ·)).map U.int) (sA (Hd.c hd') t f fl pc rg rows ld) (oM0 ws x k rw_):=by
 intro us
 induction us with
 | nil=>exact fun hd=>⟨[],hd,.slnil,.nil⟩
 | cons y us ih =>
  intro hd
  obtain ⟨d,hd1,c1,d0,d1⟩:=pick (W:=W) hd (R:=(sA hd.c t f fl pc rg rows ld).tail) (k:=4) (by decide) (by decide)
  obtain ⟨l,hd',hs,C⟩:=ih hd1
  by_cases q:d=0
  ·exact ⟨y :: l,hd',hs.cons_cons y,.yes (lc:=[("hand",.s 0),("spot",i_ y)]) rfl (ct_run [.r 1 (i_ d) [] (sA hd1.c t f fl pc rg rows ld) [],.d true] kok gok ⟨rfl⟩ ⟨.inl (by decide),decide_eq_true q,c1,True.intro⟩) rfl (Nat.le_refl _) C⟩
  ·exact ⟨l,hd',hs.cons y,.no (lc:=[("hand",.s 0),("spot",i_ y)]) (S1:=sA hd1.c t f fl pc rg rows ld) (O1:=oM0 ws x k rw_) rfl (ct_run [.r 1 (i_ d) [] (sA hd1.c t f fl pc rg rows ld) [],.d false] kok gok ⟨rfl⟩ ⟨decide_eq_false q,c1,True.intro⟩) rfl (Nat.le_refl _) C⟩
noncomputable def c67:Cell:=.list [.int 6,.int 7]
noncomputable def mpS(K:Frag):Stmt:=subS (mB K) 4
noncomputable def mpE(K:Frag):Expr:=augE (((ifB (subS (mpS K) 0))[0]?).getD (.Pass default))
theorem C_map{ws rw_ ps:List U}{x:U}{k:Int}{mk:List Int}{mv:List U}:∀(us:List Int)(hd:Hd),∃ (l:List Int) (hd':Hd),(l.length≤us.length∧∀ o∈l,∃ s∈us,o=4 * s-32)∧Cmp_ W 3 (scopeOf W.K 514) (.one "spot") (mpE W.K) [("hand",.s 0)] 14 (us.map U.int) (sA hd.c t f fl pc rg rows ld) (oM ws x k rw_ ps mk mv) (l.map U.int) (sA (Hd.c hd') t f fl pc rg rows ld) (oM ws x k rw_ ps mk mv):=by
 intro us
 induction us with
 | nil=>exact fun hd=>⟨[],hd,⟨Nat.le_refl _,(fun _ h=>nomatch h)⟩,.nil⟩
 | cons y us ih =>
  intro hd
  by_cases q1:y∈[(6:Int),7]
  ·obtain ⟨l,hd',hs,C⟩:=ih hd
   exact ⟨l,hd',⟨Nat.le_succ_of_le hs.1,fun o h=>by obtain ⟨s,a,b⟩:=hs.2 o h; exact ⟨s,.tail _ a,b⟩⟩,.no (lc:=[("hand",.s 0),("spot",i_ y)]) (S1:=sA hd.c t f fl pc rg rows ld) (O1:=oM ws x k rw_ ps mk mv++[c67]) rfl (ct_run [.is [6,7],.d false] kok gok ⟨rfl⟩ ⟨decide_eq_false fun h=>h q1,rfl,True.intro⟩) rfl (Nat.le_succ 14) C⟩
  ·obtain ⟨d,hd1,c1,d0,d1⟩:=pick (W:=W) hd (R:=(sA hd.c t f fl pc rg rows ld).tail) (k:=3) (by decide) (by decide)
   obtain ⟨l,hd',hs,C⟩:=ih hd1
   by_cases q:d=0
   ·exact ⟨(4 * y-32) :: l,hd',⟨Nat.succ_le_succ hs.1,fun o h=>by
     rcases List.mem_cons.mp h with rfl | h
     ·exact ⟨y,.head _,rfl⟩
     ·obtain ⟨s,a,b⟩:=hs.2 o h; exact ⟨s,.tail _ a,b⟩⟩,.yes (lc:=[("hand",.s 0),("spot",i_ y)]) (S1:=sA hd1.c t f fl pc rg rows ld) (O1:=oM ws x k rw_ ps mk mv++[c67]) rfl (ct_run [.is [6,7],.d true,.r 1 (i_ d) [] (sA hd1.c t f fl pc rg rows ld) [],.d true] kok gok ⟨rfl⟩ ⟨.inl (by decide),decide_eq_true q,c1,decide_eq_true q1,rfl,True.intro⟩) rfl (Nat.le_succ 14) C⟩
   ·exact ⟨l,hd',⟨Nat.le_succ_of_le hs.1,fun o h=>by obtain ⟨s,a,b⟩:=hs.2 o h; exact ⟨s,.tail _ a,b⟩⟩,.no (lc:=[("hand",.s 0),("spot",i_ y)]) (S1:=sA hd1.c t f fl pc rg rows ld) (O1:=oM ws x k rw_ ps mk mv++[c67]) rfl (ct_run [.is [6,7],.d true,.r 1 (i_ d) [] (sA hd1.c t f fl pc rg rows ld) [],.d false] kok gok ⟨rfl⟩ ⟨decide_eq_false q,c1,decide_eq_true q1,rfl,True.intro⟩) rfl (Nat.le_succ 14) C⟩
noncomputable def lMo(rs:List Rk):List (Str × V):=[("hand",.s 0),("machine",.s 1),("records",uR rs),("words",.o 0)]
noncomputable def lMm(rs:List Rk)(a:Int):List (Str × V):=lMo rs++[(("at":Str),i_ a),(("made":Str),V.o 1)]
noncomputable def MvB(l:List Int):Prop:=l.length≤12∧∀ o∈l,-32≤o∧o≤12∧o%4=0
theorem L_maps{rs:List Rk}{a:Int}{ws rw_ ps:List U}{x:U}{k:Int}:∀(n:Nat)(i:Int)(hd:Hd)(mk:List Int)(mv:List (List Int)),(∀ y∈mk,y < i)→0≤i→mk.length+n < 1000→(∀ l∈mv,MvB l)→∃ (mk':List Int) (mv':List (List Int)) (hd':Hd),(∀ l∈mv',MvB l) ∧
  Fo W 3 (scopeOf W.K 514) (.one "row") (whB (mpS W.K)) 14 ((ups i n).map U.int) ⟨lMm rs a,sA hd.c t f fl pc rg rows ld,oM ws x k rw_ ps mk (mv.map uI)⟩ .next ⟨lMm rs a,sA (Hd.c hd') t f fl pc rg rows ld,oM ws x k rw_ ps mk' (mv'.map uI)⟩:=by
 intro n
 induction n with
 | zero=>exact fun i hd mk mv _ _ _ hv=>⟨mk,mv,hd,hv,.nil⟩
 | succ n ih =>
  intro i hd mk mv hm hi hl hv
  obtain ⟨d,hd1,c1,d0,d1⟩:=pick (W:=W) hd (R:=(sA hd.c t f fl pc rg rows ld).tail) (k:=3) (by decide) (by decide)
  by_cases q:d < 2
  ·obtain ⟨l,hd2,hs,C⟩:=C_map (W:=W) (t:=t) (f:=f) (fl:=fl) (pc:=pc) (rg:=rg) (rows:=rows) (ld:=ld) (ws:=ws) (rw_:=rw_) (ps:=ps) (x:=x) (k:=k) (mk:=mk) (mv:=mv.map uI) (ups 0 12) hd1
   have hl2:MvB l:=⟨hs.1,fun o ho=>by
    obtain ⟨s,h1,h2⟩:=hs.2 o ho
    have:=ups_mem _ _ h1
    exact ⟨lin [_,_] [] [1132634886529043,135201] 8442049 9095470636353796 rfl h2 this.1,⟨lin [_,_] [] [1132634886529043,419968483394] 794641 9095470502136068 rfl h2 this.2,Int.le_antisymm (lin [_,_,_,_] [] [1132634886529043,107821094511155,4423762] 229457 17466901880707660517741186308 rfl h2 (dmA _ 4) (dmC _ 4 rfl)) (lin [_] [] [4129] 4129 149058 rfl (dmB _ 4 rfl))⟩⟩⟩
   obtain ⟨mk',mv',hd',hv',F⟩:=ih (i+1) hd2 (mk++[i]) (mv++[l]) (fun y hy=>by
    rcases List.mem_append.mp hy with h | h
    ·have:=hm y h; exact lin [_,_] [] [65554] 2550415378 149058 rfl this
    ·rw [List.mem_singleton.mp h]; exact lin [_] [] [] 302071826 449 rfl ) (by exact lin [_] [] [4129] 604147745 149058 rfl hi) (by rw [List.length_append,List.length_singleton]; exact lin [] [_,_] [70382763521384949] 70382247639261685 149058 rfl hl) (fun l' h=>by
    rcases List.mem_append.mp h with h | h
    ·exact hv l' h
    ·rw [List.mem_singleton.mp h]; exact hl2)
   rw [List.map_append] at F
   have hni:i ∉ mk:=fun h=>by have:=hm i h; exact lin [_] [] [18] 0 449 rfl this
   have hkl:mk.length≤sizeLine:=by rw [sizeLine_eq]; exact lin [] [_,_] [70382763521384949] 1099511635988 423746 rfl hl
   refine ⟨mk',mv',hd',hv',?_⟩
   exact .go (fl:=.next) (a':=⟨lMm rs a,sA hd2.c t f fl pc rg rows ld,oM ws x k rw_ ps (mk++[i]) (mv.map uI++[uI l])⟩) (b:=⟨lMm rs a++[(("row":Str),i_ i)],sA hd2.c t f fl pc rg rows ld,oM ws x k rw_ ps (mk++[i]) (mv.map uI++[uI l])++[Cell.fz (uI l)]⟩) rfl
    (bo_run [.r 1 (i_ d) [] (sA hd1.c t f fl pc rg rows ld) [],.d true,.ev (.o 14) (sA hd2.c t f fl pc rg rows ld) (oM ws x k rw_ ps mk (mv.map uI)++[Cell.list (l.map U.int)])] kok gok ⟨rfl⟩
     ⟨⟨hni,hkl⟩,comp_ok2 C rfl rfl rfl (sr_u (u:=.rng 0 12 1) (ev_run [] kok gok ⟨rfl⟩ True.intro) ⟨by decide,rfl⟩) (by decide) rfl rfl,decide_eq_true q,c1,True.intro⟩) (.inl rfl) (less_of [(("row":Str),i_ i)] rfl rfl rfl rfl) (Nat.le_refl _) F
  ·obtain ⟨mk',mv',hd',hv',F⟩:=ih (i+1) hd1 mk mv (fun y hy=>by have:=hm y hy; exact lin [_,_] [] [65554] 2550415378 149058 rfl this) (by exact lin [_] [] [4129] 604147745 149058 rfl hi) (by exact lin [] [_,_] [70382763521384949] 2147886342405 149058 rfl hl) hv
   refine ⟨mk',mv',hd',hv',?_⟩
   exact .go (fl:=.next) (a':=⟨lMm rs a,sA hd1.c t f fl pc rg rows ld,oM ws x k rw_ ps mk (mv.map uI)⟩) (b:=⟨lMm rs a++[(("row":Str),i_ i)],sA hd1.c t f fl pc rg rows ld,oM ws x k rw_ ps mk (mv.map uI)⟩) rfl
    (bo_run [.r 1 (i_ d) [] (sA hd1.c t f fl pc rg rows ld) [],.d false] kok gok ⟨rfl⟩ ⟨decide_eq_false q,c1,True.intro⟩) (.inl rfl) (less_of [(("row":Str),i_ i)] rfl rfl rfl rfl) (Nat.le_refl _) F
end
section
variable {W:Wd KH}{n:Nat}{f:Int→Int}{fl rg rows ld:List U}{t pc:Int}
noncomputable def oE(ws:List Int)(m:Md):List Cell:=[intsC ws,.fz (uOf m),.fz (.lst []),.list [],.fz (.lst []),.fz (.lst []),.fz (.lst []),.fz (.lst []),.list [],.fz (.dct m.mks (m.mvs.map uI)),.fz (.dct [] []),.list [rowT],.fz (.lst m.rws),.fz (uI m.ptrs),.fz (uLd m),.fz (.lst [])]
noncomputable def spS(K:Frag):Stmt:=subS (mB K) 6
theorem L_gw{rs:List Rk}{a:Int}{m:Md}{ws0:List Int}(hrs:rs.length < 1000)(hrr:∀ r∈rs,4≤r.1∧r.1 < 10000)(hd0:0≤m.db)(hd1:m.db+32≤1088)(hd4:m.db%4=0)(hws:ws0.length < 1000)(hld:ld.getLast?=some (uLd m))(hll:ld.length < 1000):∀(n:Nat)(i:Int)(hd:Hd)(f:Int→Int)(dn l:List Int),l.Sublist (ups i n)→(∀ s∈dn,0≤s∧s < i)→0≤i→i+n≤8→dn.length≤i→m.ptrs=(dn++l).map (4 * ·) →
  ∃ (hd':Hd) (f':Int→Int),(∀ b,b%4=0→(b < m.db+4 * i∨m.db+4 * (i+n)≤b)→at_ f' b=at_ f b) ∧
  Fo W 3 (scopeOf W.K 514) (.one "spot") (whB (spS W.K)) 16 ((ups i n).map U.int) ⟨lMm rs a,sA hd.c t f fl pc rg rows ld,oE (ws0++dn.map fun s=>at_ f (m.db+4 * s)) m⟩ .next ⟨lMm rs a,sA (Hd.c hd') t f' fl pc rg rows ld,oE (ws0++(dn++l).map fun s=>at_ f' (m.db+4 * s)) m⟩:=by
 intro n
 induction n with
 | zero =>
  intro i hd f dn l hs _ _ _ _ _
  cases hs
  rw [List.append_nil]
  exact ⟨hd,f,(fun _ _ _=>rfl),.nil⟩
 | succ n ih =>
  intro i hd f dn l hs hdn hi hin hdl hp
  obtain ⟨w,hd1',c1,w0,w1⟩:=c_law_word (W:=W) hd (R:=(sA hd.c t f fl pc rg rows ld).tail) hrs hrr
  have b0:0≤m.db+4 * i:=by exact lin [_,_] [] [4129,135201] 9347728052257 3385801839875 rfl hd0 hi
  have b1:m.db+4 * i < 3664:=by exact lin [_,_] [_] [74779692409169,4613562400121377] 128922274312004066 75438299157763 rfl hd1 hin
  have c2:CallTo W 2 356 [.s 2,i_ (m.db+4 * i),i_ w] (sA hd1'.c t f fl pc rg rows ld) (.u .none) [] (sA hd1'.c t (put f (m.db+4 * i) w) fl pc rg rows ld) []:=c_put_word b0 b1
  have keep:∀ s∈dn,at_ (put f (m.db+4 * i) w) (m.db+4 * s)=at_ f (m.db+4 * s):=fun s h=>by
   have:=hdn s h
   exact at_put_n (by exact Int.le_antisymm (lin [_,_,_,_,_,_] [] [8211,36352838672851,12240899667770275116196419,8781922] 393313 49128355079546559906686749562307281494277 rfl hd4 (dmA _ 4) (dmA _ 4) (dmC _ 4 rfl)) (lin [_] [] [4129] 4129 149058 rfl (dmB _ 4 rfl))) (by exact Int.le_antisymm (lin [_,_,_,_,_,_] [] [8211,36352838672851,12240899667770275116196419,8781922] 393313 49128355079546559906686749562307281494277 rfl hd4 (dmA _ 4) (dmA _ 4) (dmC _ 4 rfl)) (lin [_] [] [4129] 4129 149058 rfl (dmB _ 4 rfl))) (by exact fun z0=>lin [_,_,_] [] [65554,40148329857036935406051] 0 52634718979 rfl this.2 z0)
  have keepL:(dn.map fun s=>at_ (put f (m.db+4 * i) w) (m.db+4 * s))=dn.map fun s=>at_ f (m.db+4 * s):=List.map_congr_left keep
  have here:at_ (put f (m.db+4 * i) w) (m.db+4 * i)=w:=at_put_i w0 w1
  have frame:∀{g:Int→Int},(∀ b,b%4=0→(b < m.db+4 * (i+1)∨m.db+4 * (i+1+n)≤b)→at_ g b=at_ (put f (m.db+4 * i) w) b)→∀ b,b%4=0→(b < m.db+4 * i∨m.db+4 * (i+(n+1:Nat))≤b)→at_ g b=at_ f b:=fun {g} h b hb hr=>by
   rw [h b hb (by exact (Classical.em _).elim Or.inl fun z0=>Or.inr (hr.elim (fun z1=>lin [_,_,_] [_] [2738375498068672536,72575418122258] 31138293504951177061361 149058 rfl z0 z1) (fun z1=>lin [_,_,_] [_] [78214974004747791541185] 39725082545501042156465 149058 rfl z1)))]
   exact at_put_n (by exact Int.le_antisymm (lin [_,_,_,_,_,_] [] [8211,36352838672851,12240899667770275116196419,8781922] 393313 49128355079546559906686749562307281494277 rfl hd4 (dmA _ 4) (dmA _ 4) (dmC _ 4 rfl)) (lin [_] [] [4129] 4129 149058 rfl (dmB _ 4 rfl))) hb (by exact fun z0=>hr.elim (fun z1=>lin [_,_,_] [] [72575418122259,72575418122258] 0 8721475 rfl z0 z1) (fun z1=>lin [_,_,_] [_] [72575418122259,42513764403057682162689] 0 3377203647747 rfl z0 z1))
  have hln:(ws0++dn.map fun s=>at_ f (m.db+4 * s)).length≤2000:=by rw [List.length_append,List.length_map]; exact lin [_] [_,_,_] [65544213,4615754477511201,548993] 8590739939604 1204084480579 rfl hws hin hdl
  have hll2:ld.length < 2 ^ 62:=by exact lin [] [_,_] [65544213,2417851639229258349510726] 65557 566498883 rfl hll pN62
  generalize hf1:put f (m.db+4 * i) w=f1 at *
  rcases hs with _ | ⟨_,hs⟩ | ⟨_,hs⟩
  ·-- not a pointer
   obtain ⟨hd',f',fr,F⟩:=ih (i+1) hd1' f1 dn l hs (fun s h=>by have:=hdn s h; exact ⟨lin [_] [] [4129] 4129 149058 rfl this.1,lin [_,_] [] [65554] 2550415378 149058 rfl this.2⟩) (by exact lin [_] [] [4129] 604147745 149058 rfl hi) (by exact lin [_] [_] [576695291650545] 289480880169441 149058 rfl hin) (by exact lin [_] [_] [24625] 1208311857 149058 rfl hdl) hp
   rw [keepL] at F
   have hno:4 * i ∉ m.ptrs:=fun h=>by
    rw [hp] at h
    obtain ⟨s,h,e⟩:=List.mem_map.mp h
    have e:4 * s=4 * i:=e
    rcases List.mem_append.mp h with h | h
    ·have:=hdn s h; (rename_i q0; exact lin [_,_] [] [9347761553635,65554] 0 53171524355 rfl q0 this.2)
    ·have:=ups_mem _ _ (hs.subset h); (rename_i q0; exact lin [_,_] [] [9347761553635,1275207985] 0 53171458819 rfl q0 this.1)
   generalize (ws0++dn.map fun s=>at_ f (m.db+4 * s))=wsn at *
   refine ⟨hd',f',frame fr,?_⟩
   exact .go (fl:=.next) (a':=⟨lMm rs a,sA hd1'.c t f1 fl pc rg rows ld,oE wsn m⟩) (b:=⟨lMm rs a++[(("spot":Str),i_ i),(("word":Str),i_ w)],sA hd1'.c t f1 fl pc rg rows ld,oE wsn m⟩) rfl
    (bo_run [.r 2 (i_ w) [] (sA hd1'.c t f fl pc rg rows ld) [],.us [uLd m],.r 2 (.u .none) [] (sA hd1'.c t f1 fl pc rg rows ld) [],.is m.ptrs,.d false] kok gok ⟨rfl⟩
     ⟨decide_eq_false hno,rfl,.inl (by decide),c2,.inl (by decide),⟨rfl,hll2,hld⟩,c1,True.intro⟩) (.inl rfl) (less_of [(("spot":Str),i_ i),(("word":Str),i_ w)] rfl rfl rfl rfl) (Nat.le_refl _) F
  ·-- a pointer
   rename_i l'
   obtain ⟨hd',f',fr,F⟩:=ih (i+1) hd1' f1 (dn++[i]) l' hs (fun s h=>by
    rcases List.mem_append.mp h with h | h
    ·have:=hdn s h; exact ⟨lin [_] [] [4129] 4129 149058 rfl this.1,lin [_,_] [] [65554] 2550415378 149058 rfl this.2⟩
    ·rw [List.mem_singleton.mp h]; exact ⟨lin [_] [] [4129] 4129 149058 rfl hi,lin [_] [] [] 302071826 449 rfl ⟩) (by exact lin [_] [] [4129] 604147745 149058 rfl hi) (by exact lin [_] [_] [576695291650545] 289480880169441 149058 rfl hin) (by rw [List.length_append,List.length_singleton]; exact lin [_] [_] [24625] 79187520348465 149058 rfl hdl) (by rw [hp,List.append_assoc]; rfl)
   rw [List.map_append,keepL,← List.append_assoc,List.append_assoc dn [i] l'] at F
   have hyes:4 * i∈m.ptrs:=by rw [hp]; exact List.mem_map.mpr ⟨i,List.mem_append_right _ (.head _),rfl⟩
   have e1:[i].map (fun s=>at_ f1 (m.db+4 * s))=[w]:=by show [at_ f1 (m.db+4 * i)]=[w]; rw [here]
   rw [e1] at F
   have hl3:((ws0++dn.map fun s=>at_ f (m.db+4 * s)).map U.int).length≤sizeLine:=by rw [List.length_map,sizeLine_eq]; exact lin [] [_] [131080212] 1099511635988 149058 rfl hln
   have e2:intsC ((ws0++dn.map fun s=>at_ f (m.db+4 * s))++[w])=.list ((ws0++dn.map fun s=>at_ f (m.db+4 * s)).map U.int++[U.int w]):=intsC_app _ _
   have e3:oE ((ws0++dn.map fun s=>at_ f (m.db+4 * s))++[w]) m=.list ((ws0++dn.map fun s=>at_ f (m.db+4 * s)).map U.int++[U.int w]) :: (oE [] m).tail:=by unfold oE; rw [e2]; rfl
   rw [e3] at F
   generalize (ws0++dn.map fun s=>at_ f (m.db+4 * s))=wsn at *
   refine ⟨hd',f',frame fr,?_⟩
   exact .go (fl:=.next) (a':=⟨lMm rs a,sA hd1'.c t f1 fl pc rg rows ld,.list (wsn.map U.int++[U.int w]) :: (oE [] m).tail⟩) (b:=⟨lMm rs a++[(("spot":Str),i_ i),(("word":Str),i_ w)],sA hd1'.c t f1 fl pc rg rows ld,.list (wsn.map U.int++[U.int w]) :: (oE [] m).tail⟩) rfl
    (bo_run [.r 2 (i_ w) [] (sA hd1'.c t f fl pc rg rows ld) [],.us [uLd m],.r 2 (.u .none) [] (sA hd1'.c t f1 fl pc rg rows ld) [],.is m.ptrs,.d true] kok gok ⟨rfl⟩
     ⟨hl3,decide_eq_true hyes,rfl,.inl (by decide),c2,.inl (by decide),⟨rfl,hll2,hld⟩,c1,True.intro⟩) (.inl rfl) (less_of [(("spot":Str),i_ i),(("word":Str),i_ w)] rfl rfl rfl rfl) (Nat.le_refl _) F
end
section
variable {W:Wd KH}{n:Nat}{f:Int→Int}{fl rg rows:List U}{t pc:Int}
structure MdB(m:Md)(t:Int):Prop where
 d0:0≤m.db
 d1:m.db+32≤t
 d4:m.db%4=0
 po:∀ o∈m.ptrs,0≤o∧o < 32∧o%4=0
 mo:∀ l∈m.mvs,MvB l
 r0:2≤m.rws.length
 r1:m.rws.length≤7
 pl:m.ptrs.length≤8
theorem rowsT_len(k:Int):(rowsT k).length=k.toNat:=by
 unfold rowsT
 generalize k.toNat=n
 induction n with
 | zero=>rfl
 | succ n ih=>rw [List.replicate_succ,List.flatten_cons,List.length_append,ih,List.length_singleton]; exact Nat.le_antisymm (lin [] [_] [] 4949220139252 449 rfl ) (lin [] [_] [] 4957080166660 449 rfl )
theorem str_len{a:Int}(h0:0≤a)(h1:a < 4):(("M":Str)).length+(Str.ofString (toString a)).length≤sizeLine:=by
 have:a=0∨a=1∨a=2∨a=3:=by exact (Classical.em _).elim Or.inl fun z0=>Or.inr ((Classical.em _).elim Or.inl fun z1=>Or.inr ((Classical.em _).elim Or.inl fun z2=>Or.inr (Int.le_antisymm (lin [_] [] [270354] 204817 149058 rfl h1) ((Int.lt_or_gt_of_ne z0).elim (fun z3=>lin [_] [] [4129,8210] 102481 149058 rfl h0 z3) (fun z3=>(Int.lt_or_gt_of_ne z1).elim (fun z4=>lin [_] [] [4130,73746] 102481 149058 rfl z3 z4) (fun z4=>(Int.lt_or_gt_of_ne z2).elim (fun z5=>lin [_] [] [36930,139282] 102481 149058 rfl z4 z5) (fun z5=>lin [_] [] [69714] 102481 149058 rfl z5)))))))
 rcases this with rfl | rfl | rfl | rfl <;> decide
theorem L_mod{rs:List Rk}{a:Int}{ms:List Md}{ws:List Int}(hd:Hd)(ha0:0≤a)(ha1:a < 4)(hrs:rs.length < 1000)(hrr:∀ r∈rs,4≤r.1∧r.1 < 10000)(ht0:0≤t)(ht1:t+32≤1088)(ht4:t%4=0)(hws:ws.length < 1000)(hms:ms.length < 100)(hrw:rows.length < 1000):
  ∃ (m:Md) (hd':Hd) (f':Int→Int) (ex:List Cell),MdB m (t+32)∧m.db=t∧m.cb=rows.length∧(∀ b,b%4=0→(b < t∨t+32≤b)→at_ f' b=at_ f b) ∧
  BoS W 3 (scopeOf W.K 514) (whB (mB W.K)) ⟨lMo rs++[(("at":Str),i_ a)],sA hd.c t f fl pc rg rows (ms.map uLd),[intsC ws]⟩ .next ⟨lMo rs++[(("at":Str),i_ a),(("made":Str),V.o 1)],sA (Hd.c hd') (t+32) f' fl pc rg (rows++m.rws) (ms.map uLd++[uLd m]),intsC (ws++m.ptrs.map fun o=>at_ f' (m.db+o)) :: ex⟩:=by
 obtain ⟨d,hd1,c1,d0,d1⟩:=pick (W:=W) hd (R:=(sA hd.c t f fl pc rg rows (ms.map uLd)).tail) (k:=6) (by decide) (by decide)
 obtain ⟨l,hd2,hs,C⟩:=C_ptr (W:=W) (t:=t) (f:=f) (fl:=fl) (pc:=pc) (rg:=rg) (rows:=rows) (ld:=ms.map uLd) (ws:=ws.map U.int) (rw_:=rowsT (2+d)) (x:=.str (("M":Str)++Str.ofString (toString a))) (k:=a) (ups 0 8) hd1
 obtain ⟨mk,mv,hd3,hmv,F1⟩:=L_maps (W:=W) (t:=t) (f:=f) (fl:=fl) (pc:=pc) (rg:=rg) (rows:=rows) (ld:=ms.map uLd) (rs:=rs) (a:=a) (ws:=ws.map U.int) (rw_:=rowsT (2+d)) (ps:=(l.map (4 * ·)).map U.int) (x:=.str (("M":Str)++Str.ofString (toString a))) (k:=a) (rowsT (2+d)).length 0 hd2 [] [] (fun _ h=>nomatch h) (by decide) (by rw [rowsT_len]; simp; exact lin [_] [] [401426] 2147894862082 149058 rfl d1) (fun _ h=>nomatch h)
 have hrl:=rowsT_len (2+d)
 have hll:=hs.length_le
 rw [ups_len] at hll
 have hm:∀ s∈l,0≤s∧s < 8:=fun s h=>by have:=ups_mem _ _ (hs.subset h); exact ⟨lin [_] [] [4129] 4129 149058 rfl this.1,lin [_] [] [35316187154] 532498 149058 rfl this.2⟩
 obtain ⟨hd4,f4,fr,F2⟩:=L_gw (W:=W) (t:=t+32) (fl:=fl) (pc:=pc) (rg:=rg) (rows:=rows++rowsT (2+d)) (ld:=ms.map uLd++[uLd ⟨("M":Str)++Str.ofString (toString a),a,rows.length,t,rowsT (2+d),l.map (4 * ·),mk,mv⟩]) (rs:=rs) (a:=a) (m:=⟨("M":Str)++Str.ofString (toString a),a,rows.length,t,rowsT (2+d),l.map (4 * ·),mk,mv⟩) (ws0:=ws) hrs hrr ht0 ht1 ht4 hws (by rw [List.getLast?_append]; rfl) (by rw [List.length_append,List.length_map,List.length_singleton]; exact lin [] [_] [6561813] 2147903119621 149058 rfl hms) 8 0 hd3 f [] l hs (fun _ h=>nomatch h) (by decide) (by decide) (by decide) rfl
 have e1:((l.map (4 * ·)).map fun o=>at_ f4 (t+o))=l.map fun s=>at_ f4 (t+4 * s):=by rw [List.map_map]; rfl
 rw [List.map_nil,List.append_nil,List.nil_append] at F2
 have c2:=c_add_rows (W:=W) (h:=hd3.c) (t:=t) (f:=f) (fl:=fl) (pc:=pc) (rg:=rg) (rows:=rows) (ld:=ms.map uLd) (rs:=rowsT (2+d)) (by rw [hrl]; omega)
 have c3:CallTo W 2 413 [.s 1,i_ 32] (sA hd3.c t f fl pc rg (rows++rowsT (2+d)) (ms.map uLd)) (i_ t) [] (sA hd3.c (t+32) f fl pc rg (rows++rowsT (2+d)) (ms.map uLd)) []:=c_add_data (by decide) (by show t+32≤1088; exact lin [_] [] [74779692409169] 74779692409169 149058 rfl ht1)
 have hsl:=str_len ha0 ha1
 have hsm:Builtin.Range.small 0 ((rowsT (2+d)).length:Nat) 1=true:=small_of (by decide) (by rw [hrl]; omega) (by decide)
 have hri:((ups 0 (rowsT (2+d)).length).map U.int)=rangeU 0 ((rowsT (2+d)).length:Nat) 1:=by rw [rangeU_eq,rng_ups]
 have hrz:(rowsT (2+d)).length < 2 ^ 63:=by rw [hrl]; omega
 have hmz:(ms.map uLd).length≤sizeLine:=by rw [List.length_map,sizeLine_eq]; exact lin [] [_] [6561813] 1099511635988 149058 rfl hms
 have hk:0≤2+d∧2+d < 2 ^ 20∧[rowT].length≤8:=⟨by exact lin [_] [] [4129] 571117601 149058 rfl d0,by exact lin [_,_] [] [401426,549755912259] 2290262274 566498883 rfl d1 pI20,by decide⟩
 have hab:a.natAbs < 2 ^ 60:=by omega
 have e4:(l.map (4 * ·)).length≤8:=by rw [List.length_map]; exact hll
 refine ⟨⟨("M":Str)++Str.ofString (toString a),a,rows.length,t,rowsT (2+d),l.map (4 * ·),mk,mv⟩,hd4,f4,(oE [] ⟨("M":Str)++Str.ofString (toString a),a,rows.length,t,rowsT (2+d),l.map (4 * ·),mk,mv⟩).tail,⟨ht0,Int.le_refl _,ht4,fun o ho=>?_,hmv,by rw [hrl]; exact (tN (2+d)).elim (fun z0=>lin [_] [_] [4129,1142251571] 69716 554112579 rfl d0 z0.2) (fun z0=>lin [_] [_] [4129,411214082] 69716 149058 rfl d0 z0.1),by rw [hrl]; omega,e4⟩,rfl,rfl,fun b hb hr=>fr b hb ?_,?_⟩
 ·obtain ⟨s,h,rfl⟩:=List.mem_map.mp ho
  have:=hm s h
  show 0≤4 * s∧4 * s < 32∧4 * s%4=0
  exact ⟨lin [_] [] [4129] 134680609 35454784259 rfl this.1,⟨lin [_] [] [532498] 17280647394 35454784259 rfl this.2,Int.le_antisymm (lin [_,_,_] [] [594537891930513875,2195522] 98369 190670755247105448102148 rfl (dmA _ 4) (dmC _ 4 rfl)) (lin [_] [] [4129] 4129 149058 rfl (dmB _ 4 rfl))⟩⟩
 ·show b < t+4 * 0∨t+4 * (0+8)≤b
  exact (Classical.em _).elim Or.inl fun z0=>Or.inr (hr.elim (fun z1=>lin [_,_] [] [6604720455704,65554] 1175480188499272465 149058 rfl z0 z1) (fun z1=>lin [_,_] [] [73031262545] 2452778032767738593 149058 rfl z1))
 ·show BoS _ _ _ _ _ _ ⟨_,_,intsC (ws++((l.map (4 * ·)).map fun o=>at_ f4 (t+o))) :: _⟩
  rw [e1]
  have hl3:[U.int (2+d)].length=1:=rfl
  clear hrl hll hm fr e1 hmv hs
  generalize (l.map fun s=>at_ f4 (t+4 * s))=nw at *
  generalize l.map (4 * ·)=ps at *
  exact bo_run [.r 2 (.o 0) [.attrs 486 (ofs (.str (("M":Str)++Str.ofString (toString a))) a),.list [],.list [],.list [],.list [],.list [],.list [],.list [],.dict [] [],.dict [] []] (sA hd.c t f fl pc rg rows (ms.map uLd)) [],
    .r 1 (i_ d) [] (sA hd1.c t f fl pc rg rows (ms.map uLd)) [],
    .ev (.o 13) (sA hd2.c t f fl pc rg rows (ms.map uLd)) (oM0 (ws.map U.int) (.str (("M":Str)++Str.ofString (toString a))) a (rowsT (2+d))++[Cell.list (ps.map U.int)]),
    .lp .next (lMm rs a) (sA hd3.c t f fl pc rg rows (ms.map uLd)) (oM (ws.map U.int) (.str (("M":Str)++Str.ofString (toString a))) a (rowsT (2+d)) (ps.map U.int) mk (mv.map uI)) [],
    .r 1 (i_ rows.length) [] (sA hd3.c t f fl pc rg (rows++rowsT (2+d)) (ms.map uLd)) [],
    .r 2 (i_ t) [] (sA hd3.c (t+32) f fl pc rg (rows++rowsT (2+d)) (ms.map uLd)) [],
    .r 2 (.o 0) [.attrs 215 [("name",.u (.str (("M":Str)++Str.ofString (toString a)))),("key",i_ a),("code_base",i_ rows.length),("data_base",i_ t),("object",.u (uOf ⟨("M":Str)++Str.ofString (toString a),a,rows.length,t,rowsT (2+d),ps,mk,mv⟩)),("clients",.o 1)],.list []] (sA hd3.c (t+32) f fl pc rg (rows++rowsT (2+d)) (ms.map uLd)) [],
    .lp .next (lMm rs a) (sA hd4.c (t+32) f4 fl pc rg (rows++rowsT (2+d)) (ms.map uLd++[uLd ⟨("M":Str)++Str.ofString (toString a),a,rows.length,t,rowsT (2+d),ps,mk,mv⟩])) (intsC (ws++nw) :: (oE [] ⟨("M":Str)++Str.ofString (toString a),a,rows.length,t,rowsT (2+d),ps,mk,mv⟩).tail) []] kok gok ⟨rfl⟩
   ⟨for_ok (sr_u (u:=.rng 0 8 1) (ev_run [] kok gok ⟨rfl⟩ True.intro) ⟨by decide,rfl⟩) rfl rfl rfl F2,hmz,n_Loaded,c3,c2,
   for_ok (sr_u (u:=.rng 0 ((rowsT (2+d)).length:Nat) 1) (ev_run [] kok gok ⟨rfl⟩ ⟨hrz,True.intro⟩) ⟨hsm,hri⟩) rfl rfl rfl F1,
   comp_ok2 C rfl rfl rfl (sr_u (u:=.rng 0 8 1) (ev_run [] kok gok ⟨rfl⟩ True.intro) ⟨by decide,rfl⟩) (by decide) rfl rfl,hk,c1,n_ObjectFile,hsl,hab,True.intro⟩
end
section
variable {W:Wd KH}{n:Nat}{fl rg rows:List U}{pc:Int}
noncomputable def CodeC:Int→List Md→Int→Prop
 | c,[],e=>c=e
 | c,m :: ms,e=>m.cb=c∧CodeC (c+(m.rws.length:Nat)) ms e
theorem CodeC.snoc{m:Md}:∀{ms:List Md}{c e:Int},CodeC c ms e→m.cb=e→CodeC c (ms++[m]) (e+(m.rws.length:Nat))
 | [],c,e,h,hm=>by
  have h:c=e:=h
  subst h
  exact ⟨hm,rfl⟩
 | m0 :: ms,c,e,⟨h1,h2⟩,hm=>⟨h1,h2.snoc hm⟩
structure MI(ms:List Md)(rows:List U)(t0 t:Int)(f:Int→Int)(ws:List Int):Prop where
 code:CodeC 1 ms rows.length
 each:∀ m∈ms,MdB m t
 top:t=t0+32 * (ms.length:Nat)
 rws:(rows.length:Int)=1+(rows.length-1:Nat)∧rows.length≤1+7 * ms.length
 words:gRoots f ms=ws
 wl:ws.length≤8 * ms.length
theorem gRoots_cong{f f':Int→Int}{t:Int}:∀{ms:List Md},(∀ m∈ms,MdB m t)→(∀ b,b%4=0→b < t→at_ f' b=at_ f b)→gRoots f' ms=gRoots f ms
 | [],_,_=>rfl
 | m :: ms,h,e=>by
  have b:=h m (.head _)
  show (m.ptrs.map fun o=>at_ f' (m.db+o))++gRoots f' ms=(m.ptrs.map fun o=>at_ f (m.db+o))++gRoots f ms
  rw [gRoots_cong (fun m h'=>h m (.tail _ h')) e]
  congr 1
  refine List.map_congr_left fun o ho=>?_
  have p:=b.po o ho
  have q1:=b.d1
  have q4:=b.d4
  exact e _ (by exact Int.le_antisymm (lin [_,_,_,_,_,_,_,_] [] [8211,98371,107821094511075,5704335279923763,1817032938005295931987,8880226] 491617 77985824526868493298273709341573517420103513459994885 rfl p.2.2 q4 (dmA _ 4) (dmA _ 4) (dmA _ 4) (dmC _ 4 rfl)) (lin [_] [] [4129] 4129 149058 rfl (dmB _ 4 rfl))) (by exact lin [_,_,_] [] [2105362,1134072832385] 2214732018 25499203 rfl p.2.1 q1)
theorem MdB.mono{m:Md}{t t':Int}(h:MdB m t)(ht:t≤t'):MdB m t':=⟨h.d0,Int.le_trans h.d1 ht,h.d4,h.po,h.mo,h.r0,h.r1,h.pl⟩
theorem L_mods{rs:List Rk}{t0:Int}(hrs:rs.length < 1000)(hrr:∀ r∈rs,4≤r.1∧r.1 < 10000)(h0:0≤t0)(h4:t0%4=0)(ht:t0+32 * 4≤1088):∀(us:List Int)(ms:List Md)(rows:List U)(hd:Hd)(f:Int→Int)(t:Int)(ws:List Int),(∀ a∈us,0≤a∧a < 4)→us.length+ms.length≤4→MI ms rows t0 t f ws→0 < rows.length →
  ∃ (ms':List Md) (rows':List U) (hd':Hd) (f':Int→Int) (t':Int) (ws':List Int),MI ms' rows' t0 t' f' ws'∧ms'.length=us.length+ms.length∧(∀ b,b%4=0→(b < t∨t'≤b)→at_ f' b=at_ f b)∧0 < rows'.length ∧
  Fo W 3 (scopeOf W.K 514) (.one "at") (whB (mB W.K)) 1 (us.map U.int) ⟨lMo rs,sA hd.c t f fl pc rg rows (ms.map uLd),[intsC ws]⟩ .next ⟨lMo rs,sA (Hd.c hd') t' f' fl pc rg rows' (ms'.map uLd),[intsC ws']⟩:=by
 intro us
 induction us with
 | nil=>exact fun ms rows hd f t ws _ _ I hr=>⟨ms,rows,hd,f,t,ws,I,(Nat.zero_add _).symm,(fun _ _ _=>rfl),hr,.nil⟩
 | cons a us ih =>
  intro ms rows hd f t ws ha hl I hr
  rw [List.length_cons] at hl
  have ha0:=ha a (.head _)
  have top:=I.top
  have rl:=I.rws
  have wl:=I.wl
  obtain ⟨m,hd1,f1,ex,B,m1,m2,fr,S⟩:=L_mod (W:=W) (f:=f) (fl:=fl) (pc:=pc) (rg:=rg) (rows:=rows) (t:=t) (rs:=rs) (a:=a) (ms:=ms) (ws:=ws) hd ha0.1 ha0.2 hrs hrr (by exact lin [_,_] [_] [4129,228712377909315] 135201 4629704918163537990 rfl h0 top) (by exact lin [_,_] [_,_] [1225193504284647985,294978438308340,2480512191594563] 598237606191489 793558557839242696377197934598 rfl ht hl top) (by exact Int.le_antisymm (lin [_,_,_,_,_,_] [_] [8211,3659400185806915,73736234050019,4859910349791827,8814690] 426081 62943945970147932418243848269867708377561377029 rfl h4 top (dmA _ 4) (dmA _ 4) (dmC _ 4 rfl)) (lin [_] [] [4129] 4129 149058 rfl (dmB _ 4 rfl))) (by exact lin [] [_,_,_] [294978438308340,36512006228] 1048772693 2224932540484 rfl hl wl) (by exact lin [] [_,_] [294978438308340] 52527173 354114 rfl hl) (by exact lin [] [_,_,_] [294978438308340,1187629597261908] 1048772693 7772444739 rfl hl rl.2)
  have r0:=B.r0
  have r1:=B.r1
  have I2:MI (ms++[m]) (rows++m.rws) t0 (t+32) f1 (ws++m.ptrs.map fun o=>at_ f1 (m.db+o)):=by
   refine ⟨?_,fun m' h=>?_,by rw [List.length_append,List.length_singleton,top]; exact Int.le_antisymm (lin [_] [_] [] 2921523641362228694062934535447361 449 rfl ) (lin [_] [_] [] 2614529865907774035143786556859137 449 rfl ),by rw [List.length_append,List.length_append,List.length_singleton]; omega,?_,?_⟩
   ·have:=I.code.snoc m2
    rwa [List.length_append,Int.natCast_add]
   ·rcases List.mem_append.mp h with h | h
    ·exact (I.each m' h).mono (by exact lin [_] [] [] 8623570961 449 rfl )
    ·rw [List.mem_singleton.mp h]; exact B
   ·have:gRoots f1 (ms++[m])=gRoots f1 ms++m.ptrs.map fun o=>at_ f1 (m.db+o):=by unfold gRoots; rw [List.flatMap_append]; simp
    rw [this,gRoots_cong I.each fun b hb hlt=>fr b hb (.inl hlt),I.words]
   ·have:=B.pl
    rw [List.length_append,List.length_append,List.length_map,List.length_singleton]; exact lin [] [_,_,_] [2281996308,8585300] 5476984096896885012 25499203 rfl wl this
  obtain ⟨ms',rows',hd',f',t',ws',I',hl',fr',hr',F⟩:=ih (ms++[m]) (rows++m.rws) hd1 f1 (t+32) _ (fun a h=>ha a (.tail _ h)) (by rw [List.length_append,List.length_singleton]; exact lin [] [_,_] [294978438308340] 295494320431604 149058 rfl hl) I2 (by rw [List.length_append]; exact lin [] [_,_] [69716] 268996645 2389826 rfl r0)
  have top':=I'.top
  rw [List.map_append] at F
  refine ⟨ms',rows',hd',f',t',ws',I',by rw [hl',List.length_append,List.length_singleton,List.length_cons]; exact Nat.le_antisymm (lin [] [_,_] [] 10108997045093272691188 449 rfl ) (lin [] [_,_] [] 11216845468582350954996 449 rfl ),fun b hb h=>?_,hr',?_⟩
  ·have e1:ms'.length=us.length+(ms.length+1):=by rw [hl',List.length_append,List.length_singleton]
   rw [fr' b hb (by exact (Classical.em _).elim Or.inl fun z0=>Or.inr (h.elim (fun z1=>lin [_,_,_] [] [69122408472,65554] 65617 149058 rfl z0 z1) (fun z1=>lin [_,_] [] [65553] 65553 149058 rfl z1))),fr b hb (by exact (Classical.em _).elim Or.inl fun z0=>Or.inr (h.elim (fun z1=>lin [_,_] [] [65560,65554] 34561204609 149058 rfl z0 z1) (fun z1=>lin [_,_,_,_] [_,_,_] [228712511717395,39688197206507603,158374774341702,3211345] 210470216017 5197764878732963127916294813538310 rfl top top' e1 z1)))]
  ·exact .go (fl:=.next) (a':=⟨lMo rs,sA hd1.c (t+32) f1 fl pc rg (rows++m.rws) (ms.map uLd++[uLd m]),[intsC (ws++m.ptrs.map fun o=>at_ f1 (m.db+o))]⟩) rfl S (.inl rfl) (less_of [(("at":Str),i_ a),(("made":Str),V.o 1)] rfl rfl rfl rfl) (Nat.le_refl _) F
theorem fn_law_modules:FnP W 514 ["hand","machine","records"]:=fn_mk (by rfl) (by rfl) (by rfl) (fun _ _ _ _ _=>BindsTo.of_eq rfl) (by rfl) (by rfl) rfl rfl rfl
theorem c_law_modules{rs:List Rk}{f:Int→Int}{t:Int}(hd:Hd)(hrs:rs.length < 1000)(hrr:∀ r∈rs,4≤r.1∧r.1 < 10000)(h0:0≤t)(h4:t%4=0)(ht:t+32 * 4≤1088):
  ∃ (ms:List Md) (rows:List U) (hd':Hd) (f':Int→Int) (t':Int) (ws:List Int),MI ms rows t t' f' ws∧ms.length≤3∧(∀ b,b%4=0→(b < t∨t'≤b)→at_ f' b=at_ f b) ∧
  CallTo W 4 514 [.s 0,.s 1,uR rs] (sA hd.c t f fl pc rg [row0] []) (.o 0) [intsC ws] (sA (Hd.c hd') t' f' fl pc rg rows (ms.map uLd)) []:=by
 obtain ⟨d,hd1,c1,d0,d1⟩:=pick (W:=W) hd (R:=(sA hd.c t f fl pc rg [row0] []).tail) (k:=4) (by decide) (by decide)
 obtain ⟨ms,rows,hd',f',t',ws,I,hl,fr,hr,F⟩:=L_mods (W:=W) (fl:=fl) (pc:=pc) (rg:=rg) hrs hrr h0 h4 ht (ups 0 d.toNat) [] [row0] hd1 f t [] (fun a h=>by have:=ups_mem _ _ h; omega) (by rw [ups_len]; simp; exact lin [_] [] [270354] 270353 149058 rfl d1) ⟨rfl,(fun _ h=>nomatch h),by simp,⟨rfl,Nat.le_refl _⟩,rfl,Nat.zero_le _⟩ Nat.one_pos
 rw [ups_len,List.length_nil,Nat.add_zero] at hl
 have sm:Builtin.Range.small 0 d 1=true:=small_of (by decide) (by exact ⟨lin [_,_] [] [4129,604462909807314587451459] 282738 566498883 rfl d0 pI60,lin [_,_] [] [270354,604462909807314587451459] 65554 566498883 rfl d1 pI60⟩) (by decide)
 exact ⟨ms,rows,hd',f',t',ws,I,by omega,fr,callTo_run [.lp .next (lMo rs) (sA hd'.c t' f' fl pc rg rows (ms.map uLd)) [intsC ws] []] fn_law_modules kok gok rfl ⟨rfl,rfl,rfl,rfl⟩
  ⟨for_ok (O':=[intsC []]) (sr_u (u:=.rng 0 d 1) (ev_run [.r 1 (i_ d) [] (sA hd1.c t f fl pc rg [row0] []) []] kok gok ⟨rfl⟩ ⟨c1,True.intro⟩) ⟨sm,pickN d0⟩) rfl rfl rfl F,True.intro⟩⟩
end
section
variable {W:Wd KH}{n:Nat}{h:Cell}{f:Int→Int}{fl rg rows ld:List U}{t pc:Int}
noncomputable def lFr(rs:List Rk)(c:Int):List (Str × V):=[("hand",.s 0),("machine",.s 1),("records",uR rs),("words",.o 0),("count",i_ c),("rows",.o 4)]
noncomputable def lFa(rs:List Rk)(c a p:Int):List (Str × V):=lFr rs c++[(("at":Str),i_ a),(("fp":Str),i_ p)]
noncomputable def oF(ws:List Int)(rc rl:List Int):List Cell:=[intsC ws,.list [],intsC rc,.list [.int 0],intsC rl]
noncomputable def frB(K:Frag):Stmt:=stAt K 519 5
theorem L_fw{rs:List Rk}{c a p:Int}{ws rc rl:List Int}(hrs:rs.length < 1000)(hrr:∀ r∈rs,4≤r.1∧r.1 < 10000)(p0:32≤p)(p1:p+16 < 3664)(p4:p%4=0):∀(us:List Int)(hd:Hd)(f:Int→Int),(∀ o∈us,-32≤o∧o < 16∧o%4=0)→∃ (hd':Hd) (f':Int→Int),(∀ b,b%4=0→(b < p-32∨p+16≤b)→at_ f' b=at_ f b) ∧
  Fo W 3 (scopeOf W.K 519) (.one "spot") (whB (subS (frB W.K) 1)) 5 (us.map U.int) ⟨lFa rs c a p,sA hd.c t f fl pc rg rows ld,oF ws rc rl⟩ .next ⟨lFa rs c a p,sA (Hd.c hd') t f' fl pc rg rows ld,oF ws rc rl⟩:=by
 intro us
 induction us with
 | nil=>exact fun hd f _=>⟨hd,f,(fun _ _ _=>rfl),.nil⟩
 | cons o us ih =>
  intro hd f ho
  have h1:=ho o (.head _)
  obtain ⟨w,hd1,c1,w0,w1⟩:=c_law_word (W:=W) hd (R:=(sA hd.c t f fl pc rg rows ld).tail) hrs hrr
  obtain ⟨hd',f',fr,F⟩:=ih hd1 (put f (p+o) w) fun o h=>ho o (.tail _ h)
  refine ⟨hd',f',fun b hb hr=>?_,?_⟩
  ·rw [fr b hb hr]; exact at_put_n (by exact Int.le_antisymm (lin [_,_,_,_,_,_,_,_] [] [8211,98371,107821094511075,5704335279923763,1503433785152606184019,8880226] 491617 77985824526868493298273709341573517420103513459994885 rfl p4 h1.2.2 (dmA _ 4) (dmA _ 4) (dmA _ 4) (dmC _ 4 rfl)) (lin [_] [] [4129] 4129 149058 rfl (dmB _ 4 rfl))) hb (by exact fun z0=>hr.elim (fun z1=>lin [_,_,_] [] [8442049,2150268995,1105956929602] 0 554112579 rfl h1.1 z0 z1) (fun z1=>lin [_,_,_] [] [1056786,2150268995,584518377857] 0 285677123 rfl h1.2.1 z0 z1))
  ·exact .go (fl:=.next) (a':=⟨lFa rs c a p,sA hd1.c t (put f (p+o) w) fl pc rg rows ld,oF ws rc rl⟩) (b:=⟨lFa rs c a p++[(("spot":Str),i_ o)],sA hd1.c t (put f (p+o) w) fl pc rg rows ld,oF ws rc rl⟩) rfl
    (bo_run [.r 2 (i_ w) [] (sA hd1.c t f fl pc rg rows ld) [],.r 2 (.u .none) [] (sA hd1.c t (put f (p+o) w) fl pc rg rows ld) []] kok gok ⟨rfl⟩ ⟨c_put_word (by exact lin [_,_] [] [1052817,142659777] 537038881 553981507 rfl p0 h1.1) (by exact lin [_,_] [] [125900540649794,8486978] 7868782780674 25499203 rfl p1 h1.2.1),c1,True.intro⟩) (.inl rfl) (less_of [(("spot":Str),i_ o)] rfl rfl rfl rfl) (Nat.le_refl _) F
noncomputable def oneS(K:Frag):Stmt:=subS (frB K) 4
noncomputable def oneE(K:Frag):Expr:=augE (((ifB (subS (oneS K) 0))[0]?).getD (.Pass default))
theorem C_one{p:Int}{ws rc rl:List Int}:∀ us:List Int,(∀ o∈us,okA (p+o))→Cmp_ W 3 (scopeOf W.K 519) (.one "offset") (oneE W.K) [("machine",.s 1),("fp",i_ p)] 6 (us.map U.int) (sAh h t f fl pc rg rows) (oF ws rc rl++[Cell.fz (.lst [])]) ((us.map fun o=>at_ f (p+o)).map U.int) (sAh h t f fl pc rg rows) (oF ws rc rl++[Cell.fz (.lst [])]):=by
 intro us
 induction us with
 | nil=>exact fun _=>.nil
 | cons o us ih =>
  intro ho
  have ho0:=ho o (.head _)
  have c1:CallTo W 2 349 [.s 2,i_ (p+o)] (sAh h t f fl pc rg rows) (i_ (at_ f (p+o))) [] (sAh h t f fl pc rg rows) []:=c_word ho0.1 ho0.2
  exact .yes (lc:=[("machine",.s 1),("fp",i_ p),("offset",i_ o)]) rfl (ct_run [.r 2 (i_ (at_ f (p+o))) [] (sAh h t f fl pc rg rows) []] kok gok ⟨rfl⟩ ⟨c1,True.intro⟩) rfl (Nat.le_refl _) (ih fun o h=>ho o (.tail _ h))
noncomputable def oneW(f:Int→Int)(p r:Int):List Md→List Int
 | []=>[]
 | m :: ms=>(if m.has r then (dgetI m.mks m.mvs (r-m.cb)).map (fun o=>at_ f (p+o)) else [])++oneW f p r ms
theorem L_one{rs:List Rk}{c a p r:Int}{rc rl:List Int}(ha:0≤a)(ha2:a < 2 ^ 63)(hr:(rl.map U.int)[a.toNat]?=some (.int r)):∀(ms:List Md)(ws:List Int),(∀ m∈ms,m.rws.length < 1000∧(dgetI m.mks m.mvs (r-m.cb)).length≤1000∧∀ o∈dgetI m.mks m.mvs (r-m.cb),okA (p+o))→ws.length+1000 * ms.length≤1000000 →
  Fo W 3 (scopeOf W.K 519) (.one "one") (whB (oneS W.K)) 5 (ms.map uLd) ⟨lFa rs c a p,sAh h t f fl pc rg rows,oF ws rc rl⟩ .next ⟨lFa rs c a p,sAh h t f fl pc rg rows,oF (ws++oneW f p r ms) rc rl⟩:=by
 intro ms
 induction ms with
 | nil=>intro ws _ _; show Fo _ _ _ _ _ _ _ _ _ ⟨_,_,oF (ws++[]) rc rl⟩; rw [List.append_nil]; exact .nil
 | cons m ms ih =>
  intro ws hm hl
  rw [List.length_cons] at hl
  obtain ⟨m1,m2,m3⟩:=hm m (.head _)
  have hm':=fun m h=>hm m (.tail _ h)
  have mz:m.rws.length < 2 ^ 63:=Nat.lt_trans m1 (by decide)
  by_cases q:m.has r
  ·have C:=C_one (W:=W) (h:=h) (t:=t) (f:=f) (fl:=fl) (pc:=pc) (rg:=rg) (rows:=rows) (p:=p) (ws:=ws) (rc:=rc) (rl:=rl) _ m3
   have ih:=ih (ws++(dgetI m.mks m.mvs (r-m.cb)).map fun o=>at_ f (p+o)) hm' (by rw [List.length_append,List.length_map]; exact lin [] [_,_,_] [147573981990405410201314116,1048772692] 295147962771477769486902100 25499203 rfl hl m2)
   have e:oneW f p r (m :: ms)=((dgetI m.mks m.mvs (r-m.cb)).map fun o=>at_ f (p+o))++oneW f p r ms:=by show (if _ then _ else _)++_=_; rw [if_pos q]
   rw [e,← List.append_assoc]
   have hz:(ws.map U.int).length+(((dgetI m.mks m.mvs (r-m.cb)).map fun o=>at_ f (p+o)).map U.int).length≤sizeLine:=by rw [List.length_map,List.length_map,List.length_map,sizeLine_eq]; exact lin [] [_,_,_] [147573981990405410201314116,1048772692] 72057594843275540 77673557983757883110850634 rfl hl m2
   have hg:=dgetI_ok m.mks m.mvs (r-m.cb)
   have hul:((dgetI m.mks m.mvs (r-m.cb)).map U.int).length≤sizeLine:=by rw [List.length_map,sizeLine_eq]; exact lin [] [_] [65544212] 1099511635988 149058 rfl m2
   have e2:oF (ws++(dgetI m.mks m.mvs (r-m.cb)).map fun o=>at_ f (p+o)) rc rl=.list (ws.map U.int++((dgetI m.mks m.mvs (r-m.cb)).map fun o=>at_ f (p+o)).map U.int) :: (oF [] rc rl).tail:=by unfold oF; rw [intsC_app]; rfl
   rw [e2] at ih
   generalize ((dgetI m.mks m.mvs (r-m.cb)).map fun o=>at_ f (p+o)).map U.int=nw at *
   generalize hD:dgetI m.mks m.mvs (r-m.cb)=D at *
   have d1:=decide_eq_true q.1
   have d2:=decide_eq_true q.2
   have hx:0≤a∧a < 2 ^ 63∧(rl.map U.int)[a.toNat]?=some (.int r):=⟨ha,ha2,hr⟩
   refine .go (fl:=.next) (a':=⟨lFa rs c a p,sAh h t f fl pc rg rows,Cell.list (ws.map U.int++nw) :: (oF [] rc rl).tail⟩) (b:=⟨lFa rs c a p++[(("one":Str),V.u (uLd m))],sAh h t f fl pc rg rows,Cell.list (ws.map U.int++nw) :: ((oF [] rc rl).tail++[Cell.fz (.lst []),Cell.list nw])⟩) rfl ?_ (.inl rfl) (less_of [(("one":Str),V.u (uLd m))] rfl rfl rfl rfl) (Nat.le_refl _) ih
   exact bo_run [.a (.int r),.d true,.d true,.ev (.o 6) (sAh h t f fl pc rg rows) (oF ws rc rl++[Cell.fz (.lst []),Cell.list nw])] kok gok ⟨rfl⟩
    ⟨hz,comp_ok2 C rfl rfl rfl (sr_u (u:=uI D) (ev_run [.a (.int r),.a (uI D)] kok gok ⟨rfl⟩ ⟨hg,hx,True.intro⟩) rfl) hul rfl rfl,d2,mz,d1,hx,True.intro⟩
  ·have ih:=ih ws hm' (by exact lin [] [_,_] [147573981990405410201314116] 4503600506156573827668 149058 rfl hl)
   have e:oneW f p r (m :: ms)=oneW f p r ms:=by show (if _ then _ else _)++_=_; rw [if_neg q]; rfl
   rw [e]
   have hx:0≤a∧a < 2 ^ 63∧(rl.map U.int)[a.toNat]?=some (.int r):=⟨ha,ha2,hr⟩
   refine .go (fl:=.next) (a':=⟨lFa rs c a p,sAh h t f fl pc rg rows,oF ws rc rl⟩) (b:=⟨lFa rs c a p++[(("one":Str),V.u (uLd m))],sAh h t f fl pc rg rows,oF ws rc rl⟩) rfl ?_ (.inl rfl) (less_of [(("one":Str),V.u (uLd m))] rfl rfl rfl rfl) (Nat.le_refl _) ih
   by_cases q1:m.cb≤r
   ·exact bo_run [.a (.int r),.d true,.d false] kok gok ⟨rfl⟩ ⟨decide_eq_false fun q2=>q ⟨q1,q2⟩,mz,decide_eq_true q1,hx,True.intro⟩
   ·exact bo_run [.a (.int r),.d false] kok gok ⟨rfl⟩ ⟨decide_eq_false q1,hx,True.intro⟩
end
section
variable {W:Wd KH}{n:Nat}{f:Int→Int}{fl rg rows ld:List U}{t pc:Int}
theorem dgetI_mem:∀(ks:List Int)(us:List (List Int))(k:Int),dgetI ks us k=[]∨dgetI ks us k∈us
 | [],us,k=>.inl (by cases us <;> rfl)
 | k0 :: ks,[],k=>.inl rfl
 | k0 :: ks,u :: us,k=>by
  rw [dgetI]
  split
  ·exact .inr (.head _)
  ·exact (dgetI_mem ks us k).imp id (.tail _)
theorem MdB.dg{m:Md}{t:Int}(h:MdB m t)(k:Int):MvB (dgetI m.mks m.mvs k):=by
 rcases dgetI_mem m.mks m.mvs k with e | e
 ·rw [e]; exact ⟨Nat.zero_le _,(fun _ h=>nomatch h)⟩
 ·exact h.mo _ e
theorem oneW_no{p r:Int}:∀{ms:List Md}{c e:Int},CodeC c ms e→r < c→oneW f p r ms=[]
 | [],_,_,_,_=>rfl
 | m :: ms,c,e,⟨h1,h2⟩,hr=>by
  show (if _ then _ else _)++_=_
  rw [if_neg fun q=>by have:=q.1; exact lin [_,_,_] [] [65555,1114194,131089] 0 298194499 rfl h1 hr this,oneW_no h2 (by exact lin [_,_] [_] [65554] 1745109010 415554 rfl hr)]; rfl
theorem oneW_eq{p r:Int}:∀{ms:List Md}{c e:Int},CodeC c ms e→oneW f p r ms=(mapOf r ms).map fun o=>at_ f (p+o)
 | [],_,_,_=>rfl
 | m :: ms,c,e,⟨h1,h2⟩=>by
  show (if _ then _ else _)++_=_
  unfold mapOf modAt
  by_cases q:m.has r
  ·rw [if_pos q,if_pos q,oneW_no h2 (by have:=q.2; exact lin [_,_,_] [_] [65555,3222601810] 27921809490 25630275 rfl h1 this),List.append_nil]
  ·rw [if_neg q,if_neg q,List.nil_append,oneW_eq h2]
   rfl
theorem modAt_mem{r:Int}{m:Md}:∀{ms:List Md},modAt r ms=some m→m∈ms
 | [],e=>by cases e
 | m0 :: ms,e=>by
  unfold modAt at e
  split at e
  ·cases e; exact .head _
  ·exact .tail _ (modAt_mem e)
theorem mapOf_b{ms:List Md}{t r:Int}(h:∀ m∈ms,MdB m t):MvB (mapOf r ms):=by
 unfold mapOf
 split
 ·rename_i m e
  exact (h m (modAt_mem e)).dg _
 ·exact ⟨Nat.zero_le _,(fun _ h=>nomatch h)⟩
noncomputable def Frs(ms:List Md)(f:Int→Int):Int→List Int→List Int→Prop
 | _,[],_=>False
 | p,r :: rs,ws=>match rs with
  | []=>r=0∧ws=[]
  | r2 :: _=>0 < r∧r < 1000∧2900≤p∧p+16≤3664∧p%4=0∧at_ f (p-4)=r2∧at_ f (p-8)=p+128∧∃ ws',ws=(mapOf r ms).map (fun o=>at_ f (p+o))++ws'∧Frs ms f (p+128) rs ws'
theorem Frs.st{ms:List Md}{t:Int}(hm:∀ m∈ms,MdB m t):∀(rs:List Int)(p:Int)(ws:List Int)(i:Int),Frs ms f p rs ws→i+rs.length≤200→∃ k,StR ms f k (rs.headD 0) p i ws∧ws.length≤12 * rs.length
 | [],_,_,_,h,_=>h.elim
 | [r],p,ws,i,⟨h1,h2⟩,_=>by subst h1 h2; exact ⟨0,.stop,Nat.zero_le _⟩
 | r :: r2 :: rs,p,ws,i,⟨h1,h2,h3,h4,h5,h6,h7,ws',h8,h9⟩,hi=>by
  rw [List.length_cons,List.length_cons] at hi
  obtain ⟨k,s,l⟩:=Frs.st hm (r2 :: rs) (p+128) ws' (i+1) h9 (by rw [List.length_cons]; exact lin [_] [_] [461629097670965502689] 461619009393797898977 149058 rfl hi)
  have b:=mapOf_b (r:=r) hm
  have e:∀ o,-32≤o→o≤12→(p+o)%4294967296=p+o:=fun o h1 h2=>Int.emod_eq_of_lt (by exact lin [_,_] [] [95031537,142659777] 537038881 553981507 rfl h3 h1) (by exact lin [_,_] [] [125900540649793,6389825] 9223372037257470210 25499203 rfl h4 h2)
  have e4:(p-4)%4294967296=p-4:=Int.emod_eq_of_lt (by exact lin [_] [] [95031537] 2214776865 149058 rfl h3) (by exact lin [_] [] [125900540649793] 36893488149046538530 149058 rfl h4)
  have e8:(p-8)%4294967296=p-8:=Int.emod_eq_of_lt (by exact lin [_] [] [95031537] 4362260513 149058 rfl h3) (by exact lin [_] [] [125900540649793] 73786976298076254514 149058 rfl h4)
  have em:((mapOf r ms).map fun o=>at_ f ((p+o)%4294967296))=(mapOf r ms).map fun o=>at_ f (p+o):=List.map_congr_left fun o ho=>by
   have:=b.2 o ho
   rw [e o this.1 this.2.1]
  refine ⟨k+1,?_,by rw [h8,List.length_append,List.length_map,List.length_cons]; have:=b.1; exact lin [] [_,_,_] [2349105172,12779604] 2738494247471849732 25499203 rfl l this⟩
  rw [h8,← em]
  refine .go (by show r≠0; exact fun z0=>lin [_] [] [4130,8211] 0 149058 rfl h1 z0) (by exact lin [_] [_] [461629097670965502689] 16916498 415554 rfl hi) (fun o ho=>?_) (by rw [e4]; exact ⟨by exact lin [_] [] [95031537] 2214776865 149058 rfl h3,by exact lin [_] [] [125900540649793] 31475147780386 149058 rfl h4⟩) (by rw [e8]; exact ⟨by exact lin [_] [] [95031537] 4362260513 149058 rfl h3,by exact lin [_] [] [125900540649793] 62950278738226 149058 rfl h4⟩) ?_
  ·have:=b.2 o ho
   rw [e o this.1 this.2.1]; exact ⟨by exact lin [_,_] [] [95031537,142659777] 537038881 553981507 rfl h3 this.1,by exact lin [_,_] [] [125900540649793,6389825] 7868782780674 25499203 rfl h4 this.2.1⟩
  ·rw [e4,e8,h6,h7]; exact s
theorem Frs.cong{ms:List Md}{t:Int}{f':Int→Int}(hm:∀ m∈ms,MdB m t):∀(rs:List Int)(p:Int)(ws:List Int),Frs ms f p rs ws→(∀ b,b%4=0→p-32≤b→at_ f' b=at_ f b)→Frs ms f' p rs ws
 | [],_,_,h,_=>h.elim
 | [r],p,ws,h,_=>h
 | r :: r2 :: rs,p,ws,⟨h1,h2,h3,h4,h5,h6,h7,ws',h8,h9⟩,e=>by
  have b:=mapOf_b (r:=r) hm
  refine ⟨h1,h2,h3,h4,h5,(e _ (by exact Int.le_antisymm (lin [_,_,_,_,_] [] [8211,36352838672851,617978173998246765123,8781922] 393313 49128355079546559906686749562307281494277 rfl h5 (dmA _ 4) (dmA _ 4) (dmC _ 4 rfl)) (lin [_] [] [4129] 4129 149058 rfl (dmB _ 4 rfl))) (by exact lin [_] [] [] 1161183080001873 449 rfl )).trans h6,(e _ (by exact Int.le_antisymm (lin [_,_,_,_,_] [] [8211,36352838672851,1208273984356952416835,8781922] 393313 49128355079546559906686749562307281494277 rfl h5 (dmA _ 4) (dmA _ 4) (dmC _ 4 rfl)) (lin [_] [] [4129] 4129 149058 rfl (dmB _ 4 rfl))) (by exact lin [_] [] [] 2287082986844497 449 rfl )).trans h7,ws',?_,Frs.cong hm (r2 :: rs) (p+128) ws' h9 fun b hb hr=>e b hb (by exact lin [_,_] [] [306350362221851313] 73031266641 149058 rfl hr)⟩
  rw [h8]
  congr 1
  refine List.map_congr_left fun o ho=>?_
  have:=b.2 o ho
  exact (e _ (by exact Int.le_antisymm (lin [_,_,_,_,_,_,_,_] [] [8211,98371,107821094511075,5704335279923763,1503433785152606184019,8880226] 491617 77985824526868493298273709341573517420103513459994885 rfl h5 this.2.2 (dmA _ 4) (dmA _ 4) (dmA _ 4) (dmC _ 4 rfl)) (lin [_] [] [4129] 4129 149058 rfl (dmB _ 4 rfl))) (by exact lin [_,_] [] [8442049] 1128270930260353 149058 rfl this.1)).symm
end
section
variable {W:Wd KH}{n:Nat}{f:Int→Int}{fl rg rows ld:List U}{t pc:Int}
noncomputable def pA(c a:Int):Int:=3664-128 * (c+1-a)
theorem L_frames{rs:List Rk}{c:Int}{ms:List Md}{tt e:Int}{rc rl:List Int}(hrs:rs.length < 1000)(hrr:∀ r∈rs,4≤r.1∧r.1 < 10000)(hm:∀ m∈ms,MdB m tt)(hms:ms.length < 100)(hc:CodeC 1 ms e)(c0:0≤c)(c1:c≤4):∀(rsl pre:List Int)(hd:Hd)(f:Int→Int)(ws:List Int),rl=pre++(rsl++[0])→(pre.length:Int)+rsl.length=c→(∀ r∈rsl,0 < r∧r < 1000)→ws.length≤12 * pre.length →
  ∃ (hd':Hd) (f':Int→Int) (ws':List Int),(∀ b,b%4=0→b < pA c pre.length-32→at_ f' b=at_ f b)∧Frs ms f' (pA c pre.length) (rsl++[0]) ws' ∧
  Fo W 3 (scopeOf W.K 519) (.one "at") (whB (frB W.K)) 5 ((ups pre.length rsl.length).map U.int) ⟨lFr rs c,sA hd.c t f fl pc rg rows (ms.map uLd),oF ws rc rl⟩ .next ⟨lFr rs c,sA (Hd.c hd') t f' fl pc rg rows (ms.map uLd),oF (ws++ws') rc rl⟩:=by
 intro rsl
 induction rsl with
 | nil=>intro pre hd f ws _ _ _ _; exact ⟨hd,f,[],(fun _ _ _=>rfl),⟨rfl,rfl⟩,by rw [List.append_nil]; exact .nil⟩
 | cons r rsl ih =>
  intro pre hd f ws e1 hl hr hw
  rw [List.length_cons,Int.natCast_add,Int.natCast_one] at hl
  obtain ⟨r2,hr2⟩:∃ r2,(rsl++[0]).head?=some r2:=by cases rsl <;> exact ⟨_,rfl⟩
  have hr2v:0≤r2∧r2 < 4294967296:=by
   cases rsl with
   | nil=>cases hr2; decide
   | cons x y=>cases hr2; have:=hr _ (.tail _ (.head _)); exact ⟨lin [_] [] [4130] 4129 149058 rfl this.1,lin [_] [] [65544210] 281474976718866 149058 rfl this.2⟩
  have h0:=hr r (.head _)
  have hp0:0≤(pre.length:Int):=Int.natCast_nonneg _
  have i1:(rl.map U.int)[((pre.length:Nat):Int).toNat]?=some (.int r):=by rw [e1,Int.toNat_natCast,List.getElem?_map,List.getElem?_append_right (Nat.le_refl _),Nat.sub_self]; rfl
  have i2:(rl.map U.int)[((pre.length:Nat)+1:Int).toNat]?=some (.int r2):=by
   rw [e1,show ((pre.length:Nat)+1:Int).toNat=pre.length+1 by omega,List.getElem?_map,List.getElem?_append_right (by exact lin [] [_] [] 302071828 449 rfl :pre.length≤pre.length+1),show pre.length+1-pre.length=1 by omega]
   rw [List.head?_eq_getElem?] at hr2
   show ((rsl++[0])[0]?).map U.int=_
   rw [hr2]; rfl
  have hP:pA c (pre.length:Nat)+128=pA c ((pre.length:Nat)+1):=by unfold pA; exact Int.le_antisymm (lin [_] [_] [] 489695349656453056016915597687892385521087242721078878250513 449 rfl ) (lin [_] [_] [] 402448661517726370567465278524041433626977109799600086562209 449 rfl )
  have hPb:2900≤pA c (pre.length:Nat)∧pA c (pre.length:Nat)+16≤3600∧pA c (pre.length:Nat)%4=0:=by unfold pA; exact ⟨lin [_] [_] [270353] 4159575867056259938415391936753 78581363496483413966217224 rfl c1,⟨lin [_] [_,_] [167954343895619] 2336655857684436090934863556791084513 79185835629662767555829768 rfl hl,Int.le_antisymm (lin [_,_,_] [_] [1095581304966709771314835890717008339,2195522] 98369 190670755247105448102148 rfl (dmA _ 4) (dmC _ 4 rfl)) (lin [_] [] [4129] 4129 149058 rfl (dmB _ 4 rfl))⟩⟩
  have hpl:(pre++[r]).length=pre.length+1:=by rw [List.length_append]; rfl
  obtain ⟨hd1,f1,fr1,F1⟩:=L_fw (W:=W) (t:=t) (fl:=fl) (pc:=pc) (rg:=rg) (rows:=rows) (ld:=ms.map uLd) (c:=c) (a:=pre.length) (p:=pA c (pre.length:Nat)) (ws:=ws) (rc:=rc) (rl:=rl) hrs hrr (by exact lin [_] [] [95031537] 1052817 149058 rfl hPb.1) (by exact lin [_] [] [123701517394241] 125900540649794 149058 rfl hPb.2.1) hPb.2.2 (rngI (-32) 16 4) hd f (fun o h=>by have:=mem_rng.mp h; exact ⟨lin [_] [] [8442049] 8442049 149058 rfl this.1,⟨lin [_] [] [1056786] 1056786 149058 rfl this.2.1,Int.le_antisymm (lin [_,_,_,_,_] [] [8211,297093555944843452883,4647704605598275,8781922] 393313 49128355079546559906686749562307281494277 rfl this.2.2 (dmA _ 4) (dmA _ 4) (dmC _ 4 rfl)) (lin [_] [] [4129] 4129 149058 rfl (dmB _ 4 rfl))⟩⟩)
  have hbm:∀ m∈ms,m.rws.length < 1000∧(dgetI m.mks m.mvs (r-m.cb)).length≤1000∧∀ o∈dgetI m.mks m.mvs (r-m.cb),okA (pA c (pre.length:Nat)+o):=fun m h=>by
   have B:=hm m h
   have D:=B.dg (r-m.cb)
   have r1:=B.r1
   have l1:=D.1
   refine ⟨by exact lin [] [_] [466964] 65544213 149058 rfl r1,by exact lin [] [_] [794644] 65544212 149058 rfl l1,fun o ho=>?_⟩
   have:=D.2 o ho
   exact ⟨by exact lin [_,_] [] [95031537,142659777] 537038881 553981507 rfl hPb.1 this.1,by exact lin [_,_] [] [123701517394241,6389825] 7868782780674 25499203 rfl hPb.2.1 this.2.1⟩
  have W1:=oneW_eq (f:=put (put f1 (pA c (pre.length:Nat)-4) r2) (pA c (pre.length:Nat)-8) (pA c (pre.length:Nat)+128)) (p:=pA c (pre.length:Nat)) (r:=r) hc
  have O:=L_one (W:=W) (h:=hd1.c) (t:=t) (f:=put (put f1 (pA c (pre.length:Nat)-4) r2) (pA c (pre.length:Nat)-8) (pA c (pre.length:Nat)+128)) (fl:=fl) (pc:=pc) (rg:=rg) (rows:=rows) (rs:=rs) (c:=c) (a:=pre.length) (p:=pA c (pre.length:Nat)) (r:=r) (rc:=rc) (rl:=rl) hp0 (by exact lin [_,_] [_,_] [270353,167954343895619,4835703278458516698923075] 286770 2322582624556100 rfl c1 hl pI63) i1 ms ws hbm (by exact lin [_] [_,_,_,_] [6561813,270353,5361290151436947,37585780820] 4503600740099013386836 349470157955492839116691417909333198241866 rfl hms c1 hl hw)
  rw [W1] at O
  have mb:=mapOf_b (r:=r) hm
  obtain ⟨hd',f',ws',fr',FR,F⟩:=ih (pre++[r]) hd1 (put (put f1 (pA c (pre.length:Nat)-4) r2) (pA c (pre.length:Nat)-8) (pA c (pre.length:Nat)+128)) (ws++(mapOf r ms).map fun o=>at_ (put (put f1 (pA c (pre.length:Nat)-4) r2) (pA c (pre.length:Nat)-8) (pA c (pre.length:Nat)+128)) (pA c (pre.length:Nat)+o)) (by rw [e1,List.append_assoc]; rfl) (by rw [hpl]; exact Int.le_antisymm (lin [_] [_,_] [167954343895619] 310337878991441 8655939 rfl hl) (lin [_] [_,_] [167954343895619] 620675757981713 8721475 rfl hl)) (fun r h=>hr r (.tail _ h)) (by rw [List.length_append,List.length_map,hpl]; have:=mb.1; exact lin [] [_,_,_] [2349105172,12779604] 5476988494943396116 25499203 rfl hw this)
  rw [hpl,Int.natCast_add,Int.natCast_one,← hP] at fr' FR
  rw [hpl,Int.natCast_add,Int.natCast_one] at F
  have c2:CallTo W 2 356 [.s 2,i_ (pA c (pre.length:Nat)-4),i_ r2] (sA hd1.c t f1 fl pc rg rows (ms.map uLd)) (.u .none) [] (sA hd1.c t (put f1 (pA c (pre.length:Nat)-4) r2) fl pc rg rows (ms.map uLd)) []:=c_put_word (by exact lin [_] [] [95031537] 2214776865 149058 rfl hPb.1) (by exact lin [_] [] [123701517394241] 31475147780386 149058 rfl hPb.2.1)
  have c3:CallTo W 2 356 [.s 2,i_ (pA c (pre.length:Nat)-8),i_ (pA c (pre.length:Nat)+128)] (sA hd1.c t (put f1 (pA c (pre.length:Nat)-4) r2) fl pc rg rows (ms.map uLd)) (.u .none) [] (sA hd1.c t (put (put f1 (pA c (pre.length:Nat)-4) r2) (pA c (pre.length:Nat)-8) (pA c (pre.length:Nat)+128)) fl pc rg rows (ms.map uLd)) []:=c_put_word (by exact lin [_] [] [95031537] 4362260513 149058 rfl hPb.1) (by exact lin [_] [] [123701517394241] 62950278738226 149058 rfl hPb.2.1)
  have g4:at_ (put (put f1 (pA c (pre.length:Nat)-4) r2) (pA c (pre.length:Nat)-8) (pA c (pre.length:Nat)+128)) (pA c (pre.length:Nat)-4)=r2:=by
   rw [at_put_n (by exact Int.le_antisymm (lin [_,_,_,_,_] [] [8211,36352838672851,1208273984356952416835,8781922] 393313 49128355079546559906686749562307281494277 rfl hPb.2.2 (dmA _ 4) (dmA _ 4) (dmC _ 4 rfl)) (lin [_] [] [4129] 4129 149058 rfl (dmB _ 4 rfl))) (by exact Int.le_antisymm (lin [_,_,_,_,_] [] [8211,36352838672851,617978173998246765123,8781922] 393313 49128355079546559906686749562307281494277 rfl hPb.2.2 (dmA _ 4) (dmA _ 4) (dmC _ 4 rfl)) (lin [_] [] [4129] 4129 149058 rfl (dmB _ 4 rfl))) (by exact fun z0=>lin [_] [] [285885388075299] 0 449 rfl z0),at_put_i hr2v.1 hr2v.2]
  have g8:at_ (put (put f1 (pA c (pre.length:Nat)-4) r2) (pA c (pre.length:Nat)-8) (pA c (pre.length:Nat)+128)) (pA c (pre.length:Nat)-8)=pA c (pre.length:Nat)+128:=at_put_i (by exact lin [_] [] [95031537] 68786753569 149058 rfl hPb.1) (by exact lin [_] [] [123701517394241] 1180591620768967729522 149058 rfl hPb.2.1)
  have gb:∀ b,b%4=0→b < pA c (pre.length:Nat)-32→at_ (put (put f1 (pA c (pre.length:Nat)-4) r2) (pA c (pre.length:Nat)-8) (pA c (pre.length:Nat)+128)) b=at_ f b:=fun b hb h=>by
   rw [at_put_n (by exact Int.le_antisymm (lin [_,_,_,_,_] [] [8211,36352838672851,1208273984356952416835,8781922] 393313 49128355079546559906686749562307281494277 rfl hPb.2.2 (dmA _ 4) (dmA _ 4) (dmC _ 4 rfl)) (lin [_] [] [4129] 4129 149058 rfl (dmB _ 4 rfl))) hb (by exact fun z0=>lin [_,_] [] [69122416658,17582809107] 0 8655939 rfl h z0),at_put_n (by exact Int.le_antisymm (lin [_,_,_,_,_] [] [8211,36352838672851,617978173998246765123,8781922] 393313 49128355079546559906686749562307281494277 rfl hPb.2.2 (dmA _ 4) (dmA _ 4) (dmC _ 4 rfl)) (lin [_] [] [4129] 4129 149058 rfl (dmB _ 4 rfl))) hb (by exact fun z0=>lin [_,_] [] [69122416658,8992874515] 0 8655939 rfl h z0),fr1 b hb (.inl h)]
  have hz:(pre.length:Int) < 2 ^ 63:=by exact lin [_,_] [_,_] [270353,167954343895619,4835703278458516698923075] 286770 2322582624556100 rfl c1 hl pI63
  have hz1:0≤(pre.length:Int)+1∧(pre.length:Int)+1 < 2 ^ 63∧(rl.map U.int)[((pre.length:Nat)+1:Int).toNat]?=some (.int r2):=⟨by exact lin [] [_] [] 2617675809 83522 rfl ,by exact lin [_,_] [_,_] [270353,167954343895619,4835703278458516698923075] 9244352802 2322582624556100 rfl c1 hl pI63,i2⟩
  have e5:rsl++[0]=r2 :: (rsl++[0]).tail:=by cases hq:rsl++[0] with
   | nil=>rw [hq] at hr2; cases hr2
   | cons x y=>rw [hq] at hr2; cases hr2; rfl
  have sm:Builtin.Range.small (-32) 16 4=true:=by decide
  generalize put (put f1 (pA c (pre.length:Nat)-4) r2) (pA c (pre.length:Nat)-8) (pA c (pre.length:Nat)+128)=f3 at *
  generalize put f1 (pA c (pre.length:Nat)-4) r2=f2 at *
  generalize hnw:((mapOf r ms).map fun o=>at_ f3 (pA c (pre.length:Nat)+o))=nw at *
  refine ⟨hd',f',nw++ws',fun b hb h=>by rw [fr' b hb (by exact lin [_,_] [] [69122416658] 289920051217850386 149058 rfl h),gb b hb h],?_,?_⟩
  ·show Frs ms f' _ (r :: (rsl++[0])) _
   rw [e5] at FR ⊢
   refine ⟨h0.1,h0.2,hPb.1,by exact lin [_] [] [123701517394241] 125900540649793 149058 rfl hPb.2.1,hPb.2.2,?_,?_,ws',?_,FR⟩
   ·rw [fr' _ (by exact Int.le_antisymm (lin [_,_,_,_,_] [] [8211,36352838672851,617978173998246765123,8781922] 393313 49128355079546559906686749562307281494277 rfl hPb.2.2 (dmA _ 4) (dmA _ 4) (dmC _ 4 rfl)) (lin [_] [] [4129] 4129 149058 rfl (dmB _ 4 rfl))) (by exact lin [_] [] [] 4750045628371040252194 449 rfl ),g4]
   ·rw [fr' _ (by exact Int.le_antisymm (lin [_,_,_,_,_] [] [8211,36352838672851,1208273984356952416835,8781922] 393313 49128355079546559906686749562307281494277 rfl hPb.2.2 (dmA _ 4) (dmA _ 4) (dmC _ 4 rfl)) (lin [_] [] [4129] 4129 149058 rfl (dmB _ 4 rfl))) (by exact lin [_] [] [] 9500091256742063681842 449 rfl ),g8]
   ·rw [← hnw]
    congr 1
    refine List.map_congr_left fun o ho=>?_
    have:=mb.2 o ho
    exact (fr' _ (by exact Int.le_antisymm (lin [_,_,_,_,_,_,_,_] [] [8211,98371,107821094511075,5704335279923763,1503433785152606184019,8880226] 491617 77985824526868493298273709341573517420103513459994885 rfl hPb.2.2 this.2.2 (dmA _ 4) (dmA _ 4) (dmA _ 4) (dmC _ 4 rfl)) (lin [_] [] [4129] 4129 149058 rfl (dmB _ 4 rfl))) (by exact lin [_,_] [] [794641] 4750050119153327677682 149058 rfl this.2.1)).symm
  ·rw [List.append_assoc] at F
   show Fo _ _ _ _ _ _ (((pre.length:Int) :: ups _ _).map U.int) _ _ _
   generalize (pre.length:Int)=a at *
   refine .go (fl:=.next) (a':=⟨lFr rs c,sA hd1.c t f3 fl pc rg rows (ms.map uLd),oF (ws++nw) rc rl⟩) (b:=⟨lFa rs c a (pA c a),sA hd1.c t f3 fl pc rg rows (ms.map uLd),oF (ws++nw) rc rl⟩) rfl ?_ (.inl rfl) (less_of [(("at":Str),i_ a),(("fp":Str),i_ (pA c a))] rfl rfl rfl rfl) (Nat.le_refl _) F
   exact bo_run [.lp .next (lFa rs c a (pA c a)) (sA hd1.c t f1 fl pc rg rows (ms.map uLd)) (oF ws rc rl) [],.a (.int r2),.r 2 (.u .none) [] (sA hd1.c t f2 fl pc rg rows (ms.map uLd)) [],.r 2 (.u .none) [] (sA hd1.c t f3 fl pc rg rows (ms.map uLd)) [],.lp .next (lFa rs c a (pA c a)) (sA hd1.c t f3 fl pc rg rows (ms.map uLd)) (oF (ws++nw) rc rl) []] kok gok ⟨rfl⟩
    ⟨for_s2 9 (ev_run [] kok gok ⟨rfl⟩ True.intro) rfl rfl rfl rfl O rfl rfl,c3,c2,hz1,for_ok (sr_u (u:=.rng (-32) 16 4) (ev_run [] kok gok ⟨rfl⟩ ⟨⟨by decide,by decide⟩,True.intro⟩) ⟨sm,(rangeU_eq _ _ _).symm⟩) rfl rfl rfl F1,.inl (by decide),True.intro⟩
end
section
variable {W:Wd KH}{n:Nat}{f:Int→Int}{fl rg rows ld:List U}{t pc:Int}
noncomputable def rwE(K:Frag):Expr:=match augE (stAt K 519 2) with
 | .BinOp e _ _ _=>e
 | e=>e
theorem C_rows(h2:2≤rows.length)(h3:rows.length≤900):∀(us:List Int)(hd:Hd),∃ (res:List Int) (hd':Hd),(∀ r∈res,0 < r∧r < 1000)∧res.length=us.length∧Cmp_ W 3 (scopeOf W.K 519) (.one "_") (rwE W.K) [("hand",.s 0),("machine",.s 1)] 2 (us.map U.int) (sA hd.c t f fl pc rg rows ld) [intsC [],.list []] (res.map U.int) (sA (Hd.c hd') t f fl pc rg rows ld) [intsC [],.list []]:=by
 intro us
 induction us with
 | nil=>exact fun hd=>⟨[],hd,(fun _ h=>nomatch h),rfl,.nil⟩
 | cons y us ih =>
  intro hd
  obtain ⟨d,hd1,c1,d0,d1⟩:=pick (W:=W) hd (R:=(sA hd.c t f fl pc rg rows ld).tail) (k:=(rows.length:Nat)-1) (by exact lin [] [_] [69716] 2617692194 149058 rfl h2) (by exact lin [_] [_] [58990612,75557863725914323427347] 654422306 566498883 rfl h3 pI60)
  obtain ⟨res,hd',hr,hl,C⟩:=ih hd1
  exact ⟨(1+d) :: res,hd',fun r h=>by
   rcases List.mem_cons.mp h with rfl | h
   ·exact ⟨lin [_] [] [4129] 302551074 149058 rfl d0,lin [_] [_] [58990612,1308844050] 1073951678706 293869123 rfl h3 d1⟩
   ·exact hr r h,by rw [List.length_cons,List.length_cons,hl],.yes (lc:=[("hand",.s 0),("machine",.s 1),("_",i_ y)]) rfl (ct_run [.r 1 (i_ d) [] (sA hd1.c t f fl pc rg rows ld) []] kok gok ⟨rfl⟩ ⟨c1,by exact lin [] [_,_] [58990612,4835703278458516698923078] 65557 566498883 rfl h3 pN63,True.intro⟩) rfl (Nat.le_refl _) C⟩
theorem fn_law_frames:FnP W 519 ["hand","machine","records"]:=fn_mk (by rfl) (by rfl) (by rfl) (fun _ _ _ _ _=>BindsTo.of_eq rfl) (by rfl) (by rfl) rfl rfl rfl
noncomputable def regsP(p:Int):List U:=regs0.set 11 (.int p)
theorem c_law_frames{rs:List Rk}{ms:List Md}{tt e:Int}(hd:Hd)(hrs:rs.length < 1000)(hrr:∀ r∈rs,4≤r.1∧r.1 < 10000)(hm:∀ m∈ms,MdB m tt)(hms:ms.length < 100)(hc:CodeC 1 ms e)(h2:ms≠[]→2≤rows.length)(h3:rows.length≤900):
  ∃ (hd':Hd) (f':Int→Int) (rsl ws:List Int) (p:Int),(∀ b,b%4=0→b < 2900→at_ f' b=at_ f b)∧Frs ms f' p (rsl++[0]) ws∧rsl.length≤4 ∧
  CallTo W 4 519 [.s 0,.s 1,uR rs] (sA hd.c t f fl pc regs0 rows (ms.map uLd)) (.o 0) (oF ws rsl (rsl++[0])) (sA (Hd.c hd') t f' fl ((rsl++[0]).headD 0) (regsP p) rows (ms.map uLd)) []:=by
 have fin:∀(c:Int)(hd1:Hd)(hc0:0≤c)(hc4:c≤4)(h2:0 < c→2≤rows.length),∃ (hd':Hd) (f':Int→Int) (rsl ws:List Int) (hd2:Hd),(∀ b,b%4=0→b < 2900→at_ f' b=at_ f b)∧Frs ms f' (pA c 0) (rsl++[0]) ws∧rsl.length≤4 ∧
   EvS W 3 (scopeOf W.K 519) (rwE W.K) (lFr rs c |>.take 5) (sA hd1.c t f fl pc regs0 rows (ms.map uLd)) [intsC [],.list []] (.o 2) (sA (Hd.c hd2) t f fl pc regs0 rows (ms.map uLd)) [intsC [],.list [],intsC rsl] ∧
   ExS W 3 (scopeOf W.K 519) (frB W.K) (lFr rs c) (sA hd2.c t f fl ((rsl++[0]).headD 0) (regsP (pA c 0)) rows (ms.map uLd)) (oF [] rsl (rsl++[0])) .next (lFr rs c) (sA (Hd.c hd') t f' fl ((rsl++[0]).headD 0) (regsP (pA c 0)) rows (ms.map uLd)) (oF ws rsl (rsl++[0])) []:=by
  intro c hd1 hc0 hc4 h2
  have sm:Builtin.Range.small 0 c 1=true:=small_of (by decide) (by exact ⟨lin [_,_] [] [4129,604462909807314587451459] 282738 566498883 rfl hc0 pI60,lin [_,_] [] [270353,604462909807314587451459] 65554 566498883 rfl hc4 pI60⟩) (by decide)
  have hcc:(c.toNat:Int)=c:=by omega
  have rr:∃ (res:List Int) (hd':Hd),(∀ r∈res,0 < r∧r < 1000)∧res.length=c.toNat∧Cmp_ W 3 (scopeOf W.K 519) (.one "_") (rwE W.K) [("hand",.s 0),("machine",.s 1)] 2 ((ups 0 c.toNat).map U.int) (sA hd1.c t f fl pc regs0 rows (ms.map uLd)) [intsC [],.list []] (res.map U.int) (sA (Hd.c hd') t f fl pc regs0 rows (ms.map uLd)) [intsC [],.list []]:=by
   by_cases q:0 < c
   ·obtain ⟨res,hd',a,b,C⟩:=C_rows (W:=W) (t:=t) (f:=f) (fl:=fl) (pc:=pc) (rg:=regs0) (ld:=ms.map uLd) (h2 q) h3 (ups 0 c.toNat) hd1
    rw [ups_len] at b
    exact ⟨res,hd',a,b,C⟩
   ·have:c=0:=by exact Int.le_antisymm (lin [_] [] [4136] 8209 149058 rfl q) (lin [_] [] [4129] 4129 149058 rfl hc0)
    subst this
    exact ⟨[],hd1,(fun _ h=>nomatch h),rfl,.nil⟩
  obtain ⟨rsl,hd2,hr,hl,C⟩:=rr
  obtain ⟨hd',f',ws,fr,FR,F⟩:=L_frames (W:=W) (t:=t) (fl:=fl) (pc:=(rsl++[0]).headD 0) (rg:=regsP (pA c 0)) (rows:=rows) (rs:=rs) (c:=c) (rc:=rsl) (rl:=rsl++[0]) hrs hrr hm hms hc hc0 hc4 rsl [] hd2 f [] rfl (by simp; exact Int.le_antisymm (lin [_] [_,_] [24627,32838] 286833 69799529540 rfl hcc hl) (lin [_] [_,_] [24627,32838] 573457 104293485636 rfl hcc hl)) hr (Nat.zero_le _)
  have hul:((ups 0 c.toNat).map U.int).length≤sizeLine:=by rw [List.length_map,ups_len,sizeLine_eq]; exact lin [_] [_] [270353,24627] 1099511635988 285677123 rfl hc4 hcc
  rw [hl] at F
  refine ⟨hd',f',rsl,ws,hd2,fun b hb h=>fr b hb ?_,FR,by exact lin [_] [_,_] [270353,24627,32838] 2195524 26698597290052 rfl hc4 hcc hl,?_,?_⟩
  ·show b < pA c 0-32
   unfold pA; exact lin [_,_] [] [270353,1520533570] 326776653625140642619326301175874 2306124761220038728 rfl hc4 h
  ·exact comp_ok2 C rfl rfl rfl (sr_u (u:=.rng 0 c 1) (ev_run [] kok gok ⟨rfl⟩ True.intro) ⟨sm,pickN hc0⟩) hul rfl rfl
  ·exact for_ok (sr_u (u:=.rng 0 c 1) (ev_run [] kok gok ⟨rfl⟩ True.intro) ⟨sm,pickN hc0⟩) rfl rfl rfl F
 have rl0:∀ rsl:List Int,((rsl++[0]).map U.int)[(0:Int).toNat]?=some (.int ((rsl++[0]).headD 0)):=fun rsl=>by cases rsl <;> rfl
 have sum:∀ rsl:List Int,intsC (rsl++[0])=.list (rsl.map U.int++[U.int 0]):=fun rsl=>intsC_app _ _
 by_cases q:ms=[]
 ·subst q
  obtain ⟨hd',f',rsl,ws,hd2,fr,FR,hl,E,X⟩:=fin 0 hd (by decide) (by decide) (fun h=>absurd h (by decide))
  refine ⟨hd',f',rsl,ws,pA 0 0,fr,FR,hl,?_⟩
  have i0:=rl0 rsl
  have l1:(rsl.map U.int).length+[U.int 0].length≤sizeLine:=by rw [List.length_map,sizeLine_eq]; simp; exact lin [] [_] [270356] 1099511570452 149058 rfl hl
  unfold oF at *
  rw [sum] at *
  rw [List.map_append] at i0
  generalize (rsl++[0]).headD 0=r0 at *
  exact callTo_run [.d true,.d false,.ev (.o 2) (sA hd2.c t f fl pc regs0 rows []) [intsC [],.list [],intsC rsl],.a (.int r0),.lp .next (lFr rs 0) (sA hd'.c t f' fl r0 (regsP (pA 0 0)) rows []) [intsC ws,.list [],intsC rsl,.list [.int 0],.list (rsl.map U.int++[U.int 0])] []] fn_law_frames kok gok rfl ⟨rfl,rfl,rfl,rfl⟩
   ⟨X,⟨by decide,by decide,by decide⟩,.inl (by decide),⟨by decide,by decide,i0⟩,l1,E,rfl,⟨rfl,rfl⟩,True.intro⟩
 ·obtain ⟨c,hd1,c1,d0,d1⟩:=pick (W:=W) hd (R:=(sA hd.c t f fl pc regs0 rows (ms.map uLd)).tail) (k:=5) (by decide) (by decide)
  obtain ⟨hd',f',rsl,ws,hd2,fr,FR,hl,E,X⟩:=fin c hd1 d0 (by exact lin [_] [] [335890] 270353 149058 rfl d1) fun _=>h2 q
  have e1:pA c 0=3664-128 * (c+1):=by unfold pA; exact Int.le_antisymm (lin [_] [] [] 50190968734965094590443739668651500770931857 449 rfl ) (lin [_] [] [] 69696678091160644633133290754790303753286609 449 rfl )
  rw [e1] at FR X
  refine ⟨hd',f',rsl,ws,3664-128 * (c+1),fr,FR,hl,?_⟩
  have i0:=rl0 rsl
  have hne:(ms.map uLd).length≠([]:List U).length:=by rw [List.length_map]; exact fun e=>q (List.length_eq_zero_iff.mp e)
  have l1:(rsl.map U.int).length+[U.int 0].length≤sizeLine:=by rw [List.length_map,sizeLine_eq]; simp; exact lin [] [_] [270356] 1099511570452 149058 rfl hl
  unfold oF at *
  rw [sum] at *
  rw [List.map_append] at i0
  generalize (rsl++[0]).headD 0=r0 at *
  exact callTo_run [.d false,.d true,.r 1 (i_ c) [] (sA hd1.c t f fl pc regs0 rows (ms.map uLd)) [],.ev (.o 2) (sA hd2.c t f fl pc regs0 rows (ms.map uLd)) [intsC [],.list [],intsC rsl],.a (.int r0),.lp .next (lFr rs c) (sA hd'.c t f' fl r0 (regsP (3664-128 * (c+1))) rows (ms.map uLd)) [intsC ws,.list [],intsC rsl,.list [.int 0],.list (rsl.map U.int++[U.int 0])] []] fn_law_frames kok gok rfl ⟨rfl,rfl,rfl,rfl⟩
   ⟨X,⟨by decide,by decide,by decide⟩,.inl (by decide),⟨by decide,by decide,i0⟩,l1,E,c1,rfl,hne,True.intro⟩
end
section
section
variable {ks:List Ki}{rs:List Rk}{f0:Int→Int}{e t:Int}
noncomputable def Pl(r:Rk)(d:Int):Prop:=-8≤d∧(d < 0∨d < r.2.wd)∧d%4=0
theorem WI.pos(I:WI ks rs f0 e t){r r':Rk}(hr:r∈rs)(hr':r'∈rs){d d':Int}(h:Pl r d)(h':Pl r' d')(q:r.1+d=r'.1+d'):r=r'∧d=d':=by
 have B:=I.rb hr
 have B':=I.rb hr'
 have b1:=B.sz
 have b2:=B'.sz
 have b3:=B.k.w0
 have b4:=B'.k.w0
 obtain ⟨h1,h2,_⟩:=h
 obtain ⟨g1,g2,_⟩:=h'
 rcases I.co.apart I.kb (by decide) r hr r' hr' with z | z | z
 ·subst z; exact ⟨rfl,by exact Int.le_antisymm (lin [_,_,_] [] [17595004657923] 1081409 8655939 rfl q) (lin [_,_,_] [] [17595004657923] 1114193 8721475 rfl q)⟩
 ·exact ⟨False.elim (h2.elim (fun z0=>lin [_,_,_,_,_,_] [] [431019966636291,2783944319361,528417,102813857,17850999073,98370] 0 1177814758848485444 rfl q b1 b3 g1 z z0) (fun z0=>lin [_,_,_,_,_,_] [] [431019966636291,2783944319361,102813857,17850999073,2129986] 0 11338577704145988 rfl q b1 g1 z z0)),Int.le_antisymm (h2.elim (fun z0=>lin [_,_,_,_,_,_] [] [431019966636291,2783944319361,528417,102813857,17850999073,98370] 1605697 1177814758848485444 rfl q b1 b3 g1 z z0) (fun z0=>lin [_,_,_,_,_,_] [] [431019966636291,2783944319361,102813857,17850999073,2129986] 1605697 11338577704145988 rfl q b1 g1 z z0)) (lin [_,_,_,_,_,_] [] [431019966636291,2783944319361,528417,17850999073] 1146961 4600804541486148 rfl q b1 b3 z)⟩
 ·exact ⟨False.elim (g2.elim (fun z0=>lin [_,_,_,_,_,_] [] [431019966636291,2783944319361,528417,35704993,10871808353,229458] 0 1177814724488747076 rfl q b2 b4 h1 z z0) (fun z0=>lin [_,_,_,_,_,_] [] [431019966636291,2783944319361,35704993,10871808353,4292690] 0 11329781611123780 rfl q b2 h1 z z0)),Int.le_antisymm (lin [_,_,_,_,_,_] [] [431019966636291,2783944319361,528417,10871808353] 1605697 4600633145971780 rfl q b2 b4 z) (g2.elim (fun z0=>lin [_,_,_,_,_,_] [] [431019966636291,2783944319361,528417,35704993,10871808353,229458] 1146961 1177814724488747076 rfl q b2 b4 h1 z z0) (fun z0=>lin [_,_,_,_,_,_] [] [431019966636291,2783944319361,35704993,10871808353,4292690] 1146961 11329781611123780 rfl q b2 h1 z z0))⟩
theorem WI.al(I:WI ks rs f0 e t){r:Rk}(hr:r∈rs){d:Int}(h:Pl r d):(r.1+d)%4=0∧okA (r.1+d)∧1088≤r.1+d:=by
 have B:=I.rb hr
 have E:=I.eb
 have hn:=I.n
 have b1:=B.sz
 have b2:=B.lo
 have b3:=B.hi
 have b4:=B.al
 have b5:=B.k.w0
 obtain ⟨h1,h2,h3⟩:=h
 exact ⟨by exact Int.le_antisymm (lin [_,_,_,_,_,_,_,_] [] [532499,98371,431283805790723,5704335279923763,1503433785152606184019,8880226] 491617 77985824515707242307475487736362014836537210227994885 rfl b4 h3 (dmA _ 16) (dmA _ 4) (dmA _ 4) (dmC _ 4 rfl)) (lin [_] [] [4129] 4129 149058 rfl (dmB _ 4 rfl)),⟨by exact lin [_,_] [] [35918049,35704993] 537038881 553981507 rfl b2 h1,by exact h2.elim (fun z0=>lin [_,_,_,_,_] [_] [234201620321026065,598036,283669307745,1162046713078385,135201,393314] 503602296824162 198070736929733578594535632966 rfl E.2.2 hn b1 b3 b5 z0) (fun z0=>lin [_,_,_,_,_] [_] [234201620321026065,598036,283669307745,1162046713078385,2228322] 503602296824162 48357113508235736927985734 rfl E.2.2 hn b1 b3 z0)⟩,by exact lin [_,_] [] [35918049,35704993] 2199730000097 553981507 rfl b2 h1⟩
theorem pM(r:Rk):Pl r (-4):=⟨by decide,.inl (by decide),by decide⟩
theorem pT(r:Rk):Pl r (-8):=⟨by decide,.inl (by decide),by decide⟩
theorem WI.pS(I:WI ks rs f0 e t){r:Rk}(hr:r∈rs){o:Int}(h:o∈r.2.os):Pl r o:=by
 have:=(I.rb hr).k.os o h
 exact ⟨by exact lin [_] [] [4129] 2150561 149058 rfl this.1,.inr this.2.1,this.2.2⟩
noncomputable abbrev mw(f:Int→Int)(r:Rk):Int:=at_ f (r.1+-4)
noncomputable def cu(k:Ki)(j:Nat):Int:=k.w+20+4 * j
structure Ms(rs:List Rk)(f0 f:Int→Int):Prop where
 lo:∀ b,b%4=0→b < 1088→at_ f b=at_ f0 b
 tg:∀ r∈rs,at_ f (r.1+-8)=at_ f0 (r.1+-8)
 un:∀ r∈rs,mw f r=0→∀ o∈r.2.os,at_ f (r.1+o)=at_ f0 (r.1+o)
noncomputable def Clo(rs:List Rk)(f0:Int→Int)(Z:Rk→Prop):Prop:=∀ r∈rs,Z r→∀ o∈r.2.os,∀ r'∈rs,at_ f0 (r.1+o)=r'.1→Z r'
structure Vs(rs:List Rk)(f0 f f2:Int→Int)(r:Rk)(j:Nat)(Z:Rk→Prop):Prop where
 q1:∀ b,b%4=0→(∀ r'∈rs,b≠r'.1+-4)→at_ f2 b=at_ f b
 q2:∀ r'∈rs,r'≠r→mw f r'≠0→mw f2 r'=mw f r'
 q3:mw f2 r=cu r.2 r.2.os.length
 q4:∀ r'∈rs,mw f r'=0→mw f2 r'≠0→mw f2 r'=cu r'.2 r'.2.os.length∧Z r'∧∀ o∈r'.2.os,∀ y∈rs,at_ f0 (r'.1+o)=y.1→mw f2 y≠0
 q5:∀(i:Nat)(o:Int),j≤i→r.2.os[i]?=some o→∀ y∈rs,at_ f0 (r.1+o)=y.1→mw f2 y≠0
theorem cu_pos(I:WI ks rs f0 e t){r:Rk}(hr:r∈rs)(j:Nat):0 < cu r.2 j∧(j≤r.2.os.length→okA (cu r.2 j)∧cu r.2 j < 1088∧cu r.2 j%4=0):=by
 have K:=(I.ko _ (I.co.ks r hr)).1
 have a0:=K.a0
 have a1:=K.a1
 have a4:=K.a4
 have ol:=K.b.ol
 unfold cu
 exact ⟨by exact lin [_] [_] [2101409] 3748002180400451618 2277696083203 rfl a0,fun h=>⟨⟨by exact lin [_] [_] [2101409] 3748002180400451617 2277696083203 rfl a0,by exact lin [_] [_,_] [12591121,335892,32836] 540739569405230041408322 599084631053584644 rfl a1 ol h⟩,by exact lin [_] [_,_] [12591121,335892,32836] 160589067534223601705794 599084631053584644 rfl a1 ol h,by exact Int.le_antisymm (lin [_,_,_,_,_] [_] [8211,145410782536179,1030243013390792035080025514563,8781922] 393313 49128355079546559906686749562307281494277 rfl a4 (dmA _ 16) (dmA _ 4) (dmC _ 4 rfl)) (lin [_] [] [4129] 4129 149058 rfl (dmB _ 4 rfl))⟩⟩
theorem Vs.mono{f f2:Int→Int}{r:Rk}{j:Nat}{Z:Rk→Prop}(I:WI ks rs f0 e t)(hr:r∈rs)(V:Vs rs f0 f f2 r j Z){y:Rk}(hy:y∈rs)(h:mw f y≠0):mw f2 y≠0:=by
 by_cases q:y=r
 ·rw [q,V.q3]
  have:=(cu_pos I hr r.2.os.length).1
  exact fun z0=>lin [_] [] [4130,8211] 0 149058 rfl this z0
 ·rw [V.q2 y hy q h]; exact h
noncomputable def cnt(rs:List Rk)(f:Int→Int):Nat:=rs.countP fun r=>decide (mw f r=0)
theorem cnt_le{rs:List Rk}{f f2:Int→Int}(h:∀ r∈rs,mw f2 r=0→mw f r=0):cnt rs f2≤cnt rs f :=
 List.countP_mono_left fun r hr q=>decide_eq_true (h r hr (of_decide_eq_true q))
theorem cnt_lt{f f2:Int→Int}{r0:Rk}:∀{rs:List Rk},(∀ r∈rs,mw f2 r=0→mw f r=0)→r0∈rs→mw f r0=0→mw f2 r0≠0→cnt rs f2 < cnt rs f
 | r :: rs,h,hr,h1,h2=>by
  unfold cnt
  rw [List.countP_cons,List.countP_cons]
  have hh:∀ r∈rs,mw f2 r=0→mw f r=0:=fun r h'=>h r (.tail _ h')
  rcases List.mem_cons.mp hr with q | q
  ·subst q
   have:=cnt_le hh
   unfold cnt at this
   rw [if_neg (by simpa using h2),if_pos (by simpa using h1)]
   exact lin [] [_,_] [65556] 10446518132949 149058 rfl this
  ·have:=cnt_lt hh q h1 h2
   unfold cnt at this
   by_cases z:mw f2 r=0
   ·rw [if_pos (by simpa using z),if_pos (by simpa using h r (.head _) z)]; exact lin [] [_,_] [65557] 83572161552645 149058 rfl this
   ·rw [if_neg (by simpa using z)]; exact lin [] [_,_,_] [65557] 18143099527381 21403203 rfl this
theorem fresh_eq(I:WI ks rs f0 e t){r:Rk}(hr:r∈rs)(f:Int→Int):fresh f r.1=decide (mw f r=0):=by
 have B:=I.rb hr
 have E:=I.eb
 have hn:=I.n
 have b1:=B.lo
 have b2:=B.hi
 have b3:=B.sz
 have b4:=B.k.w0
 unfold fresh
 rw [if_neg (by exact fun z0=>z0.elim (fun z1=>lin [_] [] [35918049,71311377] 0 149058 rfl b1 z1) (fun z1=>lin [_,_,_,_] [_] [234201620321026065,598036,580954750657121,567405617521,397345,589304033] 0 48357111204081440102047814 rfl E.2.2 hn b2 b3 b4 z1))]; rfl
theorem fresh_no{f:Int→Int}{x:Int}(h:x=0∨x=12∨x=2000):fresh f x=false:=by
 unfold fresh
 rw [if_pos (by exact (Classical.em _).elim Or.inl fun z0=>Or.inr (h.elim (fun z1=>lin [_] [] [71311383,8211] 52433121 149058 rfl z0 z1) (fun z1=>z1.elim (fun z2=>lin [_] [] [71311383,794643] 52433121 149058 rfl z0 z2) (fun z2=>lin [_] [] [131080211] 52433121 8721475 rfl z2))))]
end
end
section
theorem Sw_down{k:Nat}{f f':Int→Int}{c b x t o a c':Int}(hA:at_ f (x+-4)=a)(hO:at_ f a=o)(k1:okA (x+-4))(k2:okA a)(hne:o≠4294967295)(k3:okA (x+o))(hT:at_ f (x+o)=t)(hF:fresh f t=true)(k4:okA (t+-8))(k5:okA (t+-4))
  (w:Sw k (put (put f (x+o) b) (t+-4) (at_ (put f (x+o) b) (t+-8)+20)) (c+1) x t f' c'):Sw (k+1) f c b x f' c':=by
 subst hA hO; exact .down k1 k2 hne k3 hT hF k4 k5 w
theorem Sw_next{k:Nat}{f f':Int→Int}{c b x t o a c':Int}(hA:at_ f (x+-4)=a)(hO:at_ f a=o)(k1:okA (x+-4))(k2:okA a)(hne:o≠4294967295)(k3:okA (x+o))(hT:at_ f (x+o)=t)(hF:fresh f t=false)
  (w:Sw k (put f (x+-4) (a+4)) c b x f' c'):Sw (k+1) f c b x f' c':=by
 subst hA hO hT; exact .next k1 k2 hne k3 hF w
theorem Sw_up{k:Nat}{f f':Int→Int}{c b x z o a a' c':Int}(hA:at_ f (x+-4)=a')(hE:at_ f a'=4294967295)(k1:okA (x+-4))(k2:okA a')(hb:b≠0)(hB:at_ f (b+-4)=a)(hO:at_ f a=o)(k3:okA (b+-4))(k4:okA a)(k5:okA (b+o))(hZ:at_ f (b+o)=z)
  (w:Sw k (put (put f (b+o) x) (b+-4) (a+4)) c z b f' c'):Sw (k+1) f c b x f' c':=by
 subst hA hB hO hZ; exact .up k1 k2 hE hb k3 k4 k5 w
section
variable {ks:List Ki}{rs:List Rk}{f0:Int→Int}{e t:Int}{Z:Rk→Prop}
theorem WI.nm(I:WI ks rs f0 e t){r:Rk}(hr:r∈rs){d:Int}(h:Pl r d)(hd:d≠-4):∀ r'∈rs,r.1+d≠r'.1+-4:=fun r' hr' q=>hd (I.pos hr hr' h (pM r') q).2
theorem WI.nmlo(I:WI ks rs f0 e t){b:Int}(h:b < 1088):∀ r'∈rs,b≠r'.1+-4:=fun r' hr' q=>by
 have:=(I.al hr' (pM r')).2.2
 exact lin [_,_] [] [71311378,72343633939,592639084728545] 0 554112579 rfl h q this
theorem WI.pSm(I:WI ks rs f0 e t){r:Rk}(hr:r∈rs){o:Int}(h:o∈r.2.os):o≠-4∧o≠-8:=by
 have:=(I.rb hr).k.os o h
 exact ⟨fun z0=>lin [_] [] [4129,2203667] 0 149058 rfl this.1 z0,fun z0=>lin [_] [] [4129,4300819] 0 149058 rfl this.1 z0⟩
theorem Vs.ms{f f2:Int→Int}{r:Rk}{j:Nat}(I:WI ks rs f0 e t)(hr:r∈rs)(V:Vs rs f0 f f2 r j Z)(M:Ms rs f0 f):Ms rs f0 f2 :=
 ⟨fun b h1 h2=>(V.q1 b h1 (I.nmlo h2)).trans (M.lo b h1 h2),fun r' h=>(V.q1 _ (I.al h (pT r')).1 (I.nm h (pT r') (by decide))).trans (M.tg r' h),fun r' h hz o ho=>by
  have hz':mw f r'=0:=Classical.byContradiction fun q=>V.mono I hr h q hz
  exact (V.q1 _ (I.al h (I.pS h ho)).1 (I.nm h (I.pS h ho) (I.pSm h ho).1)).trans (M.un r' h hz' o ho)⟩
theorem Ms.desc{f:Int→Int}(I:WI ks rs f0 e t)(M:Ms rs f0 f){r:Rk}(hr:r∈rs):(∀(j:Nat)(o:Int),r.2.os[j]?=some o→at_ f (cu r.2 j)=o)∧at_ f (cu r.2 r.2.os.length)=4294967295:=by
 have K:=(I.ko _ (I.co.ks r hr)).1
 refine ⟨fun j o h=>?_,?_⟩
 ·have c:=(cu_pos I hr j).2 (Nat.le_of_lt (List.getElem?_eq_some_iff.mp h).1)
  exact (M.lo _ c.2.2 c.2.1).trans (K.ds j o h)
 ·have c:=(cu_pos I hr r.2.os.length).2 (Nat.le_refl _)
  exact (M.lo _ c.2.2 c.2.1).trans K.de
theorem visit(I:WI ks rs f0 e t)(hZ:Clo rs f0 Z):∀(N:Nat)(f:Int→Int)(r:Rk)(j:Nat)(b:Int),r∈rs→Z r→Ms rs f0 f→mw f r=cu r.2 j→j≤r.2.os.length→(∀(i:Nat)(o:Int),j≤i→r.2.os[i]?=some o→at_ f (r.1+o)=at_ f0 (r.1+o))→0≤b→b < 4294967296 →
  8 * cnt rs f+(r.2.os.length-j)≤N→∃ f2,Vs rs f0 f f2 r j Z∧∀ c,∃ c2,∀ K F C,Sw K f2 c2 b r.1 F C→∃ K',Sw K' f c b r.1 F C:=by
 intro N
 induction N with
 | zero =>
  intro f r j b hr hz M hm hj _ _ _ hN
  have hj2:j=r.2.os.length:=by omega
  subst hj2
  exact ⟨f,⟨(fun _ _ _=>rfl),(fun _ _ _ _=>rfl),hm,(fun _ _ h h'=>absurd h h'),fun i o hi ho=>by
   have:=(List.getElem?_eq_some_iff.mp ho).1; exact False.elim (lin [] [_,_] [65556,32837] 0 149058 rfl hi this)⟩,fun c=>⟨c,fun K F C w=>⟨K,w⟩⟩⟩
 | succ N ih =>
  intro f r j b hr hz M hm hj hs b0 b1 hN
  by_cases hj2:j=r.2.os.length
  ·subst hj2
   exact ⟨f,⟨(fun _ _ _=>rfl),(fun _ _ _ _=>rfl),hm,(fun _ _ h h'=>absurd h h'),fun i o hi ho=>by
    have:=(List.getElem?_eq_some_iff.mp ho).1; exact False.elim (lin [] [_,_] [65556,32837] 0 149058 rfl hi this)⟩,fun c=>⟨c,fun K F C w=>⟨K,w⟩⟩⟩
  have hjl:j < r.2.os.length:=by exact (Nat.lt_or_gt_of_ne hj2).elim (fun z0=>lin [] [_,_] [65557] 65557 149058 rfl z0) (fun z0=>lin [] [_,_] [65556,32837] 65557 149058 rfl hj z0)
  have ho:=List.getElem?_eq_getElem hjl
  generalize r.2.os[j]=o at ho
  have hom:o∈r.2.os:=List.mem_of_getElem? ho
  have hO:=(M.desc I hr).1 j o ho
  have c0:=cu_pos I hr j
  have c1:=c0.2 hj
  have ob:=(I.rb hr).k.os o hom
  have w1:=(I.rb hr).k.w1
  have hne:o≠4294967295:=by exact fun z0=>lin [_,_,_] [] [8211,2251799813259331,37452350333411] 0 17466901587284633927621823748 rfl ob.2.2 z0 (dmA _ 4)
  have am:=I.al hr (pM r)
  have as:=I.al hr (I.pS hr hom)
  have nms:=I.nm hr (I.pS hr hom) (I.pSm hr hom).1
  have hT:=hs j o (Nat.le_refl _) ho
  have hcu:cu r.2 j+4=cu r.2 (j+1):=by unfold cu; exact Int.le_antisymm (lin [_] [_] [] 1568481068948840389014632276588424922145809 449 rfl ) (lin [_] [_] [] 1472751597622934944301622941185247313273857 449 rfl )
  have hcm:0≤cu r.2 (j+1)∧cu r.2 (j+1) < 4294967296:=by
   have:=(cu_pos I hr (j+1)).2 hjl
   have:=(cu_pos I hr (j+1)).1
   (rename_i q0; exact ⟨lin [_] [] [4130] 4129 149058 rfl this,lin [_] [] [71311378] 281474976718866 149058 rfl q0.2.1⟩)
  -- the cursor goes on
  have go_on:∀(g:Int→Int),Ms rs f0 g→mw g r=cu r.2 (j+1)→(∀(i:Nat)(o:Int),j+1≤i→r.2.os[i]?=some o→at_ g (r.1+o)=at_ f0 (r.1+o))→cnt rs g≤cnt rs f→∃ f2,Vs rs f0 g f2 r (j+1) Z∧∀ c,∃ c2,∀ K F C,Sw K f2 c2 b r.1 F C→∃ K',Sw K' g c b r.1 F C :=
   fun g M' h1 h2 h3=>ih g r (j+1) b hr hz M' h1 hjl h2 b0 b1 (by omega)
  have mne:∀ y∈rs,y≠r→y.1+-4≠r.1+-4:=fun y hy hn q=>hn (I.pos hy hr (pM y) (pM r) q).1
  by_cases hfr:∃ r'∈rs,at_ f0 (r.1+o)=r'.1∧mw f r'=0
  ·obtain ⟨r',hr',h1,h2⟩:=hfr
   have rne:r'≠r:=fun q=>by rw [q,hm] at h2; exact lin [_] [] [4130,8211] 0 149058 rfl c0.1 h2
   have am':=I.al hr' (pM r')
   have at':=I.al hr' (pT r')
   have B':=I.rb hr'
   have B:=I.rb hr
   have E:=I.eb
   have hn9:=I.n
   have K':=(I.ko _ (I.co.ks r' hr')).1
   have rb:0≤r.1∧r.1 < 4294967296∧0≤r'.1∧r'.1 < 4294967296∧r.1≠0:=by
    have:=B.lo; have:=B.hi; have:=B.sz; have:=B.k.w0; have:=B'.lo; have:=B'.hi; have:=B'.sz; have:=B'.k.w0; (rename_i q6 q5 q4 _ _ q1 q0; exact ⟨lin [_] [] [35918049] 4129 149058 rfl q6,⟨lin [_,_,_,_,_] [_] [4129,65554,3747225925136482385,598036,74345540657848961,558547214689] 4503599627599954 515060767693203165274628714566 rfl ob.1 ob.2.1 E.2.2 hn9 q5 q4,⟨lin [_] [] [144311607890145] 4129 149058 rfl at'.2.2,⟨lin [_,_,_,_] [_] [234201620321026065,598036,580954750657121,567405617521,397345] 2251799813783618 48357111204081440102047814 rfl E.2.2 hn9 q1 q0 this,fun z0=>lin [_] [] [35918049,8211] 0 149058 rfl q6 z0⟩⟩⟩⟩)
   have htag:at_ (put f (r.1+o) b) (r'.1+-8)+20=cu r'.2 0:=by
    rw [at_put_n as.1 at'.1 fun q=>(I.pSm hr hom).2 (I.pos hr' hr (pT r') (I.pS hr hom) q).2.symm,M.tg r' hr']
    have:at_ f0 (r'.1+-8)=r'.2.w:=(I.tg r' hr').1
    rw [this]; unfold cu; exact Int.le_antisymm (lin [_] [] [] 2191442103193526782173505 449 rfl ) (lin [_] [] [] 1520627155836167602709265 449 rfl )
   have c0':=cu_pos I hr' 0
   have c00:=c0'.2 (Nat.zero_le _)
   have sm:r.1+o≠r'.1+-4:=nms r' hr'
   generalize hf1:put (put f (r.1+o) b) (r'.1+-4) (cu r'.2 0)=f1
   have g1:∀ a,a%4=0→a≠r.1+o→a≠r'.1+-4→at_ f1 a=at_ f a:=fun a h3 h4 h5=>by rw [← hf1,at_put_n am'.1 h3 h5,at_put_n as.1 h3 h4]
   have g1s:at_ f1 (r.1+o)=b:=by rw [← hf1,at_put_n am'.1 as.1 sm,at_put_i b0 b1]
   have g1m:mw f1 r'=cu r'.2 0:=by rw [← hf1]; exact at_put_i (by exact lin [_] [] [4130] 4129 149058 rfl c0'.1) (by exact lin [_] [] [71311378] 281474976718866 149058 rfl c00.2.1)
   have m1:∀ y∈rs,y≠r'→mw f1 y=mw f y:=fun y hy hn=>g1 _ (I.al hy (pM y)).1 (fun q=>nms y hy q.symm) fun q=>hn (I.pos hy hr' (pM y) (pM r') q).1
   have s1:∀ y∈rs,y≠r→∀ o'∈y.2.os,at_ f1 (y.1+o')=at_ f (y.1+o'):=fun y hy hn o' ho'=>g1 _ (I.al hy (I.pS hy ho')).1 (fun q=>hn (I.pos hy hr (I.pS hy ho') (I.pS hr hom) q).1) (I.nm hy (I.pS hy ho') (I.pSm hy ho').1 r' hr')
   have M1:Ms rs f0 f1:=⟨fun a h3 h4=>(g1 a h3 (by exact fun z0=>lin [_,_,_] [] [2199730000097,1141047378,4296343635] 0 822416963 rfl as.2.2 h4 z0) (I.nmlo h4 r' hr')).trans (M.lo a h3 h4),fun y hy=>(g1 _ (I.al hy (pT y)).1 (fun q=>(I.pSm hr hom).2 (I.pos hy hr (pT y) (I.pS hr hom) q).2.symm) (I.nm hy (pT y) (by decide) r' hr')).trans (M.tg y hy),fun y hy hz0 o' ho'=>by
    have n1:y≠r':=fun q=>by rw [q,g1m] at hz0; exact lin [_] [] [4130,8211] 0 149058 rfl c0'.1 hz0
    rw [m1 y hy n1] at hz0
    have n2:y≠r:=fun q=>by rw [q,hm] at hz0; exact lin [_] [] [4130,8211] 0 149058 rfl c0.1 hz0
    exact (s1 y hy n2 o' ho').trans (M.un y hy hz0 o' ho')⟩
   have mono1:∀ y∈rs,mw f1 y=0→mw f y=0:=fun y hy h=>by
    by_cases q:y=r'
    ·rw [q]; exact h2
    ·rw [← m1 y hy q]; exact h
   have lt1:=cnt_lt mono1 hr' h2 (by rw [g1m]; exact fun z0=>lin [_] [] [4130,8211] 0 149058 rfl c0'.1 z0)
   have ol':=B'.k.ol
   have hz':Z r':=hZ r hr hz o hom r' hr' h1
   obtain ⟨f2,V1,S1⟩:=ih f1 r' 0 r.1 hr' hz' M1 g1m (Nat.zero_le _) (fun i o' _ ho'=>(s1 r' hr' rne o' (List.mem_of_getElem? ho')).trans (M.un r' hr' h2 o' (List.mem_of_getElem? ho'))) rb.1 rb.2.1 (by omega)
   have M2:=V1.ms I hr' M1
   have h2m:mw f2 r=cu r.2 j:=by rw [V1.q2 r hr (Ne.symm rne) (by rw [m1 r hr (Ne.symm rne),hm]; exact fun z0=>lin [_] [] [4130,8211] 0 149058 rfl c0.1 z0),m1 r hr (Ne.symm rne),hm]
   have h2s:at_ f2 (r.1+o)=b:=(V1.q1 _ as.1 nms).trans g1s
   generalize hf3:put (put f2 (r.1+o) r'.1) (r.1+-4) (cu r.2 (j+1))=f3
   have g3:∀ a,a%4=0→a≠r.1+o→a≠r.1+-4→at_ f3 a=at_ f2 a:=fun a h3 h4 h5=>by rw [← hf3,at_put_n am.1 h3 h5,at_put_n as.1 h3 h4]
   have g3s:at_ f3 (r.1+o)=r'.1:=by rw [← hf3,at_put_n am.1 as.1 (nms r hr),at_put_i rb.2.2.1 rb.2.2.2.1]
   have g3m:mw f3 r=cu r.2 (j+1):=by rw [← hf3]; exact at_put_i hcm.1 hcm.2
   have m3:∀ y∈rs,y≠r→mw f3 y=mw f2 y:=fun y hy hn=>g3 _ (I.al hy (pM y)).1 (fun q=>nms y hy q.symm) (mne y hy hn)
   have up3:∀ y∈rs,mw f2 y≠0→mw f3 y≠0:=fun y hy h=>by
    by_cases q:y=r
    ·rw [q,g3m]; have:=(cu_pos I hr (j+1)).1; exact fun z0=>lin [_] [] [4130,8211] 0 149058 rfl this z0
    ·rw [m3 y hy q]; exact h
   have M3:Ms rs f0 f3:=⟨fun a h3 h4=>(g3 a h3 (by exact fun z0=>lin [_,_,_] [] [2199730000097,1141047378,4296343635] 0 822416963 rfl as.2.2 h4 z0) (I.nmlo h4 r hr)).trans (M2.lo a h3 h4),fun y hy=>(g3 _ (I.al hy (pT y)).1 (fun q=>(I.pSm hr hom).2 (I.pos hy hr (pT y) (I.pS hr hom) q).2.symm) (I.nm hy (pT y) (by decide) r hr)).trans (M2.tg y hy),fun y hy hz0 o' ho'=>by
    have n1:y≠r:=fun q=>by rw [q,g3m] at hz0; have:=(cu_pos I hr (j+1)).1; exact lin [_] [] [8211,4130] 0 8655939 rfl hz0 this
    rw [m3 y hy n1] at hz0
    exact (g3 _ (I.al hy (I.pS hy ho')).1 (fun q=>n1 (I.pos hy hr (I.pS hy ho') (I.pS hr hom) q).1) (I.nm hy (I.pS hy ho') (I.pSm hy ho').1 r hr)).trans (M2.un y hy hz0 o' ho')⟩
   have le3:cnt rs f3≤cnt rs f:=cnt_le fun y hy h=>mono1 y hy (Classical.byContradiction fun q=>up3 y hy (V1.mono I hr' hy q) h)
   obtain ⟨f4,V2,S2⟩:=go_on f3 M3 g3m (fun i o' hi ho'=>by
    have hm':=List.mem_of_getElem? ho'
    by_cases q:o'=o
    ·rw [q,g3s,h1]
    ·have nq:r.1+o'≠r.1+o:=by exact fun z0=>(Int.lt_or_gt_of_ne q).elim (fun z1=>lin [_,_,_] [] [17595004657923,1081410] 0 8721475 rfl z0 z1) (fun z1=>lin [_,_,_] [] [17595004657923,1114194] 0 8655939 rfl z0 z1)
     rw [g3 _ (I.al hr (I.pS hr hm')).1 nq (I.nm hr (I.pS hr hm') (I.pSm hr hm').1 r hr),V1.q1 _ (I.al hr (I.pS hr hm')).1 (I.nm hr (I.pS hr hm') (I.pSm hr hm').1),g1 _ (I.al hr (I.pS hr hm')).1 nq (I.nm hr (I.pS hr hm') (I.pSm hr hm').1 r' hr')]
     exact hs i o' (by exact lin [] [_,_] [2298519812] 65556 149058 rfl hi) ho') le3
   have up4:∀ y∈rs,mw f2 y≠0→mw f4 y≠0:=fun y hy h=>V2.mono I hr hy (up3 y hy h)
   have r4:mw f4 r'=cu r'.2 r'.2.os.length:=by
    have p:=(cu_pos I hr' r'.2.os.length).1
    rw [V2.q2 r' hr' rne (by rw [m3 r' hr' rne,V1.q3]; exact fun z0=>lin [_] [] [4130,8211] 0 149058 rfl p z0),m3 r' hr' rne,V1.q3]
   refine ⟨f4,⟨fun a h3 h4=>?_,fun y hy hn h=>?_,V2.q3,fun y hy hy0 hy4=>?_,fun i o' hi ho' y hy hyt=>?_⟩,fun c=>?_⟩
   ·rw [V2.q1 a h3 h4]
    by_cases q:a=r.1+o
    ·rw [q,g3s,hT,h1]
    ·rw [g3 a h3 q (h4 r hr),V1.q1 a h3 h4,g1 a h3 q (h4 r' hr')]
   ·have n1:y≠r':=fun q=>h (by rw [q]; exact h2)
    have e1:=m1 y hy n1
    have e2:mw f2 y=mw f1 y:=V1.q2 y hy n1 (by rw [e1]; exact h)
    have e3:=m3 y hy hn
    rw [V2.q2 y hy hn (by rw [e3,e2,e1]; exact h),e3,e2,e1]
   ·have n2:y≠r:=fun q=>by rw [q,hm] at hy0; exact lin [_] [] [4130,8211] 0 149058 rfl c0.1 hy0
    by_cases q:y=r'
    ·subst q
     refine ⟨r4,hz',fun o' ho' y' hy' hyt=>?_⟩
     obtain ⟨i,_,hi⟩:=List.mem_iff_getElem.mp ho'
     exact up4 y' hy' (V1.q5 i o' (Nat.zero_le _) (List.getElem?_eq_some_iff.mpr ⟨_,hi⟩) y' hy' hyt)
    ·by_cases q2:mw f2 y=0
     ·exact V2.q4 y hy (by rw [m3 y hy n2]; exact q2) hy4
     ·have A:=V1.q4 y hy (by rw [m1 y hy q]; exact hy0) q2
      refine ⟨?_,A.2.1,fun o' ho' y' hy' hyt=>up4 y' hy' (A.2.2 o' ho' y' hy' hyt)⟩
      rw [V2.q2 y hy n2 (by rw [m3 y hy n2]; exact q2),m3 y hy n2,A.1]
   ·by_cases q:i=j
    ·subst q
     rw [ho] at ho'
     cases ho'
     have:y=r':=(I.pos hy hr' (pM y) (pM r') (by rw [← hyt,h1])).1
     rw [this,r4]
     have:=(cu_pos I hr' r'.2.os.length).1
     exact fun z0=>lin [_] [] [4130,8211] 0 149058 rfl this z0
    ·exact V2.q5 i o' (by exact (Nat.lt_or_gt_of_ne q).elim (fun z0=>lin [] [_,_] [65556,32837] 2298519812 149058 rfl hi z0) (fun z0=>lin [] [_,_] [65557] 2298519812 149058 rfl z0)) ho' y hy hyt
   ·obtain ⟨c2,S1⟩:=S1 (c+1)
    obtain ⟨c3,S2⟩:=S2 c2
    refine ⟨c3,fun K F C w=>?_⟩
    obtain ⟨K1,w1⟩:=S2 K F C w
    rw [← hf3,← hcu] at w1
    have D2:=M2.desc I hr'
    have D2r:=(M2.desc I hr).1 j o ho
    have cl:=(cu_pos I hr' r'.2.os.length).2 (Nat.le_refl _)
    obtain ⟨K2,w2⟩:=S1 _ F C (Sw_up V1.q3 D2.2 am'.2.1 cl.1 rb.2.2.2.2 h2m D2r am.2.1 c1.1 as.2.1 h2s w1)
    rw [← hf1,← htag] at w2
    exact ⟨_,Sw_down hm hO am.2.1 c1.1 hne as.2.1 (hT.trans h1) ((fresh_eq I hr' f).trans (decide_eq_true h2)) at'.2.1 am'.2.1 w2⟩
  ·have hno:fresh f (at_ f (r.1+o))=false:=by
    rw [hT]
    rcases I.wd r hr o ob.2.2 ob.1 ob.2.1 with h | h | h | h
    ·exact fresh_no (.inl h)
    ·exact fresh_no (.inr (.inl h))
    ·exact fresh_no (.inr (.inr h))
    ·obtain ⟨y,hy,e⟩:=mem_fsts h
     rw [← e,fresh_eq I hy f]
     exact decide_eq_false fun q=>hfr ⟨y,hy,e.symm,q⟩
   generalize hf1:put f (r.1+-4) (cu r.2 (j+1))=f1
   have g1:∀ a,a%4=0→a≠r.1+-4→at_ f1 a=at_ f a:=fun a h3 h4=>by rw [← hf1,at_put_n am.1 h3 h4]
   have g1m:mw f1 r=cu r.2 (j+1):=by rw [← hf1]; exact at_put_i hcm.1 hcm.2
   have m1:∀ y∈rs,y≠r→mw f1 y=mw f y:=fun y hy hn=>g1 _ (I.al hy (pM y)).1 (mne y hy hn)
   have pos1:=(cu_pos I hr (j+1)).1
   have un1:∀ y∈rs,mw f1 y=0→y≠r∧mw f y=0:=fun y hy h=>by
    have n1:y≠r:=fun q=>by rw [q,g1m] at h; exact lin [_] [] [4130,8211] 0 149058 rfl pos1 h
    exact ⟨n1,by rw [← m1 y hy n1]; exact h⟩
   have M1:Ms rs f0 f1:=⟨fun a h3 h4=>(g1 a h3 (I.nmlo h4 r hr)).trans (M.lo a h3 h4),fun y hy=>(g1 _ (I.al hy (pT y)).1 (I.nm hy (pT y) (by decide) r hr)).trans (M.tg y hy),fun y hy hz0 o' ho'=>(g1 _ (I.al hy (I.pS hy ho')).1 (I.nm hy (I.pS hy ho') (I.pSm hy ho').1 r hr)).trans (M.un y hy (un1 y hy hz0).2 o' ho')⟩
   obtain ⟨f2,V,S⟩:=go_on f1 M1 g1m (fun i o' hi ho'=>(g1 _ (I.al hr (I.pS hr (List.mem_of_getElem? ho'))).1 (I.nm hr (I.pS hr (List.mem_of_getElem? ho')) (I.pSm hr (List.mem_of_getElem? ho')).1 r hr)).trans (hs i o' (by exact lin [] [_,_] [2298519812] 65556 149058 rfl hi) ho')) (cnt_le fun y hy h=>(un1 y hy h).2)
   have up1:∀ y∈rs,mw f y≠0→mw f1 y≠0:=fun y hy h q=>h (un1 y hy q).2
   refine ⟨f2,⟨fun a h3 h4=>(V.q1 a h3 h4).trans (g1 a h3 (h4 r hr)),fun y hy hn h=>by rw [V.q2 y hy hn (up1 y hy h),m1 y hy hn],V.q3,fun y hy hy0 hy4=>?_,fun i o' hi ho' y hy hyt=>?_⟩,fun c=>?_⟩
   ·have n2:y≠r:=fun q=>by rw [q,hm] at hy0; exact lin [_] [] [4130,8211] 0 149058 rfl c0.1 hy0
    exact V.q4 y hy (by rw [m1 y hy n2]; exact hy0) hy4
   ·by_cases q:i=j
    ·subst q
     rw [ho] at ho'
     cases ho'
     exact V.mono I hr hy (up1 y hy fun q=>hfr ⟨y,hy,hyt,q⟩)
    ·exact V.q5 i o' (by exact (Nat.lt_or_gt_of_ne q).elim (fun z0=>lin [] [_,_] [65556,32837] 2298519812 149058 rfl hi z0) (fun z0=>lin [] [_,_] [65557] 2298519812 149058 rfl z0)) ho' y hy hyt
   ·obtain ⟨c2,S⟩:=S c
    refine ⟨c2,fun K F C w=>?_⟩
    obtain ⟨K1,w1⟩:=S K F C w
    rw [← hf1,← hcu] at w1
    exact ⟨_,Sw_next hm hO am.2.1 c1.1 hne as.2.1 rfl hno w1⟩
end
end
section
section
variable {ks:List Ki}{rs:List Rk}{f0:Int→Int}{e t:Int}{Z:Rk→Prop}
noncomputable def bkR(r:Rk):Bk:=(r.1-8,bsz r.2.wd,some r.2.w)
noncomputable def bsOf(rs:List Rk)(e:Int):List Bk:=rs.map bkR++[(e,1600-e,none)]
theorem HB_of{f:Int→Int}(hk:∀ k∈ks,KiOK f k)(he:at_ f e=1601-e)(he2:e < 1600):∀{l:List Rk}{a:Int},Cons ks a l e→a%16=0→1088≤a→(∀ r∈l,at_ f (r.1+-8)=r.2.w)→HB f a (bsOf l e)
 | [],a,c,h16,ha,_=>by
  have c:a=e:=c
  subst c
  have he:f (a / 4)=1601-a:=he
  have h1:f (a / 4)%2=1:=by rw [he]; exact Int.le_antisymm (lin [_] [] [139282] 73745 149058 rfl (dmC _ 2 rfl)) (lin [_,_,_,_,_] [] [8211,145410782536179,79249822870905299739187,528417] 2134081 49128355074480918932615024295605899960453 rfl h16 (dmA _ 16) (dmA _ 2) (dmB _ 2 rfl))
  have h2:szf f a=1600-a:=by unfold szf; rw [if_pos h1,he]; exact Int.le_antisymm (lin [_] [] [] 118068906111067833021057 449 rfl ) (lin [_] [] [] 92386514865537977627025 449 rfl )
  exact ⟨rfl,he2,by exact lin [_] [] [35655905] 4129 149058 rfl ha,h2,.inl h1,(if_pos h1).symm,by show a+(1600-a)=1600; exact Int.le_antisymm (lin [_] [] [] 7206762194686485073 449 rfl ) (lin [_] [] [] 7206353965429035233 449 rfl )⟩
 | r :: l,a,⟨c1,c2,c⟩,h16,ha,ht=>by
  have K:=hk _ c2
  have b:=bsz_b K.b.w0 K.b.w1
  have k0:=K.a0
  have k1:=K.a1
  have k4:=K.a4
  have hl:=(c.at (fun k h=>(hk k h).b) (by exact Int.le_antisymm (b.elim (fun z0=>lin [_,_,_,_,_,_] [] [8211,8486979,431283805790723,1291368085994160726643,33980514] 426081 62943945980766184564549972577774762128545229829 rfl h16 z0.1 (dmA _ 16) (dmA _ 16) (dmC _ 16 rfl)) (fun z0=>lin [_,_,_,_,_,_] [] [8211,16875587,431283805790723,1291368085994160726643,33980514] 426081 62943945980766184564549972577774762128545229829 rfl h16 z0.1 (dmA _ 16) (dmA _ 16) (dmC _ 16 rfl))) (lin [_] [] [4129] 4129 149058 rfl (dmB _ 16 rfl)))).2.1
  have e1:r.1-8=a:=by exact Int.le_antisymm (lin [_,_] [] [17582800915] 18270433585 8655939 rfl c1) (lin [_,_] [] [17582800915] 17449058369 8721475 rfl c1)
  have e2:f (a / 4)=r.2.w:=by
   have:=ht r (.head _)
   rwa [show r.1+-8=a by exact Int.le_antisymm (lin [_,_] [] [17582800915] 146247033185 8655939 rfl c1) (lin [_,_] [] [17582800915] 140929302593 8721475 rfl c1)] at this
  have h1:¬ f (a / 4)%2=1:=by rw [e2]; exact fun z0=>lin [_,_,_,_,_] [] [8211,622659,431283805790723,1726267783750179] 0 49128355084612205716461483053968401703045 rfl k4 z0 (dmA _ 16) (dmA _ 2)
  have h2:szf f a=bsz r.2.wd:=by
   unfold szf
   rw [if_neg h1,e2]
   exact congrArg bsz K.d0
  refine ⟨e1,by exact b.elim (fun z0=>lin [_,_,_] [] [104865810,2214732097,16973907] 838959170 379171393604 rfl he2 hl z0.1) (fun z0=>lin [_,_,_] [] [104865810,2214732097,33751123] 838959170 379171393604 rfl he2 hl z0.1),by exact lin [_] [] [35655905] 4129 149058 rfl ha,h2,.inr (by rw [e2]; exact ⟨lin [_] [] [2101409] 4129 149058 rfl k0,lin [_] [] [12591121] 240132114 149058 rfl k1⟩),?_,HB_of hk he he2 c (by exact Int.le_antisymm (b.elim (fun z0=>lin [_,_,_,_,_,_] [] [8211,8486979,431283805790723,1291368085994160726643,33980514] 426081 62943945980766184564549972577774762128545229829 rfl h16 z0.1 (dmA _ 16) (dmA _ 16) (dmC _ 16 rfl)) (fun z0=>lin [_,_,_,_,_,_] [] [8211,16875587,431283805790723,1291368085994160726643,33980514] 426081 62943945980766184564549972577774762128545229829 rfl h16 z0.1 (dmA _ 16) (dmA _ 16) (dmC _ 16 rfl))) (lin [_] [] [4129] 4129 149058 rfl (dmB _ 16 rfl))) (by exact b.elim (fun z0=>lin [_,_] [] [35655905,8486979] 2199730000097 566498883 rfl ha z0.1) (fun z0=>lin [_,_] [] [35655905,16875587] 2199730000097 566498883 rfl ha z0.1)) fun r h=>ht r (.tail _ h)⟩
  rw [if_neg h1,e2]
theorem bof_of(hk:∀ k∈ks,KdB k){x:Int}:∀{l:List Rk}{a:Int},Cons ks a l e→a%16=0→a≤x→x < 1600→bof x (bsOf l e)=0∧(∀ r∈l,¬ inR r x)∨∃ r∈l,inR r x∧bof x (bsOf l e)=r.1
 | [],a,c,_,ha,hx=>by
  refine .inl ⟨?_,(fun _ h=>nomatch h)⟩
  show (if x < e+(1600-e) then (if none=none∨x < e+8 then 0 else e+8) else 0)=(0:Int)
  rw [if_pos (by exact lin [_,_] [] [104865810] 79095049216081938 149058 rfl hx),if_pos (.inl rfl)]
 | r :: l,a,⟨c1,c2,c⟩,h16,ha,hx=>by
  have K:=hk _ c2
  have b:=bsz_b K.w0 K.w1
  show (if x < r.1-8+bsz r.2.wd then (if some r.2.w=none∨x < r.1-8+8 then 0 else r.1-8+8) else bof x (bsOf l e))=(0:Int)∧_∨∃ r'∈r :: l,inR r' x∧(if x < r.1-8+bsz r.2.wd then (if some r.2.w=none∨x < r.1-8+8 then 0 else r.1-8+8) else bof x (bsOf l e))=r'.1
  have A:=(c.at hk (by exact Int.le_antisymm (b.elim (fun z0=>lin [_,_,_,_,_,_] [] [8211,8486979,431283805790723,1291368085994160726643,33980514] 426081 62943945980766184564549972577774762128545229829 rfl h16 z0.1 (dmA _ 16) (dmA _ 16) (dmC _ 16 rfl)) (fun z0=>lin [_,_,_,_,_,_] [] [8211,16875587,431283805790723,1291368085994160726643,33980514] 426081 62943945980766184564549972577774762128545229829 rfl h16 z0.1 (dmA _ 16) (dmA _ 16) (dmC _ 16 rfl))) (lin [_] [] [4129] 4129 149058 rfl (dmB _ 16 rfl)))).2.2.2
  by_cases q:x < r.1-8+bsz r.2.wd
  ·rw [if_pos q]
   by_cases q2:x < r.1
   ·rw [if_pos (.inr (by exact lin [_,_] [] [65554] 4609977966018578 149058 rfl q2))]
    refine .inl ⟨rfl,fun r' hr' h=>?_⟩
    rcases List.mem_cons.mp hr' with z | z
    ·subst z; exact absurd h.1 (by exact fun z0=>lin [_,_] [] [65554,32833] 0 149058 rfl q2 z0)
    ·have:=A r' z; have:=h.1; (rename_i q0; exact lin [_,_,_,_,_] [] [17582800915,3449170949374034,36607277860004449,4325473] 0 26664505462852 rfl c1 q q0.1 this)
   ·rw [if_neg fun z=>z.elim (fun h=>nomatch h) fun h=>by exact lin [_,_] [] [65560,4609977966018578] 0 149058 rfl q2 h]
    exact .inr ⟨r,.head _,⟨by exact lin [_,_] [] [65560] 32833 149058 rfl q2,q⟩,by exact Int.le_antisymm (lin [_] [] [] 288106499121745 449 rfl ) (lin [_] [] [] 576212998242321 449 rfl )⟩
  ·rw [if_neg q]
   rcases bof_of hk c (by exact Int.le_antisymm (b.elim (fun z0=>lin [_,_,_,_,_,_] [] [8211,8486979,431283805790723,1291368085994160726643,33980514] 426081 62943945980766184564549972577774762128545229829 rfl h16 z0.1 (dmA _ 16) (dmA _ 16) (dmC _ 16 rfl)) (fun z0=>lin [_,_,_,_,_,_] [] [8211,16875587,431283805790723,1291368085994160726643,33980514] 426081 62943945980766184564549972577774762128545229829 rfl h16 z0.1 (dmA _ 16) (dmA _ 16) (dmC _ 16 rfl))) (lin [_] [] [4129] 4129 149058 rfl (dmB _ 16 rfl))) (by exact lin [_,_,_,_] [] [17582800915,3449170949374040] 72007950657 294065731 rfl c1 q) hx with ⟨h1,h2⟩ | ⟨r',h1,h2,h3⟩
   ·refine .inl ⟨h1,fun r' hr' h=>?_⟩
    rcases List.mem_cons.mp hr' with z | z
    ·subst z; exact q h.2
    ·exact h2 r' z h
   ·exact .inr ⟨r',.tail _ h1,h2,h3⟩
theorem bofA_of(I:WI ks rs f0 e t)(x:Int):bofA x (bsOf rs e)=0∧(∀ r∈rs,¬ inR r x)∨∃ r∈rs,inR r x∧bofA x (bsOf rs e)=r.1:=by
 unfold bofA
 by_cases q:x < 1088∨1600≤x
 ·rw [if_pos q]
  refine .inl ⟨rfl,fun r hr h=>?_⟩
  have B:=I.rb hr
  have E:=I.eb
  have hn:=I.n
  have b1:=B.lo
  have b2:=B.hi
  have:=h.1
  have:=h.2
  (rename_i q0; exact q.elim (fun z0=>lin [_,_] [] [35918049,65553,570523714] 0 285611587 rfl b1 q0 z0) (fun z0=>lin [_,_,_,_] [_] [234201620321026065,598036,580954750657121,18590552021106770,1663045857] 0 11805935352284100972614 rfl E.2.2 hn b2 this z0))
 ·rw [if_neg q]
  exact bof_of I.kb I.co (by decide) (by omega) (by omega)
structure Mkd(rs:List Rk)(f0 f:Int→Int)(Z:Rk→Prop):Prop where
 out:∀ b,b%4=0→(∀ r∈rs,b≠r.1+-4)→at_ f b=at_ f0 b
 fin:∀ r∈rs,mw f r≠0→mw f r=cu r.2 r.2.os.length∧Z r∧∀ o∈r.2.os,∀ y∈rs,at_ f0 (r.1+o)=y.1→mw f y≠0
theorem Mkd.ms{f:Int→Int}(I:WI ks rs f0 e t)(D:Mkd rs f0 f Z):Ms rs f0 f:=⟨fun b h1 h2=>D.out b h1 (I.nmlo h2),fun r hr=>D.out _ (I.al hr (pT r)).1 (I.nm hr (pT r) (by decide)),fun r hr _ o ho=>D.out _ (I.al hr (I.pS hr ho)).1 (I.nm hr (I.pS hr ho) (I.pSm hr ho).1)⟩
theorem Mkd.nil(I:WI ks rs f0 e t):Mkd rs f0 f0 Z:=⟨(fun _ _ _=>rfl),fun r hr h=>absurd (I.tg r hr).2 h⟩
theorem Mkd.hb{f:Int→Int}(I:WI ks rs f0 e t)(D:Mkd rs f0 f Z):HB f 1088 (bsOf rs e):=by
 have E:=I.eb
 have hn:=I.n
 have M:=D.ms I
 refine HB_of (fun k h=>(I.ko k h).1.cong fun a h1 _ h3=>M.lo a h1 (by have:=(I.ko k h).1.a1; exact lin [_,_] [] [94892212242,100761665] 71311378 25499203 rfl h3 this)) ?_ (by exact lin [_] [_] [234201620321026065,598036] 104865810 28410310298269573720070 rfl E.2.2 hn) I.co (by decide) (by decide) fun r hr=>(M.tg r hr).trans (I.tg r hr).1
 refine (D.out e (by exact Int.le_antisymm (lin [_,_,_,_,_] [] [8211,145410782536179,4647704605598275,8781922] 393313 49128355079546559906686749562307281494277 rfl E.1 (dmA _ 16) (dmA _ 4) (dmC _ 4 rfl)) (lin [_] [] [4129] 4129 149058 rfl (dmB _ 4 rfl))) fun r hr q=>?_).trans I.h0
 have B:=I.rb hr
 have:=B.hi
 have:=B.sz
 have:=B.k.w0
 (rename_i q1 q0; exact lin [_,_,_,_] [] [72343633939,580954750657121,567405617521,397345] 0 345080090692 rfl q q1 q0 this)
theorem marks(I:WI ks rs f0 e t)(hZ:Clo rs f0 Z):∀(ws:List Int)(f:Int→Int),Mkd rs f0 f Z→(∀ w∈ws,∀ r∈rs,inR r w→Z r)→∃ f',Mk_ (bsOf rs e) f ws f'∧Mkd rs f0 f' Z∧(∀ r∈rs,mw f r≠0→mw f' r≠0)∧∀ w∈ws,∀ r∈rs,inR r w→mw f' r≠0:=by
 intro ws
 induction ws with
 | nil=>exact fun f D _=>⟨f,.nil,D,(fun _ _ h=>h),(fun _ h=>nomatch h)⟩
 | cons w ws ih =>
  intro f D hw
  have hw':=fun w h=>hw w (.tail _ h)
  have hb:=D.hb I
  rcases bofA_of I w with ⟨h1,h2⟩ | ⟨r,hr,h2,h1⟩
  ·obtain ⟨f',a1,a2,a3,a4⟩:=ih f D hw'
   refine ⟨f',.skip hb h1 a1,a2,a3,fun w' h r hr hi=>?_⟩
   rcases List.mem_cons.mp h with z | z
   ·subst z; exact absurd hi (h2 r hr)
   ·exact a4 w' z r hr hi
  ·have one:∀ r'∈rs,inR r' w→r'=r:=fun r' hr' h=>by
    have B:=I.rb hr
    have B':=I.rb hr'
    rcases I.co.apart I.kb (by decide) r' hr' r hr with z | z | z
    ·exact z
    ·have:=h.2; have:=h2.1; (rename_i q0; exact False.elim (lin [_,_,_,_] [] [4429226241,1197371135721554,3211345] 0 21370435 rfl z q0 this))
    ·have:=h.1; have:=h2.2; (rename_i q0; exact False.elim (lin [_,_,_,_] [] [4429226241,3211345,1197371135721554] 0 25499203 rfl z q0 this))
   have B:=I.rb hr
   have ne0:r.1≠0:=by have:=B.lo; exact fun z0=>lin [_] [] [35918049,8211] 0 149058 rfl this z0
   by_cases q:mw f r=0
   ·have hfr:fresh f r.1=true:=(fresh_eq I hr f).trans (decide_eq_true q)
    have am:=I.al hr (pM r)
    have at':=I.al hr (pT r)
    have M:=D.ms I
    have c0:=cu_pos I hr 0
    have c00:=c0.2 (Nat.zero_le _)
    have htag:at_ f (r.1+-8)+20=cu r.2 0:=by
     rw [M.tg r hr]
     have:at_ f0 (r.1+-8)=r.2.w:=(I.tg r hr).1
     rw [this]; unfold cu; exact Int.le_antisymm (lin [_] [] [] 2191442103193526782173505 449 rfl ) (lin [_] [] [] 1520627155836167602709265 449 rfl )
    generalize hf1:put f (r.1+-4) (cu r.2 0)=f1
    have g1:∀ a,a%4=0→a≠r.1+-4→at_ f1 a=at_ f a:=fun a h3 h4=>by rw [← hf1,at_put_n am.1 h3 h4]
    have g1m:mw f1 r=cu r.2 0:=by rw [← hf1]; exact at_put_i (by exact lin [_] [] [4130] 4129 149058 rfl c0.1) (by exact lin [_] [] [71311378] 281474976718866 149058 rfl c00.2.1)
    have m1:∀ y∈rs,y≠r→mw f1 y=mw f y:=fun y hy hn=>g1 _ (I.al hy (pM y)).1 fun z=>hn (I.pos hy hr (pM y) (pM r) z).1
    have M1:Ms rs f0 f1:=⟨fun a h3 h4=>(g1 a h3 (I.nmlo h4 r hr)).trans (M.lo a h3 h4),fun y hy=>(g1 _ (I.al hy (pT y)).1 (I.nm hy (pT y) (by decide) r hr)).trans (M.tg y hy),fun y hy _ o' ho'=>(g1 _ (I.al hy (I.pS hy ho')).1 (I.nm hy (I.pS hy ho') (I.pSm hy ho').1 r hr)).trans (D.out _ (I.al hy (I.pS hy ho')).1 (I.nm hy (I.pS hy ho') (I.pSm hy ho').1))⟩
    obtain ⟨f2,V,S⟩:=visit I hZ (8 * cnt rs f1+(r.2.os.length-0)) f1 r 0 0 hr (hw w (.head _) r hr h2) M1 g1m (Nat.zero_le _) (fun i o' _ ho'=>(g1 _ (I.al hr (I.pS hr (List.mem_of_getElem? ho'))).1 (I.nm hr (I.pS hr (List.mem_of_getElem? ho')) (I.pSm hr (List.mem_of_getElem? ho')).1 r hr)).trans (D.out _ (I.al hr (I.pS hr (List.mem_of_getElem? ho'))).1 (I.nm hr (I.pS hr (List.mem_of_getElem? ho')) (I.pSm hr (List.mem_of_getElem? ho')).1))) (by decide) (by decide) (Nat.le_refl _)
    have M2:=V.ms I hr M1
    obtain ⟨c2,S⟩:=S 1
    have cl:=(cu_pos I hr r.2.os.length).2 (Nat.le_refl _)
    have clp:=(cu_pos I hr r.2.os.length).1
    have hq3:at_ f2 (r.1+-4)=cu r.2 r.2.os.length:=V.q3
    obtain ⟨K,w2⟩:=S 0 f2 c2 (.fin am.2.1 (by rw [hq3]; exact cl.1) (by rw [hq3]; exact (M2.desc I hr).2))
    rw [← hf1,← htag] at w2
    have up:∀ y∈rs,mw f y≠0→mw f2 y≠0:=fun y hy h=>V.mono I hr hy (by
     by_cases z:y=r
     ·rw [z,g1m]; exact fun z0=>lin [_] [] [4130,8211] 0 149058 rfl c0.1 z0
     ·rw [m1 y hy z]; exact h)
    have D2:Mkd rs f0 f2 Z:=⟨fun b h3 h4=>(V.q1 b h3 h4).trans ((g1 b h3 (h4 r hr)).trans (D.out b h3 h4)),fun y hy h=>by
     by_cases z:y=r
     ·subst z
      refine ⟨V.q3,hw w (.head _) y hr h2,fun o ho y' hy' hyt=>?_⟩
      obtain ⟨i,_,hi⟩:=List.mem_iff_getElem.mp ho
      exact V.q5 i o (Nat.zero_le _) (List.getElem?_eq_some_iff.mpr ⟨_,hi⟩) y' hy' hyt
     ·by_cases z2:mw f y=0
      ·exact V.q4 y hy (by rw [m1 y hy z]; exact z2) h
      ·have F:=D.fin y hy z2
       refine ⟨?_,F.2.1,fun o ho y' hy' hyt=>up y' hy' (F.2.2 o ho y' hy' hyt)⟩
       rw [V.q2 y hy z (by rw [m1 y hy z]; exact z2),m1 y hy z,F.1]⟩
    obtain ⟨f',a1,a2,a3,a4⟩:=ih f2 D2 hw'
    refine ⟨f',.new hb h1 ne0 hfr at'.2.1 am.2.1 w2 a1,a2,fun y hy h=>a3 y hy (up y hy h),fun w' h y hy hi=>?_⟩
    rcases List.mem_cons.mp h with z | z
    ·subst z
     rw [one y hy hi]
     exact a3 r hr (by rw [V.q3]; exact fun z0=>lin [_] [] [4130,8211] 0 149058 rfl clp z0)
    ·exact a4 w' z y hy hi
   ·obtain ⟨f',a1,a2,a3,a4⟩:=ih f D hw'
    refine ⟨f',.old hb h1 ne0 ((fresh_eq I hr f).trans (decide_eq_false q)) a1,a2,a3,fun w' h y hy hi=>?_⟩
    rcases List.mem_cons.mp h with z | z
    ·subst z
     rw [one y hy hi]
     exact a3 r hr q
    ·exact a4 w' z y hy hi
end
end
section
noncomputable def jn(b s:Int):List Bk→List Bk
 | (b',s',none) :: r=>(b,s+s',none) :: r
 | r=>(b,s,none) :: r
noncomputable def mg(kp:Rk→Bool)(e:Int):List Rk→List Bk
 | []=>[(e,1600-e,none)]
 | r :: l=>if kp r then bkR r :: mg kp e l else jn (r.1-8) (bsz r.2.wd) (mg kp e l)
noncomputable def frees:List Bk→List (Int × Int)
 | []=>[]
 | (b,s,none) :: r=>(b,s) :: frees r
 | (_,_,some _) :: r=>frees r
noncomputable def lost(kp:Rk→Bool):List Rk→Int
 | []=>0
 | r :: l=>if kp r then lost kp l else bsz r.2.wd+lost kp l
noncomputable def jnR(rs:List (Int × Int))(be a:Int)(bs:List Bk):List (Int × Int):=match rs.getLast? with
 | some r=>if be=a then rs.dropLast++frees (jn r.1 r.2 bs) else rs++frees bs
 | none=>frees bs
theorem jn_jn(b s b' s':Int)(l:List Bk):jn b s (jn b' s' l)=jn b (s+s') l:=by
 rcases l with _ | ⟨⟨b2,s2,_ | d⟩,r⟩
 ·rfl
 ·show (b,s+(s'+s2),none) :: r=(b,s+s'+s2,none) :: r
  rw [Int.add_assoc]
 ·rfl
theorem last_eq{rs:List (Int × Int)}{r:Int × Int}(h:rs.getLast?=some r):rs=rs.dropLast++[r]:=by
 obtain ⟨ys,rfl⟩:=List.getLast?_eq_some_iff.mp h
 rw [List.dropLast_concat]
theorem jnR_some{rs:List (Int × Int)}{r:Int × Int}{be a:Int}{l:List Bk}:jnR (rs++[r]) be a l=if be=a then rs++frees (jn r.1 r.2 l) else (rs++[r])++frees l:=by
 unfold jnR
 rw [List.getLast?_concat,List.dropLast_concat]
theorem runPut_jnR{rs:List (Int × Int)}{be b s:Int}{l:List Bk}:jnR (runPut rs be b s) (b+s) (b+s) l=jnR rs be b (jn b s l):=by
 cases hg:rs.getLast? with
 | none =>
  have e0:rs=[]:=List.getLast?_eq_none_iff.mp hg
  subst e0
  show jnR ([]++[(b,s)]) (b+s) (b+s) l=frees (jn b s l)
  rw [jnR_some,if_pos rfl]; rfl
 | some r =>
  have e:=last_eq hg
  generalize rs.dropLast=ys at e
  subst e
  rw [jnR_some]
  unfold runPut
  rw [List.getLast?_concat,List.dropLast_concat]
  show jnR (if be=b then ys++[(r.1,r.2+s)] else ys++[r]++[(b,s)]) (b+s) (b+s) l=_
  by_cases q:be=b
  ·rw [if_pos q,if_pos q,jnR_some,if_pos rfl,jn_jn]
  ·rw [if_neg q,if_neg q,jnR_some,if_pos rfl]
theorem jnR_far{rs:List (Int × Int)}{be a:Int}{l:List Bk}(h:be≠a):jnR rs be a l=rs++frees l:=by
 cases hg:rs.getLast? with
 | none =>
  have e0:rs=[]:=List.getLast?_eq_none_iff.mp hg
  subst e0; rfl
 | some r =>
  rw [last_eq hg,jnR_some,if_neg h]
theorem jnR_kept{rs:List (Int × Int)}{be a:Int}{r:Rk}{l:List Bk}:jnR rs be a (bkR r :: l)=rs++frees l:=by
 cases hg:rs.getLast? with
 | none =>
  have e0:rs=[]:=List.getLast?_eq_none_iff.mp hg
  subst e0; rfl
 | some x =>
  rw [last_eq hg,jnR_some]
  by_cases q:be=a
  ·rw [if_pos q]
   show rs.dropLast++(x.1,x.2) :: frees l=_
   rw [List.append_assoc]; rfl
  ·rw [if_neg q]; rfl
section
variable {ks:List Ki}{f0:Int→Int}{e:Int}
theorem frA_of(hk:∀ k∈ks,KdB k)(kp:Rk→Bool):∀(l:List Rk)(a:Int)(f:Int→Int)(rs:List (Int × Int))(fr be:Int),Cons ks a l e→a%16=0→be≤a →
  (∀ r∈l,(kp r=true↔at_ f (r.1+-4)≠0))→(∀ r∈l,at_ f0 (r.1+-4)=0)→(∀ b,b%4=0→(∀ r∈l,b≠r.1+-4)→at_ f b=at_ f0 b) →
  frA (bsOf l e) f rs fr be=(f0,jnR rs be a (mg kp e l),fr+lost kp l)
 | [],a,f,rs,fr,be,c,_,_,_,_,hf=>by
  have c:a=e:=c
  subst c
  have ef:f=f0:=by
   funext i
   have:=hf (4 * i) (by exact Int.le_antisymm (lin [_,_,_] [] [594537891930513875,2195522] 98369 190670755247105448102148 rfl (dmA _ 4) (dmC _ 4 rfl)) (lin [_] [] [4129] 4129 149058 rfl (dmB _ 4 rfl))) (fun _ h=>nomatch h)
   unfold at_ at this
   rwa [show 4 * i / 4=i by exact Int.le_antisymm (lin [_,_,_] [] [594537891930513875,135201] 131089 9104266594633988 rfl (dmA _ 4) (dmB _ 4 rfl)) (lin [_,_,_] [] [594537891930513875,2195522] 65617 9104266728851716 rfl (dmA _ 4) (dmC _ 4 rfl))] at this
  subst ef
  show (f,runPut rs be a (1600-a),fr)=(f,jnR rs be a [(a,1600-a,none)],fr+0)
  rw [Int.add_zero]
  congr 2
  unfold runPut jnR
  cases hg:rs.getLast? with
  | none=>rw [List.getLast?_eq_none_iff.mp hg]; rfl
  | some r=>rfl
 | r :: l,a,f,rs,fr,be,⟨c1,c2,c⟩,h16,hbe,hkp,h0,hf=>by
  have K:=hk _ c2
  have b:=bsz_b K.w0 K.w1
  have A:=(c.at hk (by exact Int.le_antisymm (b.elim (fun z0=>lin [_,_,_,_,_,_] [] [8211,8486979,431283805790723,1291368085994160726643,33980514] 426081 62943945980766184564549972577774762128545229829 rfl h16 z0.1 (dmA _ 16) (dmA _ 16) (dmC _ 16 rfl)) (fun z0=>lin [_,_,_,_,_,_] [] [8211,16875587,431283805790723,1291368085994160726643,33980514] 426081 62943945980766184564549972577774762128545229829 rfl h16 z0.1 (dmA _ 16) (dmA _ 16) (dmC _ 16 rfl))) (lin [_] [] [4129] 4129 149058 rfl (dmB _ 16 rfl)))).2.2.2
  have e1:r.1-8=a:=by exact Int.le_antisymm (lin [_,_] [] [17582800915] 18270433585 8655939 rfl c1) (lin [_,_] [] [17582800915] 17449058369 8721475 rfl c1)
  have e4:r.1-8+4=r.1+-4:=by exact Int.le_antisymm (lin [_] [] [] 310138846858019709505 449 rfl ) (lin [_] [] [] 309055215670082445649 449 rfl )
  have es:r.1-8+bsz r.2.wd=a+bsz r.2.wd:=by exact Int.le_antisymm (lin [_,_,_] [] [17582800915] 76097676980876059185 8655939 rfl c1) (lin [_,_,_] [] [17582800915] 76128945521733804353 8721475 rfl c1)
  have ne:∀ r'∈l,r'.1+-4≠r.1+-4:=fun r' h=>by have:=A r' h; exact fun z0=>b.elim (fun z1=>lin [_,_,_,_] [] [17582800915,27597879582007905,151434984270504339,16973907] 0 26665041285188 rfl c1 this.1 z0 z1.1) (fun z1=>lin [_,_,_,_] [] [17582800915,27597879582007905,151434984270504339,33751123] 0 26665041285188 rfl c1 this.1 z0 z1.1)
  have a4:(r.1+-4)%4=0:=by exact Int.le_antisymm (lin [_,_,_,_,_,_] [] [17582800915,196691,4798543991317075,620277755288740307539,8814690] 426081 62943945980781746243318373436486316126940244229 rfl c1 h16 (dmA _ 16) (dmA _ 4) (dmC _ 4 rfl)) (lin [_] [] [4129] 4129 149058 rfl (dmB _ 4 rfl))
  have al:∀ r'∈l,(r'.1+-4)%4=0:=fun r' h=>by have:=(A r' h).2.2; exact Int.le_antisymm (lin [_,_,_,_,_] [] [532499,145410782536179,4971409493918724235843,8781922] 393313 49128355079546559906686749562307281494277 rfl this (dmA _ 16) (dmA _ 4) (dmC _ 4 rfl)) (lin [_] [] [4129] 4129 149058 rfl (dmB _ 4 rfl))
  have hh:=hkp r (.head _)
  show (if at_ f (r.1-8+4)≠0 then frA (bsOf l e) (put f (r.1-8+4) 0) rs fr be else frA (bsOf l e) f (runPut rs be (r.1-8) (bsz r.2.wd)) (fr+bsz r.2.wd) (r.1-8+bsz r.2.wd))=(f0,jnR rs be a (if kp r then bkR r :: mg kp e l else jn (r.1-8) (bsz r.2.wd) (mg kp e l)),fr+(if kp r then lost kp l else bsz r.2.wd+lost kp l))
  rw [e4]
  by_cases q:kp r=true
  ·rw [if_pos (hh.mp q),if_pos q,if_pos q,jnR_kept,frA_of hk kp l _ _ rs fr be c (by exact Int.le_antisymm (b.elim (fun z0=>lin [_,_,_,_,_,_] [] [8211,8486979,431283805790723,1291368085994160726643,33980514] 426081 62943945980766184564549972577774762128545229829 rfl h16 z0.1 (dmA _ 16) (dmA _ 16) (dmC _ 16 rfl)) (fun z0=>lin [_,_,_,_,_,_] [] [8211,16875587,431283805790723,1291368085994160726643,33980514] 426081 62943945980766184564549972577774762128545229829 rfl h16 z0.1 (dmA _ 16) (dmA _ 16) (dmC _ 16 rfl))) (lin [_] [] [4129] 4129 149058 rfl (dmB _ 16 rfl))) (by exact b.elim (fun z0=>lin [_,_,_] [] [65553,16973907] 4429463569 566498883 rfl hbe z0.1) (fun z0=>lin [_,_,_] [] [65553,33751123] 4429463569 566498883 rfl hbe z0.1)) (fun r' h=>?_) (fun r' h=>h0 r' (.tail _ h)) (fun x h1 h2=>?_),jnR_far (by exact fun z0=>b.elim (fun z1=>lin [_,_,_] [] [65553,4429463571,16973907] 0 138785344580 rfl hbe z0 z1.1) (fun z1=>lin [_,_,_] [] [65553,4429463571,33751123] 0 138785344580 rfl hbe z0 z1.1))]
   ·rw [at_put_n a4 (al r' h) (ne r' h)]; exact hkp r' (.tail _ h)
   ·by_cases z:x=r.1+-4
    ·rw [z,at_put_i (by decide) (by decide)]; exact (h0 r (.head _)).symm
    ·rw [at_put_n a4 h1 z]
     exact hf x h1 fun r' h=>by
      rcases List.mem_cons.mp h with w | w
      ·rw [w]; exact z
      ·exact h2 r' w
  ·have hz:at_ f (r.1+-4)=0:=Classical.byContradiction fun z=>q (hh.mpr z)
   rw [if_neg (by simpa using hz),if_neg q,if_neg q,frA_of hk kp l (a+bsz r.2.wd) _ _ _ _ c (by exact Int.le_antisymm (b.elim (fun z0=>lin [_,_,_,_,_,_] [] [8211,8486979,431283805790723,1291368085994160726643,33980514] 426081 62943945980766184564549972577774762128545229829 rfl h16 z0.1 (dmA _ 16) (dmA _ 16) (dmC _ 16 rfl)) (fun z0=>lin [_,_,_,_,_,_] [] [8211,16875587,431283805790723,1291368085994160726643,33980514] 426081 62943945980766184564549972577774762128545229829 rfl h16 z0.1 (dmA _ 16) (dmA _ 16) (dmC _ 16 rfl))) (lin [_] [] [4129] 4129 149058 rfl (dmB _ 16 rfl))) (by exact lin [_,_,_] [] [17582800915] 76097676980876059185 8655939 rfl c1) (fun r' h=>hkp r' (.tail _ h)) (fun r' h=>h0 r' (.tail _ h)) (fun x h1 h2=>?_),← es,runPut_jnR,e1,Int.add_assoc]
   by_cases z:x=r.1+-4
   ·rw [z,hz]; exact (h0 r (.head _)).symm
   ·exact hf x h1 fun r' h=>by
     rcases List.mem_cons.mp h with w | w
     ·rw [w]; exact z
     ·exact h2 r' w
end
end
section
noncomputable def Ctg:Int→List Bk→Prop
 | a,[]=>a=1600
 | a,(b,s,_) :: r=>b=a∧16≤s∧s%16=0∧Ctg (a+s) r
theorem Ctg.jn{a s:Int}{L:List Bk}(h1:16≤s)(h2:s%16=0)(c:Ctg (a+s) L):Ctg a (jn a s L):=by
 rcases L with _ | ⟨⟨b2,s2,_ | d⟩,r⟩
 ·exact ⟨rfl,h1,h2,c⟩
 ·obtain ⟨g1,g2,g3,g4⟩:=c
  exact ⟨rfl,by exact lin [_,_] [] [528513,8917121] 34370752641 553981507 rfl h1 g2,by exact Int.le_antisymm (lin [_,_,_,_,_,_,_,_] [] [8211,98371,431283805790723,22817340547342931,6013735140609852383859,34046050] 491617 77985824526868493298273709342480211784814485341025285 rfl h2 g3 (dmA _ 16) (dmA _ 16) (dmA _ 16) (dmC _ 16 rfl)) (lin [_] [] [4129] 4129 149058 rfl (dmB _ 16 rfl)),by rw [← Int.add_assoc]; exact g4⟩
 ·exact ⟨rfl,h1,h2,c⟩
theorem Ctg.mem:∀{L:List Bk}{a:Int},Ctg a L→a%16=0→∀ p∈L,a≤p.1∧p.1%16=0∧16≤p.2.1∧p.2.1%16=0∧p.1+p.2.1≤1600
 | (b,s,d) :: r,a,⟨g1,g2,g3,g4⟩,ha,p,hp=>by
  have hle:∀{L:List Bk}{a:Int},Ctg a L→a≤1600:=fun {L}=>by
   induction L with
   | nil=>intro a h; exact Int.le_of_eq h
   | cons q L ih=>intro a h; obtain ⟨_,h1,_,h2⟩:=h; have:=ih h2; exact lin [_,_] [] [528513,1718188384497] 838959169 285611587 rfl h1 this
  have:=hle g4
  rcases List.mem_cons.mp hp with z | z
  ·subst z; subst g1; exact ⟨Int.le_refl _,ha,g2,g3,this⟩
  ·have:=g4.mem (by exact Int.le_antisymm (lin [_,_,_,_,_,_,_,_] [] [8211,98371,431283805790723,22817340547342931,7268131752020611375731,34046050] 491617 77985824526868493298273709342480211784814485341025285 rfl g3 ha (dmA _ 16) (dmA _ 16) (dmA _ 16) (dmC _ 16 rfl)) (lin [_] [] [4129] 4129 149058 rfl (dmB _ 16 rfl))) p z
   exact ⟨lin [_,_,_] [] [528513,2214732017] 1081409 285611587 rfl g2 this.1,⟨Int.le_antisymm (lin [_] [] [8211] 8209 8655939 rfl this.2.1) (lin [_] [] [8211] 4129 8721475 rfl this.2.1),⟨lin [_] [] [528513] 528513 149058 rfl this.2.2.1,⟨Int.le_antisymm (lin [_] [] [8211] 8209 8655939 rfl this.2.2.2.1) (lin [_] [] [8211] 4129 8721475 rfl this.2.2.2.1),lin [_,_] [] [3436376531201] 3436376531201 149058 rfl this.2.2.2.2⟩⟩⟩⟩
theorem Ctg.apart:∀{L:List Bk}{a:Int},Ctg a L→a%16=0→∀ p∈L,∀ q∈L,p=q∨p.1+p.2.1≤q.1∨q.1+q.2.1≤p.1
 | (b,s,d) :: r,a,⟨g1,g2,g3,g4⟩,ha,p,hp,q,hq=>by
  have m:=g4.mem (by exact Int.le_antisymm (lin [_,_,_,_,_,_,_,_] [] [8211,98371,431283805790723,22817340547342931,7268131752020611375731,34046050] 491617 77985824526868493298273709342480211784814485341025285 rfl g3 ha (dmA _ 16) (dmA _ 16) (dmA _ 16) (dmC _ 16 rfl)) (lin [_] [] [4129] 4129 149058 rfl (dmB _ 16 rfl)))
  rcases List.mem_cons.mp hp with z | z <;> rcases List.mem_cons.mp hq with y | y
  ·exact .inl (z.trans y.symm)
  ·have:=m q y; subst z; exact .inr (.inl (by dsimp only; exact lin [_,_,_,_] [] [65555,105293947201] 13153378577 29759043 rfl g1 this.1))
  ·have:=m p z; subst y; exact .inr (.inr (by dsimp only; exact lin [_,_,_,_] [] [65555,105293947201] 13153378577 29759043 rfl g1 this.1))
  ·exact g4.apart (by exact Int.le_antisymm (lin [_,_,_,_,_,_,_,_] [] [8211,98371,431283805790723,22817340547342931,7268131752020611375731,34046050] 491617 77985824526868493298273709342480211784814485341025285 rfl g3 ha (dmA _ 16) (dmA _ 16) (dmA _ 16) (dmC _ 16 rfl)) (lin [_] [] [4129] 4129 149058 rfl (dmB _ 16 rfl))) p z q y
theorem frees_mem{p:Int × Int}:∀{L:List Bk},p∈frees L↔(p.1,p.2,none)∈L
 | []=>⟨(fun h=>nomatch h),(fun h=>nomatch h)⟩
 | (b,s,none) :: r=>by
  show p∈(b,s) :: frees r↔_
  rw [List.mem_cons,List.mem_cons,frees_mem (L:=r)]
  constructor
  ·rintro (rfl | h)
   ·exact .inl rfl
   ·exact .inr h
  ·rintro (h | h)
   ·cases h; exact .inl rfl
   ·exact .inr h
 | (b,s,some d) :: r=>by
  show p∈frees r↔_
  rw [List.mem_cons,frees_mem (L:=r)]
  exact ⟨.inr,fun h=>h.elim (fun e=>nomatch e) id⟩
noncomputable def RnB:List (Int × Int)→Prop
 | []=>True
 | r :: R=>(r.1%16=0∧1088≤r.1∧16≤r.2∧r.1+r.2≤1600∧∀ r'∈R,r.1+16≤r'.1)∧RnB R
theorem Ctg.rn:∀{L:List Bk}{a:Int},Ctg a L→a%16=0→1088≤a→RnB (frees L)
 | [],_,_,_,_=>trivial
 | (b,s,none) :: r,a,⟨g1,g2,g3,g4⟩,ha,h1=>by
  have m:=Ctg.mem (L:=(b,s,none) :: r) ⟨g1,g2,g3,g4⟩ ha _ (.head _)
  refine ⟨⟨m.2.1,by dsimp only at *; exact lin [_,_] [] [65555,572526817] 35655905 298194499 rfl g1 h1,g2,m.2.2.2.2,fun r' h=>?_⟩,g4.rn (by exact Int.le_antisymm (lin [_,_,_,_,_,_,_,_] [] [8211,98371,431283805790723,22817340547342931,7268131752020611375731,34046050] 491617 77985824526868493298273709342480211784814485341025285 rfl g3 ha (dmA _ 16) (dmA _ 16) (dmA _ 16) (dmC _ 16 rfl)) (lin [_] [] [4129] 4129 149058 rfl (dmB _ 16 rfl))) (by exact lin [_,_] [] [528513,572526817] 1101828985057 553981507 rfl g2 h1)⟩
  have:=(g4.mem (by exact Int.le_antisymm (lin [_,_,_,_,_,_,_,_] [] [8211,98371,431283805790723,22817340547342931,7268131752020611375731,34046050] 491617 77985824526868493298273709342480211784814485341025285 rfl g3 ha (dmA _ 16) (dmA _ 16) (dmA _ 16) (dmC _ 16 rfl)) (lin [_] [] [4129] 4129 149058 rfl (dmB _ 16 rfl))) _ (frees_mem.mp h)).1
  dsimp only at *; exact lin [_,_,_,_] [] [65555,17305729,105293947201] 105243517249 26664772849732 rfl g1 g2 this
 | (b,s,some d) :: r,a,⟨g1,g2,g3,g4⟩,ha,h1=>g4.rn (by exact Int.le_antisymm (lin [_,_,_,_,_,_,_,_] [] [8211,98371,431283805790723,22817340547342931,7268131752020611375731,34046050] 491617 77985824526868493298273709342480211784814485341025285 rfl g3 ha (dmA _ 16) (dmA _ 16) (dmA _ 16) (dmC _ 16 rfl)) (lin [_] [] [4129] 4129 149058 rfl (dmB _ 16 rfl))) (by exact lin [_,_] [] [528513,572526817] 1101828985057 553981507 rfl g2 h1)
noncomputable def lsK(k:Int):List (Int × Int)→List Int
 | []=>[]
 | r :: R=>if lnum r.2=k then r.1 :: lsK k R else lsK k R
theorem lsK_mem{k c:Int}:∀{R:List (Int × Int)},c∈lsK k R→∃ r∈R,r.1=c∧lnum r.2=k
 | [],h=>nomatch h
 | r :: R,h=>by
  unfold lsK at h
  split at h
  ·rename_i q
   rcases List.mem_cons.mp h with z | z
   ·exact ⟨r,.head _,z.symm,q⟩
   ·obtain ⟨r',a,b⟩:=lsK_mem z; exact ⟨r',.tail _ a,b⟩
  ·obtain ⟨r',a,b⟩:=lsK_mem h; exact ⟨r',.tail _ a,b⟩
theorem Ln.cong{f f':Int→Int}:∀{l:List Int}{b:Int},Ln f b l→(∀ c∈l,at_ f' c=at_ f c∧at_ f' (c+4)=at_ f (c+4))→Ln f' b l
 | [],b,h,_=>h
 | c :: l,b,⟨h1,h2,h3,h4,h5,h6⟩,e=>by
  have e0:=e c (.head _)
  have e1:f' (c / 4)=f (c / 4):=e0.1
  exact ⟨h1,h2,h3,h4,by rw [e1]; exact h5,by rw [e0.2]; exact h6.cong fun c h=>e c (.tail _ h)⟩
structure SwP(f0:Int→Int)(R:List (Int × Int))(st:(Int→Int) × (Int→Int)):Prop where
 out:∀ b,b%4=0→(∀ r∈R,b≠r.1∧b≠r.1+4)→at_ st.1 b=at_ f0 b
 hd:∀ r∈R,at_ st.1 r.1=r.2+1
 ln:∀ k,Ln st.1 (st.2 k) (lsK k R)
 hb:∀ k,0≤st.2 k∧st.2 k≤1600
theorem swP{f0:Int→Int}:∀(R:List (Int × Int)),RnB R→(∀ r∈R,r.2%16=0)→SwP f0 R (R.foldr pfS (f0,fun _=>0))
 | [],_,_=>⟨(fun _ _ _=>rfl),(fun _ h=>nomatch h),fun k=>rfl,fun k=>⟨Int.le_refl _,(by decide:(0:Int)≤1600)⟩⟩
 | r :: R,⟨⟨h1,h2,h3,h4,h5⟩,hR⟩,hs=>by
  have P:=swP (f0:=f0) R hR fun r h=>hs r (.tail _ h)
  have s16:=hs r (.head _)
  have hal:∀{R:List (Int × Int)},RnB R→∀ r∈R,r.1%16=0∧1088≤r.1:=fun {R}=>by
   induction R with
   | nil=>intro _ r h; cases h
   | cons x R ih =>
    intro g r h
    rcases List.mem_cons.mp h with z | z
    ·rw [z]; exact ⟨g.1.1,g.1.2.1⟩
    ·exact ih g.2 r z
  have al:=hal hR
  rw [List.foldr_cons]
  generalize R.foldr pfS (f0,fun _=>0)=st at *
  obtain ⟨g,u⟩:=st
  have ub:=P.hb (lnum r.2)
  show SwP f0 (r :: R) (put (put g r.1 (r.2+1)) (r.1+4) (u (lnum r.2)),mset u (lnum r.2) r.1)
  have n1:r.1%4=0:=by exact Int.le_antisymm (lin [_,_,_,_,_] [] [8211,145410782536179,4647704605598275,8781922] 393313 49128355079546559906686749562307281494277 rfl h1 (dmA _ 16) (dmA _ 4) (dmC _ 4 rfl)) (lin [_] [] [4129] 4129 149058 rfl (dmB _ 4 rfl))
  have n2:(r.1+4)%4=0:=by exact Int.le_antisymm (lin [_,_,_,_,_] [] [8211,145410782536179,617977892523270054467,8781922] 393313 49128355079546559906686749562307281494277 rfl h1 (dmA _ 16) (dmA _ 4) (dmC _ 4 rfl)) (lin [_] [] [4129] 4129 149058 rfl (dmB _ 4 rfl))
  have frame:∀ b,b%4=0→b≠r.1→b≠r.1+4→at_ (put (put g r.1 (r.2+1)) (r.1+4) (u (lnum r.2))) b=at_ g b:=fun b hb q1 q2=>by rw [at_put_n n2 hb q2,at_put_n n1 hb q1]
  have fr:∀ r'∈R,at_ (put (put g r.1 (r.2+1)) (r.1+4) (u (lnum r.2))) r'.1=at_ g r'.1∧at_ (put (put g r.1 (r.2+1)) (r.1+4) (u (lnum r.2))) (r'.1+4)=at_ g (r'.1+4):=fun r' h=>by
   have a1:=h5 r' h
   have a2:=(al r' h).1
   exact ⟨frame _ (by exact Int.le_antisymm (lin [_,_,_,_,_] [] [8211,145410782536179,4647704605598275,8781922] 393313 49128355079546559906686749562307281494277 rfl a2 (dmA _ 16) (dmA _ 4) (dmC _ 4 rfl)) (lin [_] [] [4129] 4129 149058 rfl (dmB _ 4 rfl))) (by exact fun z0=>lin [_,_] [] [36524040513,32835] 0 149058 rfl a1 z0) (by exact fun z0=>lin [_,_] [] [36524040513,8859058243] 0 149058 rfl a1 z0),frame _ (by exact Int.le_antisymm (lin [_,_,_,_,_] [] [8211,145410782536179,617977892523270054467,8781922] 393313 49128355079546559906686749562307281494277 rfl a2 (dmA _ 16) (dmA _ 4) (dmC _ 4 rfl)) (lin [_] [] [4129] 4129 149058 rfl (dmB _ 4 rfl))) (by exact fun z0=>lin [_,_] [] [36524040513,4496433491] 0 149058 rfl a1 z0) (by exact fun z0=>lin [_,_] [] [36524040513,1161174674710867] 0 149058 rfl a1 z0)⟩
  have v1:at_ (put (put g r.1 (r.2+1)) (r.1+4) (u (lnum r.2))) r.1=r.2+1:=by rw [at_put_n n2 n1 (by exact fun z0=>lin [_] [] [1107378195] 0 9538 rfl z0),at_put_i (by exact lin [_] [] [528513] 604147745 149058 rfl h3) (by exact lin [_,_] [] [35655905,3436376531201] 73786976298260898098 285611587 rfl h2 h4)]
  have v2:at_ (put (put g r.1 (r.2+1)) (r.1+4) (u (lnum r.2))) (r.1+4)=u (lnum r.2):=at_put_i ub.1 (by dsimp only at ub; exact lin [_] [] [104865809] 281474976718866 149058 rfl ub.2)
  generalize put (put g r.1 (r.2+1)) (r.1+4) (u (lnum r.2))=g' at *
  refine ⟨fun b hb h=>(frame b hb (h r (.head _)).1 (h r (.head _)).2).trans (P.out b hb fun r' h'=>h r' (.tail _ h')),fun r' h=>?_,fun k=>?_,fun k=>?_⟩
  ·rcases List.mem_cons.mp h with z | z
   ·rw [z]; exact v1
   ·exact (fr r' z).1.trans (P.hd r' z)
  ·have L:Ln g' (u k) (lsK k R):=(P.ln k).cong fun c hc=>by
    obtain ⟨r',h',e,_⟩:=lsK_mem hc
    subst e; exact fr r' h'
   show Ln g' (mset u (lnum r.2) r.1 k) (if lnum r.2=k then r.1 :: lsK k R else lsK k R)
   by_cases q:lnum r.2=k
   ·rw [if_pos q]
    have e:mset u (lnum r.2) r.1 k=r.1:=if_pos q.symm
    rw [e]
    have v1':g' (r.1 / 4)=r.2+1:=v1
    refine ⟨rfl,by exact fun z0=>lin [_] [] [35655905,8211] 0 149058 rfl h2 z0,⟨by exact lin [_] [] [35655905] 4129 149058 rfl h2,by exact lin [_,_] [] [528513,1718188384497] 1921089602 285611587 rfl h3 h4⟩,⟨by exact lin [_] [] [35655905] 2214760481 149058 rfl h2,by exact lin [_,_] [] [528513,1718188384497] 251801249128786 285611587 rfl h3 h4⟩,by rw [v1']; exact Int.le_antisymm (lin [_] [] [139282] 73745 149058 rfl (dmC _ 2 rfl)) (lin [_,_,_,_,_] [] [8211,145410782536179,87628017377171022387,528417] 2134081 49128355079546569573370795881291535425669 rfl s16 (dmA _ 16) (dmA _ 2) (dmB _ 2 rfl)),?_⟩
    rw [v2,q]; exact L
   ·rw [if_neg q]
    have e:mset u (lnum r.2) r.1 k=u k:=if_neg fun z=>q z.symm
    rw [e]; exact L
  ·show 0≤mset u (lnum r.2) r.1 k∧mset u (lnum r.2) r.1 k≤1600
   unfold mset
   split
   ·exact ⟨lin [_] [] [35655905] 4129 149058 rfl h2,lin [_,_] [] [528513,1718188384497] 838959169 285611587 rfl h3 h4⟩
   ·exact P.hb k
structure BV(f:Int→Int)(bs:List Bk):Prop where
 ct:Ctg 1088 bs
 fr:∀ p∈frees bs,at_ f p.1=p.2+1
 us:∀ b s d,(b,s,some d)∈bs→at_ f b=d∧d%4=0∧0≤d∧d < 1088∧bsz (at_ f d)=s
theorem HB_ctg{f:Int→Int}:∀{bs:List Bk}{a:Int},Ctg a bs→a%16=0→0≤a→(∀ p∈frees bs,at_ f p.1=p.2+1)→(∀ b s d,(b,s,some d)∈bs→at_ f b=d∧d%4=0∧0≤d∧d < 1088∧bsz (at_ f d)=s)→HB f a bs
 | [],a,h,_,_,_,_=>h
 | (b,s,d) :: r,a,⟨g1,g2,g3,g4⟩,ha,h0,hf,hu=>by
  have m:=Ctg.mem (L:=(b,s,d) :: r) ⟨g1,g2,g3,g4⟩ ha _ (.head _)
  have lt:b+s≤1600:=m.2.2.2.2
  subst g1
  have rest:HB f (b+s) r:=HB_ctg g4 (by exact Int.le_antisymm (lin [_,_,_,_,_,_,_,_] [] [8211,98371,431283805790723,22817340547342931,7268131752020611375731,34046050] 491617 77985824526868493298273709342480211784814485341025285 rfl g3 ha (dmA _ 16) (dmA _ 16) (dmA _ 16) (dmC _ 16 rfl)) (lin [_] [] [4129] 4129 149058 rfl (dmB _ 16 rfl))) (by exact lin [_,_] [] [528513,135201] 268996641 553981507 rfl g2 h0) (fun p h=>hf p (frees_mem.mpr (.tail _ (frees_mem.mp h)))) fun b s d h=>hu b s d (.tail _ h)
  cases d with
  | none =>
   have e:f (b / 4)=s+1:=hf (b,s) (frees_mem.mpr (.head _))
   have e1:f (b / 4)%2=1:=by rw [e]; exact Int.le_antisymm (lin [_] [] [139282] 73745 149058 rfl (dmC _ 2 rfl)) (lin [_,_,_,_,_] [] [8211,145410782536179,87628017377171022387,528417] 2134081 49128355079546569573370795881291535425669 rfl g3 (dmA _ 16) (dmA _ 2) (dmB _ 2 rfl))
   exact ⟨rfl,by exact lin [_,_] [] [528513,1718188384497] 838959170 285611587 rfl g2 lt,h0,by unfold szf; rw [if_pos e1,e]; exact Int.le_antisymm (lin [_] [] [] 5257124393457 449 rfl ) (lin [_] [] [] 10514248785937 449 rfl ),.inl e1,(if_pos e1).symm,rest⟩
  | some d =>
   obtain ⟨e,d2,d0,d1,es⟩:=hu b s d (.head _)
   have e:f (b / 4)=d:=e
   have e1:¬ f (b / 4)%2=1:=by rw [e]; exact fun z0=>lin [_,_,_,_,_] [] [8211,622659,107821094511075,1726267783750179] 0 49128355084612205716461483053968401703045 rfl d2 z0 (dmA _ 4) (dmA _ 2)
   exact ⟨rfl,by exact lin [_,_] [] [528513,1718188384497] 838959170 285611587 rfl g2 lt,h0,by unfold szf; rw [if_neg e1,e]; exact es,.inr (by rw [e]; exact ⟨lin [_] [] [4129] 4129 149058 rfl d0,lin [_] [] [71311378] 240132114 149058 rfl d1⟩),by rw [if_neg e1,e],rest⟩
theorem BV.hb{f:Int→Int}{bs:List Bk}(B:BV f bs):HB f 1088 bs:=HB_ctg B.ct (by decide) (by decide) B.fr B.us
end
section
theorem first_of{Q:Int→Prop}:∀(n:Nat)(a:Int),(∃ k,a≤k∧k < a+n∧Q k)→∃ i,a≤i∧i < a+n∧Q i∧∀ k,a≤k→k < i→¬ Q k
 | 0,a,⟨k,h1,h2,_⟩=>by exact False.elim (lin [_,_] [] [65553,3758784578] 0 149058 rfl h1 h2)
 | n+1,a,⟨k,h1,h2,h3⟩=>by
  by_cases q:Q a
  ·exact ⟨a,Int.le_refl _,by exact lin [_] [_] [] 9898490413074 83522 rfl ,q,fun k g1 g2=>by exact fun z0=>lin [_,_] [] [65553,32834] 0 149058 rfl g1 g2⟩
  ·have:k≠a:=fun z=>q (z▸h3)
   obtain ⟨i,g1,g2,g3,g4⟩:=first_of n (a+1) ⟨k,by exact (Int.lt_or_gt_of_ne this).elim (fun z0=>lin [_,_] [] [65553,32834] 2298519809 149058 rfl h1 z0) (fun z0=>lin [_,_] [] [65554] 2298519809 149058 rfl z0),by exact lin [_,_] [_] [79188057145362] 57999810052114 149058 rfl h2,h3⟩
   refine ⟨i,by exact lin [_,_] [] [2298519809] 65553 149058 rfl g1,by exact lin [_,_] [_] [57999810052114] 79188057145362 149058 rfl g2,g3,fun k' z1 z2=>?_⟩
   by_cases w:k'=a
   ·rw [w]; exact q
   ·exact g4 k' (by exact (Int.lt_or_gt_of_ne w).elim (fun z0=>lin [_,_] [] [65553,32834] 2298519809 149058 rfl z1 z0) (fun z0=>lin [_,_] [] [65554] 2298519809 149058 rfl z0)) z2
theorem lsK_in{r:Int × Int}:∀{R:List (Int × Int)},r∈R→lsK (lnum r.2) R≠[]
 | x :: R,h=>by
  unfold lsK
  split
  ·exact fun z=>nomatch z
  ·rename_i q
   rcases List.mem_cons.mp h with z | z
   ·rw [z] at q; exact absurd rfl q
   ·exact lsK_in z
theorem Ln.b{f:Int→Int}:∀{l:List Int}{b:Int},Ln f b l→0≤b∧b < 3664
 | [],b,h=>by have h:b=0:=h; exact ⟨lin [_] [] [8211] 4129 8721475 rfl h,lin [_] [] [8211] 240132114 8655939 rfl h⟩
 | c :: l,b,⟨h1,_,h3,_⟩=>by rw [h1]; exact h3
theorem four{i:Int}(h0:0≤i)(h1:i < 4):i=0∨i=1∨i=2∨i=3:=by exact (Classical.em _).elim Or.inl fun z0=>Or.inr ((Classical.em _).elim Or.inl fun z1=>Or.inr ((Classical.em _).elim Or.inl fun z2=>Or.inr (Int.le_antisymm (lin [_] [] [270354] 204817 149058 rfl h1) ((Int.lt_or_gt_of_ne z0).elim (fun z3=>lin [_] [] [4129,8210] 102481 149058 rfl h0 z3) (fun z3=>(Int.lt_or_gt_of_ne z1).elim (fun z4=>lin [_] [] [4130,73746] 102481 149058 rfl z3 z4) (fun z4=>(Int.lt_or_gt_of_ne z2).elim (fun z5=>lin [_] [] [36930,139282] 102481 149058 rfl z4 z5) (fun z5=>lin [_] [] [69714] 102481 149058 rfl z5)))))))
theorem flU_at(g:Int→Int){i:Int}(h0:0≤i)(h1:i < 4):(flU g)[i.toNat]?=some (.int (g i)):=by
 rcases four h0 h1 with rfl | rfl | rfl | rfl <;> rfl
theorem flU_st(g:Int→Int){i x:Int}(h0:0≤i)(h1:i < 4):(flU g).set i.toNat (.int x)=flU (mset g i x):=by
 rcases four h0 h1 with rfl | rfl | rfl | rfl <;> rfl
structure AlP(f f':Int→Int)(c s d q:Int):Prop where
 tag:at_ f' c=d
 zero:∀ a,a%4=0→c+4≤a→a < c+s→at_ f' a=0
 rest:s < q→at_ f' (c+s)=q-s+1
 out:∀ a,a%4=0→(a < c∨c+q≤a)→at_ f' a=at_ f a
theorem al0_ok{f:Int→Int}{c s d:Int}(hc:c%4=0)(hs:s%4=0)(hs0:4≤s)(hd:0≤d∧d < 4294967296):AlP f (zer (put f c d) (rngI (c+4) (c+s) 4)) c s d s:=by
 have hl:∀ k∈rngI (c+4) (c+s) 4,k%4=0:=fun k hk=>by have:=(mem_rng.mp hk).2.2; exact Int.le_antisymm (lin [_,_,_,_,_,_,_,_] [] [8211,98371,107821094511075,40802032711712324167803443,23017245370884691,8880226] 491617 77985824560292404452244409730081235264417669440418053 rfl hc this (dmA _ 4) (dmA _ 4) (dmA _ 4) (dmC _ 4 rfl)) (lin [_] [] [4129] 4129 149058 rfl (dmB _ 4 rfl))
 have no:∀ a,¬ (c+4≤a∧a < c+s)→a ∉ rngI (c+4) (c+s) 4:=fun a h m=>h ⟨(mem_rng.mp m).1,(mem_rng.mp m).2.1⟩
 refine ⟨?_,fun a ha h1 h2=>?_,fun h=>absurd h (Int.lt_irrefl _),fun a ha h=>?_⟩
 ·rw [at_zer hc _ _ hl,if_neg (no _ (by exact fun z0=>lin [_] [] [553689377] 0 449 rfl z0.1)),at_put_i hd.1 hd.2]
 ·rw [at_zer ha _ _ hl,if_pos (mem_rng.mpr ⟨h1,h2,by exact Int.le_antisymm (lin [_,_,_,_,_,_,_,_] [] [8211,98371,107821094511075,5704335279923763,163208130847049200922403411,8880226] 491617 77985824526868487986554023060444853437904970248696069 rfl hc ha (dmA _ 4) (dmA _ 4) (dmA _ 4) (dmC _ 4 rfl)) (lin [_] [] [4129] 4129 149058 rfl (dmB _ 4 rfl))⟩)]
 ·rw [at_zer ha _ _ hl,if_neg (no _ (by exact fun z0=>h.elim (fun z1=>lin [_,_] [] [9143623969,32834] 0 149058 rfl z0.1 z1) (fun z1=>lin [_,_,_] [] [4429463570,2214732097] 0 149058 rfl z0.2 z1))),at_put_n hc ha (by exact fun z0=>h.elim (fun z1=>lin [_,_] [] [65555,65554] 0 8721475 rfl z0 z1) (fun z1=>lin [_,_,_] [] [135265,1081411,2281873665] 0 298063427 rfl hs0 z0 z1))]
theorem c_allocN{W:Wd KH}{h ma:Cell}{f g:Int→Int}{R:List Cell}{bs:List Bk}{d:Int}(B:BV f bs)(hL:∀ k,Ln f (g k) (lsK k (frees bs)))(hd:okA d)(hle:∀ p∈frees bs,p.2 < bsz (at_ f d)):
  CallTo W 5 147 [.s 4,i_ d] (sH h ma f (flU g) R) (i_ 0) [] (sH h ma f (flU g) R) []:=by
 have hF:Fls f (flU g) (fun k=>lsK k (frees bs)):=⟨rfl,fun k h0 h1=>⟨g k,flU_at g h0 h1,hL k⟩⟩
 refine c_alloc_no hd (c_take_free_no hF fun k _ _ c hc=>?_)
 obtain ⟨r,hr,e,_⟩:=lsK_mem hc
 have m:=B.ct.mem (by decide) _ (frees_mem.mp hr)
 have e1:f (c / 4)=r.2+1:=by rw [← e]; exact B.fr r hr
 have:szf f c=r.2:=by unfold szf; rw [if_pos (by rw [e1]; have:=m.2.2.2.1; dsimp only at this; exact Int.le_antisymm (lin [_] [] [139282] 73745 149058 rfl (dmC _ 2 rfl)) (lin [_,_,_,_,_] [] [8211,145410782536179,87628017377171022387,528417] 2134081 49128355079546569573370795881291535425669 rfl m.2.2.2.1 (dmA _ 16) (dmA _ 2) (dmB _ 2 rfl))),e1]; exact Int.le_antisymm (lin [_] [] [] 5257124393457 449 rfl ) (lin [_] [] [] 10514248785937 449 rfl )
 rw [this]; exact hle r hr
theorem c_allocG{W:Wd KH}{f g:Int→Int}{bs:List Bk}{d s:Int}(B:BV f bs)(hL:∀ k,Ln f (g k) (lsK k (frees bs)))(hd0:0≤d)(hd1:d < 1088)(hs:bsz (at_ f d)=s)(hs0:16≤s)(hfit:∃ p∈frees bs,lnum s≤lnum p.2)(hle:∀ p∈frees bs,lnum s≤lnum p.2→s≤p.2):
  ∃ (c q:Int) (f' g':Int→Int),(c,q)∈frees bs∧s≤q∧AlP f f' c s d q∧∀{h ma:Cell}{R:List Cell},CallTo W 5 147 [.s 4,i_ d] (sH h ma f (flU g) R) (i_ (c+8)) [] (sH h ma f' (flU g') R) []:=by
 have hF:Fls f (flU g) (fun k=>lsK k (frees bs)):=⟨rfl,fun k h0 h1=>⟨g k,flU_at g h0 h1,hL k⟩⟩
 have lb:=lnum_b s
 obtain ⟨p,hp,hpl⟩:=hfit
 have plb:=lnum_b p.2
 obtain ⟨i,i0,i1,i2,i3⟩:=first_of (Q:=fun k=>lsK k (frees bs)≠[]) 4 (lnum s) ⟨lnum p.2,hpl,by exact lin [_,_] [] [4129,2195522] 72478261314 553981507 rfl lb.1 plb.2,lsK_in hp⟩
 have i4:i < 4:=by
  by_cases q:i < 4
  ·exact q
  ·exact absurd (lsK_in hp) (i3 _ hpl (by exact lin [_,_] [] [270354,2195528] 65554 25499203 rfl plb.2 q))
 cases hl:lsK i (frees bs) with
 | nil=>exact absurd hl i2
 | cons c post =>
  obtain ⟨r,hr,rfl,rl⟩:=lsK_mem (k:=i) (c:=c) (R:=frees bs) (by rw [hl]; exact .head _)
  obtain ⟨c,q⟩:=r
  dsimp only at *
  have m:=B.ct.mem (by decide) _ (frees_mem.mp hr)
  obtain ⟨m1,m2,m3,m4,m5⟩:=m
  dsimp only at m1 m2 m3 m4 m5
  have sq:s≤q:=hle _ hr (by rw [rl]; exact i0)
  have s16:s%16=0:=by rw [← hs]; unfold bsz; exact Int.le_antisymm (lin [_,_,_] [] [9512020502672581107,8486978] 98369 24855595209986787588867953669 rfl (dmA _ 16) (dmC _ 16 rfl)) (lin [_] [] [4129] 4129 149058 rfl (dmB _ 16 rfl))
  have eq:at_ f c=q+1:=B.fr _ hr
  have e1:f (c / 4)=q+1:=eq
  have e2:f (c / 4)%2=1:=by rw [e1]; exact Int.le_antisymm (lin [_] [] [139282] 73745 149058 rfl (dmC _ 2 rfl)) (lin [_,_,_,_,_] [] [8211,145410782536179,87628017377171022387,528417] 2134081 49128355079546569573370795881291535425669 rfl m4 (dmA _ 16) (dmA _ 2) (dmB _ 2 rfl))
  have e3:szf f c=q:=by unfold szf; rw [if_pos e2,e1]; exact Int.le_antisymm (lin [_] [] [] 5257124393457 449 rfl ) (lin [_] [] [] 10514248785937 449 rfl )
  have LL:=hL i
  rw [hl] at LL
  have x0:=LL.2.2.2.2.2.b
  have okd:okA d:=⟨hd0,by exact lin [_] [] [71311378] 240132114 149058 rfl hd1⟩
  have okc:okA c:=⟨by exact lin [_] [] [35655905] 4129 149058 rfl m1,by exact lin [_,_] [] [528513,1718188384497] 1921089602 285611587 rfl m3 m5⟩
  have hkk:∀ k∈rngI (c+4) (c+s) 4,okA k:=fun k hk=>by have:=mem_rng.mp hk; exact ⟨by exact lin [_,_] [] [35655905,9143623969] 135201 285611587 rfl m1 this.1,by exact lin [_,_,_,_] [] [3436376531201,1114193,8591343698] 3842211922 1632049219 rfl m5 sq this.2.1⟩
  have T:∀{h ma:Cell}{R:List Cell},CallTo W 4 140 [.s 4,i_ s] (sH h ma f (flU g) R) (i_ c) [] (sH h ma f (flU (mset g i (at_ f (c+4)))) R) []:=fun {h ma R}=>by
   have T:=c_take_free (W:=W) (h:=h) (ma:=ma) (R:=R) (s:=s) (i:=i) (c:=c) (pre:=[]) (post:=post) hF i0 i4 (by rw [e3]; exact sq) hl (fun _ h=>nomatch h) fun k k0 k1 c hc=>by
    have:lsK k (frees bs)=[]:=Classical.byContradiction fun z=>i3 k k0 k1 z
    rw [this] at hc; cases hc
   rw [show tfS f (flU g) i (([]:List Int).getLast?.getD 0) (at_ f (c+4))=(f,flU (mset g i (at_ f (c+4)))) from by show (f,(flU g).set i.toNat _)=_; rw [flU_st g (by exact lin [_,_] [] [4129,65553] 135201 285611587 rfl lb.1 i0) i4]] at T
   exact T
  by_cases z:s < q
  ·have lq:=lnum_b (q-s)
   have hx:=flU_at (mset g i (at_ f (c+4))) (i:=lnum (q-s)) lq.1 lq.2
   have xb:0≤mset g i (at_ f (c+4)) (lnum (q-s))∧mset g i (at_ f (c+4)) (lnum (q-s)) < 3664:=by
    unfold mset; split
    ·exact x0
    ·exact (hL _).b
   have P:=alF_ok (f:=f) (c:=c) (s:=s) (d:=d) (q:=q-s) (x:=mset g i (at_ f (c+4)) (lnum (q-s))) (by exact Int.le_antisymm (lin [_,_,_,_,_] [] [8211,145410782536179,4647704605598275,8781922] 393313 49128355079546559906686749562307281494277 rfl m2 (dmA _ 16) (dmA _ 4) (dmC _ 4 rfl)) (lin [_] [] [4129] 4129 149058 rfl (dmB _ 4 rfl))) (by exact Int.le_antisymm (lin [_,_,_,_,_] [] [8211,145410782536179,4647704605598275,8781922] 393313 49128355079546559906686749562307281494277 rfl s16 (dmA _ 16) (dmA _ 4) (dmC _ 4 rfl)) (lin [_] [] [4129] 4129 149058 rfl (dmB _ 4 rfl))) (by exact lin [_] [] [528513] 135265 149058 rfl hs0) ⟨hd0,by exact lin [_] [] [71311378] 281474976718866 149058 rfl hd1⟩ ⟨by exact lin [_,_] [] [65554] 10446536871969 149058 rfl z,by exact lin [_,_,_] [] [528513,572526817,54982091088193] 302231454917676428173810 35731544131 rfl hs0 m1 m5⟩ ⟨xb.1,by exact lin [_] [] [240132114] 281474976718866 149058 rfl xb.2⟩
   refine ⟨c,q,_,mset (mset g i (at_ f (c+4))) (lnum (q-s)) (c+s),hr,sq,⟨P.tag,P.zero,fun _=>P.rest,fun a ha h=>P.out a ha (by exact (Classical.em _).elim Or.inl fun z0=>Or.inr (h.elim (fun z1=>lin [_,_,_] [] [65560,65554] 576281817784929 149058 rfl z0 z1) (fun z1=>lin [_,_,_,_,_,_,_,_] [] [8211,98371,3211346,700348309857,871088456933907,9319735804764755] 182449111642612353 70306316213536562491832645311684209423760371035141 rfl m4 s16 z z1 (dmA _ 16) (dmA _ 16))))⟩,fun {h ma R}=>?_⟩
   have A:=c_alloc1 (W:=W) (h:=h) (ma:=ma) (f:=f) (f1:=f) (R:=R) (fl:=flU g) (fl1:=flU (mset g i (at_ f (c+4)))) (d:=d) (s:=s) (c:=c) (x:=mset g i (at_ f (c+4)) (lnum (q-s))) (q:=q-s) okd hs T (by exact fun z0=>lin [_] [] [35655905,8211] 0 149058 rfl m1 z0) okc e2 (by rw [e3]) (by exact lin [_,_] [] [65554] 269013026 149058 rfl z) (by exact lin [_] [] [528513] 4129 149058 rfl hs0) (by exact lin [_,_,_] [] [3436376531201,1114194] 2062755831803847202 25499203 rfl m5 z) rfl hx hkk
   rw [flU_set] at A
   exact A
  ·have:q=s:=by exact Int.le_antisymm (lin [_,_] [] [65560] 32833 149058 rfl z) (lin [_,_] [] [65553] 65553 149058 rfl sq)
   subst this
   refine ⟨c,q,_,mset g i (at_ f (c+4)),hr,sq,al0_ok (by exact Int.le_antisymm (lin [_,_,_,_,_] [] [8211,145410782536179,4647704605598275,8781922] 393313 49128355079546559906686749562307281494277 rfl m2 (dmA _ 16) (dmA _ 4) (dmC _ 4 rfl)) (lin [_] [] [4129] 4129 149058 rfl (dmB _ 4 rfl))) (by exact Int.le_antisymm (lin [_,_,_,_,_] [] [8211,145410782536179,4647704605598275,8781922] 393313 49128355079546559906686749562307281494277 rfl m4 (dmA _ 16) (dmA _ 4) (dmC _ 4 rfl)) (lin [_] [] [4129] 4129 149058 rfl (dmB _ 4 rfl))) (by exact lin [_] [] [528513] 135265 149058 rfl m3) ⟨hd0,by exact lin [_] [] [71311378] 281474976718866 149058 rfl hd1⟩,fun {h ma R}=>?_⟩
   exact c_alloc0 (W:=W) (h:=h) (ma:=ma) (f:=f) (f1:=f) (R:=R) (fl:=flU g) (fl1:=flU (mset g i (at_ f (c+4)))) (d:=d) (s:=q) (c:=c) okd hs T (by exact fun z0=>lin [_] [] [35655905,8211] 0 149058 rfl m1 z0) okc e2 (by rw [e3]; exact lin [_] [] [] 110657 449 rfl ) (by exact lin [_] [] [528513] 4129 149058 rfl m3) (by exact lin [_,_] [] [3436376531201] 7868782780673 149058 rfl m5) hkk
noncomputable def rest_(c s q:Int):List Bk:=if s < q then [(c+s,q-s,none)] else []
theorem Ctg.put{c q s:Int}{d:Option Int}(h1:16≤s)(h2:s%16=0)(h3:s≤q):∀{pre post:List Bk}{a:Int},Ctg a (pre++(c,q,none) :: post)→a%16=0→Ctg a (pre++(c,s,d) :: (rest_ c s q++post))
 | [],post,a,⟨g1,g2,g3,g4⟩,ha=>by
  subst g1
  refine ⟨rfl,h1,h2,?_⟩
  unfold rest_
  by_cases z:s < q
  ·rw [if_pos z]
   exact ⟨rfl,by exact lin [_,_,_,_,_,_] [] [8211,98371,3211346,580817387201043,13814539339113043] 1151096852609 62943945980797318058344653438048469776888572933 rfl h2 g3 z (dmA _ 16) (dmA _ 16),by exact Int.le_antisymm (lin [_,_,_,_,_,_,_,_] [] [8211,98371,431283805790723,22817340547342931,7268134003820425060979,34046050] 491617 77985824526868487986554023061351547802615942129726469 rfl h2 g3 (dmA _ 16) (dmA _ 16) (dmA _ 16) (dmC _ 16 rfl)) (lin [_] [] [4129] 4129 149058 rfl (dmB _ 16 rfl)),by rw [show c+s+(q-s)=c+q by exact Int.le_antisymm (lin [_,_,_] [] [] 37785002739169319461617 449 rfl ) (lin [_,_,_] [] [] 38962081533797655945473 449 rfl )]; exact g4⟩
  ·rw [if_neg z]
   have:q=s:=by exact Int.le_antisymm (lin [_,_] [] [65560] 32833 149058 rfl z) (lin [_,_] [] [65553] 65553 149058 rfl h3)
   subst this; exact g4
 | (b,x,y) :: pre,post,a,⟨g1,g2,g3,g4⟩,ha=>⟨g1,g2,g3,Ctg.put h1 h2 h3 g4 (by exact Int.le_antisymm (lin [_,_,_,_,_,_,_,_] [] [8211,98371,431283805790723,22817340547342931,7268131752020611375731,34046050] 491617 77985824526868493298273709342480211784814485341025285 rfl g3 ha (dmA _ 16) (dmA _ 16) (dmA _ 16) (dmC _ 16 rfl)) (lin [_] [] [4129] 4129 149058 rfl (dmB _ 16 rfl)))⟩
theorem mem_mid{α:Type}{x y:α}{pre post:List α}(h:x∈pre++y :: post):x=y∨x∈pre++post:=by
 rcases List.mem_append.mp h with z | z
 ·exact .inr (List.mem_append_left _ z)
 ·rcases List.mem_cons.mp z with w | w
  ·exact .inl w
  ·exact .inr (List.mem_append_right _ w)
theorem Ctg.lt{pre post:List Bk}{a:Int}{x:Bk}(c:Ctg a (pre++x :: post))(ha:a%16=0):∀ y∈pre++post,y.1+y.2.1≤x.1∨x.1+x.2.1≤y.1:=by
 induction pre generalizing a with
 | nil =>
  obtain ⟨b,s,d⟩:=x
  obtain ⟨g1,g2,g3,g4⟩:=c
  intro y hy
  have:=(g4.mem (by exact Int.le_antisymm (lin [_,_,_,_,_,_,_,_] [] [8211,98371,431283805790723,22817340547342931,6013735140609852383859,34046050] 491617 77985824526868493298273709342480211784814485341025285 rfl ha g3 (dmA _ 16) (dmA _ 16) (dmA _ 16) (dmC _ 16 rfl)) (lin [_] [] [4129] 4129 149058 rfl (dmB _ 16 rfl))) y hy).1
  subst g1; exact .inr this
 | cons z pre ih =>
  obtain ⟨b,s,d⟩:=z
  obtain ⟨g1,g2,g3,g4⟩:=c
  intro y hy
  rcases List.mem_cons.mp hy with w | w
  ·have:=(g4.mem (by exact Int.le_antisymm (lin [_,_,_,_,_,_,_,_] [] [8211,98371,431283805790723,22817340547342931,6013735140609852383859,34046050] 491617 77985824526868493298273709342480211784814485341025285 rfl ha g3 (dmA _ 16) (dmA _ 16) (dmA _ 16) (dmC _ 16 rfl)) (lin [_] [] [4129] 4129 149058 rfl (dmB _ 16 rfl))) x (List.mem_append_right _ (.head _))).1
   subst w; subst g1; exact .inl this
  ·exact ih g4 (by exact Int.le_antisymm (lin [_,_,_,_,_,_,_,_] [] [8211,98371,431283805790723,22817340547342931,6013735140609852383859,34046050] 491617 77985824526868493298273709342480211784814485341025285 rfl ha g3 (dmA _ 16) (dmA _ 16) (dmA _ 16) (dmC _ 16 rfl)) (lin [_] [] [4129] 4129 149058 rfl (dmB _ 16 rfl))) y w
theorem BV.al{f f':Int→Int}{pre post:List Bk}{c q s d:Int}(B:BV f (pre++(c,q,none) :: post))(A:AlP f f' c s d q)(hs:bsz (at_ f d)=s)(hs0:16≤s)(sq:s≤q)(hd0:0≤d)(hd1:d < 1088)(hd2:d%4=0):BV f' (pre++(c,s,some d) :: (rest_ c s q++post)):=by
 have s16:s%16=0:=by rw [← hs]; unfold bsz; exact Int.le_antisymm (lin [_,_,_] [] [9512020502672581107,8486978] 98369 24855595209986787588867953669 rfl (dmA _ 16) (dmC _ 16 rfl)) (lin [_] [] [4129] 4129 149058 rfl (dmB _ 16 rfl))
 have mc:=B.ct.mem (by decide) (c,q,none) (List.mem_append_right _ (.head _))
 have lt:=B.ct.lt (by decide)
 have ds:=fun y hy=>B.ct.mem (by decide) y (by
  rcases List.mem_append.mp (show y∈pre++post from hy) with z | z
  ·exact List.mem_append_left _ z
  ·exact List.mem_append_right _ (.tail _ z))
 dsimp only at mc lt
 have low:∀ a,a%4=0→a < 1088→at_ f' a=at_ f a:=fun a ha h=>A.out a ha (.inl (by exact lin [_,_] [] [35655905,570523714] 32834 553981507 rfl mc.1 h))
 have far:∀ y∈pre++post,at_ f' y.1=at_ f y.1:=fun y hy=>by
  have g1:=lt y hy
  have g2:=ds y hy
  exact A.out _ (by exact Int.le_antisymm (lin [_,_,_,_,_] [] [8211,145410782536179,4647704605598275,8781922] 393313 49128355079546559906686749562307281494277 rfl g2.2.1 (dmA _ 16) (dmA _ 4) (dmC _ 4 rfl)) (lin [_] [] [4129] 4129 149058 rfl (dmB _ 4 rfl))) (by exact (Classical.em _).elim Or.inl fun z0=>Or.inr (g1.elim (fun z1=>lin [_,_,_,_] [] [528513,1081416,2214732017] 75296317777 553981507 rfl g2.2.2.1 z0 z1) (fun z1=>lin [_,_,_] [] [4429226241] 4429226241 149058 rfl z1)))
 have old:∀ y:Bk,y∈pre++post→y∈pre++(c,q,none) :: post:=fun y hy=>by
  rcases List.mem_append.mp hy with z | z
  ·exact List.mem_append_left _ z
  ·exact List.mem_append_right _ (.tail _ z)
 have spl:∀ y:Bk,y∈pre++(c,s,some d) :: (rest_ c s q++post)→y=(c,s,some d)∨y∈rest_ c s q∨y∈pre++post:=fun y hy=>by
  rcases mem_mid hy with z | z
  ·exact .inl z
  ·rcases List.mem_append.mp z with w | w
   ·exact .inr (.inr (List.mem_append_left _ w))
   ·rcases List.mem_append.mp w with v | v
    ·exact .inr (.inl v)
    ·exact .inr (.inr (List.mem_append_right _ v))
 refine ⟨B.ct.put hs0 s16 sq (by decide),fun p hp=>?_,fun b x y h=>?_⟩
 ·rcases spl _ (frees_mem.mp hp) with z | z | z
  ·cases z
  ·unfold rest_ at z
   split at z
   ·rename_i w
    obtain ⟨p1,p2⟩:=p
    cases List.mem_singleton.mp z
    exact A.rest w
   ·cases z
  ·rw [far _ z]
   exact B.fr p (frees_mem.mpr (old _ z))
 ·rcases spl _ h with z | z | z
  ·cases z
   refine ⟨A.tag,by exact Int.le_antisymm (lin [_] [] [8211] 8209 8655939 rfl hd2) (lin [_] [] [8211] 4129 8721475 rfl hd2),hd0,hd1,?_⟩
   rw [low _ hd2 hd1]; exact hs
  ·unfold rest_ at z
   split at z
   ·cases List.mem_singleton.mp z
   ·cases z
  ·obtain ⟨u1,u2,u3,u4,u5⟩:=B.us b x y (old _ z)
   have g1:=far _ z
   rw [low _ u2 u4]
   exact ⟨g1.trans u1,u2,u3,u4,u5⟩
end
section
section
variable {ks:List Ki}{rs:List Rk}{f0:Int→Int}{e t:Int}{ws:List Int}
structure FsI(rs:List Rk)(f0:Int→Int)(ws:List Int)(fs:List Int):Prop where
 nd:fs.Nodup
 sub:∀ x∈fs,x∈fsts rs
 min:∀ Z:Rk→Prop,Clo rs f0 Z→(∀ w∈ws,∀ r∈rs,inR r w→Z r)→∀ r∈rs,r.1∈fs→Z r
theorem WI.inj(I:WI ks rs f0 e t){r r':Rk}(hr:r∈rs)(hr':r'∈rs)(q:r.1=r'.1):r=r':=(I.pos hr hr' (pM r) (pM r') (by rw [q])).1
theorem nodup_of{ks:List Ki}(hk:∀ k∈ks,KdB k):∀{l:List Rk}{a e:Int},Cons ks a l e→a%16=0→(fsts l).Nodup
 | [],_,_,_,_=>List.nodup_nil
 | r :: l,a,e,⟨h1,h2,c⟩,ha=>by
  have K:=hk _ h2
  have b:=bsz_b K.w0 K.w1
  have A:=(c.at hk (by exact Int.le_antisymm (b.elim (fun z0=>lin [_,_,_,_,_,_] [] [8211,8486979,431283805790723,1291368085994160726643,33980514] 426081 62943945980766184564549972577774762128545229829 rfl ha z0.1 (dmA _ 16) (dmA _ 16) (dmC _ 16 rfl)) (fun z0=>lin [_,_,_,_,_,_] [] [8211,16875587,431283805790723,1291368085994160726643,33980514] 426081 62943945980766184564549972577774762128545229829 rfl ha z0.1 (dmA _ 16) (dmA _ 16) (dmC _ 16 rfl))) (lin [_] [] [4129] 4129 149058 rfl (dmB _ 16 rfl)))).2.2.2
  refine List.nodup_cons.mpr ⟨fun h=>?_,nodup_of hk c (by exact Int.le_antisymm (b.elim (fun z0=>lin [_,_,_,_,_,_] [] [8211,8486979,431283805790723,1291368085994160726643,33980514] 426081 62943945980766184564549972577774762128545229829 rfl ha z0.1 (dmA _ 16) (dmA _ 16) (dmC _ 16 rfl)) (fun z0=>lin [_,_,_,_,_,_] [] [8211,16875587,431283805790723,1291368085994160726643,33980514] 426081 62943945980766184564549972577774762128545229829 rfl ha z0.1 (dmA _ 16) (dmA _ 16) (dmC _ 16 rfl))) (lin [_] [] [4129] 4129 149058 rfl (dmB _ 16 rfl)))⟩
  obtain ⟨r',hr',q⟩:=mem_fsts h
  have q:r'.1=r.1:=q
  have:=A r' hr'
  (rename_i q0; exact b.elim (fun z0=>lin [_,_,_,_] [] [17582800915,65619,18592879350522465,17006675] 0 17868949311556 rfl h1 q0 this.1 z0.1) (fun z0=>lin [_,_,_,_] [] [17582800915,65619,18592879350522465,33783891] 0 17868949311556 rfl h1 q0 this.1 z0.1))
theorem len_sub:∀(fs l:List Int),fs.Nodup→(∀ x∈fs,x∈l)→fs.length≤l.length
 | [],_,_,_=>Nat.zero_le _
 | x :: fs,l,hn,hs=>by
  have hx:=hs x (.head _)
  have nd:=List.nodup_cons.mp hn
  have:=len_sub fs (l.erase x) nd.2 fun y hy=>(List.mem_erase_of_ne (fun q:y=x=>nd.1 (q▸hy))).mpr (hs y (.tail _ hy))
  rw [List.length_erase_of_mem hx] at this
  have:=List.length_pos_of_mem hx
  rw [List.length_cons]; omega
theorem FsI.len(I:WI ks rs f0 e t){fs:List Int}(h:FsI rs f0 ws fs):fs.length≤rs.length:=by
 have:=len_sub _ _ h.nd h.sub
 unfold fsts at this
 rwa [List.length_map] at this
theorem newW_mem{fs:List Int}{w x:Int}:∀{l:List Rk},x∈newW fs w l↔∃ r∈l,r.1=x∧inR r w∧r.1 ∉ fs
 | []=>⟨(fun h=>nomatch h),fun ⟨_,h,_⟩=>nomatch h⟩
 | r :: l=>by
  unfold newW
  constructor
  ·intro h
   split at h
   ·rename_i q
    rcases List.mem_cons.mp h with z | z
    ·exact ⟨r,.head _,z.symm,q.1,q.2⟩
    ·obtain ⟨r',a,b⟩:=newW_mem.mp z; exact ⟨r',.tail _ a,b⟩
   ·obtain ⟨r',a,b⟩:=newW_mem.mp h; exact ⟨r',.tail _ a,b⟩
  ·rintro ⟨r',h1,h2,h3⟩
   rcases List.mem_cons.mp h1 with z | z
   ·subst z; rw [if_pos h3,h2]; exact .head _
   ·have:=newW_mem.mpr ⟨r',z,h2,h3⟩
    split
    ·exact .tail _ this
    ·exact this
theorem newW_sub{fs:List Int}{w:Int}:∀ l:List Rk,(newW fs w l).Sublist (fsts l)
 | []=>.slnil
 | r :: l=>by
  unfold newW
  split
  ·exact (newW_sub l).cons_cons _
  ·exact (newW_sub l).cons _
theorem roots_of(I:WI ks rs f0 e t):∀(us fs:List Int),(∀ w∈us,w∈ws)→FsI rs f0 ws fs→FsI rs f0 ws (us.foldl (fun fs w=>fs++newW fs w rs) fs)∧(∀ x∈fs,x∈us.foldl (fun fs w=>fs++newW fs w rs) fs)∧∀ w∈us,∀ r∈rs,inR r w→r.1∈us.foldl (fun fs w=>fs++newW fs w rs) fs
 | [],fs,_,h=>⟨h,(fun _ h=>h),(fun _ h=>nomatch h)⟩
 | w :: us,fs,hu,h=>by
  have F2:FsI rs f0 ws (fs++newW fs w rs):=by
   refine ⟨List.nodup_append.mpr ⟨h.nd,(newW_sub rs).nodup (nodup_of I.kb I.co (by decide)),fun x h1 y h2 q=>?_⟩,fun x hx=>?_,fun Z hZ hr r hr' hx=>?_⟩
   ·obtain ⟨r,_,a,_,b⟩:=newW_mem.mp h2
    exact b (by rw [a,← q]; exact h1)
   ·rcases List.mem_append.mp hx with z | z
    ·exact h.sub x z
    ·exact (newW_sub rs).subset z
   ·rcases List.mem_append.mp hx with z | z
    ·exact h.min Z hZ hr r hr' z
    ·obtain ⟨r2,a,b,c,_⟩:=newW_mem.mp z
     rw [← I.inj a hr' b]
     exact hr w (hu w (.head _)) r2 a c
  obtain ⟨g1,g2,g3⟩:=roots_of I us (fs++newW fs w rs) (fun w h=>hu w (.tail _ h)) F2
  refine ⟨g1,fun x hx=>g2 x (List.mem_append_left _ hx),fun w' hw' r hr hi=>?_⟩
  rcases List.mem_cons.mp hw' with z | z
  ·subst z
   by_cases q:r.1∈fs
   ·exact g2 _ (List.mem_append_left _ q)
   ·exact g2 _ (List.mem_append_right _ (newW_mem.mpr ⟨r,hr,rfl,hi,q⟩))
  ·exact g3 w' z r hr hi
theorem spots_of(I:WI ks rs f0 e t){r:Rk}(hr:r∈rs):∀(os fs:List Int),(∀ o∈os,o∈r.2.os)→r.1∈fs→FsI rs f0 ws fs→FsI rs f0 ws (os.foldl (fun fs o=>addT rs (at_ f0 (r.1+o)) fs) fs)∧(∃ ex,os.foldl (fun fs o=>addT rs (at_ f0 (r.1+o)) fs) fs=fs++ex)∧∀ o∈os,at_ f0 (r.1+o)∈fsts rs→at_ f0 (r.1+o)∈os.foldl (fun fs o=>addT rs (at_ f0 (r.1+o)) fs) fs
 | [],fs,_,_,h=>⟨h,⟨[],(List.append_nil _).symm⟩,(fun _ h=>nomatch h)⟩
 | o :: os,fs,ho,hx,h=>by
  have st:FsI rs f0 ws (addT rs (at_ f0 (r.1+o)) fs)∧(∃ ex,addT rs (at_ f0 (r.1+o)) fs=fs++ex)∧(at_ f0 (r.1+o)∈fsts rs→at_ f0 (r.1+o)∈addT rs (at_ f0 (r.1+o)) fs):=by
   unfold addT
   by_cases q:at_ f0 (r.1+o)∈fsts rs∧at_ f0 (r.1+o) ∉ fs
   ·rw [if_pos q]
    refine ⟨⟨List.nodup_append.mpr ⟨h.nd,by simp,fun x h1 y h2 z=>?_⟩,fun x hx=>?_,fun Z hZ hrt r' hr' hx'=>?_⟩,⟨_,rfl⟩,fun _=>List.mem_append_right _ (.head _)⟩
    ·rw [List.mem_singleton.mp h2] at z; rw [z] at h1; exact q.2 h1
    ·rcases List.mem_append.mp hx with z | z
     ·exact h.sub x z
     ·rw [List.mem_singleton.mp z]; exact q.1
    ·rcases List.mem_append.mp hx' with z | z
     ·exact h.min Z hZ hrt r' hr' z
     ·exact hZ r hr (h.min Z hZ hrt r hr hx) o (ho o (.head _)) r' hr' (List.mem_singleton.mp z).symm
   ·rw [if_neg q]
    exact ⟨h,⟨[],(List.append_nil _).symm⟩,fun hm=>Classical.byContradiction fun z=>q ⟨hm,z⟩⟩
  obtain ⟨s1,⟨ex,s2⟩,s3⟩:=st
  obtain ⟨g1,⟨ex2,g2⟩,g3⟩:=spots_of I hr os (addT rs (at_ f0 (r.1+o)) fs) (fun o h=>ho o (.tail _ h)) (by rw [s2]; exact List.mem_append_left _ hx) s1
  rw [List.foldl_cons]
  refine ⟨g1,⟨ex++ex2,by rw [g2,s2,List.append_assoc]⟩,fun o' ho' hm=>?_⟩
  rcases List.mem_cons.mp ho' with z | z
  ·subst z
   rw [g2]; exact List.mem_append_left _ (s3 hm)
  ·exact g3 o' z hm
theorem bfs_of(I:WI ks rs f0 e t):∀(n a:Nat)(fs:List Int),rs.length-a≤n→FsI rs f0 ws fs→(∀ r∈rs,(∃ i:Nat,i < a∧fs[i]?=some r.1)→∀ o∈r.2.os,at_ f0 (r.1+o)∈fsts rs→at_ f0 (r.1+o)∈fs) →
  ∃ k fs',Bfs rs f0 k a fs fs'∧FsI rs f0 ws fs'∧(∃ ex,fs'=fs++ex)∧∀ r∈rs,r.1∈fs'→∀ o∈r.2.os,at_ f0 (r.1+o)∈fsts rs→at_ f0 (r.1+o)∈fs':=by
 intro n
 have n9:=I.n
 have stop:∀(a:Nat)(fs:List Int),fs.length≤a→FsI rs f0 ws fs→(∀ r∈rs,(∃ i:Nat,i < a∧fs[i]?=some r.1)→∀ o∈r.2.os,at_ f0 (r.1+o)∈fsts rs→at_ f0 (r.1+o)∈fs)→∃ k fs',Bfs rs f0 k a fs fs'∧FsI rs f0 ws fs'∧(∃ ex,fs'=fs++ex)∧∀ r∈rs,r.1∈fs'→∀ o∈r.2.os,at_ f0 (r.1+o)∈fsts rs→at_ f0 (r.1+o)∈fs':=fun a fs h F hc =>
  ⟨0,fs,.stop (by exact lin [] [_,_] [65556] 2318385 149058 rfl h),F,⟨[],(List.append_nil _).symm⟩,fun r hr hx=>by
   obtain ⟨i,hi,e⟩:=List.mem_iff_getElem.mp hx
   exact hc r hr ⟨i,by exact lin [] [_,_,_] [65556,65621] 1114197 21370435 rfl h hi,List.getElem?_eq_some_iff.mpr ⟨hi,e⟩⟩⟩
 induction n with
 | zero=>intro a fs hn F hc; have:=F.len I; exact stop a fs (by omega) F hc
 | succ n ih =>
  intro a fs hn F hc
  by_cases q:fs.length≤a
  ·exact stop a fs q F hc
  ·have hl:=F.len I
   have ha:a < fs.length:=by exact lin [] [_,_] [65561] 32837 149058 rfl q
   obtain ⟨r,hr,hx⟩:=mem_fsts (F.sub fs[a] (List.getElem_mem ha))
   have hxa:fs[a]?=some r.1:=by rw [hx]; exact List.getElem?_eq_getElem ha
   have hm:r.1∈fs:=List.mem_of_getElem? hxa
   obtain ⟨g1,⟨ex,g2⟩,g3⟩:=spots_of I hr r.2.os fs (fun _ h=>h) hm F
   have hk:(kOf rs r.1)[0]?=some r.2:=by
    unfold kOf
    have hmem:r∈rs.filter fun r'=>decide (r'.1=r.1):=List.mem_filter.mpr ⟨hr,decide_eq_true rfl⟩
    cases hf:rs.filter fun r'=>decide (r'.1=r.1) with
    | nil=>rw [hf] at hmem; cases hmem
    | cons y l =>
     have hy:y∈rs.filter fun r'=>decide (r'.1=r.1):=by rw [hf]; exact .head _
     have:=List.mem_filter.mp hy
     rw [I.inj this.1 hr (of_decide_eq_true this.2)]; rfl
   have ol:=(I.rb hr).k.ol
   generalize hf2:r.2.os.foldl (fun fs o=>addT rs (at_ f0 (r.1+o)) fs) fs=fs2 at *
   obtain ⟨k,fs',b,F',⟨ex2,e2⟩,c⟩:=ih (a+1) fs2 (by omega) g1 fun r2 hr2 ⟨i,hi,e⟩ o ho ht=>by
    by_cases z:i < a
    ·have e':fs[i]?=some r2.1:=by rw [g2,List.getElem?_append_left (by exact lin [] [_,_,_] [65561,1114197] 65621 553981507 rfl q z)] at e; exact e
     rw [g2]
     exact List.mem_append_left _ (hc r2 hr2 ⟨i,z,e'⟩ o ho ht)
    ·have:i=a:=by exact Nat.le_antisymm (lin [] [_,_] [2550415381] 65556 149058 rfl hi) (lin [] [_,_] [65562] 32836 149058 rfl z)
     subst this
     rw [g2,List.getElem?_append_left ha,hxa] at e
     have:r2=r:=I.inj hr2 hr (Option.some.inj e).symm
     subst this
     exact g3 o ho ht
   refine ⟨k+1,fs',.go (x:=r.1) (kd:=r.2) (by exact lin [] [_] [] 102433 83522 rfl ) (by exact lin [] [_,_] [65561] 3432562 149058 rfl q) ?_ hk (fun o ho=>(I.al hr (I.pS hr ho)).2.1) (by exact lin [] [_,_] [598036,32836] 524386372 21370435 rfl n9 hl) (by exact lin [] [_] [335892] 65544212 149058 rfl ol) ?_,F',⟨ex++ex2,by rw [e2,g2,List.append_assoc]⟩,c⟩
   ·rw [Int.toNat_natCast,List.getElem?_map,hxa]; rfl
   ·rw [hf2]; exact b
end
end
section
section
variable {ks:List Ki}{rs:List Rk}{f0:Int→Int}{e t:Int}
theorem mg_ctg(hk:∀ k∈ks,KdB k)(kp:Rk→Bool):∀{l:List Rk}{a:Int},Cons ks a l e→a%16=0→e≤1584→Ctg a (mg kp e l)
 | [],a,c,ha,he=>by
  have c:a=e:=c
  subst c
  exact ⟨rfl,by exact lin [_] [] [103817233] 27490059292801 149058 rfl he,by exact Int.le_antisymm (lin [_,_,_,_,_] [] [8211,145410782536179,633980136223167711191651,33947746] 393313 49128355074480909265931842667750101165061 rfl ha (dmA _ 16) (dmA _ 16) (dmC _ 16 rfl)) (lin [_] [] [4129] 4129 149058 rfl (dmB _ 16 rfl)),by show a+(1600-a)=1600; exact Int.le_antisymm (lin [_] [] [] 7206762194686485073 449 rfl ) (lin [_] [] [] 7206353965429035233 449 rfl )⟩
 | r :: l,a,⟨h1,h2,c⟩,ha,he=>by
  have K:=hk _ h2
  have b:=bsz_b K.w0 K.w1
  have g:=mg_ctg hk kp c (by exact Int.le_antisymm (b.elim (fun z0=>lin [_,_,_,_,_,_] [] [8211,8486979,431283805790723,1291368085994160726643,33980514] 426081 62943945980766184564549972577774762128545229829 rfl ha z0.1 (dmA _ 16) (dmA _ 16) (dmC _ 16 rfl)) (fun z0=>lin [_,_,_,_,_,_] [] [8211,16875587,431283805790723,1291368085994160726643,33980514] 426081 62943945980766184564549972577774762128545229829 rfl ha z0.1 (dmA _ 16) (dmA _ 16) (dmC _ 16 rfl))) (lin [_] [] [4129] 4129 149058 rfl (dmB _ 16 rfl))) he
  have e1:r.1-8=a:=by exact Int.le_antisymm (lin [_,_] [] [17582800915] 18270433585 8655939 rfl h1) (lin [_,_] [] [17582800915] 17449058369 8721475 rfl h1)
  show Ctg a (if kp r then bkR r :: mg kp e l else jn (r.1-8) (bsz r.2.wd) (mg kp e l))
  split
  ·exact ⟨e1,by exact b.elim (fun z0=>lin [_] [] [1056787] 528513 8721475 rfl z0.1) (fun z0=>lin [_] [] [2105363] 528513 8721475 rfl z0.1),by exact Int.le_antisymm (b.elim (fun z0=>lin [_,_,_] [] [1056787,145410782536259,16973906] 196689 36457715524783322003532523797289989 rfl z0.1 (dmA _ 16) (dmC _ 16 rfl)) (fun z0=>lin [_,_,_] [] [2105363,145410782536259,16973906] 196689 36457715524783322003532523797289989 rfl z0.1 (dmA _ 16) (dmC _ 16 rfl))) (lin [_] [] [4129] 4129 149058 rfl (dmB _ 16 rfl)),g⟩
  ·rw [e1]; exact g.jn (by exact b.elim (fun z0=>lin [_] [] [1056787] 528513 8721475 rfl z0.1) (fun z0=>lin [_] [] [2105363] 528513 8721475 rfl z0.1)) (by exact Int.le_antisymm (b.elim (fun z0=>lin [_,_,_] [] [1056787,145410782536259,16973906] 196689 36457715524783322003532523797289989 rfl z0.1 (dmA _ 16) (dmC _ 16 rfl)) (fun z0=>lin [_,_,_] [] [2105363,145410782536259,16973906] 196689 36457715524783322003532523797289989 rfl z0.1 (dmA _ 16) (dmC _ 16 rfl))) (lin [_] [] [4129] 4129 149058 rfl (dmB _ 16 rfl)))
theorem jn_used{b s x y d:Int}{L:List Bk}(h:(x,y,some d)∈jn b s L):(x,y,some d)∈L:=by
 rcases L with _ | ⟨⟨b2,s2,_ | d2⟩,r⟩
 ·rcases List.mem_cons.mp h with z | z
  ·cases z
  ·cases z
 ·rcases List.mem_cons.mp h with z | z
  ·cases z
  ·exact .tail _ z
 ·rcases List.mem_cons.mp h with z | z
  ·cases z
  ·exact z
theorem mg_used(kp:Rk→Bool){x y d:Int}:∀{l:List Rk},(x,y,some d)∈mg kp e l→∃ r∈l,kp r=true∧(x,y,some d)=bkR r
 | [],h=>by
  rcases List.mem_cons.mp h with z | z
  ·cases z
  ·cases z
 | r :: l,h=>by
  unfold mg at h
  split at h
  ·rename_i q
   rcases List.mem_cons.mp h with z | z
   ·exact ⟨r,.head _,q,z⟩
   ·obtain ⟨r',a,b,c⟩:=mg_used kp z; exact ⟨r',.tail _ a,b,c⟩
  ·obtain ⟨r',a,b,c⟩:=mg_used kp (jn_used h); exact ⟨r',.tail _ a,b,c⟩
theorem WI.e84(I:WI ks rs f0 e t):e≤1376:=by
 have E:=I.eb
 have n:=I.n
 exact lin [_] [_] [234201620321026065,598036] 90185745 28410310298269573720070 rfl E.2.2 n
theorem mg_bv(I:WI ks rs f0 e t)(kp:Rk→Bool){st:(Int→Int) × (Int→Int)}(P:SwP f0 (frees (mg kp e rs)) st):BV st.1 (mg kp e rs):=by
 have c:=mg_ctg I.kb kp I.co (by decide) (Int.le_trans I.e84 (by decide))
 refine ⟨c,fun p hp=>P.hd p hp,fun x y d h=>?_⟩
 obtain ⟨r,hr,_,q⟩:=mg_used kp h
 have K:=(I.ko _ (I.co.ks r hr)).1
 have T:=I.tg r hr
 have al:=I.al hr (pT r)
 have a0:=K.a0
 have a1:=K.a1
 have a4:=K.a4
 have fm:=fun p (hp:p∈frees (mg kp e rs))=>c.mem (by decide) _ (frees_mem.mp hp)
 have low:∀ a,a%4=0→a < 1088→at_ st.1 a=at_ f0 a:=fun a ha hl=>P.out a ha fun p hp=>by have:=(fm p hp).1; dsimp only at this; exact ⟨fun z0=>lin [_,_] [] [71311378,572526817,65555] 0 822416963 rfl hl this z0,fun z0=>lin [_,_] [] [71311378,572526817,8992866323] 0 822416963 rfl hl this z0⟩
 cases q
 refine ⟨?_,by exact Int.le_antisymm (lin [_,_,_,_,_] [] [8211,145410782536179,4647704605598275,8781922] 393313 49128355079546559906686749562307281494277 rfl a4 (dmA _ 16) (dmA _ 4) (dmC _ 4 rfl)) (lin [_] [] [4129] 4129 149058 rfl (dmB _ 4 rfl)),by exact lin [_] [] [2101409] 4129 149058 rfl a0,by exact lin [_] [] [12591121] 71311378 149058 rfl a1,by rw [low _ (by exact Int.le_antisymm (lin [_,_,_,_,_] [] [8211,145410782536179,4647704605598275,8781922] 393313 49128355079546559906686749562307281494277 rfl a4 (dmA _ 16) (dmA _ 4) (dmC _ 4 rfl)) (lin [_] [] [4129] 4129 149058 rfl (dmB _ 4 rfl))) (by exact lin [_] [] [12591121] 71311378 149058 rfl a1),K.d0]⟩
 refine (P.out _ al.1 fun p hp=>?_).trans T.1
 rcases c.apart (by decide) _ h _ (frees_mem.mp hp) with z | z | z
 ·exact nomatch congrArg (fun b:Bk=>b.2.2) z
 ·have:=(c.mem (by decide) _ h).2.2.1; dsimp only at *; exact ⟨fun z0=>lin [_,_,_] [] [1163317754831393,8917121,283685986659] 0 822416963 rfl z this z0,fun z0=>lin [_,_,_] [] [1163317754831393,8917121,37718377241813347] 0 822416963 rfl z this z0⟩
 ·have:=(fm p hp).2.2.1; dsimp only at *; exact ⟨fun z0=>lin [_,_,_] [] [1152299862892801,8917121,141063004579] 0 553981507 rfl z this z0,fun z0=>lin [_,_,_] [] [1152299862892801,8917121,37157586767880611] 0 553981507 rfl z this z0⟩
variable {W:Wd KH}{ms:List Md}{rows rg:List U}{hu:List U}{t2:Int}{fl:List U}
theorem collect_of(I:WI ks rs f0 e t2){tt:Int}(hm:∀ m∈ms,MdB m tt)(htt:tt≤1088)(hms:ms.length < 50){rsl fw:List Int}{p:Int}(FR:Frs ms f0 p (rsl++[0]) fw)(hrl:rsl.length≤4)(hrg:rg[11]?=some (.int p))(hr16:rg.length=16){be:List Int}{b:U}(hi:ItU b (be.map U.int))
  {fs:List Int} (F:FsI rs f0 (gRoots f0 ms++fw++be) fs) (hroot:∀ w∈gRoots f0 ms++fw++be,∀ r∈rs,inR r w→r.1∈fs) (hclo:∀ r∈rs,r.1∈fs→∀ o∈r.2.os,at_ f0 (r.1+o)∈fsts rs→at_ f0 (r.1+o)∈fs) :
  ∃ (st:(Int→Int) × (Int→Int)) (f3:Int→Int),SwP f0 (frees (mg (fun r=>decide (r.1∈fs)) e rs)) st∧Col (bsOf rs e) ms f0 ((rsl++[0]).headD 0) p be f3∧swS (bsOf rs e) f3=st∧(frA (bsOf rs e) f3 [] 0 0).2.2=lost (fun r=>decide (r.1∈fs)) rs:=by
 have hZ:Clo rs f0 (fun r=>r.1∈fs):=fun r hr hz o ho r' hr' q=>by
  have:=hclo r hr hz o ho (by rw [q]; exact List.mem_map.mpr ⟨r',hr',rfl⟩)
  rwa [q] at this
 have sub1:∀ w∈gRoots f0 ms,w∈gRoots f0 ms++fw++be:=fun w h=>List.mem_append_left _ (List.mem_append_left _ h)
 have sub2:∀ w∈fw,w∈gRoots f0 ms++fw++be:=fun w h=>List.mem_append_left _ (List.mem_append_right _ h)
 have sub3:∀ w∈be,w∈gRoots f0 ms++fw++be:=fun w h=>List.mem_append_right _ h
 obtain ⟨f1,m1,D1,u1,r1⟩:=marks I hZ (gRoots f0 ms) f0 (.nil I) fun w h r hr hi=>hroot w (sub1 w h) r hr hi
 obtain ⟨f2,m2,D2,u2,r2⟩:=marks I hZ fw f1 D1 fun w h r hr hi=>hroot w (sub2 w h) r hr hi
 obtain ⟨f3,m3,D3,u3,r3⟩:=marks I hZ be f2 D2 fun w h r hr hi=>hroot w (sub3 w h) r hr hi
 have FR1:Frs ms f1 p (rsl++[0]) fw∧∃ k,StR ms f1 k ((rsl++[0]).headD 0) p 0 fw∧fw.length≤12 * (rsl++[0]).length:=by
  have P:∀{rl:List Int},Frs ms f0 p rl fw→Frs ms f1 p rl fw:=fun {rl} h=>by
   rcases rl with _ | ⟨a,_ | ⟨b,rl⟩⟩
   ·exact h.elim
   ·exact h
   ·refine Frs.cong hm _ p fw h fun b hb hp=>D1.out b hb fun r hr q=>?_
    have:=h.2.2.1
    have:=I.rb hr
    have:=this.hi
    have:=(I.rb hr).sz
    have:=(I.rb hr).k.w0
    have:=I.e84
    (rename_i q4 _ q2 q1 q0; exact lin [_,_,_,_,_,_] [] [73031266641,1157496471619,95031537,73782453265474161,1684499800449,659489,2886074465] 0 1039955534102152633412 rfl hp q q4 q2 q1 q0 this)
  have g:=P FR
  exact ⟨g,Frs.st hm _ p fw 0 g (by rw [List.length_append,List.length_singleton]; exact lin [] [_] [270356] 28174988355904001 149058 rfl hrl)⟩
 obtain ⟨_,k,st,fwl⟩:=FR1
 rw [List.length_append,List.length_singleton] at fwl
 have kpe:∀ r∈rs,(decide (r.1∈fs)=true↔at_ f3 (r.1+-4)≠0):=fun r hr=>by
  rw [decide_eq_true_iff]
  constructor
  ·intro h
   refine F.min (fun r=>mw f3 r≠0) (fun r hr hz o ho r' hr' q=>(D3.fin r hr hz).2.2 o ho r' hr' q) (fun w hw r hr hi=>?_) r hr h
   rcases List.mem_append.mp hw with z | z
   ·rcases List.mem_append.mp z with y | y
    ·exact u3 r hr (u2 r hr (r1 w y r hr hi))
    ·exact u3 r hr (r2 w y r hr hi)
   ·exact r3 w z r hr hi
  ·exact fun h=>(D3.fin r hr h).2.1
 have A:=frA_of I.kb (fun r=>decide (r.1∈fs)) rs 1088 f3 [] 0 0 I.co (by decide) (by decide) kpe (fun r hr=>(I.tg r hr).2) D3.out
 have Aj:jnR [] 0 1088 (mg (fun r=>decide (r.1∈fs)) e rs)=frees (mg (fun r=>decide (r.1∈fs)) e rs):=rfl
 rw [Aj,Int.zero_add] at A
 have c:=mg_ctg I.kb (fun r=>decide (r.1∈fs)) I.co (by decide) (Int.le_trans I.e84 (by decide))
 have fm:=fun p (hp:p∈frees (mg (fun r=>decide (r.1∈fs)) e rs))=>c.mem (by decide) _ (frees_mem.mp hp)
 have SP:=swP (f0:=f0) _ (c.rn (by decide) (by decide)) fun p hp=>(fm p hp).2.2.2.1
 have fl1:∀ L:List Bk,(frees L).length≤L.length:=fun L=>by
  induction L with
  | nil=>exact Nat.le_refl _
  | cons x L ih =>
   obtain ⟨a,b,_ | d⟩:=x
   ·exact Nat.succ_le_succ ih
   ·exact Nat.le_succ_of_le ih
 have jl:∀ b s (L:List Bk),(jn b s L).length≤L.length+1:=fun b s L=>by
  rcases L with _ | ⟨⟨b2,s2,_ | d2⟩,r⟩
  ·exact Nat.le_refl _
  ·exact Nat.le_succ _
  ·exact Nat.le_refl _
 have ml:∀ l:List Rk,(mg (fun r=>decide (r.1∈fs)) e l).length≤l.length+1:=fun l=>by
  induction l with
  | nil=>exact Nat.le_refl _
  | cons x l ih =>
   unfold mg
   split
   ·exact Nat.succ_le_succ ih
   ·exact Nat.le_trans (jl _ _ _) (Nat.succ_le_succ ih)
 have n9:=I.n
 refine ⟨_,f3,SP,⟨fun m h o ho=>?_,fun m h=>Nat.lt_of_le_of_lt (hm m h).r1 (by decide),?_,⟨f1,f2,k,fw,m1,st,by rw [sizeLine_eq]; exact lin [] [_,_] [270356,79187925041220] 8796093120580 13024382020 rfl hrl fwl,m2,m3⟩,D3.hb I,fun q hq=>?_,?_,fun q hq=>?_,?_⟩,by unfold swS; rw [A],by rw [A]⟩
 ·have B:=hm m h
  have:=B.d0
  have:=B.d1
  have:=B.po o ho
  exact ⟨by (rename_i q1 _; exact lin [_,_] [] [4129,135201] 537038881 553981507 rfl q1 this.1),by (rename_i q0; exact lin [_,_,_] [] [71311377,34561204609,33751122] 125900591079746 1371936835 rfl htt q0 this.2.1)⟩
 ·have:∀ l:List Md,(∀ m∈l,MdB m tt)→(gRoots f0 l).length≤8 * l.length:=fun l=>by
   induction l with
   | nil=>exact fun _=>Nat.le_refl _
   | cons m l ih =>
    intro h
    have a:=ih fun m h'=>h m (.tail _ h')
    have b:=(h m (.head _)).pl
    show ((m.ptrs.map _)++gRoots f0 l).length≤_
    rw [List.length_append,List.length_map,List.length_cons]; exact lin [] [_,_,_] [2281996308,8585300] 2738492048448594180 25499203 rfl a b
  have:=this ms hm
  rw [sizeLine_eq]; exact lin [] [_,_] [3285013,1076133956] 8796093120580 8729414724 rfl hms this
 ·rcases List.mem_append.mp hq with z | z
  ·obtain ⟨r,hr,rfl⟩:=List.mem_map.mp z
   have a:=(I.al hr (pM r)).2.1
   show okA (r.1-8+4)
   rwa [show r.1-8+4=r.1+-4 by exact Int.le_antisymm (lin [_] [] [] 310138846858019709505 449 rfl ) (lin [_] [] [] 309055215670082445649 449 rfl )]
  ·rw [List.mem_singleton.mp z]
   have:=I.e84
   have:=I.eb
   exact ⟨by dsimp only; exact lin [_] [] [35655905] 2214760481 149058 rfl this.2.1,by dsimp only; (rename_i q0; exact lin [_] [] [90185745] 31475147776290 149058 rfl q0)⟩
 ·show (bsOf rs e).length≤900
  unfold bsOf
  rw [List.length_append,List.length_map,List.length_singleton]; exact lin [] [_] [598036] 1933154754820 149058 rfl n9
 ·rw [A] at hq
  have:=fm q hq
  dsimp only at this
  exact ⟨lin [_] [] [35655905] 4129 149058 rfl this.1,lin [_,_] [] [528513,1718188384497] 251801249128786 285611587 rfl this.2.2.1 this.2.2.2.2⟩
 ·rw [A]
  have:=fl1 (mg (fun r=>decide (r.1∈fs)) e rs)
  have:=ml rs
  dsimp only; (rename_i q0; exact lin [] [_,_,_] [598036,1081412,4833214548] 524386373 19076094019 rfl n9 q0 this)
end
end
section
theorem seenL_jn{f:Int→Int}(b s:Int)(L:List Bk):seenL f (jn b s L)=seenL f L:=by
 rcases L with _ | ⟨⟨b2,s2,_ | d⟩,r⟩ <;> rfl
theorem wordsAt_cong{f f':Int→Int}{x w:Int}(h:∀ o,o%4=0→0≤o→o < w→at_ f' (x+o)=at_ f (x+o)):wordsAt f' x w=wordsAt f x w :=
 List.map_congr_left fun o ho=>by
  have:=mem_rng.mp ho
  exact h o (by exact Int.le_antisymm (lin [_,_,_,_,_] [] [8211,216268508580356563,4647704605598275,8781922] 393313 49128355079546559906686749562307281494277 rfl this.2.2 (dmA _ 4) (dmA _ 4) (dmC _ 4 rfl)) (lin [_] [] [4129] 4129 149058 rfl (dmB _ 4 rfl))) this.1 this.2.1
noncomputable def Mz(f:Int→Int)(bs:List Bk):Prop:=∀ b s d,(b,s,some d)∈bs→at_ f (b+4)=0∧0≤at_ f d∧at_ f d+8≤s
theorem BV.seen{f:Int→Int}{bs:List Bk}(B:BV f bs)(M:Mz f bs):∀ p∈bs,SeenOK f p:=fun ⟨b,s,d⟩ h tg e=>by
 have e:d=some tg:=e
 subst e
 have m:=B.ct.mem (by decide) _ h
 have u:=B.us _ _ _ h
 have z:=M _ _ _ h
 dsimp only at m ⊢
 refine ⟨⟨by exact lin [_] [] [35655905] 2214760481 149058 rfl m.1,by exact lin [_,_] [] [528513,1718188384497] 251801249128786 285611587 rfl m.2.2.1 m.2.2.2.2⟩,z.1,⟨u.2.2.1,by exact lin [_] [] [71311378] 240132114 149058 rfl u.2.2.2.1⟩,z.2.1,by exact lin [_,_,_] [] [35655905,3436376531201,292460601713] 1048772690 18279241795 rfl m.1 m.2.2.2.2 z.2.2,fun o ho=>?_⟩
 have:=mem_rng.mp ho
 exact ⟨by exact lin [_,_] [] [35655905,135201] 149671358402593 553981507 rfl m.1 this.1,by exact lin [_,_,_,_] [] [3436376531201,292460601713,2195538] 4125545782743507506 1900419139 rfl m.2.2.2.2 z.2.2 this.2.1⟩
section
variable {ks:List Ki}{rs:List Rk}{f0:Int→Int}{e t:Int}{st:(Int→Int) × (Int→Int)}
theorem mg_has{kp:Rk→Bool}{r:Rk}(hk:kp r=true):∀{e:Int}{l:List Rk},r∈l→bkR r∈mg kp e l
 | e,x :: l,h=>by
  unfold mg
  by_cases q:kp x=true
  ·rw [if_pos q]
   rcases List.mem_cons.mp h with z | z
   ·rw [z]; exact .head _
   ·exact .tail _ (mg_has hk z)
  ·rw [if_neg q]
   rcases List.mem_cons.mp h with z | z
   ·rw [z] at hk; exact absurd hk q
   ·have:=mg_has (e:=e) hk z
    rcases hm:mg kp e l with _ | ⟨⟨b2,s2,_ | d⟩,r2⟩ <;> rw [hm] at this
    ·nomatch this
    ·rcases List.mem_cons.mp this with w | w
     ·exact nomatch congrArg (fun b:Bk=>b.2.2) w
     ·exact .tail _ w
    ·exact .tail _ this
theorem mg_tail{kp:Rk→Bool}:∀ l:List Rk,(∀ r∈l,0≤bsz r.2.wd)→∃ p∈frees (mg kp e l),1600-e≤p.2
 | [],_=>⟨_,.head _,Int.le_refl _⟩
 | r :: l,h=>by
  obtain ⟨p,h1,h2⟩:=mg_tail (kp:=kp) l fun r h'=>h r (.tail _ h')
  have b:=h r (.head _)
  unfold mg
  by_cases q:kp r=true
  ·rw [if_pos q]; exact ⟨p,h1,h2⟩
  ·rw [if_neg q]
   rcases hm:mg kp e l with _ | ⟨⟨b2,s2,_ | d⟩,r2⟩ <;> rw [hm] at h1
   ·nomatch h1
   ·rcases List.mem_cons.mp h1 with w | w
    ·subst w; exact ⟨_,.head _,by dsimp only at *; exact lin [_,_,_] [] [4129,36391266759121] 144138385203081681 553981507 rfl b h2⟩
    ·exact ⟨p,.tail _ w,h2⟩
   ·exact ⟨p,.tail _ h1,h2⟩
theorem SwP.low{kp:Rk→Bool}(I:WI ks rs f0 e t)(P:SwP f0 (frees (mg kp e rs)) st){a:Int}(ha:a%4=0)(hl:a < 1088):at_ st.1 a=at_ f0 a :=
 P.out a ha fun p hp=>by
  have:=((mg_ctg I.kb kp I.co (by decide) (Int.le_trans I.e84 (by decide))).mem (by decide) _ (frees_mem.mp hp)).1
  dsimp only at this; exact ⟨fun z0=>lin [_,_] [] [71311378,572526817,65555] 0 822416963 rfl hl this z0,fun z0=>lin [_,_] [] [71311378,572526817,8992866323] 0 822416963 rfl hl this z0⟩
theorem SwP.in_{kp:Rk→Bool}(I:WI ks rs f0 e t)(P:SwP f0 (frees (mg kp e rs)) st){r:Rk}(hr:r∈rs)(hk:kp r=true){a:Int}(ha:a%4=0)(h1:r.1-8≤a)(h2:a < r.1-8+bsz r.2.wd):at_ st.1 a=at_ f0 a:=by
 have c:=mg_ctg I.kb kp I.co (by decide) (Int.le_trans I.e84 (by decide))
 refine P.out a ha fun p hp=>?_
 have m:=c.mem (by decide) _ (frees_mem.mp hp)
 rcases c.apart (by decide) _ (mg_has hk hr) _ (frees_mem.mp hp) with z | z | z
 ·exact nomatch congrArg (fun b:Bk=>b.2.2) z
 ·unfold bkR at z; dsimp only at m z; exact ⟨fun z0=>lin [_,_,_,_] [] [1161909501313042,27602552514880097,196627] 0 822416963 rfl h2 z z0,fun z0=>lin [_,_,_,_] [] [1161909501313042,27602552514880097,18119737363] 0 822416963 rfl h2 z z0⟩
 ·unfold bkR at z; dsimp only at m z; exact ⟨fun z0=>lin [_,_,_,_] [] [18270433585,17305729,2287083171520849,1605699] 0 52638849091 rfl h1 m.2.2.1 z z0,fun z0=>lin [_,_,_,_] [] [18270433585,17305729,2287083171520849,144957931587] 0 52638849091 rfl h1 m.2.2.1 z z0⟩
theorem SwP.mz{kp:Rk→Bool}(I:WI ks rs f0 e t)(P:SwP f0 (frees (mg kp e rs)) st):Mz st.1 (mg kp e rs):=fun b s d h=>by
 obtain ⟨r,hr,hk,q⟩:=mg_used kp h
 have B:=I.rb hr
 have K:=(I.ko _ (I.co.ks r hr)).1
 have a0:=K.a0
 have a1:=K.a1
 have a4:=K.a4
 have lo:=B.lo
 have al:=B.al
 have sz:=B.sz
 have w0:=K.b.w0
 cases q
 rw [P.in_ I hr hk (a:=r.1-8+4) (by exact Int.le_antisymm (lin [_,_,_,_,_] [] [532499,145410782536179,162052753066465544846811715,8781922] 393313 49128355079546559906686749562307281494277 rfl al (dmA _ 16) (dmA _ 4) (dmC _ 4 rfl)) (lin [_] [] [4129] 4129 149058 rfl (dmB _ 4 rfl))) (by exact lin [_] [] [] 77263803917482897713 449 rfl ) (by exact lin [_,_,_] [] [18270429489,4129] 658562737680094536292606594 21370435 rfl sz w0),P.low I (a:=r.2.w) (by exact Int.le_antisymm (lin [_,_,_,_,_] [] [8211,145410782536179,4647704605598275,8781922] 393313 49128355079546559906686749562307281494277 rfl a4 (dmA _ 16) (dmA _ 4) (dmC _ 4 rfl)) (lin [_] [] [4129] 4129 149058 rfl (dmB _ 4 rfl))) (by exact lin [_] [] [12591121] 71311378 149058 rfl a1),K.d0,show r.1-8+4=r.1-4 by exact Int.le_antisymm (lin [_] [] [] 38049653245780533825 449 rfl ) (lin [_] [] [] 38631901958749860129 449 rfl )]
 exact ⟨(I.tg r hr).2,by exact lin [_] [] [4129] 4129 149058 rfl w0,sz⟩
theorem seen_mg{fs:List Int}(I:WI ks rs f0 e t)(P:SwP f0 (frees (mg (fun r=>decide (r.1∈fs)) e rs)) st):seenL st.1 (mg (fun r=>decide (r.1∈fs)) e rs)=keptL f0 fs rs:=by
 have key:∀ r∈rs,r.1∈fs→seenRow st.1 (r.1-8) (bsz r.2.wd) r.2.w=keptRow f0 r:=fun r hr hf=>by
  have B:=I.rb hr
  have K:=(I.ko _ (I.co.ks r hr)).1
  have a0:=K.a0
  have a1:=K.a1
  have a4:=K.a4
  have al:=B.al
  have sz:=B.sz
  unfold seenRow keptRow
  rw [P.low I (by exact Int.le_antisymm (lin [_,_,_,_,_] [] [8211,145410782536179,4647704605598275,8781922] 393313 49128355079546559906686749562307281494277 rfl a4 (dmA _ 16) (dmA _ 4) (dmC _ 4 rfl)) (lin [_] [] [4129] 4129 149058 rfl (dmB _ 4 rfl))) (by exact lin [_] [] [12591121] 71311378 149058 rfl a1),K.d0,show r.1-8+8=r.1 by exact Int.le_antisymm (lin [_] [] [] 288106499121745 449 rfl ) (lin [_] [] [] 576212998242321 449 rfl ),wordsAt_cong fun o h4 h0 h1=>P.in_ I hr (decide_eq_true hf) (by exact Int.le_antisymm (lin [_,_,_,_,_,_,_,_] [] [532499,98371,431283805790723,5704335279923763,1503433785152606184019,8880226] 491617 77985824515707242307475487736362014836537210227994885 rfl al h4 (dmA _ 16) (dmA _ 4) (dmA _ 4) (dmC _ 4 rfl)) (lin [_] [] [4129] 4129 149058 rfl (dmB _ 4 rfl))) (by exact lin [_,_] [] [4129] 282067883667809 149058 rfl h0) (by exact lin [_,_,_,_] [] [18270429489,65618] 1256396967711535702354 21370435 rfl sz h1)]
 have all:∀ l:List Rk,(∀ r∈l,r∈rs)→seenL st.1 (mg (fun r=>decide (r.1∈fs)) e l)=keptL f0 fs l:=fun l=>by
  induction l with
  | nil=>exact fun _=>rfl
  | cons r l ih =>
   intro h
   have i:=ih fun r h'=>h r (.tail _ h')
   unfold mg keptL
   by_cases q:r.1∈fs
   ·rw [if_pos (decide_eq_true q),if_pos q,← key r (h r (.head _)) q,← i]; rfl
   ·rw [if_neg (by rw [decide_eq_false q]; exact Bool.false_ne_true),if_neg q,seenL_jn]; exact i
 exact all rs fun _ h=>h
end
theorem frA_free{f:Int→Int}{b0:Int}:∀(L:List Bk)(a fr s0:Int),Ctg a L→(∀ b s d,(b,s,some d)∈L→at_ f (b+4)=0)→∃ n,frA L f [(b0,s0)] fr a=(f,[(b0,s0+(1600-a))],n):=fun L=>by
 induction L with
 | nil =>
  intro a fr s0 c _
  have c:a=1600:=c
  subst c
  exact ⟨fr,by show (f,[(b0,s0)],fr)=_; rw [Int.sub_self,Int.add_zero]⟩
 | cons p L ih =>
  obtain ⟨b,s,d⟩:=p
  intro a fr s0 ⟨e,_,_,c⟩ h
  subst e
  have h':∀ b s d,(b,s,some d)∈L→at_ f (b+4)=0:=fun b s d m=>h b s d (.tail _ m)
  have e1:runPut [(b0,s0)] b b s=[(b0,s0+s)]:=if_pos rfl
  have e2:s0+s+(1600-(b+s))=s0+(1600-b):=by exact Int.le_antisymm (lin [_,_,_] [] [] 44612385979250462127877263612336153729 449 rfl ) (lin [_,_,_] [] [] 43867345656369354051661242764357575313 449 rfl )
  cases d with
  | none =>
   show ∃ n,frA L f (runPut [(b0,s0)] b b s) fr (b+s)=_
   rw [e1,← e2]; exact ih _ _ _ c h'
  | some d =>
   show ∃ n,(if at_ f (b+4)≠0 then _ else frA L f (runPut [(b0,s0)] b b s) (fr+s) (b+s))=_
   rw [if_neg (fun z=>z (h _ _ _ (.head _))),e1,← e2]; exact ih _ _ _ c h'
theorem free_all{f:Int→Int}{bs:List Bk}(B:BV f bs)(M:Mz f bs):(frA bs f [] 0 0).1=f∧(frA bs f [] 0 0).2.1=[(1088,512)]:=by
 rcases bs with _ | ⟨⟨b,s,d⟩,L⟩
 ·exact absurd (show (1088:Int)=1600 from B.ct) (by decide)
 ·obtain ⟨e,_,_,c⟩:=B.ct
  subst e
  have h':∀ b s d,(b,s,some d)∈L→at_ f (b+4)=0:=fun b s d m=>(M b s d (.tail _ m)).1
  have e2:s+(1600-(1088+s))=512:=by exact Int.le_antisymm (lin [_] [] [] 77400178167581483995276257 449 rfl ) (lin [_] [] [] 82216929802143606597750993 449 rfl )
  have:∀ fr,(frA L f [(1088,s)] fr (1088+s)).1=f∧(frA L f [(1088,s)] fr (1088+s)).2.1=[(1088,512)]:=fun fr=>by
   obtain ⟨n,q⟩:=frA_free (b0:=1088) L (1088+s) fr s c h'
   rw [q,e2]; exact ⟨rfl,rfl⟩
  cases d with
  | none=>exact this 0
  | some d =>
   show (if at_ f (1088+4)≠0 then _ else frA L f [(1088,s)] (0+s) (1088+s):(Int→Int) × List (Int × Int) × Int).1=f∧(if at_ f (1088+4)≠0 then _ else frA L f [(1088,s)] (0+s) (1088+s):(Int→Int) × List (Int × Int) × Int).2.1=_
   rw [if_neg (fun z=>z (M _ _ _ (.head _)).1)]; exact this _
theorem col_free{f:Int→Int}{bs:List Bk}{be:List Int}{p:Int}(B:BV f bs)(M:Mz f bs)(hn:bs.length≤900)(hb:∀ w∈be,bofA w bs=0):
  Col bs [] f 0 p be f∧SwP f [(1088,512)] (swS bs f):=by
 obtain ⟨e1,e2⟩:=free_all B M
 have mk:∀ be:List Int,(∀ w∈be,bofA w bs=0)→Mk_ bs f be f:=fun be=>by
  induction be with
  | nil=>exact fun _=>.nil
  | cons w be ih=>exact fun h=>.skip B.hb (h w (.head _)) (ih fun w h'=>h w (.tail _ h'))
 refine ⟨⟨fun _ h=>(nomatch h),fun _ h=>(nomatch h),by rw [sizeLine_eq]; exact Nat.zero_le _,⟨f,f,0,[],.nil,.stop,by rw [sizeLine_eq]; decide,.nil,mk be hb⟩,B.hb,fun q h=>?_,hn,?_,?_⟩,?_⟩
 ·have:=B.ct.mem (by decide) q h
  exact ⟨by exact lin [_] [] [35655905] 2214760481 149058 rfl this.1,by exact lin [_,_] [] [528513,1718188384497] 251801249128786 285611587 rfl this.2.2.1 this.2.2.2.2⟩
 ·rw [e2]; exact fun r h=>by rw [List.mem_singleton.mp h]; decide
 ·rw [e2]; decide
 ·unfold swS
  rw [e1,e2]
  exact swP _ ⟨⟨by decide,by decide,by decide,by decide,fun _ h=>nomatch h⟩,trivial⟩ fun r h=>by rw [List.mem_singleton.mp h]; decide
end
section
section
variable {KK:Params→Frag}{W:Wd KK}{n:Nat}{env:Env}{osc:Scope}{g:List (Str × U)}{m:Lm}{σ:St}{F:Fr}{s:Sx}{w:Vw}{a b c:Co}
theorem execs_app(env:Env)(b:List Stmt)(a:List Stmt):execs (a++b) env=(execs a env >>= fun f=>match f with | .next=>execs b env | f=>pure f):=by
 induction a with
 | nil =>
  show execs b env=((pure Flow.next:Sem Flow) >>= _)
  rw [pure_bind]
 | cons s a ih =>
  rw [List.cons_append,execs_cons,execs_cons,bind_assoc]
  congr 1
  funext f
  cases f with
  | next=>exact ih
  | brk=>exact (pure_bind (m:=Sem) _ _).symm
  | cont=>exact (pure_bind (m:=Sem) _ _).symm
  | ret v=>exact (pure_bind (m:=Sem) _ _).symm
theorem exs_app{x y:List Stmt}{Q:Flow→Lm→St→Prop}(h:Exs W n env m x (fun f m' σ'=>f=.next∧Exs W n env m' y Q σ') σ):Exs W n env m (x++y) Q σ:=by
 unfold Exs
 rw [execs_app]
 refine TrS.bind (TrS.mono h fun f m' σ' h'=>?_)
 obtain ⟨h1,h2⟩:=h'
 cases f with
 | next=>exact h2
 | brk=>cases h1
 | cont=>cases h1
 | ret v=>cases h1
noncomputable def ExB(W:Wd KK)(n:Nat)(osc:Scope)(x:List Stmt)(a:Co)(fl:Fl)(b:Co)(rls:List Nat):Prop:=∀ env,env.scope=osc→∀ F s K,At a F s→(∀ f m' s',At b ⟨F.G,m'⟩ s'→Pa rls s.ρ s'.ρ→RFl s'.w fl f→K f m' s'.σ)→Exs W n env F.m x K s.σ
inductive SaysR(r:Res)(fl:Fl)(b:Co)(rls:List Nat)(cs:List Prop):Prop
 | mk {or:List Orc} (h:r=some (fl,⟨b.l,b.S,b.O,rls,or,cs⟩))
theorem exb_run{x:List Stmt}{fl:Fl}{rls:List Nat}{cs:List Prop}(or:List Orc)(K:KOK W)(hg:GOK W g)(h:SaysR (jSs (jS W n osc g 40) x (cfOf a or)) fl b rls cs)(hc:AllP cs):ExB W n osc x a fl b rls:=fun env ho F s Q M k=>by
 cases h with
 | mk h1=>exact (jSs_ok (jS_ok K ho hg) _ _ h1).ok hc F s Q M.sat fun f m' s' M' N r=>k f m' s' ⟨M'.sim,M'.loc⟩ N.pa r
theorem Pa.comp{r1 r2:List Nat}{ρ1 ρ2 ρ3:List Addr}(h1:Pa r1 ρ1 ρ2)(h2:Pa r2 ρ2 ρ3):Pa (r1++r2) ρ1 ρ3:=fun k a hk e=>h2 k a (fun h=>hk (List.mem_append_right _ h)) (h1 k a (fun h=>hk (List.mem_append_left _ h)) e)
theorem ExB.app{x y:List Stmt}{fl:Fl}{r1 r2:List Nat}(h1:ExB W n osc x a .next b r1)(h2:ExB W n osc y b fl c r2):ExB W n osc (x++y) a fl c (r1++r2):=fun env ho F s K M k =>
 exs_app (h1 env ho F s _ M fun f m' s1 A p r=>⟨r,h2 env ho ⟨F.G,m'⟩ s1 K A fun f m2 s2 A2 p2 r2=>k f m2 s2 A2 (p.comp p2) r2⟩)
theorem ExB.less{x:List Stmt}{fl:Fl}{r1:List Nat}(h:ExB W n osc x a fl b r1)(hf:fl=.next)(L:Less b c):ExB W n osc x a fl c r1:=fun env ho F s K M k =>
 h env ho F s K M fun f m' s1 A p r=>k f m' ⟨s1.ρ,s1.κ.take c.O.length,s1.σ⟩ (A.less L) p (by subst hf; exact r)
theorem LR.cons{l:List (Str × V)}{x:Str}{v:V}{y:Value}(e:m x=some y)(r:RV w v y)(h:LR w m l):LR w m ((x,v) :: l):=fun z u q=>by
 rw [List.lookup_cons] at q
 cases b:z==x with
 | true=>rw [b] at q; cases q; rw [beq_iff_eq.mp b]; exact ⟨y,e,r⟩
 | false=>rw [b] at q; exact h z u q
theorem ExB.pr{x:List Stmt}{u w:U}{us:List U}{x0 x1 x2:Str}{r1:List Nat}(h:ExB W n osc x a .next ⟨[(x0,.u w),(x1,.o 0),(x2,.o 1)],[],[.fz u,.list us]⟩ r1)(h1:(x1==x0)=false)(h2:(x2==x0)=false)(h3:(x2==x1)=false):
  ExB W n osc x a .next ⟨[(x0,.u w),(x1,.o 0),(x2,.s 0)],[.list us],[.fz u]⟩ r1:=fun env he F s K M k =>
 h env he F s K M fun f m' s1 A p r=>A.sim.outO (k:=1) rfl fun a1 hk k1 rc M1=>by
  obtain ⟨y0,e0,v0⟩:=A.loc x0 (.u w) (by rw [List.lookup_cons,beq_self_eq_true])
  obtain ⟨y1,e1,z1,q1,v1⟩:=A.loc x1 (.o 0) (by rw [List.lookup_cons,h1,List.lookup_cons,beq_self_eq_true])
  obtain ⟨y2,e2,z2,q2,v2⟩:=A.loc x2 (.o 1) (by rw [List.lookup_cons,h2,List.lookup_cons,h3,List.lookup_cons,beq_self_eq_true])
  cases k1.symm.trans q2
  have e:s1.ρ=[]:=List.length_eq_zero_iff.mp A.sim.slen
  obtain ⟨ρ1,κ1,σ1⟩:=s1
  cases e
  have M2:=(M1.adoptS (a:=a1) (c:=.list us) (show RC ⟨[]++[a1],[],σ1.P⟩ a1 (.list us) hk from rc)).less (j:=1) rfl
  refine k f m' ⟨[a1],κ1.take 1,σ1⟩ ⟨M2,.cons e0 v0 (.cons e1 ⟨z1,?_,v1⟩ (.cons e2 ⟨a1,rfl,v2⟩ fun _ _ q=>nomatch q))⟩ (fun k a hk e=>nomatch p k a hk e) r
  show (κ1.take 1)[0]?=_
  rw [List.getElem?_take,if_pos (by decide)]; exact q1
end
end
section
section
variable {KK:Params→Frag}{W:Wd KK}{n:Nat}{env:Env}{osc:Scope}{m:Lm}{σ:St}
theorem L2.ofI{P:AH}(ns:List Int):RL P (ns.map U.int) (intsV ns):=by
 induction ns with
 | nil=>exact .nil
 | cons i ns ih=>exact .cons rfl ih
theorem evs_upto{l:List (Str × V)}{S O:List Cell}{ns:List Int}{x:Str}{a:Addr}{items:Array Value}{p p' p2 pos:Pos}{k kk:Nat}(hx:l.lookup x=some (.u (.fn a)))(h0:W.h0.IsList a items)(hv:items.toList.map er=intsV ns)(hs:ns.length≤k)(hz:ns.length≤sizeLine):
  EvS W n osc (.Subscript (.Name x p) (.Slice none (some (.Constant (.int k) kk p2)) none p') pos) l S O (.o O.length) S (O++[Cell.list (ns.map U.int)]):=fun env ho F s K M lr kk=>by
 obtain ⟨y,e,e2⟩:=lr x _ hx
 cases e2
 refine ev_upto0 h0 hv e (by rw [intsV_len]; exact hz) fun b hb=>?_
 rw [List.take_of_length_le (by rw [intsV_len]; exact hs)]
 exact kk _ ⟨s.ρ,s.κ++[b],_⟩ (M.own hb ⟨_,rfl,L2.ofI ns⟩) (.K s [b]) ⟨b,M.klen▸Px.last _ _,rfl⟩
end
end
section
variable {W:Wd KH}{n:Nat}
noncomputable def lw(K:Frag)(i k:Nat):List Stmt:=((bodyOf K 546).drop i).take k
noncomputable def l1(u:U):List (Str × V):=[("script",.u u),("cells",.o 0),("hand",.s 0)]
theorem law_1{ns:List Int}{a:Addr}{items:Array Value}(h0:W.h0.IsList a items)(hv:items.toList.map er=intsV ns)(hn:ns.length≤63):∃ hd:Hd,ExB W 9 (scopeOf W.K 546) (lw W.K 0 2) ⟨[("script",.u (.fn a))],[],[]⟩ .next ⟨l1 (.fn a),[hd.c],[.fz (uI ns)]⟩ []:=by
 have e:EvS W 9 (scopeOf W.K 546) (augE (stAt W.K 546 0)) [("script",.u (.fn a))] [] [] (.o 0) [] [Cell.list (ns.map U.int)]:=evs_upto (k:=63) rfl h0 hv hn (by rw [sizeLine_eq]; exact lin [] [_] [4136980] 1099511635988 149058 rfl hn)
 exact ⟨⟨ns,0,0,ns.sum%100003 * 7,hn,by decide,Int.natCast_nonneg _⟩,ExB.pr (exb_run [.ev (.o 0) [] [Cell.list (ns.map U.int)],.is ns] kok gok ⟨rfl⟩ ⟨.inr (by decide),by decide,rfl,e,True.intro⟩) rfl rfl rfl⟩
noncomputable def l2(u:U)(ks:List Ki)(rs:List Rk):List (Str × V):=[("script",.u u),("cells",.o 0),("hand",.s 0),("machine",.s 1),("kinds",.u (.lst (ks.map encK))),("records",uR rs)]
theorem law_2{u w:U}(hd:Hd):∃ (ks:List Ki) (rs:List Rk) (hd':Hd) (f:Int→Int) (e:Int),WI ks rs f e (64+64 * (ks.length:Nat))∧0 < ks.length∧ks.length≤3 ∧
  ExB W 9 (scopeOf W.K 546) (lw W.K 2 1) ⟨l1 u,[hd.c],[.fz w]⟩ .next ⟨l2 u ks rs,sA (Hd.c hd') (64+64 * (ks.length:Nat)) f (flE e) 0 regs0 [row0] [],[.fz w]⟩ []:=by
 obtain ⟨ks,rs,hd',f,e,I,k0,k3,c⟩:=c_law_world (W:=W) hd
 exact ⟨ks,rs,hd',f,e,I,k0,k3,exb_run [.r 9 (.t [.s 1,.u (.lst (ks.map encK)),.u (.lst (rs.map encRk))]) [] (sA hd'.c (64+64 * (ks.length:Nat)) f (flE e) 0 regs0 [row0] []) []] kok gok ⟨rfl⟩ ⟨c,True.intro⟩⟩
end
section
variable {W:Wd KH}{n:Nat}
theorem CodeC.ge:∀{ms:List Md}{c e:Int},CodeC c ms e→c≤e
 | [],_,_,h=>Int.le_of_eq h
 | m :: ms,c,e,⟨_,h⟩=>Int.le_trans (Int.le_add_of_nonneg_right (Int.natCast_nonneg _)) h.ge
theorem WI.rr{ks:List Ki}{rs:List Rk}{f:Int→Int}{e t:Int}(I:WI ks rs f e t):rs.length < 1000∧∀ r∈rs,4≤r.1∧r.1 < 10000:=by
 have n:=I.n
 refine ⟨by exact lin [] [_] [598036] 65544213 149058 rfl n,fun r hr=>?_⟩
 have B:=I.rb hr
 have lo:=B.lo
 have hi:=B.hi
 have sz:=B.sz
 have w0:=B.k.w0
 have E:=I.eb
 exact ⟨lin [_] [] [35918049] 135265 149058 rfl lo,lin [_,_,_,_] [_] [598036,1163317754831393,292527710577,397345,3747225925136482385] 655368210 9709261602433116986957894 rfl n hi sz w0 E.2.2⟩
structure LI(ks:List Ki)(rs:List Rk)(ms:List Md)(f:Int→Int)(e t:Int)(rsl fw:List Int)(p:Int):Prop where
 wi:WI ks rs f e t
 k0:0 < ks.length
 k3:ks.length≤3
 md:∀ m∈ms,MdB m t
 ml:ms.length≤3
 fr:Frs ms f p (rsl++[0]) fw
 rl:rsl.length≤4
 t0:64+64 * (ks.length:Nat)≤t
 t1:t≤400
 t4:t%4=0
 wl:(gRoots f ms).length+fw.length≤500
noncomputable def l4(u:U)(ks:List Ki)(rs:List Rk):List (Str × V):=[("script",.u u),("cells",.o 0),("hand",.s 0),("machine",.s 1),("kinds",.u (.lst (ks.map encK))),("records",uR rs),("roots",.o 1)]
theorem law_3{u w:U}{ks:List Ki}{rs:List Rk}{f:Int→Int}{e:Int}(hd:Hd)(I:WI ks rs f e (64+64 * (ks.length:Nat)))(k0:0 < ks.length)(k3:ks.length≤3):
  ∃ (ms:List Md) (rows:List U) (hd':Hd) (f':Int→Int) (t:Int) (rsl fw:List Int) (p:Int),LI ks rs ms f' e t rsl fw p ∧
  ExB W 9 (scopeOf W.K 546) (lw W.K 3 2) ⟨l2 u ks rs,sA hd.c (64+64 * (ks.length:Nat)) f (flE e) 0 regs0 [row0] [],[.fz w]⟩ .next
   ⟨l4 u ks rs,sA (Hd.c hd') t f' (flE e) ((rsl++[0]).headD 0) (regsP p) rows (ms.map uLd),[.fz w,.list ((gRoots f' ms).map U.int++fw.map U.int)]⟩ []:=by
 have rr:=I.rr
 have E:=I.eb
 have n9:=I.n
 obtain ⟨ms,rows,hd1,f1,t,ws,M,m3,F1,c1⟩:=c_law_modules (W:=W) (fl:=flE e) (pc:=0) (rg:=regs0) hd rr.1 rr.2 (t:=64+64 * (ks.length:Nat)) (f:=f) (by exact lin [] [_] [] 58548873954889761 1185239621423061807111 rfl ) (by exact Int.le_antisymm (lin [_,_] [_] [7858296839184292493337043,2195522] 98369 190670755247105448102148 rfl (dmA _ 4) (dmC _ 4 rfl)) (lin [_] [] [4129] 4129 149058 rfl (dmB _ 4 rfl))) (by exact lin [] [_] [204820] 2694229008503075590689325917377 2365795213343722582023 rfl k3)
 have h2:ms≠[]→2≤rows.length:=fun hne=>by
  cases ms with
  | nil=>exact absurd rfl hne
  | cons m ms =>
   have:=M.code.2.ge
   have:=(M.each m (.head _)).r0
   (rename_i q0; exact lin [] [_,_] [76042871073,69716] 1118292 21370435 rfl q0 this)
 have top:=M.top
 obtain ⟨hd2,f2,rsl,fw,p,F2,R,r4,c2⟩:=c_law_frames (W:=W) (pc:=0) (fl:=flE e) (f:=f1) (t:=t) hd1 rr.1 rr.2 M.each (by exact lin [] [_] [204820] 6561813 149058 rfl m3) M.code h2 (by have:=M.rws.2; exact lin [] [_,_] [204820,30864845209668] 471957572 122033731 rfl m3 this)
 have tb:64+64 * (ks.length:Int)≤t∧t≤400∧t%4=0:=by exact ⟨lin [_] [_,_] [681838059139465115926675475] 14637218488722081 28411463219911619520518 rfl top,⟨lin [_] [_,_] [204820,1671236,681838059139465115926675475] 26222609 651762686318812663654406 rfl k3 m3 top,Int.le_antisymm (lin [_,_,_] [_,_] [681838059139465115926675475,36352838672931,4390994] 196689 17466901880707660517741186308 rfl top (dmA _ 4) (dmC _ 4 rfl)) (lin [_] [] [4129] 4129 149058 rfl (dmB _ 4 rfl))⟩⟩
 have hg:gRoots f2 ms=ws:=by rw [← M.words]; exact gRoots_cong M.each fun b h4 hb=>F2 b h4 (by exact lin [_,_] [] [26222609,32834] 1520533570 21370435 rfl tb.2.1 hb)
 have wl:ws.length+fw.length≤500:=by
  have a:=M.wl
  obtain ⟨_,_,b⟩:=Frs.st M.each _ p fw 0 R (by rw [List.length_append,List.length_singleton]; exact lin [] [_] [270356] 28174988355904001 149058 rfl r4)
  rw [List.length_append,List.length_singleton] at b
  exact lin [] [_,_,_,_] [204820,2195524,2152267860,1337155394306132] 34374905143636 580955716211780 rfl m3 r4 a b
 have hl:(ws.map U.int).length+(fw.map U.int).length≤sizeLine:=by
  rw [List.length_map,List.length_map,sizeLine_eq]; exact lin [] [_,_] [1074144518404] 36028797421658372 149058 rfl wl
 refine ⟨ms,rows,hd2,f2,t,rsl,fw,p,⟨(I.far (t2:=t) tb.1 (fun a h4 h=>?_) (by exact lin [_] [] [26222609] 71311377 149058 rfl tb.2.1)),k0,k3,M.each,m3,R,r4,tb.1,tb.2.1,tb.2.2,by rw [hg]; exact wl⟩,?_⟩
 ·rw [F2 a h4 (by exact h.elim (fun z0=>lin [_] [_] [204820,29274436977442834] 190062610 58104001889257617915662343 rfl k3 z0) (fun z0=>lin [_] [] [104865810] 190062610 149058 rfl z0.2))]
  exact F1 a h4 (by exact (Classical.em _).elim Or.inl fun z0=>Or.inr (h.elim (fun z1=>lin [_,_] [_] [29274436977442840,29274436977442834] 32833 149058 rfl z0 z1) (fun z1=>lin [_,_] [] [65553] 65553 149058 rfl z1.1)))
 ·rw [hg]
  have x1:ExB W 9 (scopeOf W.K 546) (lw W.K 3 1) ⟨l2 u ks rs,sA hd.c (64+64 * (ks.length:Nat)) f (flE e) 0 regs0 [row0] [],[.fz w]⟩ .next
   ⟨l4 u ks rs,sA (Hd.c hd1) t f1 (flE e) 0 regs0 rows (ms.map uLd),[Cell.fz w,intsC ws]⟩ [] :=
   exb_run [.r 4 (.o 0) [intsC ws] (sA (Hd.c hd1) t f1 (flE e) 0 regs0 rows (ms.map uLd)) []] kok gok ⟨rfl⟩ ⟨c1,True.intro⟩
  have x2:ExB W 9 (scopeOf W.K 546) (lw W.K 4 1) ⟨l4 u ks rs,sA (Hd.c hd1) t f1 (flE e) 0 regs0 rows (ms.map uLd),[Cell.fz w,intsC ws]⟩ .next
   ⟨l4 u ks rs,sA (Hd.c hd2) t f2 (flE e) ((rsl++[0]).headD 0) (regsP p) rows (ms.map uLd),Cell.fz w :: Cell.list (ws.map U.int++fw.map U.int) :: oF fw rsl (rsl++[0])⟩ [] :=
   exb_run [.r 4 (.o 0) (oF fw rsl (rsl++[0])) (sA (Hd.c hd2) t f2 (flE e) ((rsl++[0]).headD 0) (regsP p) rows (ms.map uLd)) []] kok gok (cs:=[_,_]) ⟨rfl⟩ ⟨hl,c2,True.intro⟩
  exact x1.app (x2.less rfl (less_of [] rfl rfl rfl rfl))
end
section
variable {W:Wd KH}{n:Nat}
section
variable {ks:List Ki}{rs:List Rk}{ms:List Md}{rows:List U}{f:Int→Int}{e t:Int}{rsl fw:List Int}{p:Int}{u w:U}
noncomputable def l5(u:U)(ks:List Ki)(rs:List Rk):List (Str × V):=[("script",.u u),("cells",.o 0),("hand",.s 0),("machine",.s 1),("kinds",.u (.lst (ks.map encK))),("records",uR rs),("roots",.o 1),("beside",.o 2)]
theorem law_5{rt:Cell}{R:List Cell}(hd:Hd)(hr:rs.length < 1000∧∀ r∈rs,4≤r.1∧r.1 < 10000):∃ (hd':Hd) (be:List Int),be.length≤1 ∧
  ExB W 9 (scopeOf W.K 546) (lw W.K 5 1) ⟨l4 u ks rs,hd.c :: R,[.fz w,rt]⟩ .next ⟨l5 u ks rs,(Hd.c hd') :: R,[.fz w,rt,intsC be]⟩ []:=by
 obtain ⟨d,hd1,c1,d0,d1⟩:=pick (W:=W) hd (R:=R) (k:=2) (by decide) (by decide)
 by_cases q:d=1
 ·obtain ⟨x,hd2,c2,_,_⟩:=c_law_word (W:=W) hd1 (R:=R) hr.1 hr.2
  exact ⟨hd2,[x],Nat.le_refl _,exb_run [.r 1 (i_ d) [] ((Hd.c hd1) :: R) [],.d true,.r 2 (i_ x) [] ((Hd.c hd2) :: R) []] kok gok (cs:=[_,_,_]) ⟨rfl⟩ ⟨c2,decide_eq_true q,c1,True.intro⟩⟩
 ·exact ⟨hd1,[],by decide,exb_run [.r 1 (i_ d) [] ((Hd.c hd1) :: R) [],.d false] kok gok (cs:=[_,_]) ⟨rfl⟩ ⟨decide_eq_false q,c1,True.intro⟩⟩
end
end
section
section
variable {ks:List Ki}{rs:List Rk}{f0:Int→Int}{e t:Int}
theorem SortC.of{us:List U}{l:List Int}(h:us.map fk=l.map some)(hp:l.Pairwise (· < ·))(hl:us.length < 12):SortC us us:=by
 rcases List.eq_nil_or_concat us with rfl | ⟨pre,x,rfl⟩
 ·exact .inl ⟨rfl,rfl⟩
 ·rw [List.concat_eq_append] at *
  exact .inr ⟨pre,[],x,l,by rw [List.append_nil],rfl,hl,h,hp⟩
theorem Cons.asc(hk:∀ k∈ks,KdB k):∀{l:List Rk}{a:Int},Cons ks a l e→a%16=0→(fsts l).Pairwise (· < ·)
 | [],_,_,_=>.nil
 | r :: l,a,⟨h1,h2,c⟩,ha=>by
  have K:=hk _ h2
  have b:=bsz_b K.w0 K.w1
  refine List.pairwise_cons.mpr ⟨fun x hx=>?_,Cons.asc hk c (by exact Int.le_antisymm (b.elim (fun z0=>lin [_,_,_,_,_,_] [] [8211,8486979,431283805790723,1291368085994160726643,33980514] 426081 62943945980766184564549972577774762128545229829 rfl ha z0.1 (dmA _ 16) (dmA _ 16) (dmC _ 16 rfl)) (fun z0=>lin [_,_,_,_,_,_] [] [8211,16875587,431283805790723,1291368085994160726643,33980514] 426081 62943945980766184564549972577774762128545229829 rfl ha z0.1 (dmA _ 16) (dmA _ 16) (dmC _ 16 rfl))) (lin [_] [] [4129] 4129 149058 rfl (dmB _ 16 rfl)))⟩
  obtain ⟨r',hr',rfl⟩:=List.mem_map.mp hx
  have:=((c.at hk (by exact Int.le_antisymm (b.elim (fun z0=>lin [_,_,_,_,_,_] [] [8211,8486979,431283805790723,1291368085994160726643,33980514] 426081 62943945980766184564549972577774762128545229829 rfl ha z0.1 (dmA _ 16) (dmA _ 16) (dmC _ 16 rfl)) (fun z0=>lin [_,_,_,_,_,_] [] [8211,16875587,431283805790723,1291368085994160726643,33980514] 426081 62943945980766184564549972577774762128545229829 rfl ha z0.1 (dmA _ 16) (dmA _ 16) (dmC _ 16 rfl))) (lin [_] [] [4129] 4129 149058 rfl (dmB _ 16 rfl)))).2.2.2 r' hr').1
  show r.1 < r'.1
  exact b.elim (fun z0=>lin [_,_,_,_] [] [17582800915,27597879582007905,16973907] 196626 448292474948 rfl h1 this z0.1) (fun z0=>lin [_,_,_,_] [] [17582800915,27597879582007905,33751123] 196626 448292474948 rfl h1 this z0.1)
theorem WI.sort(I:WI ks rs f0 e t):SortC (rs.map encRk) (rs.map encRk) :=
 SortC.of (l:=fsts rs) (by unfold fsts; rw [List.map_map,List.map_map]; rfl) (I.co.asc I.kb (by decide)) (by rw [List.length_map]; have:=I.n; exact lin [] [_] [598036] 794645 149058 rfl this)
theorem WI.rk(I:WI ks rs f0 e t):∀ r∈rs,RkOK r:=fun r hr=>by
 have B:=I.rb hr
 have w1:=B.k.w1
 have lo:=B.lo
 have hi:=B.hi
 have sz:=B.sz
 have al:=B.al
 have E:=I.e84
 refine ⟨B.k.w0,by exact lin [_] [] [1318929] 65544210 149058 rfl w1,fun o ho=>?_⟩
 have:=mem_rng.mp ho
 exact ⟨by exact lin [_,_] [] [35918049,135201] 537038881 553981507 rfl lo this.1,by exact lin [_,_,_,_,_] [] [1163317754831393,292527710577,1443037265,6422626] 31475130999074 4574381902156868 rfl hi sz E this.2.1⟩
theorem reach_of(I:WI ks rs f0 e t)(ws:List Int):∃ k fs,Bfs rs f0 k 0 (ws.foldl (fun fs w=>fs++newW fs w rs) []) fs∧FsI rs f0 ws fs∧(∀ w∈ws,∀ r∈rs,inR r w→r.1∈fs)∧(∀ r∈rs,r.1∈fs→∀ o∈r.2.os,at_ f0 (r.1+o)∈fsts rs→at_ f0 (r.1+o)∈fs) ∧
  (ws.foldl (fun fs w=>fs++newW fs w rs) []).length < 2 ^ 60:=by
 obtain ⟨F,_,h⟩:=roots_of (f0:=f0) I ws [] (fun _ h=>h) ⟨.nil,(fun _ h=>nomatch h),(fun _ _ _ _ _ h=>nomatch h)⟩
 obtain ⟨k,fs,b,F',⟨ex,e1⟩,c⟩:=bfs_of I rs.length 0 _ (Nat.sub_le _ _) F fun _ _ ⟨i,hi,_⟩=>absurd hi (Nat.not_lt_zero _)
 refine ⟨k,fs,b,F',fun w hw r hr hi=>by rw [e1]; exact List.mem_append_left _ (h w hw r hr hi),c,?_⟩
 have:=F.len I
 have:=I.n
 (rename_i q0; exact lin [] [_,_,_] [65556,4816964,1208925819614629174902870] 131093 379572473924 rfl q0 this pN60)
noncomputable def lostL(fs:List Int):List Rk→List Int
 | []=>[]
 | r :: l=>if r.1∈fs then lostL fs l else bsz r.2.wd :: lostL fs l
theorem lost_sum(fs:List Int)(l:List Rk):(lostL fs l).sum=lost (fun r=>decide (r.1∈fs)) l:=by
 induction l with
 | nil=>rfl
 | cons r l ih =>
  unfold lostL lost
  by_cases q:r.1∈fs
  ·rw [if_pos q,if_pos (decide_eq_true q)]; exact ih
  ·rw [if_neg q,if_neg (by rw [decide_eq_false q]; exact Bool.false_ne_true),List.sum_cons,ih]
theorem kept_pl(f:Int→Int)(fs:List Int)(l:List Rk):(keptL f fs l).all (pl 4)=true:=by
 induction l with
 | nil=>rfl
 | cons r l ih =>
  have:pl 4 (keptRow f r)=true:=by
   have hi:∀ l:List Int,(l.map U.int).all (pl 2)=true:=fun l=>by rw [List.all_map]; exact List.all_eq_true.mpr fun _ _=>rfl
   show (true&&(true&&(true&&((((wordsAt f r.1 r.2.wd).map U.int).all (pl 2))&&true))))=true
   rw [hi]; rfl
  unfold keptL
  split
  ·rw [List.all_cons,this]; exact ih
  ·exact ih
end
end
section
variable {W:Wd KH}{n:Nat}
noncomputable def lcE(K:Frag):Expr:=argE 0 (augE (stAt K 546 8))
noncomputable def oL(w:U)(rl bl:List U)(wl:U)(fs:List Int)(rw_:U)(kl:List U):List Cell:=[.fz w,.list rl,.list bl,.fz wl,.fz (uI fs),.fz rw_,.list kl]
section
variable {ks:List Ki}{rs:List Rk}{ms:List Md}{rows:List U}{f:Int→Int}{e t:Int}{rsl fw be fs:List Int}{p:Int}{u w:U}
theorem C_lost{S:List Cell}{rl bl kl:List U}{wl rw_:U}:∀ rs:List Rk,Cmp_ W 9 (scopeOf W.K 546) (.many ["where","kind"]) (lcE W.K) [("found",.o 4)] 7 (rs.map encRk) S (oL w rl bl wl fs rw_ kl) ((lostL fs rs).map U.int) S (oL w rl bl wl fs rw_ kl):=by
 intro rs
 induction rs with
 | nil=>exact .nil
 | cons r rs ih =>
  unfold lostL
  by_cases q:r.1∈fs
  ·rw [if_pos q]
   exact .no (lc:=[("found",.o 4),("where",i_ r.1),("kind",.u (encK r.2))]) (S1:=S) (O1:=oL w rl bl wl fs rw_ kl) rfl (ct_run [.is fs,.d false] kok gok (cs:=[_,_]) ⟨rfl⟩ ⟨decide_eq_false (fun h=>h q),rfl,True.intro⟩) rfl (Nat.le_refl _) ih
  ·rw [if_neg q]
   exact .yes (lc:=[("found",.o 4),("where",i_ r.1),("kind",.u (encK r.2))]) (S1:=S) (O1:=oL w rl bl wl fs rw_ kl) rfl (ct_run [.is fs,.d true,.r 1 (i_ (bsz r.2.wd)) [] S []] kok gok (cs:=[_,_,_]) ⟨rfl⟩ ⟨c_law_block,decide_eq_true q,rfl,True.intro⟩) rfl (Nat.le_refl _) ih
noncomputable def l9(u:U)(ks:List Ki)(rs:List Rk)(l:Int):List (Str × V):=[("script",.u u),("cells",.o 0),("hand",.s 0),("machine",.s 1),("kinds",.u (.lst (ks.map encK))),("records",uR rs),("roots",.o 1),("beside",.o 2),("found",.o 4),("due",.o 6),("freed",i_ l)]
theorem law_6{hu fl ld rg:List U}{pc:Int}(I:WI ks rs f e t)(hl:(gRoots f ms).length+fw.length+be.length≤1000):∃ fs:List Int,FsI rs f (gRoots f ms++fw++be) fs∧(∀ w∈gRoots f ms++fw++be,∀ r∈rs,inR r w→r.1∈fs)∧(∀ r∈rs,r.1∈fs→∀ o∈r.2.os,at_ f (r.1+o)∈fsts rs→at_ f (r.1+o)∈fs)∧∃ wl:U,
  ExB W 9 (scopeOf W.K 546) (lw W.K 6 3) ⟨l5 u ks rs,sA (.list hu) t f fl pc rg rows ld,[.fz w,.list ((gRoots f ms).map U.int++fw.map U.int),intsC be]⟩ .next
   ⟨l9 u ks rs (lost (fun r=>decide (r.1∈fs)) rs),sA (.list hu) t f fl pc rg rows ld,oL w ((gRoots f ms).map U.int++fw.map U.int) (be.map U.int) wl fs (.lst (rs.map encRk)) (keptL f fs rs)⟩ []:=by
 have rr:=I.rr
 obtain ⟨k,fs,b,F,h1,h2,h3⟩:=reach_of I (gRoots f ms++fw++be)
 have c1:=c_law_reached (W:=W) (h:=.list hu) (t:=t) (R:=heapA :: .list fl :: cpuA pc :: .list rg :: .list rows :: [.list ld,.list [],.list []]) (ws:=gRoots f ms++fw++be) rr.1 (by rw [List.length_append,List.length_append]; exact hl) h3 b
 have c2:=c_law_kept (W:=W) (h:=.list hu) (t:=t) (f:=f) (R:=heapA :: .list fl :: cpuA pc :: .list rg :: .list rows :: [.list ld,.list [],.list []]) (fs:=fs) I.sort rr.1 I.rk
 refine ⟨fs,F,h1,h2,.lst ((gRoots f ms).map U.int++fw.map U.int++be.map U.int),?_⟩
 have hz:((gRoots f ms).map U.int++fw.map U.int).length+(be.map U.int).length≤sizeLine:=by
  rw [List.length_append,List.length_map,List.length_map,List.length_map,sizeLine_eq]; exact lin [] [_,_,_] [140764151596720644] 2361183268098063999492 149058 rfl hl
 unfold uI at c1
 rw [List.map_append,List.map_append] at c1
 have C:=C_lost (W:=W) (fs:=fs) (w:=w) (S:=sA (.list hu) t f fl pc rg rows ld) (rl:=(gRoots f ms).map U.int++fw.map U.int) (bl:=be.map U.int) (wl:=.lst ((gRoots f ms).map U.int++fw.map U.int++be.map U.int)) (rw_:=.lst (rs.map encRk)) (kl:=keptL f fs rs) rs
 have hm:(rs.map encRk).length≤sizeLine:=by rw [List.length_map,sizeLine_eq]; exact lin [] [_] [65544213] 1099511635988 149058 rfl rr.1
 rw [← lost_sum]
 generalize (gRoots f ms).map U.int++fw.map U.int=rl at *
 generalize keptL f fs rs=kl at *
 generalize lostL fs rs=ll at *
 have x:=exb_run (W:=W) (n:=9) (osc:=scopeOf W.K 546) (x:=lw W.K 6 3) (fl:=.next) (rls:=[]) (a:=⟨l5 u ks rs,sA (.list hu) t f fl pc rg rows ld,[.fz w,.list rl,intsC be]⟩)
  (b:=⟨l9 u ks rs ll.sum,sA (.list hu) t f fl pc rg rows ld,[.fz w,.list rl,.list (be.map U.int),.fz (.lst (rl++be.map U.int)),.fz (uI fs),.fz (.lst (rs.map encRk)),.list kl,.list (ll.map U.int)]⟩)
  [.r 3 (.o 0) [intsC fs] (sA (.list hu) t f fl pc rg rows ld) [],.r 3 (.o 1) [.fz (.lst (rs.map encRk)),.list kl] (sA (.list hu) t f fl pc rg rows ld) [],.ev (.o 7) (sA (.list hu) t f fl pc rg rows ld) [.fz w,.list rl,.list (be.map U.int),.fz (.lst (rl++be.map U.int)),.fz (uI fs),.fz (.lst (rs.map encRk)),.list kl,.list (ll.map U.int)],.is ll] kok gok (cs:=[_,_,_,_,_]) ⟨rfl⟩
  ⟨rfl,comp_ok2 C rfl rfl rfl (sr_u (ev_run [] kok gok ⟨rfl⟩ True.intro) rfl) hm rfl rfl,c2,c1,hz,True.intro⟩
 exact x.less rfl (less_of [] rfl rfl rfl rfl)
end
end
section
variable {W:Wd KH}{n:Nat}
section
variable {ks:List Ki}{rs:List Rk}{ms:List Md}{rows:List U}{f:Int→Int}{e t:Int}{rsl fw be fs:List Int}{p:Int}{u w:U}
theorem jn_len(b s:Int)(L:List Bk):(jn b s L).length≤L.length+1:=by
 rcases L with _ | ⟨⟨b2,s2,_ | d2⟩,r⟩ <;> simp [jn]
theorem mg_len(kp:Rk→Bool)(e:Int)(l:List Rk):(mg kp e l).length≤l.length+1:=by
 induction l with
 | nil=>exact Nat.le_refl _
 | cons x l ih =>
  unfold mg
  split
  ·exact Nat.succ_le_succ ih
  ·exact Nat.le_trans (jn_len _ _ _) (Nat.succ_le_succ ih)
theorem law_9{hu:List U}{rl:List U}{wl rw_:U}(I:LI ks rs ms f e t rsl fw p)(F:FsI rs f (gRoots f ms++fw++be) fs)(hroot:∀ w∈gRoots f ms++fw++be,∀ r∈rs,inR r w→r.1∈fs)(hclo:∀ r∈rs,r.1∈fs→∀ o∈r.2.os,at_ f (r.1+o)∈fsts rs→at_ f (r.1+o)∈fs)(hb:be.length≤1):
  ∃ st:(Int→Int) × (Int→Int),SwP f (frees (mg (fun r=>decide (r.1∈fs)) e rs)) st ∧
  ExB W 9 (scopeOf W.K 546) (lw W.K 9 1) ⟨l9 u ks rs (lost (fun r=>decide (r.1∈fs)) rs),sA (.list hu) t f (flE e) ((rsl++[0]).headD 0) (regsP p) rows (ms.map uLd),oL w rl (be.map U.int) wl fs rw_ (keptL f fs rs)⟩ .next
   ⟨l9 u ks rs (lost (fun r=>decide (r.1∈fs)) rs),sA (.list hu) t st.1 (flU st.2) ((rsl++[0]).headD 0) (regsP p) rows (ms.map uLd),oL w rl (be.map U.int) wl fs rw_ (keptL f fs rs)⟩ [5]:=by
 obtain ⟨st,f3,P,C,e1,e2⟩:=collect_of (rg:=regsP p) (b:=.tup (be.map U.int)) I.wi I.md (by have:=I.t1; exact lin [_] [] [26222609] 71311377 149058 rfl this) (by have:=I.ml; exact lin [] [_] [204820] 3285013 149058 rfl this) I.fr I.rl rfl rfl rfl F hroot hclo
 have c1:=c_collect (W:=W) (hu:=hu) (t:=t) (fl:=flE e) (rows:=rows) (rg:=regsP p) (b:=.tup (be.map U.int)) rfl rfl rfl C
 rw [e1,e2] at c1
 have B:=mg_bv I.wi (fun r=>decide (r.1∈fs)) P
 have c2:=c_law_seen (W:=W) (h:=.list hu) (t:=t) (fl:=flU st.2) (rs:=rs) (R:=cpuA ((rsl++[0]).headD 0) :: .list (regsP p) :: .list rows :: [.list (ms.map uLd),.list [],.list []]) B.hb (B.seen (P.mz I.wi)) (by have:=mg_len (fun r=>decide (r.1∈fs)) e rs; have:=I.wi.n; (rename_i q0; exact lin [] [_,_] [2550415380,4816964] 58990612 25499203 rfl q0 this))
 rw [seen_mg I.wi P] at c2
 have hp:=kept_pl f fs rs
 have hz:(be.map U.int).length≤sizeLine:=by rw [List.length_map,sizeLine_eq]; exact lin [] [_] [73748] 1099511635988 149058 rfl hb
 refine ⟨st,P,?_⟩
 generalize keptL f fs rs=kl at *
 generalize lost (fun r=>decide (r.1∈fs)) rs=lo at *
 have x:=exb_run (W:=W) (n:=9) (osc:=scopeOf W.K 546) (x:=lw W.K 9 1) (fl:=.next) (rls:=[5]) (a:=⟨l9 u ks rs lo,sA (.list hu) t f (flE e) ((rsl++[0]).headD 0) (regsP p) rows (ms.map uLd),oL w rl (be.map U.int) wl fs rw_ kl⟩)
  (b:=⟨l9 u ks rs lo,sA (.list hu) t st.1 (flU st.2) ((rsl++[0]).headD 0) (regsP p) rows (ms.map uLd),[.fz w,.list rl,.list (be.map U.int),.fz wl,.fz (uI fs),.fz rw_,.list kl,.list kl]⟩)
  [.r 8 (i_ lo) [] (sA (.list hu) t st.1 (flU st.2) ((rsl++[0]).headD 0) (regsP p) rows (ms.map uLd)) [5],.d false,.r 6 (.o 0) [.list kl] (sA (.list hu) t st.1 (flU st.2) ((rsl++[0]).headD 0) (regsP p) rows (ms.map uLd)) [],.d true,.d false] kok gok (cs:=[_,_,_,_,_,_]) ⟨rfl⟩
  ⟨rfl,⟨rfl,hp⟩,c2,decide_eq_false (fun h=>h rfl),c1,hz,True.intro⟩
 exact x.less rfl (less_of [] rfl rfl rfl rfl)
end
end
section
variable {W:Wd KH}{n:Nat}
section
variable {ks:List Ki}{rs:List Rk}{ms:List Md}{rows:List U}{f:Int→Int}{e t:Int}{rsl fw be fs:List Int}{p:Int}{u w:U}
noncomputable def l11(u:U)(ks:List Ki)(rs:List Rk)(l v:Int)(kd:Ki):List (Str × V):=l9 u ks rs l++[(("variable":Str),i_ v),(("kind":Str),V.u (encK kd))]
theorem law_10{fl rg ld:List U}{pc lo:Int}{rl bl kl:List U}{wl rw_:U}(hd:Hd)(k0:0 < ks.length)(k3:ks.length≤3)(t0:64≤t)(t1:t≤400)(t4:t%4=0):∃ (hd':Hd) (kd:Ki),kd∈ks ∧
  ExB W 9 (scopeOf W.K 546) (lw W.K 10 2) ⟨l9 u ks rs lo,sA hd.c t f fl pc rg rows ld,oL w rl bl wl fs rw_ kl⟩ .next ⟨l11 u ks rs lo t kd,sA (Hd.c hd') (t+16) f fl pc rg rows ld,oL w rl bl wl fs rw_ kl⟩ []:=by
 obtain ⟨d,hd1,c1,d0,d1⟩:=pick (W:=W) hd (R:=(sA hd.c (t+16) f fl pc rg rows ld).tail) (k:=((ks.map encK).length:Nat)) (by rw [List.length_map]; exact lin [] [_] [4133] 102434 149058 rfl k0) (by rw [List.length_map]; exact lin [_] [_] [204820,75557863725914323427347] 24626 566498883 rfl k3 pI60)
 rw [List.length_map] at d1
 have hk:ks[d.toNat]?=some ks[d.toNat]:=List.getElem?_eq_getElem (by omega)
 refine ⟨hd1,ks[d.toNat],List.getElem_mem _,?_⟩
 generalize ks[d.toNat]=kd at *
 have hk2:(ks.map encK)[d.toNat]?=some (encK kd):=by rw [List.getElem?_map,hk]; rfl
 have c0:CallTo W 2 413 [.s 1,i_ 16] (sA hd.c t f fl pc rg rows ld) (i_ t) [] (sA hd.c (t+16) f fl pc rg rows ld) []:=c_add_data (by decide) (by show t+16≤1088; exact lin [_] [] [26222609] 37389854613825 149058 rfl t1)
 exact exb_run [.r 2 (i_ t) [] (sA hd.c (t+16) f fl pc rg rows ld) [],.r 1 (i_ d) [] (sA (Hd.c hd1) (t+16) f fl pc rg rows ld) [],.a (encK kd)] kok gok (cs:=[_,_,_,_]) ⟨rfl⟩ ⟨⟨d0,by exact lin [_,_] [_] [204820,49170,4835703278458516698923075] 65554 9175664971844 rfl k3 d1 pI63,hk2⟩,c1,by rw [List.length_map]; exact lin [] [_,_] [204820,4835703278458516698923078] 65557 566498883 rfl k3 pN63,c0,True.intro⟩
end
end
section
theorem seenL_app{f:Int→Int}(b:List Bk)(a:List Bk):seenL f (a++b)=seenL f a++seenL f b:=by
 induction a with
 | nil=>rfl
 | cons p a ih =>
  obtain ⟨x,s,_ | d⟩:=p
  ·exact ih
  ·exact congrArg (List.cons _) ih
theorem seenL_rest{f:Int→Int}{c s q:Int}{post:List Bk}:seenL f (rest_ c s q++post)=seenL f post:=by
 unfold rest_
 split <;> rfl
theorem seenL_cong{f f':Int→Int}{L:List Bk}(h:∀ b s d,(b,s,some d)∈L→seenRow f' b s d=seenRow f b s d):seenL f' L=seenL f L:=by
 induction L with
 | nil=>rfl
 | cons p L ih =>
  have ih:=ih fun b s d m=>h b s d (.tail _ m)
  obtain ⟨x,s,_ | d⟩:=p
  ·exact ih
  ·show seenRow f' x s d :: seenL f' L=seenRow f x s d :: seenL f L
   rw [h _ _ _ (.head _),ih]
theorem seen_pl{f:Int→Int}(L:List Bk):(seenL f L).all (pl 4)=true:=by
 induction L with
 | nil=>rfl
 | cons p L ih =>
  obtain ⟨x,s,_ | d⟩:=p
  ·exact ih
  ·have:pl 4 (seenRow f x s d)=true:=by
    have hi:∀ l:List Int,(l.map U.int).all (pl 2)=true:=fun l=>by rw [List.all_map]; exact List.all_eq_true.mpr fun _ _=>rfl
    show (true&&(true&&(true&&((((wordsAt f (x+8) (at_ f d)).map U.int).all (pl 2))&&true))))=true
    rw [hi]; rfl
   show (pl 4 (seenRow f x s d)&&(seenL f L).all (pl 4))=true
   rw [this,ih]; rfl
noncomputable def usedK:List Bk→List Int
 | []=>[]
 | (b,_,d) :: r=>match d with
  | some _=>b :: usedK r
  | none=>usedK r
theorem seen_fk{f:Int→Int}(L:List Bk):(seenL f L).map fk=(usedK L).map some:=by
 induction L with
 | nil=>rfl
 | cons p L ih =>
  obtain ⟨x,s,_ | d⟩:=p
  ·exact ih
  ·exact congrArg (List.cons _) ih
theorem usedK_mem{x:Int}{L:List Bk}(h:x∈usedK L):∃ p∈L,p.1=x:=by
 induction L with
 | nil=>cases h
 | cons p L ih =>
  have up:x∈usedK L→∃ q∈p :: L,q.1=x:=fun h=>let ⟨q,a,b⟩:=ih h; ⟨q,.tail _ a,b⟩
  obtain ⟨b,s,_ | d⟩:=p
  ·exact up h
  ·rcases List.mem_cons.mp h with z | z
   ·exact ⟨_,.head _,z.symm⟩
   ·exact up z
theorem Ctg.asc{L:List Bk}:∀{a:Int},Ctg a L→a%16=0→(usedK L).Pairwise (· < ·):=by
 induction L with
 | nil=>exact fun _ _=>.nil
 | cons p L ih =>
  intro a c ha
  obtain ⟨b,s,d⟩:=p
  obtain ⟨g1,g2,g3,g4⟩:=c
  have i:=ih g4 (by exact Int.le_antisymm (lin [_,_,_,_,_,_,_,_] [] [8211,98371,431283805790723,22817340547342931,6013735140609852383859,34046050] 491617 77985824526868493298273709342480211784814485341025285 rfl ha g3 (dmA _ 16) (dmA _ 16) (dmA _ 16) (dmC _ 16 rfl)) (lin [_] [] [4129] 4129 149058 rfl (dmB _ 16 rfl)))
  cases d with
  | none=>exact i
  | some d =>
   refine List.pairwise_cons.mpr ⟨fun x hx=>?_,i⟩
   obtain ⟨p,hp,rfl⟩:=usedK_mem hx
   have:=(g4.mem (by exact Int.le_antisymm (lin [_,_,_,_,_,_,_,_] [] [8211,98371,431283805790723,22817340547342931,6013735140609852383859,34046050] 491617 77985824526868493298273709342480211784814485341025285 rfl ha g3 (dmA _ 16) (dmA _ 16) (dmA _ 16) (dmC _ 16 rfl)) (lin [_] [] [4129] 4129 149058 rfl (dmB _ 16 rfl))) p hp).1
   exact lin [_,_,_,_] [] [65555,17305729,105293947201] 196626 26664772849732 rfl g1 g2 this
theorem words_zero{f:Int→Int}{x w:Int}(h0:0≤w)(h4:w%4=0)(h:∀ o,o%4=0→0≤o→o < w→at_ f (x+o)=0):(wordsAt f x w).map U.int=(List.replicate (w / 4).toNat [U.int 0]).flatten:=by
 have e1:∀ k:Nat,(List.replicate k [U.int 0]).flatten=List.replicate k (U.int 0):=fun k=>by
  induction k with
  | zero=>rfl
  | succ k ih=>rw [List.replicate_succ,List.flatten_cons,ih,List.replicate_succ]; rfl
 have e2:(Builtin.Range.rangeSize 0 w 4).toNat=(w / 4).toNat:=by
  unfold Builtin.Range.rangeSize
  rw [if_pos (by decide)]
  split <;> omega
 rw [e1]
 refine List.eq_replicate_iff.mpr ⟨?_,fun u hu=>?_⟩
 ·unfold wordsAt rngI
  rw [List.length_map,List.length_map,List.length_map,List.length_range,e2]
 ·obtain ⟨y,hy,rfl⟩:=List.mem_map.mp hu
  obtain ⟨o,ho,rfl⟩:=List.mem_map.mp hy
  have:=mem_rng.mp ho
  rw [h o (by exact Int.le_antisymm (lin [_,_,_,_,_] [] [8211,216268508580356563,4647704605598275,8781922] 393313 49128355079546559906686749562307281494277 rfl this.2.2 (dmA _ 4) (dmA _ 4) (dmC _ 4 rfl)) (lin [_] [] [4129] 4129 149058 rfl (dmB _ 4 rfl))) this.1 this.2.1]
theorem made{f f':Int→Int}{pre post:List Bk}{c q s d v x:Int}(B:BV f (pre++(c,q,none) :: post))(M:Mz f (pre++(c,q,none) :: post))(A:AlP f f' c s d q)(hs:bsz (at_ f d)=s)(hw:0≤at_ f d)(sq:s≤q)
  (hd0:0≤d) (hd2:d%4=0) (dv:d < v) (v1:v < 1088) (v4:v%4=0) (hu:∀ b s d,(b,s,some d)∈pre++(c,q,none) :: post→d < v) (hn:(seenL f (pre++(c,q,none) :: post)).length≤10) :
  BV (put f' v x) (pre++(c,s,some d) :: (rest_ c s q++post))∧Mz (put f' v x) (pre++(c,s,some d) :: (rest_ c s q++post))∧(∀ a,a%4=0→c+4≤a→a < c+s→at_ (put f' v x) a=0)∧at_ (put f' v x) d=at_ f d ∧
  SortC (seenL f (pre++(c,q,none) :: post)++[seenRow (put f' v x) c s d]) (seenL (put f' v x) (pre++(c,s,some d) :: (rest_ c s q++post))):=by
 have s8:at_ f d+8≤s∧16≤s∧s%16=0:=by rw [← hs]; unfold bsz; exact ⟨lin [_,_,_] [] [753135399730582235492473381363,8486978] 1127532397240689 294065731 rfl (dmA _ 16) (dmC _ 16 rfl),⟨lin [_,_,_] [] [4129,1506268390398542629257681183299,16973906] 584165363841 24801719548336807152645 rfl hw (dmA _ 16) (dmC _ 16 rfl),Int.le_antisymm (lin [_,_,_] [] [9512020502672581107,8486978] 98369 24855595209986787588867953669 rfl (dmA _ 16) (dmC _ 16 rfl)) (lin [_] [] [4129] 4129 149058 rfl (dmB _ 16 rfl))⟩⟩
 have mc:=B.ct.mem (by decide) (c,q,none) (List.mem_append_right _ (.head _))
 dsimp only at mc
 have far:∀ a,a%4=0→a≠v→at_ (put f' v x) a=at_ f' a:=fun a h4 h=>at_put_n v4 h4 h
 have out:∀ a,a%4=0→a≠v→(a < c∨c+q≤a)→at_ (put f' v x) a=at_ f a:=fun a h4 h h1=>(far a h4 h).trans (A.out a h4 h1)
 have ed:at_ (put f' v x) d=at_ f d:=out d hd2 (by exact fun z0=>lin [_,_] [] [65554,65555] 0 8655939 rfl dv z0) (.inl (by exact lin [_,_,_] [] [65554,570523714,1109397729] 131090 18283370563 rfl dv v1 mc.1))
 have zero:∀ a,a%4=0→c+4≤a→a < c+s→at_ (put f' v x) a=0:=fun a h4 h1 h2=>(far a h4 (by exact fun z0=>lin [_,_,_] [] [71311378,572526817,141935386961,65619] 0 35731544131 rfl v1 mc.1 h1 z0)).trans (A.zero a h4 h1 h2)
 have B1:=B.al A hs s8.2.1 sq hd0 (by exact lin [_,_] [] [65554,570523714] 71311378 25499203 rfl dv v1) hd2
 have lt:=B.ct.lt (by decide)
 -- the other used blocks
 have oth:∀ b z d',(b,z,some d')∈pre++post→(b,z,some d')∈pre++(c,q,none) :: post:=fun b z d' h=>by
  rcases List.mem_append.mp h with w | w
  ·exact List.mem_append_left _ w
  ·exact List.mem_append_right _ (.tail _ w)
 have mem2:∀ b z d',(b,z,some d')∈pre++(c,s,some d) :: (rest_ c s q++post)→(b,z,some d')=(c,s,some d)∨(b,z,some d')∈pre++post:=fun b z d' h=>by
  rcases mem_mid h with w | w
  ·exact .inl w
  ·rcases List.mem_append.mp w with w | w
   ·exact .inr (List.mem_append_left _ w)
   ·rcases List.mem_append.mp w with w | w
    ·unfold rest_ at w
     split at w
     ·exact nomatch congrArg (fun b:Bk=>b.2.2) (List.mem_singleton.mp w)
     ·cases w
    ·exact .inr (List.mem_append_right _ w)
 have keep:∀ b z d',(b,z,some d')∈pre++post→at_ (put f' v x) d'=at_ f d'∧∀ a,a%4=0→b≤a→a < b+z→at_ (put f' v x) a=at_ f a:=fun b z d' h=>by
  have m:=B.ct.mem (by decide) _ (oth _ _ _ h)
  have l:=lt _ h
  have u:=B.us _ _ _ (oth _ _ _ h)
  have:=hu _ _ _ (oth _ _ _ h)
  dsimp only at m l
  exact ⟨out d' u.2.1 (by exact fun z0=>lin [_,_] [] [65554,65555] 0 8655939 rfl this z0) (.inl (by exact lin [_,_,_] [] [71311378,572526817,65618] 1114194 52898961475 rfl v1 mc.1 this)),fun a h4 h1 h2=>out a h4 (by exact fun z0=>lin [_,_,_] [] [71311378,572526817,1081409,65619] 0 35731544131 rfl v1 m.1 h1 z0) (by exact (Classical.em _).elim Or.inl fun z0=>Or.inr (l.elim (fun z1=>lin [_,_,_,_,_] [] [4429463570,196632,105293947201] 8791433569 21370435 rfl h2 z0 z1) (fun z1=>lin [_,_,_,_] [] [65553,6576841041] 75296317777 21370435 rfl h1 z1)))⟩
 have cong:∀ b z d',(b,z,some d')∈pre++post→seenRow (put f' v x) b z d'=seenRow f b z d':=fun b z d' h=>by
  obtain ⟨k1,k2⟩:=keep _ _ _ h
  have m:=B.ct.mem (by decide) _ (oth _ _ _ h)
  have z8:=M _ _ _ (oth _ _ _ h)
  dsimp only at m
  unfold seenRow
  rw [k1,wordsAt_cong fun o h4 h0 h1=>k2 _ (by exact Int.le_antisymm (lin [_,_,_,_,_,_,_,_] [] [8211,98371,431283805790723,5704335279923763,391824240344571334728753747,8880226] 491617 77985824526868493298273709341573517420103513459994885 rfl m.2.1 h4 (dmA _ 16) (dmA _ 4) (dmA _ 4) (dmC _ 4 rfl)) (lin [_] [] [4129] 4129 149058 rfl (dmB _ 4 rfl))) (by exact lin [_,_] [] [4129] 288076621578305 149058 rfl h0) (by exact lin [_,_,_,_] [] [18270429489,65618] 1291367822798548083314 21370435 rfl z8.2.2 h1)]
 have B2:BV (put f' v x) (pre++(c,s,some d) :: (rest_ c s q++post)):=⟨B1.ct,fun p hp=>by
   have m:=B1.ct.mem (by decide) _ (frees_mem.mp hp)
   dsimp only at m
   rw [far _ (by exact Int.le_antisymm (lin [_,_,_,_,_] [] [8211,145410782536179,4647704605598275,8781922] 393313 49128355079546559906686749562307281494277 rfl m.2.1 (dmA _ 16) (dmA _ 4) (dmC _ 4 rfl)) (lin [_] [] [4129] 4129 149058 rfl (dmB _ 4 rfl))) (by exact fun z0=>lin [_,_] [] [71311378,572526817,32835] 0 553981507 rfl v1 m.1 z0)]; exact B1.fr p hp,fun b z d' h=>by
   have m:=B1.ct.mem (by decide) _ h
   have u:=B1.us _ _ _ h
   dsimp only at m
   have dv':d' < v:=by
    rcases mem2 _ _ _ h with w | w
    ·cases w; exact dv
    ·exact hu _ _ _ (oth _ _ _ w)
   rw [far b (by exact Int.le_antisymm (lin [_,_,_,_,_] [] [8211,145410782536179,4647704605598275,8781922] 393313 49128355079546559906686749562307281494277 rfl m.2.1 (dmA _ 16) (dmA _ 4) (dmC _ 4 rfl)) (lin [_] [] [4129] 4129 149058 rfl (dmB _ 4 rfl))) (by exact fun z0=>lin [_,_] [] [71311378,572526817,32835] 0 553981507 rfl v1 m.1 z0),far d' u.2.1 (by exact fun z0=>lin [_,_] [] [65554,65555] 0 8655939 rfl dv' z0)]; exact u⟩
 refine ⟨B2,fun b z d' h=>?_,zero,ed,?_⟩
 ·rcases mem2 _ _ _ h with w | w
  ·cases w
   rw [ed]; exact ⟨zero _ (by exact Int.le_antisymm (lin [_,_,_,_,_] [] [8211,145410782536179,617977892523270054467,8781922] 393313 49128355079546559906686749562307281494277 rfl mc.2.1 (dmA _ 16) (dmA _ 4) (dmC _ 4 rfl)) (lin [_] [] [4129] 4129 149058 rfl (dmB _ 4 rfl))) (by exact lin [_] [] [] 145146825974049 449 rfl ) (by exact lin [_,_] [] [528513] 141034042564946 149058 rfl s8.2.1),hw,s8.1⟩
  ·obtain ⟨k1,k2⟩:=keep _ _ _ w
   have m:=B.ct.mem (by decide) _ (oth _ _ _ w)
   have z8:=M _ _ _ (oth _ _ _ w)
   dsimp only at m
   rw [k1,k2 _ (by exact Int.le_antisymm (lin [_,_,_,_,_] [] [8211,145410782536179,617977892523270054467,8781922] 393313 49128355079546559906686749562307281494277 rfl m.2.1 (dmA _ 16) (dmA _ 4) (dmC _ 4 rfl)) (lin [_] [] [4129] 4129 149058 rfl (dmB _ 4 rfl))) (by exact lin [_] [] [] 1107378193 449 rfl ) (by exact lin [_,_] [] [528513] 141034042564946 149058 rfl m.2.2.1)]; exact z8
 ·have e1:seenL f (pre++(c,q,none) :: post)=seenL f pre++seenL f post:=seenL_app _ _
  have e2:seenL (put f' v x) (pre++(c,s,some d) :: (rest_ c s q++post))=seenL f pre++seenRow (put f' v x) c s d :: seenL f post:=by
   rw [seenL_app,seenL_cong fun b z d' h=>cong b z d' (List.mem_append_left _ h)]
   show _++seenRow _ c s d :: seenL _ (rest_ c s q++post)=_
   rw [seenL_rest,seenL_cong fun b z d' h=>cong b z d' (List.mem_append_right _ h)]
  have k:=seen_fk (f:=put f' v x) (pre++(c,s,some d) :: (rest_ c s q++post))
  rw [e1] at hn ⊢
  rw [e2] at k ⊢
  refine .inr ⟨_,_,_,_,rfl,rfl,?_,k,B1.ct.asc (by decide)⟩
  rw [List.length_append,List.length_singleton]; exact lin [] [_] [663572] 26189275397 149058 rfl hn
end
section
variable {W:Wd KH}{n:Nat}
noncomputable def mxE(K:Frag):Expr:=match augE (stAt K 546 14) with
 | .Call _ (.BinOp _ _ e _ :: _) _ _=>e
 | _=>default
section
variable {ks:List Ki}{rs:List Rk}{ms:List Md}{rows:List U}{f:Int→Int}{e t lo v s m c:Int}{rsl fw be fs:List Int}{p:Int}{u w wl rw_:U}{rl bl du:List U}{kd:Ki}
noncomputable def l12(u:U)(ks:List Ki)(rs:List Rk)(lo v:Int)(kd:Ki):List (Str × V):=[("script",.u u),("cells",.o 0),("hand",.s 0),("machine",.s 1),("kinds",.u (.lst (ks.map encK))),("records",uR rs),("roots",.o 1),("beside",.o 2),("found",.o 4),("freed",i_ lo),("variable",i_ v),("kind",.u (encK kd)),("due",.o 6)]
noncomputable def l14(u:U)(ks:List Ki)(rs:List Rk)(lo v:Int)(kd:Ki)(s m:Int):List (Str × V):=[("script",.u u),("cells",.o 0),("hand",.s 0),("machine",.s 1),("kinds",.u (.lst (ks.map encK))),("records",uR rs),("roots",.o 1),("beside",.o 2),("found",.o 4),("freed",i_ lo),("variable",i_ v),("kind",.u (encK kd)),("due",.o 6),("need",i_ s),("most",i_ m)]
theorem C_free{S:List Cell}{bb:U}:∀ bs:List Bk,Cmp_ W 9 (scopeOf W.K 546) (.many ["block","size_of","tag"]) (mxE W.K) [] 9 (bs.map encB) S (oL w rl bl wl fs rw_ du++[Cell.list [U.int 0],Cell.fz bb]) (((frees bs).map Prod.snd).map U.int) S (oL w rl bl wl fs rw_ du++[Cell.list [U.int 0],Cell.fz bb]):=by
 intro bs
 induction bs with
 | nil=>exact .nil
 | cons p bs ih =>
  obtain ⟨b,s,d⟩:=p
  cases d with
  | none=>exact .yes (lc:=[("block",i_ b),("size_of",i_ s),("tag",.u .none)]) (S1:=S) (O1:=oL w rl bl wl fs rw_ du++[Cell.list [U.int 0],Cell.fz bb]) rfl (ct_run [.d true] kok gok (cs:=[_]) ⟨rfl⟩ ⟨rfl,True.intro⟩) rfl (Nat.le_refl _) ih
  | some d=>exact .no (lc:=[("block",i_ b),("size_of",i_ s),("tag",i_ d)]) (S1:=S) (O1:=oL w rl bl wl fs rw_ du++[Cell.list [U.int 0],Cell.fz bb]) rfl (ct_run [.d false] kok gok (cs:=[_]) ⟨rfl⟩ ⟨rfl,True.intro⟩) rfl (Nat.le_refl _) ih
theorem frees_len(bs:List Bk):(frees bs).length≤bs.length:=by
 induction bs with
 | nil=>exact Nat.le_refl _
 | cons x L ih =>
  obtain ⟨a,b,_ | d⟩:=x
  ·exact Nat.succ_le_succ ih
  ·exact Nat.le_succ_of_le ih
theorem law_13{h:Cell}{fl ld rg:List U}{pc:Int}{bs:List Bk}(B:BV f bs)(hb:bs.length≤900)(hd:okA kd.w)(hm:m∈(0 :: (frees bs).map Prod.snd))(hx:∀ x∈(0 :: (frees bs).map Prod.snd),x≤m):
  ExB W 9 (scopeOf W.K 546) (lw W.K 13 2) ⟨l12 u ks rs lo v kd,sA h t f fl pc rg rows ld,oL w rl bl wl fs rw_ du⟩ .next ⟨l14 u ks rs lo v kd (bsz (at_ f kd.w)) m,sA h t f fl pc rg rows ld,oL w rl bl wl fs rw_ du⟩ []:=by
 have C:=C_free (W:=W) (S:=sA h t f fl pc rg rows ld) (w:=w) (rl:=rl) (bl:=bl) (wl:=wl) (fs:=fs) (rw_:=rw_) (du:=du) (bb:=.lst (bs.map encB)) bs
 have fl1:=frees_len bs
 have hm1:(bs.map encB).length≤sizeLine:=by rw [List.length_map,sizeLine_eq]; exact lin [] [_] [58990612] 1099511635988 149058 rfl hb
 have hm2:[U.int 0].length+(((frees bs).map Prod.snd).map U.int).length≤sizeLine:=by rw [List.length_map,List.length_map,sizeLine_eq]; show 1+_≤_; exact lin [] [_,_] [58990612,32836] 288230379448574260 21370435 rfl hb fl1
 generalize (frees bs).map Prod.snd=zs at *
 have cb:CallTo W 5 154 [.s 4] (sA h t f fl pc rg rows ld) (.o 0) [.list (bs.map encB)] (sA h t f fl pc rg rows ld) []:=c_blocks (by rw [sizeLine_eq]; exact lin [] [_] [58990612] 1099511635988 149058 rfl hb) B.hb
 have x:=exb_run (W:=W) (n:=9) (osc:=scopeOf W.K 546) (x:=lw W.K 13 2) (fl:=.next) (rls:=[]) (a:=⟨l12 u ks rs lo v kd,sA h t f fl pc rg rows ld,oL w rl bl wl fs rw_ du⟩)
  (b:=⟨l14 u ks rs lo v kd (bsz (at_ f kd.w)) m,sA h t f fl pc rg rows ld,oL w rl bl wl fs rw_ du++[Cell.list [U.int 0],Cell.fz (U.lst (bs.map encB)),Cell.list (zs.map U.int),Cell.list (U.int 0 :: zs.map U.int)]⟩)
  [.r 2 (i_ (at_ f kd.w)) [] (sA h t f fl pc rg rows ld) [],.r 1 (i_ (bsz (at_ f kd.w))) [] (sA h t f fl pc rg rows ld) [],.ev (.o 9) (sA h t f fl pc rg rows ld) (oL w rl bl wl fs rw_ du++[Cell.list [U.int 0],Cell.fz (U.lst (bs.map encB)),Cell.list (zs.map U.int)]),.is (m :: 0 :: zs)] kok gok (cs:=[_,_,_,_,_]) ⟨rfl⟩
  ⟨⟨rfl,hm,hx⟩,hm2,comp_ok2 C rfl rfl rfl (sr_o (ev_run [.r 5 (.o 0) [.list (bs.map encB)] (sA h t f fl pc rg rows ld) []] kok gok (cs:=[_]) ⟨rfl⟩ ⟨cb,True.intro⟩) rfl rfl) hm1 rfl rfl,c_law_block,c_word hd.1 hd.2,True.intro⟩
 exact x.less rfl (less_of [] rfl rfl rfl rfl)
end
end
section
variable {W:Wd KH}{n:Nat}
noncomputable def whE(K:Frag):Expr:=match stAt K 546 18 with
 | .If (.BoolOp _ (_ :: .Compare e _ _ _ :: _) _) _ _ _=>e
 | _=>default
section
variable {ks:List Ki}{rs:List Rk}{ms:List Md}{rows:List U}{f f':Int→Int}{e t lo v s m c:Int}{rsl fw be fs:List Int}{p:Int}{u w wl rw_:U}{rl bl du:List U}{kd:Ki}{hu fl fl' ld rg:List U}{pc:Int}
noncomputable def l16(u:U)(ks:List Ki)(rs:List Rk)(lo v:Int)(kd:Ki)(s m c:Int):List (Str × V):=[("script",.u u),("cells",.o 0),("hand",.s 0),("machine",.s 1),("kinds",.u (.lst (ks.map encK))),("records",uR rs),("roots",.o 1),("beside",.o 2),("found",.o 4),("freed",i_ lo),("variable",i_ v),("kind",.u (encK kd)),("due",.o 6),("need",i_ s),("most",i_ m),("told",.u .none),("where",i_ c)]
theorem law_15(hA:CallTo W 5 147 [.s 4,i_ kd.w] (sA (.list hu) t f fl pc rg rows ld) (i_ c) [] (sA (.list hu) t f' fl' pc rg rows ld) [])(h0:0 < c)(h1:c < 4294967296)(hv:okA v):
  ExB W 9 (scopeOf W.K 546) (lw W.K 15 2) ⟨l14 u ks rs lo v kd s m,sA (.list hu) t f fl pc rg rows ld,oL w rl bl wl fs rw_ du⟩ .next ⟨l16 u ks rs lo v kd s m c,sA (.list hu) t (put f' v c) fl' pc rg rows ld,oL w rl bl wl fs rw_ du⟩ []:=by
 have c1:=c_make_record (W:=W) (v:=v) hA (by exact fun z0=>lin [_] [] [4130,8211] 0 149058 rfl h0 z0) hv
 have c2:CallTo W 2 349 [.s 2,i_ v] (sA (.list hu) t (put f' v c) fl' pc rg rows ld) (i_ (at_ (put f' v c) v)) [] (sA (.list hu) t (put f' v c) fl' pc rg rows ld) []:=c_word hv.1 hv.2
 rw [at_put_i (by exact lin [_] [] [4130] 4129 149058 rfl h0) h1] at c2
 exact exb_run [.r 9 (.u .none) [] (sA (.list hu) t (put f' v c) fl' pc rg rows ld) [],.r 2 (i_ c) [] (sA (.list hu) t (put f' v c) fl' pc rg rows ld) []] kok gok (cs:=[_,_]) ⟨rfl⟩ ⟨c2,c1,True.intro⟩
theorem C_where{h:Cell}:∀ us:List Int,(∀ o∈us,okA (c+o))→Cmp_ W 9 (scopeOf W.K 546) (.one "spot") (whE W.K) [("machine",.s 1),("where",i_ c)] 7 (us.map U.int) (sA h t f fl pc rg rows ld) (oL w rl bl wl fs rw_ du) ((us.map fun o=>at_ f (c+o)).map U.int) (sA h t f fl pc rg rows ld) (oL w rl bl wl fs rw_ du):=by
 intro us
 induction us with
 | nil=>exact fun _=>.nil
 | cons o us ih =>
  intro ho
  have ho0:=ho o (.head _)
  have c1:CallTo W 2 349 [.s 2,i_ (c+o)] (sA h t f fl pc rg rows ld) (i_ (at_ f (c+o))) [] (sA h t f fl pc rg rows ld) []:=c_word ho0.1 ho0.2
  exact .yes (lc:=[("machine",.s 1),("where",i_ c),("spot",i_ o)]) (S1:=sA h t f fl pc rg rows ld) (O1:=oL w rl bl wl fs rw_ du) rfl (ct_run [.r 2 (i_ (at_ f (c+o))) [] (sA h t f fl pc rg rows ld) []] kok gok (cs:=[_]) ⟨rfl⟩ ⟨c1,True.intro⟩) rfl (Nat.le_refl _) (ih fun o h=>ho o (.tail _ h))
theorem law_17{h:Cell}(hn:¬ m < s)(s0:16≤s)(s1:s≤512)(s4:s%16=0)(c0:0≤c)(c1:c+s < 3600)(hz:∀ o,o%4=0→0≤o→o < s-8→at_ f (c+o)=0):
  ExB W 9 (scopeOf W.K 546) (lw W.K 17 2) ⟨l16 u ks rs lo v kd s m c,sA h t f fl pc rg rows ld,oL w rl bl wl fs rw_ du⟩ .next ⟨l16 u ks rs lo v kd s m c,sA h t f fl pc rg rows ld,oL w rl bl wl fs rw_ du⟩ []:=by
 have C:=C_where (W:=W) (h:=h) (t:=t) (f:=f) (fl:=fl) (pc:=pc) (rg:=rg) (rows:=rows) (ld:=ld) (w:=w) (rl:=rl) (bl:=bl) (wl:=wl) (fs:=fs) (rw_:=rw_) (du:=du) (c:=c) (rngI 0 (s-8) 4) fun o ho=>by
  have:=mem_rng.mp ho
  exact ⟨by exact lin [_,_] [] [4129,135201] 537038881 553981507 rfl c0 this.1,by exact lin [_,_,_] [] [7731343827202,281325011026] 15737565520146 25499203 rfl c1 this.2.1⟩
 have e:=words_zero (f:=f) (x:=c) (w:=s-8) (by exact lin [_] [] [528513] 4362260513 149058 rfl s0) (by exact Int.le_antisymm (lin [_,_,_,_,_] [] [8211,145410782536179,1208273984356952416835,8781922] 393313 49128355079546559906686749562307281494277 rfl s4 (dmA _ 16) (dmA _ 4) (dmC _ 4 rfl)) (lin [_] [] [4129] 4129 149058 rfl (dmB _ 4 rfl))) hz
 unfold wordsAt at e
 have hs:Builtin.Range.small 0 (s-8) 4=true:=small_of (by decide) (by exact ⟨lin [_,_] [] [528513,604462909807314587451459] 139592487026 566498883 rfl s0 pI60,lin [_,_] [] [33562641,604462909807314587451459] 18270433586 566498883 rfl s1 pI60⟩) (by decide)
 have hr:((rngI 0 (s-8) 4).map U.int)=rangeU 0 (s-8) 4:=(rangeU_eq _ _ _).symm
 have hm:=rng_len (a:=0) (b:=s-8) (by decide) (by exact lin [_] [] [33562641] 17183107232050 149058 rfl s1)
 have hp:((List.replicate ((s-8) / 4).toNat [U.int 0]).flatten).all (pl 4)=true:=by
  rw [← e,List.all_map]; exact List.all_eq_true.mpr fun _ _=>rfl
 generalize ((rngI 0 (s-8) 4).map fun o=>at_ f (c+o)).map U.int=wz at *
 generalize (rngI 0 (s-8) 4).map U.int=us at *
 have x:=exb_run (W:=W) (n:=9) (osc:=scopeOf W.K 546) (x:=lw W.K 17 2) (fl:=.next) (rls:=[]) (a:=⟨l16 u ks rs lo v kd s m c,sA h t f fl pc rg rows ld,oL w rl bl wl fs rw_ du⟩)
  (b:=⟨l16 u ks rs lo v kd s m c,sA h t f fl pc rg rows ld,oL w rl bl wl fs rw_ du++[Cell.list wz,Cell.list [U.int 0],Cell.list (List.replicate ((s-8) / 4).toNat [U.int 0]).flatten]⟩)
  [.d false,.d false,.ev (.o 7) (sA h t f fl pc rg rows ld) (oL w rl bl wl fs rw_ du++[Cell.list wz]),.d true,.d false] kok gok (cs:=[_,_,_,_,_,_,_]) ⟨rfl⟩
  ⟨rfl,⟨e,e▸hp⟩,⟨by exact lin [_,_,_] [] [528513,18735784858885890595,4390994] 135201 36353682722884 rfl s0 (dmA _ 4) (dmC _ 4 rfl),by exact lin [_,_,_,_] [] [33562641,18735784858885890595,266273,1099511857235] 1605698 2322620353107012 rfl s1 (dmA _ 4) (dmB _ 4 rfl) pI20,by decide⟩,⟨by decide,by decide⟩,comp_ok2 C rfl rfl rfl (sr_u (u:=.rng 0 (s-8) 4) (ev_run [] kok gok (cs:=[_]) ⟨rfl⟩ ⟨⟨by decide,by decide⟩,True.intro⟩) ⟨hs,hr⟩) hm rfl rfl,rfl,decide_eq_false hn,True.intro⟩
 exact x.less rfl (less_of [] rfl rfl rfl rfl)
theorem law_19{bs:List Bk}{wd:Int}(B:BV f bs)(M:Mz f bs)(hb:bs.length≤900)(hd:okA kd.w)(hw:at_ f kd.w=wd)(w0:0≤wd)(w1:wd < 1000)(w4:wd%4=0)(dl:du.length≤100)(hz:∀ o,o%4=0→0≤o→o < wd→at_ f (c+8+o)=0)(hs:SortC (du++[seenRow f c s kd.w]) (seenL f bs)):
  ∃ b,ExB W 9 (scopeOf W.K 546) (lw W.K 19 1) ⟨l16 u ks rs lo v kd s m (c+8),sA (.list hu) t f fl pc rg rows ld,oL w rl bl wl fs rw_ du⟩ (.ret (.u (.bool true))) b []:=by
 have e:seenRow f c s kd.w=U.tup [.int (c+8-8),.int s,.int kd.w,.lst (List.replicate (wd / 4).toNat [U.int 0]).flatten]:=by
  unfold seenRow uI
  rw [hw,words_zero w0 w4 hz,show c+8-8=c by exact Int.le_antisymm (lin [_] [] [] 288106490737233 449 rfl ) (lin [_] [] [] 576212981473297 449 rfl )]
 rw [e] at hs
 have c1:CallTo W 2 349 [.s 2,i_ kd.w] (sA (.list hu) t f fl pc rg rows ld) (i_ (at_ f kd.w)) [] (sA (.list hu) t f fl pc rg rows ld) []:=c_word hd.1 hd.2
 rw [hw] at c1
 have c2:CallTo W 6 541 [.s 1,uR rs] (sA (.list hu) t f fl pc rg rows ld) (.o 0) [.list (seenL f bs)] (sA (.list hu) t f fl pc rg rows ld) []:=c_law_seen B.hb (B.seen M) hb
 have hp:=seen_pl (f:=f) bs
 generalize seenL f bs=se at *
 have hl:du.length+[U.tup [.int (c+8-8),.int s,.int kd.w,.lst (List.replicate (wd / 4).toNat [U.int 0]).flatten]].length≤sizeLine:=by rw [sizeLine_eq]; show du.length+1≤_; exact lin [] [_] [6561812] 36028797438435588 149058 rfl dl
 exact ⟨_,exb_run (W:=W) (n:=9) (osc:=scopeOf W.K 546) (x:=lw W.K 19 1) (fl:=.ret (.u (.bool true))) (rls:=[]) (a:=⟨l16 u ks rs lo v kd s m (c+8),sA (.list hu) t f fl pc rg rows ld,oL w rl bl wl fs rw_ du⟩)
  (b:=⟨l16 u ks rs lo v kd s m (c+8),sA (.list hu) t f fl pc rg rows ld,oL w rl bl wl fs rw_ du++[Cell.list [U.int 0],Cell.fz (U.lst (List.replicate (wd / 4).toNat [U.int 0]).flatten),Cell.list [U.tup [.int (c+8-8),.int s,.int kd.w,.lst (List.replicate (wd / 4).toNat [U.int 0]).flatten]],Cell.list (du++[U.tup [.int (c+8-8),.int s,.int kd.w,.lst (List.replicate (wd / 4).toNat [U.int 0]).flatten]]),Cell.list se,Cell.list se]⟩)
  [.r 2 (i_ wd) [] (sA (.list hu) t f fl pc rg rows ld) [],.us se,.r 6 (.o 0) [.list se] (sA (.list hu) t f fl pc rg rows ld) [],.d true] kok gok (cs:=[_,_,_,_,_,_,_]) ⟨rfl⟩
  ⟨⟨rfl,hp⟩,c2,hs,hl,⟨by exact lin [_,_,_] [] [4129,98371,37452350333475] 266273 3488117387088121092 rfl w0 w4 (dmA _ 4),by exact lin [_,_,_,_] [] [65544210,98371,37452350333475,1099511857235] 3211346 29122944859213784277915909 rfl w1 w4 (dmA _ 4) pI20,by decide⟩,⟨by decide,by decide⟩,c1,True.intro⟩⟩
end
end
section
section
variable {KK:Params→Frag}{W:Wd KK}{n:Nat}{osc:Scope}{a b c:Co}
theorem ExB.pre{x:List Stmt}{fl:Fl}{r1:List Nat}(L:Less b a)(h:ExB W n osc x a fl c r1):ExB W n osc x b fl c r1:=fun env ho F s K M k=>h env ho F ⟨s.ρ,s.κ.take a.O.length,s.σ⟩ K (M.less L) k
noncomputable def SubL(l:List (Str × V)):List (Str × V)→Prop
 | []=>True
 | p :: r=>l.lookup p.1=some p.2∧SubL l r
theorem SubL.get{l:List (Str × V)}{x:Str}{v:V}:∀{l':List (Str × V)},SubL l l'→l'.lookup x=some v→l.lookup x=some v
 | [],_,e=>by cases e
 | (y,u) :: r,⟨h1,h2⟩,e=>by
  rw [List.lookup_cons] at e
  split at e
  ·rename_i q
   cases e
   rw [beq_iff_eq.mp q]; exact h1
  ·exact h2.get e
theorem less_sub(h:SubL b.l a.l)(hS:a.S=b.S)(hO:a.O=b.O.take a.O.length)(hc:(a.O.all (okCl a.O.length)&&a.l.all fun p=>okV a.O.length p.2)=true):Less b a :=
 ⟨fun x v e=>h.get e,hS,hO,(and2' hc).1,(and2' hc).2⟩
end
variable {W:Wd KH}{n:Nat}
theorem lw_app(K:Frag)(i k j:Nat):lw K i (k+j)=lw K i k++lw K (i+k) j:=by
 unfold lw
 rw [List.take_add,List.drop_drop]
theorem ExB.seq{a b c:Co}{i k j:Nat}{fl:Fl}{r1 r2:List Nat}(h1:ExB W n (scopeOf W.K 546) (lw W.K i k) a .next b r1)(h2:ExB W n (scopeOf W.K 546) (lw W.K (i+k) j) b fl c r2):ExB W n (scopeOf W.K 546) (lw W.K i (k+j)) a fl c (r1++r2):=by
 rw [lw_app]; exact h1.app h2
theorem max_ex(l:List Int):∃ m∈(0 :: l),∀ x∈(0 :: l),x≤m:=by
 induction l with
 | nil=>exact ⟨0,.head _,fun x h=>by rw [List.mem_singleton.mp h]; exact Int.le_refl _⟩
 | cons a l ih =>
  obtain ⟨m,h1,h2⟩:=ih
  have sub:∀ x,x∈0 :: l→x∈0 :: a :: l:=fun x h=>by
   rcases List.mem_cons.mp h with z | z
   ·rw [z]; exact .head _
   ·exact .tail _ (.tail _ z)
  have all:∀ y:Int,m≤y→a≤y→∀ x∈0 :: a :: l,x≤y:=fun y hy ha x h=>by
   rcases List.mem_cons.mp h with z | z
   ·rw [z]; exact Int.le_trans (h2 0 (.head _)) hy
   ·rcases List.mem_cons.mp z with z | z
    ·rw [z]; exact ha
    ·exact Int.le_trans (h2 x (.tail _ z)) hy
  by_cases q:a≤m
  ·exact ⟨m,sub m h1,all m (Int.le_refl _) q⟩
  ·exact ⟨a,.tail _ (.head _),all a (by exact lin [_,_] [] [65559] 32833 149058 rfl q) (Int.le_refl _)⟩
section
variable {ks:List Ki}{rs:List Rk}{rows:List U}{f g:Int→Int}{t lo v:Int}{fs:List Int}{u w wl rw_:U}{rl bl:List U}{kd:Ki}{hu rg ld:List U}{pc:Int}
theorem law_fit{bs:List Bk}(B:BV f bs)(M:Mz f bs)(hL:∀ k,Ln f (g k) (lsK k (frees bs)))(hb:bs.length≤800)(hd0:0≤kd.w)(hd2:kd.w%4=0)(dv:kd.w < v)(v1:v < 1088)(v4:v%4=0)(hu':∀ b s d,(b,s,some d)∈bs→d < v)(hn:(seenL f bs).length≤10)
  (w0:0≤at_ f kd.w) (w4:at_ f kd.w%4=0) (w1:at_ f kd.w≤504) (hfit:∃ p∈frees bs,lnum (bsz (at_ f kd.w))≤lnum p.2) (hle:∀ p∈frees bs,lnum (bsz (at_ f kd.w))≤lnum p.2→bsz (at_ f kd.w)≤p.2) :
  ∃ b,ExB W 9 (scopeOf W.K 546) (lw W.K 13 7) ⟨l12 u ks rs lo v kd,sA (.list hu) t f (flU g) pc rg rows ld,oL w rl bl wl fs rw_ (seenL f bs)⟩ (.ret (.u (.bool true))) b []:=by
 have s8:at_ f kd.w+8≤bsz (at_ f kd.w)∧16≤bsz (at_ f kd.w)∧bsz (at_ f kd.w)%16=0∧bsz (at_ f kd.w)≤512:=by unfold bsz; exact ⟨lin [_,_,_] [] [753135399730582235492473381363,8486978] 1127532397240689 294065731 rfl (dmA _ 16) (dmC _ 16 rfl),⟨lin [_,_,_] [] [4129,1506268390398542629257681183299,16973906] 584165363841 24801719548336807152645 rfl w0 (dmA _ 16) (dmC _ 16 rfl),⟨Int.le_antisymm (lin [_,_,_] [] [9512020502672581107,8486978] 98369 24855595209986787588867953669 rfl (dmA _ 16) (dmC _ 16 rfl)) (lin [_] [] [4129] 4129 149058 rfl (dmB _ 16 rfl)),lin [_,_,_] [] [33038353,1506268390398542629257681183299,266273] 17598762905921 4796249173928097942533 rfl w1 (dmA _ 16) (dmB _ 16 rfl)⟩⟩⟩
 obtain ⟨m,hm,hx⟩:=max_ex ((frees bs).map Prod.snd)
 have x13:=law_13 (W:=W) (ks:=ks) (rs:=rs) (rows:=rows) (t:=t) (lo:=lo) (v:=v) (u:=u) (w:=w) (wl:=wl) (rw_:=rw_) (rl:=rl) (bl:=bl) (fs:=fs) (du:=seenL f bs) (h:=.list hu) (fl:=flU g) (ld:=ld) (rg:=rg) (pc:=pc) (kd:=kd) B (by exact lin [] [_] [52437012] 58990612 149058 rfl hb) ⟨hd0,by exact lin [_,_] [] [65554,570523714] 240132114 25499203 rfl dv v1⟩ hm hx
 obtain ⟨c,q,f',g',hc,sq,A,cA⟩:=c_allocG (W:=W) B hL hd0 (by exact lin [_,_] [] [65554,570523714] 71311378 25499203 rfl dv v1) rfl s8.2.1 hfit hle
 have mq:=hx q (.tail _ (List.mem_map.mpr ⟨_,hc,rfl⟩))
 have mc:=B.ct.mem (by decide) _ (frees_mem.mp hc)
 dsimp only at mc
 have hz:c+4≤c+8:=by exact lin [_] [] [] 285884314329377 449 rfl
 have hc':(c,q,none)∈bs:=frees_mem.mp hc
 obtain ⟨pre,post,rfl⟩:=List.append_of_mem hc'
 obtain ⟨B2,M2,zero,ed,SC⟩:=made (x:=c+8) B M A rfl w0 sq hd0 hd2 dv v1 v4 hu' hn
 have x15:=law_15 (W:=W) (ks:=ks) (rs:=rs) (rows:=rows) (t:=t) (lo:=lo) (v:=v) (m:=m) (s:=bsz (at_ f kd.w)) (u:=u) (w:=w) (wl:=wl) (rw_:=rw_) (rl:=rl) (bl:=bl) (fs:=fs) (du:=seenL f (pre++(c,q,none) :: post)) (hu:=hu) (fl:=flU g) (fl':=flU g') (ld:=ld) (rg:=rg) (pc:=pc) (kd:=kd) (c:=c+8) (f':=f') cA (by exact lin [_] [] [35655905] 4362244130 149058 rfl mc.1) (by exact lin [_,_] [] [528513,1718188384497] 590295810384676921698 285611587 rfl mc.2.2.1 mc.2.2.2.2) ⟨by exact lin [_,_] [] [4129,65554] 135201 285611587 rfl hd0 dv,by exact lin [_] [] [71311378] 240132114 149058 rfl v1⟩
 have x17:=law_17 (W:=W) (ks:=ks) (rs:=rs) (rows:=rows) (t:=t) (lo:=lo) (v:=v) (m:=m) (s:=bsz (at_ f kd.w)) (u:=u) (w:=w) (wl:=wl) (rw_:=rw_) (rl:=rl) (bl:=bl) (fs:=fs) (du:=seenL f (pre++(c,q,none) :: post)) (h:=.list hu) (fl:=flU g') (ld:=ld) (rg:=rg) (pc:=pc) (kd:=kd) (c:=c+8) (f:=put f' v (c+8)) (by exact fun z0=>lin [_,_,_] [] [65553,1081409,65618] 0 25499203 rfl sq mq z0) s8.2.1 s8.2.2.2 s8.2.2.1 (by exact lin [_] [] [35655905] 4362244129 149058 rfl mc.1) (by exact lin [_,_,_] [] [65553,54982158229825] 2026726210419794466 25499203 rfl sq mc.2.2.2.2) fun o h4 h0 h1=>zero _ (by exact Int.le_antisymm (lin [_,_,_,_,_,_,_,_] [] [8211,98371,431283805790723,5704335279923763,391824240344571334728753747,8880226] 491617 77985824526868493298273709341573517420103513459994885 rfl mc.2.1 h4 (dmA _ 16) (dmA _ 4) (dmA _ 4) (dmC _ 4 rfl)) (lin [_] [] [4129] 4129 149058 rfl (dmB _ 4 rfl))) (by exact lin [_,_] [] [4129] 37758778943704539473 149058 rfl h0) (by exact lin [_,_,_] [] [17582809106] 39202322653247152674 149058 rfl h1)
 obtain ⟨b,x19⟩:=law_19 (W:=W) (ks:=ks) (rs:=rs) (rows:=rows) (t:=t) (lo:=lo) (v:=v) (m:=m) (s:=bsz (at_ f kd.w)) (u:=u) (w:=w) (wl:=wl) (rw_:=rw_) (rl:=rl) (bl:=bl) (fs:=fs) (du:=seenL f (pre++(c,q,none) :: post)) (hu:=hu) (fl:=flU g') (ld:=ld) (rg:=rg) (pc:=pc) (kd:=kd) (c:=c) (f:=put f' v (c+8)) (wd:=at_ f kd.w) B2 M2 (by
  unfold rest_
  rw [List.length_append,List.length_cons] at hb ⊢
  rw [List.length_append]
  split
  ·rw [List.length_singleton]; exact lin [] [_,_] [56309014685852148] 2075718709943828783844 149058 rfl hb
  ·rw [List.length_nil]; exact lin [] [_,_] [56309014685852148] 518929589853113852612 149058 rfl hb) ⟨hd0,by exact lin [_,_] [] [65554,570523714] 240132114 25499203 rfl dv v1⟩ ed w0 (by exact lin [_] [] [33038353] 65544210 149058 rfl w1) w4 (by exact lin [] [_] [663572] 6561812 149058 rfl hn) (fun o h4 h0 h1=>zero _ (by exact Int.le_antisymm (lin [_,_,_,_,_,_,_,_] [] [8211,98371,431283805790723,5704335279923763,391824240344571334728753747,8880226] 491617 77985824526868493298273709341573517420103513459994885 rfl mc.2.1 h4 (dmA _ 16) (dmA _ 4) (dmA _ 4) (dmC _ 4 rfl)) (lin [_] [] [4129] 4129 149058 rfl (dmB _ 4 rfl))) (by exact lin [_,_] [] [4129] 37758778943704539473 149058 rfl h0) (by exact lin [_,_,_,_] [] [18270429489,65618] 1291367822798548083314 21370435 rfl s8.1 h1)) SC
 exact ⟨b,x13.seq (x15.seq (x17.seq x19))⟩
end
end
section
variable {W:Wd KH}{n:Nat}
noncomputable def b1:List Bk:=[(1088,512,none)]
theorem bv_1{f:Int→Int}(h:at_ f 1088=513):BV f b1:=⟨⟨rfl,by decide,by decide,show (1088:Int)+512=1600 from rfl⟩,fun p hp=>by rw [List.mem_singleton.mp hp]; exact h,fun b s d h=>nomatch congrArg (fun b:Bk=>b.2.2) (List.mem_singleton.mp h)⟩
theorem mz_1{f:Int→Int}:Mz f b1:=fun b s d h=>nomatch congrArg (fun b:Bk=>b.2.2) (List.mem_singleton.mp h)
section
variable {ks:List Ki}{rs:List Rk}{rows:List U}{f g:Int→Int}{t lo v p:Int}{fs:List Int}{u w wl rw_:U}{rl bl du:List U}{kd:Ki}{hu rg:List U}
noncomputable def l17(u:U)(ks:List Ki)(rs:List Rk)(lo v:Int)(kd:Ki)(s m:Int):List (Str × V):=[("script",.u u),("cells",.o 0),("hand",.s 0),("machine",.s 1),("kinds",.u (.lst (ks.map encK))),("records",uR rs),("roots",.o 1),("beside",.o 2),("found",.o 4),("freed",i_ lo),("variable",i_ v),("kind",.u (encK kd)),("due",.o 6),("need",i_ s),("most",i_ m),("told",.u (.tup [.str "trap",.int 9,.int 0])),("where",i_ 0)]
theorem law_no(h5:at_ f 1088=513)(hL:∀ k,Ln f (g k) (lsK k [(1088,512)]))(hrg:rg[11]?=some (.int p))(hr16:rg.length=16)(hd0:0≤kd.w)(hd2:kd.w%4=0)(dv:kd.w < v)(v1:v < 1088)(v4:v%4=0)(hv:at_ f v=0)(w0:504 < at_ f kd.w)(w1:at_ f kd.w < 1000):
  ∃ b,ExB W 9 (scopeOf W.K 546) (lw W.K 13 7) ⟨l12 u ks rs lo v kd,sA (.list hu) t f (flU g) 0 rg rows [],oL w rl bl wl fs rw_ du⟩ (.ret (.u (.bool true))) b [5]:=by
 have s5:512 < bsz (at_ f kd.w):=by unfold bsz; exact lin [_,_,_] [] [16519362,1506268390398542629257681183299,16973906] 18693291512018 24801719548336807152645 rfl w0 (dmA _ 16) (dmC _ 16 rfl)
 have x13:=law_13 (W:=W) (ks:=ks) (rs:=rs) (rows:=rows) (t:=t) (lo:=lo) (v:=v) (u:=u) (w:=w) (wl:=wl) (rw_:=rw_) (rl:=rl) (bl:=bl) (fs:=fs) (du:=du) (h:=.list hu) (fl:=flU g) (ld:=[]) (rg:=rg) (pc:=0) (kd:=kd) (m:=512) (bv_1 h5) (by decide) ⟨hd0,by exact lin [_,_] [] [65554,570523714] 240132114 25499203 rfl dv v1⟩ (.tail _ (.head _)) (fun x hx=>by
  rcases List.mem_cons.mp hx with z | z
  ·rw [z]; decide
  ·rw [List.mem_singleton.mp z]; decide)
 obtain ⟨C,P⟩:=col_free (p:=p) (be:=[v]) (bv_1 h5) mz_1 (by decide) fun x hx=>by
  rw [List.mem_singleton.mp hx]; exact if_pos (.inl v1)
 have cC:=c_collect (W:=W) (hu:=hu) (t:=t) (fl:=flU g) (rows:=rows) (rg:=rg) (b:=.tup [.int v]) (be:=[v]) rfl hrg hr16 C
 have cA:=c_allocN (W:=W) (h:=.list hu) (ma:=mA t) (R:=cpuA 0 :: .list rg :: .list rows :: [.list [],.list [],.list []]) (bv_1 h5) hL (d:=kd.w) ⟨hd0,by exact lin [_,_] [] [65554,570523714] 240132114 25499203 rfl dv v1⟩ fun q hq=>by rw [List.mem_singleton.mp hq]; exact s5
 generalize swS b1 f=st at *
 have out:∀ a,a%4=0→a < 1088→at_ st.1 a=at_ f a:=fun a h4 h=>P.out a h4 fun r hr=>by rw [List.mem_singleton.mp hr]; dsimp only; exact ⟨fun z0=>lin [_] [] [71311378,71311379] 0 8655939 rfl h z0,fun z0=>lin [_] [] [71311378,9217017528339] 0 8655939 rfl h z0⟩
 have h6:at_ st.1 1088=513:=P.hd _ (.head _)
 have cA2:=c_allocN (W:=W) (h:=.list hu) (ma:=mA t) (R:=cpuA 0 :: .list rg :: .list rows :: [.list [],.list [],.list []]) (bv_1 h6) P.ln (d:=kd.w) ⟨hd0,by exact lin [_,_] [] [65554,570523714] 240132114 25499203 rfl dv v1⟩ fun q hq=>by rw [List.mem_singleton.mp hq,out _ hd2 (by exact lin [_,_] [] [65554,570523714] 71311378 25499203 rfl dv v1)]; exact s5
 have c1:=c_make_record0 (W:=W) (v:=v) cA cC cA2
 have c2:CallTo W 2 349 [.s 2,i_ v] (sA (.list hu) t st.1 (flU st.2) 0 rg rows []) (i_ (at_ st.1 v)) [] (sA (.list hu) t st.1 (flU st.2) 0 rg rows []) []:=c_word (by exact lin [_,_] [] [4129,65554] 135201 285611587 rfl hd0 dv) (by exact lin [_] [] [71311378] 240132114 149058 rfl v1)
 rw [out _ v4 v1,hv] at c2
 have x15:ExB W 9 (scopeOf W.K 546) (lw W.K 15 2) ⟨l14 u ks rs lo v kd (bsz (at_ f kd.w)) 512,sA (.list hu) t f (flU g) 0 rg rows [],oL w rl bl wl fs rw_ du⟩ .next ⟨l17 u ks rs lo v kd (bsz (at_ f kd.w)) 512,sA (.list hu) t st.1 (flU st.2) 0 rg rows [],oL w rl bl wl fs rw_ du⟩ [5] :=
  exb_run [.r 9 (.u (.tup [.str "trap",.int 9,.int 0])) [] (sA (.list hu) t st.1 (flU st.2) 0 rg rows []) [5],.r 2 (i_ 0) [] (sA (.list hu) t st.1 (flU st.2) 0 rg rows []) []] kok gok (cs:=[_,_]) ⟨rfl⟩ ⟨c2,c1,True.intro⟩
 have x17:ExB W 9 (scopeOf W.K 546) (lw W.K 17 3) ⟨l17 u ks rs lo v kd (bsz (at_ f kd.w)) 512,sA (.list hu) t st.1 (flU st.2) 0 rg rows [],oL w rl bl wl fs rw_ du⟩ (.ret (.u (.bool true))) ⟨l17 u ks rs lo v kd (bsz (at_ f kd.w)) 512,sA (.list hu) t st.1 (flU st.2) 0 rg rows [],oL w rl bl wl fs rw_ du⟩ [] :=
  exb_run [.d true,.d false,.d true] kok gok (cs:=[_,_,_]) ⟨rfl⟩ ⟨⟨rfl,rfl⟩,rfl,decide_eq_true s5,True.intro⟩
 exact ⟨_,x13.seq (x15.seq x17)⟩
end
end
section
theorem ex_run{KK:Params→Frag}{W:Wd KK}{n:Nat}{osc:Scope}{g:List (Str × U)}{a b:Co}{st:Stmt}{fl:Fl}{rls:List Nat}{cs:List Prop}(or:List Orc)(K:KOK W)(hg:GOK W g)(h:SaysR (jS W n osc g 40 st (cfOf a or)) fl b rls cs)(hc:AllP cs):ExS W n osc st a.l a.S a.O fl b.l b.S b.O rls:=fun env ho F s Q M lr k=>by
 cases h with
 | mk h1=>exact (jS_ok K ho hg _ _ _ _ h1).ok hc F s Q (At.sat ⟨M,lr⟩) fun f m' s' M' N r=>k f m' s' M'.sim M'.loc N.pa N.k r
variable {W:Wd KH}{n:Nat}
section
variable {ks:List Ki}{rs:List Rk}{rows:List U}{f:Int→Int}{t lo v p pc:Int}{fs:List Int}{u w wl rw_:U}{rl bl kl:List U}{kd:Ki}{rg fl ld:List U}
noncomputable def lx(u:U)(ks:List Ki)(rs:List Rk)(lo v:Int)(kd:Ki):List (Str × V):=[("script",.u u),("cells",.o 0),("hand",.s 0),("machine",.s 1),("kinds",.u (.lst (ks.map encK))),("records",uR rs),("roots",.o 1),("beside",.o 2),("found",.o 4),("freed",i_ lo),("variable",i_ v),("kind",.u (encK kd))]
theorem law_12b(hd:Hd){d:Int}{hd1:Hd}(c1:CallTo W 1 497 [.s 0,i_ 2] (sA hd.c t f fl pc rg rows ld) (i_ d) [] (sA (Hd.c hd1) t f fl pc rg rows ld) [])(q:¬ d=1):
  ExB W 9 (scopeOf W.K 546) (lw W.K 12 1) ⟨l11 u ks rs lo v kd,sA hd.c t f fl pc rg rows ld,oL w rl bl wl fs rw_ kl⟩ .next ⟨l12 u ks rs lo v kd,sA (Hd.c hd1) t f fl pc rg rows ld,oL w rl bl wl fs rw_ kl⟩ []:=by
 have x:ExB W 9 (scopeOf W.K 546) (lw W.K 12 1) ⟨l11 u ks rs lo v kd,sA hd.c t f fl pc rg rows ld,oL w rl bl wl fs rw_ kl⟩ .next ⟨l11 u ks rs lo v kd,sA (Hd.c hd1) t f fl pc rg rows ld,oL w rl bl wl fs rw_ kl⟩ [] :=
  exb_run [.r 1 (i_ d) [] (sA (Hd.c hd1) t f fl pc rg rows ld) [],.d false] kok gok (cs:=[_,_]) ⟨rfl⟩ ⟨decide_eq_false q,c1,True.intro⟩
 exact x.less rfl (less_sub ⟨rfl,rfl,rfl,rfl,rfl,rfl,rfl,rfl,rfl,rfl,rfl,rfl,rfl,trivial⟩ rfl rfl rfl)
theorem law_12a(hd:Hd){d d2 k:Int}{hd1 hd2:Hd}{f1:Int→Int}{fl1:List U}(c1:CallTo W 1 497 [.s 0,i_ 2] (sA hd.c t f fl pc rg rows ld) (i_ d) [] (sA (Hd.c hd1) t f fl pc rg rows ld) [])(q:d=1)
  (c2:CallTo W 8 191 [.s 1] (sA (Hd.c hd1) t f fl 0 rg rows []) (i_ k) [] (sA (Hd.c hd1) t f1 fl1 0 rg rows []) [5]) (c3:CallTo W 1 497 [.s 0,i_ 130] (sA (Hd.c hd1) t f1 fl1 0 rg rows []) (i_ d2) [] (sA (Hd.c hd2) t f1 fl1 0 rg rows []) []) (h0:0≤kd.w) (h1:kd.w+20 < 3664) :
  ExB W 9 (scopeOf W.K 546) (lw W.K 12 1) ⟨l11 u ks rs lo v kd,sA hd.c t f fl pc rg rows ld,oL w rl bl wl fs rw_ kl⟩ .next ⟨l12 u ks rs lo v kd,sA (Hd.c hd2) t (put (put f1 kd.w (4 * d2)) (kd.w+20) 4294967295) fl1 0 rg rows [],oL w rl bl wl fs rw_ []⟩ [5,9]:=by
 refine ExB.pre (a:=⟨lx u ks rs lo v kd,sA hd.c t f fl pc rg rows ld,[.fz w,.list rl,.list bl,.fz wl,.fz (uI fs),.fz rw_]⟩) (less_sub ⟨rfl,rfl,rfl,rfl,rfl,rfl,rfl,rfl,rfl,rfl,rfl,rfl,trivial⟩ rfl rfl rfl) ?_
 have x:ExB W 9 (scopeOf W.K 546) (lw W.K 12 1) ⟨lx u ks rs lo v kd,sA hd.c t f fl pc rg rows ld,[.fz w,.list rl,.list bl,.fz wl,.fz (uI fs),.fz rw_]⟩ .next ⟨l12 u ks rs lo v kd,sA (Hd.c hd2) t (put (put f1 kd.w (4 * d2)) (kd.w+20) 4294967295) fl1 0 rg rows [],[.fz w,.list rl,.list bl,.fz wl,.fz (uI fs),.fz rw_,.list [],.hid]⟩ [5,9] :=
  exb_run [.r 1 (i_ d) [] (sA (Hd.c hd1) t f fl pc rg rows ld) [],.d true,.la (l12 u ks rs lo v kd) (sA (Hd.c hd1) t f fl pc rg rows ld) [.fz w,.list rl,.list bl,.fz wl,.fz (uI fs),.fz rw_,.list []] [],.la (l12 u ks rs lo v kd) (sA (Hd.c hd1) t f fl pc rg rows []) [.fz w,.list rl,.list bl,.fz wl,.fz (uI fs),.fz rw_,.list [],.hid] [9],
   .r 8 (i_ k) [] (sA (Hd.c hd1) t f1 fl1 0 rg rows []) [5],.r 1 (i_ d2) [] (sA (Hd.c hd2) t f1 fl1 0 rg rows []) [],.r 2 (.u .none) [] (sA (Hd.c hd2) t (put f1 kd.w (4 * d2)) fl1 0 rg rows []) [],.r 2 (.u .none) [] (sA (Hd.c hd2) t (put (put f1 kd.w (4 * d2)) (kd.w+20) 4294967295) fl1 0 rg rows []) []] kok gok (cs:=[_,_,_,_,_,_,_,_,_,_]) ⟨rfl⟩
   ⟨c_put_word (by exact lin [_] [] [4129] 10804695073 149058 rfl h0) h1,⟨by decide,by decide⟩,c_put_word h0 (by exact lin [_] [] [125901077520706] 240132114 149058 rfl h1),.inl (by decide),c3,c2,
   reloc_ok2 1 9 7 465 rfl (ev_run [] kok gok (cs:=[]) ⟨rfl⟩ True.intro) (ev_run [] kok gok (cs:=[]) ⟨rfl⟩ True.intro) (fs:=mfs t) (us:=[]) ⟨rfl,rfl,⟨_,rfl⟩,rfl,rfl,rfl,rfl,rfl,rfl⟩ rfl rfl,ex_run (a:=⟨lx u ks rs lo v kd,sA (Hd.c hd1) t f fl pc rg rows ld,[.fz w,.list rl,.list bl,.fz wl,.fz (uI fs),.fz rw_]⟩) (b:=⟨l12 u ks rs lo v kd,sA (Hd.c hd1) t f fl pc rg rows ld,[.fz w,.list rl,.list bl,.fz wl,.fz (uI fs),.fz rw_,.list []]⟩) [] kok gok (cs:=[]) ⟨rfl⟩ True.intro,decide_eq_true q,c1,True.intro⟩
 exact x.less rfl (less_of [] rfl rfl rfl rfl)
end
end
section
variable {W:Wd KH}{n:Nat}
section
variable {ks:List Ki}{rs:List Rk}{ms:List Md}{rows:List U}{f:Int→Int}{e t lo pc p:Int}{rsl fw fs:List Int}{u w wl rw_:U}{rl bl:List U}{kd:Ki}{rg ld:List U}{st:(Int→Int) × (Int→Int)}
theorem kept_len(f:Int→Int)(fs:List Int)(l:List Rk):(keptL f fs l).length≤l.length:=by
 induction l with
 | nil=>exact Nat.le_refl _
 | cons r l ih =>
  unfold keptL
  split
  ·exact Nat.succ_le_succ ih
  ·exact Nat.le_succ_of_le ih
theorem lnum_3{s:Int}(h:128≤s):lnum s=3:=by
 unfold lnum
 rw [if_neg (by exact fun z0=>lin [_] [] [4198577,2105362] 0 149058 rfl h z0),if_neg (by exact fun z0=>lin [_] [] [4198577,4202514] 0 149058 rfl h z0),if_neg (by exact fun z0=>lin [_] [] [4198577,8396818] 0 149058 rfl h z0)]
theorem lnum_le3(s:Int):lnum s≤3:=by
 have:=lnum_b s
 exact lin [_] [] [270354] 204817 149058 rfl this.2
theorem fin_b(I:LI ks rs ms f e t rsl fw p)(P:SwP f (frees (mg (fun r=>decide (r.1∈fs)) e rs)) st)(hk:kd∈ks)(hd:Hd):
  ∃ b,ExB W 9 (scopeOf W.K 546) (lw W.K 13 7) ⟨l12 u ks rs lo t kd,sA hd.c (t+16) st.1 (flU st.2) pc rg rows ld,oL w rl bl wl fs rw_ (keptL f fs rs)⟩ (.ret (.u (.bool true))) b []:=by
 have B:=mg_bv I.wi (fun r=>decide (r.1∈fs)) P
 have M:=P.mz I.wi
 have K:=I.wi.ko kd hk
 have a0:=K.1.a0
 have a4:=K.1.a4
 have kt:=K.2
 have w0:=K.1.b.w0
 have w1:=K.1.b.w1
 have w4:=K.1.b.w4
 have t1:=I.t1
 have ew:at_ st.1 kd.w=kd.wd:=(P.low I.wi (by exact Int.le_antisymm (lin [_,_,_,_,_] [] [8211,145410782536179,4647704605598275,8781922] 393313 49128355079546559906686749562307281494277 rfl a4 (dmA _ 16) (dmA _ 4) (dmC _ 4 rfl)) (lin [_] [] [4129] 4129 149058 rfl (dmB _ 4 rfl))) (by exact lin [_,_] [] [146045706593,209813569] 71311378 25499203 rfl K.2 t1)).trans K.1.d0
 have n9:=I.wi.n
 have ml:=mg_len (fun r=>decide (r.1∈fs)) e rs
 have kl:=kept_len f fs rs
 have sb:=bsz_b w0 w1
 have E:=I.wi.e84
 obtain ⟨q,hq,q224⟩:=mg_tail (kp:=fun r=>decide (r.1∈fs)) (e:=e) rs fun r hr=>by
  have b:=I.wi.rb hr
  have:=b.sz
  have:=b.k.w0
  (rename_i q0; exact lin [_,_] [] [18270429489,4129] 135201 21370435 rfl q0 this)
 rw [← seen_mg I.wi P]
 refine law_fit (hu:=hd.u) B M P.ln (by exact lin [] [_,_] [598036,2416607300] 419528772 21370435 rfl n9 ml) (by exact lin [_] [] [2101409] 4129 149058 rfl a0) (by exact Int.le_antisymm (lin [_,_,_,_,_] [] [8211,145410782536179,4647704605598275,8781922] 393313 49128355079546559906686749562307281494277 rfl a4 (dmA _ 16) (dmA _ 4) (dmC _ 4 rfl)) (lin [_] [] [4129] 4129 149058 rfl (dmB _ 4 rfl))) (by exact lin [_,_] [] [146045706593] 65554 149058 rfl K.2) (by exact lin [_] [] [26222609] 71311378 149058 rfl t1) I.t4 (fun b s d h=>?_) (by rw [seen_mg I.wi P]; exact lin [] [_,_] [598036,32836] 5341252 21370435 rfl n9 kl) (by exact lin [_,_] [] [4129,32835] 135201 554112579 rfl w0 ew) (by exact Int.le_antisymm (lin [_,_,_,_,_,_] [] [8211,1081411,73736234050019,4859910349791827,8814690] 426081 62943945970147932418243848269867708377561377029 rfl w4 ew (dmA _ 4) (dmA _ 4) (dmC _ 4 rfl)) (lin [_] [] [4129] 4129 149058 rfl (dmB _ 4 rfl))) (by exact lin [_,_] [] [1318929,32835] 264339521 285677123 rfl w1 ew) ⟨q,hq,by rw [lnum_3 (s:=q.2) (by exact lin [_,_] [] [90185745,1206894670225] 71307441 21370435 rfl E q224)]; exact lnum_le3 _⟩ fun p hp hl=>?_
 ·obtain ⟨r,hr,_,z⟩:=mg_used _ h
  have:=(I.wi.ko _ (I.wi.co.ks r hr)).2
  cases z
  exact lin [_,_] [] [146045706593] 65554 149058 rfl this
 ·have m:=B.ct.mem (by decide) _ (frees_mem.mp hp)
  dsimp only at m
  rw [ew] at hl ⊢
  rcases sb with ⟨z,_⟩ | ⟨z,_⟩
  ·rw [z]; exact m.2.2.1
  ·rw [z] at hl ⊢
   have:lnum 32=1:=rfl
   rw [this] at hl
   unfold lnum at hl
   split at hl
   ·exact lin [_] [] [102465] 1052817 449 rfl hl
   ·(rename_i q0; exact lin [_] [] [2105368] 1052817 149058 rfl q0)
theorem fin_a{f1 g:Int→Int}(I:LI ks rs ms f e t rsl fw p)(P:SwP f (frees (mg (fun r=>decide (r.1∈fs)) e rs)) st)(P1:SwP st.1 [(1088,512)] (f1,g))(hk:kd∈ks)(hd:Hd){d:Int}(d0:0≤d)(d1:d < 130):
  ∃ b r,ExB W 9 (scopeOf W.K 546) (lw W.K 13 7) ⟨l12 u ks rs lo t kd,sA hd.c (t+16) (put (put f1 kd.w (4 * d)) (kd.w+20) 4294967295) (flU g) 0 (regsP p) rows [],oL w rl bl wl fs rw_ []⟩ (.ret (.u (.bool true))) b r:=by
 have K:=I.wi.ko kd hk
 have a0:=K.1.a0
 have a4:=K.1.a4
 have kt:=K.2
 have t1:=I.t1
 have t4:=I.t4
 have far:∀ a,a%4=0→a≠kd.w→a≠kd.w+20→at_ (put (put f1 kd.w (4 * d)) (kd.w+20) 4294967295) a=at_ f1 a:=fun a h4 h1 h2=>by
  rw [at_put_n (by exact Int.le_antisymm (lin [_,_,_,_,_] [] [8211,145410782536179,2979161133958092661315,8781922] 393313 49128355079546559906686749562307281494277 rfl a4 (dmA _ 16) (dmA _ 4) (dmC _ 4 rfl)) (lin [_] [] [4129] 4129 149058 rfl (dmB _ 4 rfl))) h4 h2,at_put_n (by exact Int.le_antisymm (lin [_,_,_,_,_] [] [8211,145410782536179,4647704605598275,8781922] 393313 49128355079546559906686749562307281494277 rfl a4 (dmA _ 16) (dmA _ 4) (dmC _ 4 rfl)) (lin [_] [] [4129] 4129 149058 rfl (dmB _ 4 rfl))) h4 h1]
 have ew:at_ (put (put f1 kd.w (4 * d)) (kd.w+20) 4294967295) kd.w=4 * d:=by
  rw [at_put_n (by exact Int.le_antisymm (lin [_,_,_,_,_] [] [8211,145410782536179,2979161133958092661315,8781922] 393313 49128355079546559906686749562307281494277 rfl a4 (dmA _ 16) (dmA _ 4) (dmC _ 4 rfl)) (lin [_] [] [4129] 4129 149058 rfl (dmB _ 4 rfl))) (by exact Int.le_antisymm (lin [_,_,_,_,_] [] [8211,145410782536179,4647704605598275,8781922] 393313 49128355079546559906686749562307281494277 rfl a4 (dmA _ 16) (dmA _ 4) (dmC _ 4 rfl)) (lin [_] [] [4129] 4129 149058 rfl (dmB _ 4 rfl))) (by exact fun z0=>lin [_] [] [5402345491] 0 9538 rfl z0),at_put_i (by exact lin [_] [] [4129] 134680609 35454784259 rfl d0) (by exact lin [_] [] [8527890] 2305843009314472162 35454784259 rfl d1)]
 have h5:at_ (put (put f1 kd.w (4 * d)) (kd.w+20) 4294967295) 1088=513:=by
  rw [far _ (by decide) (by exact fun z0=>lin [_,_] [] [146045706593,209813569,35655907] 0 553981507 rfl K.2 t1 z0) (by exact fun z0=>lin [_,_,_] [] [8211,355144573128931,149808829080067] 0 36457715519957054234672116162173957 rfl a4 z0 (dmA _ 16))]; exact P1.hd _ (.head _)
 have hL:∀ k,Ln (put (put f1 kd.w (4 * d)) (kd.w+20) 4294967295) (g k) (lsK k [(1088,512)]):=fun k=>(P1.ln k).cong fun c hc=>by
  obtain ⟨r,hr,e1,_⟩:=lsK_mem hc
  rw [List.mem_singleton.mp hr] at e1
  have e1:1088=c:=e1
  subst e1
  exact ⟨far _ (by decide) (by exact fun z0=>lin [_,_] [] [146045706593,209813569,35655907] 0 553981507 rfl K.2 t1 z0) (by exact fun z0=>lin [_,_,_] [] [8211,355144573128931,149808829080067] 0 36457715519957054234672116162173957 rfl a4 z0 (dmA _ 16)),far _ (by decide) (by exact fun z0=>lin [_,_,_] [] [8211,74977252942323,149808829080067] 0 36457715519957054234672116162173957 rfl a4 z0 (dmA _ 16)) (by exact fun z0=>lin [_,_] [] [146045706593,209813569,5800728889492185587] 0 553981507 rfl K.2 t1 z0)⟩
 have hv:at_ (put (put f1 kd.w (4 * d)) (kd.w+20) 4294967295) t=0:=by
  rw [far _ t4 (by exact fun z0=>lin [_,_] [] [146045706593,32835] 0 149058 rfl K.2 z0) (by exact fun z0=>lin [_,_] [] [146045706593,43218796611] 0 149058 rfl K.2 z0)]
  refine (P1.out t t4 fun r hr=>by rw [List.mem_singleton.mp hr]; dsimp only; exact ⟨fun z0=>lin [_] [] [26222609,71311379] 0 8655939 rfl t1 z0,fun z0=>lin [_] [] [26222609,9217017528339] 0 8655939 rfl t1 z0⟩).trans ((P.low I.wi t4 (by exact lin [_] [] [26222609] 71311378 149058 rfl t1)).trans (I.wi.z t t4 (Int.le_refl _) (by exact lin [_] [] [26222609] 71311378 149058 rfl t1)))
 generalize put (put f1 kd.w (4 * d)) (kd.w+20) 4294967295=f5 at *
 by_cases q:4 * d≤504
 ·have s5:bsz (at_ f5 kd.w)≤512:=by rw [ew]; unfold bsz; exact lin [_,_,_] [] [270683717857,12339370431578052878308843325104707,266273] 17598762905921 43673203405152414428979948578016094914821 rfl q (dmA _ 16) (dmB _ 16 rfl)
  obtain ⟨b,x⟩:=law_fit (W:=W) (ks:=ks) (rs:=rs) (rows:=rows) (t:=t+16) (lo:=lo) (v:=t) (u:=u) (w:=w) (wl:=wl) (rw_:=rw_) (rl:=rl) (bl:=bl) (fs:=fs) (hu:=hd.u) (rg:=regsP p) (pc:=0) (ld:=[]) (kd:=kd) (bs:=b1) (bv_1 h5) mz_1 hL (by decide) (by exact lin [_] [] [2101409] 4129 149058 rfl a0) (by exact Int.le_antisymm (lin [_,_,_,_,_] [] [8211,145410782536179,4647704605598275,8781922] 393313 49128355079546559906686749562307281494277 rfl a4 (dmA _ 16) (dmA _ 4) (dmC _ 4 rfl)) (lin [_] [] [4129] 4129 149058 rfl (dmB _ 4 rfl))) (by exact lin [_,_] [] [146045706593] 65554 149058 rfl K.2) (by exact lin [_] [] [26222609] 71311378 149058 rfl t1) t4 (fun b s d h=>nomatch congrArg (fun b:Bk=>b.2.2) (List.mem_singleton.mp h)) (Nat.zero_le _) (by exact lin [_,_] [] [4129,538738755] 135201 9077878584527108 rfl d0 ew) (by exact Int.le_antisymm (lin [_,_,_,_] [] [1141080083,107821094511155,4423762] 229457 17466901586712676774544166148 rfl ew (dmA _ 4) (dmC _ 4 rfl)) (lin [_] [] [4129] 4129 149058 rfl (dmB _ 4 rfl))) (by exact lin [_,_] [] [1141080083,4330971316513] 33038353 744807628922273416452 rfl ew q) ⟨_,.head _,by rw [lnum_3 (s:=512) (by decide)]; exact lnum_le3 _⟩ fun p hp _=>by rw [List.mem_singleton.mp hp]; exact s5
  exact ⟨b,_,x⟩
 ·obtain ⟨b,x⟩:=law_no (W:=W) (ks:=ks) (rs:=rs) (rows:=rows) (t:=t+16) (lo:=lo) (v:=t) (u:=u) (w:=w) (wl:=wl) (rw_:=rw_) (rl:=rl) (bl:=bl) (fs:=fs) (hu:=hd.u) (rg:=regsP p) (p:=p) (kd:=kd) (du:=[]) h5 hL rfl rfl (by exact lin [_] [] [2101409] 4129 149058 rfl a0) (by exact Int.le_antisymm (lin [_,_,_,_,_] [] [8211,145410782536179,4647704605598275,8781922] 393313 49128355079546559906686749562307281494277 rfl a4 (dmA _ 16) (dmA _ 4) (dmC _ 4 rfl)) (lin [_] [] [4129] 4129 149058 rfl (dmB _ 4 rfl))) (by exact lin [_,_] [] [146045706593] 65554 149058 rfl K.2) (by exact lin [_] [] [26222609] 71311378 149058 rfl t1) t4 hv (by exact lin [_,_] [] [1141080083,4330971316519] 16519362 744807637718366438660 rfl ew q) (by exact lin [_,_] [] [8527890,538738755] 524386370 9077878450309380 rfl d1 ew)
  exact ⟨b,_,x⟩
theorem law_12(I:LI ks rs ms f e t rsl fw p)(P:SwP f (frees (mg (fun r=>decide (r.1∈fs)) e rs)) st)(hd:Hd)(hk:kd∈ks):
  ∃ b r,ExB W 9 (scopeOf W.K 546) (lw W.K 12 8) ⟨l11 u ks rs lo t kd,sA hd.c (t+16) st.1 (flU st.2) pc (regsP p) rows ld,oL w rl bl wl fs rw_ (keptL f fs rs)⟩ (.ret (.u (.bool true))) b r:=by
 obtain ⟨d,hd1,c1,d0,d1⟩:=pick (W:=W) hd (R:=(sA hd.c (t+16) st.1 (flU st.2) pc (regsP p) rows ld).tail) (k:=2) (by decide) (by decide)
 by_cases q:d=1
 ·have ml:=mg_len (fun r=>decide (r.1∈fs)) e rs
  have n9:=I.wi.n
  obtain ⟨C,P1⟩:=col_free (p:=p) (be:=[]) (mg_bv I.wi (fun r=>decide (r.1∈fs)) P) (P.mz I.wi) (by exact lin [] [_,_] [2550415380,4816964] 58990612 25499203 rfl ml n9) (fun _ h=>nomatch h)
  have c2:=c_collect0 (W:=W) (hu:=hd1.u) (t:=t+16) (fl:=flU st.2) (rows:=rows) (rg:=regsP p) rfl rfl C
  generalize swS (mg (fun r=>decide (r.1∈fs)) e rs) st.1=s1 at *
  obtain ⟨f1,g⟩:=s1
  obtain ⟨d2,hd2,c3,e0,e1⟩:=pick (W:=W) hd1 (R:=(sA hd.c (t+16) f1 (flU g) 0 (regsP p) rows []).tail) (k:=130) (by decide) (by decide)
  have K:=I.wi.ko kd hk
  have a0:=K.1.a0
  have a1:=K.1.a1
  obtain ⟨b,r,x⟩:=fin_a (W:=W) (lo:=lo) (rows:=rows) (u:=u) (w:=w) (wl:=wl) (rw_:=rw_) (rl:=rl) (bl:=bl) I P P1 hk hd2 e0 e1
  exact ⟨b,_,(law_12a hd c1 q c2 c3 (by exact lin [_] [] [2101409] 4129 149058 rfl a0) (by exact lin [_] [] [12591121] 125901077520706 149058 rfl a1)).seq x⟩
 ·obtain ⟨b,x⟩:=fin_b (W:=W) (lo:=lo) (rows:=rows) (u:=u) (w:=w) (wl:=wl) (rw_:=rw_) (rl:=rl) (bl:=bl) (pc:=pc) (rg:=regsP p) (ld:=ld) I P hk hd1
  exact ⟨b,_,(law_12b hd c1 q).seq x⟩
theorem law_all{ns:List Int}{a:Addr}{items:Array Value}(h0:W.h0.IsList a items)(hv:items.toList.map er=intsV ns)(hn:ns.length≤63):∃ b r,ExB W 9 (scopeOf W.K 546) (lw W.K 0 20) ⟨[("script",.u (.fn a))],[],[]⟩ (.ret (.u (.bool true))) b r:=by
 obtain ⟨hd1,x1⟩:=law_1 (W:=W) h0 hv hn
 obtain ⟨ks,rs,hd2,f,e,I,k0,k3,x2⟩:=law_2 (W:=W) (u:=.fn a) (w:=uI ns) hd1
 obtain ⟨ms,rows,hd3,f3,t,rsl,fw,p,L,x3⟩:=law_3 (W:=W) (u:=.fn a) (w:=uI ns) hd2 I k0 k3
 obtain ⟨hd4,be,b1,x5⟩:=law_5 (W:=W) (ks:=ks) (rs:=rs) (u:=.fn a) (w:=uI ns) (rt:=.list ((gRoots f3 ms).map U.int++fw.map U.int)) (R:=(sA (Hd.c hd3) t f3 (flE e) ((rsl++[0]).headD 0) (regsP p) rows (ms.map uLd)).tail) hd3 L.wi.rr
 have hl:(gRoots f3 ms).length+fw.length+be.length≤1000:=by have:=L.wl; exact lin [] [_,_,_] [73748,17186378883396] 70382076042027508 25499203 rfl b1 this
 obtain ⟨fs,F,h1,h2,wl,x6⟩:=law_6 (W:=W) (ms:=ms) (rows:=rows) (u:=.fn a) (w:=uI ns) (hu:=hd4.u) (fl:=flE e) (ld:=ms.map uLd) (rg:=regsP p) (pc:=(rsl++[0]).headD 0) L.wi hl
 obtain ⟨st,P,x9⟩:=law_9 (W:=W) (rows:=rows) (u:=.fn a) (w:=uI ns) (hu:=hd4.u) (rl:=(gRoots f3 ms).map U.int++fw.map U.int) (wl:=wl) (rw_:=.lst (rs.map encRk)) L F h1 h2 b1
 have t0:=L.t0
 obtain ⟨hd5,kd,hk,x10⟩:=law_10 (W:=W) (ks:=ks) (rs:=rs) (rows:=rows) (f:=st.1) (t:=t) (u:=.fn a) (w:=uI ns) (rl:=(gRoots f3 ms).map U.int++fw.map U.int) (bl:=be.map U.int) (kl:=keptL f3 fs rs) (wl:=wl) (rw_:=.lst (rs.map encRk)) (fs:=fs) (fl:=flU st.2) (rg:=regsP p) (ld:=ms.map uLd) (pc:=(rsl++[0]).headD 0) (lo:=lost (fun r=>decide (r.1∈fs)) rs) hd4 k0 k3 (by exact lin [_] [_] [14637218488722081] 2101409 38761779071233909289144327 rfl t0) L.t1 L.t4
 obtain ⟨b,r,x12⟩:=law_12 (W:=W) (rows:=rows) (u:=.fn a) (w:=uI ns) (rl:=(gRoots f3 ms).map U.int++fw.map U.int) (bl:=be.map U.int) (wl:=wl) (rw_:=.lst (rs.map encRk)) (lo:=lost (fun r=>decide (r.1∈fs)) rs) (pc:=(rsl++[0]).headD 0) (ld:=ms.map uLd) L P hd5 hk
 exact ⟨b,_,x1.seq (x2.seq (x3.seq (x5.seq (x6.seq (x9.seq (x10.seq x12))))))⟩
end
end
section
theorem fn_law{W:Wd KH}:FnP W 546 ["script"]:=fn_mk (by rfl) (by rfl) (by rfl) (fun _ _ _=>BindsTo.of_eq rfl) (by rfl) (by rfl) rfl rfl rfl
theorem dj_0:Dj ⟨fun a=>if a=183 then some (.tuple []) else none,fun _=>none⟩:=⟨fun _=>.inl rfl,show (if (183:Addr)=183 then some (AO.tuple []) else none)=_ from if_pos rfl⟩
theorem f_law{W:Wd KH}{ns:List Int}{a:Addr}{items:Array Value}(h0:W.h0.IsList a items)(hv:items.toList.map er=intsV ns)(hn:ns.length≤63):Callee W 10 (.ref 546) [.ref a] (fun v _=>v=.bool true) ⟨fun a=>if a=183 then some (.tuple []) else none,fun _=>none⟩:=by
 obtain ⟨b,r,x⟩:=law_all h0 hv hn
 have e:lw W.K 0 20=bodyOf W.K 546:=by rfl
 rw [e] at x
 refine callee_own fn_law.kp (fn_law.run rfl fun env he=>x env he ⟨[],updAll (fun _=>none) ["script"] [.ref a]⟩ ⟨[],[],_⟩ _ ⟨⟨[],[],.nil,.nil,⟨(fun _ h=>nomatch h),.nil,dj_0⟩⟩,?_⟩ fun f m' s' _ _ ⟨y,hy,hv⟩=>?_)
 ·exact LR.puts (xs:=["script"]) (vs:=[V.u (U.fn a)]) (ws:=[.ref a]) (l:=[]) (m:=fun _=>none) (fun _ _ q=>nomatch q) (.cons rfl .nil)
 ·rw [hy]; exact hv
theorem law_end{w:World}{s₁:Shared}{mg mb:Str→Option Value}{fa l:Addr}{vals:List Value}{ns:List Int}{c:ClaimW}{cl:Str→Option Addr}{mean:ExcName→Option Value}{args:List WData}{E:Value→Shared→Prop}{prog:Program}
  (KX:(KH w.params).In s₁.heap) (Tg:s₁.heap.Ns mainGlobals mg) (Tb:s₁.heap.Ns builtinsNs mb) (Tn:s₁.heap.NoLimit) (Tm:∀ x:Str,x≠"__name__"→mb x=bootBuiltins x)
  (hmg:mg "law"=some (.ref fa)) (hg:s₁.gens=#[]) (hL:s₁.heap.IsList l vals.toArray) (hI:IntsAre vals ns) (hn:ns.length≤63)
  (hr:∀ cls,c.raises args cls=false) (hp:c.post args (.bool true) args=true) :
  wpAny (model prog w) callerA (call (.ref fa) [.ref l]) (fun v s'=>GoodW c cl mean args s₁ (.ok (.ret v)) s') E s₁:=by
 let W:Wd KH:={ prog:=prog,w:=w,h0:=s₁.heap,os0:=s₁.os,mg:=mg,mb:=mb,hK:=KX,hlim:=Tn,hg:=Tg,hb:=Tb,hmb:=Tm }
 have hfa:fa=546:=by
  have e:nsIn W.K mainGlobals "law"=some (some (.ref 546)):=by rfl
  have e2:=ns_of_in KX Tg e
  rw [hmg] at e2; cases e2; rfl
 subst hfa
 have ke:∃ n,W.K.lookup 183=some { cls:=.type "tuple",data:=.seq #[] n }:=⟨_,by rfl⟩
 have ats0:∀ a o,St.at ⟨fun a=>if a=183 then some (.tuple []) else none,fun _=>none⟩ a=some o→AbsAt W s₁.heap a o:=fun a o e=>by
  have e:(if a=183 then some (AO.tuple []) else none)=some o:=e
  split at e
  ·rename_i q
   cases e
   subst q
   obtain ⟨n,k⟩:=ke
   exact ⟨n,#[],KX _ _ k,rfl⟩
  ·cases e
 have R:Rel W ⟨fun a=>if a=183 then some (.tuple []) else none,fun _=>none⟩ s₁:=⟨fun _ _ e=>e,ats0,(fun _ _ e=>nomatch e),fun _=>.inl rfl,rfl,hg⟩
 have r:Room 10 callerA:=⟨rfl,by decide +kernel,by decide +kernel⟩
 have L:=f_law (W:=W) hL (by rw [List.toList_toArray]; exact intsAre_er hI) hn
 refine wpAny_mono (L.2 (.ref 546) [.ref l] rfl rfl callerA s₁ r R) (fun v s' ⟨σ',R',_,q⟩=>?_) fun _ _ e=>e.elim
 obtain rfl:=er_bool q
 exact ⟨.inl ⟨_,_,_,rfl,hr,.bool true,hp,fun _=>⟨List.nodup_nil,(fun _ h=>nomatch h)⟩⟩,R'.keep,R'.os,R'.gens⟩
end
end Mine
set_option maxHeartbeats 8000000 in
theorem PySem.Challenge.cw_nu0345_02_holds : PySem.Challenge.rw_nu0345_02.Holds :=
  Mine.hd (by w_strict (
    k_fill
    intro w s₀ s₁ mg mb G Y fa o pm cd doc dV kV ho hdd hcd hD hmg hg args vals as hpre hlay hrd hwl hlo
    have KX := kIn_of Y
    refine Ground.open G ?_
    intro T B D TE TW
    wrow_args hpre hlay hrd hwl hlo
    rename_i hI hr hcond hcond2
    refine wpAny_mono (Mine.law_end KX T.g T.b T.nolimit T.builtins hmg hg (by assumption) hI (by omega) (fun _ => rfl) (by with_unfolding_all rfl)) (fun v s' q => q.toG) fun _ _ e => e))
