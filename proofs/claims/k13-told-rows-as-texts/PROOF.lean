import PyProof.Rows.All
import Wide.All
import OpenK.AllK
import Wide.FinOn
import HandS.ForMost
import HandS.Flow
import HandS.Deep
import HandS.Wide
import HandS.IsInst
import HandS.Evl
import KE.DataEq
import HandS.TupAny
import HandS.Style
import HandS.Defaults
import HandS.HeadHook1
import HandS.HeadHook2
import HandS.Head0
import HandS.Head1
import HandS.Head2
import HandS.HeadEnd
import HandS.Lambda
import HandS.RaiseMore
import HandS.Zip
import HandS.DictComp
import HandS.ForExc
import HandS.CallSlots
import HandS.More
import HandS.Conv
import HandS.DictEq
import HandS.Finally
import KE.KDictPairs
import HandS.Small
import PyProof.SumAny
import HandS.TryOnly
import PyProof.StrBlock2
import PyProof.ReprRoads
import PyProof.TwoTypes
import PyProof.Rows.RuleB_bool
import HandS.MakeKwOnly
import HandS.SortInts
import KE.KxIndex
import PyProof.ReprLen
import PyProof.Rows.ReprShort
import KE.DataMinKey
import KE.LtData
import HandS.SortKw
import KE.DataMinMax
import HandS.HeadHook3
import HandS.HeadHook4
import HandS.EndTab
import HandS.WrittenGet
import HandS.SetKeys
import KE.DataFind
import PyProof.NeKinds
import KE.KNestM
import KE.SortKeyHeap
import KE.SortLaws
import HandS.ListItems
import KE.SortData
import HandS.Strs
import KE.IntTextLaws
import HandS.Text
import KE.KExcInit
import HandS.ExcInit
import HandS.ExcField
import KE.KExcIs
import PySem.Challenge.RW_strokeguess_k13_told_rows_as_texts
set_option Elab.async false
set_option linter.all false
set_option maxRecDepth 100000
set_option maxHeartbeats 4000000
namespace B
open PySem PySem.Spec PyProof.Rows L2
abbrev St:=L2.St
theorem gc{H:Hp}{p:Addr}{o:HO}(h:H p=none):Same H (upd H p o):=fun a u e=>by
 rw [upd_ne (ne_of_none e h)];exact e
theorem oO{H H':Hp}{p:Addr}{o:HO}(e:Same H H')(h:H p=none):Same H (upd H' p o):=fun a u ha=>by
 rw [upd_ne (ne_of_none ha h)];exact e a u ha
def CPowW(i j:Int):Prop:=0<=j/\(Builtin.Int.intBits i:Int) * j<=2 ^ 27
theorem op_powW{X:Cx}:OpR X (binaryOp .Pow) (rI CPowW fun i j=>.int (i ^ j.toNat)):=opI fun _ _ _ _ _ _ _ hc q=>PyProof.Rows.pow_int hc.1 hc.2 q
section
variable{K:PySem.W.Frag}{σ : St}{H H1:Hp}{Q:VK}{v x y:V}{ta tb tc te:TE}{t u:TT}{D:Ends}{ts us:TS}{i:Nat}{QB:Bool->Hp->Prop}{QA:List V->Hp->Prop}
theorem rd_eqI{a b:Int}(q:Q (.bl (decide (a=b))) H):rEq (.int a) (.int b) H Q:=⟨rfl,by
 have e:decide (V.int a=V.int b)=decide (a=b):=by rw [Bool.eq_iff_iff]; simp
 rw [e]; exact q⟩
theorem rd_neI{a b:Int}(q:Q (.bl (decide (a≠b))) H):rNe (.int a) (.int b) H Q:=⟨rfl,by
 have e:(!decide (V.int a=V.int b))=decide (a≠b):=by rw [Bool.eq_iff_iff]; simp
 rw [e]; exact q⟩
theorem rd_eqS{a b:Str}(q:Q (.bl (decide (a=b))) H):rEq (.str a) (.str b) H Q:=⟨rfl,by
 have e:decide (V.str a=V.str b)=decide (a=b):=by rw [Bool.eq_iff_iff]; simp
 rw [e]; exact q⟩
theorem rd_neS{a b:Str}(q:Q (.bl (decide (a≠b))) H):rNe (.str a) (.str b) H Q:=⟨rfl,by
 have e:(!decide (V.str a=V.str b))=decide (a≠b):=by rw [Bool.eq_iff_iff]; simp
 rw [e]; exact q⟩
end
end B
namespace B
open PySem PySem.Spec PyProof.Rows L2
structure bA(K:PySem.W.Frag)(mg:Str->Option Value)(x:Str)(st:Stmt):Prop where
 ex:∃ (f:Addr) (fd:FuncData),FunD K x x (defArgs st) (defBody st) (defScope st) [] [] f fd/\mg x=some (.ref f)
section
variable{P:Program}{w:World}{K:PySem.W.Frag}{mg:Str->Option Value}{base:Heap}{k:Nat}{x:Str}{st:Stmt}{N ps:List Str}{sp:Sp}
theorem aL{h:Heap}{fa:List He.Fa}{fn:List He.DefD}(X:K.In h)(G:h.Ns mainGlobals mg)(c:He.SaysD fa fn K)(i j:Nat)(hd:fn[i]?=some ⟨(x,none),x,x,defArgs st,defBody st,defScope st,[],[]⟩)(hf:fa[j]?=some (.glo x)):bA K mg x st:=by
 obtain⟨fd,F⟩:=c.def_ i hd;exact⟨_,fd,F,He.glo_ok X G (c.fact j hf)⟩
end
end B
namespace B
open PySem PySem.Spec PyProof.Rows L2
section
variable{X:Cx}{K:PySem.W.Frag}{σ : St}{H:Hp}{Q:VK}{QB:Bool->Hp->Prop}{ta te:TE}
abbrev RL:=List V->Hp->VK->Prop
def uw(K:PySem.W.Frag):RL:=fun xs H Q=>∃ p ys,xs=[.ref p]/\(SqL K H p ys\/SqT K H p ys)/\Q (.int ys.length) H
theorem cl_len:CallR X (.builtin "len") (uw X.K):=call_len_seq
def rLenS:RL:=fun xs H Q=>∃ z,xs=[.str z]/\z.length<=sizeLine/\Q (.int z.length) H
theorem cl_lenS:CallR X (.builtin "len") rLenS:=call_len_str
theorem rd_lenS{z:Str}(h:z.length<=sizeLine)(q:Q (.int z.length) H):rLenS [.str z] H Q:=⟨z,rfl,h,q⟩
def qD:RL:=fun xs H Q=>(∃ i,xs=[.int i]/\Q (.int i) H)\/∃ k,xs=[.bl k]/\Q (.int (if k then 1 else 0)) H
theorem cl_int:CallR X (.type "int") qD:=call_int1
theorem rd_intI{i:Int}(q:Q (.int i) H):qD [.int i] H Q:=.inl ⟨i,rfl,q⟩
theorem rd_intB{k:Bool}(q:Q (.int (if k then 1 else 0)) H):qD [.bl k] H Q:=.inr ⟨k,rfl,q⟩
def rIsNo:R2:=fun x y H Q=>y = .non/\Q (.bl (decide (x = .non))) H
theorem oq_isN:OpR X (compareOp .Is) rIsNo:=op_isN
def rAddS:R2:=fun x y H Q=>∃ i j,x = .str i/\y = .str j/\i.length + j.length<=sizeLine/\Q (.str (i ++ j)) H
theorem oq_addS:OpR X (binaryOp .Add) rAddS:=op_add_str
def la(K:PySem.W.Frag)(ta:TE):TT:=fun σ H Q=>ta σ H fun x H'=>∃ k,TruV K x H' k/\Q k H'
theorem pt_tru{a:Expr}(ha:PE X a ta)(he:∀ whole,isTrue a X.env whole=(do let v <- whole; standAt a.pos; holding [v] (truthy v)):=by intro _; rfl):PT X a (la X.K ta):=pt_truth ha he
end
end B
namespace B
open PySem PySem.Spec PyProof.Rows L2
structure sd(M:List Addr)(G H G' H':Hp):Prop where
 gg:Same G G'
 gh:Same G' H'
 out:∀ b,G b=none->H b≠none->G' b=none
 fr:∀ b o,H b=some o->b ∉ M->H' b=some o
 dom:∀ b,H b≠none->H' b≠none
section
variable{M M':List Addr}{G0 H0 G1 H1 G2 H2 G H G' H':Hp}{K:PySem.W.Frag}{p l:Addr}{xs ys:List V}{Q:VK}{o o':HO}{v y:V}
theorem jF{b:Addr}(n:H p=none)(h:H b≠none):b≠p:=fun z=>h (by rw [z]; exact n)
theorem sd.data(h:Same G H)(n:H p=none):sd [] G H (upd G p o) (upd H p o) where
 gg:=gc (h.free n)
 gh:=fun b u e=>by
  by_cases hb:b=p
  .subst hb; rw [upd_same] at e ⊢; exact e
  .rw [upd_ne hb] at e ⊢; exact h b u e
 out:=fun b hg hh=>by rw [upd_ne (jF n hh)]; exact hg
 fr:=fun b u e _=>by rw [upd_ne (ne_of_none e n)]; exact e
 dom:=fun b hh=>by rw [upd_ne (jF n hh)]; exact hh
theorem sd.freeze(h:Same G H)(n:G p=none)(e:H p=some o):Same G (upd G p o)/\Same (upd G p o) H:=⟨gc n,fun b u eb=>by
 by_cases hb:b=p
 .subst hb; rw [upd_same] at eb; cases eb; exact e
 .rw [upd_ne hb] at eb; exact h b u eb⟩
end
end B
namespace B
open PySem PySem.Spec PyProof.Rows L2
section
variable{K:PySem.W.Frag}{σ : St}{G H:Hp}{Q:VK}{a:Addr}{kvs kvs':List (Key×V)}{s:Str}{v w:V}{R:V->Hp->Prop}{S:Hp->Prop}{td ty tv:TE}{D:Ends}
theorem cdivw{i j:Int}(h:0 < j)(h2:j < 18446744073709551616):CDivW i j:=⟨h,by
 have:j.natAbs < 2 ^ 64:=by omega
 exact Nat.lt_of_lt_of_le (PySem.Flt.log2_lt_of (by decide) this) (by decide)⟩
theorem pT{α : Type}{xs:List α}{i:Int}(h:xs≠[])(h0:0<=i)(h1:i < xs.length):∃ v,atI xs i=some v/\v∈xs/\xs[i.toNat]?=some v:=by
 obtain⟨j,rfl⟩:∃ j:Nat,i=j:=⟨i.toNat,by omega⟩;have hj:j < xs.length:=by omega
 exact⟨xs[j],atI_nat (by simp [hj]),List.getElem_mem hj,by simp [hj]⟩
end
end B
namespace B
open PySem PySem.Spec PyProof.Rows L2
def Shp(n:Nat)(d:PyData):Prop:=d.canLay0=true/\d.depth<=n
theorem shp_int{i:Int}{n:Nat}:Shp n (.int i):=⟨rfl,Nat.zero_le _⟩
theorem shp_non{n:Nat}:Shp n .none:=⟨rfl,Nat.zero_le _⟩
theorem shp_str{i:Str}{n:Nat}(h:PyData.strOk i=true):Shp n (.str i):=⟨by simpa [PyData.canLay0] using h,Nat.zero_le _⟩
theorem lq:∀ {ds:List PyData} {n:Nat},(∀ d∈ds,Shp n d)->PyData.canLayAll0 ds=true/\PyData.depthAll ds<=n
 | [],n,_=>⟨rfl,Nat.zero_le _⟩
 | d :: ds,n,h=>by
  obtain⟨h1,h2⟩:=h d (by simp);obtain⟨h3,h4⟩:=lq fun e he=>h e (List.mem_cons_of_mem _ he);exact⟨by simp [PyData.canLayAll0,h1,h3],by simp only [PyData.depthAll]; omega⟩
theorem shp_tup{ds:List PyData}{n:Nat}(h:∀ d∈ds,Shp n d):Shp (n + 1) (.tuple ds):=by
 obtain⟨h1,h2⟩:=lq h;exact⟨by simpa [PyData.canLay0] using h1,by simp only [PyData.depth]; omega⟩
theorem shp_lst{ds:List PyData}{n:Nat}(h:∀ d∈ds,Shp n d):Shp (n + 1) (.list ds):=by
 obtain⟨h1,h2⟩:=lq h;exact⟨by simpa [PyData.canLay0] using h1,by simp only [PyData.depth]; omega⟩
theorem Shp.mono{n m:Nat}{d:PyData}(h:Shp n d)(l:n<=m):Shp m d:=⟨h.1,Nat.le_trans h.2 l⟩
theorem Shp.ok{n:Nat}{d:PyData}(h:Shp n d)(l:n<=64:=by decide):SeqAt.shaped d=true:=by
 unfold SeqAt.shaped;rw [h.1,decide_eq_true (Nat.le_trans h.2 l)]; rfl
theorem Shp.refl{n:Nat}{d:PyData}(h:Shp n d):PyData.eqv d d=true:=SeqAt.eqv_refl_plain d (PyData.plain_of_canLay0 d h.1)
end B
namespace B
open PySem PySem.Spec PyProof.Rows L2
section
variable{K:PySem.W.Frag}{σ : St}{M:List Addr}{G0 H0 G H:Hp}{Q:VK}{l b:Addr}{xs zs:List V}{y:V}{to:TE}{t:TA}{T:String}{r:V->List V->Hp->VK->Prop}{P:Prop}
theorem rd_eqB{a b:Bool}(q:Q (.bl (decide (a=b))) H):rEq (.bl a) (.bl b) H Q:=⟨rfl,by
 have e:decide (V.bl a=V.bl b)=decide (a=b):=by rw [Bool.eq_iff_iff]; simp
 rw [e]; exact q⟩
theorem rd_neB{a b:Bool}(q:Q (.bl (decide (a≠b))) H):rNe (.bl a) (.bl b) H Q:=⟨rfl,by
 have e:(!decide (V.bl a=V.bl b))=decide (a≠b):=by rw [Bool.eq_iff_iff]; simp
 rw [e]; exact q⟩
end
end B
namespace B
open PySem PySem.Spec PyProof.Rows L2
section
variable{X:Cx}{e a b o tg:Expr}{es rest:List Expr}{te ta tb tl:TE}{t:TA}{pos apos cpos:Pos}{f name:Str}{T id:String}{r:V->List V->Hp->VK->Prop}
theorem ix_tupK(K:PySem.W.Frag)(h:X.K=K:=by rfl):IxR X (rIxT K):=by subst h; exact ix_tup
theorem uZ(K:PySem.W.Frag)(h:X.K=K:=by rfl):IxR X (rIxL K):=by subst h; exact ix_list
theorem cl_lenK(K:PySem.W.Frag)(h:X.K=K:=by rfl):CallR X (.builtin "len") (uw K):=by subst h; exact cl_len
theorem op_inK(K:PySem.W.Frag)(h:X.K=K:=by rfl):OpR X (compareOp .In) (rIn K false):=by subst h; exact op_in_seq
theorem op_ninK(K:PySem.W.Frag)(h:X.K=K:=by rfl):OpR X (compareOp .NotIn) (rIn K true):=by subst h; exact op_notIn_seq
theorem op_eqDK(K:PySem.W.Frag)(hu:X.A.units + 64 < cLine)(h:X.K=K:=by rfl):OpR X (compareOp .Eq) (rEqD K):=by subst h; exact op_eqD hu
theorem op_neDK(K:PySem.W.Frag)(hu:X.A.units + 64 < cLine)(h:X.K=K:=by rfl):OpR X (compareOp .NotEq) (rNeD K):=by subst h; exact op_neD hu
theorem tZ(K:PySem.W.Frag)(h:X.K=K:=by rfl):SlR X (rSlL K):=by subst h; exact sl_list
theorem uz(K:PySem.W.Frag)(hl:PE X e tl)(h:X.K=K:=by rfl):PI X tg e (iList K tl):=by subst h; exact pi_list hl
theorem pi_tupK(K:PySem.W.Frag)(hl:PE X e tl)(h:X.K=K:=by rfl):PI X tg e (iTup K tl):=by subst h; exact pi_tup hl
theorem pg_tupK(K:PySem.W.Frag){k:Nat}{t:TGs}{n:Nat}(hc:X.calm=true)(h:PGs X es t)(hK:X.K=K:=by rfl)(hn:(assignEach es X.env).length=n:=by rfl)(hst:(assignEach es X.env).findIdx? (·.1)=none:=by rfl):PG X (.Tuple es k pos) (gTup K n t):=by
 subst hK; exact pg_tup hc h hn hst
theorem pt_truK(K:PySem.W.Frag)(ha:PE X a ta)(h:X.K=K:=by rfl)(he:∀ whole,isTrue a X.env whole=(do let v <- whole; standAt a.pos; holding [v] (truthy v)):=by intro _; rfl):PT X a (la K ta):=by subst h; exact pt_tru ha he
theorem pe_orTK(K:PySem.W.Frag)(ha:PE X a ta)(hb:PE X (.BoolOp .Or (b :: rest) pos) tb)(h:X.K=K:=by rfl):PE X (.BoolOp .Or (a :: b :: rest) pos) (tOrT K ta tb):=by subst h; exact pe_orT ha hb
theorem uC(K:PySem.W.Frag)(ha:PE X a ta)(hb:PE X (.BoolOp .And (b :: rest) pos) tb)(h:X.K=K:=by rfl):PE X (.BoolOp .And (a :: b :: rest) pos) (tAndT K ta tb):=by subst h; exact pe_andT ha hb
theorem uA(K:PySem.W.Frag)(ha:PE X a ta)(h:X.K=K:=by rfl):PE X (.UnaryOp .Not a pos) (tNotT K ta):=by subst h; exact pe_notT ha
theorem pe_bmK(K:PySem.W.Frag)(pa:PlainAttrs T)(slot:Slot T name id)(hty:typeOf (.builtin id)=pure (.type "method_descriptor"))(hm:MtR X id r)(ho:PE X o ta)(ha:PA X (e :: es) t)(h:X.K=K:=by rfl)
  (hbase:attributeBase o name X.env (eval o X.env)=eval o X.env:=by rfl)
  (hfew:((backTo cpos (starEach (e :: es) X.env)).all (fun x=>!x.1) && (backToKw cpos (keywordEach [] X.env)).all (fun x=>x.1.isSome)
   && decide ((e :: es).length + ([]:List Keyword).length + (if ([]:List Keyword).isEmpty then 0 else 1) < 30))=true:=by rfl)
  (hline:(apos.endLine == cpos.line)=true:=by rfl) (hs:starEach (e :: es) X.env=(false,eval e X.env) :: starEach es X.env:=by rfl) (hplain:(backTo cpos (starEach es X.env)).any (·.1)=false:=by rfl) :
  PE X (.Call (.Attribute o name apos) (e :: es) [] cpos) (tBM K T r ta t):=by subst h; exact pe_bm pa slot hty hm ho ha hbase hfew hline hs hplain
theorem pQ(K:PySem.W.Frag)(h:X.K=K:=by rfl):CallR X (.builtin "isinstance") (rIsi K):=by subst h; exact call_isi
theorem cr_allK(K:PySem.W.Frag)(hc:X.calm=true)(h:X.K=K:=by rfl):CallR X (.builtin "all") (rAll K):=by subst h; exact cr_all hc
end
end B
namespace M
open PySem PySem.Spec PyProof.Rows L2 B
inductive Rf where
 | loc (i:Nat) | glo (s i:Nat)
 deriving DecidableEq
inductive Val where
 | non | bl (b:Bool) | int (i:Int) | str (x:Str) | lst (xs:List Val) | tup (xs:List Val) | dct (kvs:List (Key×Val)) | ref (r:Rf) | fn (f:Nat) | kt (xs:List Val) | scr (ns:List Int)
inductive Cel where
 | lst (xs:List Val) | dct (kvs:List (Key×Val)) | dtt (kvs:List (List Key×Val)) | ins (c:Nat) (fs:List (Nat×Val))
 /-- a dict that is walked now -/
 | ldc (kvs:List (Key×Val))
 /-- the code objects that a def has made,by their name -/
 | tab (q:Str)
 /-- an exception that was caught and kept: its class,its fields -/
 | exc (c:Nat) (fs:List (Nat×Val))
def Cel.lk:Cel->Bool
 | .ldc _=>true
 | _=>false
structure Hh where
 glo:Nat->List (Option Cel)
 loc:List Cel
mutual
def Val.nl:Val->Bool
 | .lst xs=>Val.nls xs
 | .tup xs=>Val.nls xs
 | .dct kvs=>Val.nlk kvs
 | .kt xs=>Val.nls xs
 | .ref (.loc _)=>false
 | _=>true
def Val.nls:List Val->Bool
 | []=>true
 | x :: xs=>x.nl && Val.nls xs
def Val.nlk:List (Key×Val)->Bool
 | []=>true
 | (_,x) :: xs=>x.nl && Val.nlk xs
end
def nlp{κ : Type}(kvs:List (κ×Val)):Bool:=kvs.all fun p=>p.2.nl
def Cel.nl:Cel->Bool
 | .lst xs=>Val.nls xs
 | .dct kvs=>nlp kvs
 | .dtt kvs=>nlp kvs
 | .ins _ fs=>nlp fs
 | .ldc kvs=>nlp kvs
 | .tab _=>true
 | .exc _ fs=>nlp fs
theorem lO:∀ xs:List Val,Val.nls xs=xs.all Val.nl
 | []=>rfl
 | x :: r=>by show(x.nl && Val.nls r)=(x.nl && r.all Val.nl); rw [lO r]
def Hh.get(h:Hh):Rf->Option Cel
 | .loc i=>h.loc[i]?
 | .glo s i=>match (h.glo s)[i]? with
  | some c=>c
  | none=>none
def Hh.has(h:Hh):Rf->Prop
 | .loc i=>i < h.loc.length
 | .glo s i=>i < (h.glo s).length
def upg(g:Nat->List (Option Cel))(s:Nat)(l:List (Option Cel)):Nat->List (Option Cel):=fun s'=>if s'=s then l else g s'
def Hh.set(h:Hh)(r:Rf)(c:Cel):Hh:=match r with
 | .loc i=>{ h with loc:=h.loc.set i c }
 | .glo s i=>{ h with glo:=upg h.glo s ((h.glo s).set i (some c)) }
def Hh.dk(h:Hh)(c:Cel):Hh:={ h with loc:=h.loc ++ [c] }
def Hh.bh(h:Hh)(s:Nat)(c:Cel):Hh:={ h with glo:=upg h.glo s (h.glo s ++ [some c]) }
theorem cw{h:Hh}{r:Rf}{c:Cel}(e:h.get r=some c):h.has r:=by
 cases r with
 | loc i=>exact(List.getElem?_eq_some_iff.mp e).1
 | glo s i =>
  show i < _;unfold Hh.get at e;dsimp only at e
  split at e
  .rename_i hc; exact(List.getElem?_eq_some_iff.mp hc).1
  .cases e
theorem dZ{h:Hh}{r r':Rf}{c:Cel}:(h.set r c).has r'↔h.has r':=by
 cases r <;> cases r' <;> simp [Hh.has,Hh.set,upg]
 rename_i s i s' i'
 by_cases e:s'=s
 .subst e; simp
 .simp [e]
theorem get_set{h:Hh}{r:Rf}{c:Cel}(hr:h.has r):(h.set r c).get r=some c:=by
 cases r with
 | loc i=>simp only [Hh.get,Hh.set]; exact List.getElem?_set_self hr
 | glo s i =>
  simp only [Hh.get,Hh.set,upg,if_pos]
  rw [List.getElem?_set_self hr]
theorem pJ{h:Hh}{r r':Rf}{c:Cel}(hr:r'≠r):(h.set r c).get r'=h.get r':=by
 cases r with
 | loc i =>
  cases r' with
  | loc j=>simp only [Hh.get,Hh.set]; exact List.getElem?_set_ne fun z=>hr (by rw [z])
  | glo s j=>rfl
 | glo s i =>
  cases r' with
  | loc j=>rfl
  | glo s' j =>
   simp only [Hh.get,Hh.set,upg]
   by_cases e:s'=s
   .subst e;rw [if_pos rfl,List.getElem?_set_ne fun z=>hr (by rw [z])]
   .rw [if_neg e]
theorem cW{h:Hh}{r:Rf}{c:Cel}:(h.dk c).has r↔h.has r\/r = .loc h.loc.length:=by
 cases r <;> simp [Hh.has,Hh.dk]
 omega
theorem cG{h:Hh}{s:Nat}{r:Rf}{c:Cel}:(h.bh s c).has r↔h.has r\/r = .glo s (h.glo s).length:=by
 cases r with
 | loc i=>simp [Hh.has,Hh.bh]
 | glo s' i =>
  simp only [Hh.has,Hh.bh,upg]
  by_cases e:s'=s
  .subst e; simp; omega
  .simp [e]
theorem iu{h:Hh}{r:Rf}{c:Cel}(hr:h.has r):(h.dk c).get r=h.get r:=by
 cases r with
 | loc i=>simp only [Hh.get,Hh.dk]; exact List.getElem?_append_left hr
 | glo s i=>rfl
theorem dB{h:Hh}{c:Cel}:(h.dk c).get (.loc h.loc.length)=some c:=by simp [Hh.get,Hh.dk]
theorem iw{h:Hh}{s:Nat}{r:Rf}{c:Cel}(hr:h.has r):(h.bh s c).get r=h.get r:=by
 cases r with
 | loc i=>rfl
 | glo s' i =>
  simp only [Hh.get,Hh.bh,upg]
  by_cases e:s'=s
  .subst e; rw [if_pos rfl,List.getElem?_append_left hr]
  .rw [if_neg e]
theorem dC{h:Hh}{s:Nat}{c:Cel}:(h.bh s c).get (.glo s (h.glo s).length)=some c:=by simp [Hh.get,Hh.bh,upg]
structure Pm where
 P:Program
 w:World
 K:PySem.W.Frag
 mg:Str->Option Value
 base:Heap
 nm:Nat->Str
 inj:∀ i j,nm i=nm j->i=j
 ca:Nat->Addr
 fa:Nat->Addr
 nf:Nat
 /-- defs that make lambdas: how many,their code objects,these objects' tables -/
 nt:Nat:=0
 tc:Nat->Addr:=fun _=>0
 ta:Nat->Addr:=fun _=>0
structure GoodC(p:Pm)(c:Nat):Prop where
 cls:Cls p.K (p.ca c)
 no:∀ f,f < p.nf->NoAttr p.K (p.ca c) (p.nm f)
def qE:Val->Bool
 | .tup [.str w,.str _]=>decide (w∈(["out","up","down","wait"]:List Str))
 | .tup [.str w,.int _]=>decide (w∈(["out","up","down","wait"]:List Str))
 | _=>false
def Tu(G:Hp)(a:Addr)(vs:List V)(xs:List Val):Prop:=(xs.all qE=true/\∃ o:Obj,G a=some (.frz o (.tup vs))/\o.dict=none)\/(G a=some (.tup vs)/\xs.all qE=false)
theorem Tu.mono{G G':Hp}{a:Addr}{vs:List V}{xs:List Val}(h:Tu G a vs xs)(e:Same G G'):Tu G' a vs xs:=h.imp (fun⟨z,o,h1,h2⟩=>⟨z,o,e _ _ h1,h2⟩) fun⟨h1,h2⟩=>⟨e _ _ h1,h2⟩
theorem Tu.sq{K:PySem.W.Frag}{G H:Hp}{a:Addr}{vs:List V}{xs:List Val}(h:Tu G a vs xs)(e:Same G H):SqT K H a vs:=h.elim (fun⟨_,o,h1,_⟩=>.inl (.inr ⟨o,e _ _ h1⟩)) fun⟨h1,_⟩=>.inl (.inl (e _ _ h1))
theorem Tu.ty{K:PySem.W.Frag}{G H:Hp}{a:Addr}{vs:List V}{xs:List Val}(h:Tu G a vs xs)(e:Same G H):TyX K H (.ref a) (.type "tuple"):=h.elim (fun⟨_,o,h1,_⟩=>.fTuple (e _ _ h1)) fun⟨h1,_⟩=>.base (.tup (e _ _ h1))
mutual
inductive Rv (p:Pm) (m:Rf->Addr) (hs:Rf->Prop) (G:Hp):V->Val->Prop
 | non:Rv p m hs G .non .non
 | bl (b:Bool):Rv p m hs G (.bl b) (.bl b)
 | int (i:Int):Rv p m hs G (.int i) (.int i)
 | str (x:Str):Rv p m hs G (.str x) (.str x)
 | lst {a:Addr} {vs:List V} {xs:List Val}:G a=some (.lst vs)->RvA p m hs G vs xs->Rv p m hs G (.ref a) (.lst xs)
 | tup {a:Addr} {vs:List V} {xs:List Val}:Tu G a vs xs->RvA p m hs G vs xs->Rv p m hs G (.ref a) (.tup xs)
 | dct {a:Addr} {o:Obj} {vs:List (Key×V)} {xs:List (Key×Val)}:G a=some (.frz o (.dK vs))->RvK p m hs G vs xs->Rv p m hs G (.ref a) (.dct xs)
 | ref {r:Rf}:hs r->Rv p m hs G (.ref (m r)) (.ref r)
 | fn (f:Nat):Rv p m hs G (.ref (p.fa f)) (.fn f)
 | kt {a:Addr} {vs:List V} {xs:List Val}:(∀ H:Hp,SqT p.K H a vs)->RvA p m hs G vs xs->Rv p m hs G (.ref a) (.kt xs)
 | scr {a:Addr} {ns:List Int}:SqL p.K G a (ns.map V.int)->Rv p m hs G (.ref a) (.scr ns)
inductive RvA (p:Pm) (m:Rf->Addr) (hs:Rf->Prop) (G:Hp):List V->List Val->Prop
 | nil:RvA p m hs G [] []
 | cons {v:V} {vs:List V} {x:Val} {xs:List Val}:Rv p m hs G v x->RvA p m hs G vs xs->RvA p m hs G (v :: vs) (x :: xs)
inductive RvK (p:Pm) (m:Rf->Addr) (hs:Rf->Prop) (G:Hp):List (Key×V)->List (Key×Val)->Prop
 | nil:RvK p m hs G [] []
 | cons {k:Key} {v:V} {vs:List (Key×V)} {x:Val} {xs:List (Key×Val)}:Rv p m hs G v x->RvK p m hs G vs xs->RvK p m hs G ((k,v) :: vs) ((k,x) :: xs)
end
section
variable{p:Pm}{m m':Rf->Addr}{hs hs':Rf->Prop}{G G' H:Hp}
theorem mS{K:PySem.W.Frag}{H H':Hp}{a:Addr}{xs:List V}(e:Same H H')(h:SqL K H a xs):SqL K H' a xs:=e.seq h
mutual
theorem Rv.mono(hm:∀ r,hs r->hs' r/\m' r=m r)(e:Same G G'):∀ {x:Val} {v:V},Rv p m hs G v x->Rv p m' hs' G' v x
 | .non,_,h=>by cases h; exact .non
 | .bl _,_,h=>by cases h; exact .bl _
 | .int _,_,h=>by cases h; exact .int _
 | .str _,_,h=>by cases h; exact .str _
 | .lst _,_,h=>by cases h with | lst h1 h2=>exact .lst (e _ _ h1) (RvA.mono hm e h2)
 | .tup _,_,h=>by cases h with | tup h1 h2=>exact .tup (h1.mono e) (RvA.mono hm e h2)
 | .dct _,_,h=>by cases h with | dct h1 h2=>exact .dct (e _ _ h1) (RvK.mono hm e h2)
 | .ref r,_,h=>by cases h with | ref h1=>rw [<- (hm r h1).2]; exact .ref (hm r h1).1
 | .fn _,_,h=>by cases h; exact .fn _
 | .kt _,_,h=>by cases h with | kt h1 h2=>exact .kt h1 (RvA.mono hm e h2)
 | .scr _,_,h=>by cases h with | scr h1=>exact .scr (mS e h1)
theorem RvA.mono(hm:∀ r,hs r->hs' r/\m' r=m r)(e:Same G G'):∀ {xs:List Val} {vs:List V},RvA p m hs G vs xs->RvA p m' hs' G' vs xs
 | [],_,h=>by cases h; exact .nil
 | _ :: _,_,h=>by cases h with | cons h1 h2=>exact .cons (Rv.mono hm e h1) (RvA.mono hm e h2)
theorem RvK.mono(hm:∀ r,hs r->hs' r/\m' r=m r)(e:Same G G'):∀ {xs:List (Key×Val)} {vs:List (Key×V)},RvK p m hs G vs xs->RvK p m' hs' G' vs xs
 | [],_,h=>by cases h; exact .nil
 | (k,x) :: _,_,h=>by cases h with | cons h1 h2=>exact .cons (Rv.mono hm e h1) (RvK.mono hm e h2)
end
mutual
theorem Rv.less(hm:∀ s i,hs (.glo s i)->hs' (.glo s i)):∀ {x:Val} {v:V},x.nl=true->Rv p m hs G v x->Rv p m hs' G v x
 | .non,_,_,h=>by cases h; exact .non
 | .bl _,_,_,h=>by cases h; exact .bl _
 | .int _,_,_,h=>by cases h; exact .int _
 | .str _,_,_,h=>by cases h; exact .str _
 | .lst _,_,n,h=>by cases h with | lst h1 h2=>exact .lst h1 (RvA.less hm n h2)
 | .tup _,_,n,h=>by cases h with | tup h1 h2=>exact .tup h1 (RvA.less hm n h2)
 | .dct _,_,n,h=>by cases h with | dct h1 h2=>exact .dct h1 (RvK.less hm n h2)
 | .ref (.glo s i),_,_,h=>by cases h with | ref h1=>exact .ref (hm s i h1)
 | .ref (.loc i),_,n,_=>by cases n
 | .fn _,_,_,h=>by cases h; exact .fn _
 | .kt _,_,n,h=>by cases h with | kt h1 h2=>exact .kt h1 (RvA.less hm n h2)
 | .scr _,_,_,h=>by cases h with | scr h1=>exact .scr h1
theorem RvA.less(hm:∀ s i,hs (.glo s i)->hs' (.glo s i)):∀ {xs:List Val} {vs:List V},Val.nls xs=true->RvA p m hs G vs xs->RvA p m hs' G vs xs
 | [],_,_,h=>by cases h; exact .nil
 | _ :: _,_,n,h=>by
  cases h with
  | cons h1 h2 =>
   have n':=Bool.and_eq_true_iff.mp n;exact .cons (Rv.less hm n'.1 h1) (RvA.less hm n'.2 h2)
theorem RvK.less(hm:∀ s i,hs (.glo s i)->hs' (.glo s i)):∀ {xs:List (Key×Val)} {vs:List (Key×V)},Val.nlk xs=true->RvK p m hs G vs xs->RvK p m hs' G vs xs
 | [],_,_,h=>by cases h; exact .nil
 | (k,x) :: _,_,n,h=>by
  cases h with
  | cons h1 h2 =>
   have n':=Bool.and_eq_true_iff.mp n;exact .cons (Rv.less hm n'.1 h1) (RvK.less hm n'.2 h2)
end
theorem RvA.len:∀ {xs:List Val} {vs:List V},RvA p m hs G vs xs->vs.length=xs.length
 | [],_,h=>by cases h; rfl
 | _ :: _,_,h=>by cases h with | cons _ h2=>simp [RvA.len h2]
theorem RvK.len:∀ {xs:List (Key×Val)} {vs:List (Key×V)},RvK p m hs G vs xs->vs.length=xs.length
 | [],_,h=>by cases h; rfl
 | _ :: _,_,h=>by cases h with | cons _ h2=>simp [RvK.len h2]
theorem RvA.at:∀ {xs:List Val} {vs:List V} {i:Nat} {x:Val},RvA p m hs G vs xs->xs[i]?=some x->∃ v,vs[i]?=some v/\Rv p m hs G v x
 | [],_,i,x,_,e=>by simp at e
 | _ :: _,_,0,x,h,e=>by cases h with | cons h1 _=>simp at e; subst e; exact⟨_,rfl,h1⟩
 | _ :: _,_,i + 1,x,h,e=>by
  cases h with
  | cons _ h2 =>
   obtain⟨d,h3,h4⟩:=RvA.at (i:=i) h2 (by simpa using e);exact⟨d,by simpa using h3,h4⟩
theorem RvA.app:∀ {xs ys:List Val} {vs ws:List V},RvA p m hs G vs xs->RvA p m hs G ws ys->RvA p m hs G (vs ++ ws) (xs ++ ys)
 | [],_,_,_,h,k=>by cases h; exact k
 | _ :: _,_,_,_,h,k=>by cases h with | cons h1 h2=>exact .cons h1 (RvA.app h2 k)
theorem RvA.take:∀ {xs:List Val} {vs:List V} (n:Nat),RvA p m hs G vs xs->RvA p m hs G (vs.take n) (xs.take n)
 | _,_,0,_=>.nil
 | [],_,_ + 1,h=>by cases h; exact .nil
 | _ :: _,_,n + 1,h=>by cases h with | cons h1 h2=>exact .cons h1 (RvA.take n h2)
theorem RvA.drop:∀ {xs:List Val} {vs:List V} (n:Nat),RvA p m hs G vs xs->RvA p m hs G (vs.drop n) (xs.drop n)
 | _,_,0,h=>h
 | [],_,_ + 1,h=>by cases h; exact .nil
 | _ :: _,_,n + 1,h=>by cases h with | cons h1 h2=>exact RvA.drop n h2
theorem RvA.repl{n:Nat}{xs:List Val}{vs:List V}(h:RvA p m hs G vs xs):RvA p m hs G (List.replicate n vs).flatten (List.replicate n xs).flatten:=by
 induction n with
 | zero=>exact .nil
 | succ n ih=>rw [List.replicate_succ,List.replicate_succ,List.flatten_cons,List.flatten_cons]; exact h.app ih
abbrev Rkv{κ : Type}(p:Pm)(m:Rf->Addr)(hs:Rf->Prop)(G:Hp):List (κ×V)->List (κ×Val)->Prop:=Paired fun q r=>q.1=r.1/\Rv p m hs G q.2 r.2
theorem RvK.pd:∀ {xs:List (Key×Val)} {vs:List (Key×V)},RvK p m hs G vs xs->Rkv p m hs G vs xs
 | [],_,h=>by cases h; exact .nil
 | _ :: _,_,h=>by cases h with | cons h1 h2=>exact .cons ⟨rfl,h1⟩ (RvK.pd h2)
theorem RvK.of:∀ {xs:List (Key×Val)} {vs:List (Key×V)},Rkv p m hs G vs xs->RvK p m hs G vs xs
 | [],_,h=>by cases h; exact .nil
 | (k,x) :: _,_,h=>by
  cases h with
  | @cons q _ _ _ h1 h2 =>
   obtain⟨k',v⟩:=q;obtain⟨e,h1⟩:=h1;dsimp only at e;subst e;exact .cons h1 (RvK.of h2)
theorem Rkv.mono{κ : Type}(hm:∀ r,hs r->hs' r/\m' r=m r)(e:Same G G'){vs:List (κ×V)}{xs:List (κ×Val)}(h:Rkv p m hs G vs xs):Rkv p m' hs' G' vs xs:=L2.Paired.mapP h fun _ _ h=>⟨h.1,h.2.mono hm e⟩
theorem Rkv.less{κ : Type}(hm:∀ s i,hs (.glo s i)->hs' (.glo s i)):∀ {xs:List (κ×Val)} {vs:List (κ×V)},nlp xs=true->Rkv p m hs G vs xs->Rkv p m hs' G vs xs
 | [],_,_,h=>by cases h; exact .nil
 | (k,x) :: xs,_,n,h=>by
  cases h with
  | cons h1 h2 =>
   have n':(x.nl && nlp xs)=true:=n;rw [Bool.and_eq_true] at n';exact .cons ⟨h1.1,h1.2.less hm n'.1⟩ (Rkv.less hm n'.2 h2)
def xco(a C:Addr)(d:Option Addr):HO:=.ext fun h=>∃ oe vs,h.get? a=some oe/\oe.cls = .ref C/\oe.dict=d/\oe.data = .fields vs
def XF(p:Pm)(m:Rf->Addr)(hs:Rf->Prop)(G:Hp)(d:Option Addr)(fs:List (Nat×Val)):Prop :=
 (fs=[]/\d=none)\/∃ a vs,d=some a/\G a=some (.xd vs)/\Rkv p m hs G vs (fs.map fun q=>(p.nm q.1,q.2))/\∀ q∈fs,q.1 < p.nf
theorem XF.mono(hm:∀ r,hs r->hs' r/\m' r=m r)(e:Same G G'){d:Option Addr}{fs:List (Nat×Val)}(h:XF p m hs G d fs):XF p m' hs' G' d fs :=
 h.imp id fun⟨a,vs,h1,h2,h3,h4⟩=>⟨a,vs,h1,e _ _ h2,h3.mono hm e,h4⟩
theorem qK{fs:List (Nat×Val)}{f:Nat->Str}:nlp (fs.map fun q=>(f q.1,q.2))=nlp fs:=by unfold nlp; rw [List.all_map]; rfl
theorem XF.less(hm:∀ s i,hs (.glo s i)->hs' (.glo s i)){d:Option Addr}{fs:List (Nat×Val)}(n:nlp fs=true)(h:XF p m hs G d fs):XF p m hs' G d fs :=
 h.imp id fun⟨a,vs,h1,h2,h3,h4⟩=>⟨a,vs,h1,h2,h3.less hm (qK.trans n),h4⟩
inductive dF (p:Pm) (m:Rf->Addr) (hs:Rf->Prop) (G:Hp):HO->Cel->Prop
 | lst {vs:List V} {xs:List Val}:RvA p m hs G vs xs->dF p m hs G (.lst vs) (.lst xs)
 | dct {vs:List (Key×V)} {xs:List (Key×Val)}:Rkv p m hs G vs xs->dF p m hs G (.dK vs) (.dct xs)
 | dtt {vs:List (List Key×V)} {xs:List (List Key×Val)}:Rkv p m hs G vs xs->dF p m hs G (.dT vs) (.dtt xs)
 | ins {c:Nat} {dx:Addr} {vs:List (Str×V)} {fs:List (Nat×Val)}:GoodC p c->(∀ q∈fs,q.1 < p.nf)->Rkv p m hs G vs (fs.map fun q=>(p.nm q.1,q.2))->dF p m hs G (.ins (p.ca c) dx vs) (.ins c fs)
 | ldc {o:Obj} {vs:List (Key×V)} {xs:List (Key×Val)}:Rkv p m hs G vs xs->dF p m hs G (.frz o (.dK vs)) (.ldc xs)
 | tab {ps:Array Value} {q:Str}:TriplesOk ps.toList->(∀ (pos:Pos) (cv:Value),codeAmong pos ps.toList=some cv->∃ c,cv = .ref c/\G c=some (LamX.CodeO c q))->dF p m hs G (.tbl ps) (.tab q)
 | exc {a:Addr} {c:Nat} {d:Option Addr} {fs:List (Nat×Val)}:XF p m hs G d fs->dF p m hs G (xco a (p.ca c) d) (.exc c fs)
theorem dF.nofrz{o:HO}{c:Cel}(h:dF p m hs G o c)(l:c.lk=false):∀ a b,o≠.frz a b:=fun a b z=>by
 subst z
 cases h with
 | ldc=>cases l
theorem dF.mono(hm:∀ r,hs r->hs' r/\m' r=m r)(e:Same G G'){o:HO}{c:Cel}(h:dF p m hs G o c):dF p m' hs' G' o c:=by
 cases h with
 | lst h=>exact .lst (h.mono hm e)
 | dct h=>exact .dct (h.mono hm e)
 | dtt h=>exact .dtt (h.mono hm e)
 | ins a b h=>exact .ins a b (h.mono hm e)
 | ldc h=>exact .ldc (h.mono hm e)
 | tab a b=>exact .tab a fun pos cv z=>(b pos cv z).imp fun c q=>⟨q.1,e _ _ q.2⟩
 | exc h=>exact .exc (h.mono hm e)
theorem dF.less(hm:∀ s i,hs (.glo s i)->hs' (.glo s i)){o:HO}{c:Cel}(n:c.nl=true)(h:dF p m hs G o c):dF p m hs' G o c:=by
 cases h with
 | lst h=>exact .lst (h.less hm n)
 | dct h=>exact .dct (h.less hm n)
 | dtt h=>exact .dtt (h.less hm n)
 | ins a b h=>exact .ins a b (h.less hm (qK.trans n))
 | ldc h=>exact .ldc (h.less hm n)
 | tab a b=>exact .tab a b
 | exc h=>exact .exc (h.less hm n)
end
structure Wo(p:Pm)(m:Rf->Addr)(h:Hh)(G H:Hp):Prop where
 gh:Same G H
 cel:∀ r c,h.get r=some c->G (m r)=none/\c.nl=true/\∃ o,H (m r)=some o/\dF p m h.has G o c
 inj:∀ r r',h.has r->h.has r'->m r=m r'->r=r'
 dom:∀ r,h.has r->H (m r)≠none
 tb:∀ k,k < p.nt->h.has (.glo 99 k)/\m (.glo 99 k)=p.ta k
def Own(m:Rf->Addr)(h:Hh)(b:Addr):Prop:=∃ r,h.has r/\m r=b
structure Stp(m:Rf->Addr)(h:Hh)(G H:Hp)(m':Rf->Addr)(h':Hh)(G' H':Hp):Prop where
 gg:Same G G'
 mm:∀ r,h.has r->h'.has r/\m' r=m r
 fr:∀ b o,H b=some o->¬ Own m h b->H' b=some o
 out:∀ b,H b≠none->¬ Own m h b->¬ Own m' h' b/\(G b=none->G' b=none)
 dom:∀ b,H b≠none->H' b≠none
 fz:∀ b o u,H b=some (.frz o u)->H' b=some (.frz o u)
structure Stw(m:Rf->Addr)(h:Hh)(G:Hp)(m':Rf->Addr)(h':Hh)(G':Hp):Prop where
 gg:Same G G'
 mm:∀ r,h.has r->h'.has r/\m' r=m r
theorem Stp.w{m m':Rf->Addr}{h h':Hh}{G H G' H':Hp}(s:Stp m h G H m' h' G' H'):Stw m h G m' h' G':=⟨s.gg,s.mm⟩
def upm(m:Rf->Addr)(r:Rf)(a:Addr):Rf->Addr:=fun r'=>if r'=r then a else m r'
section
variable{p:Pm}{m m' m1 m2:Rf->Addr}{h h' h1 h2:Hh}{G H G' H' G1 H1 G2 H2:Hp}{a b q:Addr}{c c':Cel}{o:HO}{v:V}{x:Val}{r:Rf}
theorem Stp.refl:Stp m h G H m h G H:=⟨Same.refl _,fun _ h=>⟨h,rfl⟩,fun _ _ h _=>h,fun _ _ n=>⟨n,id⟩,fun _ h=>h,fun _ _ _ h=>h⟩
theorem Stp.trans(s:Stp m h G H m1 h1 G1 H1)(t:Stp m1 h1 G1 H1 m2 h2 G2 H2):Stp m h G H m2 h2 G2 H2 where
 gg:=s.gg.trans t.gg
 mm:=fun r hr=>⟨(t.mm r (s.mm r hr).1).1,(t.mm r (s.mm r hr).1).2.trans (s.mm r hr).2⟩
 fr:=fun b o e n=>t.fr b o (s.fr b o e n) (s.out b (by rw [e]; simp) n).1
 out:=fun b e n=>⟨(t.out b (s.dom b e) (s.out b e n).1).1,fun g=>(t.out b (s.dom b e) (s.out b e n).1).2 ((s.out b e n).2 g)⟩
 dom:=fun b e=>t.dom b (s.dom b e)
 fz:=fun b o u e=>t.fz b o u (s.fz b o u e)
theorem Rv.stp(s:Stp m h G H m1 h1 G1 H1)(r:Rv p m h.has G v x):Rv p m1 h1.has G1 v x:=r.mono s.mm s.gg
theorem RvA.stw{p:Pm}{m m1:Rf->Addr}{h h1:Hh}{G G1:Hp}{vs:List V}{xs:List Val}(s:Stw m h G m1 h1 G1)(r:RvA p m h.has G vs xs):RvA p m1 h1.has G1 vs xs:=r.mono s.mm s.gg
theorem RvA.stp{vs:List V}{xs:List Val}(s:Stp m h G H m1 h1 G1 H1)(r:RvA p m h.has G vs xs):RvA p m1 h1.has G1 vs xs:=r.mono s.mm s.gg
theorem Wo.fresh(w:Wo p m h G H)(n:H q=none):¬ Own m h q:=fun⟨r,hr,e⟩=>w.dom r hr (by rw [e]; exact n)
theorem Wo.data(w:Wo p m h G H)(n:H q=none):Wo p m h (upd G q o) (upd H q o)/\Stp m h G H m h (upd G q o) (upd H q o):=by
 have gn:=w.gh.free n;refine⟨⟨(sd.data w.gh n).gh,fun r c e=>?_,w.inj,fun r hr=>?_,w.tb⟩,⟨gc gn,fun _ h=>⟨h,rfl⟩,fun b u e _=>by rw [upd_ne (ne_of_none e n)]; exact e,fun b hb e=>⟨e,fun g=>by rw [upd_ne (jF n hb)]; exact g⟩,fun b hb=>by rw [upd_ne (jF n hb)]; exact hb,fun b o u e=>by rw [upd_ne (ne_of_none e n)]; exact e⟩⟩
 .obtain⟨h1,hn,u,h2,h3⟩:=w.cel r c e;have hb:m r≠q:=fun z=>w.fresh n ⟨r,cw e,z⟩;exact⟨by rw [upd_ne hb]; exact h1,hn,u,by rw [upd_ne hb]; exact h2,h3.mono (fun _ h=>⟨h,rfl⟩) (gc gn)⟩
 .have hb:m r≠q:=fun z=>w.fresh n ⟨r,hr,z⟩;rw [upd_ne hb]; exact w.dom r hr
theorem Wo.mut(w:Wo p m h G H)(e:h.get r=some c')(hn:c.nl=true)(hc:dF p m h.has G o c)(lk:c'.lk=false:=by rfl):Wo p m (h.set r c) G (upd H (m r) o)/\Stp m h G H m (h.set r c) G (upd H (m r) o):=by
 have hr:=cw e;obtain⟨gn,_,u,hu,cu⟩:=w.cel r c' e;have hh:(h.set r c).has=h.has:=funext fun r'=>propext dZ;refine⟨⟨oO w.gh gn,fun r' x hx=>?_,fun r1 r2 h1 h2=>w.inj r1 r2 (dZ.mp h1) (dZ.mp h2),fun r' h'=>?_,fun k hk=>⟨dZ.mpr (w.tb k hk).1,(w.tb k hk).2⟩⟩,⟨Same.refl _,fun r' h'=>⟨dZ.mpr h',rfl⟩,fun b u e n=>?_,fun b _ n=>⟨fun⟨r',h1,h2⟩=>n ⟨r',dZ.mp h1,h2⟩,id⟩,fun b hb=>?_,fun b o' u' e'=>?_⟩⟩
 .rw [hh]
  by_cases er:r'=r
  .subst er; rw [get_set hr] at hx; cases hx; exact⟨gn,hn,o,upd_same,hc⟩
  .rw [pJ er] at hx;obtain⟨h1,n1,u,h2,h3⟩:=w.cel r' x hx;have hb:m r'≠m r:=fun z=>er (w.inj _ _ (cw hx) hr z);exact⟨h1,n1,u,by rw [upd_ne hb]; exact h2,h3⟩
 .by_cases er:m r'=m r
  .rw [er,upd_same]; simp
  .rw [upd_ne er]; exact w.dom r' (dZ.mp h')
 .rw [upd_ne fun z=>n ⟨r,hr,z.symm⟩]; exact e
 .by_cases er:b=m r
  .rw [er,upd_same]; simp
  .rw [upd_ne er]; exact hb
 .have hb:b≠m r:=fun z=>by
   rw [z,hu] at e';exact cu.nofrz lk _ _ (Option.some.inj e')
  rw [upd_ne hb]; exact e'
theorem Wo.cell(w:Wo p m h G H)(n:H q=none)(hh:∀ r',h'.has r'↔h.has r'\/r'=r)(hr:¬ h.has r)(hg:∀ r',h.has r'->h'.get r'=h.get r')(hgr:h'.get r=some c)(hn:c.nl=true)(hc:dF p m h.has G o c) :
  Wo p (upm m r q) h' G (upd H q o)/\Stp m h G H (upm m r q) h' G (upd H q o):=by
 have gn:=w.gh.free n;have hm:∀ r',h.has r'->h'.has r'/\upm m r q r'=m r':=fun r' h'=>⟨(hh r').mpr (.inl h'),by unfold upm; rw [if_neg (fun z:r'=r=>hr (by rw [<- z]; exact h'))]⟩;have hq:upm m r q r=q:=by unfold upm; rw [if_pos rfl]
 have hne:∀ r',h.has r'->m r'≠q:=fun r' h' z=>w.fresh n ⟨r',h',z⟩;refine⟨⟨oO w.gh gn,fun r' x hx=>?_,fun r1 r2 h1 h2 e=>?_,fun r' h'=>?_,fun k hk=>⟨(hm _ (w.tb k hk).1).1,(hm _ (w.tb k hk).1).2.trans (w.tb k hk).2⟩⟩,⟨Same.refl _,hm,fun b u e _=>by rw [upd_ne (ne_of_none e n)]; exact e,fun b hb nb=>⟨fun⟨r',h1,h2⟩=>?_,id⟩,fun b hb=>by rw [upd_ne (jF n hb)]; exact hb,fun b o u e=>by rw [upd_ne (ne_of_none e n)]; exact e⟩⟩
 .rcases (hh r').mp (cw hx) with h1 | rfl
  .rw [(hm r' h1).2];rw [hg r' h1] at hx;obtain⟨h2,n1,u,h3,h4⟩:=w.cel r' x hx;exact⟨h2,n1,u,by rw [upd_ne (hne r' h1)]; exact h3,h4.mono hm (Same.refl _)⟩
  .rw [hgr] at hx; cases hx;rw [hq];exact⟨gn,hn,o,upd_same,hc.mono hm (Same.refl _)⟩
 .rcases (hh r1).mp h1 with h1 | rfl
  .rcases (hh r2).mp h2 with h2 | rfl
   .rw [(hm r1 h1).2,(hm r2 h2).2] at e; exact w.inj _ _ h1 h2 e
   .rw [(hm r1 h1).2,hq] at e; exact absurd e (hne r1 h1)
  .rcases (hh r2).mp h2 with h2 | rfl
   .rw [(hm r2 h2).2,hq] at e; exact absurd e.symm (hne r2 h2)
   .rfl
 .rcases (hh r').mp h' with h1 | rfl
  .rw [(hm r' h1).2,upd_ne (hne r' h1)]; exact w.dom r' h1
  .rw [hq,upd_same]; simp
 .rcases (hh r').mp h1 with h1 | rfl
  .rw [(hm r' h1).2] at h2; exact nb ⟨r',h1,h2⟩
  .rw [hq] at h2; exact hb (by rw [<- h2]; exact n)
theorem Wo.cellL(w:Wo p m h G H)(n:H q=none)(hn:c.nl=true)(hc:dF p m h.has G o c):Wo p (upm m (.loc h.loc.length) q) (h.dk c) G (upd H q o)/\Stp m h G H (upm m (.loc h.loc.length) q) (h.dk c) G (upd H q o) :=
 w.cell n (fun _=>cW) (Nat.lt_irrefl _) (fun _ h=>iu h) dB hn hc
theorem Wo.cellG{s:Nat}(w:Wo p m h G H)(n:H q=none)(hn:c.nl=true)(hc:dF p m h.has G o c):Wo p (upm m (.glo s (h.glo s).length) q) (h.bh s c) G (upd H q o)/\Stp m h G H (upm m (.glo s (h.glo s).length) q) (h.bh s c) G (upd H q o) :=
 w.cell n (fun _=>cG) (Nat.lt_irrefl _) (fun _ h=>iw h) dC hn hc
end
end M
namespace L2
open PySem PySem.Spec PyProof.Rows
section
variable{X:Cx}{pins:List (Addr×Obj)}{σ : St}{H:Hp}{s:Shared}{Q:VK}
def TQ(Q:VK)(p:Addr)(H:Hp)(xs:List V):Prop:=(∀ o:Obj,o.dict=none->Q (.ref p) (upd H p (.frz o (.tup xs))))\/Q (.ref p) (upd H p (.tup xs))
theorem i9{us:List Value}{xs:List V}(I:Inv X pins σ H s)(r:Vals xs us)(z:xs.length<=sizeLine)(q:∀ p,H p=none->TQ Q p H xs):EP X pins σ Q (.ref s.heap.objs.size) { s with heap:=s.heap.push { cls:=.type "tuple",data:=.seq us.toArray } }:=by
 rcases q _ (I.hok.fresh (Nat.le_refl _)) with q | q
 .exact⟨.ref s.heap.objs.size,upd H s.heap.objs.size (.frz { cls:=.type "tuple",data:=.seq us.toArray } (.tup xs)),I.laid (t':=s.toks) (fun b ob e=>Heap.get?_push_of_some _ e) (Nat.le_refl _) ⟨Heap.get?_push_size _ rfl,z,us,r,⟨_,Heap.get?_push_size _ rfl,rfl,_,rfl⟩⟩,rfl,q _ rfl⟩
 .exact⟨.ref s.heap.objs.size,upd H s.heap.objs.size (.tup xs),I.laid (t':=s.toks) (fun b ob e=>Heap.get?_push_of_some _ e) (Nat.le_refl _) ⟨z,us,r,⟨_,Heap.get?_push_size _ rfl,rfl,_,rfl⟩⟩,rfl,q⟩
def tTupF(t:TA):TE:=fun σ H Q=>t σ H fun xs H1=>xs.length<=sizeLine/\∀ p,H1 p=none->TQ Q p H1 xs
theorem pe_tupF{es:List Expr}{k:Nat}{pos:Pos}{t:TA}(h:PA X es t):PE X (.Tuple es k pos) (tTupF t) :=
 ⟨fun pins s σ H Q I hq=>wpAny_Tuple_spliced (thn (h.run pos pins s σ H _ I hq) fun us s1 ⟨xs,H1,I1,r,z,q⟩=>⟨by rw [<- r.length]; exact z,i9 I1 r z q⟩)⟩
def rCatF(K:PySem.W.Frag):R2:=fun x y H Q=>∃ a b xs ys,x = .ref a/\y = .ref b/\SqT K H a xs/\SqT K H b ys/\xs.length + ys.length<=sizeLine /\
 (xs=[]->Q (.ref b) H)/\(xs≠[]->ys=[]->Q (.ref a) H)/\(xs≠[]->ys≠[]->∀ p,H p=none->TQ Q p H (xs ++ ys))
theorem op_catF(K:PySem.W.Frag)(h:X.K=K):OpR X (binaryOp .Add) (rCatF K):=by
 subst h;intro pins s σ H x y v u Q I rx ry h;obtain⟨a,b,xs,ys,rfl,rfl,ha,hb,hz,q0,q1,q2⟩:=h
 cases rx; cases ry
 obtain⟨its,r1,p1,_⟩:=I.tuple ha;obtain⟨jts,r2,p2,_⟩:=I.tuple hb
 by_cases hx:xs=[]
 .subst hx
  cases r1
  exact L2.cat_tup0 p1 p2 ⟨.ref b,H,I,rfl,q0 rfl⟩
 .exact HT.cat_tup p1 p2 (fun z=>hx (r1.nil_iff.mp z)) (fun z=>⟨.ref a,H,I,rfl,q1 hx (r2.nil_iff.mp z)⟩) (fun z=>i9 I (r1.append r2) (by rw [List.length_append]; exact hz) (q2 hx fun w=>z (r2.nil_iff.mpr w))) (by rw [<- r1.length,<- r2.length]; exact hz)
def rSlF(K:PySem.W.Frag):V->Option Int->Option Int->Hp->VK->Prop:=fun x lo hi H Q=>∃ a xs,x = .ref a/\SqT K H a xs /\
 (HT.sIx xs.length 0 lo=0/\HT.sIx xs.length xs.length hi=xs.length->Q (.ref a) H)/\(¬ (HT.sIx xs.length 0 lo=0/\HT.sIx xs.length xs.length hi=xs.length)->∀ p,H p=none->TQ Q p H (cutV xs lo hi))
theorem sl_tupF(K:PySem.W.Frag)(h:X.K=K):SlR X (rSlF K):=by
 subst h;intro pins s σ H x v vl vu lo hi sl Q I rx hs pl pu h;obtain⟨a,xs,rfl,hx,q1,q2⟩:=h
 cases rx
 obtain⟨its,r,ht,hz⟩:=I.tuple hx;have hlen:its.toArray.size=xs.length:=by rw [List.size_toArray]; exact r.length.symm
 refine⟨"tuple",_,PyProof.Rows.slot_tuple_getitem.lookup,ht.typeIs,?_⟩
 by_cases hw:HT.sIx xs.length 0 lo=0/\HT.sIx xs.length xs.length hi=xs.length
 .exact L2.getItem_tuple_whole ht hs pl pu (by rw [hlen]; exact hw) ⟨.ref a,H,I,rfl,q1 hw⟩
 .refine HT.getItem_tuple_cut ht hs pl pu (by rw [hlen]; exact hw) ?_ (by rw [hlen]; exact hz);rw [hlen];exact i9 I ((r.drop (HT.sIx xs.length 0 lo)).take (HT.sIx xs.length xs.length hi - HT.sIx xs.length 0 lo)) (Nat.le_trans (cutV_length xs lo hi) hz) (q2 hw)
def rTupF(K:PySem.W.Frag):List V->Hp->VK->Prop:=fun xs H Q=>∃ p ys,xs=[.ref p]/\((SqL K H p ys/\∀ l,H l=none->TQ Q l H ys)\/(SqT K H p ys/\Q (.ref p) H))
theorem cl_tupF(K:PySem.W.Frag)(h:X.K=K):CallR X (.type "tuple") (rTupF K):=by
 subst h;intro pins s σ H xs us Q I r h;obtain⟨p,ys,rfl,h⟩:=h;obtain⟨u,rfl,rx⟩:=vals1 r
 cases rx
 rcases h with ⟨hq,q⟩ | ⟨hq,q⟩
 .obtain⟨its,r',pl,hz⟩:=I.list hq;refine call_tuple_list pl.isList (fun h' kp=>?_) (by rw [List.size_toArray,<- r'.length]; exact hz);have I1:Inv X pins σ H { s with heap:=h' }:=I.kept (t':=s.toks) kp;exact i9 I1 r' hz q
 .exact call_tupleT pins s σ H _ _ Q I r ⟨p,ys,rfl,hq,q⟩
end
end L2
namespace M
open PySem PySem.Spec PyProof.Rows L2 B
abbrev Sl:=List (Option Val)
structure En(p:Pm)(m:Rf->Addr)(h:Hh)(G:Hp)(σ : L2.St)(δ : Sl):Prop where
 len:σ.length = δ.length
 get:∀ (i:Nat) (x:Val),δ[i]?=some (some x)->∃ v,σ[i]?=some (some v)/\Rv p m h.has G v x
def cZ(δ : Sl):List Nat->Sl
 | []=>δ
 | v :: vs=>(cZ δ vs).set v none
section
variable{p:Pm}{m m1:Rf->Addr}{h h1:Hh}{G H G1 H1:Hp}{σ : L2.St}{δ : Sl}{v:V}{x:Val}
theorem En.stp(s:Stp m h G H m1 h1 G1 H1)(e:En p m h G σ δ):En p m1 h1 G1 σ δ:=⟨e.len,fun i x hx=>by
 obtain⟨v,a,b⟩:=e.get i x hx;exact⟨v,a,b.stp s⟩⟩
theorem En.set(e:En p m h G σ δ)(i:Nat)(r:Rv p m h.has G v x):En p m h G (σ.set i (some v)) (δ.set i (some x)):=⟨by simp [e.len],fun j y he=>by
 by_cases hij:i=j
 .subst hij
  by_cases hl:i < δ.length
  .rw [List.getElem?_set_self hl] at he
   cases he
   exact⟨v,by rw [List.getElem?_set_self (by rw [e.len]; exact hl)],r⟩
  .rw [List.getElem?_eq_none (by simp; omega)] at he; cases he
 .rw [List.getElem?_set_ne hij] at he ⊢;exact e.get j y he⟩
theorem En.unset(e:En p m h G σ δ)(i:Nat):En p m h G (σ.set i none) (δ.set i none):=⟨by simp [e.len],fun j y he=>by
 by_cases hij:i=j
 .subst hij
  by_cases hl:i < δ.length
  .rw [List.getElem?_set_self hl] at he; cases he
  .rw [List.getElem?_eq_none (by simp; omega)] at he; cases he
 .rw [List.getElem?_set_ne hij] at he ⊢;exact e.get j y he⟩
theorem En.wipe(e:En p m h G σ δ):∀ vs:List Nat,En p m h G (L2.wipe σ vs) (cZ δ vs)
 | []=>e
 | v :: vs=>(En.wipe e vs).unset v
end
inductive Res (α : Type) where
 | err | ok (a:α) (h:Hh) | exc (c:Nat) (fs:List (Nat×Val)) (h:Hh)
def Res.bind{α β : Type}(r:Res α)(k:α->Hh->Res β):Res β:=match r with
 | .err=>.err
 | .ok a h=>k a h
 | .exc c fs h=>.exc c fs h
def ofO{α : Type}(o:Option α)(h:Hh):Res α:=match o with
 | some a=>.ok a h
 | none=>.err
def XR(p:Pm)(m:Rf->Addr)(h:Hh)(G H:Hp)(c:Nat)(fs:List (Nat×Val))(cls:Value)(d:Option Addr):Prop :=
 cls = .ref (p.ca c)/\XF p m h.has G d fs
abbrev kc(α β : Type):=(Rf->Addr)->Hh->Hp->β->α->Prop
def aq{α β : Type}(p:Pm)(R:kc α β)(m:Rf->Addr)(h:Hh)(G H:Hp)(W:WX)(σ : L2.St)(Q:β->Hp->Prop):Res α->Prop
 | .err=>False
 | .ok x h'=>∀ m' G' u H',Stp m h G H m' h' G' H'->Wo p m' h' G' H'->R m' h' G' u x->Q u H'
 | .exc c fs h'=>∀ m' G' H' cls d,Stp m h G H m' h' G' H'->Wo p m' h' G' H'->XR p m' h' G' H' c fs cls d->W cls d σ H'
section
variable{α β γ ε : Type}{p:Pm}{R:kc α β}{R':kc γ ε}{m m1:Rf->Addr}{h h1:Hh}{G H G1 H1:Hp}{W:WX}{σ : L2.St}{Q:β->Hp->Prop}{Q':ε->Hp->Prop}{r:Res α}{k:α->Hh->Res γ}
theorem aq.after(s:Stp m h G H m1 h1 G1 H1)(e:aq p R m h G H W σ Q r):aq p R m1 h1 G1 H1 W σ Q r:=by
 cases r with
 | err=>exact e
 | ok x h'=>exact fun m' G' u H' s' w' r'=>e m' G' u H' (s.trans s') w' r'
 | exc c fs h'=>exact fun m' G' H' cls d s' w' x'=>e m' G' H' cls d (s.trans s') w' x'
theorem aq.bind(e:aq p R' m h G H W σ Q' (r.bind k))(step:∀ x h1 m1 G1 u H1,Stp m h G H m1 h1 G1 H1->Wo p m1 h1 G1 H1->R m1 h1 G1 u x->aq p R' m1 h1 G1 H1 W σ Q' (k x h1)->Q u H1):aq p R m h G H W σ Q r:=by
 cases r with
 | err=>exact e
 | ok x h'=>exact fun m' G' u H' s' w' r'=>step x h' m' G' u H' s' w' r' (aq.after s' e)
 | exc c fs h'=>exact e
theorem aq.here{x:α}{u:β}(e:aq p R m h G H W σ Q (.ok x h))(w:Wo p m h G H)(r:R m h G u x):Q u H:=e m G u H .refl w r
theorem aq.step{x:α}{u:β}(e:aq p R m h G H W σ Q (.ok x h1))(s:Stp m h G H m1 h1 G1 H1)(w:Wo p m1 h1 G1 H1)(r:R m1 h1 G1 u x):Q u H1:=e m1 G1 u H1 s w r
theorem endO{o:Option α}(e:aq p R m h G H W σ Q (ofO o h)):∃ x,o=some x/\aq p R m h G H W σ Q (.ok x h):=by
 cases o with
 | none=>exact e.elim
 | some x=>exact⟨x,rfl,e⟩
end
def rV(p:Pm):kc Val V:=fun m h G u x=>Rv p m h.has G u x
def rA(p:Pm):kc (List Val) (List V):=fun m h G u x=>RvA p m h.has G u x
def rE{α : Type}:kc α α:=fun _ _ _ u x=>u=x
def Snd{α β : Type}(p:Pm)(R:kc α β)(t:WX->L2.St->Hp->(β->Hp->Prop)->Prop)(f:Sl->Hh->Res α):Prop :=
 ∀ W σ δ m h G H Q,En p m h G σ δ->Wo p m h G H->aq p R m h G H W σ Q (f δ h)->t W σ H Q
def hQ(K:PySem.W.Frag)(a:Addr)(fd:FuncData):Prop:=∃ oc od osl,K.lookup a=some ⟨oc,od,.func fd,osl⟩
structure Ct where
 p:Pm
 k:Nat
 sc:Scope
 N:List Str
 fn:Str->Bool
 /-- the def one stands in: its address,the names within it -/
 cf:Addr
 ql:Str
 /-- a def's own block,no comprehension's -/
 tp:Bool
structure Good(C:Ct)(W:WX)(X:Cx):Prop where
 prog:X.prog=C.p.P
 w:X.w=C.p.w
 K:X.K=C.p.K
 mg:X.mg=C.p.mg
 base:X.base=C.p.base
 N:X.N=C.N
 nd:X.N.Nodup
 sc:X.env.scope=C.sc
 fn:X.fn=C.fn
 calm:X.calm=true
 room:Room C.k X.A
 gd:X.A.guards=some []
 pass:PassesOwn (model X.prog X.w) X.A X.env X.xe
 takes:Takes X W
 cd:∀ fd,hQ C.p.K C.cf fd->X.env.code=fd.code
 ql:X.env.qual=C.ql
 top:C.tp=true->X.stack=X.env :: X.outer/\X.env.frame=some X.env.locals/\X.ex=[]
theorem Good.un{C:Ct}{W:WX}{X:Cx}(g:Good C W X):X.A.units + 64 < cLine:=g.room.units
theorem Good.u1{C:Ct}{W:WX}{X:Cx}(g:Good C W X):X.A.units + 1 < cLine:=by have:=g.room.units; omega
theorem Good.gl{C:Ct}{W:WX}{X:Cx}{x:Str}(g:Good C W X)(h:C.sc.names.lookup x=some .globalImplicit):Gl X x:=by
 show X.env.scope.names.lookup x=_;rw [g.sc]; exact h
def SE(C:Ct)(e:Expr)(f:Sl->Hh->Res Val):Prop:=∃ t:WX->TE,(∀ W X,Good C W X->PE X e (t W))/\Snd C.p (rV C.p) t f
def ST(C:Ct)(e:Expr)(f:Sl->Hh->Res Bool):Prop:=∃ t:WX->TT,(∀ W X,Good C W X->PT X e (t W))/\Snd C.p rE t f
def SW(C:Ct)(e:Expr)(f:Sl->Hh->Res Bool):Prop:=∃ t:WX->TT,(∀ W X,Good C W X->PW X e (t W))/\Snd C.p rE t f
def SA(C:Ct)(es:List Expr)(f:Sl->Hh->Res (List Val)):Prop:=∃ t:WX->TA,(∀ W X,Good C W X->PA X es (t W))/\Snd C.p (rA C.p) t f
def SO(C:Ct)(e:Option Expr)(f:Sl->Hh->Res (Option Int)):Prop:=∃ t:WX->TO,(∀ W X,Good C W X->PO X e (t W))/\Snd C.p rE t f
def ah(i:Nat):Sl->Hh->Res Val:=fun δ h=>match δ[i]? with
 | some (some x)=>.ok x h
 | _=>.err
def mK(x:Val):Sl->Hh->Res Val:=fun _ h=>.ok x h
section
variable{C:Ct}{a b e:Expr}{es:List Expr}{pos:Pos}{fa fb fc:Sl->Hh->Res Val}
theorem oP{i:Nat}{x:Str}(hN:C.N[i]?=some x)(hv:Vis C.sc x)(hd:(x == ("__debug__" : Str))=false:=by decide)(hcd:(x == ("__classdict__" : Str))=false:=by decide):SE C (.Name x pos) (ah i):=by
 refine⟨fun _=>tVar i,fun W X g=>pe_var (by rw [g.N]; exact hN) (by rw [g.sc]; exact hv) hd hcd,fun W σ δ m h G H Q en w e=>?_⟩;unfold ah at e
 split at e
 .rename_i x hx;obtain⟨v,h1,h2⟩:=en.get i x hx;exact⟨v,h1,e.here w h2⟩
 .exact e.elim
theorem ai{i:Int}{j:Nat}:SE C (.Constant (.int i) j pos) (mK (.int i)):=⟨fun _=>tC (.int i),fun _ _ _=>pe_int,fun W σ δ m h G H Q en w e=>aq.here e w (.int i)⟩
theorem aw{i:Str}{j:Nat}:SE C (.Constant (.str i) j pos) (mK (.str i)):=⟨fun _=>tC (.str i),fun _ _ _=>pe_str,fun W σ δ m h G H Q en w e=>aq.here e w (.str i)⟩
theorem qw{i:Bool}{j:Nat}:SE C (.Constant (.bool i) j pos) (mK (.bl i)):=⟨fun _=>tC (.bl i),fun _ _ _=>pe_bl,fun W σ δ m h G H Q en w e=>aq.here e w (.bl i)⟩
theorem aY{j:Nat}:SE C (.Constant .none j pos) (mK .non):=⟨fun _=>tC .non,fun _ _ _=>pe_non,fun W σ δ m h G H Q en w e=>aq.here e w .non⟩
def hR(p:Pm)(x:Str)(y:Val):Prop:=∃ u v,p.mg x=some u/\RelV v u/\∀ m h G,Rv p m h G v y
theorem dR{x:Str}{y:Val}(hg:hR C.p x y)(hl:C.sc.names.lookup x=some .globalImplicit)(hd:(x == ("__debug__" : Str))=false:=by decide):SE C (.Name x pos) (mK y):=by
 obtain⟨u,v,h1,h2,h3⟩:=hg;exact⟨fun _=>tC v,fun W X g=>pe_glob (g.gl hl) (by rw [g.mg]; exact h1) h2 hd,fun W σ δ m h G H Q en w e=>aq.here e w (h3 m h.has G)⟩
def cA(p:Pm)(r:R2)(g:Hh->Val->Val->Res Val):Prop:=∀ m h G H u v x y Q W σ,Wo p m h G H->Rv p m h.has G u x->Rv p m h.has G v y->aq p (rV p) m h G H W σ Q (g h x y)->r u v H Q
def m2(g:Hh->Val->Val->Res Val)(fa fb:Sl->Hh->Res Val):Sl->Hh->Res Val:=fun δ h=>(fa δ h).bind fun x h1=>(fb δ h1).bind fun y h2=>g h2 x y
theorem ia{r:R2}{g:Hh->Val->Val->Res Val}{ta tb:WX->TE}(hr:cA C.p r g)(sa:Snd C.p (rV C.p) ta fa)(sb:Snd C.p (rV C.p) tb fb):Snd C.p (rV C.p) (fun W=>tOp r (ta W) (tb W)) (m2 g fa fb):=fun W σ δ m h G H Q en w e =>
 sa W σ δ m h G H _ en w (aq.bind e fun x h1 m1 G1 u H1 s1 w1 r1 e1 =>
  sb W σ δ m1 h1 G1 H1 _ (en.stp s1) w1 (aq.bind e1 fun y h2 m2 G2 v H2 s2 w2 r2 e2=>hr m2 h2 G2 H2 u v x y Q W σ w2 (Rv.stp s2 r1) r2 e2))
theorem iL{op:Operator}{r:R2}{g:Hh->Val->Val->Res Val}(ho:∀ W X,Good C W X->OpR X (binaryOp op) r)(hr:cA C.p r g)(ha:SE C a fa)(hb:SE C b fb):SE C (.BinOp a op b pos) (m2 g fa fb):=by
 obtain⟨ta,pa,sa⟩:=ha;obtain⟨tb,pb,sb⟩:=hb;exact⟨fun W=>tOp r (ta W) (tb W),fun W X g=>pe_op (ho W X g) (pa W X g) (pb W X g),ia hr sa sb⟩
theorem se_cmp{op:CmpOp}{r:R2}{g:Hh->Val->Val->Res Val}(ho:∀ W X,Good C W X->OpR X (compareOp op) r)(hr:cA C.p r g)(ha:SE C a fa)(hb:SE C b fb)(hm:behindInMarks op b=false):SE C (.Compare a [op] [b] pos) (m2 g fa fb):=by
 obtain⟨ta,pa,sa⟩:=ha;obtain⟨tb,pb,sb⟩:=hb;exact⟨fun W=>tOp r (ta W) (tb W),fun W X g=>pe_cmpR (ho W X g) (pa W X g) (pb W X g) hm,ia hr sa sb⟩
def asB(x:Val)(h:Hh):Res Bool:=match x with
 | .bl b=>.ok b h
 | _=>.err
def mB(f:Sl->Hh->Res Val):Sl->Hh->Res Bool:=fun δ h=>(f δ h).bind asB
theorem gG{t:WX->TE}{f:Sl->Hh->Res Val}(s:Snd C.p (rV C.p) t f):Snd C.p rE (fun W=>tTest (t W)) (mB f):=fun W σ δ m h G H Q en w e =>
 s W σ δ m h G H _ en w (aq.bind e fun x h1 m1 G1 u H1 s1 w1 r1 e1=>by
  unfold asB at e1
  split at e1
  .cases r1
   exact⟨_,rfl,aq.here e1 w1 rfl⟩
  .exact e1.elim)
theorem st_cmp{op:CmpOp}{r:R2}{g:Hh->Val->Val->Res Val}(ho:∀ W X,Good C W X->OpR X (compareOp op) r)(hr:cA C.p r g)(ha:SE C a fa)(hb:SE C b fb)(hm:behindInMarks op b=false):ST C (.Compare a [op] [b] pos) (mB (m2 g fa fb)):=by
 obtain⟨ta,pa,sa⟩:=ha;obtain⟨tb,pb,sb⟩:=hb;exact⟨fun W=>tTest (tOp r (ta W) (tb W)),fun W X g=>pt_cmpR (ho W X g) (pa W X g) (pb W X g) hm,gG (ia hr sa sb)⟩
def mCh(g g':Hh->Val->Val->Res Val)(fa fb fc:Sl->Hh->Res Val):Sl->Hh->Res Val:=fun δ h=>(fa δ h).bind fun x h1=>(fb δ h1).bind fun y h2=>(g h2 x y).bind fun z h3=>match z with
 | .bl true=>(fc δ h3).bind fun w h4=>g' h4 y w
 | .bl false=>.ok (.bl false) h3
 | _=>.err
theorem tW{r r':R2}{g g':Hh->Val->Val->Res Val}{ta tb tc:WX->TE}(hr:cA C.p r g)(hr':cA C.p r' g')(sa:Snd C.p (rV C.p) ta fa)(sb:Snd C.p (rV C.p) tb fb)(sc:Snd C.p (rV C.p) tc fc) :
  Snd C.p (rV C.p) (fun W=>tChain r r' (ta W) (tb W) (tc W)) (mCh g g' fa fb fc):=fun W σ δ m h G H Q en w e =>
 sa W σ δ m h G H _ en w (aq.bind e fun x h1 m1 G1 u H1 s1 w1 r1 e1 =>
  sb W σ δ m1 h1 G1 H1 _ (en.stp s1) w1 (aq.bind e1 fun y h2 m2 G2 v H2 s2 w2 r2 e2 =>
   hr m2 h2 G2 H2 u v x y _ W σ w2 (Rv.stp s2 r1) r2 (aq.bind e2 fun z h3 m3 G3 zv H3 s3 w3 r3 e3=>by
    have s13:=(s1.trans s2).trans s3
    split at e3
    .cases r3
     refine⟨true,rfl,?_⟩;exact sc W σ δ m3 h3 G3 H3 _ (en.stp s13) w3 (aq.bind e3 fun q h4 m4 G4 qv H4 s4 w4 r4 e4=>hr' m4 h4 G4 H4 v qv y q Q W σ w4 (Rv.stp (s3.trans s4) r2) r4 e4)
    .cases r3
     exact⟨false,rfl,aq.here e3 w3 (.bl false)⟩
    .exact e3.elim)))
theorem t8{op op':CmpOp}{r r':R2}{g g':Hh->Val->Val->Res Val}{c:Expr}(ho:∀ W X,Good C W X->OpR X (compareOp op) r)(ho':∀ W X,Good C W X->OpR X (compareOp op') r')(hr:cA C.p r g)(hr':cA C.p r' g')
  (ha:SE C a fa) (hb:SE C b fb) (hc:SE C c fc) (hm:lastMarks [op,op'] [b,c]=false:=by rfl):SE C (.Compare a [op,op'] [b,c] pos) (mCh g g' fa fb fc):=by
 obtain⟨ta,pa,sa⟩:=ha;obtain⟨tb,pb,sb⟩:=hb;obtain⟨tc,pc,sc⟩:=hc;exact⟨fun W=>tChain r r' (ta W) (tb W) (tc W),fun W X g=>pe_chain (ho W X g) (ho' W X g) (pa W X g) (pb W X g) (pc W X g) hm,tW hr hr' sa sb sc⟩
theorem tR{op op':CmpOp}{r r':R2}{g g':Hh->Val->Val->Res Val}{c:Expr}(ho:∀ W X,Good C W X->OpR X (compareOp op) r)(ho':∀ W X,Good C W X->OpR X (compareOp op') r')(hr:cA C.p r g)(hr':cA C.p r' g')
  (ha:SE C a fa) (hb:SE C b fb) (hc:SE C c fc) (hm:lastMarks [op,op'] [b,c]=false:=by rfl):ST C (.Compare a [op,op'] [b,c] pos) (mB (mCh g g' fa fb fc)):=by
 obtain⟨ta,pa,sa⟩:=ha;obtain⟨tb,pb,sb⟩:=hb;obtain⟨tc,pc,sc⟩:=hc;exact⟨fun W=>tTest (tChain r r' (ta W) (tb W) (tc W)),fun W X g=>pt_chain (ho W X g) (ho' W X g) (pa W X g) (pb W X g) (pc W X g) hm,gG (tW hr hr' sa sb sc)⟩
def gV(f g:Sl->Hh->Res Bool):Sl->Hh->Res Bool:=fun δ h=>(f δ h).bind fun c h1=>if c=true then g δ h1 else .ok false h1
def dX(f g:Sl->Hh->Res Bool):Sl->Hh->Res Bool:=fun δ h=>(f δ h).bind fun c h1=>if c=true then .ok true h1 else g δ h1
def de(f:Sl->Hh->Res Bool):Sl->Hh->Res Bool:=fun δ h=>(f δ h).bind fun c h1=>.ok (!c) h1
variable{ft fu:Sl->Hh->Res Bool}
theorem snd_and{t u:WX->TT}(s:Snd C.p rE t ft)(s':Snd C.p rE u fu):Snd C.p rE (fun W=>tAnd (t W) (u W)) (gV ft fu):=fun W σ δ m h G H Q en w e =>
 s W σ δ m h G H _ en w (aq.bind e fun c h1 m1 G1 c' H1 s1 w1 r1 e1=>by
  cases r1
  cases c
  .exact aq.here e1 w1 rfl
  .exact s' W σ δ m1 h1 G1 H1 Q (en.stp s1) w1 e1)
theorem snd_or{t u:WX->TT}(s:Snd C.p rE t ft)(s':Snd C.p rE u fu):Snd C.p rE (fun W=>tOr (t W) (u W)) (dX ft fu):=fun W σ δ m h G H Q en w e =>
 s W σ δ m h G H _ en w (aq.bind e fun c h1 m1 G1 c' H1 s1 w1 r1 e1=>by
  cases r1
  cases c
  .exact s' W σ δ m1 h1 G1 H1 Q (en.stp s1) w1 e1
  .exact aq.here e1 w1 rfl)
theorem snd_not{t:WX->TT}(s:Snd C.p rE t ft):Snd C.p rE (fun W=>tNot (t W)) (de ft):=fun W σ δ m h G H Q en w e =>
 s W σ δ m h G H _ en w (aq.bind e fun c h1 m1 G1 c' H1 s1 w1 r1 e1=>by
  cases r1
  exact aq.here e1 w1 rfl)
theorem hZ{rest:List Expr}(ha:ST C a ft)(hb:SW C (.BoolOp .And (b :: rest) pos) fu):SW C (.BoolOp .And (a :: b :: rest) pos) (gV ft fu):=by
 obtain⟨ta,pa,sa⟩:=ha;obtain⟨tb,pb,sb⟩:=hb;exact⟨fun W=>tAnd (ta W) (tb W),fun W X g=>pw_and (pa W X g) (pb W X g),snd_and sa sb⟩
theorem cU{rest:List Expr}(ha:ST C a ft)(hb:SW C (.BoolOp .Or (b :: rest) pos) fu):SW C (.BoolOp .Or (a :: b :: rest) pos) (dX ft fu):=by
 obtain⟨ta,pa,sa⟩:=ha;obtain⟨tb,pb,sb⟩:=hb;exact⟨fun W=>tOr (ta W) (tb W),fun W X g=>pw_or (pa W X g) (pb W X g),snd_or sa sb⟩
theorem fy(ha:ST C a ft):SW C (.BoolOp .And [a] pos) ft:=by
 obtain⟨ta,pa,sa⟩:=ha;exact⟨ta,fun W X g=>pw_and1 (pa W X g),sa⟩
theorem eO(ha:ST C a ft):SW C (.BoolOp .Or [a] pos) ft:=by
 obtain⟨ta,pa,sa⟩:=ha;exact⟨ta,fun W X g=>pw_or1 (pa W X g),sa⟩
theorem bz(h:SW C e ft):ST C e ft:=by
 obtain⟨ta,pa,sa⟩:=h;exact⟨ta,fun W X g=>(pa W X g).pt,sa⟩
theorem c6(ha:ST C a ft):ST C (.UnaryOp .Not a pos) (de ft):=by
 obtain⟨ta,pa,sa⟩:=ha;exact⟨fun W=>tNot (ta W),fun W X g=>pt_not (pa W X g),snd_not sa⟩
def jk(h:Hh):Val->Option Bool
 | .non=>some false
 | .bl b=>some b
 | .int i=>some (i != 0)
 | .str z=>if z.length<=1000000 then some ((z.length:Int) != 0) else none
 | .lst xs=>some (!xs.isEmpty)
 | .tup xs=>some (!xs.isEmpty)
 | .kt xs=>some (!xs.isEmpty)
 | .scr ns=>some (!ns.isEmpty)
 | .dct _=>none
 | .ref r=>match h.get r with
  | some (.lst xs)=>some (!xs.isEmpty)
  | some (.dct kvs)=>some (!kvs.isEmpty)
  | _=>none
 | .fn _=>none
theorem aK{n:Nat}(h:n<=1000000):n<=sizeLine:=Nat.le_trans h (by decide)
theorem g7{α β : Type}{xs:List α}{ys:List β}(h:xs.length=ys.length):xs.isEmpty=ys.isEmpty:=by
 cases xs <;> cases ys <;> simp_all
variable{p:Pm}{m:Rf->Addr}{h:Hh}{G H:Hp}{u:V}{x:Val}{c:Bool}
theorem fx(w:Wo p m h G H)(r:Rv p m h.has G u x)(t:jk h x=some c):TruV p.K u H c:=by
 cases r with
 | non=>cases t; rfl
 | bl=>cases t; rfl
 | int=>cases t; rfl
 | str z =>
  have t:(if z.length<=1000000 then some ((z.length:Int) != 0) else none)=some c:=t
  split at t
  .cases t; exact⟨aK (by assumption),rfl⟩
  .cases t
 | lst h1 h2=>cases t; exact .inl ⟨_,SqL.of (w.gh _ _ h1),by rw [g7 h2.len]⟩
 | tup h1 h2=>cases t; exact .inr (.inl ⟨_,(h1.sq w.gh),by rw [g7 h2.len]⟩)
 | dct h1 h2=>cases t
 | kt h1 h2=>cases t; exact .inr (.inl ⟨_,h1 H,by rw [g7 h2.len]⟩)
 | scr h1=>cases t; exact .inl ⟨_,mS w.gh h1,by simp⟩
 | fn=>cases t
 | @ref r hr =>
  have t:(match h.get r with
   | some (.lst xs)=>some (!xs.isEmpty)
   | some (.dct kvs)=>some (!kvs.isEmpty)
   | _=>none)=some c:=t
  split at t
  .rename_i hc
   cases t
   obtain⟨_,_,o,h3,h4⟩:=w.cel _ _ hc
   cases h4 with | lst h4=>exact .inl ⟨_,SqL.of h3,by rw [g7 h4.len]⟩
  .rename_i hc
   cases t
   obtain⟨_,_,o,h3,h4⟩:=w.cel _ _ hc
   cases h4 with | dct h4=>exact .inr (.inr ⟨_,h3,by rw [g7 h4.length]⟩)
  .cases t
def gT(f:Sl->Hh->Res Val):Sl->Hh->Res Bool:=fun δ h=>(f δ h).bind fun x h1=>ofO (jk h1 x) h1
theorem snd_tru{t:WX->TE}{f:Sl->Hh->Res Val}(s:Snd C.p (rV C.p) t f):Snd C.p rE (fun W=>la C.p.K (t W)) (gT f):=fun W σ δ m h G H Q en w e =>
 s W σ δ m h G H _ en w (aq.bind e fun x h1 m1 G1 u H1 s1 w1 r1 e1=>by
  obtain⟨c,hc,e2⟩:=endO e1;exact⟨c,fx w1 r1 hc,aq.here e2 w1 rfl⟩)
theorem c5(ha:SE C a fa)(he:∀ env whole,isTrue a env whole=(do let v <- whole; standAt a.pos; holding [v] (truthy v)):=by intro _ _; rfl):ST C a (gT fa):=by
 obtain⟨ta,pa,sa⟩:=ha;exact⟨fun W=>la C.p.K (ta W),fun W X g=>pt_truK C.p.K (pa W X g) g.K (he X.env),snd_tru sa⟩
def jH(fa fb:Sl->Hh->Res Val):Sl->Hh->Res Val:=fun δ h=>(fa δ h).bind fun x h1=>match jk h1 x with
 | some true=>fb δ h1
 | some false=>.ok x h1
 | none=>.err
def mOrV(fa fb:Sl->Hh->Res Val):Sl->Hh->Res Val:=fun δ h=>(fa δ h).bind fun x h1=>match jk h1 x with
 | some true=>.ok x h1
 | some false=>fb δ h1
 | none=>.err
def uQ(fa:Sl->Hh->Res Val):Sl->Hh->Res Val:=fun δ h=>(fa δ h).bind fun x h1=>match jk h1 x with
 | some c=>.ok (.bl (!c)) h1
 | none=>.err
theorem jo{rest:List Expr}(ha:SE C a fa)(hb:SE C (.BoolOp .And (b :: rest) pos) fb):SE C (.BoolOp .And (a :: b :: rest) pos) (jH fa fb):=by
 obtain⟨ta,pa,sa⟩:=ha;obtain⟨tb,pb,sb⟩:=hb;refine⟨fun W=>tAndT C.p.K (ta W) (tb W),fun W X g=>uC C.p.K (pa W X g) (pb W X g) g.K,fun W σ δ m h G H Q en w e=>sa W σ δ m h G H _ en w (aq.bind e fun x h1 m1 G1 u H1 s1 w1 r1 e1=>?_)⟩
 split at e1
 .rename_i hc; exact⟨true,fx w1 r1 hc,sb W σ δ m1 h1 G1 H1 Q (en.stp s1) w1 e1⟩
 .rename_i hc; exact⟨false,fx w1 r1 hc,aq.here e1 w1 r1⟩
 .exact e1.elim
theorem se_or{rest:List Expr}(ha:SE C a fa)(hb:SE C (.BoolOp .Or (b :: rest) pos) fb):SE C (.BoolOp .Or (a :: b :: rest) pos) (mOrV fa fb):=by
 obtain⟨ta,pa,sa⟩:=ha;obtain⟨tb,pb,sb⟩:=hb;refine⟨fun W=>tOrT C.p.K (ta W) (tb W),fun W X g=>pe_orTK C.p.K (pa W X g) (pb W X g) g.K,fun W σ δ m h G H Q en w e=>sa W σ δ m h G H _ en w (aq.bind e fun x h1 m1 G1 u H1 s1 w1 r1 e1=>?_)⟩
 split at e1
 .rename_i hc; exact⟨true,fx w1 r1 hc,aq.here e1 w1 r1⟩
 .rename_i hc; exact⟨false,fx w1 r1 hc,sb W σ δ m1 h1 G1 H1 Q (en.stp s1) w1 e1⟩
 .exact e1.elim
theorem lr{op:BoolOp}(ha:SE C a fa):SE C (.BoolOp op [a] pos) fa:=by
 obtain⟨ta,pa,sa⟩:=ha;exact⟨ta,fun W X g=>pe_one (pa W X g),sa⟩
theorem se_not(ha:SE C a fa):SE C (.UnaryOp .Not a pos) (uQ fa):=by
 obtain⟨ta,pa,sa⟩:=ha;refine⟨fun W=>tNotT C.p.K (ta W),fun W X g=>uA C.p.K (pa W X g) g.K,fun W σ δ m h G H Q en w e=>sa W σ δ m h G H _ en w (aq.bind e fun x h1 m1 G1 u H1 s1 w1 r1 e1=>?_)⟩
 split at e1
 .rename_i c hc; exact⟨c,fx w1 r1 hc,aq.here e1 w1 (.bl _)⟩
 .exact e1.elim
def mIf(ft:Sl->Hh->Res Bool)(fa fb:Sl->Hh->Res Val):Sl->Hh->Res Val:=fun δ h=>(ft δ h).bind fun c h1=>if c=true then fa δ h1 else fb δ h1
theorem kq{c:Expr}(hc:ST C c ft)(ha:SE C a fa)(hb:SE C b fb):SE C (.IfExp c a b pos) (mIf ft fa fb):=by
 obtain⟨tc,pc,sc⟩:=hc;obtain⟨ta,pa,sa⟩:=ha;obtain⟨tb,pb,sb⟩:=hb;refine⟨fun W=>tIf (tc W) (ta W) (tb W),fun W X g=>pe_ifExp (pc W X g) (pa W X g) (pb W X g),fun W σ δ m h G H Q en w e=>sc W σ δ m h G H _ en w (aq.bind e fun x h1 m1 G1 u H1 s1 w1 r1 e1=>?_)⟩
 cases r1
 cases x
 .exact sb W σ δ m1 h1 G1 H1 Q (en.stp s1) w1 e1
 .exact sa W σ δ m1 h1 G1 H1 Q (en.stp s1) w1 e1
def ar:Sl->Hh->Res (List Val):=fun _ h=>.ok [] h
def ae(f:Sl->Hh->Res Val)(g:Sl->Hh->Res (List Val)):Sl->Hh->Res (List Val):=fun δ h=>(f δ h).bind fun x h1=>(g δ h1).bind fun xs h2=>.ok (x :: xs) h2
variable{fs:Sl->Hh->Res (List Val)}
theorem af:SA C [] ar:=⟨fun _=>tNil,fun _ _ _=>pa_nil,fun W σ δ m h G H Q en w e=>aq.here e w .nil⟩
theorem aa(ha:SE C e fa)(hr:SA C es fs)(hs:∀ env,starEach (e :: es) env=(false,eval e env) :: starEach es env:=by intro _; rfl):SA C (e :: es) (ae fa fs):=by
 obtain⟨ta,pa,sa⟩:=ha;obtain⟨tb,pb,sb⟩:=hr;refine⟨fun W=>tCons (ta W) (tb W),fun W X g=>pa_cons (pa W X g) (pb W X g) (hs _),fun W σ δ m h G H Q en w e=>sa W σ δ m h G H _ en w (aq.bind e fun x h1 m1 G1 u H1 s1 w1 r1 e1=>?_)⟩;exact sb W σ δ m1 h1 G1 H1 _ (en.stp s1) w1 (aq.bind e1 fun xs h2 m2 G2 us H2 s2 w2 r2 e2=>aq.here e2 w2 (.cons (Rv.stp s2 r1) r2))
theorem eZ{Q:VK}{W:WX}{σ : L2.St}{q:Addr}{vs:List V}{xs:List Val}(e:aq p (rV p) m h G H W σ Q (.ok (.tup xs) h))(w:Wo p m h G H)(n:H q=none)(r:RvA p m h.has G vs xs):L2.TQ Q q H vs:=by
 by_cases hp:xs.all qE=true
 .refine .inl fun o ho=>?_;have ww:=w.data (o:=.frz o (.tup vs)) n;exact e.step ww.2 ww.1 (.tup (.inl ⟨hp,o,upd_same,ho⟩) (RvA.stp ww.2 r))
 .have ww:=w.data (o:=.tup vs) n;exact .inr (e.step ww.2 ww.1 (.tup (.inr ⟨upd_same,by simpa using hp⟩) (RvA.stp ww.2 r)))
theorem eY{Q:VK}{W:WX}{σ : L2.St}{q:Addr}{vs:List V}{xs:List Val}(e:aq p (rV p) m h G H W σ Q (.ok (.lst xs) h))(w:Wo p m h G H)(n:H q=none)(r:RvA p m h.has G vs xs):Q (.ref q) (upd H q (.lst vs)):=by
 have ww:=w.data (o:=.lst vs) n;exact e.step ww.2 ww.1 (.lst upd_same (RvA.stp ww.2 r))
inductive Md where
 | dat | loc | glo (s:Nat)
def bJ(md:Md)(xs:List Val)(h:Hh):Res Val:=match md with
 | .dat=>.ok (.lst xs) h
 | .loc=>if Val.nls xs=true then .ok (.ref (.loc h.loc.length)) (h.dk (.lst xs)) else .err
 | .glo s=>if Val.nls xs=true then .ok (.ref (.glo s (h.glo s).length)) (h.bh s (.lst xs)) else .err
theorem ml{Q:VK}{W:WX}{σ : L2.St}{q:Addr}{vs:List V}{xs:List Val}{md:Md}(e:aq p (rV p) m h G H W σ Q (bJ md xs h))(w:Wo p m h G H)(n:H q=none)(r:RvA p m h.has G vs xs):Q (.ref q) (upd H q (.lst vs)):=by
 cases md with
 | dat=>exact eY e w n r
 | loc =>
  unfold bJ at e;dsimp only at e
  split at e
  .rename_i hn;have ww:=w.cellL (c:=.lst xs) n hn (.lst r);refine e.step ww.2 ww.1 ?_;have:upm m (.loc h.loc.length) q (.loc h.loc.length)=q:=by unfold upm; rw [if_pos rfl]
   have rr:Rv p (upm m (.loc h.loc.length) q) (h.dk (.lst xs)).has G (.ref (upm m (.loc h.loc.length) q (.loc h.loc.length))) (.ref (.loc h.loc.length)):=.ref (cW.mpr (.inr rfl));rw [this] at rr;exact rr
  .exact e.elim
 | glo s =>
  unfold bJ at e;dsimp only at e
  split at e
  .rename_i hn;have ww:=w.cellG (s:=s) (c:=.lst xs) n hn (.lst r);refine e.step ww.2 ww.1 ?_;have:upm m (.glo s (h.glo s).length) q (.glo s (h.glo s).length)=q:=by unfold upm; rw [if_pos rfl]
   have rr:Rv p (upm m (.glo s (h.glo s).length) q) (h.bh s (.lst xs)).has G (.ref (upm m (.glo s (h.glo s).length) q (.glo s (h.glo s).length))) (.ref (.glo s (h.glo s).length)):=.ref (cG.mpr (.inr rfl));rw [this] at rr;exact rr
  .exact e.elim
def lP(fs:Sl->Hh->Res (List Val)):Sl->Hh->Res Val:=fun δ h=>(fs δ h).bind fun xs h1=>if xs.length<=1000000 then .ok (.tup xs) h1 else .err
def aV(md:Md)(fs:Sl->Hh->Res (List Val)):Sl->Hh->Res Val:=fun δ h=>(fs δ h).bind fun xs h1=>if xs.length<=1000000 then bJ md xs h1 else .err
theorem gi{k:Nat}(ha:SA C es fs):SE C (.Tuple es k pos) (lP fs):=by
 obtain⟨ta,pa,sa⟩:=ha;refine⟨fun W=>tTupF (ta W),fun W X g=>pe_tupF (pa W X g),fun W σ δ m h G H Q en w e=>sa W σ δ m h G H _ en w (aq.bind e fun x h1 m1 G1 u H1 s1 w1 r1 e1=>?_)⟩
 split at e1
 .exact⟨by rw [RvA.len r1]; exact aK (by assumption),fun q n=>eZ e1 w1 n r1⟩
 .exact e1.elim
theorem aC(md:Md)(ha:SA C es fs):SE C (.List es pos) (aV md fs):=by
 obtain⟨ta,pa,sa⟩:=ha;refine⟨fun W=>tLst (ta W),fun W X g=>pe_lst (pa W X g),fun W σ δ m h G H Q en w e=>sa W σ δ m h G H _ en w (aq.bind e fun x h1 m1 G1 u H1 s1 w1 r1 e1=>?_)⟩
 split at e1
 .exact⟨by rw [RvA.len r1]; exact aK (by assumption),fun q n=>ml e1 w1 n r1⟩
 .exact e1.elim
end
end M
namespace M
open PySem PySem.Spec PyProof.Rows L2 B
def rdM(h:Hh):Val->Option (List Val)
 | .lst xs=>some xs
 | .ref r=>match h.get r with
  | some (.lst xs)=>some xs
  | _=>none
 | _=>none
def rdL(h:Hh):Val->Option (List Val)
 | .scr ns=>some (ns.map Val.int)
 | x=>rdM h x
def rdT:Val->Option (List Val)
 | .tup xs=>some xs
 | .kt xs=>some xs
 | _=>none
def rdQ(h:Hh)(x:Val):Option (List Val):=match rdT x with
 | some xs=>some xs
 | none=>rdL h x
section
variable{p:Pm}{m:Rf->Addr}{h:Hh}{G H:Hp}{u v:V}{x y:Val}{xs:List Val}
theorem gk(w:Wo p m h G H)(r:Rv p m h.has G u x)(t:rdM h x=some xs):∃ a vs,u = .ref a/\H a=some (.lst vs)/\RvA p m h.has G vs xs:=by
 cases r with
 | lst h1 h2=>cases t; exact⟨_,_,rfl,w.gh _ _ h1,h2⟩
 | @ref r hr =>
  have t:(match h.get r with | some (.lst xs)=>some xs | _=>none)=some xs:=t
  split at t
  .rename_i hc
   cases t
   obtain⟨_,_,o,h3,h4⟩:=w.cel _ _ hc
   cases h4 with | lst h4=>exact⟨_,_,rfl,h3,h4⟩
  .cases t
 | _=>cases t
theorem eR{hs:Rf->Prop}:∀ {ns:List Int},RvA p m hs G (ns.map V.int) (ns.map Val.int)
 | []=>.nil
 | _ :: _=>.cons (.int _) eR
theorem iN{hs:Rf->Prop}:∀ {ns:List Bool} {vs:List V},RvA p m hs G vs (ns.map Val.bl)->vs=ns.map V.bl
 | [],_,h=>by cases h; rfl
 | _ :: _,_,h=>by cases h with | cons h1 h2=>cases h1; rw [iN h2]; rfl
theorem jw(w:Wo p m h G H)(r:Rv p m h.has G u x)(t:rdL h x=some xs):∃ a vs,u = .ref a/\SqL p.K H a vs/\RvA p m h.has G vs xs:=by
 cases r with
 | scr h1=>cases t; exact⟨_,_,rfl,mS w.gh h1,eR⟩
 | lst h1 h2=>cases t; exact⟨_,_,rfl,SqL.of (w.gh _ _ h1),h2⟩
 | ref hr =>
  obtain⟨a,vs,e,h1,h2⟩:=gk (x:=.ref _) w (.ref hr) t;exact⟨a,vs,e,SqL.of h1,h2⟩
 | _=>cases t
theorem uu(w:Wo p m h G H)(r:Rv p m h.has G u x)(t:rdT x=some xs):∃ a vs,u = .ref a/\SqT p.K H a vs/\RvA p m h.has G vs xs:=by
 cases r with
 | tup h1 h2=>cases t; exact⟨_,_,rfl,(h1.sq w.gh),h2⟩
 | kt h1 h2=>cases t; exact⟨_,_,rfl,h1 H,h2⟩
 | _=>cases t
theorem lI(w:Wo p m h G H)(r:Rv p m h.has G u x)(t:rdQ h x=some xs):∃ a vs,u = .ref a/\(SqL p.K H a vs\/SqT p.K H a vs)/\RvA p m h.has G vs xs:=by
 unfold rdQ at t
 split at t
 .rename_i ys hy
  cases t
  obtain⟨a,vs,e,h1,h2⟩:=uu w r hy;exact⟨a,vs,e,.inr h1,h2⟩
 .obtain⟨a,vs,e,h1,h2⟩:=jw w r t;exact⟨a,vs,e,.inl h1,h2⟩
mutual
def Val.toD:Val->Option PyData
 | .non=>some .none
 | .bl b=>some (.bool b)
 | .int i=>some (.int i)
 | .str x=>some (.str x)
 | .lst xs=>(Val.hU xs).map PyData.list
 | .tup xs=>(Val.hU xs).map PyData.tuple
 | .kt xs=>(Val.hU xs).map PyData.tuple
 | _=>none
def Val.hU:List Val->Option (List PyData)
 | []=>some []
 | x :: xs=>match x.toD,Val.hU xs with
  | some d,some ds=>some (d :: ds)
  | _,_=>none
end
mutual
theorem eI(w:Wo p m h G H):∀ {x:Val} {u:V} {d:PyData},Rv p m h.has G u x->x.toD=some d->Dp p.K H u d
 | .non,_,_,r,t=>by cases r; cases t; exact .non
 | .bl _,_,_,r,t=>by cases r; cases t; exact .bl _
 | .int _,_,_,r,t=>by cases r; cases t; exact .int _
 | .str _,_,_,r,t=>by cases r; cases t; exact .str _
 | .lst xs,_,_,r,t=>by
  cases r with
  | lst h1 h2 =>
   have t:(Val.hU xs).map PyData.list=some _:=t;obtain⟨ds,e1,e2⟩:=Option.map_eq_some_iff.mp t;subst e2;exact .lst (SqL.of (w.gh _ _ h1)) (jb w h2 e1)
 | .tup xs,_,_,r,t=>by
  cases r with
  | tup h1 h2 =>
   have t:(Val.hU xs).map PyData.tuple=some _:=t;obtain⟨ds,e1,e2⟩:=Option.map_eq_some_iff.mp t;subst e2;exact .tup ((h1.sq w.gh)) (jb w h2 e1)
 | .kt xs,_,_,r,t=>by
  cases r with
  | kt h1 h2 =>
   have t:(Val.hU xs).map PyData.tuple=some _:=t;obtain⟨ds,e1,e2⟩:=Option.map_eq_some_iff.mp t;subst e2;exact .tup (h1 H) (jb w h2 e1)
 | .dct _,_,_,_,t=>by cases t
 | .ref _,_,_,_,t=>by cases t
 | .fn _,_,_,_,t=>by cases t
 | .scr _,_,_,_,t=>by cases t
theorem jb(w:Wo p m h G H):∀ {xs:List Val} {us:List V} {ds:List PyData},RvA p m h.has G us xs->Val.hU xs=some ds->DpAll p.K H us ds
 | [],_,_,r,t=>by cases r; cases t; exact .nil
 | x :: xs,_,_,r,t=>by
  cases r with
  | cons h1 h2 =>
   have t:(match x.toD,Val.hU xs with | some d,some ds=>some (d :: ds) | _,_=>none)=some _:=t
   split at t
   .rename_i d ds e1 e2
    cases t
    exact .cons (eI w h1 e1) (jb w h2 e2)
   .cases t
end
def dD(h:Hh):Nat->Val->Option PyData
 | 0,_=>none
 | n + 1,x=>match x with
  | .ref r=>match h.get r with
   | some (.lst xs)=>(xs.mapM fun(y:Val)=>match y.toD with | some d=>some d | none=>dD h n y).map PyData.list
   | _=>none
  | .lst xs=>(xs.mapM fun(y:Val)=>match y.toD with | some d=>some d | none=>dD h n y).map PyData.list
  | .tup xs=>(xs.mapM fun(y:Val)=>match y.toD with | some d=>some d | none=>dD h n y).map PyData.tuple
  | .scr ns=>some (.list (ns.map PyData.int))
  | x=>x.toD
def rdD(h:Hh)(x:Val):Option PyData:=match x.toD with
 | some d=>some d
 | none=>dD h 5 x
theorem kK{K:PySem.W.Frag}:∀ {ns:List Int},DpAll K H (ns.map V.int) (ns.map PyData.int)
 | []=>.nil
 | _ :: _=>.cons (.int _) kK
theorem jg{K:PySem.W.Frag}{R:V->Val->Prop}{f:Val->Option PyData}(hf:∀ u x d,R u x->f x=some d->Dp K H u d):∀ {xs:List Val} {us:List V} {ds:List PyData},Paired R us xs->xs.mapM f=some ds->DpAll K H us ds
 | [],_,_,.nil,e=>by simp at e; subst e; exact .nil
 | x :: xs,_,ds,.cons r t,e=>by
  rw [List.mapM_cons] at e
  cases h1:f x with
  | none=>rw [h1] at e; cases e
  | some d =>
   cases h2:xs.mapM f with
   | none=>rw [h1,h2] at e; cases e
   | some ds' =>
    rw [h1,h2] at e
    cases e
    exact .cons (hf _ _ _ r h1) (jg hf t h2)
theorem RvA.pair{hs:Rf->Prop}:∀ {xs:List Val} {us:List V},RvA p m hs G us xs->Paired (Rv p m hs G) us xs
 | [],_,h=>by cases h; exact .nil
 | _ :: _,_,h=>by cases h with | cons h1 h2=>exact .cons h1 (RvA.pair h2)
theorem dD_ok(w:Wo p m h G H):∀ {n:Nat} {x:Val} {u:V} {d:PyData},Rv p m h.has G u x->dD h n x=some d->Dp p.K H u d
 | 0,_,_,_,_,t=>by cases t
 | n + 1,x,u,d,r,t=>by
  have ih:∀ u x d,Rv p m h.has G u x->(match x.toD with | some d=>some d | none=>dD h n x)=some d->Dp p.K H u d:=fun u x d r t=>by
   split at t
   .rename_i e; cases t; exact eI w r e
   .exact dD_ok w r t
  cases r with
  | @ref r hr =>
   have t:(match h.get r with | some (.lst xs)=>(xs.mapM fun(y:Val)=>match y.toD with | some d=>some d | none=>dD h n y).map PyData.list | _=>none)=some d:=t
   split at t
   .rename_i hc;obtain⟨ds,e1,e2⟩:=Option.map_eq_some_iff.mp t;subst e2;obtain⟨_,_,o,h3,h4⟩:=w.cel _ _ hc
    cases h4 with | lst h4=>exact .lst (SqL.of h3) (jg ih h4.pair e1)
   .cases t
  | @lst a vs xs h1 h2 =>
   have t:(xs.mapM fun(y:Val)=>match y.toD with | some d=>some d | none=>dD h n y).map PyData.list=some d:=t;obtain⟨ds,e1,e2⟩:=Option.map_eq_some_iff.mp t;subst e2;exact .lst (SqL.of (w.gh _ _ h1)) (jg ih h2.pair e1)
  | @tup a vs xs h1 h2 =>
   have t:(xs.mapM fun(y:Val)=>match y.toD with | some d=>some d | none=>dD h n y).map PyData.tuple=some d:=t;obtain⟨ds,e1,e2⟩:=Option.map_eq_some_iff.mp t;subst e2;exact .tup ((h1.sq w.gh)) (jg ih h2.pair e1)
  | scr h1=>cases t; exact .lst (mS w.gh h1) kK
  | non=>exact eI w .non t
  | bl=>exact eI w (.bl _) t
  | int=>exact eI w (.int _) t
  | str=>exact eI w (.str _) t
  | kt h1 h2=>exact eI w (.kt h1 h2) t
  | dct=>cases t
  | fn=>cases t
theorem lK(w:Wo p m h G H){d:PyData}(r:Rv p m h.has G u x)(t:rdD h x=some d):Dp p.K H u d:=by
 unfold rdD at t
 split at t
 .rename_i e; cases t; exact eI w r e
 .exact dD_ok w r t
end
def isMul(a b:Int):Bool:=decide ((-(2 ^ 64) < a/\a < 2 ^ 64)\/(-(2 ^ 64) < b/\b < 2 ^ 64))
theorem u2{a b:Int}(h:isMul a b=true):CMul a b:=by
 unfold isMul at h;have h2:=of_decide_eq_true h;exact h2
def aE(h:Hh)(x y:Val):Res Val:=match x,y with
 | .int a,.int b=>.ok (.int (a + b)) h
 | .str a,.str b=>if a.length + b.length<=1000000 then .ok (.str (a ++ b)) h else .err
 | .tup xs,.tup ys=>if xs.length + ys.length<=1000000 then .ok (.tup (xs ++ ys)) h else .err
 | x,y=>match rdM h x,rdM h y with
  | some xs,some ys=>if xs.length + ys.length<=1000000 then .ok (.lst (xs ++ ys)) h else .err
  | _,_=>.err
def eS(h:Hh)(x y:Val):Res Val:=match x,y with
 | .int a,.int b=>.ok (.int (a - b)) h
 | _,_=>.err
def dH(h:Hh)(x y:Val):Res Val:=match x,y with
 | .int a,.int b=>if isMul a b=true then .ok (.int (a * b)) h else .err
 | x,.int k=>match rdM h x with
  | some xs=>if xs.length * k.toNat<=1000000/\-(2 ^ 63)<=k/\k < 2 ^ 63 then .ok (.lst (List.replicate k.toNat xs).flatten) h else .err
  | _=>.err
 | _,_=>.err
def cN(h:Hh)(x y:Val):Res Val:=match x,y with
 | .int a,.int b=>if 0 < b then .ok (.int (a % b)) h else .err
 | _,_=>.err
def gO(h:Hh)(x y:Val):Res Val:=match x,y with
 | .int a,.int b=>if 0 < b/\b < 18446744073709551616 then .ok (.int (a / b)) h else .err
 | _,_=>.err
def aQ(h:Hh)(x y:Val):Res Val:=match x,y with
 | .int a,.int b=>if 0<=b/\(Builtin.Int.intBits a:Int) * b<=2 ^ 27 then .ok (.int (a ^ b.toNat)) h else .err
 | _,_=>.err
section
variable{X:Cx}
theorem OpR.or{f:Value->Value->Sem Value}{r r':R2}(a:OpR X f r)(b:OpR X f r'):OpR X f (fun x y H Q=>r x y H Q\/r' x y H Q):=by
 intro pins s σ H x y v u Q I rx ry h;rcases h with h | h
 .exact a pins s σ H x y v u Q I rx ry h
 .exact b pins s σ H x y v u Q I rx ry h
def ux(K:PySem.W.Frag):R2:=fun x y H Q=>(rI0 (fun i j=>.int (i + j)) x y H Q\/rAddS x y H Q)\/(rCatF K x y H Q\/rCat x y H Q)
theorem uF(K:PySem.W.Frag)(h:X.K=K):OpR X (binaryOp .Add) (ux K):=by
 exact OpR.or (OpR.or op_add oq_addS) (OpR.or (op_catF K h) op_cat)
def rMulU:R2:=fun x y H Q=>rI CMul (fun i j=>.int (i * j)) x y H Q\/rRep x y H Q
theorem or_mul:OpR X (binaryOp .Mult) rMulU:=OpR.or op_mul op_rep
end
section
variable{p:Pm}
theorem sr_add:cA p (ux p.K) aE:=fun m h G H u v x y Q W σ w rx ry e=>by
 unfold aE at e
 split at e
 .cases rx; cases ry; exact .inl (.inl ⟨_,_,rfl,rfl,aq.here e w (.int _)⟩)
 .cases rx; cases ry
  split at e
  .exact .inl (.inr ⟨_,_,rfl,rfl,aK (by assumption),aq.here e w (.str _)⟩)
  .exact e.elim
 .cases rx with
  | tup h1 h2=>cases ry with
   | tup h3 h4 =>
    split at e
    .rename_i hl;refine .inr (.inl ⟨_,_,_,_,rfl,rfl,(h1.sq w.gh),(h3.sq w.gh),by rw [h2.len,h4.len]; exact aK hl,fun z=>?_,fun _ z=>?_,fun _ _ q n=>eZ e w n (h2.app h4)⟩)
     .subst z
      cases h2
      exact aq.here e w (.tup h3 h4)
     .subst z
      cases h4
      rw [List.append_nil] at e;exact aq.here e w (.tup h1 h2)
    .exact e.elim
 .split at e
  .rename_i xs ys hx hy
   split at e
   .rename_i hl;obtain⟨a,vs,rfl,h1,h2⟩:=gk w rx hx;obtain⟨b,ws,rfl,h3,h4⟩:=gk w ry hy;exact .inr (.inr ⟨_,_,_,_,rfl,rfl,h1,h3,by rw [h2.len,h4.len]; exact aK hl,fun q n=>eY e w n (h2.app h4)⟩)
   .exact e.elim
  .exact e.elim
theorem sr_sub:cA p (rI0 fun i j=>.int (i - j)) eS:=fun m h G H u v x y Q W σ w rx ry e=>by
 unfold eS at e
 split at e
 .cases rx; cases ry; exact⟨_,_,rfl,rfl,aq.here e w (.int _)⟩
 .exact e.elim
theorem sr_mul:cA p rMulU dH:=fun m h G H u v x y Q W σ w rx ry e=>by
 unfold dH at e
 split at e
 .cases rx; cases ry
  split at e
  .rename_i hm;exact .inl ⟨_,_,rfl,rfl,u2 hm,aq.here e w (.int _)⟩
  .exact e.elim
 .cases ry
  split at e
  .rename_i xs hx
   split at e
   .rename_i hl;obtain⟨a,vs,rfl,h1,h2⟩:=gk w rx hx;exact .inr ⟨_,_,_,rfl,rfl,h1,hl.2.1,hl.2.2,by rw [h2.len]; exact aK hl.1,fun q n=>eY e w n h2.repl⟩
   .exact e.elim
  .exact e.elim
 .exact e.elim
theorem sr_mod:cA p (rI (fun _ j=>0 < j) fun i j=>.int (i % j)) cN:=fun m h G H u v x y Q W σ w rx ry e=>by
 unfold cN at e
 split at e
 .cases rx; cases ry
  split at e
  .exact⟨_,_,rfl,rfl,by assumption,aq.here e w (.int _)⟩
  .exact e.elim
 .exact e.elim
theorem sr_div:cA p (rI CDivW fun i j=>.int (i / j)) gO:=fun m h G H u v x y Q W σ w rx ry e=>by
 unfold gO at e
 split at e
 .cases rx; cases ry
  split at e
  .rename_i hc;exact⟨_,_,rfl,rfl,cdivw hc.1 hc.2,aq.here e w (.int _)⟩
  .exact e.elim
 .exact e.elim
theorem sr_pow:cA p (rI CPowW fun i j=>.int (i ^ j.toNat)) aQ:=fun m h G H u v x y Q W σ w rx ry e=>by
 unfold aQ at e
 split at e
 .cases rx; cases ry
  split at e
  .exact⟨_,_,rfl,rfl,by assumption,aq.here e w (.int _)⟩
  .exact e.elim
 .exact e.elim
variable{C:Ct}{a b:Expr}{pos:Pos}{fa fb:Sl->Hh->Res Val}
theorem aB(ha:SE C a fa)(hb:SE C b fb):SE C (.BinOp a .Add b pos) (m2 aE fa fb):=iL (fun W X g=>uF C.p.K g.K) sr_add ha hb
theorem gj(ha:SE C a fa)(hb:SE C b fb):SE C (.BinOp a .Sub b pos) (m2 eS fa fb):=iL (fun W X g=>op_sub) sr_sub ha hb
theorem eQ(ha:SE C a fa)(hb:SE C b fb):SE C (.BinOp a .Mult b pos) (m2 dH fa fb):=iL (fun W X g=>or_mul) sr_mul ha hb
theorem cQ(ha:SE C a fa)(hb:SE C b fb):SE C (.BinOp a .Mod b pos) (m2 cN fa fb):=iL (fun W X g=>op_mod) sr_mod ha hb
theorem jd(ha:SE C a fa)(hb:SE C b fb):SE C (.BinOp a .FloorDiv b pos) (m2 gO fa fb):=iL (fun W X g=>op_fdivW) sr_div ha hb
theorem bD(ha:SE C a fa)(hb:SE C b fb):SE C (.BinOp a .Pow b pos) (m2 aQ fa fb):=iL (fun W X g=>op_powW) sr_pow ha hb
def m1(g:Hh->Val->Res Val)(fa:Sl->Hh->Res Val):Sl->Hh->Res Val:=fun δ h=>(fa δ h).bind fun x h1=>g h1 x
end
def eqO(h:Hh)(x y:Val):Option Bool:=match x,y with
 | .int a,.int b=>some (decide (a=b))
 | .str a,.str b=>some (decide (a=b))
 | .bl a,.bl b=>some (decide (a=b))
 | x,y=>match rdD h x,rdD h y with
  | some d,some e=>if (SeqAt.shaped d && SeqAt.shaped e)=true then some (PyData.eqv d e) else none
  | _,_=>none
def eU(h:Hh)(x y:Val):Res Val:=match eqO h x y with
 | some b=>.ok (.bl b) h
 | none=>.err
def ik(h:Hh)(x y:Val):Res Val:=match eqO h x y with
 | some b=>.ok (.bl (!b)) h
 | none=>.err
def nq(h:Hh)(x y:Val):Res Val:=match x,y with
 | .int a,.int b=>.ok (.bl (decide (a < b))) h
 | _,_=>.err
def gN(h:Hh)(x y:Val):Res Val:=match x,y with
 | .int a,.int b=>.ok (.bl (decide (a<=b))) h
 | _,_=>.err
def nu(h:Hh)(x y:Val):Res Val:=match x,y with
 | .int a,.int b=>.ok (.bl (decide (b < a))) h
 | _,_=>.err
def uG(h:Hh)(x y:Val):Res Val:=match x,y with
 | .int a,.int b=>.ok (.bl (decide (b<=a))) h
 | _,_=>.err
def isNon:Val->Bool
 | .non=>true
 | _=>false
def j5(h:Hh)(x y:Val):Res Val:=match y with
 | .non=>.ok (.bl (isNon x)) h
 | _=>.err
def rEqU(K:PySem.W.Frag):R2:=fun x y H Q=>rEq x y H Q\/rEqD K x y H Q
def rNeU(K:PySem.W.Frag):R2:=fun x y H Q=>rNe x y H Q\/rNeD K x y H Q
section
variable{p:Pm}
theorem sr_eq:cA p (rEqU p.K) eU:=fun m h G H u v x y Q W σ w rx ry e=>by
 unfold eU at e
 split at e
 .rename_i b hb;unfold eqO at hb
  split at hb
  .cases hb; cases rx; cases ry; exact .inl (rd_eqI (aq.here e w (.bl _)))
  .cases hb; cases rx; cases ry; exact .inl (rd_eqS (aq.here e w (.bl _)))
  .cases hb; cases rx; cases ry; exact .inl (rd_eqB (aq.here e w (.bl _)))
  .split at hb
   .rename_i d1 d2 e1 e2
    split at hb
    .rename_i hs
     cases hb
     have hs':=Bool.and_eq_true_iff.mp hs;exact .inr ⟨d1,d2,lK w rx e1,lK w ry e2,hs'.1,hs'.2,aq.here e w (.bl _)⟩
    .cases hb
   .cases hb
 .exact e.elim
theorem pK{α : Type}[DecidableEq α]{a b:α}:decide (a≠b) = !decide (a=b):=by simp
theorem sr_ne:cA p (rNeU p.K) ik:=fun m h G H u v x y Q W σ w rx ry e=>by
 unfold ik at e
 split at e
 .rename_i b hb;unfold eqO at hb
  split at hb
  .cases hb; cases rx; cases ry; exact .inl (rd_neI (by rw [pK]; exact aq.here e w (.bl _)))
  .cases hb; cases rx; cases ry; exact .inl (rd_neS (by rw [pK]; exact aq.here e w (.bl _)))
  .cases hb; cases rx; cases ry; exact .inl (rd_neB (by rw [pK]; exact aq.here e w (.bl _)))
  .split at hb
   .rename_i d1 d2 e1 e2
    split at hb
    .rename_i hs
     cases hb
     have hs':=Bool.and_eq_true_iff.mp hs;exact .inr ⟨d1,d2,lK w rx e1,lK w ry e2,hs'.1,hs'.2,aq.here e w (.bl _)⟩
    .cases hb
   .cases hb
 .exact e.elim
theorem sr_lt:cA p (rI0 fun i j=>.bl (decide (i < j))) nq:=fun m h G H u v x y Q W σ w rx ry e=>by
 unfold nq at e
 split at e
 .cases rx; cases ry; exact⟨_,_,rfl,rfl,aq.here e w (.bl _)⟩
 .exact e.elim
theorem sr_le:cA p (rI0 fun i j=>.bl (decide (i<=j))) gN:=fun m h G H u v x y Q W σ w rx ry e=>by
 unfold gN at e
 split at e
 .cases rx; cases ry; exact⟨_,_,rfl,rfl,aq.here e w (.bl _)⟩
 .exact e.elim
theorem sr_gt:cA p (rI0 fun i j=>.bl (decide (j < i))) nu:=fun m h G H u v x y Q W σ w rx ry e=>by
 unfold nu at e
 split at e
 .cases rx; cases ry; exact⟨_,_,rfl,rfl,aq.here e w (.bl _)⟩
 .exact e.elim
theorem sr_ge:cA p (rI0 fun i j=>.bl (decide (j<=i))) uG:=fun m h G H u v x y Q W σ w rx ry e=>by
 unfold uG at e
 split at e
 .cases rx; cases ry; exact⟨_,_,rfl,rfl,aq.here e w (.bl _)⟩
 .exact e.elim
theorem sr_is:cA p rIsNo j5:=fun m h G H u v x y Q W σ w rx ry e=>by
 unfold j5 at e
 split at e
 .cases ry
  refine⟨rfl,aq.here e w ?_⟩
  cases rx <;> exact .bl _
 .exact e.elim
theorem or_eq{X:Cx}(K:PySem.W.Frag)(h:X.K=K)(hu:X.A.units + 64 < cLine):OpR X (compareOp .Eq) (rEqU K):=OpR.or op_eq (op_eqDK K hu h)
theorem or_ne{X:Cx}(K:PySem.W.Frag)(h:X.K=K)(hu:X.A.units + 64 < cLine):OpR X (compareOp .NotEq) (rNeU K):=OpR.or op_ne (op_neDK K hu h)
structure iI(C:Ct)(op:CmpOp)(g:Hh->Val->Val->Res Val):Prop where
 ex:∃ r:R2,(∀ W X,Good C W X->OpR X (compareOp op) r)/\cA C.p r g
variable{C:Ct}
theorem el:iI C .Eq eU:=⟨_,fun W X g=>or_eq C.p.K g.K g.un,sr_eq⟩
theorem jU:iI C .NotEq ik:=⟨_,fun W X g=>or_ne C.p.K g.K g.un,sr_ne⟩
theorem qW:iI C .Lt nq:=⟨_,fun W X g=>op_lt,sr_lt⟩
theorem iW:iI C .LtE gN:=⟨_,fun W X g=>op_le,sr_le⟩
theorem qX:iI C .Gt nu:=⟨_,fun W X g=>op_gt,sr_gt⟩
theorem cs_ge:iI C .GtE uG:=⟨_,fun W X g=>op_ge,sr_ge⟩
theorem kR:iI C .Is j5:=⟨_,fun W X g=>oq_isN,sr_is⟩
variable{a b c:Expr}{pos:Pos}{fa fb fc:Sl->Hh->Res Val}{op op':CmpOp}{g g':Hh->Val->Val->Res Val}
theorem se_c(s:iI C op g)(ha:SE C a fa)(hb:SE C b fb)(hm:behindInMarks op b=false:=by first | exact nobehind _ (by decide) (by decide) | rfl):SE C (.Compare a [op] [b] pos) (m2 g fa fb):=by
 obtain⟨r,h1,h2⟩:=s.ex;exact se_cmp h1 h2 ha hb hm
theorem bO(s:iI C op g)(ha:SE C a fa)(hb:SE C b fb)(hm:behindInMarks op b=false:=by first | exact nobehind _ (by decide) (by decide) | rfl):ST C (.Compare a [op] [b] pos) (mB (m2 g fa fb)):=by
 obtain⟨r,h1,h2⟩:=s.ex;exact st_cmp h1 h2 ha hb hm
theorem t9(s:iI C op g)(s':iI C op' g')(ha:SE C a fa)(hb:SE C b fb)(hc:SE C c fc)(hm:lastMarks [op,op'] [b,c]=false:=by rfl):SE C (.Compare a [op,op'] [b,c] pos) (mCh g g' fa fb fc):=by
 obtain⟨r,h1,h2⟩:=s.ex;obtain⟨r',h3,h4⟩:=s'.ex;exact t8 h1 h3 h2 h4 ha hb hc hm
theorem st_ch(s:iI C op g)(s':iI C op' g')(ha:SE C a fa)(hb:SE C b fb)(hc:SE C c fc)(hm:lastMarks [op,op'] [b,c]=false:=by rfl):ST C (.Compare a [op,op'] [b,c] pos) (mB (mCh g g' fa fb fc)):=by
 obtain⟨r,h1,h2⟩:=s.ex;obtain⟨r',h3,h4⟩:=s'.ex;exact tR h1 h3 h2 h4 ha hb hc hm
end
end M
namespace M
open PySem PySem.Spec PyProof.Rows L2 B
section
variable{κ : Type}[DecidableEq κ]
def cD:List (κ×Val)->κ->Option Val
 | [],_=>none
 | (k',v) :: r,k=>if k'=k then some v else cD r k
def jx(kvs:List (κ×Val))(k:κ)(v:Val):List (κ×Val):=if (kvs.any fun kv=>decide (kv.1=k))=true then kvs.map (fun kv=>if kv.1=k then(kv.1,v) else kv) else kvs ++ [(k,v)]
def dc(kvs more:List (κ×Val)):List (κ×Val):=more.foldl (fun acc kv=>jx acc kv.1 kv.2) kvs
end
section
variable{p:Pm}{m:Rf->Addr}{hs:Rf->Prop}{G:Hp}{κ : Type}[DecidableEq κ]
theorem uD{α β : Type}{F:α->β->Prop}:∀ {xs xs':List α} {ys ys':List β},Paired F xs ys->Paired F xs' ys'->Paired F (xs ++ xs') (ys ++ ys')
 | _,_,_,_,.nil,h=>h
 | _,_,_,_,.cons r t,h=>.cons r (uD t h)
theorem gL{k:κ}:∀ {vs:List (κ×V)} {ds:List (κ×Val)},Rkv p m hs G vs ds->(∀ d,cD ds k=some d->∃ v,valV vs k=some v/\Rv p m hs G v d)/\(cD ds k=none->valV vs k=none)
 | _,_,.nil=>⟨fun d h=>by simp [cD] at h,fun _=>rfl⟩
 | _,_,.cons (a:=a) (b:=q) h t=>by
  obtain⟨e,r⟩:=h
  by_cases hk:q.1=k
  .have h1:∀ l,cD (q :: l) k=some q.2:=fun l=>by simp [cD,hk]
   have h2:∀ l,valV (a :: l) k=some a.2:=fun l=>valV_pos (e.trans hk);rw [h1,h2];exact⟨fun d h=>by cases h; exact⟨_,rfl,r⟩,fun h=>nomatch h⟩
  .have h1:∀ l,cD (q :: l) k=cD l k:=fun l=>by simp [cD,hk]
   have h2:∀ l,valV (a :: l) k=valV l k:=fun l=>valV_neg (fun z=>hk (e.symm.trans z));rw [h1,h2];exact gL t
theorem qB{k:κ}:∀ {vs:List (κ×V)} {ds:List (κ×Val)},Rkv p m hs G vs ds->(vs.any fun kv=>decide (kv.1=k))=ds.any fun kv=>decide (kv.1=k)
 | _,_,.nil=>rfl
 | _,_,.cons h t=>by rw [List.any_cons,List.any_cons,h.1,qB t]
theorem qA{k:κ}{v:V}{d:Val}(r:Rv p m hs G v d):∀ {vs:List (κ×V)} {ds:List (κ×Val)},Rkv p m hs G vs ds->Rkv p m hs G (vs.map fun kv=>if kv.1=k then(kv.1,v) else kv) (ds.map fun kv=>if kv.1=k then(kv.1,d) else kv)
 | _,_,.nil=>.nil
 | _,_,.cons (a:=a) (b:=q) h t=>by
  refine .cons ?_ (qA r t)
  by_cases hk:q.1=k
  .dsimp only; rw [if_pos (h.1.trans hk),if_pos hk]; exact⟨h.1,r⟩
  .have:¬ a.1=k:=fun z=>hk (h.1.symm.trans z);dsimp only; rw [if_neg this,if_neg hk]; exact h
theorem qz{k:κ}{v:V}{d:Val}(r:Rv p m hs G v d){vs:List (κ×V)}{ds:List (κ×Val)}(h:Rkv p m hs G vs ds):Rkv p m hs G (putK vs k v) (jx ds k d):=by
 unfold putK jx;rw [qB h]
 split
 .exact qA r h
 .exact uD h (.cons ⟨rfl,r⟩ .nil)
theorem ig:∀ {ms:List (κ×V)} {ns:List (κ×Val)},Rkv p m hs G ms ns->∀ {vs:List (κ×V)} {ds:List (κ×Val)},Rkv p m hs G vs ds->Rkv p m hs G (ms.foldl (fun acc kv=>putK acc kv.1 kv.2) vs) (dc ds ns)
 | _,_,.nil,_,_,h=>h
 | _,_,.cons (a:=a) (b:=q) h t,_,_,h'=>by
  have:=qz (k:=q.1) h.2 h';rw [<- h.1] at this;show Rkv p m hs G (List.foldl _ (putK _ a.1 a.2) _) (List.foldl _ (jx _ q.1 q.2) _);rw [<- h.1];exact ig t this
theorem nlp_app{ds es:List (κ×Val)}:nlp (ds ++ es)=(nlp ds && nlp es):=by unfold nlp; exact List.all_append
theorem qJ{ds:List (κ×Val)}{k:κ}{d:Val}(h:nlp ds=true)(hd:d.nl=true):nlp (jx ds k d)=true:=by
 unfold jx
 split
 .unfold nlp at *;rw [List.all_map,List.all_eq_true] at *;intro q hq;show(if q.1=k then(q.1,d) else q).2.nl=true
  split
  .exact hd
  .exact h q hq
 .rw [nlp_app,h];show(true && (d.nl && true))=true;rw [hd]; rfl
theorem kD:∀ {ns ds:List (κ×Val)},nlp ds=true->nlp ns=true->nlp (dc ds ns)=true
 | [],_,h,_=>h
 | q :: r,ds,h,h'=>by
  have h':(q.2.nl && nlp r)=true:=h';rw [Bool.and_eq_true] at h';exact kD (ns:=r) (qJ h h'.1) h'.2
end
def rdK(h:Hh):Val->Option (List (Key×Val))
 | .dct kvs=>some kvs
 | .ref r=>match h.get r with
  | some (.dct kvs)=>some kvs
  | some (.ldc kvs)=>some kvs
  | _=>none
 | _=>none
theorem fD{h:Hh}{r:Rf}{kvs:List (Key×Val)}(hr:h.get r=some (.dct kvs)):rdK h (.ref r)=some kvs:=by unfold rdK; dsimp only; rw [hr]
def uv(h:Hh):Val->Option (List (List Key×Val))
 | .ref r=>match h.get r with
  | some (.dtt kvs)=>some kvs
  | _=>none
 | _=>none
def fP:Val->Option Key
 | .int i=>some (.inl i)
 | .str x=>some (.inr x)
 | _=>none
def kI:List Val->Option (List Key)
 | []=>some []
 | x :: xs=>match fP x,kI xs with
  | some k,some ks=>some (k :: ks)
  | _,_=>none
def keyT:Val->Option (List Key)
 | .tup (x :: xs)=>kI (x :: xs)
 | _=>none
def fY(h:Hh)(x y:Val):Option (Option Val):=match rdK h x with
 | some kvs=>(fP y).map (cD kvs)
 | none=>match uv h x with
  | some kvs=>(keyT y).map (cD kvs)
  | none=>none
def cq(h:Hh)(x:Val):Bool:=(rdK h x).isSome || (uv h x).isSome
section
variable{p:Pm}{m:Rf->Addr}{h:Hh}{G H:Hp}{u v:V}{x y:Val}
theorem jh{hs:Rf->Prop}{k:Key}(r:Rv p m hs G u x)(t:fP x=some k):u=kV k:=by
 cases r <;> first | (cases t; rfl) | cases t
theorem nV{hs:Rf->Prop}:∀ {xs:List Val} {us:List V} {ks:List Key},RvA p m hs G us xs->kI xs=some ks->us=ks.map kV
 | [],_,_,r,t=>by cases r; cases t; rfl
 | x :: xs,_,_,r,t=>by
  cases r with
  | cons h1 h2 =>
   have t:(match fP x,kI xs with | some k,some ks=>some (k :: ks) | _,_=>none)=some _:=t
   split at t
   .rename_i e1 e2
    cases t
    rw [jh h1 e1,nV h2 e2]; rfl
   .cases t
theorem lJ{kvs:List (Key×Val)}(w:Wo p m h G H)(r:Rv p m h.has G u x)(t:rdK h x=some kvs):∃ a vs,u = .ref a/\Rd H a (.dK vs)/\Rkv p m h.has G vs kvs:=by
 cases r with
 | dct h1 h2=>cases t; exact⟨_,_,rfl,.inr ⟨_,w.gh _ _ h1⟩,h2.pd⟩
 | @ref r hr =>
  have t:(match h.get r with | some (.dct xs)=>some xs | some (.ldc xs)=>some xs | _=>none)=some kvs:=t
  split at t
  .rename_i hc
   cases t
   obtain⟨_,_,o,h3,h4⟩:=w.cel _ _ hc
   cases h4 with | dct h4=>exact⟨_,_,rfl,.inl h3,h4⟩
  .rename_i hc
   cases t
   obtain⟨_,_,o,h3,h4⟩:=w.cel _ _ hc
   cases h4 with | ldc h4=>exact⟨_,_,rfl,.inr ⟨_,h3⟩,h4⟩
  .cases t
 | _=>cases t
theorem qC{kvs:List (List Key×Val)}(w:Wo p m h G H)(r:Rv p m h.has G u x)(t:uv h x=some kvs):∃ a vs,u = .ref a/\H a=some (.dT vs)/\Rkv p m h.has G vs kvs:=by
 cases r with
 | @ref r hr =>
  have t:(match h.get r with | some (.dtt xs)=>some xs | _=>none)=some kvs:=t
  split at t
  .rename_i hc
   cases t
   obtain⟨_,_,o,h3,h4⟩:=w.cel _ _ hc
   cases h4 with | dtt h4=>exact⟨_,_,rfl,h3,h4⟩
  .cases t
 | _=>cases t
theorem isDct_ok(w:Wo p m h G H)(r:Rv p m h.has G u x)(t:cq h x=true):∃ a,u = .ref a/\IsD H a:=by
 unfold cq at t;rw [Bool.or_eq_true] at t;rcases t with t | t
 .obtain⟨kvs,e⟩:=Option.isSome_iff_exists.mp t;obtain⟨a,vs,h1,h2,_⟩:=lJ w r e;exact⟨a,h1,.inl ⟨vs,h2⟩⟩
 .obtain⟨kvs,e⟩:=Option.isSome_iff_exists.mp t;obtain⟨a,vs,h1,h2,_⟩:=qC w r e;exact⟨a,h1,.inr ⟨vs,.inl h2⟩⟩
theorem pD:∀ {xs:List Val} {ks:List Key} {x:Val},kI (x :: xs)=some ks->(x :: xs).all qE=false
 | xs,ks,x,t=>by
  have t:(match fP x,kI xs with | some k,some ks=>some (k :: ks) | _,_=>none)=some _:=t
  cases x <;> first | rfl | (simp [fP] at t)
theorem keyT_ok{k:List Key}(w:Wo p m h G H)(r:Rv p m h.has G v y)(t:keyT y=some k):∃ b,v = .ref b/\H b=some (.tup (k.map kV)):=by
 unfold keyT at t
 split at t
 .cases r with
  | tup h1 h2 =>
   rcases h1 with ⟨h1,_⟩ | ⟨h1,_⟩
   .rw [pD t] at h1; cases h1
   .exact⟨_,rfl,by rw [<- nV h2 t]; exact w.gh _ _ h1⟩
 .cases t
theorem hJ{o:Option Val}(w:Wo p m h G H)(rx:Rv p m h.has G u x)(ry:Rv p m h.has G v y)(t:fY h x y=some o) :
  ∃ a o',u = .ref a/\DGet H a v o'/\IsD H a/\(∀ d,o=some d->∃ z,o'=some z/\Rv p m h.has G z d)/\(o=none->o'=none):=by
 unfold fY at t
 split at t
 .rename_i kvs e;obtain⟨a,vs,rfl,h1,h2⟩:=lJ w rx e;obtain⟨k,e1,e2⟩:=Option.map_eq_some_iff.mp t;subst e2;obtain rfl:=jh ry e1;exact⟨a,valV vs k,rfl,.inl ⟨vs,k,h1,rfl,rfl⟩,.inl ⟨vs,h1⟩,(gL h2).1,(gL h2).2⟩
 .split at t
  .rename_i kvs e;obtain⟨a,vs,rfl,h1,h2⟩:=qC w rx e;obtain⟨k,e1,e2⟩:=Option.map_eq_some_iff.mp t;subst e2;obtain⟨b,rfl,hb⟩:=keyT_ok w ry e1;exact⟨a,valV vs k,rfl,.inr ⟨vs,k,b,.inl h1,rfl,hb,rfl⟩,.inr ⟨vs,.inl h1⟩,(gL h2).1,(gL h2).2⟩
  .cases t
end
section
variable{X:Cx}{e:Expr}
theorem PE.or{t t':TE}(a:PE X e t)(b:PE X e t'):PE X e (fun σ H Q=>t σ H Q\/t' σ H Q):=⟨fun pins s σ H Q I h=>h.elim (a.run pins s σ H Q I) (b.run pins s σ H Q I)⟩
theorem PI.or{tg:Expr}{t t':TI}(a:PI X tg e t)(b:PI X tg e t'):PI X tg e (fun σ H Q=>t σ H Q\/t' σ H Q):=⟨fun pins s σ H Q I h=>h.elim (a.run pins s σ H Q I) (b.run pins s σ H Q I)⟩
end
theorem lp{α β : Type}{p:Pm}{R:kc α β}{t t':WX->L2.St->Hp->(β->Hp->Prop)->Prop}{f f1 f2:Sl->Hh->Res α}(s:Snd p R t f1)(s':Snd p R t' f2)(h:∀ δ h,f δ h=f1 δ h\/f δ h=f2 δ h):Snd p R (fun W σ H Q=>t W σ H Q\/t' W σ H Q) f:=fun W σ δ m h' G H Q en w e=>by
 rcases h δ h' with z | z
 .rw [z] at e; exact .inl (s W σ δ m h' G H Q en w e)
 .rw [z] at e; exact .inr (s' W σ δ m h' G H Q en w e)
theorem pC{g g1 g2:Hh->Val->Val->Res Val}{fa fb:Sl->Hh->Res Val}(hg:∀ h x y,g h x y=g1 h x y\/g h x y=g2 h x y)(δ : Sl)(h:Hh):m2 g fa fb δ h=m2 g1 fa fb δ h\/m2 g fa fb δ h=m2 g2 fa fb δ h:=by
 unfold m2
 cases h1:fa δ h with
 | err=>exact .inl rfl
 | exc c fs h'=>exact .inl rfl
 | ok x h' =>
  dsimp only [Res.bind]
  cases h2:fb δ h' with
  | err=>exact .inl rfl
  | exc c fs h''=>exact .inl rfl
  | ok y h''=>exact hg h'' x y
def opIx(h:Hh)(x y:Val):Res Val:=match y with
 | .int j=>match x with
  | .str z=>if z.length<=1000000 then(match atI z.cps.toList j with
   | some c=>.ok (.str ⟨#[c]⟩) h
   | none=>.err) else .err
  | x=>match rdQ h x with
   | some xs=>match atI xs j with
    | some v=>.ok v h
    | none=>.err
   | none=>.err
 | _=>.err
def jz(h:Hh)(x y:Val):Res Val:=match fY h x y with
 | some (some v)=>.ok v h
 | _=>.err
def au(h:Hh)(x y:Val):Res Val:=if cq h x=true then jz h x y else opIx h x y
def rIxU(K:PySem.W.Frag):R2:=fun x y H Q=>(rIxL K x y H Q\/rIxT K x y H Q)\/rIxS x y H Q
theorem atI_some{α : Type}{xs:List α}{j:Int}{v:α}(h:atI xs j=some v):∃ k:Nat,ixN xs.length j=some k/\xs[k]?=some v:=by
 unfold atI at h
 cases e:ixN xs.length j with
 | none=>rw [e] at h; cases h
 | some k=>rw [e] at h; exact⟨k,rfl,h⟩
section
variable{p:Pm}{m:Rf->Addr}{h:Hh}{G H:Hp}
theorem RvA.atI'{hs:Rf->Prop}{vs:List V}{xs:List Val}{j:Int}{x:Val}(r:RvA p m hs G vs xs)(e:atI xs j=some x):∃ v,atI vs j=some v/\Rv p m hs G v x:=by
 obtain⟨k,h1,h2⟩:=atI_some e;obtain⟨v,h3,h4⟩:=r.at h2;exact⟨v,by unfold atI; rw [r.len,h1]; exact h3,h4⟩
theorem sr_ix:cA p (rIxU p.K) opIx:=fun m h G H u v x y Q W σ w rx ry e=>by
 unfold opIx at e
 split at e
 .cases ry
  split at e
  .cases rx
   split at e
   .split at e
    .exact .inr ⟨_,_,_,rfl,rfl,aK (by assumption),by assumption,aq.here e w (.str _)⟩
    .exact e.elim
   .exact e.elim
  .split at e
   .rename_i xs hx
    split at e
    .rename_i z hz;obtain⟨a,vs,rfl,h1,h2⟩:=lI w rx hx;obtain⟨v,h3,h4⟩:=h2.atI' hz;rcases h1 with h1 | h1
     .exact .inl (.inl ⟨_,_,_,_,rfl,rfl,h1,h3,aq.here e w h4⟩)
     .exact .inl (.inr ⟨_,_,_,_,rfl,rfl,h1,h3,aq.here e w h4⟩)
    .exact e.elim
   .exact e.elim
 .exact e.elim
variable{C:Ct}{a b:Expr}{pos:Pos}{fa fb:Sl->Hh->Res Val}
theorem se_sub'(hs:PlainIx b)(ha:SE C a fa)(hb:SE C b fb):SE C (.Subscript a b pos) (m2 au fa fb):=by
 obtain⟨ta,pa,sa⟩:=ha;obtain⟨tb,pb,sb⟩:=hb;refine⟨fun W σ H Q=>tOp (rIxU C.p.K) (ta W) (tb W) σ H Q\/tDGet (ta W) (tb W) σ H Q,fun W X g=>PE.or (pe_ix (IxR.or (IxR.or (uZ C.p.K g.K) (ix_tupK C.p.K g.K)) ix_str) (pa W X g) (pb W X g) hs) (pe_dget g.u1 (pa W X g) (pb W X g) hs),
  lp (ia sr_ix sa sb) (f2:=m2 jz fa fb) ?_ fun δ h=>pC (fun h x y=>by unfold au; split <;> simp) δ h⟩
 refine fun W σ δ m h G H Q en w e=>sa W σ δ m h G H _ en w (aq.bind e fun x h1 m1 G1 u H1 s1 w1 r1 e1=>sb W σ δ m1 h1 G1 H1 _ (en.stp s1) w1 (aq.bind e1 fun y h2 m2 G2 v H2 s2 w2 r2 e2=>?_));unfold jz at e2
 split at e2
 .rename_i z hz;obtain⟨a,o',rfl,g1,_,h3,_⟩:=hJ w2 (Rv.stp s2 r1) r2 hz;obtain⟨zv,rfl,rz⟩:=h3 z rfl;exact⟨a,zv,rfl,g1,aq.here e2 w2 rz⟩
 .exact e2.elim
def cC:Val->Bool
 | .non=>true | .bl _=>true | .int _=>true | .str _=>true | _=>false
def eqM:Val->Val->Bool
 | .non,.non=>true
 | .bl a,.bl b=>a == b
 | .bl a,.int b=>(if a then 1 else 0) == b
 | .int a,.bl b=>a == (if b then 1 else 0)
 | .int a,.int b=>a == b
 | .str a,.str b=>a == b
 | _,_=>false
theorem n8{hs:Rf->Prop}{u:V}{x:Val}(r:Rv p m hs G u x)(f:cC x=true):flatV u=true:=by
 cases r <;> first | rfl | cases f
theorem eqM_ok{hs:Rf->Prop}{u v:V}{x y:Val}(r:Rv p m hs G u x)(r':Rv p m hs G v y)(f:cC x=true)(f':cC y=true):eqV u v=eqM x y:=by
 cases r <;> first | (cases f; done) | (cases r' <;> first | rfl | (cases f'; done))
theorem inM_ok{hs:Rf->Prop}{v:V}{y:Val}(r':Rv p m hs G v y)(f':cC y=true):∀ {xs:List Val} {vs:List V},RvA p m hs G vs xs->xs.all cC=true->vs.all flatV=true/\inV v vs=xs.any fun x=>eqM x y
 | [],_,h,_=>by cases h; exact⟨rfl,rfl⟩
 | x :: xs,_,h,f=>by
  cases h with
  | cons h1 h2 =>
   rw [List.all_cons,Bool.and_eq_true] at f;obtain⟨e1,e2⟩:=inM_ok r' f' h2 f.2;refine⟨by rw [List.all_cons,n8 h1 f.1,e1]; rfl,?_⟩;show(_ :: _).any _=_;rw [List.any_cons,List.any_cons,eqM_ok h1 r' f.1 f'];exact congrArg _ e2
def inS(h:Hh)(x y:Val):Option Bool:=match y with
 | .str z=>match x with
  | .str c=>match c.cps.toList with
   | [n]=>some (decide (n∈z.cps.toList))
   | _=>none
  | _=>none
 | y=>match rdQ h y with
  | some xs=>if (cC x && xs.all cC)=true then some (xs.any fun z=>eqM z x) else none
  | none=>none
def inD(h:Hh)(x y:Val):Option Bool:=match fY h y x with
 | some o=>some o.isSome
 | none=>none
def cO(neg:Bool)(g:Hh->Val->Val->Option Bool)(h:Hh)(x y:Val):Res Val:=match g h x y with
 | some b=>.ok (.bl (if neg=true then !b else b)) h
 | none=>.err
def inU(h:Hh)(x y:Val):Option Bool:=if cq h y=true then inD h x y else inS h x y
def gp:Hh->Val->Val->Res Val:=cO false inU
def fF:Hh->Val->Val->Res Val:=cO true inU
def rSg(neg:Bool):R2:=fun x y H Q=>∃ (c:Nat) (z:Str),x = .str ⟨#[c]⟩/\y = .str z/\Q (.bl (if neg=true then !decide (c∈z.cps.toList) else decide (c∈z.cps.toList))) H
theorem one_sign:∀ {c:Str} {n:Nat},c.cps.toList=[n]->c=⟨#[n]⟩
 | ⟨arr⟩,n,h=>by
  have:arr = #[n]:=by rw [<- Array.toList_inj]; exact h
  rw [this]
theorem tU(neg:Bool):cA p (fun x y H Q=>rIn p.K neg x y H Q\/rSg neg x y H Q) (cO neg inS):=fun m h G H u v x y Q W σ w rx ry e=>by
 unfold cO at e
 split at e
 .rename_i b hb;unfold inS at hb
  split at hb
  .split at hb
   .split at hb
    .rename_i z0 _ c _ n hn
     cases hb
     cases rx; cases ry
     refine .inr ⟨n,_,?_,rfl,aq.here e w (.bl _)⟩;exact congrArg V.str (one_sign hn)
    .cases hb
   .cases hb
  .split at hb
   .rename_i xs hx
    split at hb
    .rename_i hf
     cases hb
     have hf':=Bool.and_eq_true_iff.mp hf;obtain⟨a,vs,rfl,h1,h2⟩:=lI w ry hx;obtain⟨e1,e2⟩:=inM_ok rx hf'.1 h2 hf'.2;refine .inl ⟨a,vs,rfl,h1,n8 rx hf'.1,e1,?_⟩;rw [e2];exact aq.here e w (.bl _)
    .cases hb
   .cases hb
 .exact e.elim
theorem or_in{X:Cx}(K:PySem.W.Frag)(h:X.K=K):OpR X (compareOp .In) (fun x y H Q=>rIn K false x y H Q\/rSg false x y H Q):=OpR.or (op_inK K h) op_in_sign
theorem or_nin{X:Cx}(K:PySem.W.Frag)(h:X.K=K):OpR X (compareOp .NotIn) (fun x y H Q=>rIn K true x y H Q\/rSg true x y H Q):=OpR.or (op_ninK K h) op_notIn_sign
theorem pc_op{X:Cx}{op:CmpOp}{r:R2}{ta tb:TE}(ho:OpR X (compareOp op) r)(ha:PE X a ta)(hb:PE X b tb):PC X op a b (tOp r ta tb):=⟨fun pins s σ H Q I h=>binT ha hb I h fun v u s2 x y H2 I2 rx ry q=>ho pins s2 σ H2 x y v u Q I2 rx ry q⟩
theorem PC.or{X:Cx}{op:CmpOp}{t t':TE}(h1:PC X op a b t)(h2:PC X op a b t'):PC X op a b (fun σ H Q=>t σ H Q\/t' σ H Q):=⟨fun pins s σ H Q I h=>h.elim (h1.run pins s σ H Q I) (h2.run pins s σ H Q I)⟩
theorem qP(neg:Bool)(h:Hh)(x y:Val):cO neg inU h x y=cO neg inS h x y\/cO neg inU h x y=cO neg inD h x y:=by
 by_cases hd:cq h y=true
 .right; unfold cO inU; rw [if_pos hd]
 .left; unfold cO inU; rw [if_neg hd]
theorem qj(neg:Bool){ta tb:WX->TE}(sa:Snd C.p (rV C.p) ta fa)(sb:Snd C.p (rV C.p) tb fb):Snd C.p (rV C.p) (fun W=>if neg=true then tDNotIn (ta W) (tb W) else tDIn (ta W) (tb W)) (m2 (cO neg inD) fa fb):=fun W σ δ m h G H Q en w e=>by
 have key:∀ u v H2 m2 G2 h2 x y,Wo C.p m2 h2 G2 H2->Rv C.p m2 h2.has G2 u x->Rv C.p m2 h2.has G2 v y->aq C.p (rV C.p) m2 h2 G2 H2 W σ Q (cO neg inD h2 x y)->∃ a o,v = .ref a/\DGet H2 a u o/\Q (.bl (if neg=true then !o.isSome else o.isSome)) H2:=by
  intro u v H2 m2 G2 h2 x y w2 r1 r2 e2;unfold cO inD at e2
  split at e2
  .rename_i b hb
   split at hb
   .rename_i o ho
    cases hb
    obtain⟨a,o',rfl,g1,_,h3,h4⟩:=hJ w2 r2 r1 ho;refine⟨a,o',rfl,g1,?_⟩;have:o'.isSome=o.isSome:=by
     cases o with
     | none=>rw [h4 rfl]; rfl
     | some d=>obtain⟨z,rfl,_⟩:=h3 d rfl; rfl
    rw [this];exact aq.here e2 w2 (.bl _)
   .cases hb
  .exact e2.elim
 cases neg
 .exact sa W σ δ m h G H _ en w (aq.bind e fun x h1 m1 G1 u H1 s1 w1 r1 e1=>sb W σ δ m1 h1 G1 H1 _ (en.stp s1) w1 (aq.bind e1 fun y h2 m2 G2 v H2 s2 w2 r2 e2=>key u v H2 m2 G2 h2 x y w2 (Rv.stp s2 r1) r2 e2))
 .exact sa W σ δ m h G H _ en w (aq.bind e fun x h1 m1 G1 u H1 s1 w1 r1 e1=>sb W σ δ m1 h1 G1 H1 _ (en.stp s1) w1 (aq.bind e1 fun y h2 m2 G2 v H2 s2 w2 r2 e2=>key u v H2 m2 G2 h2 x y w2 (Rv.stp s2 r1) r2 e2))
theorem pc_in(ha:SE C a fa)(hb:SE C b fb):∃ t:WX->TE,(∀ W X,Good C W X->PC X .In a b (t W))/\Snd C.p (rV C.p) t (m2 gp fa fb):=by
 obtain⟨ta,pa,sa⟩:=ha;obtain⟨tb,pb,sb⟩:=hb;exact⟨_,fun W X g=>PC.or (pc_op (or_in C.p.K g.K) (pa W X g) (pb W X g)) (pc_din g.u1 (pa W X g) (pb W X g)),lp (ia (tU false) sa sb) (qj false sa sb) fun δ h=>pC (qP false) δ h⟩
theorem pc_nin(ha:SE C a fa)(hb:SE C b fb):∃ t:WX->TE,(∀ W X,Good C W X->PC X .NotIn a b (t W))/\Snd C.p (rV C.p) t (m2 fF fa fb):=by
 obtain⟨ta,pa,sa⟩:=ha;obtain⟨tb,pb,sb⟩:=hb;exact⟨_,fun W X g=>PC.or (pc_op (or_nin C.p.K g.K) (pa W X g) (pb W X g)) (pc_dnotin g.u1 (pa W X g) (pb W X g)),lp (ia (tU true) sa sb) (qj true sa sb) fun δ h=>pC (qP true) δ h⟩
theorem qu(ha:SE C a fa)(hb:SE C b fb)(hm:behindInMarks .In b=false:=by rfl):SE C (.Compare a [.In] [b] pos) (m2 gp fa fb):=by
 obtain⟨t,p1,s⟩:=pc_in ha hb;exact⟨t,fun W X g=>pe_cmp (p1 W X g) hm,s⟩
theorem qg(ha:SE C a fa)(hb:SE C b fb)(hm:behindInMarks .In b=false:=by rfl):ST C (.Compare a [.In] [b] pos) (mB (m2 gp fa fb)):=by
 obtain⟨t,p1,s⟩:=pc_in ha hb;exact⟨fun W=>tB (t W),fun W X g=>pt_cmp (p1 W X g) hm,gG s⟩
theorem tQ(ha:SE C a fa)(hb:SE C b fb)(hm:behindInMarks .NotIn b=false:=by rfl):ST C (.Compare a [.NotIn] [b] pos) (mB (m2 fF fa fb)):=by
 obtain⟨t,p1,s⟩:=pc_nin ha hb;exact⟨fun W=>tB (t W),fun W X g=>pt_cmp (p1 W X g) hm,gG s⟩
end
end M
namespace M
open PySem PySem.Spec PyProof.Rows L2 B
def e6{α : Type}(xs:List α)(lo hi:Option Int):List α:=(xs.drop (HT.sIx xs.length 0 lo)).take (HT.sIx xs.length xs.length hi - HT.sIx xs.length 0 lo)
theorem iy{α : Type}(xs:List α)(k:Nat):e6 xs none (some (k:Int))=xs.take k:=by
 unfold e6;rw [HT.sIx_nat,HT.sIx_none]
 simp only [List.drop_zero,Nat.sub_zero]
 by_cases h:k<=xs.length
 .rw [Nat.min_eq_left h]
 .rw [Nat.min_eq_right (by omega),List.take_of_length_le (Nat.le_refl _),List.take_of_length_le (by omega)]
theorem rS{α : Type}(xs:List α)(k:Nat):e6 xs (some (k:Int)) none=xs.drop k:=by
 unfold e6;rw [HT.sIx_nat,HT.sIx_none]
 by_cases h:k<=xs.length
 .rw [Nat.min_eq_left h,List.take_of_length_le (by simp)]
 .rw [Nat.min_eq_right (by omega)]
  simp [List.drop_of_length_le (show xs.length<=k by omega)]
theorem cutL_all{α : Type}(xs:List α)(lo hi:Option Int)(h:HT.sIx xs.length 0 lo=0/\HT.sIx xs.length xs.length hi=xs.length):e6 xs lo hi=xs:=by unfold e6; rw [h.1,h.2]; simp
theorem RvA.cut{p:Pm}{m:Rf->Addr}{hs:Rf->Prop}{G:Hp}{vs:List V}{xs:List Val}{lo hi:Option Int}(h:RvA p m hs G vs xs):RvA p m hs G (cutV vs lo hi) (e6 xs lo hi):=by
 unfold cutV e6;rw [h.len];exact(h.drop _).take _
def j4(h:Hh)(x:Val)(lo hi:Option Int):Res Val:=match x with
 | .str z=>if z.length<=1000000 then .ok (.str (cutS z lo hi)) h else .err
 | .tup xs=>.ok (.tup (e6 xs lo hi)) h
 | .kt xs=>if HT.sIx xs.length 0 lo=0/\HT.sIx xs.length xs.length hi=xs.length then .ok (.kt xs) h else .ok (.tup (e6 xs lo hi)) h
 | x=>match rdL h x with
  | some xs=>.ok (.lst (e6 xs lo hi)) h
  | none=>.err
def rSlU(K:PySem.W.Frag):V->Option Int->Option Int->Hp->VK->Prop:=fun x lo hi H Q=>(rSlL K x lo hi H Q\/rSlF K x lo hi H Q)\/rSlS x lo hi H Q
theorem or_sl{X:Cx}(K:PySem.W.Frag)(h:X.K=K):SlR X (rSlU K):=SlR.or (SlR.or (tZ K h) (sl_tupF K h)) sl_str
theorem sr_sl{p:Pm}{m:Rf->Addr}{h:Hh}{G H:Hp}{u:V}{x:Val}{lo hi:Option Int}{Q:VK}{W:WX}{σ : L2.St}(w:Wo p m h G H)(rx:Rv p m h.has G u x)(e:aq p (rV p) m h G H W σ Q (j4 h x lo hi)):rSlU p.K u lo hi H Q:=by
 unfold j4 at e
 split at e
 .cases rx
  split at e
  .exact .inr ⟨_,rfl,aK (by assumption),aq.here e w (.str _)⟩
  .exact e.elim
 .cases rx with
  | tup h1 h2 =>
   refine .inl (.inr ⟨_,_,rfl,(h1.sq w.gh),fun z=>?_,fun _ q n=>eZ e w n h2.cut⟩);rw [h2.len] at z;rw [cutL_all _ _ _ z] at e;exact aq.here e w (.tup h1 h2)
 .cases rx with
  | kt h1 h2 =>
   refine .inl (.inr ⟨_,_,rfl,h1 H,fun z=>?_,fun z q n=>?_⟩)
   .rw [h2.len] at z;rw [if_pos z] at e;exact aq.here e w (.kt h1 h2)
   .rw [h2.len] at z;rw [if_neg z] at e;exact eZ e w n h2.cut
 .split at e
  .rename_i xs hx;obtain⟨a,vs,rfl,h1,h2⟩:=jw w rx hx;exact .inl (.inl ⟨_,_,rfl,h1,fun q n=>eY e w n h2.cut⟩)
  .exact e.elim
section
variable{X:Cx}{e:Expr}{te:TE}
def tJ(te:TE):TO:=fun σ H Q=>te σ H fun x H1=>(∃ i,x = .int i/\Q (some i) H1)\/(x = .non/\Q none H1)
theorem uy(h:PE X e te):PO X (some e) (tJ te):=by
 refine⟨fun pins s σ H Q I hw=>?_⟩;rw [evalPart_some];refine thn (h.run pins s σ H _ I hw) fun u s1 ⟨x,H1,I1,r1,q1⟩=>?_;rcases q1 with ⟨i,rfl,q⟩ | ⟨rfl,q⟩
 .obtain⟨t,rfl⟩:=r1;exact⟨some i,H1,I1,.int i t,q⟩
 .cases r1
  exact⟨none,H1,I1,.none,q⟩
end
def asP(x:Val)(h:Hh):Res (Option Int):=match x with
 | .int i=>.ok (some i) h
 | .non=>.ok none h
 | _=>.err
def cR:Sl->Hh->Res (Option Int):=fun _ h=>.ok none h
def mP(f:Sl->Hh->Res Val):Sl->Hh->Res (Option Int):=fun δ h=>(f δ h).bind asP
def mSl(f:Sl->Hh->Res Val)(fl fh:Sl->Hh->Res (Option Int)):Sl->Hh->Res Val:=fun δ h=>(f δ h).bind fun x h1=>(fl δ h1).bind fun l h2=>(fh δ h2).bind fun u h3=>j4 h3 x l u
section
variable{C:Ct}{a b e:Expr}{es:List Expr}{pos p2:Pos}{fa fb:Sl->Hh->Res Val}{fl fh:Sl->Hh->Res (Option Int)}{lo hi:Option Expr}{fs:Sl->Hh->Res (List Val)}
theorem bC:SO C none cR:=⟨fun _=>tNoPart,fun _ _ _=>po_none,fun W σ δ m h G H Q en w e=>aq.here e w rfl⟩
theorem cE(ha:SE C e fa):SO C (some e) (mP fa):=by
 obtain⟨ta,pa,sa⟩:=ha;refine⟨fun W=>tJ (ta W),fun W X g=>uy (pa W X g),fun W σ δ m h G H Q en w e=>sa W σ δ m h G H _ en w (aq.bind e fun x h1 m1 G1 u H1 s1 w1 r1 e1=>?_)⟩;unfold asP at e1
 split at e1
 .cases r1; exact .inl ⟨_,rfl,aq.here e1 w1 rfl⟩
 .cases r1; exact .inr ⟨rfl,aq.here e1 w1 rfl⟩
 .exact e1.elim
theorem bu(ha:SE C a fa)(hl:SO C lo fl)(hh:SO C hi fh):SE C (.Subscript a (.Slice lo hi none p2) pos) (mSl fa fl fh):=by
 obtain⟨ta,pa,sa⟩:=ha;obtain⟨tl,pl,sl⟩:=hl;obtain⟨tu,pu,su⟩:=hh;refine⟨fun W=>tSl (rSlU C.p.K) (ta W) (tl W) (tu W),fun W X g=>pe_slice (or_sl C.p.K g.K) (pa W X g) (pl W X g) (pu W X g),fun W σ δ m h G H Q en w e=>sa W σ δ m h G H _ en w (aq.bind e fun x h1 m1 G1 u H1 s1 w1 r1 e1=>?_)⟩;refine sl W σ δ m1 h1 G1 H1 _ (en.stp s1) w1 (aq.bind e1 fun l h2 m2 G2 l' H2 s2 w2 r2 e2=>?_);refine su W σ δ m2 h2 G2 H2 _ (en.stp (s1.trans s2)) w2 (aq.bind e2 fun y h3 m3 G3 y' H3 s3 w3 r3 e3=>?_)
 cases r2; cases r3
 exact sr_sl w3 (Rv.stp (s2.trans s3) r1) e3
def lookF:List (Nat×Val)->Nat->Option Val
 | [],_=>none
 | (g,x) :: r,f=>if g=f then some x else lookF r f
def opFld(f:Nat)(h:Hh)(x:Val):Res Val:=match x with
 | .ref r=>match h.get r with
  | some (.ins _ fs)=>match lookF fs f with
   | some v=>.ok v h
   | none=>.err
  | _=>.err
 | _=>.err
def mF(p:Pm)(r:RL)(g:Hh->List Val->Res Val):Prop:=∀ m h G H us xs Q W σ,Wo p m h G H->RvA p m h.has G us xs->aq p (rV p) m h G H W σ Q (g h xs)->r us H Q
def mC(g:Hh->List Val->Res Val)(fs:Sl->Hh->Res (List Val)):Sl->Hh->Res Val:=fun δ h=>(fs δ h).bind fun xs h1=>g h1 xs
theorem tX{r:RL}{g:Hh->List Val->Res Val}{t:WX->TA}(s:mF C.p r g)(sa:Snd C.p (rA C.p) t fs):Snd C.p (rV C.p) (fun W=>tCB r (t W)) (mC g fs):=fun W σ δ m h G H Q en w e =>
 sa W σ δ m h G H _ en w (aq.bind e fun xs h1 m1 G1 us H1 s1 w1 r1 e1=>s m1 h1 G1 H1 us xs Q W σ w1 r1 e1)
theorem ua{id:String}{x:Str}{q:Pos}{r:RL}{g:Hh->List Val->Res Val}(ho:∀ W X,Good C W X->CallR X (.builtin id) r)(s:mF C.p r g)(hl:C.sc.names.lookup x=some .globalImplicit)(hm:C.p.mg x=none)(hv:bootBuiltins x=some (.builtin id))(ha:SA C (e :: es) fs)
  (hn:x≠"__name__":=by decide) (hdb:(x == ("__debug__" : Str))=false:=by decide) (he:∀ env,starEach (e :: es) env=(false,eval e env) :: starEach es env:=by intro _; rfl) (hpl:∀ env,(backTo pos (starEach es env)).any (·.1)=false:=by intro _; rfl) :
  SE C (.Call (.Name x q) (e :: es) [] pos) (mC g fs):=by
 obtain⟨t,pa,sa⟩:=ha;exact⟨fun W=>tCB r (t W),fun W X gd=>pe_callB (ho W X gd) (gd.gl hl) (by rw [gd.mg]; exact hm) hv (pa W X gd) hn hdb (he _) (hpl _),tX s sa⟩
theorem t7{T:String}{x:Str}{q:Pos}{r:RL}{g:Hh->List Val->Res Val}(ho:∀ W X,Good C W X->CallR X (.type T) r)(s:mF C.p r g)(hl:C.sc.names.lookup x=some .globalImplicit)(hm:C.p.mg x=none)(hv:bootBuiltins x=some (.type T))(ha:SA C (e :: es) fs)
  (hn:x≠"__name__":=by decide) (hdb:(x == ("__debug__" : Str))=false:=by decide) (he:∀ env,starEach (e :: es) env=(false,eval e env) :: starEach es env:=by intro _; rfl) (hpl:∀ env,(backTo pos (starEach es env)).any (·.1)=false:=by intro _; rfl) :
  SE C (.Call (.Name x q) (e :: es) [] pos) (mC g fs):=by
 obtain⟨t,pa,sa⟩:=ha;exact⟨fun W=>tCB r (t W),fun W X gd=>pe_callTy (ho W X gd) (gd.gl hl) (by rw [gd.mg]; exact hm) hv (pa W X gd) hn hdb (he _) (hpl _),tX s sa⟩
def cz(h:Hh)(xs:List Val):Res Val:=match xs with
 | [.str z]=>if z.length<=1000000 then .ok (.int z.length) h else .err
 | [x]=>match rdQ h x with
  | some ys=>.ok (.int ys.length) h
  | none=>match x with
   | .ref r=>match h.get r with
    | some (.dct kvs)=>.ok (.int kvs.length) h
    | _=>.err
   | _=>.err
 | _=>.err
def bAbs(h:Hh)(xs:List Val):Res Val:=match xs with
 | [.int a]=>.ok (.int (if a < 0 then -a else a)) h
 | _=>.err
def intsM:List Val->Option (List Int)
 | []=>some []
 | .int i :: xs=>(intsM xs).map (i :: ·)
 | _=>none
def pR:List Val->Option (List Bool)
 | []=>some []
 | .bl i :: xs=>(pR xs).map (i :: ·)
 | _=>none
def jm:List Val->Option (List Str)
 | []=>some []
 | .str i :: xs=>(jm xs).map (i :: ·)
 | _=>none
theorem qZ:∀ {xs:List Val} {ns:List Bool},pR xs=some ns->xs=ns.map Val.bl
 | [],_,h=>by cases h; rfl
 | .bl i :: xs,_,h=>by
  have h:(pR xs).map (i :: ·)=some _:=h;obtain⟨l,h1,h2⟩:=Option.map_eq_some_iff.mp h;subst h2; rw [qZ h1]; rfl
 | .non :: _,_,h=>by cases h
 | .int _ :: _,_,h=>by cases h
 | .str _ :: _,_,h=>by cases h
 | .lst _ :: _,_,h=>by cases h
 | .tup _ :: _,_,h=>by cases h
 | .dct _ :: _,_,h=>by cases h
 | .ref _ :: _,_,h=>by cases h
 | .fn _ :: _,_,h=>by cases h
 | .kt _ :: _,_,h=>by cases h
 | .scr _ :: _,_,h=>by cases h
theorem mN:∀ {xs:List Val} {ns:List Str},jm xs=some ns->xs=ns.map Val.str
 | [],_,h=>by cases h; rfl
 | .str i :: xs,_,h=>by
  have h:(jm xs).map (i :: ·)=some _:=h;obtain⟨l,h1,h2⟩:=Option.map_eq_some_iff.mp h;subst h2; rw [mN h1]; rfl
 | .non :: _,_,h=>by cases h
 | .int _ :: _,_,h=>by cases h
 | .bl _ :: _,_,h=>by cases h
 | .lst _ :: _,_,h=>by cases h
 | .tup _ :: _,_,h=>by cases h
 | .dct _ :: _,_,h=>by cases h
 | .ref _ :: _,_,h=>by cases h
 | .fn _ :: _,_,h=>by cases h
 | .kt _ :: _,_,h=>by cases h
 | .scr _ :: _,_,h=>by cases h
theorem km:∀ {ns:List Str},jm (ns.map Val.str)=some ns
 | []=>rfl
 | n :: ns=>by show(jm (ns.map Val.str)).map (n :: ·)=_; rw [km]; rfl
def sy(h:Hh)(xs:List Val)(k:List Int->Res Val):Res Val:=match xs with
 | [x]=>match rdL h x with
  | some ys=>match intsM ys with
   | some ns=>k ns
   | none=>.err
  | none=>.err
 | _=>.err
def bMaxL(h:Hh)(xs:List Val):Res Val:=sy h xs fun ns=>match ns.max? with
 | some n=>.ok (.int n) h
 | none=>.err
def i6(h:Hh)(xs:List Val)(k:List Bool->Res Val):Res Val:=match xs with
 | [x]=>match rdL h x with
  | some ys=>match pR ys with
   | some ns=>k ns
   | none=>.err
  | none=>.err
 | _=>.err
def mD(h:Hh)(xs:List Val):Res Val:=i6 h xs fun ns=>.ok (.bl (ns.all id)) h
def d7(h:Hh)(xs:List Val):Res Val:=match xs with
 | [.tup ys]=>.ok (.tup ys) h
 | [x]=>match rdL h x with
  | some ys=>.ok (.tup ys) h
  | none=>.err
 | _=>.err
def i5(h:Hh)(xs:List Val):Res Val:=match xs with
 | [.int i]=>.ok (.int i) h
 | [.bl b]=>.ok (.int (if b=true then 1 else 0)) h
 | [.str a]=>match PySem.intText? a with
  | some n=>if a.length<=640 then .ok (.int n) h else .err
  | none=>.err
 | _=>.err
def ka(h:Hh)(xs:List Val):Res Val:=match xs with
 | [.int i]=>if i.natAbs.log2 < 1920 then .ok (.str (toString i)) h else .err
 | [.str a]=>.ok (.str a) h
 | _=>.err
end
theorem CallR.or{X:Cx}{f:Value}{r r':RL}(a:CallR X f r)(b:CallR X f r'):CallR X f (fun xs H Q=>r xs H Q\/r' xs H Q):=by
 intro pins s σ H xs us Q I rx h;rcases h with h | h
 .exact a pins s σ H xs us Q I rx h
 .exact b pins s σ H xs us Q I rx h
section
variable{p:Pm}
theorem eB{m:Rf->Addr}{hs:Rf->Prop}{G:Hp}{us:List V}{x:Val}(r:RvA p m hs G us [x]):∃ u,us=[u]/\Rv p m hs G u x:=by
 cases r with | cons h1 h2=>cases h2; exact⟨_,rfl,h1⟩
theorem rva2{m:Rf->Addr}{hs:Rf->Prop}{G:Hp}{us:List V}{x y:Val}(r:RvA p m hs G us [x,y]):∃ u v,us=[u,v]/\Rv p m hs G u x/\Rv p m hs G v y:=by
 cases r with | cons h1 h2=>cases h2 with | cons h2 h3=>cases h3; exact⟨_,_,rfl,h1,h2⟩
def rLenD:RL:=fun xs H Q=>∃ d kvs,xs=[.ref d]/\H d=some (.dK kvs)/\Q (.int kvs.length) H
theorem pP{X:Cx}:CallR X (.builtin "len") rLenD:=fun pins s σ H xs us Q I r h=>by
 obtain⟨d,kvs,e,hd,q⟩:=h;exact call_lenD pins s σ H xs us Q I r ⟨d,kvs,e,hd,q⟩
def rLenU(K:PySem.W.Frag):RL:=fun xs H Q=>(rLenS xs H Q\/uw K xs H Q)\/rLenD xs H Q
theorem cr_len{X:Cx}(K:PySem.W.Frag)(h:X.K=K):CallR X (.builtin "len") (rLenU K):=CallR.or (CallR.or cl_lenS (cl_lenK K h)) pP
theorem sc_len:mF p (rLenU p.K) cz:=fun m h G H us xs Q W σ w r e=>by
 unfold cz at e
 split at e
 .obtain⟨u,rfl,ru⟩:=eB r
  cases ru
  split at e
  .exact .inl (.inl (rd_lenS (aK (by assumption)) (aq.here e w (.int _))))
  .exact e.elim
 .obtain⟨u,rfl,ru⟩:=eB r
  split at e
  .rename_i ys hy;obtain⟨a,vs,rfl,h1,h2⟩:=lI w ru hy;exact .inl (.inr ⟨a,vs,rfl,h1,by rw [h2.len]; exact aq.here e w (.int _)⟩)
  .split at e
   .split at e
    .rename_i hc;obtain⟨_,_,o,h3,h4⟩:=w.cel _ _ hc
     cases ru
     cases h4 with
     | dct h4=>exact .inr ⟨_,_,rfl,h3,by rw [h4.length]; exact aq.here e w (.int _)⟩
    .exact e.elim
   .exact e.elim
 .exact e.elim
theorem oH{m:Rf->Addr}{h:Hh}{G H:Hp}{us:List V}{xs:List Val}{Q:VK}{W:WX}{σ : L2.St}{k:List Bool->Res Val}(w:Wo p m h G H)(r:RvA p m h.has G us xs)(e:aq p (rV p) m h G H W σ Q (i6 h xs k)) :
  ∃ a ns,us=[.ref a]/\SqL p.K H a (ns.map V.bl)/\aq p (rV p) m h G H W σ Q (k ns):=by
 unfold i6 at e
 split at e
 .obtain⟨u,rfl,ru⟩:=eB r
  split at e
  .rename_i ys hy
   split at e
   .rename_i ns hn;obtain⟨a,vs,rfl,h1,h2⟩:=jw w ru hy;have:=qZ hn;subst this;rw [iN h2] at h1;exact⟨a,ns,rfl,h1,e⟩
   .exact e.elim
  .exact e.elim
 .exact e.elim
theorem sc_all:mF p (rAll p.K) mD:=fun m h G H us xs Q W σ w r e=>by
 obtain⟨a,ns,rfl,h1,e⟩:=oH w r e;exact⟨a,ns,rfl,h1,aq.here e w (.bl _)⟩
theorem ud:mF p (rTupF p.K) d7:=fun m h G H us xs Q W σ w r e=>by
 unfold d7 at e
 split at e
 .obtain⟨u,rfl,ru⟩:=eB r
  cases ru with
  | tup h1 h2=>exact⟨_,_,rfl,.inr ⟨(h1.sq w.gh),aq.here e w (.tup h1 h2)⟩⟩
 .obtain⟨u,rfl,ru⟩:=eB r
  split at e
  .rename_i ys hy;obtain⟨a,vs,rfl,h1,h2⟩:=jw w ru hy;exact⟨a,vs,rfl,.inl ⟨h1,fun q n=>eZ e w n h2⟩⟩
  .exact e.elim
 .exact e.elim
def rIntS:RL:=fun xs H Q=>∃ a n,xs=[.str a]/\PySem.intText? a=some n/\a.length<=640/\Q (.int n) H
def rIntU:RL:=fun xs H Q=>qD xs H Q\/rIntS xs H Q
theorem cr_int{X:Cx}:CallR X (.type "int") rIntU:=CallR.or cl_int call_int_str
theorem sc_int:mF p rIntU i5:=fun m h G H us xs Q W σ w r e=>by
 unfold i5 at e
 split at e
 .obtain⟨u,rfl,ru⟩:=eB r
  cases ru; exact .inl (rd_intI (aq.here e w (.int _)))
 .obtain⟨u,rfl,ru⟩:=eB r
  cases ru; exact .inl (rd_intB (aq.here e w (.int _)))
 .obtain⟨u,rfl,ru⟩:=eB r
  cases ru
  split at e
  .split at e
   .exact .inr ⟨_,_,rfl,by assumption,by assumption,aq.here e w (.int _)⟩
   .exact e.elim
  .exact e.elim
 .exact e.elim
def rStr1:RL:=fun xs H Q=>(∃ i,xs=[.int i]/\i.natAbs.log2 < 1920/\Q (.str (toString i)) H)\/∃ a,xs=[.str a]/\Q (.str a) H
theorem cr_str{X:Cx}:CallR X (.type "str") rStr1:=CallR.or call_str_int SkE.call_str_str
theorem sc_str:mF p rStr1 ka:=fun m h G H us xs Q W σ w r e=>by
 unfold ka at e
 split at e
 .obtain⟨u,rfl,ru⟩:=eB r
  cases ru
  split at e
  .exact .inl ⟨_,rfl,by assumption,aq.here e w (.str _)⟩
  .exact e.elim
 .obtain⟨u,rfl,ru⟩:=eB r
  cases ru; exact .inr ⟨_,rfl,aq.here e w (.str _)⟩
 .exact e.elim
end
def tyN(h:Hh):Val->Option String
 | .non=>some "NoneType"
 | .bl _=>some "bool"
 | .int _=>some "int"
 | .str _=>some "str"
 | .lst _=>some "list"
 | .tup _=>some "tuple"
 | .kt _=>some "tuple"
 | .ref r=>match h.get r with
  | some (.lst _)=>some "list"
  | _=>none
 | _=>none
inductive Ity where
 | int | bool | str | list | tuple
def Ity.nm:Ity->String
 | .int=>"int" | .bool=>"bool" | .str=>"str" | .list=>"list" | .tuple=>"tuple"
def isTyV(T:Ity):Val->Option Bool
 | .non=>some false
 | .bl _=>some (match T with | .int=>true | .bool=>true | _=>false)
 | .int _=>some (match T with | .int=>true | _=>false)
 | .str _=>some (match T with | .str=>true | _=>false)
 | .lst _=>some (match T with | .list=>true | _=>false)
 | .tup _=>some (match T with | .tuple=>true | _=>false)
 | _=>none
def eT(T:Ity)(h:Hh)(x:Val):Res Val:=match isTyV T x with
 | some b=>.ok (.bl b) h
 | none=>match x with
  | .ref r=>match h.get r with
   | some (.lst _)=>.ok (.bl (match T with | .list=>true | _=>false)) h
   | _=>.err
  | _=>.err
theorem kb(T:Ity):kitB "NoneType" T.nm=some false/\kitB "bool" T.nm=some (match T with | .int=>true | .bool=>true | _=>false)/\kitB "int" T.nm=some (match T with | .int=>true | _=>false)/\kitB "str" T.nm=some (match T with | .str=>true | _=>false) /\
  kitB "list" T.nm=some (match T with | .list=>true | _=>false)/\kitB "tuple" T.nm=some (match T with | .tuple=>true | _=>false):=by
 cases T <;> decide +kernel
theorem isi_ok{p:Pm}{m:Rf->Addr}{h:Hh}{G H:Hp}{u:V}{x:Val}{T:Ity}{Q:VK}{W:WX}{σ : L2.St}(w:Wo p m h G H)(r:Rv p m h.has G u x)(e:aq p (rV p) m h G H W σ Q (eT T h x)):∃ t b,TyX p.K H u (.type t)/\kitB t T.nm=some b/\Q (.bl b) H:=by
 obtain⟨k1,k2,k3,k4,k5,k6⟩:=kb T;unfold eT at e
 split at e
 .rename_i b hb
  cases r with
  | non=>cases hb; exact⟨_,_,.base .non,k1,aq.here e w (.bl _)⟩
  | bl=>cases hb; exact⟨_,_,.base (.bl _),k2,aq.here e w (.bl _)⟩
  | int=>cases hb; exact⟨_,_,.base (.int _),k3,aq.here e w (.bl _)⟩
  | str=>cases hb; exact⟨_,_,.base (.str _),k4,aq.here e w (.bl _)⟩
  | lst h1 _=>cases hb; exact⟨_,_,.base (.lst (w.gh _ _ h1)),k5,aq.here e w (.bl _)⟩
  | tup h1 _=>cases hb; exact⟨_,_,h1.ty w.gh,k6,aq.here e w (.bl _)⟩
  | _=>cases hb
 .split at e
  .split at e
   .rename_i hc;obtain⟨_,_,o,h3,h4⟩:=w.cel _ _ hc
    cases r
    cases h4 with | lst h4=>exact⟨_,_,.base (.lst h3),k5,aq.here e w (.bl _)⟩
   .exact e.elim
  .exact e.elim
section
variable{C:Ct}{e:Expr}{pos q q2:Pos}{fa:Sl->Hh->Res Val}
theorem boot_ty(T:Ity):bootBuiltins T.nm=some (.type T.nm)/\((T.nm:Str)≠"__name__")/\(((T.nm:Str) == ("__debug__" : Str))=false):=by cases T <;> refine⟨?_,?_,?_⟩ <;> decide +kernel
theorem bb_isi:bootBuiltins "isinstance" = some (.builtin "isinstance"):=by decide +kernel
theorem ie(T:Ity){x:Str}(hx:x=T.nm)(hl:C.sc.names.lookup ("isinstance" : Str)=some .globalImplicit)(hm:C.p.mg "isinstance" = none)(hl2:C.sc.names.lookup x=some .globalImplicit)(hm2:C.p.mg x=none)(ha:SE C e fa)
  (he:∀ env,starEach (e :: [.Name x q2]) env=(false,eval e env) :: starEach [.Name x q2] env:=by intro _; rfl):SE C (.Call (.Name "isinstance" q) [e,.Name x q2] [] pos) (m1 (eT T) fa):=by
 obtain⟨ta,pa,sa⟩:=ha;subst hx;obtain⟨b1,b2,b3⟩:=boot_ty T;refine⟨fun W=>tCB (rIsi C.p.K) (tCons (ta W) (tCons (tC (.ty T.nm)) tNil)),fun W X g=>pe_callB (pQ C.p.K g.K) (g.gl hl) (by rw [g.mg]; exact hm) bb_isi (pa_cons (pa W X g) (pa_cons (pe_bltn (v:=.ty T.nm) (u:=.type T.nm) (g.gl hl2) (by rw [g.mg]; exact hm2) b1 rfl b2 b3) pa_nil) (he _)) (by decide) (by decide) (he _) rfl,
  fun W σ δ m h G H Q en w e=>sa W σ δ m h G H _ en w (aq.bind e fun x h1 m1 G1 u H1 s1 w1 r1 e1=>?_)⟩
 obtain⟨t,b,ht,hb,q⟩:=isi_ok w1 r1 e1;exact⟨u,.ty T.nm,.type t,.type T.nm,b,rfl,.ty T.nm,ht,kit_ty hb,q⟩
end
end M
namespace M
open PySem PySem.Spec PyProof.Rows L2 B
inductive aD where
 | err | nx (δ : Sl) (h:Hh) | rt (v:Val) (h:Hh) | bk (δ : Sl) (h:Hh) | ct (δ : Sl) (h:Hh) | exc (c:Nat) (fs:List (Nat×Val)) (δ : Sl) (h:Hh)
def aD.thn(r:aD)(k:Sl->Hh->aD):aD:=match r with
 | .nx δ h=>k δ h
 | r=>r
def Res.st{α : Type}(r:Res α)(δ : Sl)(k:α->Hh->aD):aD:=match r with
 | .err=>.err
 | .ok a h=>k a h
 | .exc c fs h=>.exc c fs δ h
def bK(p:Pm)(m:Rf->Addr)(h:Hh)(G H:Hp)(W:WX)(E:Ends):aD->Prop
 | .err=>False
 | .nx δ h'=>∀ m' G' σ' H',Stp m h G H m' h' G' H'->Wo p m' h' G' H'->En p m' h' G' σ' δ->E.nx σ' H'
 | .rt v h'=>∀ m' G' u H',Stp m h G H m' h' G' H'->Wo p m' h' G' H'->Rv p m' h'.has G' u v->E.rt u H'
 | .bk δ h'=>∀ m' G' σ' H',Stp m h G H m' h' G' H'->Wo p m' h' G' H'->En p m' h' G' σ' δ->E.bk σ' H'
 | .ct δ h'=>∀ m' G' σ' H',Stp m h G H m' h' G' H'->Wo p m' h' G' H'->En p m' h' G' σ' δ->E.ct σ' H'
 | .exc c fs δ h'=>∀ m' G' σ' H' cls d,Stp m h G H m' h' G' H'->Wo p m' h' G' H'->En p m' h' G' σ' δ->XR p m' h' G' H' c fs cls d->W cls d σ' H'
def SndS(p:Pm)(t:WX->TS)(f:Sl->Hh->aD):Prop:=∀ W σ δ m h G H E,En p m h G σ δ->Wo p m h G H->bK p m h G H W E (f δ h)->t W E σ H
section
variable{p:Pm}{m m1:Rf->Addr}{h h1:Hh}{G H G1 H1:Hp}{W:WX}{σ : L2.St}{δ : Sl}{E:Ends}{r:aD}
theorem bK.after(s:Stp m h G H m1 h1 G1 H1)(e:bK p m h G H W E r):bK p m1 h1 G1 H1 W E r:=by
 cases r with
 | err=>exact e
 | nx δ h'=>exact fun m' G' u H' s' w' r'=>e m' G' u H' (s.trans s') w' r'
 | rt v h'=>exact fun m' G' u H' s' w' r'=>e m' G' u H' (s.trans s') w' r'
 | bk δ h'=>exact fun m' G' u H' s' w' r'=>e m' G' u H' (s.trans s') w' r'
 | ct δ h'=>exact fun m' G' u H' s' w' r'=>e m' G' u H' (s.trans s') w' r'
 | exc c fs δ h'=>exact fun m' G' σ' H' cls d s' w' e' x'=>e m' G' σ' H' cls d (s.trans s') w' e' x'
theorem bK.ex{α β : Type}{R:kc α β}{ra:Res α}{k:α->Hh->aD}{Q:β->Hp->Prop}(en:En p m h G σ δ)(e:bK p m h G H W E (ra.st δ k))(step:∀ x h1 m1 G1 u H1,Stp m h G H m1 h1 G1 H1->Wo p m1 h1 G1 H1->R m1 h1 G1 u x->bK p m1 h1 G1 H1 W E (k x h1)->Q u H1):aq p R m h G H W σ Q ra:=by
 cases ra with
 | err=>exact e
 | ok x h'=>exact fun m' G' u H' s' w' r'=>step x h' m' G' u H' s' w' r' (bK.after s' e)
 | exc c fs h'=>exact fun m' G' H' cls d s' w' x'=>e m' G' σ H' cls d s' w' (en.stp s') x'
theorem bK.thn{k:Sl->Hh->aD}(e:bK p m h G H W E (r.thn k)):bK p m h G H W { E with nx:=fun σ' H'=>∃ m' h' G' δ',Stp m h G H m' h' G' H'/\Wo p m' h' G' H'/\En p m' h' G' σ' δ'/\bK p m' h' G' H' W E (k δ' h') } r:=by
 cases r with
 | err=>exact e
 | nx δ h'=>exact fun m' G' σ' H' s' w' e'=>⟨m',h',G',δ,s',w',e',bK.after s' e⟩
 | rt v h'=>exact e
 | bk δ h'=>exact e
 | ct δ h'=>exact e
 | exc c fs δ h'=>exact e
theorem bK.nxh(e:bK p m h G H W E (.nx δ h))(w:Wo p m h G H)(en:En p m h G σ δ):E.nx σ H:=e m G σ H .refl w en
end
def SS(C:Ct)(st:Stmt)(f:Sl->Hh->aD):Prop:=∃ t:WX->TS,(∀ W X,Good C W X->PS X st (t W))/\SndS C.p t f
def SSs(C:Ct)(st:List Stmt)(f:Sl->Hh->aD):Prop:=∃ t:WX->TS,(∀ W X,Good C W X->PSs X st (t W))/\SndS C.p t f
def SndT(p:Pm)(g:TG)(f:Val->Sl->Option Sl):Prop:=∀ m h G H σ δ u x δ' (Q:L2.St->Hp->Prop),Wo p m h G H->En p m h G σ δ->Rv p m h.has G u x->f x δ = some δ'->(∀ σ',En p m h G σ' δ'->Q σ' H)->g u σ H Q
def SndTs(p:Pm)(g:TGs)(f:List Val->Sl->Option Sl):Prop:=∀ m h G H σ δ us xs δ' (Q:L2.St->Hp->Prop),Wo p m h G H->En p m h G σ δ->RvA p m h.has G us xs->f xs δ = some δ'->(∀ σ',En p m h G σ' δ'->Q σ' H)->g us σ H Q
def GOnly(g:TG)(vs:List Nat):Prop:=∀ v σ H Q,g v σ H Q->g v σ H fun σ2 H2=>Q σ2 H2/\L2.wipe σ2 vs=L2.wipe σ vs
def GsOnly(g:TGs)(vs:List Nat):Prop:=∀ us σ H Q,g us σ H Q->g us σ H fun σ2 H2=>Q σ2 H2/\L2.wipe σ2 vs=L2.wipe σ vs
def GMono(g:TG):Prop:=∀ v σ H (Q Q':L2.St->Hp->Prop),(∀ σ H,Q σ H->Q' σ H)->g v σ H Q->g v σ H Q'
def GsMono(g:TGs):Prop:=∀ v σ H (Q Q':L2.St->Hp->Prop),(∀ σ H,Q σ H->Q' σ H)->g v σ H Q->g v σ H Q'
def SG(C:Ct)(tg:Expr)(vs:List Nat)(f:Val->Sl->Option Sl):Prop:=∃ g:TG,(∀ W X,Good C W X->PG X tg g)/\SndT C.p g f/\GOnly g vs/\GMono g
def SGs(C:Ct)(tgs:List Expr)(vs:List Nat)(f:List Val->Sl->Option Sl):Prop:=∃ g:TGs,(∀ W X,Good C W X->PGs X tgs g)/\SndTs C.p g f/\GsOnly g vs/\GsMono g
def tgN(i:Nat):Val->Sl->Option Sl:=fun x δ=>some (δ.set i (some x))
def kh:List Val->Sl->Option Sl:=fun xs δ=>match xs with
 | []=>some δ
 | _=>none
def eJ(f:Val->Sl->Option Sl)(g:List Val->Sl->Option Sl):List Val->Sl->Option Sl:=fun xs δ=>match xs with
 | x :: xs=>match f x δ with
  | some δ1=>g xs δ1
  | none=>none
 | []=>none
def tgT(g:List Val->Sl->Option Sl):Val->Sl->Option Sl:=fun x δ=>match rdT x with
 | some xs=>g xs δ
 | none=>none
section
theorem eC{σ : L2.St}:∀ {vs:List Nat} (k:Nat),(L2.wipe σ vs)[k]?=if k∈vs then(if k < σ.length then some none else none) else σ[k]?
 | [],k=>by simp [L2.wipe]
 | v :: vs,k=>by
  unfold L2.wipe
  by_cases h:v=k
  .subst h;rw [List.getElem?_set_self',if_pos (by simp)]
   by_cases hl:v < σ.length
   .rw [if_pos hl];have:v < (L2.wipe σ vs).length:=by rw [wipe_length]; exact hl
    simp [this]
   .rw [if_neg hl];have:¬ v < (L2.wipe σ vs).length:=by rw [wipe_length]; exact hl
    simp; omega
  .rw [List.getElem?_set_ne h,eC k];have:(k∈v :: vs)↔k∈vs:=by simp; intro z; exact absurd z.symm h
   simp only [this]
variable{C:Ct}{pos:Pos}{vs:List Nat}{tg:Expr}{tgs:List Expr}
theorem qp{i:Nat}{x:Str}(hN:C.N[i]?=some x)(hl:C.sc.names.lookup x=some .local\/(C.sc.names.lookup x=some .cell/\C.fn x=true))(hi:i∈vs):SG C (.Name x pos) vs (tgN i):=by
 refine⟨gName i,fun W X g=>?_,fun m h G H σ δ u x δ' Q w en r e q=>?_,fun v σ H Q q=>⟨q,?_⟩,fun v σ H Q Q' h q=>h _ _ q⟩
 .refine pg_name g.nd (by rw [g.N]; exact hN) (by rw [g.sc]; exact hl.imp id And.left) ?_;rw [g.fn,g.sc];exact hl.symm.imp And.right id
 .cases e
  exact q _ (en.set i r)
 .refine List.ext_getElem? fun k=>?_;rw [eC,eC]
  by_cases hk:k∈vs
  .simp [hk]
  .have:i≠k:=fun z=>hk (z ▸ hi);rw [if_neg hk,if_neg hk,List.getElem?_set_ne this]
theorem qo:SGs C [] vs kh:=by
 refine⟨gNil,fun W X g=>pgs_nil,fun m h G H σ δ us xs δ' Q w en r e q=>?_,fun us σ H Q q=>⟨q.1,q.2,rfl⟩,fun v σ H Q Q' h q=>⟨q.1,h _ _ q.2⟩⟩;unfold kh at e
 split at e
 .cases e; cases r
  exact⟨rfl,q _ en⟩
 .cases e
theorem gH{f:Val->Sl->Option Sl}{g:List Val->Sl->Option Sl}(ha:SG C tg vs f)(hb:SGs C tgs vs g)(hst:∀ env,(assignEach (tg :: tgs) env).map (·.2)=assign tg env :: (assignEach tgs env).map (·.2):=by intro _; rfl):SGs C (tg :: tgs) vs (eJ f g):=by
 obtain⟨ga,pa,sa,oa,ma⟩:=ha;obtain⟨gb,pb,sb,ob,mb⟩:=hb;refine⟨gCons ga gb,fun W X g=>pgs_cons (pa W X g) (pb W X g) (hst _),fun m h G H σ δ us xs δ' Q w en r e q=>?_,fun us σ H Q ⟨v,r,e,q⟩=>⟨v,r,e,ma _ _ _ _ _ (fun σ' H' ⟨q1,e1⟩=>mb _ _ _ _ _ (fun σ2 H2 ⟨q2,e2⟩=>⟨q2,e2.trans e1⟩) (ob _ _ _ _ q1)) (oa _ _ _ _ q)⟩,
  fun v σ H Q Q' h ⟨x,r,e,q⟩=>⟨x,r,e,ma _ _ _ _ _ (fun σ' H' q'=>mb _ _ _ _ _ h q') q⟩⟩
 unfold eJ at e
 split at e
 .split at e
  .rename_i δ1 hδ
   cases r with
   | cons r1 r2=>exact⟨_,_,rfl,sa m h G H σ δ _ _ δ1 _ w en r1 hδ fun σ' en'=>sb m h G H σ' δ1 _ _ δ' Q w en' r2 e q⟩
  .cases e
 .cases e
theorem t4{k n:Nat}{g:List Val->Sl->Option Sl}(hb:SGs C tgs vs g)(hlen:∀ xs δ δ',g xs δ = some δ'->xs.length=n)(hn:∀ env,(assignEach tgs env).length=n:=by intro _; rfl)(hst:∀ env,(assignEach tgs env).findIdx? (·.1)=none:=by intro _; rfl):SG C (.Tuple tgs k pos) vs (tgT g):=by
 obtain⟨gb,pb,sb,ob,mb⟩:=hb;refine⟨gTup C.p.K n gb,fun W X g=>pg_tupK C.p.K g.calm (pb W X g) g.K (hn _) (hst _),fun m h G H σ δ u x δ' Q w en r e q=>?_,fun us σ H Q ⟨x,r,e,e1,e2,q⟩=>⟨x,r,e,e1,e2,ob _ _ _ _ q⟩,fun v σ H Q Q' h ⟨x,r,e,e1,e2,q⟩=>⟨x,r,e,e1,e2,mb _ _ _ _ _ h q⟩⟩;unfold tgT at e
 split at e
 .rename_i xs hx;obtain⟨a,vs,rfl,h1,h2⟩:=uu w r hx;exact⟨a,vs,rfl,h1,by rw [h2.len]; exact hlen _ _ _ e,sb m h G H σ δ _ _ δ' Q w en h2 e q⟩
 .cases e
theorem dP{f:Val->Sl->Option Sl}{g:List Val->Sl->Option Sl}{n:Nat}(h:∀ xs δ δ',g xs δ = some δ'->xs.length=n):∀ xs δ δ',eJ f g xs δ = some δ'->xs.length=n + 1:=fun xs δ δ' e=>by
 unfold eJ at e
 split at e
 .split at e
  .simp [h _ _ _ e]
  .cases e
 .cases e
theorem kg:∀ xs δ δ',kh xs δ = some δ'->xs.length=0:=fun xs δ δ' e=>by
 unfold kh at e
 split at e
 .rfl
 .cases e
end
def iO(f:Sl->Hh->Res Val):Sl->Hh->aD:=fun δ h=>(f δ h).st δ fun _ h1=>.nx δ h1
def bq(f:Sl->Hh->Res Val):Sl->Hh->aD:=fun δ h=>(f δ h).st δ fun x h1=>.rt x h1
def bw:Sl->Hh->aD:=fun δ h=>.nx δ h
def aI(f:Sl->Hh->Res Val)(g:Val->Sl->Option Sl):Sl->Hh->aD:=fun δ h=>(f δ h).st δ fun x h1=>match g x δ with
 | some δ'=>.nx δ' h1
 | none=>.err
def bZ(f:Sl->Hh->Res Bool)(a b:Sl->Hh->aD):Sl->Hh->aD:=fun δ h=>(f δ h).st δ fun c h1=>if c=true then a δ h1 else b δ h1
def az(a b:Sl->Hh->aD):Sl->Hh->aD:=fun δ h=>(a δ h).thn b
section
variable{C:Ct}{a b e:Expr}{pos:Pos}{fa fb:Sl->Hh->Res Val}{ft:Sl->Hh->Res Bool}{st:Stmt}{sts sts':List Stmt}{f g:Sl->Hh->aD}
theorem aP:SSs C [] bw:=⟨fun _=>tNext,fun _ _ _=>pss_nil,fun W σ δ m h G H E en w e=>e.nxh w en⟩
theorem ay(h:SS C st f):SSs C [st] f:=by
 obtain⟨t,p1,s⟩:=h;exact⟨t,fun W X g=>pss_one (p1 W X g),s⟩
theorem aj(h:SS C st f)(h':SSs C sts g):SSs C (st :: sts) (az f g):=by
 obtain⟨t,p1,s⟩:=h;obtain⟨u,p2,s2⟩:=h';refine⟨fun W=>tSeq (t W) (u W),fun W X g=>pss_cons (p1 W X g) (p2 W X g),fun W σ δ m h G H E en w e=>?_⟩;refine s W σ δ m h G H _ en w ?_;have e2:=bK.thn e
 cases hr:f δ h with
 | err=>rw [hr] at e2; exact e2
 | nx δ' h' =>
  rw [hr] at e2;intro m' G' σ' H' s' w' en';obtain⟨m2,h2,G2,δ2,s3,w3,en3,e3⟩:=e2 m' G' σ' H' s' w' en';exact s2 W σ' δ2 m2 h2 G2 H' E en3 w3 e3
 | rt v h'=>rw [hr] at e2; exact e2
 | bk δ' h'=>rw [hr] at e2; exact e2
 | ct δ' h'=>rw [hr] at e2; exact e2
 | exc c fs δ' h'=>rw [hr] at e2; exact e2
theorem fA(ha:SE C e fa)(hs:∀ env,swapsWith e none pos.line env=pure false:=by intro _; rfl):SS C (.Expr e pos) (iO fa):=by
 obtain⟨ta,pa,sa⟩:=ha;refine⟨fun W=>tDrop (ta W),fun W X g=>ps_expr (pa W X g) (hs _),fun W σ δ m h G H E en w e=>sa W σ δ m h G H _ en w (bK.ex en e fun x h1 m1 G1 u H1 s1 w1 r1 e1=>e1.nxh w1 (en.stp s1))⟩
theorem aG(ha:SE C e fa):SS C (.Return (some e) pos) (bq fa):=by
 obtain⟨ta,pa,sa⟩:=ha;refine⟨fun W=>tRet (ta W),fun W X g=>ps_ret (pa W X g),fun W σ δ m h G H E en w e=>sa W σ δ m h G H _ en w (bK.ex en e fun x h1 m1 G1 u H1 s1 w1 r1 e1=>e1 m1 G1 u H1 .refl w1 r1)⟩
theorem bB{c:Expr}(hc:ST C c ft)(h:SSs C sts f)(h':SSs C sts' g):SS C (.If c sts sts' pos) (bZ ft f g):=by
 obtain⟨tc,pc,sc⟩:=hc;obtain⟨t,p1,s⟩:=h;obtain⟨u,p2,s2⟩:=h';refine⟨fun W=>tIfS (tc W) (t W) (u W),fun W X g=>ps_if (pc W X g) (p1 W X g) (p2 W X g),fun W σ δ m h G H E en w e=>sc W σ δ m h G H _ en w (bK.ex en e fun x h1 m1 G1 u H1 s1 w1 r1 e1=>?_)⟩
 cases r1
 cases x
 .exact s2 W σ δ m1 h1 G1 H1 E (en.stp s1) w1 e1
 .exact s W σ δ m1 h1 G1 H1 E (en.stp s1) w1 e1
theorem qk{t:WX->TE}{g:TG}{fg:Val->Sl->Option Sl}(sa:Snd C.p (rV C.p) t fa)(sg:SndT C.p g fg):SndS C.p (fun W=>tAsg (t W) g) (aI fa fg):=fun W σ δ m h G H E en w e =>
 sa W σ δ m h G H _ en w (bK.ex en e fun x h1 m1 G1 u H1 s1 w1 r1 e1=>by
  split at e1
  .rename_i δ' hδ;exact sg m1 h1 G1 H1 σ δ u x δ' _ w1 (en.stp s1) r1 hδ fun σ' en'=>e1.nxh w1 en'
  .exact e1.elim)
theorem ax{i:Nat}{x:Str}{pos':Pos}(hN:C.N[i]?=some x)(hl:C.sc.names.lookup x=some .local\/(C.sc.names.lookup x=some .cell/\C.fn x=true))(ha:SE C e fa)(hs:∀ env:Env,env.scope=C.sc->swapsWith e (some (.Name x pos')) pos.line env=pure false:=by intro _ _; rfl):SS C (.Assign [.Name x pos'] e pos) (aI fa (tgN i)):=by
 obtain⟨ta,pa,sa⟩:=ha;refine⟨fun W=>tAsg (ta W) (gName i),fun W X g=>?_,qk sa fun m h G H σ δ u x δ' Q w en r e q=>by cases e; exact q _ (en.set i r)⟩;refine ps_set g.nd (by rw [g.N]; exact hN) (by rw [g.sc]; exact hl.imp id And.left) (pa W X g) (hs _ g.sc) ?_;rw [g.fn,g.sc];exact hl.symm.imp And.right id
end
end M
namespace M
open PySem PySem.Spec PyProof.Rows L2 B
def ou(h:Hh)(x y v:Val):Option Hh:=match x with
 | .ref r=>match h.get r with
  | some (.dct kvs)=>match fP y with
   | some k=>if v.nl=true/\kvs.length < 1000000 then some (h.set r (.dct (jx kvs k v))) else none
   | none=>none
  | _=>none
 | _=>none
theorem eP{n:Nat}(h:n < 1000000):n < sizeLine:=Nat.lt_of_lt_of_le h (by decide)
theorem dPut_ok{p:Pm}{m:Rf->Addr}{h h':Hh}{G H:Hp}{u v z:V}{x y d:Val}(w:Wo p m h G H)(rx:Rv p m h.has G u x)(ry:Rv p m h.has G v y)(rz:Rv p m h.has G z d)(e:ou h x y d=some h') :
  ∃ a H',u = .ref a/\DPut H a v z H'/\Stp m h G H m h' G H'/\Wo p m h' G H':=by
 unfold ou at e
 split at e
 .split at e
  .rename_i kvs hc
   split at e
   .rename_i k hk
    split at e
    .rename_i hcond
     cases e
     obtain⟨_,hn,o,h3,h4⟩:=w.cel _ _ hc
     cases rx
     obtain rfl:=jh ry hk
     cases h4 with
     | dct h4 =>
      have ww:=w.mut hc (c:=.dct (jx kvs k d)) (o:=.dK (putK _ k z)) (qJ hn hcond.1) (.dct (qz rz h4));exact⟨_,_,rfl,.inl ⟨_,k,h3,rfl,by rw [h4.length]; exact eP hcond.2,rfl⟩,ww.2,ww.1⟩
    .cases e
   .cases e
  .cases e
 .cases e
def nO(fo fi fv:Sl->Hh->Res Val):Sl->Hh->aD:=fun δ h=>(fv δ h).st δ fun z h1=>(fo δ h1).st δ fun x h2=>(fi δ h2).st δ fun y h3=>match ou h3 x y z with
 | some h4=>.nx δ h4
 | none=>.err
section
variable{C:Ct}{a b e o i:Expr}{es:List Expr}{pos pos':Pos}{fa fb fc:Sl->Hh->Res Val}{ft:Sl->Hh->Res Bool}{fs:Sl->Hh->Res (List Val)}{st:Stmt}{sts sts':List Stmt}{f g:Sl->Hh->aD}{tg:Expr}{vs:List Nat}{fg:Val->Sl->Option Sl}
theorem ll(ho:SE C o fa)(hi:SE C i fb)(hv:SE C e fc)(hs:∀ env,swapsWith e (some (.Subscript o i pos')) pos.line env=pure false:=by intro _; rfl):SS C (.Assign [.Subscript o i pos'] e pos) (nO fa fb fc):=by
 obtain⟨ta,pa,sa⟩:=ho;obtain⟨tb,pb,sb⟩:=hi;obtain⟨tc,pc,sc⟩:=hv;refine⟨fun W=>sDPut (ta W) (tb W) (tc W),fun W X g=>ps_dput g.u1 (pa W X g) (pb W X g) (pc W X g) (hs _),fun W σ δ m h G H E en w e=>sc W σ δ m h G H _ en w (bK.ex en e fun z h1 m1 G1 zv H1 s1 w1 r1 e1=>?_)⟩;refine sa W σ δ m1 h1 G1 H1 _ (en.stp s1) w1 (bK.ex (en.stp s1) e1 fun x h2 m2 G2 u H2 s2 w2 r2 e2=>?_);refine sb W σ δ m2 h2 G2 H2 _ (en.stp (s1.trans s2)) w2 (bK.ex (en.stp (s1.trans s2)) e2 fun y h3 m3 G3 v H3 s3 w3 r3 e3=>?_)
 split at e3
 .rename_i h4 hp;obtain⟨a,H4,rfl,h5,s4,w4⟩:=dPut_ok w3 (Rv.stp s3 r2) r3 (Rv.stp (s2.trans s3) r1) hp;exact⟨a,H4,rfl,h5,e3 m3 G3 σ H4 s4 w4 (en.stp (((s1.trans s2).trans s3).trans s4))⟩
 .exact e3.elim
def mPar(i j:Nat)(fs:Sl->Hh->Res (List Val)):Sl->Hh->aD:=fun δ h=>(fs δ h).st δ fun xs h1=>match xs with
 | [x,y]=>.nx ((δ.set i (some x)).set j (some y)) h1
 | _=>.err
theorem tS{i j:Nat}{x y:Str}{px py pt:Pos}{kt k2:Nat}{pt2:Pos}(hi:C.N[i]?=some x)(hj:C.N[j]?=some y)(hij:i≠j)(hx:C.sc.names.lookup x=some .local)(hy:C.sc.names.lookup y=some .local)(ha:SA C [a,b] fs)
  (hw:∀ env:Env,env.scope=C.sc->swappedStores [.Tuple [.Name x px,.Name y py] kt pt] (.Tuple [a,b] k2 pt2) env=pure (some [x,y])) (hs:∀ env,swapsWithSole [.Tuple [.Name x px,.Name y py] kt pt] (.Tuple [a,b] k2 pt2) pos.line env=pure false:=by intro _; rfl) :
  SS C (.Assign [.Tuple [.Name x px,.Name y py] kt pt] (.Tuple [a,b] k2 pt2) pos) (mPar i j fs):=by
 obtain⟨ta,pa,sa⟩:=ha;refine⟨fun W=>tPar i j (ta W),fun W X g=>ps_par g.calm g.nd (by rw [g.N]; exact hi) (by rw [g.N]; exact hj) hij (by rw [g.sc]; exact hx) (by rw [g.sc]; exact hy) (pa W X g) (hw _ g.sc) (hs _),fun W σ δ m h G H E en w e=>sa W σ δ m h G H _ en w (bK.ex en e fun xs h1 m1 G1 us H1 s1 w1 r1 e1=>?_)⟩
 split at e1
 .obtain⟨u,v,rfl,r1,r2⟩:=rva2 r1;exact⟨u,v,rfl,e1.nxh w1 (((en.stp s1).set i r1).set j r2)⟩
 .exact e1.elim
abbrev Itm:=Nat->Hh->Option (Option Val)
def itD(xs:List Val):Itm:=fun i _=>some xs[i]?
def itC(r:Rf):Itm:=fun i h=>match h.get r with
 | some (.lst xs)=>some xs[i]?
 | _=>none
def gx(p:Pm)(J:It)(m:Rf->Addr)(h:Hh)(G H:Hp)(it:Itm):Prop:=∀ i m' h' G' H',Stw m h G m' h' G'->(∀ b o u,H b=some (.frz o u)->H' b=some (.frz o u))->Wo p m' h' G' H'->match it i h' with
 | some (some x)=>J.go i H'/\∀ u H2,J.yld i H' u H2->∃ G2,Stp m' h' G' H' m' h' G2 H2/\Wo p m' h' G2 H2/\Rv p m' h'.has G2 u x
 | some none=>J.stop i H'
 | none=>True
structure Wk where
 it:Itm
 n:Nat
def SI(C:Ct)(tg iter:Expr)(f:Sl->Hh->Res Wk):Prop:=∃ t:WX->TI,(∀ W X,Good C W X->PI X tg iter (t W))/\∀ W σ δ m h G H (R:It->Hp->Prop),En C.p m h G σ δ->Wo C.p m h G H ->
 aq C.p (fun m h G (J:It×Hp) (k:Wk)=>gx C.p J.1 m h G J.2 k.it) m h G H W σ (fun J H'=>J.2=H'->R J.1 H') (f δ h)->t W σ H R
def kMo:Key->Val
 | .inl i=>.int i
 | .inr x=>.str x
def nU(kvs:List (Key×Val)):List Val:=kvs.map fun kv=>kMo kv.1
def jj(h:Hh)(x:Val):Option Wk:=match x with
 | .dct kvs=>some ⟨itD (nU kvs),kvs.length⟩
 | .str z=>some ⟨itD (z.cps.toList.map fun c=>.str ⟨#[c]⟩),z.cps.toList.length⟩
 | .ref r=>match h.get r with
  | some (.lst xs)=>some ⟨itC r,xs.length⟩
  | some (.ldc kvs)=>some ⟨itD (nU kvs),kvs.length⟩
  | _=>none
 | x=>match rdQ h x with
  | some xs=>some ⟨itD xs,xs.length⟩
  | none=>none
def mWk(f:Sl->Hh->Res Val):Sl->Hh->Res Wk:=fun δ h=>(f δ h).bind fun x h1=>ofO (jj h1 x) h1
theorem gF{p:Pm}{m:Rf->Addr}{h:Hh}{G H:Hp}{a:Addr}{us:List V}{xs:List Val}(hs:∀ H',Same G H'->SqL p.K H' a us)(r:RvA p m h.has G us xs):gx p (Itl p.K a) m h G H (itD xs):=fun i m' h' G' H' s _ w=>by
 have q:=hs H' (s.gg.trans w.gh);have r':=RvA.stw s r;unfold itD
 cases e:xs[i]? with
 | none =>
  refine⟨us,q,?_⟩;rw [r.len];exact List.getElem?_eq_none_iff.mp e
 | some x =>
  obtain⟨v,h1,h2⟩:=r'.at e;exact⟨⟨us,v,q,h1⟩,fun u H2 y=>by
   obtain⟨e1,e2⟩:=y;subst e1;have:=e2 us q;rw [h1] at this; cases this;exact⟨G',.refl,w,h2⟩⟩
theorem qh{p:Pm}{m:Rf->Addr}{h:Hh}{G H:Hp}{a:Addr}{us:List V}{xs:List Val}(hs:∀ H',Same G H'->SqT p.K H' a us)(r:RvA p m h.has G us xs):gx p (Itt p.K a) m h G H (itD xs):=fun i m' h' G' H' s _ w=>by
 have q:=hs H' (s.gg.trans w.gh);have r':=RvA.stw s r;unfold itD
 cases e:xs[i]? with
 | none =>
  refine⟨us,q,?_⟩;rw [r.len];exact List.getElem?_eq_none_iff.mp e
 | some x =>
  obtain⟨v,h1,h2⟩:=r'.at e;exact⟨⟨us,v,q,h1⟩,fun u H2 y=>by
   obtain⟨e1,e2⟩:=y;subst e1;have:=e2 us q;rw [h1] at this; cases this;exact⟨G',.refl,w,h2⟩⟩
theorem mR{p:Pm}{m:Rf->Addr}{h:Hh}{G H:Hp}{r:Rf}(hr:h.has r):gx p (Itl p.K (m r)) m h G H (itC r):=fun i m' h' G' H' s _ w=>by
 unfold itC
 split
 .rename_i x hx
  split at hx
  .rename_i xs hc
   cases hx':xs[i]? with
   | none=>rw [hx'] at hx; cases hx
   | some y =>
    rw [hx'] at hx; cases hx;obtain⟨_,_,o,h3,h4⟩:=w.cel _ _ hc;rw [(s.mm r hr).2] at h3
    cases h4 with
    | lst h4 =>
     obtain⟨v,h5,h6⟩:=h4.at hx';refine⟨⟨_,v,SqL.of h3,h5⟩,fun u H2 y=>?_⟩;obtain⟨e1,e2⟩:=y;subst e1;have:=e2 _ (SqL.of h3);rw [h5] at this; cases this;exact⟨G',.refl,w,h6⟩
  .cases hx
 .rename_i hx
  split at hx
  .rename_i xs hc
   cases hx':xs[i]? with
   | some y=>rw [hx'] at hx; cases hx
   | none =>
    obtain⟨_,_,o,h3,h4⟩:=w.cel _ _ hc;rw [(s.mm r hr).2] at h3
    cases h4 with
    | lst h4=>exact⟨_,SqL.of h3,by rw [h4.len]; exact List.getElem?_eq_none_iff.mp hx'⟩
  .cases hx
 .trivial
theorem src_str{p:Pm}{m:Rf->Addr}{h:Hh}{G H:Hp}{z:Str}:gx p (Its z) m h G H (itD (z.cps.toList.map fun c=>.str ⟨#[c]⟩)):=fun i m' h' G' H' s _ w=>by
 unfold itD;rw [List.getElem?_map]
 cases e:z.cps.toList[i]? with
 | none =>
  show z.cps.size<=i;rw [<- Array.length_toList];exact List.getElem?_eq_none_iff.mp e
 | some c =>
  have hi:i < z.cps.size:=by rw [<- Array.length_toList]; exact(List.getElem?_eq_some_iff.mp e).1
  refine⟨hi,fun u H2 y=>?_⟩;obtain⟨e1,c',e2,e3⟩:=y;subst e1; subst e3;have:c'=c:=by
   rw [Array.getElem?_toList] at e;rw [e2] at e; cases e; rfl
  rw [this];exact⟨G',.refl,w,.str _⟩
theorem kMo_ok{p:Pm}{m:Rf->Addr}{hs:Rf->Prop}{G:Hp}(k:Key):Rv p m hs G (kV k) (kMo k):=by
 cases k
 .exact .int _
 .exact .str _
theorem uo{p:Pm}{m:Rf->Addr}{hs:Rf->Prop}{G:Hp}{κ : Type}:∀ {vs:List (κ×V)} {ds:List (κ×Val)},Rkv p m hs G vs ds->∀ i:Nat,(ds[i]?=none->vs[i]?=none)/\∀ k x,ds[i]?=some (k,x)->∃ v,vs[i]?=some (k,v)/\Rv p m hs G v x
 | _,_,.nil=>fun i=>⟨fun _=>rfl,fun k x e=>by simp at e⟩
 | _,_,.cons (a:=a) (b:=b) h t=>fun i=>by
  cases i with
  | zero=>exact⟨fun e=>by simp at e,fun k x e=>by
    have e:b=(k,x):=by simpa using e
    subst e;exact⟨a.2,by obtain⟨a1,a2⟩:=a; obtain⟨h1,h2⟩:=h; have h1:a1=k:=h1; subst h1; rfl,h.2⟩⟩
  | succ i=>simpa using uo t i
theorem mQ{p:Pm}{m:Rf->Addr}{h:Hh}{G H:Hp}{a:Addr}{o:Obj}{vs:List (Key×V)}{ds:List (Key×Val)}(hf:H a=some (.frz o (.dK vs)))(r:Rkv p m h.has G vs ds):gx p (Itk a o vs) m h G H (itD (nU ds)):=fun i m' h' G' H' s fz w=>by
 have q:=fz _ _ _ hf;obtain⟨r1,r2⟩:=uo r i;unfold itD nU;rw [List.getElem?_map]
 cases e:ds[i]? with
 | none=>exact⟨q,List.getElem?_eq_none_iff.mp (r1 e)⟩
 | some kx =>
  obtain⟨k,x⟩:=kx;obtain⟨v,h1,h2⟩:=r2 k x e;refine⟨⟨q,(List.getElem?_eq_some_iff.mp h1).1⟩,fun u H2 y=>?_⟩;obtain⟨e1,k',v',e2,e3⟩:=y;subst e1; subst e3;rw [h1] at e2; cases e2;exact⟨G',.refl,w,kMo_ok _⟩
def iAny(K:PySem.W.Frag)(te:TE):TI:=fun σ H R=>((iList K te σ H R\/iTup K te σ H R)\/iStr te σ H R)\/iKeys te σ H R
theorem pi_any{X:Cx}{te:TE}(h:PE X e te)(K:PySem.W.Frag)(hK:X.K=K):PI X tg e (iAny K te):=PI.or (PI.or (PI.or (uz K h hK) (pi_tupK K h hK)) (pi_str h)) (pi_keys h)
theorem bU(ha:SE C e fa):SI C tg e (mWk fa):=by
 obtain⟨ta,pa,sa⟩:=ha;refine⟨fun W=>iAny C.p.K (ta W),fun W X g=>pi_any (pa W X g) C.p.K g.K,fun W σ δ m h G H R en w e=>?_⟩;unfold mWk at e
 cases hr:fa δ h with
 | err=>rw [hr] at e; exact e.elim
 | exc c fs h'=>rw [hr] at e; exact .inl (.inl (.inl (sa W σ δ m h G H _ en w (by rw [hr]; exact e))))
 | ok x h1 =>
  rw [hr] at e;have e:aq C.p (fun m h G (J:It×Hp) (k:Wk)=>gx C.p J.1 m h G J.2 k.it) m h G H W σ (fun J H'=>J.2=H'->R J.1 H') (ofO (jj h1 x) h1):=e;have sq:∀ xs,rdQ h1 x=some xs->jj h1 x=some ⟨itD xs,xs.length⟩->(∃ ys,x = .lst ys)\/(∃ ys,x = .scr ys)\/(∃ ys,x = .tup ys)\/(∃ ys,x = .kt ys)->iAny C.p.K (ta W) σ H R:=fun xs hx hw hk=>by
   rw [hw] at e;have fin:∀ m1 G1 u H1,Stp m h G H m1 h1 G1 H1->Wo C.p m1 h1 G1 H1->Rv C.p m1 h1.has G1 u x->∀ J:It,gx C.p J m1 h1 G1 H1 (itD xs)->R J H1:=fun m1 G1 u H1 s1 w1 r1 J sj=>(aq.here (u:=(J,H1)) (aq.after s1 e) w1 sj) rfl;have isT:(∃ ys,x = .tup ys)\/(∃ ys,x = .kt ys)->iAny C.p.K (ta W) σ H R:=fun hk=>by
    refine .inl (.inl (.inr (sa W σ δ m h G H _ en w ?_)));rw [hr];intro m1 G1 u H1 s1 w1 r1;have f1:=fin m1 G1 u H1 s1 w1 r1;rcases hk with ⟨ys,rfl⟩ | ⟨ys,rfl⟩
    .cases r1 with
     | tup h3 h4=>cases hx; exact⟨_,rfl,⟨_,(h3.sq w1.gh)⟩,f1 _ (qh (fun H' s=>h3.sq s) h4)⟩
    .cases r1 with
     | kt h3 h4=>cases hx; exact⟨_,rfl,⟨_,h3 H1⟩,f1 _ (qh (fun H' s=>h3 H') h4)⟩
   rcases hk with ⟨ys,rfl⟩ | ⟨ys,rfl⟩ | hk | hk
   .refine .inl (.inl (.inl (sa W σ δ m h G H _ en w ?_)));rw [hr];intro m1 G1 u H1 s1 w1 r1;have f1:=fin m1 G1 u H1 s1 w1 r1
    cases r1 with
    | lst h3 h4=>cases hx; exact⟨_,rfl,⟨_,SqL.of (w1.gh _ _ h3)⟩,f1 _ (gF (fun H' s=>SqL.of (s _ _ h3)) h4)⟩
   .refine .inl (.inl (.inl (sa W σ δ m h G H _ en w ?_)));rw [hr];intro m1 G1 u H1 s1 w1 r1;have f1:=fin m1 G1 u H1 s1 w1 r1
    cases r1 with
    | scr h3=>cases hx; exact⟨_,rfl,⟨_,mS w1.gh h3⟩,f1 _ (gF (fun H' s=>mS s h3) eR)⟩
   .exact isT (.inl hk)
   .exact isT (.inr hk)
  cases x with
  | str z =>
   refine .inl (.inr (sa W σ δ m h G H _ en w ?_));rw [hr];intro m1 G1 u H1 s1 w1 r1
   cases r1
   exact⟨z,rfl,(aq.here (u:=(Its z,H1)) (aq.after s1 e) w1 src_str) rfl⟩
  | lst ys=>exact sq ys rfl rfl (.inl ⟨_,rfl⟩)
  | scr ys=>exact sq _ rfl rfl (.inr (.inl ⟨_,rfl⟩))
  | tup ys=>exact sq ys rfl rfl (.inr (.inr (.inl ⟨_,rfl⟩)))
  | kt ys=>exact sq ys rfl rfl (.inr (.inr (.inr ⟨_,rfl⟩)))
  | ref r =>
   obtain⟨k,hk,e1⟩:∃ k,jj h1 (.ref r)=some k/\aq C.p (fun m h G (J:It×Hp) (k:Wk)=>gx C.p J.1 m h G J.2 k.it) m h G H W σ (fun J H'=>J.2=H'->R J.1 H') (.ok k h1):=by
    cases hw:jj h1 (.ref r) with
    | none=>rw [hw] at e; exact e.elim
    | some k=>rw [hw] at e; exact⟨k,rfl,e⟩
   have hk:(match h1.get r with | some (.lst xs)=>some ⟨itC r,xs.length⟩ | some (.ldc kvs)=>some ⟨itD (nU kvs),kvs.length⟩ | _=>none)=some k:=hk
   split at hk
   .rename_i xs hc
    cases hk
    refine .inl (.inl (.inl (sa W σ δ m h G H _ en w ?_)));rw [hr];intro m1 G1 u H1 s1 w1 r1;obtain⟨_,_,o,h3,h4⟩:=w1.cel _ _ hc
    cases r1 with
    | ref hh =>
     cases h4 with
     | lst h4=>exact⟨_,rfl,⟨_,SqL.of h3⟩,(aq.here (u:=(Itl C.p.K (m1 r),H1)) (aq.after s1 e1) w1 (mR hh)) rfl⟩
   .rename_i kvs hc
    cases hk
    refine .inr (sa W σ δ m h G H _ en w ?_);rw [hr];intro m1 G1 u H1 s1 w1 r1;obtain⟨_,_,o,h3,h4⟩:=w1.cel _ _ hc
    cases r1 with
    | ref hh =>
     cases h4 with
     | @ldc ob vs _ h4=>exact⟨_,ob,rfl,.inl ⟨vs,h3,(aq.here (u:=(Itk (m1 r) ob vs,H1)) (aq.after s1 e1) w1 (mQ h3 h4)) rfl⟩⟩
   .cases hk
  | dct kvs =>
   refine .inr (sa W σ δ m h G H _ en w ?_);rw [hr];intro m1 G1 u H1 s1 w1 r1
   cases r1 with
   | @dct a ob vs _ h3 h4=>exact⟨_,ob,rfl,.inl ⟨vs,w1.gh _ _ h3,(aq.here (u:=(Itk a ob vs,H1)) (aq.after s1 e) w1 (mQ (w1.gh _ _ h3) h4.pd)) rfl⟩⟩
  | non=>exact e.elim
  | bl _=>exact e.elim
  | int _=>exact e.elim
  | fn _=>exact e.elim
def itR(lo:Int)(n:Nat):Itm:=fun i _=>some (if i < n then some (.int (lo + i)) else none)
def wkR(xs:List Val):Option Wk:=match xs with
 | [.int n]=>if -(2 ^ 62)<=n/\n < 2 ^ 62 then some ⟨itR 0 n.toNat,n.toNat⟩ else none
 | _=>none
def nP(wk:List Val->Option Wk)(fs:Sl->Hh->Res (List Val)):Sl->Hh->Res Wk:=fun δ h=>(fs δ h).bind fun xs h1=>ofO (wk xs) h1
theorem src_rng{p:Pm}{m:Rf->Addr}{h:Hh}{G H:Hp}{lo:Int}{n:Nat}:gx p (Itr lo n) m h G H (itR lo n):=fun i m' h' G' H' s _ w=>by
 unfold itR
 split
 .rename_i x hx;have hx:(if i < n then some (Val.int (lo + i)) else none)=some x:=Option.some.inj hx
  split at hx
  .cases hx
   exact⟨by assumption,fun u H2 y=>by obtain⟨e1,e2⟩:=y; subst e1; subst e2; exact⟨G',.refl,w,.int _⟩⟩
  .cases hx
 .rename_i hx;have hx:(if i < n then some (Val.int (lo + i)) else none)=none:=Option.some.inj hx
  split at hx
  .cases hx
  .show n<=i; omega
 .trivial
theorem ib{q:Pos}(hl:C.sc.names.lookup ("range" : Str)=some .globalImplicit)(hm:C.p.mg "range" = none)(ha:SA C [e] fs)(hs:∀ env,starEach [e] env=[(false,eval e env)]:=by intro _; rfl):SI C tg (.Call (.Name "range" q) [e] [] pos) (nP wkR fs):=by
 obtain⟨ta,pa,sa⟩:=ha;refine⟨fun W=>iRng1 (ta W),fun W X g=>pi_range1 (g.gl hl) (by rw [g.mg]; exact hm) (pa W X g) (hs _),fun W σ δ m h G H R en w e=>sa W σ δ m h G H _ en w (aq.bind e fun xs h1 m1 G1 us H1 s1 w1 r1 e1=>?_)⟩;obtain⟨k,hk,e2⟩:=endO e1;unfold wkR at hk
 split at hk
 .obtain⟨u,rfl,ru⟩:=eB r1
  cases ru
  split at hk
  .rename_i n hn
   cases hk
   exact⟨n,rfl,hn.1,hn.2,(aq.here (u:=(Itr 0 n.toNat,H1)) e2 w1 src_rng) rfl⟩
  .cases hk
 .cases hk
end
def forM(it:Itm)(g:Val->Sl->Option Sl)(body:Sl->Hh->aD):Nat->Nat->Sl->Hh->aD
 | 0,i,δ,h=>match it i h with
  | some none=>.nx δ h
  | _=>.err
 | n + 1,i,δ,h=>match it i h with
  | some none=>.nx δ h
  | some (some x)=>match g x δ with
   | some δ1=>match body δ1 h with
    | .nx δ2 h2=>forM it g body n (i + 1) δ2 h2
    | .ct δ2 h2=>forM it g body n (i + 1) δ2 h2
    | .bk δ2 h2=>.nx δ2 h2
    | .rt v h2=>.rt v h2
    | .exc c fs δ2 h2=>.exc c fs δ2 h2
    | .err=>.err
   | none=>.err
  | none=>.err
def ip(f:Sl->Hh->Res Wk)(g:Val->Sl->Option Sl)(body:Sl->Hh->aD):Sl->Hh->aD:=fun δ h=>(f δ h).st δ fun k h1=>forM k.it g body k.n 0 δ h1
section
variable{C:Ct}{tg iter c:Expr}{pos:Pos}{fw:Sl->Hh->Res Wk}{g:Val->Sl->Option Sl}{vs:List Nat}{body:List Stmt}{f:Sl->Hh->aD}{ft:Sl->Hh->Res Bool}
theorem f9(hi:SI C tg iter fw)(hg:SG C tg vs g)(hb:SSs C body f)(hs:∀ env x,foldedSetIterable iter env x=pure x:=by intro _ _; rfl):SS C (.For tg iter body [] pos) (ip fw g f):=by
 obtain⟨ti,pi,si⟩:=hi;obtain⟨gt,pg,sg,_,_⟩:=hg;obtain⟨tb,pb,sb⟩:=hb;refine⟨fun W=>tFor (ti W) gt (tb W),fun W X gd=>ps_for gd.pass gd.calm (pi W X gd) (pg W X gd) (pb W X gd) (hs _),fun W σ δ m h G H E en w e=>si W σ δ m h G H _ en w (bK.ex en e fun k h1 m1 G1 J H1 s1 w1 r1 e1=>?_)⟩;obtain⟨J,HJ⟩:=J;rintro rfl;refine⟨fun i n σ H=>∃ δ' m' h' G',Stp m1 h1 G1 HJ m' h' G' H/\Wo C.p m' h' G' H/\En C.p m' h' G' σ δ'/\bK C.p m' h' G' H W E (forM k.it g f n i δ' h'),⟨k.n,δ,m1,h1,G1,.refl,w1,en.stp s1,e1⟩,?_⟩;rintro i n σ2 H2 ⟨δ2,m2,h2,G2,s2,w2,en2,e2⟩;have src:=r1 i m2 h2 G2 H2 s2.w s2.fz w2
 cases hit:k.it i h2 with
 | none=>cases n <;> (unfold forM at e2; rw [hit] at e2; exact e2.elim)
 | some o =>
  cases o with
  | none =>
   rw [hit] at src;refine .inl ⟨src,?_⟩
   cases n <;> (unfold forM at e2; rw [hit] at e2; exact e2.nxh w2 en2)
  | some x =>
   rw [hit] at src
   cases n with
   | zero=>unfold forM at e2; rw [hit] at e2; exact e2.elim
   | succ n =>
    unfold forM at e2;rw [hit] at e2;dsimp only at e2;refine .inr ⟨src.1,fun σ H=>∃ δ' m' h' G',Stp m1 h1 G1 HJ m' h' G' H/\Wo C.p m' h' G' H/\En C.p m' h' G' σ δ'/\bK C.p m' h' G' H W E (forM k.it g f n (i + 1) δ' h'),fun σ' H' z=>⟨n,Nat.lt_succ_self n,z⟩,fun u H3 y=>?_⟩;obtain⟨G3,s3,w3,r3⟩:=src.2 u H3 y;have s23:=s2.trans s3
    cases hg:g x δ2 with
    | none=>rw [hg] at e2; exact e2.elim
    | some δ3 =>
     rw [hg] at e2;dsimp only at e2;refine sg m2 h2 G3 H3 σ2 δ2 u x δ3 _ w3 (en2.stp s3) r3 hg fun σ3 en3=>sb W σ3 δ3 m2 h2 G3 H3 _ en3 w3 ?_;have e3:=bK.after s3 e2
     cases hb:f δ3 h2 with
     | err=>rw [hb] at e3; exact e3
     | nx δ4 h4=>rw [hb] at e3; exact fun m' G' σ' H' s' w' en'=>⟨δ4,m',h4,G',s23.trans s',w',en',bK.after s' e3⟩
     | ct δ4 h4=>rw [hb] at e3; exact fun m' G' σ' H' s' w' en'=>⟨δ4,m',h4,G',s23.trans s',w',en',bK.after s' e3⟩
     | bk δ4 h4=>rw [hb] at e3; exact fun m' G' σ' H' s' w' en'=>e3 m' G' σ' H' s' w' en'
     | rt v h4=>rw [hb] at e3; exact e3
     | exc c fs δ4 h4=>rw [hb] at e3; exact e3
end
end M
namespace M
open PySem PySem.Spec PyProof.Rows L2 B
def Ct.blk(C:Ct)(scope:Scope):Ct:={ C with sc:=relS scope C.sc,fn:=fun x=>scope.names.lookup x == some .cell,tp:=false }
def W0:WX:=fun _ _ _ _=>False
theorem dJ{C:Ct}{W:WX}{X:Cx}(g:Good C W X)(scope:Scope)(s:Shared)(H:Hp)(A:Addr)(cl:List (Str×Addr))(fp:List Addr):Good (C.blk scope) W0 (X.blk s H scope (compEnvC scope cl A X.env) fp) where
 prog:=g.prog
 w:=g.w
 K:=g.K
 mg:=g.mg
 base:=g.base
 N:=g.N
 nd:=g.nd
 sc:=by
  show relabel scope X.env=relS scope C.sc;rw [<- g.sc]; rfl
 fn:=rfl
 calm:=g.calm
 room:=g.room
 gd:=g.gd
 pass:=.never
 takes:=takes0
 cd:=g.cd
 ql:=g.ql
 top:=fun z=>Bool.noConfusion z
theorem fE{p:Pm}{m m1:Rf->Addr}{h h1:Hh}{G H G1 H1:Hp}{q:Addr}{o:HO}(s:Stp m h G H m1 h1 G1 H1)(n:H q=none)(w:Wo p m1 h1 G1 H1)(no:¬ Own m1 h1 q)(gn:G1 q=none):Stp m h G H m1 h1 G1 (upd H1 q o)/\Wo p m1 h1 G1 (upd H1 q o):=by
 refine⟨⟨s.gg,s.mm,fun b u e nb=>by rw [upd_ne (ne_of_none e n)]; exact s.fr b u e nb,s.out,fun b hb=>by rw [upd_ne (jF n hb)]; exact s.dom b hb,fun b o' u e=>by rw [upd_ne (ne_of_none e n)]; exact s.fz b o' u e⟩,⟨oO w.gh gn,fun r c e=>?_,w.inj,fun r hr=>?_,w.tb⟩⟩
 .obtain⟨h2,h3,u,h4,h5⟩:=w.cel r c e;have hb:m1 r≠q:=fun z=>no ⟨r,cw e,z⟩;exact⟨h2,h3,u,by rw [upd_ne hb]; exact h4,h5⟩
 .have hb:m1 r≠q:=fun z=>no ⟨r,hr,z⟩;rw [upd_ne hb]; exact w.dom r hr
theorem qF{p:Pm}{m m1:Rf->Addr}{h h1:Hh}{G H G1 H1:Hp}{q:Addr}{o:HO}(s:Stp m h G H m1 h1 G1 H1)(n:H q=none)(w:Wo p m1 h1 G1 H1)(no:¬ Own m1 h1 q)(gn:G1 q=none)(ho:H1 q=some o):Stp m h G H m1 h1 (upd G1 q o) H1/\Wo p m1 h1 (upd G1 q o) H1:=by
 have f:=sd.freeze w.gh gn ho;refine⟨⟨s.gg.trans f.1,s.mm,s.fr,fun b hb nb=>⟨(s.out b hb nb).1,fun g=>by rw [upd_ne (jF n hb)]; exact(s.out b hb nb).2 g⟩,s.dom,s.fz⟩,⟨f.2,fun r c e=>?_,w.inj,w.dom,w.tb⟩⟩;obtain⟨h2,h3,u,h4,h5⟩:=w.cel r c e;have hb:m1 r≠q:=fun z=>no ⟨r,cw e,z⟩;exact⟨by rw [upd_ne hb]; exact h2,h3,u,h4,h5.mono (fun _ h=>⟨h,rfl⟩) f.1⟩
theorem je{p:Pm}{m m1:Rf->Addr}{h h1 h2:Hh}{G H G1 H1:Hp}{q:Addr}{o:HO}{r:Rf}{c:Cel}(s:Stp m h G H m1 h1 G1 H1)(n:H q=none)(w:Wo p m1 h1 G1 H1)(no:¬ Own m1 h1 q)(gn:G1 q=none)(ho:H1 q=some o)
  (hh:∀ r',h2.has r'↔h1.has r'\/r'=r) (hr:¬ h1.has r) (hg:∀ r',h1.has r'->h2.get r'=h1.get r') (hgr:h2.get r=some c) (hn:c.nl=true) (hc:dF p m1 h1.has G1 o c):Stp m h G H (upm m1 r q) h2 G1 H1/\Wo p (upm m1 r q) h2 G1 H1:=by
 have hm:∀ r',h1.has r'->h2.has r'/\upm m1 r q r'=m1 r':=fun r' h'=>⟨(hh r').mpr (.inl h'),by unfold upm; rw [if_neg (fun z:r'=r=>hr (by rw [<- z]; exact h'))]⟩;have hq:upm m1 r q r=q:=by unfold upm; rw [if_pos rfl]
 have hne:∀ r',h1.has r'->m1 r'≠q:=fun r' h' z=>no ⟨r',h',z⟩;refine⟨⟨s.gg,fun r' h'=>⟨(hm r' (s.mm r' h').1).1,(hm r' (s.mm r' h').1).2.trans (s.mm r' h').2⟩,s.fr,fun b hb nb=>⟨fun⟨r',h3,h4⟩=>?_,(s.out b hb nb).2⟩,s.dom,s.fz⟩,⟨w.gh,fun r' x hx=>?_,fun r1 r2 h3 h4 e=>?_,fun r' h'=>?_,fun k hk=>⟨(hm _ (w.tb k hk).1).1,(hm _ (w.tb k hk).1).2.trans (w.tb k hk).2⟩⟩⟩
 .rcases (hh r').mp h3 with h5 | rfl
  .rw [(hm r' h5).2] at h4; exact(s.out b hb nb).1 ⟨r',h5,h4⟩
  .rw [hq] at h4; exact hb (by rw [<- h4]; exact n)
 .rcases (hh r').mp (cw hx) with h5 | rfl
  .rw [(hm r' h5).2];rw [hg r' h5] at hx;obtain⟨h6,n1,u,h7,h8⟩:=w.cel r' x hx;exact⟨h6,n1,u,h7,h8.mono hm (Same.refl _)⟩
  .rw [hgr] at hx; cases hx;rw [hq];exact⟨gn,hn,o,ho,hc.mono hm (Same.refl _)⟩
 .rcases (hh r1).mp h3 with h3 | rfl
  .rcases (hh r2).mp h4 with h4 | rfl
   .rw [(hm r1 h3).2,(hm r2 h4).2] at e; exact w.inj _ _ h3 h4 e
   .rw [(hm r1 h3).2,hq] at e; exact absurd e (hne r1 h3)
  .rcases (hh r2).mp h4 with h4 | rfl
   .rw [(hm r2 h4).2,hq] at e; exact absurd e.symm (hne r2 h4)
   .rfl
 .rcases (hh r').mp h' with h5 | rfl
  .rw [(hm r' h5).2]; exact w.dom r' h5
  .rw [hq,ho]; simp
theorem own_new{p:Pm}{m m1:Rf->Addr}{h h1:Hh}{G H G1 H1:Hp}{q:Addr}{vs:List V}{xs:List Val}{md:Md}{W:WX}{σ : L2.St}{Q:VK}(e:aq p (rV p) m h G H W σ Q (bJ md xs h1))(s:Stp m h G H m1 h1 G1 H1)(n:H q=none)(w:Wo p m1 h1 G1 H1)(no:¬ Own m1 h1 q)(gn:G1 q=none)
  (ho:H1 q=some (.lst vs)) (r:RvA p m1 h1.has G1 vs xs):Q (.ref q) H1:=by
 cases md with
 | dat =>
  have f:=qF s n w no gn ho;exact e m1 _ _ _ f.1 f.2 (.lst upd_same (r.mono (fun _ h=>⟨h,rfl⟩) (gc gn)))
 | loc =>
  unfold bJ at e;dsimp only at e
  split at e
  .rename_i hn;have f:=je (c:=.lst xs) s n w no gn ho (fun _=>cW) (Nat.lt_irrefl _) (fun _ h=>iu h) dB hn (.lst r);have hq:upm m1 (.loc h1.loc.length) q (.loc h1.loc.length)=q:=by unfold upm; rw [if_pos rfl]
   have rr:Rv p (upm m1 (.loc h1.loc.length) q) (h1.dk (.lst xs)).has G1 (.ref (upm m1 (.loc h1.loc.length) q (.loc h1.loc.length))) (.ref (.loc h1.loc.length)):=.ref (cW.mpr (.inr rfl));rw [hq] at rr;exact e _ _ _ _ f.1 f.2 rr
  .exact e.elim
 | glo i =>
  unfold bJ at e;dsimp only at e
  split at e
  .rename_i hn;have f:=je (r:=.glo i (h1.glo i).length) (h2:=h1.bh i (.lst xs)) (c:=.lst xs) s n w no gn ho (fun _=>cG) (Nat.lt_irrefl _) (fun _ h=>iw h) dC hn (.lst r);have hq:upm m1 (.glo i (h1.glo i).length) q (.glo i (h1.glo i).length)=q:=by unfold upm; rw [if_pos rfl]
   have rr:Rv p (upm m1 (.glo i (h1.glo i).length) q) (h1.bh i (.lst xs)).has G1 (.ref (upm m1 (.glo i (h1.glo i).length) q (.glo i (h1.glo i).length))) (.ref (.glo i (h1.glo i).length)):=.ref (cG.mpr (.inr rfl));rw [hq] at rr;exact e _ _ _ _ f.1 f.2 rr
  .exact e.elim
def lcM(it:Itm)(g:Val->Sl->Option Sl)(ft:Sl->Hh->Res Bool)(fe:Sl->Hh->Res Val)(δ0:Sl):Nat->Nat->Hh->Res (List Val)
 | 0,i,h=>match it i h with
  | some none=>.ok [] h
  | _=>.err
 | n + 1,i,h=>match it i h with
  | some none=>.ok [] h
  | some (some x)=>match g x δ0 with
   | some δ1=>match ft δ1 h with
    | .ok true h1=>match fe δ1 h1 with
     | .ok y h2=>(lcM it g ft fe δ0 n (i + 1) h2).bind fun ys h3=>.ok (y :: ys) h3
     | _=>.err
    | .ok false h1=>lcM it g ft fe δ0 n (i + 1) h1
    | _=>.err
   | none=>.err
  | none=>.err
def dW:Sl->Hh->Res Bool:=fun _ h=>.ok true h
def mLc(md:Md)(vs:List Nat)(fw:Sl->Hh->Res Wk)(g:Val->Sl->Option Sl)(ft:Sl->Hh->Res Bool)(fe:Sl->Hh->Res Val):Sl->Hh->Res Val:=fun δ h =>
 (fw δ h).bind fun k h1=>if k.n<=1000000 then(lcM k.it g ft fe (cZ δ vs) k.n 0 h1).bind fun xs h2=>bJ md xs h2 else .err
def STs(C:Ct)(es:List Expr)(f:Sl->Hh->Res Bool):Prop:=∃ t:WX->TT,(∀ W X,Good C W X->PTs X es (t W))/\Snd C.p rE t f
section
variable{C:Ct}{elt tg iter c:Expr}{ifs:List Expr}{scope:Scope}{own:List (Str×Nat)}{pos:Pos}{fw:Sl->Hh->Res Wk}{g:Val->Sl->Option Sl}{ft:Sl->Hh->Res Bool}{fe fk:Sl->Hh->Res Val}
theorem aX:STs C [] dW:=⟨fun _=>tYes,fun _ _ _=>pts_nil,fun W σ δ m h G H Q en w e=>aq.here e w rfl⟩
theorem tV(md:Md){ti:WX->TI}{gt:TG}{tt:WX->TT}{te:WX->TE}{vs:List Nat}(si:∀ W σ δ m h G H (R:It->Hp->Prop),En C.p m h G σ δ->Wo C.p m h G H->aq C.p (fun m h G (J:It×Hp) (k:Wk)=>gx C.p J.1 m h G J.2 k.it) m h G H W σ (fun J H'=>J.2=H'->R J.1 H') (fw δ h)->ti W σ H R)
  (sg:SndT C.p gt g) (og:GOnly gt vs) (mg:GMono gt) (stt:Snd C.p rE tt ft) (se:Snd C.p (rV C.p) te fe):Snd C.p (rV C.p) (fun W=>tLc (ti W) gt (tt W0) (te W0) vs) (mLc md vs fw g ft fe):=fun W σ δ m h G H Q en w e=>by
 refine si W σ δ m h G H _ en w (aq.bind e fun k h1 m1 G1 J H1 s1 w1 src e1=>?_);obtain⟨J,HJ⟩:=J;rintro rfl D hD
 split at e1
 .rename_i hk;have gD:=w1.gh.free hD;have no:=w1.fresh hD;have en1:=(en.stp s1).wipe vs;refine⟨fun i n H2=>∃ acc accV m' h' G',Stp m1 h1 G1 HJ m' h' G' H2/\Wo C.p m' h' G' H2/\H2 D=some (.lst accV)/\¬ Own m' h' D/\G' D=none/\RvA C.p m' h'.has G' accV acc/\acc.length + n<=1000000 /\
   aq C.p (rV C.p) m1 h1 G1 HJ W σ Q ((lcM k.it g ft fe (cZ δ vs) n i h').bind fun ys h2=>bJ md (acc ++ ys) h2),⟨k.n,[],[],m1,h1,G1,(fE .refl hD w1 no gD).1,(fE .refl hD w1 no gD).2,upd_same,no,gD,.nil,by simpa using hk,e1⟩,?_⟩
  rintro i n H2 ⟨acc,accV,m2,h2,G2,s2,w2,eD,no2,gD2,ra,hl,e2⟩;have srci:=src i m2 h2 G2 H2 s2.w s2.fz w2
  cases hit:k.it i h2 with
  | none=>cases n <;> (unfold lcM at e2; rw [hit] at e2; exact e2.elim)
  | some o =>
   cases o with
   | none =>
    rw [hit] at srci;refine .inl ⟨srci,?_⟩;have e3:aq C.p (rV C.p) m1 h1 G1 HJ W σ Q (bJ md acc h2):=by
     cases n <;> (unfold lcM at e2; rw [hit] at e2; have e2:aq C.p (rV C.p) m1 h1 G1 HJ W σ Q (bJ md (acc ++ []) h2):=e2; rw [List.append_nil] at e2; exact e2)
    exact own_new e3 s2 hD w2 no2 gD2 eD ra
   | some x =>
    rw [hit] at srci
    cases n with
    | zero=>unfold lcM at e2; rw [hit] at e2; exact e2.elim
    | succ n =>
     unfold lcM at e2;rw [hit] at e2;dsimp only at e2;refine .inr ⟨srci.1,fun H2=>∃ acc accV m' h' G',Stp m1 h1 G1 HJ m' h' G' H2/\Wo C.p m' h' G' H2/\H2 D=some (.lst accV)/\¬ Own m' h' D/\G' D=none/\RvA C.p m' h'.has G' accV acc/\acc.length + n<=1000000 /\
      aq C.p (rV C.p) m1 h1 G1 HJ W σ Q ((lcM k.it g ft fe (cZ δ vs) n (i + 1) h').bind fun ys h2=>bJ md (acc ++ ys) h2),fun H' z=>⟨n,Nat.lt_succ_self n,z⟩,fun u H3 y=>?_⟩
     obtain⟨G3,s3,w3,r3⟩:=srci.2 u H3 y;have s23:=s2.trans s3;have eD3:=s3.fr D _ eD no2;have o3:=s3.out D (by rw [eD]; simp) no2
     cases hg:g x (cZ δ vs) with
     | none=>rw [hg] at e2; exact e2.elim
     | some δ3 =>
      rw [hg] at e2;dsimp only at e2;have en3:En C.p m2 h2 G3 (L2.wipe σ vs) (cZ δ vs):=en1.stp s23;refine mg _ _ _ _ _ (fun σ4 H4 z=>?_) (og _ _ _ _ (sg m2 h2 G3 H3 (L2.wipe σ vs) (cZ δ vs) u x δ3 (fun σ4 H4=>En C.p m2 h2 G3 σ4 δ3/\H4=H3) w3 en3 r3 hg fun σ' en'=>⟨en',rfl⟩));obtain⟨⟨en4,rfl⟩,we⟩:=z;rw [show L2.wipe (L2.wipe σ vs) vs=L2.wipe σ vs by
       refine List.ext_getElem? fun k=>?_;rw [eC,eC,wipe_length]; split <;> rfl] at we
      refine⟨we,stt W0 σ4 δ3 m2 h2 G3 H4 _ en4 w3 ?_⟩
      cases hf:ft δ3 h2 with
      | err=>rw [hf] at e2; exact e2.elim
      | exc c fs h5=>rw [hf] at e2; exact e2.elim
      | ok b h5 =>
       intro m5 G5 b' H5 s5 w5 r5;have r5:b'=b:=r5;subst r5;rw [hf] at e2;have s25:=s23.trans s5;have eD5:=s5.fr D _ eD3 o3.1;have o5:=s5.out D (by rw [eD3]; simp) o3.1
       cases b'
       .rw [if_neg (by simp)];exact⟨acc,accV,m5,h5,G5,s25,w5,eD5,o5.1,o5.2 (o3.2 gD2),RvA.stp (s3.trans s5) ra,by omega,e2⟩
       .rw [if_pos rfl];refine se W0 σ4 δ3 m5 h5 G5 H5 _ (en4.stp s5) w5 ?_
        cases hx:fe δ3 h5 with
        | err=>dsimp only at e2; rw [hx] at e2; exact e2.elim
        | exc c fs h6=>dsimp only at e2; rw [hx] at e2; exact e2.elim
        | ok yv h6 =>
         intro m6 G6 yu H6 s6 w6 r6;dsimp only at e2;rw [hx] at e2;have s26:=s25.trans s6;have eD6:=s6.fr D _ eD5 o5.1;have o6:=s6.out D (by rw [eD5]; simp) o5.1;have gD6:=o6.2 (o5.2 (o3.2 gD2));have ra6:=RvA.stp ((s3.trans s5).trans s6) ra;have om:=fE (o:=.lst (accV ++ [yu])) s26 hD w6 o6.1 gD6;refine⟨accV,eD6,by rw [ra6.len]; exact eP (by omega),acc ++ [yv],accV ++ [yu],m6,h6,G6,om.1,om.2,upd_same,o6.1,gD6,ra6.app (.cons r6 .nil),by simp; omega,?_⟩;have e3:aq C.p (rV C.p) m1 h1 G1 HJ W σ Q (((lcM k.it g ft fe (cZ δ vs) n (i + 1) h6).bind fun ys h3=>.ok (yv :: ys) h3).bind fun ys h2=>bJ md (acc ++ ys) h2):=e2
         cases hl:lcM k.it g ft fe (cZ δ vs) n (i + 1) h6 with
         | err=>rw [hl] at e3; exact e3
         | exc c fs h7=>rw [hl] at e3; exact e3
         | ok ys h7 =>
          rw [hl] at e3;have e3:aq C.p (rV C.p) m1 h1 G1 HJ W σ Q (bJ md (acc ++ yv :: ys) h7):=e3;show aq C.p (rV C.p) m1 h1 G1 HJ W σ Q (bJ md ((acc ++ [yv]) ++ ys) h7);rw [List.append_assoc]; exact e3
 .exact e1.elim
theorem fV(md:Md)(own:List (Str×Nat))(hi:SI C tg iter fw)(ok:blkC C.N C.sc scope own=true)(hg:SG (C.blk scope) tg (own.map (·.2)) g)(ht:STs (C.blk scope) ifs ft)(he:SE (C.blk scope) elt fe)(hs:∀ env x,foldedSetIterable iter env x=pure x:=by intro _ _; rfl) :
  SE C (.ListComp elt [⟨tg,iter,ifs,0⟩] scope pos) (mLc md (own.map (·.2)) fw g ft fe):=by
 obtain⟨ti,pi,si⟩:=hi;obtain⟨gt,pg,sg,og,mg⟩:=hg;obtain⟨tt,pt,stt⟩:=ht;obtain⟨te,pe,se⟩:=he;exact⟨_,fun W X gd=>pe_lc gd.calm gd.nd (pi W X gd) (by rw [gd.N,gd.sc]; exact blkOk_by ok) (fun s H A cl fp=>pg W0 _ (dJ gd scope s H A cl fp)) (fun s H A cl fp=>pt W0 _ (dJ gd scope s H A cl fp)) (fun s H A cl fp=>pe W0 _ (dJ gd scope s H A cl fp)) (hs _),tV md si sg og mg stt se⟩
theorem dG(md:Md)(own:List (Str×Nat)){i:Nat}{y:Str}{py spos:Pos}(hy:C.N[i]?=some y)(hyl:C.sc.names.lookup y=some .local)(hk:C.sc.kind = .function)(hl:(py.line == pos.line)=true)(hany:(scope.names.any fun(n,k)=>n == y && (k == .local || k == .cell))=false)
  (hi:SI C tg iter fw) (ok:blkC C.N C.sc scope own=true) (hg:SG (C.blk scope) tg (own.map (·.2)) g) (ht:STs (C.blk scope) ifs ft) (he:SE (C.blk scope) elt fe) (hs:∀ env x,foldedSetIterable iter env x=pure x:=by intro _ _; rfl) :
  SS C (.Assign [.Name y py] (.ListComp elt [⟨tg,iter,ifs,0⟩] scope pos) spos) (aI (mLc md (own.map (·.2)) fw g ft fe) (tgN i)):=by
 obtain⟨ti,pi,si⟩:=hi;obtain⟨gt,pg,sg,og,mg⟩:=hg;obtain⟨tt,pt,stt⟩:=ht;obtain⟨te,pe,se⟩:=he;refine⟨_,fun W X gd=>ps_setLc gd.calm gd.nd (by rw [gd.N]; exact hy) (by rw [gd.sc]; exact hyl) (sw_true (by rw [gd.sc]; exact hk) (by rw [gd.sc]; exact hyl) hl hany) (pi W X gd) (by rw [gd.N,gd.sc]; exact blkOk_by ok) (fun s H A cl fp=>pg W0 _ (dJ gd scope s H A cl fp)) (fun s H A cl fp=>pt W0 _ (dJ gd scope s H A cl fp)) (fun s H A cl fp=>pe W0 _ (dJ gd scope s H A cl fp)) (hs _),
  qk (tV md si sg og mg stt se) fun m h G H σ δ u x δ' Q w en r e q=>by cases e; exact q _ (en.set i r)⟩
end
end M
namespace M
open PySem PySem.Spec PyProof.Rows L2 B
structure FnG(P:Program)(w:World)(K:PySem.W.Frag)(mg:Str->Option Value)(base:Heap)(CX:CXT)(k:Nat)(f:Addr)(fd:FuncData)(ps:List Str)(sp:Sp):Prop where
 len:∀ vs H Q E,sp vs H Q E->vs.length=ps.length
 run:∀ (A:Around) (outer:List Env) (s:Shared) (H:Hp) (args:Args) (us:List Value) (vs:List V) (Q:VK) (E:XK),Room k A->A.guards=some []->Env0 P w K mg base A outer s H->BindsTo s fd args (ps.zip us)->Vals vs us->sp vs H Q E->codeAny (model P w) A (.call (.ref f) args) (CR CX outer P w H s Q E) s
theorem fnG_of{CX:CXT}{P:Program}{w:World}{K:PySem.W.Frag}{mg:Str->Option Value}{base:Heap}{x qual:Str}{params:Arguments}{body:List Stmt}{scope:Scope}{dvs:List V}{kws:List (Str×V)}{f:Addr}{fd:FuncData}{N ps:List Str}{k:Nat}{sp:Sp}
  (F:FunD K x qual params body scope dvs kws f fd) (S:FnScope N ps scope) (len:∀ vs H Q E,sp vs H Q E->vs.length=ps.length)
  (hbody:∀ (cdv:Value) (A:Around) (outer:List Env) (s:Shared) (H:Hp) (vs:List V) (Q:VK) (E:XK),(∀ fd',hQ K f fd'->cdv=fd'.code)->Room k (A.deeper (envOfC qual scope s.heap.objs.size f cdv))->A.guards=some []->sp vs H Q E ->
   ∃ t,PSs (cxOf CX P w K mg base N qual scope f cdv A outer s H E) body t/\t { nx:=fun _ H'=>Q .non H',rt:=Q } (start N vs) H):FnG P w K mg base CX (k + 1) f fd ps sp:=by
 obtain⟨oc,od,dV,kV,doc,pm,an,cdv,ct,osl,rfl,lk,hcd,_,_⟩:=F.ex;refine⟨len,fun A outer s H args us vs Q E hr hgd e0 hbd r hsp=>?_⟩;have old:∀ b o,base.get? b=some o->s.heap.get? b=some o:=fun b o e=>(e0.bs b o e).1;have KX:K.In s.heap:=e0.mod.kin.keeps old;have kinds:∀ y∈ps.zip us,scope.names.lookup y.1=some .local\/(scope.names.lookup y.1=some .cell/\((cellsFrom (s.heap.objs.size + 1) scope.names []).lookup y.1).isSome=true):=by
  rintro⟨z,v⟩ hy;exact(S.par z (List.of_mem_zip hy).1).imp id fun q=>⟨q,PySem.W.cellsFrom_some _ _ _ (.inl q)⟩
 refine codeAny_call_function hr.depth (KX _ _ lk) rfl S.co S.gen rfl (PySem.W.codeRec_of KX hcd) (hbd _ _ _ _ (wpAny_newFunctionEnv_cells S.kind kinds fun env he s1 y=>?_))
 cases he
 refine⟨(e0.mod.nolimit.keeps old).keeps y.toInCall.keep,codeAny_func ?_⟩;obtain⟨t,ht,hq⟩:=hbody cdv A outer s H vs Q E (fun fd' ⟨_,_,_,z⟩=>by rw [lk] at z; cases z; rfl) (hr.deeper _) hgd hsp;refine wpAny_mono (ht.run [] s1 (start N vs) H _ (inv_start S hr.hd e0 (len _ _ _ _ hsp) r y) hq) (fun fl s' hs=>?_) fun _ _ z=>z
 cases fl with
 | brk=>obtain⟨_,_,_,z⟩:=hs; cases z
 | cont=>obtain⟨_,_,_,z⟩:=hs; cases z
 | next=>obtain⟨_,H',J,z⟩:=hs; exact⟨.non,H',J.os,J.bare,J.base,J.hok,rfl,z⟩
 | ret u=>obtain⟨v,_,H',J,rv,z⟩:=hs; exact⟨v,H',J.os,J.bare,J.base,J.hok,rv,z⟩
section
variable{X:Cx}{CX:CXT}{k:Nat}{f:Addr}{fd:FuncData}{ps:List Str}{sp:Sp}{dvs:List V}{ds:List Value}{E:L2.St->XK}{x:Str}{p pos:Pos}{e:Expr}{es:List Expr}{t:TA}
theorem pU{pins:List (Addr×Obj)}{σ : L2.St}{H:Hp}{s:Shared}{Q:VK}(hx:PassesAt CX X σ (E σ))(I:Inv X pins σ H s):∀ r s',CR CX X.stack X.prog X.w H s Q (E σ) r s'->(match r with | .ok (.ret v)=>EP X pins σ Q v s' | .ok _=>False | .error e=>X.xe e s')
 | .error e,s',h=>hx pins H s e s' I h
 | .ok (.ret _),_,h=>I.after h
 | .ok .next,_,h=>h
 | .ok .brk,_,h=>h
 | .ok .cont,_,h=>h
theorem lF{pins:List (Addr×Obj)}{σ : L2.St}{H:Hp}{s:Shared}{Q:VK}{us:List Value}{vs:List V}(F:FnG X.prog X.w X.K X.mg X.base CX k f fd ps sp)(hr:Room k X.A)(hgd:X.A.guards=some [])(hb:Binds X.K fd ps ds)(hd:Vals dvs ds)(hx:PassesAt CX X σ (E σ))
  (I:Inv X pins σ H s) (r:Vals vs us) (h:sp (vs ++ dvs) H Q (E σ)):wpAny (model X.prog X.w) X.A (call (.ref f) us) (EP X pins σ Q) X.xe s:=by
 have r2:=r.append hd;exact wpAny_call (codeAny_mono (F.run X.A X.stack s H ⟨us,[]⟩ _ _ Q (E σ) hr hgd I.env0 (hb s us I.kIn (r2.length.symm.trans (F.len _ _ _ _ h))) r2 h) (pU hx I))
theorem pe_callG(F:FnG X.prog X.w X.K X.mg X.base CX k f fd ps sp)(hr:Room k X.A)(hgd:X.A.guards=some [])(hg:Gl X x)(hm:X.mg x=some (.ref f))(hk:PySem.W.keepIn X.K (.ref f)=true)(hb:Binds X.K fd ps ds)(hd:Vals dvs ds)(hx:∀ σ,PassesAt CX X σ (E σ))(ha:PA X (e :: es) t)
  (hdb:(x == ("__debug__" : Str))=false) (he:starEach (e :: es) X.env=(false,eval e X.env) :: starEach es X.env) (hpl:(backTo pos (starEach es X.env)).any (·.1)=false):PE X (.Call (.Name x p) (e :: es) [] pos) (tCallSD sp dvs E t) :=
 ⟨fun pins s σ H Q I h=>wpAny_Call_Name_kw (ld_glob I hg hm (PySem.W.callWith_K (h₀:=X.base) I.ok.mod.kin hk (thn (ha.run pos pins s σ H _ I h) fun us s1 ⟨vs,H1,I1,r,q⟩=>⟨I1.kIn,lF F hr hgd hb hd (hx σ) I1 r q⟩) he hpl) hdb)⟩
end
abbrev Calls:=Nat->List Val->Hh->Res Val
structure Df where
 np:Nat
 nl:Nat
 body:Calls->Sl->Hh->aD
 ps:List Str
 kw:List (Str×Val):=[]
def Hh.cut(h:Hh)(n:Nat):Hh:={ h with loc:=h.loc.take n }
def bP(n:Nat)(v:Val)(h:Hh):Res Val:=if v.nl=true then .ok v (h.cut n) else match v with
 | .ref (.loc i)=>if i < n then .ok v (h.cut n) else match h.loc[i]? with
  | some (.lst xs)=>.ok (.lst xs) (h.cut n)
  | _=>.err
 | _=>.err
def finR(n:Nat)(r:aD):Res Val:=match r with
 | .nx _ h=>.ok .non (h.cut n)
 | .rt v h=>bP n v h
 | .exc c fs _ h=>if nlp fs=true then .exc c fs (h.cut n) else .err
 | _=>.err
def startM(d:Df)(xs:List Val):Sl:=xs.map some ++ List.replicate (d.nl - xs.length) none
def ao(T:Nat->Option Df):Nat->Calls
 | 0=>fun _ _ _=>.err
 | n + 1=>fun f xs h=>match T f with
  | some d=>if xs.length=d.np then finR h.loc.length (d.body (ao T n) (startM d xs) h) else .err
  | none=>.err
def WEx(E:XK):WX:=fun cls d _ H=>E cls d H
def spM(p:Pm)(np:Nat)(g:List Val->Hh->Res Val):Sp:=fun vs H Q E=>vs.length=np/\∃ m h G xs,Wo p m h G H/\RvA p m h.has G vs xs/\aq p (rV p) m h G H (WEx E) [] Q (g xs h)
section
variable{p:Pm}{m m1:Rf->Addr}{h h1:Hh}{G H G1 H1:Hp}
theorem get_cut{h:Hh}{n:Nat}{r:Rf}{c:Cel}(e:(h.cut n).get r=some c):h.get r=some c:=by
 cases r with
 | loc i =>
  have e:(h.loc.take n)[i]?=some c:=e;rw [List.getElem?_take] at e
  split at e
  .exact e
  .cases e
 | glo s i=>exact e
theorem gY{h:Hh}{n:Nat}{r:Rf}(e:(h.cut n).has r):h.has r:=by
 cases r with
 | loc i =>
  have e:i < (h.loc.take n).length:=e;rw [List.length_take] at e;show i < h.loc.length; omega
 | glo s i=>exact e
theorem g6{h:Hh}{n:Nat}:∀ s i,h.has (.glo s i)->(h.cut n).has (.glo s i):=fun _ _ h=>h
theorem mz(s:Stp m h G H m1 h1 G1 H1)(w:Wo p m1 h1 G1 H1):Stp m h G H m1 (h1.cut h.loc.length) G1 H1/\Wo p m1 (h1.cut h.loc.length) G1 H1:=by
 refine⟨⟨s.gg,fun r hr=>⟨?_,(s.mm r hr).2⟩,s.fr,fun b hb nb=>⟨fun⟨r,h2,h3⟩=>(s.out b hb nb).1 ⟨r,gY h2,h3⟩,(s.out b hb nb).2⟩,s.dom,s.fz⟩,⟨w.gh,fun r c e=>?_,fun r r' h2 h3=>w.inj r r' (gY h2) (gY h3),fun r h2=>w.dom r (gY h2),fun k hk=>⟨g6 _ _ (w.tb k hk).1,(w.tb k hk).2⟩⟩⟩
 .have h2:=(s.mm r hr).1
  cases r with
  | loc i =>
   have h3:i < h1.loc.length:=h2;have h4:i < h.loc.length:=hr;show i < (h1.loc.take h.loc.length).length;rw [List.length_take]; omega
  | glo s i=>exact h2
 .obtain⟨h2,h3,o,h4,h5⟩:=w.cel r c (get_cut e);exact⟨h2,h3,o,h4,h5.less g6 h3⟩
theorem rR{N:List Str}{vs:List V}{xs:List Val}{d:Df}(hN:N.length=d.nl)(r:RvA p m h.has G vs xs):En p m h G (L2.start N vs) (startM d xs):=by
 refine⟨by simp [L2.start,startM,r.len,hN],fun i x e=>?_⟩;unfold startM at e;unfold L2.start
 by_cases hi:i < xs.length
 .rw [List.getElem?_append_left (by simpa using hi),List.getElem?_map] at e
  cases hd:xs[i]? with
  | none=>rw [hd] at e; cases e
  | some d' =>
   rw [hd] at e; cases e;obtain⟨v,h1,h2⟩:=r.at hd;exact⟨v,by rw [List.getElem?_append_left (by rw [List.length_map,r.len]; exact hi),List.getElem?_map,h1]; rfl,h2⟩
 .rw [List.getElem?_append_right (by simpa using hi)] at e;obtain⟨_,h⟩:=List.getElem?_eq_some_iff.mp e;rw [List.getElem_replicate] at h; cases h
theorem ends_fin{Q:VK}{E:XK}{r:aD}(e:aq p (rV p) m h G H (WEx E) [] Q (finR h.loc.length r)):bK p m h G H (WEx E) { nx:=fun _ H'=>Q .non H',rt:=Q } r:=by
 cases r with
 | err=>exact e
 | bk δ h'=>exact e.elim
 | ct δ h'=>exact e.elim
 | nx δ h'=>exact fun m' G' σ' H' s' w' en'=>e m' G' .non H' (mz s' w').1 (mz s' w').2 .non
 | rt v h' =>
  intro m' G' u H' s' w' r';have c:=mz s' w'
  change aq p (rV p) m h G H (WEx E) [] Q (bP h.loc.length v h') at e
  unfold bP at e
  split at e
  .rename_i hn;exact e m' G' u H' c.1 c.2 (r'.less g6 hn)
  .split at e
   .rename_i i _
    split at e
    .rename_i hi;refine e m' G' u H' c.1 c.2 ?_
     cases r' with
     | ref hh =>
      refine .ref ?_;have hh:i < h'.loc.length:=hh;show i < (h'.loc.take h.loc.length).length;rw [List.length_take]; omega
    .rename_i hi;have own:∀ b,H b≠none->¬ Own m h b->b≠m' (.loc i):=fun b hb nb z=>by
      cases r' with
      | ref hh=>exact(s'.out b hb nb).1 ⟨_,hh,z.symm⟩
     have key:∀ (o:HO) (c:Cel),h'.get (.loc i)=some c->H' (m' (.loc i))=some o->Stp m h G H m' (h'.cut h.loc.length) (upd G' (m' (.loc i)) o) H'/\Wo p m' (h'.cut h.loc.length) (upd G' (m' (.loc i)) o) H':=fun o cc hc ho=>by
      obtain⟨gn,_,_⟩:=w'.cel _ _ hc;have f:=sd.freeze w'.gh gn ho;have hne:∀ r,(h'.cut h.loc.length).has r->m' r≠m' (.loc i):=fun r hr z=>by
       have:=w'.inj _ _ (gY hr) (cw hc) z;subst this;have hr:i < (h'.loc.take h.loc.length).length:=hr;rw [List.length_take] at hr;omega
      refine⟨⟨s'.gg.trans f.1,fun r hr=>⟨(c.1.mm r hr).1,(c.1.mm r hr).2⟩,s'.fr,fun b hb nb=>⟨(c.1.out b hb nb).1,fun g=>by rw [upd_ne (own b hb nb)]; exact(s'.out b hb nb).2 g⟩,s'.dom,s'.fz⟩,⟨f.2,fun r x hx=>?_,c.2.inj,c.2.dom,c.2.tb⟩⟩;obtain⟨h2,h3,o2,h4,h5⟩:=c.2.cel r x hx;exact⟨by rw [upd_ne (hne r (cw hx))]; exact h2,h3,o2,h4,h5.mono (fun _ h=>⟨h,rfl⟩) f.1⟩
     split at e
     .rename_i xs hx;have hx:h'.get (.loc i)=some (.lst xs):=hx;obtain⟨gn,hn,o,ho,hc⟩:=w'.cel _ _ hx
      cases hc with
      | lst hc =>
       obtain⟨k1,k2⟩:=key _ _ hx ho
       cases r' with
       | ref hh=>exact e m' _ _ H' k1 k2 (.lst upd_same ((hc.less g6 hn).mono (fun _ h=>⟨h,rfl⟩) (gc gn)))
     .exact e.elim
   .exact e.elim
 | exc c fs δ h' =>
  intro m' G' σ' H' cls d s' w' en' x';have cc:=mz s' w';have e:aq p (rV p) m h G H (WEx E) [] Q (if nlp fs=true then .exc c fs (h'.cut h.loc.length) else .err):=e
  split at e
  .rename_i hn;refine e m' G' H' cls d cc.1 cc.2 ⟨x'.1,x'.2.less g6 hn⟩
  .exact e.elim
end
theorem hQ.eq{K:PySem.W.Frag}{a:Addr}{fd fd':FuncData}(h:hQ K a fd)(h':hQ K a fd'):fd=fd':=by
 obtain⟨oc,od,osl,e⟩:=h;obtain⟨oc',od',osl',e'⟩:=h';rw [e] at e'; cases e'; rfl
theorem lR{K:PySem.W.Frag}{x qual:Str}{params:Arguments}{body:List Stmt}{scope:Scope}{dvs:List V}{kws:List (Str×V)}{f:Addr}{fd:FuncData}(F:FunD K x qual params body scope dvs kws f fd):hQ K f fd:=by
 obtain⟨oc,od,dV,kV,doc,pm,an,cdv,ct,osl,_,lk,_⟩:=F.ex;exact⟨oc,od,osl,lk⟩
def aH(p:Pm)(T:Nat->Option Df)(n:Nat):Prop:=∀ f d,T f=some d->∃ fd,FnG p.P p.w p.K p.mg p.base (L2.CX p.P p.w) (3 * n) (p.fa f) fd d.ps (spM p d.np (ao T n f))/\PySem.W.keepIn p.K (.ref (p.fa f))=true/\(d.kw=[]->Binds p.K fd d.ps [])/\hQ p.K (p.fa f) fd
def ctx(p:Pm)(n f:Nat)(qual:Str)(st:Stmt)(N:List Str):Ct:=⟨p,3 * n + 2,defScope st,N,fun _=>true,p.fa f,qual ++ ".<locals>.",true⟩
structure DefOk(p:Pm)(T:Nat->Option Df)(f:Nat)(d:Df):Prop where
 ex:∃ (x qual:Str) (st:Stmt) (N:List Str) (fd:FuncData) (kws:List (Str×V)),FunD p.K x qual (defArgs st) (defBody st) (defScope st) [] kws (p.fa f) fd/\(d.kw=[]->Binds p.K fd d.ps [])/\FnScope N d.ps (defScope st)/\d.ps.length=d.np/\N.length=d.nl /\
  ∀ n,aH p T n->SSs (ctx p n f qual st N) (defBody st) (d.body (ao T n))
theorem callsOk{p:Pm}{T:Nat->Option Df}(h:∀ f d,T f=some d->DefOk p T f d):∀ n,aH p T n
 | 0=>fun f d e=>by
  obtain⟨x,qual,st,N,fd,kws,F,b,S,hp,hn,_⟩:=(h f d e).ex;refine⟨fd,⟨fun vs H Q E z=>by rw [hp]; exact z.1,fun A outer s H args us vs Q E hr _ e0 hb r z=>?_⟩,F.kp,b,lR F⟩;obtain⟨_,m,hh,G,xs,_,_,z⟩:=z;exact z.elim
 | n + 1=>fun f d e=>by
  obtain⟨x,qual,st,N,fd,kws,F,b,S,hp,hn,hb⟩:=(h f d e).ex;refine⟨fd,?_,F.kp,b,lR F⟩;show FnG _ _ _ _ _ _ (3 * n + 2 + 1) _ _ _ _;refine fnG_of F S (fun vs H Q E z=>by rw [hp]; exact z.1) fun cdv A outer s H vs Q E hcd hr hgd z=>?_;obtain⟨hl,m,hh,G,xs,w,r,z⟩:=z;obtain⟨t,ht,snd⟩:=hb n (callsOk h n);refine⟨t (WEx E),ht (WEx E) _ ⟨rfl,rfl,rfl,rfl,rfl,rfl,S.nd,rfl,rfl,rfl,hr,hgd,passes_of rfl,takes_of rfl rfl rfl rfl,hcd,rfl,fun _=>⟨rfl,rfl,rfl⟩⟩,?_⟩;refine snd (WEx E) _ (startM d xs) m hh G H _ (rR hn r) w (ends_fin ?_);unfold ao at z;rw [e] at z;dsimp only at z
  split at z
  .exact z
  .exact z.elim
section
variable{C:Ct}{T:Nat->Option Df}{n:Nat}{f:Nat}{d:Df}{e:Expr}{es:List Expr}{x:Str}{pos q:Pos}{fs:Sl->Hh->Res (List Val)}
def aA(Γ : Calls)(f:Nat)(fs:Sl->Hh->Res (List Val)):Sl->Hh->Res Val:=fun δ h=>(fs δ h).bind fun xs h1=>Γ f xs h1
theorem iA{xs:List Val}{h:Hh}(hT:T f=some d)(hx:xs.length≠d.np):ao T n f xs h = .err:=by
 cases n with
 | zero=>rfl
 | succ n=>unfold ao; rw [hT]; dsimp only; rw [if_neg hx]
theorem se_call(hc:aH C.p T n)(hT:T f=some d)(hk0:d.kw=[])(hk:3 * n<=C.k)(hm:C.p.mg x=some (.ref (C.p.fa f)))(hl:C.sc.names.lookup x=some .globalImplicit)(ha:SA C (e :: es) fs)(hdb:(x == ("__debug__" : Str))=false:=by decide)
  (he:∀ env,starEach (e :: es) env=(false,eval e env) :: starEach es env:=by intro _; rfl) (hpl:∀ env,(backTo pos (starEach es env)).any (·.1)=false:=by intro _; rfl):SE C (.Call (.Name x q) (e :: es) [] pos) (aA (ao T n) f fs):=by
 obtain⟨t,pa,sa⟩:=ha;obtain⟨fd,F,kp,b,_⟩:=hc f d hT;refine⟨fun W=>tCallSD (spM C.p d.np (ao T n f)) [] (L2.WE W) (t W),fun W X g=>?_,fun W σ δ m h G H Q en w e=>sa W σ δ m h G H _ en w (aq.bind e fun xs h1 m1 G1 us H1 s1 w1 r1 e1=>?_)⟩
 .refine pe_callG (f:=C.p.fa f) (fd:=fd) (ps:=d.ps) (CX:=L2.CX X.prog X.w) ?_ (g.room.mono hk) g.gd (g.gl hl) (by rw [g.mg]; exact hm) (by rw [g.K]; exact kp) (by rw [g.K]; exact b hk0) .nil (fun σ=>passAt g.takes σ) (pa W X g) hdb (he _) (hpl _);rw [g.prog,g.w,g.K,g.mg,g.base]; exact F
 .show spM C.p d.np (ao T n f) (us ++ []) H1 Q _;rw [List.append_nil];have hl:xs.length=d.np:=by
   by_cases z:xs.length=d.np
   .exact z
   .rw [iA hT z] at e1; exact e1.elim
  refine⟨by rw [r1.len]; exact hl,m1,h1,G1,xs,w1,r1,?_⟩
  cases hr:ao T n f xs h1 with
  | err=>rw [hr] at e1; exact e1
  | ok v h'=>rw [hr] at e1; exact e1
  | exc c fs h'=>rw [hr] at e1; exact e1
end
def h0:Hh:=⟨fun _=>[],[]⟩
def h0T(qs:List Str):Hh:=⟨fun s=>if s=99 then qs.map fun q=>some (.tab q) else [],[]⟩
structure Tbl(n:Nat)(ta:Nat->Addr)(H:Hp):Prop where
 at_:∀ k,k < n->H (ta k)=some (.tbl #[])
 inj:∀ i j,i < n->j < n->ta i=ta j->i=j
theorem h0T_nil:h0T []=h0:=by
 unfold h0T h0
 congr 1
 funext s
 split <;> rfl
def qi(K:PySem.W.Frag)(n:Nat)(ta:Nat->Addr):Sp:=fun vs H Q _=>∃ (a:Addr) (ns:List Int),vs=[.ref a]/\SqL K H a (ns.map V.int)/\ns.length<=63/\Tbl n ta H/\∀ H',Q (.bl true) H'
theorem law_fn{p:Pm}{T:Nat->Option Df}{n f:Nat}{d:Df}{qs:List Str}(hq:p.nt=qs.length)(hc:aH p T n)(hT:T f=some d)(hd:d.np=1)(hrun:∀ ns:List Int,ns.length<=63->∃ h',ao T n f [.scr ns] (h0T qs) = .ok (.bl true) h') :
  ∃ fd,FnG p.P p.w p.K p.mg p.base CX0 (3 * n) (p.fa f) fd d.ps (qi p.K p.nt p.ta)/\hQ p.K (p.fa f) fd:=by
 obtain⟨fd,F,kp,b,lk⟩:=hc f d hT;have sp:∀ vs H Q E,qi p.K p.nt p.ta vs H Q E->spM p d.np (ao T n f) vs H Q E0:=fun vs H Q E ⟨a,ns,e1,hs,hl,ht,q⟩=>by
  subst e1;obtain⟨h',hr⟩:=hrun ns hl;have hg:∀ r,(h0T qs).has r->∃ k,r = .glo 99 k/\k < p.nt:=fun r hr=>by
   cases r with
   | loc i=>exact absurd (show i < 0 from hr) (Nat.not_lt_zero _)
   | glo s i =>
    have hr:i < (if s=99 then qs.map fun q=>some (Cel.tab q) else []).length:=hr
    by_cases e:s=99
    .subst e;rw [if_pos rfl,List.length_map] at hr;exact⟨i,rfl,by rw [hq]; exact hr⟩
    .rw [if_neg e] at hr; exact absurd hr (Nat.not_lt_zero _)
  refine⟨by rw [hd]; rfl,fun r=>match r with | .glo _ k=>p.ta k | .loc _=>0,h0T qs,fun b=>if b=a/\∀ k,k < p.nt->b≠p.ta k then H b else none,[.scr ns],⟨fun b o e=>?_,fun r c e=>?_,fun r r' e1 e2 e=>?_,fun r e=>?_,fun k hk=>⟨?_,rfl⟩⟩,.cons (.scr ?_) .nil,?_⟩
  .try dsimp only at e
   split at e
   .exact e
   .cases e
  .obtain⟨k,rfl,hk⟩:=hg r (cw e);refine⟨?_,?_,?_⟩
   .show(if p.ta k=a/\∀ k',k' < p.nt->p.ta k≠p.ta k' then H (p.ta k) else none)=none;rw [if_neg fun z=>z.2 k hk rfl]
   .have e:(match (if 99=99 then qs.map fun q=>some (Cel.tab q) else [])[k]? with | some c=>c | none=>none)=some c:=e;rw [if_pos rfl,List.getElem?_map] at e
    cases hqk:qs[k]? with
    | none=>rw [hqk] at e; cases e
    | some q=>rw [hqk] at e; cases e; rfl
   .have e:(match (if 99=99 then qs.map fun q=>some (Cel.tab q) else [])[k]? with | some c=>c | none=>none)=some c:=e;rw [if_pos rfl,List.getElem?_map] at e
    cases hqk:qs[k]? with
    | none=>rw [hqk] at e; cases e
    | some q =>
     rw [hqk] at e; cases e;exact⟨_,ht.at_ k hk,.tab True.intro fun pos cv z=>by simp [codeAmong] at z⟩
  .obtain⟨k,rfl,hk⟩:=hg r e1;obtain⟨k',rfl,hk'⟩:=hg r' e2;rw [ht.inj _ _ hk hk' e]
  .obtain⟨k,rfl,hk⟩:=hg r e;show H (p.ta k)≠none;rw [ht.at_ k hk]; intro z; cases z
  .show k < (if 99=99 then qs.map fun q=>some (Cel.tab q) else []).length;rw [if_pos rfl,List.length_map,<- hq]; exact hk
  .rcases hs with hs | hs
   .left
    have na:∀ (o:HO),H a=some o->(∀ ps,o≠.tbl ps)->∀ k,k < p.nt->a≠p.ta k:=fun o h1 h2 k hk z=>by
     rw [z,ht.at_ k hk] at h1;exact h2 _ (Option.some.inj h1).symm
    rcases hs with hs | ⟨o,hs⟩
    .left; dsimp only; rw [if_pos ⟨rfl,na _ hs fun _ z=>by cases z⟩]; exact hs
    .right; refine⟨o,?_⟩; dsimp only; rw [if_pos ⟨rfl,na _ hs fun _ z=>by cases z⟩]; exact hs
   .exact .inr hs
  .rw [hr];intro m' G' u H' s w r
   cases r
   exact q H'
 refine⟨fd,⟨fun vs H Q E z=>F.len vs H Q E0 (sp vs H Q E z),fun A outer s H args us vs Q E hr hgd e0 hb r z=>?_⟩,lk⟩;refine codeAny_mono (F.run A outer s H args us vs Q E0 hr hgd e0 hb r (sp vs H Q E z)) fun r s' hq=>?_
 cases r with
 | ok fl=>cases fl <;> exact hq
 | error e =>
  obtain⟨_,_,_,_,_,_,_,_,_,_,_,_,z⟩:=hq;exact z.elim
end M
namespace M
open PySem PySem.Spec PyProof.Rows L2 B
def rX(p:Pm)(r:V->List V->Hp->VK->Prop)(g:Hh->Val->List Val->Res Val):Prop:=∀ m h G H u us x xs Q W σ,Wo p m h G H->Rv p m h.has G u x->RvA p m h.has G us xs->aq p (rV p) m h G H W σ Q (g h x xs)->r u us H Q
def tyL(h:Hh)(x:Val):Bool:=(rdL h x).isSome
def tyS(_:Hh):Val->Bool
 | .str _=>true
 | _=>false
def tyD(h:Hh)(x:Val):Bool:=match x with
 | .ref r=>match h.get r with
  | some (.dct _)=>true
  | some (.dtt _)=>true
  | _=>false
 | _=>false
def TyOk(p:Pm)(T:String)(ty:Hh->Val->Bool):Prop:=∀ m h G H u x,Wo p m h G H->Rv p m h.has G u x->ty h x=true->tyV p.K T u H
def mBM(ty:Hh->Val->Bool)(g:Hh->Val->List Val->Res Val)(fo:Sl->Hh->Res Val)(fs:Sl->Hh->Res (List Val)):Sl->Hh->Res Val:=fun δ h=>(fo δ h).bind fun x h1=>if ty h1 x=true then(fs δ h1).bind fun xs h2=>g h2 x xs else .err
section
variable{p:Pm}
theorem ty_L:TyOk p "list" tyL:=fun m h G H u x w r t=>by
 obtain⟨xs,hx⟩:=Option.isSome_iff_exists.mp t;obtain⟨a,vs,rfl,h1,_⟩:=jw w r hx;exact .inl ⟨rfl,vs,h1⟩
theorem ty_S:TyOk p "str" tyS:=fun m h G H u x w r t=>by
 cases r <;> first | rfl | cases t
theorem ty_D:TyOk p "dict" tyD:=fun m h G H u x w r t=>by
 cases r with
 | @ref r hr =>
  have t:(match h.get r with | some (.dct _)=>true | some (.dtt _)=>true | _=>false)=true:=t
  split at t
  .rename_i hc;obtain⟨_,_,o,h3,h4⟩:=w.cel _ _ hc
   cases h4
   exact .inr (.inr (.inl ⟨rfl,.inl ⟨_,h3⟩⟩))
  .rename_i hc;obtain⟨_,_,o,h3,h4⟩:=w.cel _ _ hc
   cases h4
   exact .inr (.inr (.inl ⟨rfl,.inr ⟨_,h3⟩⟩))
  .cases t
 | _=>cases t
variable{C:Ct}{o e:Expr}{es:List Expr}{name:Str}{apos cpos:Pos}{Tn id:String}{ty:Hh->Val->Bool}{r:V->List V->Hp->VK->Prop}{g:Hh->Val->List Val->Res Val}{fo:Sl->Hh->Res Val}{fs:Sl->Hh->Res (List Val)}
theorem mT(pa:PlainAttrs Tn)(slot:Slot Tn name id)(hty:typeOf (.builtin id)=pure (.type "method_descriptor"))(tk:TyOk C.p Tn ty)(hm:∀ W X,Good C W X->MtR X id r)(s:rX C.p r g)(ho:SE C o fo)(ha:SA C (e :: es) fs)(hb:∀ env,attributeBase o name env (eval o env)=eval o env:=by intro _; rfl)
  (hfew:∀ env,((backTo cpos (starEach (e :: es) env)).all (fun x=>!x.1) && (backToKw cpos (keywordEach [] env)).all (fun x=>x.1.isSome)
   && decide ((e :: es).length + ([]:List Keyword).length + (if ([]:List Keyword).isEmpty then 0 else 1) < 30))=true:=by intro _; rfl)
  (hline:(apos.endLine == cpos.line)=true:=by rfl) (hs:∀ env,starEach (e :: es) env=(false,eval e env) :: starEach es env:=by intro _; rfl) (hpl:∀ env,(backTo cpos (starEach es env)).any (·.1)=false:=by intro _; rfl) :
  SE C (.Call (.Attribute o name apos) (e :: es) [] cpos) (mBM ty g fo fs):=by
 obtain⟨to,po,so⟩:=ho;obtain⟨ta,pa',sa⟩:=ha;refine⟨fun W=>tBM C.p.K Tn r (to W) (ta W),fun W X gd=>pe_bmK C.p.K pa slot hty (hm W X gd) (po W X gd) (pa' W X gd) gd.K (hb _) (hfew _) hline (hs _) (hpl _),fun W σ δ m h G H Q en w e=>so W σ δ m h G H _ en w (aq.bind e fun x h1 m1 G1 u H1 s1 w1 r1 e1=>?_)⟩
 split at e1
 .rename_i ht;exact⟨tk _ _ _ _ _ _ w1 r1 ht,sa W σ δ m1 h1 G1 H1 _ (en.stp s1) w1 (aq.bind e1 fun xs h2 m2 G2 us H2 s2 w2 r2 e2=>s m2 h2 G2 H2 u us x xs Q W σ w2 (Rv.stp s2 r1) r2 e2)⟩
 .exact e1.elim
def cm(h:Hh)(x:Val)(xs:List Val):Res Val:=match x,xs with
 | .ref r,[y]=>match h.get r with
  | some (.lst ys)=>if y.nl=true/\ys.length < 1000000 then .ok .non (h.set r (.lst (ys ++ [y]))) else .err
  | _=>.err
 | _,_=>.err
def fG(h:Hh)(x:Val)(xs:List Val):Res Val:=match x,xs with
 | .ref r,[y]=>match h.get r with
  | some (.lst ys)=>match rdM h y with
   | some zs=>if Val.nls zs=true/\ys.length + zs.length<=1000000 then .ok .non (h.set r (.lst (ys ++ zs))) else .err
   | none=>.err
  | _=>.err
 | _,_=>.err
theorem gS{xs ys:List Val}:Val.nls (xs ++ ys)=(Val.nls xs && Val.nls ys):=by rw [lO,lO,lO,List.all_append]
theorem rj:rX p rAppend cm:=fun m h G H u us x xs Q W σ w rx r e=>by
 unfold cm at e
 split at e
 .obtain⟨v,rfl,rv⟩:=eB r
  split at e
  .rename_i ys hc
   split at e
   .rename_i hcond;obtain⟨_,hn,o,h3,h4⟩:=w.cel _ _ hc
    cases rx
    cases h4 with
    | lst h4 =>
     refine⟨_,_,v,rfl,rfl,h3,by rw [h4.len]; exact eP hcond.2,?_⟩;have ww:=w.mut hc (c:=.lst (ys ++ [_])) (o:=.lst (_ ++ [v])) (by show Val.nls _=true; rw [gS,show Val.nls ys=true from hn]; show(true && (_ && true))=true; rw [hcond.1]; rfl) (.lst (h4.app (.cons rv .nil)));exact e.step ww.2 ww.1 .non
   .exact e.elim
  .exact e.elim
 .exact e.elim
theorem ri:rX p rExtend fG:=fun m h G H u us x xs Q W σ w rx r e=>by
 unfold fG at e
 split at e
 .obtain⟨v,rfl,rv⟩:=eB r
  split at e
  .rename_i ys hc
   split at e
   .rename_i zs hz
    split at e
    .rename_i hcond;obtain⟨_,hn,o,h3,h4⟩:=w.cel _ _ hc;obtain⟨b,ws,rfl,h5,h6⟩:=gk w rv hz
     cases rx
     cases h4 with
     | lst h4 =>
      refine⟨_,b,_,ws,rfl,rfl,h3,h5,by rw [h4.len,h6.len]; exact aK hcond.2,?_⟩;have ww:=w.mut hc (c:=.lst (ys ++ zs)) (o:=.lst (_ ++ ws)) (by show Val.nls _=true; rw [gS,show Val.nls ys=true from hn,hcond.1]; rfl) (.lst (h4.app h6));exact e.step ww.2 ww.1 .non
    .exact e.elim
   .exact e.elim
  .exact e.elim
 .exact e.elim
theorem fC(ho:SE C o fo)(ha:SA C [e] fs)(hb:∀ env,attributeBase o "append" env (eval o env)=eval o env:=by intro _; rfl) (hfew:∀ env,((backTo cpos (starEach [e] env)).all (fun x=>!x.1) && (backToKw cpos (keywordEach [] env)).all (fun x=>x.1.isSome)
   && decide (([e]:List Expr).length + ([]:List Keyword).length + (if ([]:List Keyword).isEmpty then 0 else 1) < 30))=true:=by intro _; rfl)
  (hline:(apos.endLine == cpos.line)=true:=by rfl) (hs:∀ env,starEach [e] env=(false,eval e env) :: starEach [] env:=by intro _; rfl):SE C (.Call (.Attribute o "append" apos) [e] [] cpos) (mBM tyL cm fo fs) :=
 mT PySem.F.plainAttrs_list PySem.F.slot_list_append PySem.F.type_list_append ty_L (fun _ _ _=>mt_append) rj ho ha hb hfew hline hs
theorem rl(ho:SE C o fo)(ha:SA C [e] fs)(hb:∀ env,attributeBase o "extend" env (eval o env)=eval o env:=by intro _; rfl) (hfew:∀ env,((backTo cpos (starEach [e] env)).all (fun x=>!x.1) && (backToKw cpos (keywordEach [] env)).all (fun x=>x.1.isSome)
   && decide (([e]:List Expr).length + ([]:List Keyword).length + (if ([]:List Keyword).isEmpty then 0 else 1) < 30))=true:=by intro _; rfl)
  (hline:(apos.endLine == cpos.line)=true:=by rfl) (hs:∀ env,starEach [e] env=(false,eval e env) :: starEach [] env:=by intro _; rfl):SE C (.Call (.Attribute o "extend" apos) [e] [] cpos) (mBM tyL fG fo fs) :=
 mT PySem.F.plainAttrs_list PySem.F.slot_list_extend PySem.F.type_list_extend ty_L (fun _ _ _=>mt_extend) ri ho ha hb hfew hline hs
variable{ky df:Expr}{fk fd:Sl->Hh->Res Val}
def mDGet1(fo fk:Sl->Hh->Res Val):Sl->Hh->Res Val:=fun δ h=>(fo δ h).bind fun x h1=>if cq h1 x=true then(fk δ h1).bind fun y h2=>match fY h2 x y with
 | some (some v)=>.ok v h2
 | some none=>.ok .non h2
 | none=>.err else .err
def pB(fo fk fd:Sl->Hh->Res Val):Sl->Hh->Res Val:=fun δ h=>(fo δ h).bind fun x h1=>if cq h1 x=true then(fk δ h1).bind fun y h2=>(fd δ h2).bind fun z h3=>match fY h3 x y with
 | some (some v)=>.ok v h3
 | some none=>.ok z h3
 | none=>.err else .err
theorem t6(ho:SE C o fo)(hk:SE C ky fk)(hf:SE C df fd)(hM:∀ X,M2 X o "get" apos ky df cpos:=by intro _; constructor <;> rfl):SE C (.Call (.Attribute o "get" apos) [ky,df] [] cpos) (pB fo fk fd):=by
 obtain⟨to,po,so⟩:=ho;obtain⟨tk,pk,sk⟩:=hk;obtain⟨tf,pf,sf⟩:=hf;refine⟨fun W=>tDGet2 (to W) (tk W) (tf W),fun W X g=>pe_dget2 g.u1 (po W X g) (pk W X g) (pf W X g) (hM X),fun W σ δ m h G H Q en w e=>so W σ δ m h G H _ en w (aq.bind e fun x h1 m1 G1 u H1 s1 w1 r1 e1=>?_)⟩
 split at e1
 .rename_i ht;obtain⟨a,rfl,hd⟩:=isDct_ok w1 r1 ht;refine⟨a,rfl,hd,sk W σ δ m1 h1 G1 H1 _ (en.stp s1) w1 (aq.bind e1 fun y h2 m2 G2 v H2 s2 w2 r2 e2=>sf W σ δ m2 h2 G2 H2 _ (en.stp (s1.trans s2)) w2 (aq.bind e2 fun z h3 m3 G3 zv H3 s3 w3 r3 e3=>?_))⟩
  split at e3
  .rename_i v' hv;obtain⟨a',o',e4,g1,_,h3,h4⟩:=hJ w3 (Rv.stp (s2.trans s3) r1) (Rv.stp s3 r2) hv
   cases e4
   obtain⟨z,rfl,rz⟩:=h3 _ rfl;exact⟨_,g1,aq.here e3 w3 rz⟩
  .rename_i hv;obtain⟨a',o',e4,g1,_,h3,h4⟩:=hJ w3 (Rv.stp (s2.trans s3) r1) (Rv.stp s3 r2) hv
   cases e4
   have:=h4 rfl;subst this;exact⟨_,g1,aq.here e3 w3 r3⟩
  .exact e3.elim
 .exact e1.elim
def eh(h:Hh)(x:Val)(xs:List Val):Res Val:=match x,xs with
 | .str a,[y]=>match rdQ h y with
  | some ys=>match jm ys with
   | some zs=>if (zs.map (·.length)).sum + zs.length * a.length<=1000000 then .ok (.str (Txt.join a zs)) h else .err
   | none=>.err
  | none=>.err
 | _,_=>.err
def c8(h:Hh)(x:Val)(xs:List Val):Res Val:=match x,xs with
 | .str a,[.str b]=>if (b.length == 0)=false/\a.length + 2<=1000000 then .ok (.lst ((Txt.split a b).map Val.str)) h else .err
 | _,_=>.err
theorem gK{m:Rf->Addr}{hs:Rf->Prop}{G:Hp}:∀ {ns:List Str} {vs:List V},RvA p m hs G vs (ns.map Val.str)->vs=ns.map V.str
 | [],_,h=>by cases h; rfl
 | _ :: _,_,h=>by cases h with | cons h1 h2=>cases h1; rw [gK h2]; rfl
theorem jt{m:Rf->Addr}{hs:Rf->Prop}{G:Hp}:∀ {ns:List Str},RvA p m hs G (ns.map V.str) (ns.map Val.str)
 | []=>.nil
 | _ :: _=>.cons (.str _) jt
def rJoin(K:PySem.W.Frag):V->List V->Hp->VK->Prop:=fun x xs H Q=>∃ a p,∃ ys:List Str,x = .str a/\xs=[.ref p]/\(SqL K H p (ys.map V.str)\/SqT K H p (ys.map V.str))/\(ys.map (·.length)).sum + ys.length * a.length<=16777216/\Q (.str (Txt.join a ys)) H
theorem sm_join:rX p (rJoin p.K) eh:=fun m h G H u us x xs Q W σ w rx r e=>by
 unfold eh at e
 split at e
 .obtain⟨v,rfl,rv⟩:=eB r
  cases rx
  split at e
  .rename_i ys hy
   split at e
   .rename_i zs hz
    split at e
    .rename_i hl;obtain⟨a,vs,rfl,h1,h2⟩:=lI w rv hy;have:=mN hz;subst this;rw [gK h2] at h1;exact⟨_,a,zs,rfl,rfl,h1,by omega,aq.here e w (.str _)⟩
    .exact e.elim
   .exact e.elim
  .exact e.elim
 .exact e.elim
def rSplit:V->List V->Hp->VK->Prop:=fun x xs H Q=>∃ a b,x = .str a/\xs=[.str b]/\(b.length == 0)=false/\a.length + 2<=sizeLine/\rNewStrs (Txt.split a b) H Q
theorem tY:rX p rSplit c8:=fun m h G H u us x xs Q W σ w rx r e=>by
 unfold c8 at e
 split at e
 .obtain⟨v,rfl,rv⟩:=eB r
  cases rx; cases rv
  split at e
  .rename_i hl;exact⟨_,_,rfl,rfl,hl.1,aK hl.2,fun q n=>eY e w n jt⟩
  .exact e.elim
 .exact e.elim
end
end M
namespace M
open PySem PySem.Spec PyProof.Rows L2 B
def newD(md:Md)(kvs:List (Key×Val))(h:Hh):Res Val:=match md with
 | .dat=>.ok (.dct kvs) h
 | .loc=>if nlp kvs=true then .ok (.ref (.loc h.loc.length)) (h.dk (.dct kvs)) else .err
 | .glo s=>if nlp kvs=true then .ok (.ref (.glo s (h.glo s).length)) (h.bh s (.dct kvs)) else .err
def QMd(md:Md)(Q:VK):VK:=match md with
 | .dat=>fun v H'=>∃ a u,v = .ref a/\H' a=some u/\Mut (some u)/\∀ od,Q v (upd H' a (.frz od u))
 | _=>Q
def tMd(md:Md)(t:TE):TE:=fun σ H Q=>t σ H (QMd md Q)
theorem pe_md{X:Cx}{e:Expr}{t:TE}(md:Md)(h:PE X e t):PE X e (tMd md t):=by
 cases md with
 | dat =>
  refine⟨fun pins s σ H Q I hw=>thn (h.run pins s σ H _ I hw) fun v s1 ⟨x,H1,I1,r,a,u,ex,ha,mu,q⟩=>?_⟩;obtain⟨od,I2⟩:=I1.lock ha mu;exact⟨x,_,I2,r,by have:=q od; rw [ex]; rw [ex] at this; exact this⟩
 | loc=>exact h
 | glo i=>exact h
theorem uE{p:Pm}{m m1:Rf->Addr}{h h1:Hh}{G H G1 H1:Hp}{q:Addr}{vs:List (Key×V)}{xs:List (Key×Val)}{md:Md}{W:WX}{σ : L2.St}{Q:VK}(e:aq p (rV p) m h G H W σ Q (newD md xs h1))(s:Stp m h G H m1 h1 G1 H1)(n:H q=none)(w:Wo p m1 h1 G1 H1)(no:¬ Own m1 h1 q)(gn:G1 q=none)
  (ho:H1 q=some (.dK vs)) (r:Rkv p m1 h1.has G1 vs xs):QMd md Q (.ref q) H1:=by
 cases md with
 | dat =>
  refine⟨q,_,rfl,ho,trivial,fun od=>?_⟩;have ff:=fE (o:=.frz od (.dK vs)) s n w no gn;have f:=qF ff.1 n ff.2 no gn upd_same;exact e m1 _ _ _ f.1 f.2 (.dct upd_same (.of (r.mono (fun _ h=>⟨h,rfl⟩) (gc gn))))
 | loc =>
  unfold newD at e;dsimp only at e
  split at e
  .rename_i hn;have f:=je (c:=.dct xs) s n w no gn ho (fun _=>cW) (Nat.lt_irrefl _) (fun _ h=>iu h) dB hn (.dct r);have hq:upm m1 (.loc h1.loc.length) q (.loc h1.loc.length)=q:=by unfold upm; rw [if_pos rfl]
   have rr:Rv p (upm m1 (.loc h1.loc.length) q) (h1.dk (.dct xs)).has G1 (.ref (upm m1 (.loc h1.loc.length) q (.loc h1.loc.length))) (.ref (.loc h1.loc.length)):=.ref (cW.mpr (.inr rfl));rw [hq] at rr;exact e _ _ _ _ f.1 f.2 rr
  .exact e.elim
 | glo i =>
  unfold newD at e;dsimp only at e
  split at e
  .rename_i hn;have f:=je (r:=.glo i (h1.glo i).length) (h2:=h1.bh i (.dct xs)) (c:=.dct xs) s n w no gn ho (fun _=>cG) (Nat.lt_irrefl _) (fun _ h=>iw h) dC hn (.dct r);have hq:upm m1 (.glo i (h1.glo i).length) q (.glo i (h1.glo i).length)=q:=by unfold upm; rw [if_pos rfl]
   have rr:Rv p (upm m1 (.glo i (h1.glo i).length) q) (h1.bh i (.dct xs)).has G1 (.ref (upm m1 (.glo i (h1.glo i).length) q (.glo i (h1.glo i).length))) (.ref (.glo i (h1.glo i).length)):=.ref (cG.mpr (.inr rfl));rw [hq] at rr;exact e _ _ _ _ f.1 f.2 rr
  .exact e.elim
def nQ:Sl->Hh->Res (List (Key×Val)):=fun _ h=>.ok [] h
def bY(fk fv:Sl->Hh->Res Val)(fr:Sl->Hh->Res (List (Key×Val))):Sl->Hh->Res (List (Key×Val)):=fun δ h=>(fk δ h).bind fun x h1=>(fv δ h1).bind fun y h2=>(fr δ h2).bind fun ps h3=>match fP x with
 | some k=>.ok ((k,y) :: ps) h3
 | none=>.err
def kF(md:Md)(fr:Sl->Hh->Res (List (Key×Val))):Sl->Hh->Res Val:=fun δ h=>(fr δ h).bind fun kvs h1=>if kvs.length<=15 then newD md (dc [] kvs) h1 else .err
def rP(p:Pm):kc (List (Key×Val)) (List (V×V)):=fun m h G us kvs=>∃ ws:List (Key×V),us=ws.map (fun kv=>(kV kv.1,kv.2))/\Rkv p m h.has G ws kvs
def SP(C:Ct)(pos:Pos)(keys:List (Option Expr))(values:List Expr)(f:Sl->Hh->Res (List (Key×Val))):Prop:=∃ trs:WX->List (TE×TE),(∀ W X,Good C W X->PPs X pos keys values (trs W))/\Snd C.p (rP C.p) (fun W=>tPairs (trs W)) f
section
variable{C:Ct}{pos:Pos}{ks:List (Option Expr)}{vs:List Expr}{k v:Expr}{fk fv fa:Sl->Hh->Res Val}{fr:Sl->Hh->Res (List (Key×Val))}
theorem oM:SP C pos [] [] nQ:=⟨fun _=>[],fun _ _ _=>pps_nil,fun W σ δ m h G H Q en w e=>aq.here e w ⟨[],rfl,.nil⟩⟩
theorem bL(hk:SE C k fk)(hv:SE C v fv)(hr:SP C pos ks vs fr):SP C pos (some k :: ks) (v :: vs) (bY fk fv fr):=by
 obtain⟨ta,pa,sa⟩:=hk;obtain⟨tb,pb,sb⟩:=hv;obtain⟨tr,pr,sr⟩:=hr;refine⟨fun W=>(ta W,tb W) :: tr W,fun W X g=>pps_cons (pa W X g) (pb W X g) (pr W X g),fun W σ δ m h G H Q en w e=>sa W σ δ m h G H _ en w (aq.bind e fun x h1 m1 G1 u H1 s1 w1 r1 e1=>?_)⟩;refine sb W σ δ m1 h1 G1 H1 _ (en.stp s1) w1 (aq.bind e1 fun y h2 m2 G2 v H2 s2 w2 r2 e2=>?_);refine sr W σ δ m2 h2 G2 H2 _ (en.stp (s1.trans s2)) w2 (aq.bind e2 fun ps h3 m3 G3 us H3 s3 w3 r3 e3=>?_)
 split at e3
 .rename_i k hk;obtain⟨ws,rfl,r3⟩:=r3;obtain rfl:=jh r1 hk;exact aq.here e3 w3 ⟨(k,v) :: ws,rfl,.cons ⟨rfl,Rv.stp s3 r2⟩ r3⟩
 .exact e3.elim
theorem lu(md:Md)(h:SP C pos ks vs fr)(hall:ks.all (·.isSome)=true:=by rfl)(hl:ks.length=vs.length:=by rfl)(h0:ks≠[]:=by intro z; cases z)(h15:ks.length<=15:=by decide):SE C (.Dict ks vs pos) (kF md fr):=by
 obtain⟨tr,pr,sr⟩:=h;refine⟨fun W=>tMd md (tDisp (tr W)),fun W X g=>pe_md md (pe_disp (pr W X g) hall hl h0 h15),fun W σ δ m h G H Q en w e=>fun q n=>?_⟩;have no:=w.fresh n;have gn:=w.gh.free n;have om:=fE (o:=.dK []) .refl n w no gn;refine sr W σ δ m h G _ _ en om.2 ?_;unfold kF at e
 cases hr:fr δ h with
 | err=>rw [hr] at e; exact e
 | exc c fs h'=>rw [hr] at e; exact fun m' G' H' cls d s' w' x'=>e m' G' H' cls d (om.1.trans s') w' x'
 | ok kvs h1 =>
  rw [hr] at e;intro m1 G1 us H1 s1 w1 r1;obtain⟨ws,rfl,r1⟩:=r1;have e:aq C.p (rV C.p) m h G H W σ Q (if kvs.length<=15 then newD md (dc [] kvs) h1 else .err):=e
  split at e
  .rename_i hle;have eq:=s1.fr q _ upd_same no;have o1:=s1.out q (by rw [upd_same]; simp) no;refine⟨eq,ws,rfl,by rw [r1.length]; exact hle,?_⟩;have om2:=fE (o:=.dK (mergeK [] ws)) (om.1.trans s1) n w1 o1.1 (o1.2 gn);exact uE e om2.1 n om2.2 o1.1 (o1.2 gn) upd_same (ig r1 .nil)
  .exact e.elim
variable{tg e a b:Expr}{elts:List Expr}{kk:Nat}{tpos q:Pos}{fs:Sl->Hh->Res (List Val)}
def itE(it:Itm):Itm:=fun i h=>match it i h with
 | some (some x)=>some (some (.tup [.int i,x]))
 | r=>r
def wkL(h:Hh)(x:Val):Option Wk:=match x with
 | .ref r=>match h.get r with
  | some (.lst xs)=>some ⟨itC r,xs.length⟩
  | _=>none
 | x=>match rdL h x with
  | some xs=>some ⟨itD xs,xs.length⟩
  | none=>none
def wkE(h:Hh)(xs:List Val):Option Wk:=match xs with
 | [x]=>match wkL h x with
  | some k=>some ⟨itE k.it,k.n⟩
  | none=>none
 | _=>none
def kE(fs:Sl->Hh->Res (List Val)):Sl->Hh->Res Wk:=fun δ h=>(fs δ h).bind fun xs h1=>ofO (wkE h1 xs) h1
theorem tT{p:Pm}{m:Rf->Addr}{h:Hh}{G H:Hp}{a:Addr}{it:Itm}(s0:gx p (Itl p.K a) m h G H it):gx p (Ite p.K a) m h G H (itE it):=fun i m' h' G' H' s fz w=>by
 have q:=s0 i m' h' G' H' s fz w;unfold itE
 cases hi:it i h' with
 | none=>trivial
 | some o =>
  cases o with
  | none=>rw [hi] at q; exact q
  | some x =>
   rw [hi] at q;refine⟨q.1,fun u H2 y=>?_⟩;obtain⟨T,z,rfl,hT,rfl,hz⟩:=y;have gq:=q.1;obtain⟨xs,x',h1,h2⟩:=gq;have:x'=z:=by have:=hz xs h1; rw [h2] at this; cases this; rfl
   subst this;obtain⟨G2,s2,w2,r2⟩:=q.2 x' H' ⟨rfl,hz⟩;have ww:=w2.data (q:=T) (o:=.tup [.int (i:Nat),x']) hT;exact⟨_,s2.trans ww.2,ww.1,.tup (.inr ⟨upd_same,rfl⟩) (RvA.stp ww.2 (.cons (.int _) (.cons r2 .nil)))⟩
theorem wkL_src{p:Pm}{m:Rf->Addr}{h:Hh}{G H:Hp}{u:V}{x:Val}{k:Wk}(w:Wo p m h G H)(r:Rv p m h.has G u x)(hk:wkL h x=some k):∃ a xs,u = .ref a/\SqL p.K H a xs/\gx p (Itl p.K a) m h G H k.it:=by
 unfold wkL at hk
 split at hk
 .split at hk
  .rename_i xs hc
   cases hk
   obtain⟨_,_,o,h3,h4⟩:=w.cel _ _ hc
   cases r with
   | ref hh=>cases h4 with | lst h4=>exact⟨_,_,rfl,SqL.of h3,mR hh⟩
  .cases hk
 .rename_i hne
  split at hk
  .rename_i xs hx
   cases hk
   cases r with
   | lst h3 h4=>cases hx; exact⟨_,_,rfl,SqL.of (w.gh _ _ h3),gF (fun H' s=>SqL.of (s _ _ h3)) h4⟩
   | scr h3=>cases hx; exact⟨_,_,rfl,mS w.gh h3,gF (fun H' s=>mS s h3) eR⟩
   | @ref r _=>exact(hne r rfl).elim
   | _=>cases hx
  .cases hk
theorem qm(hl:C.sc.names.lookup ("enumerate" : Str)=some .globalImplicit)(hm:C.p.mg "enumerate" = none)(ha:SA C [e] fs)(hs:∀ env,starEach [e] env=[(false,eval e env)]:=by intro _; rfl):SI C (.Tuple elts kk tpos) (.Call (.Name "enumerate" q) [e] [] pos) (kE fs):=by
 obtain⟨ta,pa,sa⟩:=ha;refine⟨fun W=>iEnum C.p.K (ta W),fun W X g=>by have:=pi_enum (pos:=pos) (tpos:=tpos) (elts:=elts) (kk:=kk) (p:=q) (g.gl hl) (by rw [g.mg]; exact hm) (pa W X g) (hs _); rw [g.K] at this; exact this,fun W σ δ m h G H R en w e=>sa W σ δ m h G H _ en w (aq.bind e fun xs h1 m1 G1 us H1 s1 w1 r1 e1=>?_)⟩;obtain⟨k,hk,e2⟩:=endO e1;unfold wkE at hk
 split at hk
 .obtain⟨u,rfl,ru⟩:=eB r1
  split at hk
  .rename_i k' hk'
   cases hk
   obtain⟨a,ys,rfl,h3,src⟩:=wkL_src w1 ru hk';exact⟨a,ys,rfl,h3,(aq.here (u:=(Ite C.p.K a,H1)) e2 w1 (tT src)) rfl⟩
  .cases hk
 .cases hk
end
end M
namespace M
open PySem PySem.Spec PyProof.Rows L2 B
theorem bb_len:bootBuiltins "len" = some (.builtin "len"):=by decide +kernel
theorem bb_all:bootBuiltins "all" = some (.builtin "all"):=by decide +kernel
theorem bb_int:bootBuiltins "int" = some (.type "int"):=by decide +kernel
theorem bb_str:bootBuiltins "str" = some (.type "str"):=by decide +kernel
theorem bb_tuple:bootBuiltins "tuple" = some (.type "tuple"):=by decide +kernel
section
variable{C:Ct}{e a b o:Expr}{es:List Expr}{pos q apos:Pos}{fs:Sl->Hh->Res (List Val)}{fo:Sl->Hh->Res Val}
abbrev GN(C:Ct)(x:Str):Prop:=C.sc.names.lookup x=some .globalImplicit
theorem aZ(hl:GN C "len")(hm:C.p.mg "len" = none)(ha:SA C [e] fs)(he:∀ env,starEach [e] env=(false,eval e env) :: starEach [] env:=by intro _; rfl):SE C (.Call (.Name "len" q) [e] [] pos) (mC cz fs):=ua (fun W X g=>cr_len C.p.K g.K) sc_len hl hm bb_len ha (he:=he)
theorem lx(hl:GN C "all")(hm:C.p.mg "all" = none)(ha:SA C [e] fs)(he:∀ env,starEach [e] env=(false,eval e env) :: starEach [] env:=by intro _; rfl):SE C (.Call (.Name "all" q) [e] [] pos) (mC mD fs):=ua (fun W X g=>cr_allK C.p.K g.calm g.K) sc_all hl hm bb_all ha (he:=he)
theorem jc(hl:GN C "int")(hm:C.p.mg "int" = none)(ha:SA C [e] fs)(he:∀ env,starEach [e] env=(false,eval e env) :: starEach [] env:=by intro _; rfl):SE C (.Call (.Name "int" q) [e] [] pos) (mC i5 fs):=t7 (fun W X g=>cr_int) sc_int hl hm bb_int ha (he:=he)
theorem qt(hl:GN C "str")(hm:C.p.mg "str" = none)(ha:SA C [e] fs)(he:∀ env,starEach [e] env=(false,eval e env) :: starEach [] env:=by intro _; rfl):SE C (.Call (.Name "str" q) [e] [] pos) (mC ka fs):=t7 (fun W X g=>cr_str) sc_str hl hm bb_str ha (he:=he)
theorem ic(hl:GN C "tuple")(hm:C.p.mg "tuple" = none)(ha:SA C [e] fs)(he:∀ env,starEach [e] env=(false,eval e env) :: starEach [] env:=by intro _; rfl):SE C (.Call (.Name "tuple" q) [e] [] pos) (mC d7 fs):=t7 (fun W X g=>cl_tupF C.p.K g.K) ud hl hm bb_tuple ha (he:=he)
theorem dj(ho:SE C o fo)(ha:SA C [e] fs)(hb:∀ env,attributeBase o "join" env (eval o env)=eval o env:=by intro _; rfl) (hfew:∀ env,((backTo pos (starEach [e] env)).all (fun x=>!x.1) && (backToKw pos (keywordEach [] env)).all (fun x=>x.1.isSome)
   && decide (([e]:List Expr).length + ([]:List Keyword).length + (if ([]:List Keyword).isEmpty then 0 else 1) < 30))=true:=by intro _; rfl)
  (hline:(apos.endLine == pos.line)=true:=by rfl) (hs:∀ env,starEach [e] env=(false,eval e env) :: starEach [] env:=by intro _; rfl):SE C (.Call (.Attribute o "join" apos) [e] [] pos) (mBM tyS eh fo fs) :=
 mT PySem.F.plainAttrs_str PySem.F.slot_str_join PySem.F.type_str_join ty_S (fun W X g=>by rw [show rJoin C.p.K=rJoin X.K from by rw [g.K]]; exact mt_join) sm_join ho ha hb hfew hline hs
theorem c7(ho:SE C o fo)(ha:SA C [e] fs)(hb:∀ env,attributeBase o "split" env (eval o env)=eval o env:=by intro _; rfl) (hfew:∀ env,((backTo pos (starEach [e] env)).all (fun x=>!x.1) && (backToKw pos (keywordEach [] env)).all (fun x=>x.1.isSome)
   && decide (([e]:List Expr).length + ([]:List Keyword).length + (if ([]:List Keyword).isEmpty then 0 else 1) < 30))=true:=by intro _; rfl)
  (hline:(apos.endLine == pos.line)=true:=by rfl) (hs:∀ env,starEach [e] env=(false,eval e env) :: starEach [] env:=by intro _; rfl):SE C (.Call (.Attribute o "split" apos) [e] [] pos) (mBM tyS c8 fo fs) :=
 mT PySem.F.plainAttrs_str PySem.F.slot_str_split PySem.F.type_str_split ty_S (fun W X g=>mt_split) tY ho ha hb hfew hline hs
end
def adr:Option Value->Addr
 | some (.ref a)=>a
 | _=>0
theorem aM{p:Pm}{T:Nat->Option Df}{f:Nat}{d:Df}{x:Str}{st:Stmt}{N:List Str}(hfa:p.fa f=adr (p.mg x))(F:bA p.K p.mg x st)(S:FnScope N d.ps (defScope st))(hp:d.ps.length=d.np)(hn:N.length=d.nl)
  (hb:∀ (kV doc pm:Value) (an:Option Addr) (cdv ct:Value) (us:List Value),us.length=d.ps.length->bindArgs (PySem.W.fnOf x x (defArgs st) (defBody st) (defScope st) .none kV doc pm an cdv ct) ⟨us,[]⟩=pure (d.ps.zip us))
  (h:∀ n,aH p T n->SSs (ctx p n f x st N) (defBody st) (d.body (ao T n))):DefOk p T f d:=by
 obtain⟨f',fd,F,hm⟩:=F.ex;have e:p.fa f=f':=by rw [hfa,hm]; rfl
 rw [<- e] at F;exact⟨x,x,st,N,fd,[],F,fun _=>F.bindsN hb,S,hp,hn,h⟩
end M
namespace M
open PySem PySem.Spec PyProof.Rows L2 B He
abbrev AlX:Type:=AlD×Bool
def obsX(fa:List Fa)(fn:List DefD)(xs:List (PySem.W.Frag->Bool))(K:PySem.W.Frag):AlX:=(obsD fa fn K,xs.all fun x=>x K)
def valX(fn:List DefD):AlX:=(He.valD fn,true)
def SaysX(fa:List Fa)(fn:List DefD)(xs:List (PySem.W.Frag->Bool))(K:PySem.W.Frag):Prop:=obsX fa fn xs K=valX fn
section
variable{fa:List Fa}{fn:List DefD}{xs:List (PySem.W.Frag->Bool)}{K:PySem.W.Frag}
theorem SaysX.d(c:SaysX fa fn xs K):SaysD fa fn K:=congrArg (fun z:AlX=>z.1) c
theorem SaysX.x(c:SaysX fa fn xs K)(i:Nat){f:PySem.W.Frag->Bool}(h:xs[i]?=some f:=by rfl):f K=true :=
 List.all_eq_true.mp (congrArg (fun z:AlX=>z.2) c) f (List.mem_of_getElem? h)
end
theorem jN{p:Pm}{x:Str}{i:Int}(h:∃ t,p.mg x=some (.int i t)):hR p x (.int i):=by
 obtain⟨t,h⟩:=h;exact⟨_,.int i,h,⟨t,rfl⟩,fun _ _ _=>.int i⟩
theorem n7{p:Pm}{x:Str}{i:Str}(h:∃ t,p.mg x=some (.str i t)):hR p x (.str i):=by
 obtain⟨t,h⟩:=h;exact⟨_,.str i,h,⟨t,rfl⟩,fun _ _ _=>.str i⟩
theorem aW{K:PySem.W.Frag}{mg:Str->Option Value}{x:Str}{st:Stmt}(F:bA K mg x st):mg x=some (.ref (adr (mg x))):=by
 obtain⟨f,fd,_,hm⟩:=F.ex;rw [hm]; rfl
def nmX(l:List Str)(i:Nat):Str:=match l[i]? with
 | some x=>x
 | none=>⟨(List.replicate (i + 100) 97).toArray⟩
def nmOk(l:List Str):Bool:=decide l.Nodup && l.all fun x=>decide (x.cps.size < 100)
theorem nmX_inj{l:List Str}(h:nmOk l=true):∀ i j,nmX l i=nmX l j->i=j:=by
 unfold nmOk at h;rw [Bool.and_eq_true] at h;have h1:=of_decide_eq_true h.1;have h2:∀ x∈l,x.cps.size < 100:=fun x hx=>of_decide_eq_true (List.all_eq_true.mp h.2 x hx);intro i j e;unfold nmX at e
 cases hi:l[i]? with
 | some x =>
  rw [hi] at e
  cases hj:l[j]? with
  | some y =>
   rw [hj] at e;have e:x=y:=e;subst e;obtain⟨li,ei⟩:=List.getElem?_eq_some_iff.mp hi;obtain⟨lj,ej⟩:=List.getElem?_eq_some_iff.mp hj;exact(List.getElem_inj (h₀:=li) (h₁:=lj) h1).mp (ei.trans ej.symm)
  | none =>
   rw [hj] at e;have e:x=_:=e;have:=h2 x (List.mem_of_getElem? hi);rw [e] at this
   simp at this; omega
 | none =>
  rw [hi] at e
  cases hj:l[j]? with
  | some y =>
   rw [hj] at e;have e:_=y:=e;have:=h2 y (List.mem_of_getElem? hj);rw [<- e] at this
   simp at this; omega
  | none =>
   rw [hj] at e;have:=congrArg (fun s:Str=>s.cps.size) e
   simp at this; omega
end M
namespace M
open PySem PySem.Spec PyProof.Rows L2 B
structure wpR{α : Type}(r:Res α)(Q:α->Hh->Prop):Prop where
 of ::
 go:match r with
  | .ok a h=>Q a h
  | _=>False
structure Po where
 nx:Sl->Hh->Prop
 rt:Val->Hh->Prop:=fun _ _=>False
 bk:Sl->Hh->Prop:=fun _ _=>False
 ct:Sl->Hh->Prop:=fun _ _=>False
structure wpS(r:aD)(P:Po):Prop where
 of ::
 go:match r with
  | .nx δ h=>P.nx δ h
  | .rt v h=>P.rt v h
  | .bk δ h=>P.bk δ h
  | .ct δ h=>P.ct δ h
  | _=>False
section
variable{α β : Type}{r:Res α}{k:α->Hh->Res β}{Q Q':α->Hh->Prop}{QB:β->Hh->Prop}{δ : Sl}{h h1:Hh}{P:Po}
theorem wpR.bind(q:wpR r fun a h=>wpR (k a h) QB):wpR (r.bind k) QB:=by
 cases r with
 | ok a h=>exact q.go
 | err=>exact q.go.elim
 | exc c fs h=>exact q.go.elim
theorem wpR.mono(q:wpR r Q)(f:∀ a h,Q a h->Q' a h):wpR r Q':=by
 cases r with
 | ok a h=>exact⟨f _ _ q.go⟩
 | err=>exact q.go.elim
 | exc c fs h=>exact q.go.elim
theorem wpR.get(q:wpR r Q):∃ a h,r = .ok a h/\Q a h:=by
 cases r with
 | ok a h=>exact⟨a,h,rfl,q.go⟩
 | err=>exact q.go.elim
 | exc c fs h=>exact q.go.elim
theorem wpR.eq{a:α}(e:r = .ok a h)(q:Q a h):wpR r Q:=by rw [e]; exact⟨q⟩
theorem wpS.st{k:α->Hh->aD}(q:wpR r fun a h=>wpS (k a h) P):wpS (r.st δ k) P:=by
 cases r with
 | ok a h=>exact q.go
 | err=>exact q.go.elim
 | exc c fs h=>exact q.go.elim
theorem wpS.mono{s:aD}{P P':Po}(q:wpS s P)(f1:∀ δ h,P.nx δ h->P'.nx δ h)(f2:∀ v h,P.rt v h->P'.rt v h)(f3:∀ δ h,P.bk δ h->P'.bk δ h)(f4:∀ δ h,P.ct δ h->P'.ct δ h):wpS s P':=by
 cases s with
 | nx δ h=>exact⟨f1 _ _ q.go⟩
 | rt v h=>exact⟨f2 _ _ q.go⟩
 | bk δ h=>exact⟨f3 _ _ q.go⟩
 | ct δ h=>exact⟨f4 _ _ q.go⟩
 | err=>exact q.go.elim
 | exc c fs δ h=>exact q.go.elim
end
section
variable{δ δ':Sl}{h:Hh}{QV:Val->Hh->Prop}{QA:List Val->Hh->Prop}{QB:Bool->Hh->Prop}{P:Po}{fa fb fc fv fo:Sl->Hh->Res Val}{ft fu:Sl->Hh->Res Bool}{fs:Sl->Hh->Res (List Val)}{f g:Sl->Hh->aD}{i:Nat}{x v:Val}
theorem w_var(e:δ[i]?=some (some x))(q:QV x h):wpR (ah i δ h) QV:=by unfold ah; rw [e]; exact⟨q⟩
theorem w_K(q:QV x h):wpR (mK x δ h) QV:=⟨q⟩
theorem w_2{g:Hh->Val->Val->Res Val}(q:wpR (fa δ h) fun x h1=>wpR (fb δ h1) fun y h2=>wpR (g h2 x y) QV):wpR (m2 g fa fb δ h) QV:=.bind (q.mono fun _ _ q=>.bind q)
theorem w_1{g:Hh->Val->Res Val}(q:wpR (fa δ h) fun x h1=>wpR (g h1 x) QV):wpR (m1 g fa δ h) QV:=.bind q
theorem w_B(q:wpR (fa δ h) fun x h1=>wpR (asB x h1) QB):wpR (mB fa δ h) QB:=.bind q
theorem w_asB{b:Bool}(q:QB b h):wpR (asB (.bl b) h) QB:=⟨q⟩
theorem w_tru(q:wpR (fa δ h) fun x h1=>wpR (ofO (jk h1 x) h1) QB):wpR (gT fa δ h) QB:=.bind q
theorem sT(q:wpR (ft δ h) fun c h1=>if c=true then wpR (fu δ h1) QB else QB false h1):wpR (gV ft fu δ h) QB:=.bind (q.mono fun c h1 q=>by cases c; exact⟨q⟩; (first | exact q | exact⟨q⟩ | exact q.go | exact⟨q.go⟩ | exact q.go.elim))
theorem w_orT(q:wpR (ft δ h) fun c h1=>if c=true then QB true h1 else wpR (fu δ h1) QB):wpR (dX ft fu δ h) QB:=.bind (q.mono fun c h1 q=>by cases c; (first | exact q | exact⟨q⟩ | exact q.go | exact⟨q.go⟩ | exact q.go.elim); exact⟨q⟩)
theorem sJ(q:wpR (ft δ h) fun c h1=>QB (!c) h1):wpR (de ft δ h) QB:=.bind (q.mono fun c h1 q=>⟨q⟩)
theorem sS(q:wpR (fa δ h) fun x h1=>∃ c,jk h1 x=some c/\if c=true then wpR (fb δ h1) QV else QV x h1):wpR (jH fa fb δ h) QV:=.bind (q.mono fun x h1 ⟨c,e,q⟩=>by rw [e]; cases c <;> (first | exact q | exact⟨q⟩ | exact q.go | exact⟨q.go⟩ | exact q.go.elim))
theorem w_orV(q:wpR (fa δ h) fun x h1=>∃ c,jk h1 x=some c/\if c=true then QV x h1 else wpR (fb δ h1) QV):wpR (mOrV fa fb δ h) QV:=.bind (q.mono fun x h1 ⟨c,e,q⟩=>by rw [e]; cases c <;> (first | exact q | exact⟨q⟩ | exact q.go | exact⟨q.go⟩ | exact q.go.elim))
theorem sH(q:wpR (fa δ h) fun x h1=>∃ c,jk h1 x=some c/\QV (.bl (!c)) h1):wpR (uQ fa δ h) QV:=.bind (q.mono fun x h1 ⟨c,e,q⟩=>by rw [e]; (first | exact q | exact⟨q⟩ | exact q.go | exact⟨q.go⟩ | exact q.go.elim))
theorem w_if(q:wpR (ft δ h) fun c h1=>if c=true then wpR (fa δ h1) QV else wpR (fb δ h1) QV):wpR (mIf ft fa fb δ h) QV:=.bind (q.mono fun c h1 q=>by cases c <;> (first | exact q | exact⟨q⟩ | exact q.go | exact⟨q.go⟩ | exact q.go.elim))
theorem w_nil(q:QA [] h):wpR (ar δ h) QA:=⟨q⟩
theorem sP(q:wpR (fa δ h) fun x h1=>wpR (fs δ h1) fun xs h2=>QA (x :: xs) h2):wpR (ae fa fs δ h) QA:=.bind (q.mono fun _ _ q=>.bind (q.mono fun _ _ q=>⟨q⟩))
theorem w_tup(q:wpR (fs δ h) fun xs h1=>xs.length<=1000000/\QV (.tup xs) h1):wpR (lP fs δ h) QV:=.bind (q.mono fun xs h1 q=>by rw [if_pos q.1]; exact⟨q.2⟩)
theorem w_lst{md:Md}(q:wpR (fs δ h) fun xs h1=>xs.length<=1000000/\wpR (bJ md xs h1) QV):wpR (aV md fs δ h) QV:=.bind (q.mono fun xs h1 q=>by rw [if_pos q.1]; exact q.2)
theorem mL{xs:List Val}(q:QV (.lst xs) h):wpR (bJ .dat xs h) QV:=⟨q⟩
theorem sL{xs:List Val}(n:Val.nls xs=true)(q:QV (.ref (.loc h.loc.length)) (h.dk (.lst xs))):wpR (bJ .loc xs h) QV:=by unfold bJ; dsimp only; rw [if_pos n]; (first | exact q | exact⟨q⟩ | exact q.go | exact⟨q.go⟩ | exact q.go.elim)
theorem w_C{g:Hh->List Val->Res Val}(q:wpR (fs δ h) fun xs h1=>wpR (g h1 xs) QV):wpR (mC g fs δ h) QV:=.bind q
theorem sQ{Γ : Calls}{n:Nat}(q:wpR (fs δ h) fun xs h1=>wpR (Γ n xs h1) QV):wpR (aA Γ n fs δ h) QV:=.bind q
theorem w_ch{g g':Hh->Val->Val->Res Val}(q:wpR (fa δ h) fun x h1=>wpR (fb δ h1) fun y h2=>wpR (g h2 x y) fun z h3=>∃ b,z = .bl b/\if b=true then wpR (fc δ h3) fun w h4=>wpR (g' h4 y w) QV else QV (.bl false) h3):wpR (mCh g g' fa fb fc δ h) QV :=
 .bind (q.mono fun _ _ q=>.bind (q.mono fun _ _ q=>.bind (q.mono fun z h3 ⟨b,e,q⟩=>by subst e; cases b; (first | exact q | exact⟨q⟩ | exact q.go | exact⟨q.go⟩ | exact q.go.elim); exact .bind q)))
theorem w_bl{b:Bool}{R:Bool->Prop}(q:R b):∃ c,Val.bl b = .bl c/\R c:=⟨b,rfl,q⟩
theorem w_sl{fl fh:Sl->Hh->Res (Option Int)}(q:wpR (fa δ h) fun x h1=>wpR (fl δ h1) fun l h2=>wpR (fh δ h2) fun u h3=>wpR (j4 h3 x l u) QV):wpR (mSl fa fl fh δ h) QV:=.bind (q.mono fun _ _ q=>.bind (q.mono fun _ _ q=>.bind q))
theorem w_noP{QO:Option Int->Hh->Prop}(q:QO none h):wpR (cR δ h) QO:=⟨q⟩
theorem w_P{QO:Option Int->Hh->Prop}(q:wpR (fa δ h) fun x h1=>wpR (asP x h1) QO):wpR (mP fa δ h) QO:=.bind q
theorem w_bm{ty:Hh->Val->Bool}{g:Hh->Val->List Val->Res Val}(q:wpR (fo δ h) fun x h1=>ty h1 x=true/\wpR (fs δ h1) fun xs h2=>wpR (g h2 x xs) QV):wpR (mBM ty g fo fs δ h) QV:=.bind (q.mono fun x h1 q=>by rw [if_pos q.1]; exact .bind q.2)
theorem kr(q:wpS (f δ h) { P with nx:=fun δ1 h1=>wpS (g δ1 h1) P }):wpS (az f g δ h) P:=by
 unfold az
 cases e:f δ h with
 | nx δ1 h1=>rw [e] at q; (first | exact q | exact⟨q⟩ | exact q.go | exact⟨q.go⟩ | exact q.go.elim)
 | rt v h1=>rw [e] at q; (first | exact q | exact⟨q⟩ | exact q.go | exact⟨q.go⟩ | exact q.go.elim)
 | bk δ1 h1=>rw [e] at q; (first | exact q | exact⟨q⟩ | exact q.go | exact⟨q.go⟩ | exact q.go.elim)
 | ct δ1 h1=>rw [e] at q; (first | exact q | exact⟨q⟩ | exact q.go | exact⟨q.go⟩ | exact q.go.elim)
 | err=>rw [e] at q; (first | exact q | exact⟨q⟩ | exact q.go | exact⟨q.go⟩ | exact q.go.elim)
 | exc c fs δ1 h1=>rw [e] at q; (first | exact q | exact⟨q⟩ | exact q.go | exact⟨q.go⟩ | exact q.go.elim)
theorem s_asg(q:wpR (fa δ h) fun x h1=>P.nx (δ.set i (some x)) h1):wpS (aI fa (tgN i) δ h) P:=.st (q.mono fun _ _ q=>⟨q⟩)
theorem s_drop(q:wpR (fa δ h) fun _ h1=>P.nx δ h1):wpS (iO fa δ h) P:=.st (q.mono fun _ _ q=>⟨q⟩)
theorem s_ret(q:wpR (fa δ h) P.rt):wpS (bq fa δ h) P:=.st (q.mono fun _ _ q=>⟨q⟩)
theorem ug(q:P.nx δ h):wpS (bw δ h) P:=⟨q⟩
theorem s_if(q:wpR (ft δ h) fun c h1=>if c=true then wpS (f δ h1) P else wpS (g δ h1) P):wpS (bZ ft f g δ h) P:=.st (q.mono fun c h1 q=>by cases c <;> (first | exact q | exact⟨q⟩ | exact q.go | exact⟨q.go⟩ | exact q.go.elim))
theorem uf{fi:Sl->Hh->Res Val}(q:wpR (fv δ h) fun z h1=>wpR (fo δ h1) fun x h2=>wpR (fi δ h2) fun y h3=>∃ h4,ou h3 x y z=some h4/\P.nx δ h4):wpS (nO fo fi fv δ h) P:=.st (q.mono fun _ _ q=>.st (q.mono fun _ _ q=>.st (q.mono fun _ _ ⟨h4,e,q⟩=>by rw [e]; (first | exact q | exact⟨q⟩ | exact q.go | exact⟨q.go⟩ | exact q.go.elim))))
theorem s_par{i j:Nat}(q:wpR (fs δ h) fun xs h1=>∃ x y,xs=[x,y]/\P.nx ((δ.set i (some x)).set j (some y)) h1):wpS (mPar i j fs δ h) P:=.st (q.mono fun _ _ ⟨x,y,e,q⟩=>by subst e; (first | exact q | exact⟨q⟩ | exact q.go | exact⟨q.go⟩ | exact q.go.elim))
theorem dy{T:Nat->Option Df}{n k:Nat}{d:Df}{xs:List Val}(hT:T k=some d)(hl:xs.length=d.np)(q:wpS (d.body (ao T n) (startM d xs) h) { nx:=fun _ h1=>QV .non (h1.cut h.loc.length),rt:=fun v h1=>wpR (bP h.loc.length v h1) QV }):wpR (ao T (n + 1) k xs h) QV:=by
 unfold ao;rw [hT];dsimp only;rw [if_pos hl]
 cases e:d.body (ao T n) (startM d xs) h with
 | nx δ1 h1=>rw [e] at q; (first | exact q | exact⟨q⟩ | exact q.go | exact⟨q.go⟩ | exact q.go.elim)
 | rt v h1=>rw [e] at q; (first | exact q | exact⟨q⟩ | exact q.go | exact⟨q.go⟩ | exact q.go.elim)
 | bk δ1 h1=>rw [e] at q; (first | (first | exact q | exact⟨q⟩ | exact q.go | exact⟨q.go⟩ | exact q.go.elim) | exact⟨q⟩ | exact q.go | exact⟨q.go⟩ | exact q.go.elim)
 | ct δ1 h1=>rw [e] at q; (first | (first | exact q | exact⟨q⟩ | exact q.go | exact⟨q.go⟩ | exact q.go.elim) | exact⟨q⟩ | exact q.go | exact⟨q.go⟩ | exact q.go.elim)
 | err=>rw [e] at q; (first | (first | exact q | exact⟨q⟩ | exact q.go | exact⟨q.go⟩ | exact q.go.elim) | exact⟨q⟩ | exact q.go | exact⟨q.go⟩ | exact q.go.elim)
 | exc c fs δ1 h1=>rw [e] at q; (first | (first | exact q | exact⟨q⟩ | exact q.go | exact⟨q.go⟩ | exact q.go.elim) | exact⟨q⟩ | exact q.go | exact⟨q.go⟩ | exact q.go.elim)
theorem cut_self:h.cut h.loc.length=h:=by unfold Hh.cut; rw [List.take_length]
theorem kZ{n:Nat}(hv:v.nl=true)(q:QV v (h.cut n)):wpR (bP n v h) QV:=by unfold bP; rw [if_pos hv]; (first | exact q | exact⟨q⟩ | exact q.go | exact⟨q.go⟩ | exact q.go.elim)
theorem w_retF{n i:Nat}{xs:List Val}(hi:n<=i)(hx:h.loc[i]?=some (.lst xs))(q:QV (.lst xs) (h.cut n)):wpR (bP n (.ref (.loc i)) h) QV:=by
 unfold bP;rw [if_neg (by intro z; cases z)];dsimp only;rw [if_neg (by omega),hx]
 (first | exact q | exact⟨q⟩ | exact q.go | exact⟨q.go⟩ | exact q.go.elim)
theorem pE{A B:Prop}(a:A):if true=true then A else B:=by rw [if_pos rfl]; exact a
theorem rQ{A B:Prop}(b:B):if false=true then A else B:=by rw [if_neg (by simp)]; exact b
theorem s_for{fw:Sl->Hh->Res Wk}{tg:Val->Sl->Option Sl} (q:wpR (fw δ h) fun k h1=>∃ I:Nat->Sl->Hh->Prop,I 0 δ h1 /\
  (∀ i δ h,i < k.n->I i δ h->∃ x δ1,k.it i h=some (some x)/\tg x δ = some δ1/\wpS (f δ1 h) { P with nx:=I (i + 1),ct:=I (i + 1),bk:=P.nx })/\(∀ δ h,I k.n δ h->k.it k.n h=some none/\P.nx δ h)):wpS (ip fw tg f δ h) P:=by
 refine .st (q.mono fun k h1 ⟨I,i0,hs,hd⟩=>?_);have key:∀ n i δ h,i + n=k.n->I i δ h->wpS (forM k.it tg f n i δ h) P:=by
  intro n
  induction n with
  | zero =>
   intro i δ h hn hi;obtain rfl:i=k.n:=hn;obtain⟨e,q⟩:=hd δ h hi;unfold forM; rw [e]; (first | exact q | exact⟨q⟩ | exact q.go | exact⟨q.go⟩ | exact q.go.elim)
  | succ n ih =>
   intro i δ h hn hi;obtain⟨x,δ1,e1,e2,q⟩:=hs i δ h (by omega) hi;unfold forM;rw [e1];dsimp only;rw [e2];dsimp only
   cases e:f δ1 h with
   | nx δ2 h2=>rw [e] at q; exact ih (i + 1) δ2 h2 (by omega) q.go
   | ct δ2 h2=>rw [e] at q; exact ih (i + 1) δ2 h2 (by omega) q.go
   | bk δ2 h2=>rw [e] at q; (first | exact q | exact⟨q⟩ | exact q.go | exact⟨q.go⟩ | exact q.go.elim)
   | rt v h2=>rw [e] at q; (first | exact q | exact⟨q⟩ | exact q.go | exact⟨q.go⟩ | exact q.go.elim)
   | err=>rw [e] at q; (first | exact q | exact⟨q⟩ | exact q.go | exact⟨q.go⟩ | exact q.go.elim)
   | exc c fs δ2 h2=>rw [e] at q; (first | exact q | exact⟨q⟩ | exact q.go | exact⟨q.go⟩ | exact q.go.elim)
 exact key k.n 0 δ h1 (by omega) i0
theorem w_lc{md:Md}{vs:List Nat}{fw:Sl->Hh->Res Wk}{tg:Val->Sl->Option Sl}{fe:Sl->Hh->Res Val} (q:wpR (fw δ h) fun k h1=>k.n<=1000000/\∃ I:Nat->List Val->Hh->Prop,I 0 [] h1 /\
  (∀ i acc h,i < k.n->I i acc h->∃ x δ1,k.it i h=some (some x)/\tg x (cZ δ vs)=some δ1/\wpR (ft δ1 h) fun b h2=>if b=true then wpR (fe δ1 h2) fun y h3=>I (i + 1) (acc ++ [y]) h3 else I (i + 1) acc h2) /\
  (∀ acc h,I k.n acc h->k.it k.n h=some none/\wpR (bJ md acc h) QV)):wpR (mLc md vs fw tg ft fe δ h) QV:=by
 refine .bind (q.mono fun k h1 ⟨hk,I,i0,hs,hd⟩=>?_);rw [if_pos hk];refine .bind ?_;have key:∀ n i acc h,i + n=k.n->I i acc h->wpR (lcM k.it tg ft fe (cZ δ vs) n i h) fun ys h2=>wpR (bJ md (acc ++ ys) h2) QV:=by
  intro n
  induction n with
  | zero =>
   intro i acc h hn hi;obtain rfl:i=k.n:=hn;obtain⟨e,q⟩:=hd acc h hi;unfold lcM; rw [e];refine⟨?_⟩;show wpR (bJ md (acc ++ []) h) QV;rw [List.append_nil]; (first | exact q | exact⟨q⟩ | exact q.go | exact⟨q.go⟩ | exact q.go.elim)
  | succ n ih =>
   intro i acc h hn hi;obtain⟨x,δ1,e1,e2,q⟩:=hs i acc h (by omega) hi;unfold lcM;rw [e1];dsimp only;rw [e2];dsimp only
   cases e:ft δ1 h with
   | err=>rw [e] at q; (first | (first | exact q | exact⟨q⟩ | exact q.go | exact⟨q.go⟩ | exact q.go.elim) | exact⟨q⟩ | exact q.go | exact⟨q.go⟩ | exact q.go.elim)
   | exc c fs h2=>rw [e] at q; (first | (first | exact q | exact⟨q⟩ | exact q.go | exact⟨q.go⟩ | exact q.go.elim) | exact⟨q⟩ | exact q.go | exact⟨q.go⟩ | exact q.go.elim)
   | ok b h2 =>
    rw [e] at q
    cases b
    .exact ih (i + 1) acc h2 (by omega) q.go
    .have q:wpR (fe δ1 h2) fun y h3=>I (i + 1) (acc ++ [y]) h3:=q.go;dsimp only
     cases e3:fe δ1 h2 with
     | err=>rw [e3] at q; (first | (first | exact q | exact⟨q⟩ | exact q.go | exact⟨q.go⟩ | exact q.go.elim) | exact⟨q⟩ | exact q.go | exact⟨q.go⟩ | exact q.go.elim)
     | exc c fs h3=>rw [e3] at q; (first | (first | exact q | exact⟨q⟩ | exact q.go | exact⟨q.go⟩ | exact q.go.elim) | exact⟨q⟩ | exact q.go | exact⟨q.go⟩ | exact q.go.elim)
     | ok y h3 =>
      rw [e3] at q;refine .bind ((ih (i + 1) (acc ++ [y]) h3 (by omega) q.go).mono fun ys h4 q=>?_);refine⟨?_⟩;show wpR (bJ md (acc ++ y :: ys) h4) QV;rw [List.append_assoc] at q; (first | exact q | exact⟨q⟩ | exact q.go | exact⟨q.go⟩ | exact q.go.elim)
 have:=key k.n 0 [] h1 (by omega) i0;exact this
theorem sD(q:QB true h):wpR (dW δ h) QB:=⟨q⟩
theorem w_wk{QW:Wk->Hh->Prop}(q:wpR (fa δ h) fun x h1=>∃ k,jj h1 x=some k/\QW k h1):wpR (mWk fa δ h) QW:=.bind (q.mono fun x h1 ⟨k,e,q⟩=>by rw [e]; (first | exact q | exact⟨q⟩ | exact q.go | exact⟨q.go⟩ | exact q.go.elim))
theorem w_rng{QW:Wk->Hh->Prop}{wk:List Val->Option Wk}(q:wpR (fs δ h) fun xs h1=>∃ k,wk xs=some k/\QW k h1):wpR (nP wk fs δ h) QW:=.bind (q.mono fun x h1 ⟨k,e,q⟩=>by rw [e]; (first | exact q | exact⟨q⟩ | exact q.go | exact⟨q.go⟩ | exact q.go.elim))
theorem sN{QW:Wk->Hh->Prop}(q:wpR (fs δ h) fun xs h1=>∃ k,wkE h1 xs=some k/\QW k h1):wpR (kE fs δ h) QW:=.bind (q.mono fun x h1 ⟨k,e,q⟩=>by rw [e]; (first | exact q | exact⟨q⟩ | exact q.go | exact⟨q.go⟩ | exact q.go.elim))
theorem sE{n:Int}{R:Wk->Prop}(hn:-(2 ^ 62)<=n/\n < 2 ^ 62)(q:R ⟨itR 0 n.toNat,n.toNat⟩):∃ k,wkR [.int n]=some k/\R k:=⟨_,(if_pos hn:wkR [.int n]=_),q⟩
theorem loopD{xs:List Val}{tg:Val->Sl->Option Sl}(I:Nat->Sl->Hh->Prop)(i0:I 0 δ h)(hs:∀ i δ h x,xs[i]?=some x->I i δ h->∃ δ1,tg x δ = some δ1/\wpS (f δ1 h) { P with nx:=I (i + 1),ct:=I (i + 1),bk:=P.nx })(hd:∀ δ h,I xs.length δ h->P.nx δ h) :
  ∃ I:Nat->Sl->Hh->Prop,I 0 δ h/\(∀ i δ h,i < (Wk.mk (itD xs) xs.length).n->I i δ h->∃ x δ1,(Wk.mk (itD xs) xs.length).it i h=some (some x)/\tg x δ = some δ1/\wpS (f δ1 h) { P with nx:=I (i + 1),ct:=I (i + 1),bk:=P.nx }) /\
   (∀ δ h,I (Wk.mk (itD xs) xs.length).n δ h->(Wk.mk (itD xs) xs.length).it (Wk.mk (itD xs) xs.length).n h=some none/\P.nx δ h) :=
 ⟨I,i0,fun i δ h hi ii=>by
  have hi:i < xs.length:=hi;obtain⟨δ1,e,q⟩:=hs i δ h xs[i] (by simp [hi]) ii;exact⟨xs[i],δ1,by simp [itD,hi],e,q⟩,fun δ h ii=>⟨by simp [itD],hd δ h ii⟩⟩
theorem loopR{lo:Int}{n:Nat}{tg:Val->Sl->Option Sl}(I:Nat->Sl->Hh->Prop)(i0:I 0 δ h)(hs:∀ (i:Nat) δ h,i < n->I i δ h->∃ δ1,tg (.int (lo + i)) δ = some δ1/\wpS (f δ1 h) { P with nx:=I (i + 1),ct:=I (i + 1),bk:=P.nx })(hd:∀ δ h,I n δ h->P.nx δ h) :
  ∃ I:Nat->Sl->Hh->Prop,I 0 δ h/\(∀ i δ h,i < (Wk.mk (itR lo n) n).n->I i δ h->∃ x δ1,(Wk.mk (itR lo n) n).it i h=some (some x)/\tg x δ = some δ1/\wpS (f δ1 h) { P with nx:=I (i + 1),ct:=I (i + 1),bk:=P.nx }) /\
   (∀ δ h,I (Wk.mk (itR lo n) n).n δ h->(Wk.mk (itR lo n) n).it (Wk.mk (itR lo n) n).n h=some none/\P.nx δ h) :=
 ⟨I,i0,fun i δ h hi ii=>by
  have hi:i < n:=hi;obtain⟨δ1,e,q⟩:=hs i δ h hi ii;exact⟨.int (lo + i),δ1,by simp [itR,hi],e,q⟩,fun δ h ii=>⟨by simp [itR],hd δ h ii⟩⟩
theorem cn{A B c:Prop}[Decidable c](h1:c->A)(h2:¬ c->B):if decide c=true then A else B:=by
 by_cases h:c
 .rw [decide_eq_true h]; exact pE (h1 h)
 .rw [decide_eq_false h]; exact rQ (h2 h)
theorem ite_b{A B:Prop}{c:Bool}(h1:c=true->A)(h2:c=false->B):if c=true then A else B:=by
 cases c
 .exact rQ (h2 rfl)
 .exact pE (h1 rfl)
theorem o_mul{a b:Int}(hm:isMul a b=true)(q:QV (.int (a * b)) h):wpR (dH h (.int a) (.int b)) QV:=by unfold dH; dsimp only; rw [if_pos hm]; (first | exact q | exact⟨q⟩ | exact q.go | exact⟨q.go⟩ | exact q.go.elim)
theorem qO{a b:Int}(h1:-(2 ^ 64) < a)(h2:a < 2 ^ 64):isMul a b=true:=decide_eq_true (.inl ⟨h1,h2⟩)
theorem qN{a b:Int}(h1:-(2 ^ 64) < b)(h2:b < 2 ^ 64):isMul a b=true:=decide_eq_true (.inr ⟨h1,h2⟩)
theorem o_mod{a b:Int}(hm:0 < b)(q:QV (.int (a % b)) h):wpR (cN h (.int a) (.int b)) QV:=by unfold cN; dsimp only; rw [if_pos hm]; (first | exact q | exact⟨q⟩ | exact q.go | exact⟨q.go⟩ | exact q.go.elim)
theorem o_div{a b:Int}(hm:0 < b/\b < 18446744073709551616)(q:QV (.int (a / b)) h):wpR (gO h (.int a) (.int b)) QV:=by unfold gO; dsimp only; rw [if_pos hm]; (first | exact q | exact⟨q⟩ | exact q.go | exact⟨q.go⟩ | exact q.go.elim)
theorem jC{a b:Int}(hm:0<=b/\(Builtin.Int.intBits a:Int) * b<=2 ^ 27)(q:QV (.int (a ^ b.toNat)) h):wpR (aQ h (.int a) (.int b)) QV:=by unfold aQ; dsimp only; rw [if_pos hm]; (first | exact q | exact⟨q⟩ | exact q.go | exact⟨q.go⟩ | exact q.go.elim)
theorem o_add{a b:Int}(q:QV (.int (a + b)) h):wpR (aE h (.int a) (.int b)) QV:=⟨q⟩
theorem o_sub{a b:Int}(q:QV (.int (a - b)) h):wpR (eS h (.int a) (.int b)) QV:=⟨q⟩
theorem o_lt{a b:Int}(q:QV (.bl (decide (a < b))) h):wpR (nq h (.int a) (.int b)) QV:=⟨q⟩
theorem o_le{a b:Int}(q:QV (.bl (decide (a<=b))) h):wpR (gN h (.int a) (.int b)) QV:=⟨q⟩
theorem o_gt{a b:Int}(q:QV (.bl (decide (b < a))) h):wpR (nu h (.int a) (.int b)) QV:=⟨q⟩
theorem o_ge{a b:Int}(q:QV (.bl (decide (b<=a))) h):wpR (uG h (.int a) (.int b)) QV:=⟨q⟩
theorem o_eqI{a b:Int}(q:QV (.bl (decide (a=b))) h):wpR (eU h (.int a) (.int b)) QV:=⟨q⟩
theorem o_eqS{a b:Str}(q:QV (.bl (decide (a=b))) h):wpR (eU h (.str a) (.str b)) QV:=⟨q⟩
theorem o_neS{a b:Str}(q:QV (.bl (!decide (a=b))) h):wpR (ik h (.str a) (.str b)) QV:=⟨q⟩
theorem o_is(q:QV (.bl (isNon x)) h):wpR (j5 h x .non) QV:=⟨q⟩
theorem kz{xs:List Val}{j:Int}(e:atI xs j=some v)(q:QV v h):wpR (au h (.lst xs) (.int j)) QV:=by
 show wpR (match atI xs j with | some v=>.ok v h | none=>.err) QV;rw [e]; (first | exact q | exact⟨q⟩ | exact q.go | exact⟨q.go⟩ | exact q.go.elim)
theorem o_ixT{xs:List Val}{j:Int}(e:atI xs j=some v)(q:QV v h):wpR (au h (.tup xs) (.int j)) QV:=by
 show wpR (match atI xs j with | some v=>.ok v h | none=>.err) QV;rw [e]; (first | exact q | exact⟨q⟩ | exact q.go | exact⟨q.go⟩ | exact q.go.elim)
theorem o_get{r:Rf}{kvs:List (Key×Val)}{s:Str}(hr:h.get r=some (.dct kvs))(e:cD kvs (.inr s)=some v)(q:QV v h):wpR (au h (.ref r) (.str s)) QV:=by
 have hk:rdK h (.ref r)=some kvs:=fD hr;have hd:cq h (.ref r)=true:=by unfold cq; rw [hk]; rfl
 unfold au;rw [if_pos hd];unfold jz fY;rw [hk];show wpR (match (fP (.str s)).map (cD kvs) with | some (some v)=>.ok v h | _=>.err) QV;show wpR (match some (cD kvs (.inr s)) with | some (some v)=>.ok v h | _=>.err) QV;rw [e]; (first | exact q | exact⟨q⟩ | exact q.go | exact⟨q.go⟩ | exact q.go.elim)
theorem o_put{r:Rf}{kvs:List (Key×Val)}{s:Str}{R:Hh->Prop}(hr:h.get r=some (.dct kvs))(hn:v.nl=true)(hl:kvs.length < 1000000)(q:R (h.set r (.dct (jx kvs (.inr s) v)))):∃ h4,ou h (.ref r) (.str s) v=some h4/\R h4:=by
 refine⟨_,?_,q⟩;unfold ou;dsimp only;rw [hr];dsimp only;show(if v.nl=true/\kvs.length < 1000000 then some _ else none)=_;rw [if_pos ⟨hn,hl⟩]
theorem uM{r:Rf}{ys:List Val}(hr:h.get r=some (.lst ys))(hn:v.nl=true)(hl:ys.length < 1000000)(q:QV .non (h.set r (.lst (ys ++ [v])))):wpR (cm h (.ref r) [v]) QV:=by
 unfold cm;dsimp only;rw [hr];dsimp only;rw [if_pos ⟨hn,hl⟩]; (first | exact q | exact⟨q⟩ | exact q.go | exact⟨q.go⟩ | exact q.go.elim)
theorem o_tyL{r:Rf}{ys:List Val}(hr:h.get r=some (.lst ys)):tyL h (.ref r)=true:=by
 have:rdL h (.ref r)=some ys:=by show(match h.get r with | some (.lst xs)=>some xs | _=>none)=_; rw [hr]
 unfold tyL; rw [this]; rfl
end
end M
namespace M
open PySem PySem.Spec PyProof.Rows L2 B
section
variable{r:Res Val}{rb:Res Bool}{ra:Res (List Val)}{ro:Res (Option Int)}{rw:Res Wk}{s:aD}{P:Po}{QV:Val->Hh->Prop}{QB:Bool->Hh->Prop}{QA:List Val->Hh->Prop}{QO:Option Int->Hh->Prop}{QW:Wk->Hh->Prop}
theorem kV(q:wpR r QV):wpR r QV:=q
theorem kT(q:wpR rb QB):wpR rb QB:=q
theorem kA(q:wpR ra QA):wpR ra QA:=q
theorem kO(q:wpR ro QO):wpR ro QO:=q
theorem kW(q:wpR rw QW):wpR rw QW:=q
theorem kS(q:wpS s P):wpS s P:=q
end
section
variable{QV:Val->Hh->Prop}{QB:Bool->Hh->Prop}{QA:List Val->Hh->Prop}{QO:Option Int->Hh->Prop}{P:Po}{δ : Sl}{h:Hh}{x y v:Val}
theorem w_ofO{α : Type}{o:Option α}{a:α}{Q:α->Hh->Prop}(e:o=some a)(q:Q a h):wpR (ofO o h) Q:=by rw [e]; exact⟨q⟩
theorem sR{i:Int}(q:QO (some i) h):wpR (asP (.int i) h) QO:=⟨q⟩
theorem p_nx{a c d:Sl->Hh->Prop}{b:Val->Hh->Prop}(q:a δ h):(Po.mk a b c d).nx δ h:=q
theorem p_rt{a c d:Sl->Hh->Prop}{b:Val->Hh->Prop}(q:b v h):(Po.mk a b c d).rt v h:=q
theorem k7{r:Res Val}(R:Val->Hh->Prop)(q:wpR r R)(k:∀ v h,R v h->QV v h):wpR r QV:=q.mono k
theorem ui{s:aD}(R:Sl->Hh->Prop)(q:wpS s { P with nx:=R })(k:∀ δ h,R δ h->P.nx δ h):wpS s P:=q.mono k (fun _ _ h=>h) (fun _ _ h=>h) (fun _ _ h=>h)
theorem uh{f:Sl->Hh->aD}(q:wpS (f δ h) { P with nx:=fun δ' h'=>δ' = δ/\h'=h })(k:P.nx δ h):wpS (f δ h) P:=q.mono (fun _ _ ⟨e1,e2⟩=>by rw [e1,e2]; exact k) (fun _ _ h=>h) (fun _ _ h=>h) (fun _ _ h=>h)
theorem kPnx(q:P.nx δ h):P.nx δ h:=q
theorem kPrt(q:P.rt v h):P.rt v h:=q
theorem eg{ft:Sl->Hh->Res Bool}{f g:Sl->Hh->aD}{b:Bool}(t:wpR (ft δ h) fun c h'=>c=b/\h'=h)(q1:b=true->wpS (f δ h) P)(q2:b=false->wpS (g δ h) P):wpS (bZ ft f g δ h) P:=s_if (t.mono fun c h' ⟨e1,e2⟩=>by
 subst e1 e2
 cases c
 .exact q2 rfl
 .exact q1 rfl)
theorem s_ifF{ft:Sl->Hh->Res Bool}{f g:Sl->Hh->aD}(t:wpR (ft δ h) fun c h'=>c=false/\wpS (g δ h') P):wpS (bZ ft f g δ h) P:=s_if (t.mono fun c h' ⟨e1,q⟩=>by subst e1; exact q)
theorem mM{ft:Sl->Hh->Res Bool}{fa fb:Sl->Hh->Res Val}{b:Bool}(t:wpR (ft δ h) fun c h'=>c=b/\h'=h)(q1:b=true->wpR (fa δ h) QV)(q2:b=false->wpR (fb δ h) QV):wpR (mIf ft fa fb δ h) QV:=w_if (t.mono fun c h' ⟨e1,e2⟩=>by
 subst e1 e2
 cases c
 .exact q2 rfl
 .exact q1 rfl)
theorem if_nt{A B:Prop}(b:B):if (!true)=true then A else B:=b
theorem if_nf{A B:Prop}(a:A):if (!false)=true then A else B:=a
theorem w_xy{R:Val->Val->Prop}(q:R x y):∃ a b,[x,y]=[a,b]/\R a b:=⟨x,y,rfl,q⟩
theorem k_le{xs:List Val}{n:Nat}{A:Prop}(e:xs.length<=n)(a:A):xs.length<=n/\A:=⟨e,a⟩
theorem nW(q:wpR (au h x y) QV):wpR (au h x y) QV:=q
theorem uY{xs:List Val}(q:wpR (cz h xs) QV):wpR (cz h xs) QV:=q
theorem nX{xs:List Val}(q:wpR (d7 h xs) QV):wpR (d7 h xs) QV:=q
theorem qM{T:Ity}(q:wpR (eT T h x) QV):wpR (eT T h x) QV:=q
theorem qL(q:wpR (aQ h x y) QV):wpR (aQ h x y) QV:=q
theorem dI{xs:List Val}{i:Int}(h0:0<=i)(h1:i < xs.length)(q:∀ v,v∈xs->xs[i.toNat]?=some v->QV v h):wpR (au h (.lst xs) (.int i)) QV:=by
 obtain⟨v,e,hv,hg⟩:=pT (xs:=xs) (i:=i) (by intro z; subst z; simp at h1; omega) h0 h1;exact kz e (q v hv hg)
theorem o_big(q:∀ b:Int,0 < b->QV (.int b) h):wpR (m2 aQ (m2 aQ (m2 aQ (mK (.int 10)) (mK (.int 50))) (mK (.int 60))) (mK (.int 10)) δ h) QV :=
 w_2 (w_2 (w_2 (w_K (w_K (jC (by decide +kernel) (w_K (jC (by decide +kernel) (w_K (jC (by decide +kernel) (q _ (by decide +kernel)))))))))))
theorem qH(q:QV (.int 1000000) h):wpR (aQ h (.int 10) (.int 6)) QV:=jC (by decide +kernel) q
theorem qG(q:QV (.int 1000000000) h):wpR (aQ h (.int 10) (.int 9)) QV:=jC (by decide +kernel) q
theorem nB(q:QV (.int 10000000000) h):wpR (aQ h (.int 10) (.int 10)) QV:=jC (by decide +kernel) q
theorem nA(q:QV (.int 1000000000000000000) h):wpR (aQ h (.int 10) (.int 18)) QV:=jC (by decide +kernel) q
theorem any_ints{f:Int}:∀ {ds:List Int},((ds.map Val.int).any fun z=>eqM z (.int f))=decide (f∈ds)
 | []=>rfl
 | d :: ds=>by
  rw [List.map_cons,List.any_cons,any_ints (ds:=ds)];show((d == f) || decide (f∈ds))=_
  by_cases hd:d=f
  .subst hd; simp
  .have h1:(d == f)=false:=by simpa using hd
   rw [h1,Bool.false_or];have h2:¬ f=d:=fun z=>hd z.symm
   simp only [List.mem_cons,h2,false_or]
theorem oz{f:Str}:∀ {ds:List Str},((ds.map Val.str).any fun z=>eqM z (.str f))=decide (f∈ds)
 | []=>rfl
 | d :: ds=>by
  rw [List.map_cons,List.any_cons,oz (ds:=ds)];show((d == f) || decide (f∈ds))=_
  by_cases hd:d=f
  .subst hd; simp
  .have h1:(d == f)=false:=by simpa using hd
   rw [h1,Bool.false_or];have h2:¬ f=d:=fun z=>hd z.symm
   simp only [List.mem_cons,h2,false_or]
theorem all_ints{ds:List Int}:(ds.map Val.int).all cC=true:=by simp [cC]
theorem all_strs{ds:List Str}:(ds.map Val.str).all cC=true:=by simp [cC]
theorem in_seq{xs:List Val}{b:Bool}(neg:Bool)(hy:y = .lst xs\/y = .tup xs\/y = .kt xs)(f:cC x=true)(fa:xs.all cC=true)(e:(xs.any fun z=>eqM z x)=b):cO neg inU h x y = .ok (.bl (if neg=true then !b else b)) h:=by
 have hd:cq h y=false:=by rcases hy with rfl | rfl | rfl <;> rfl
 have hq:rdQ h y=some xs:=by rcases hy with rfl | rfl | rfl <;> rfl
 have hs:inS h x y=some b:=by
  rcases hy with rfl | rfl | rfl
  all_goals
   unfold inS;dsimp only;rw [hq];dsimp only;rw [f,fa,e]
   rfl
 unfold cO inU;rw [if_neg (by rw [hd]; simp),hs]
theorem pw{f:Int}{xs:List Val}(ds:List Int)(e:xs=ds.map .int)(hy:y = .lst xs\/y = .tup xs\/y = .kt xs)(q:QV (.bl (!decide (f∈ds))) h):wpR (fF h (.int f) y) QV:=by subst e; exact wpR.eq (in_seq true hy rfl all_ints any_ints) q
theorem o_getK{r:Rf}{kvs:List (Key×Val)}{k:Key}(hr:h.get r=some (.dct kvs))(ek:fP x=some k)(e:cD kvs k=some v)(q:QV v h):wpR (au h (.ref r) x) QV:=by
 have hk:rdK h (.ref r)=some kvs:=fD hr;have hd:cq h (.ref r)=true:=by unfold cq; rw [hk]; rfl
 unfold au;rw [if_pos hd];unfold jz fY;rw [hk];dsimp only;rw [ek];show wpR (match some (cD kvs k) with | some (some v)=>.ok v h | _=>.err) QV;rw [e]; exact⟨q⟩
theorem o_ixR{r:Rf}{xs:List Val}{j:Int}(hr:h.get r=some (.lst xs))(e:atI xs j=some v)(q:QV v h):wpR (au h (.ref r) (.int j)) QV:=by
 have hd:cq h (.ref r)=false:=by unfold cq rdK uv; dsimp only; rw [hr]; rfl
 unfold au;rw [if_neg (by rw [hd]; simp)];unfold opIx rdQ;show wpR (match rdM h (.ref r) with | some xs=>(match atI xs j with | some v=>Res.ok v h | none=>.err) | none=>.err) QV;have:rdM h (.ref r)=some xs:=by show(match h.get r with | some (.lst xs)=>some xs | _=>none)=_; rw [hr]
 rw [this];show wpR (match atI xs j with | some v=>Res.ok v h | none=>.err) QV;rw [e]; exact⟨q⟩
theorem o_lenR{r:Rf}{xs:List Val}(hr:h.get r=some (.lst xs))(q:QV (.int xs.length) h):wpR (cz h [.ref r]) QV:=by
 have:rdM h (.ref r)=some xs:=by show(match h.get r with | some (.lst xs)=>some xs | _=>none)=_; rw [hr]
 refine wpR.eq ?_ q;show(match rdM h (.ref r) with | some ys=>Res.ok (Val.int ys.length) h | none=>match h.get r with | some (.dct kvs)=>.ok (.int kvs.length) h | _=>.err)=_;rw [this]
theorem wk_ref{r:Rf}{xs:List Val}{R:Wk->Prop}(hr:h.get r=some (.lst xs))(q:R ⟨itC r,xs.length⟩):∃ k,jj h (.ref r)=some k/\R k:=by
 refine⟨_,?_,q⟩;unfold jj; dsimp only; rw [hr]
theorem da{xs ys:List Val}(hl:xs.length + ys.length<=1000000)(q:QV (.lst (xs ++ ys)) h):wpR (aE h (.lst xs) (.lst ys)) QV:=wpR.eq (if_pos hl:(if xs.length + ys.length<=1000000 then Res.ok (Val.lst (xs ++ ys)) h else .err)=_) q
theorem pA{xs ys:List Val}(hl:xs.length + ys.length<=1000000)(q:QV (.tup (xs ++ ys)) h):wpR (aE h (.tup xs) (.tup ys)) QV:=wpR.eq (if_pos hl:(if xs.length + ys.length<=1000000 then Res.ok (Val.tup (xs ++ ys)) h else .err)=_) q
theorem dA{a b:Str}(hl:a.length + b.length<=1000000)(q:QV (.str (a ++ b)) h):wpR (aE h (.str a) (.str b)) QV:=wpR.eq (if_pos hl:(if a.length + b.length<=1000000 then Res.ok (Val.str (a ++ b)) h else .err)=_) q
theorem uJ{b:Bool}(q:QV (.int (if b=true then 1 else 0)) h):wpR (i5 h [.bl b]) QV:=⟨q⟩
theorem uV{b:Bool}{R:Bool->Prop}(e:jk h x=some b)(q:R b):∃ c,jk h x=some c/\R c:=⟨b,e,q⟩
theorem uU{b:Wk}{R:Wk->Prop}(e:jj h x=some b)(q:R b):∃ c,jj h x=some c/\R c:=⟨b,e,q⟩
theorem k_wkE{b:Wk}{R:Wk->Prop}{xs:List Val}(e:wkE h xs=some b)(q:R b):∃ c,wkE h xs=some c/\R c:=⟨b,e,q⟩
theorem nJ{a0:Val}{as:List Val}(q:QV a0 h):wpR (au h (.lst (a0 :: as)) (.int 0)) QV:=kz (atI_nat (j:=0) rfl) q
theorem nH{a0 a1:Val}{as:List Val}(q:QV a1 h):wpR (au h (.lst (a0 :: a1 :: as)) (.int 1)) QV:=kz (atI_nat (j:=1) rfl) q
theorem nG{a0 a1 a2:Val}{as:List Val}(q:QV a2 h):wpR (au h (.lst (a0 :: a1 :: a2 :: as)) (.int 2)) QV:=kz (atI_nat (j:=2) rfl) q
theorem nE{a0 a1 a2 a3:Val}{as:List Val}(q:QV a3 h):wpR (au h (.lst (a0 :: a1 :: a2 :: a3 :: as)) (.int 3)) QV:=kz (atI_nat (j:=3) rfl) q
theorem nD{a0 a1 a2 a3 a4:Val}{as:List Val}(q:QV a4 h):wpR (au h (.lst (a0 :: a1 :: a2 :: a3 :: a4 :: as)) (.int 4)) QV:=kz (atI_nat (j:=4) rfl) q
theorem nC{a0 a1 a2 a3 a4:Val}{as:List Val}(q:QV a4 h):wpR (au h (.tup (a0 :: a1 :: a2 :: a3 :: a4 :: as)) (.int 4)) QV:=o_ixT (atI_nat (j:=4) rfl) q
def tpk(c:Val)(s l:Int):List (Key×Val):=match c with
 | .tup [a,b]=>[(.inr "cells",a),(.inr "rests",b),(.inr "spot",.int s),(.inr "left",.int l)]
 | c=>[(.inr "cells",c),(.inr "spot",.int s),(.inr "left",.int l)]
theorem qb{c:Val}{s l:Int}:(tpk c s l).length < 1000000:=by unfold tpk; split <;> exact Nat.le_of_ble_eq_true rfl
theorem tn{c:Val}{s l:Int}:cD (tpk c s l) (.inr "left")=some (.int l):=by unfold tpk; split <;> rfl
theorem th{c:Val}{s l:Int}:cD (tpk c s l) (.inr "spot")=some (.int s):=by unfold tpk; split <;> rfl
theorem tm{c:Val}{s l x:Int}:jx (tpk c s l) (.inr "left") (.int x)=tpk c s x:=by unfold tpk; split <;> rfl
theorem tj{c:Val}{s l x:Int}:jx (tpk c s l) (.inr "spot") (.int x)=tpk c x l:=by unfold tpk; split <;> rfl
def hT(c:Val)(s l:Int)(g:Nat->List (Option Cel))(L:List Cel):Hh:=⟨fun i=>if i=0 then [some (.dct (tpk c s l))] else g i,L⟩
abbrev T0:Val:=.ref (.glo 0 0)
variable{c:Val}{s l:Int}{g:Nat->List (Option Cel)}{L:List Cel}
theorem t_get:(hT c s l g L).get (.glo 0 0)=some (.dct (tpk c s l)):=rfl
theorem tG(q:QV (.int l) (hT c s l g L)):wpR (au (hT c s l g L) T0 (.str "left")) QV:=o_get t_get tn q
theorem tF(q:QV (.int s) (hT c s l g L)):wpR (au (hT c s l g L) T0 (.str "spot")) QV:=o_get t_get th q
theorem oI{xs:List Val}(q:QV (.lst xs) (hT (.lst xs) s l g L)):wpR (au (hT (.lst xs) s l g L) T0 (.str "cells")) QV:=wpR.eq rfl q
theorem t_set{s' l':Int}:(hT c s l g L).set (.glo 0 0) (.dct (tpk c s' l'))=hT c s' l' g L:=by
 unfold Hh.set hT upg;dsimp only
 congr 1
 funext i
 by_cases e:i=0
 .subst e; rfl
 .simp only [if_neg e]
theorem tE{x:Int}{R:Hh->Prop}(q:R (hT c s x g L)):∃ h4,ou (hT c s l g L) T0 (.str "left") (.int x)=some h4/\R h4:=o_put (kvs:=tpk c s l) rfl rfl qb (by rw [tm,t_set]; exact q)
theorem tD{x:Int}{R:Hh->Prop}(q:R (hT c x l g L)):∃ h4,ou (hT c s l g L) T0 (.str "spot") (.int x)=some h4/\R h4:=o_put (kvs:=tpk c s l) rfl rfl qb (by rw [tj,t_set]; exact q)
theorem sF(hv:v.nl=true)(q:QV v h):wpR (bP h.loc.length v h) QV:=kZ hv (by rw [cut_self]; exact q)
theorem ji{c':Val}{s' l':Int}{M:List Cel}{g':Nat->List (Option Cel)}:(hT c' s' l' g' (L ++ M)).cut (hT c s l g L).loc.length=hT c' s' l' g' L:=by unfold Hh.cut hT; dsimp only; rw [List.take_left]
theorem hT_cut{c':Val}{s' l':Int}{g':Nat->List (Option Cel)}:(hT c' s' l' g' L).cut (hT c s l g L).loc.length=hT c' s' l' g' L:=by unfold Hh.cut hT; dsimp only; rw [List.take_length]
theorem eE{c':Val}{s' l':Int}{g':Nat->List (Option Cel)}(hv:v.nl=true)(q:QV v (hT c' s' l' g' L)):wpR (bP (hT c s l g L).loc.length v (hT c' s' l' g' L)) QV:=kZ hv (by rw [hT_cut]; exact q)
theorem i7{c':Val}{s' l':Int}{M:List Cel}{g':Nat->List (Option Cel)}(hv:v.nl=true)(q:QV v (hT c' s' l' g' L)):wpR (bP (hT c s l g L).loc.length v (hT c' s' l' g' (L ++ M))) QV:=kZ hv (by rw [ji]; exact q)
theorem p4{c':Val}{s' l':Int}{xs:List Val}{M:List Cel}{g':Nat->List (Option Cel)}(q:QV (.lst xs) (hT c' s' l' g' L)):wpR (bP (hT c s l g L).loc.length (.ref (.loc L.length)) (hT c' s' l' g' (L ++ .lst xs :: M))) QV :=
 w_retF (xs:=xs) (Nat.le_refl _) (by show(L ++ .lst xs :: M)[L.length]?=_; simp) (by rw [ji]; exact q)
theorem hV{xs:List Val}(n:Val.nls xs=true)(q:QV (.ref (.loc L.length)) (hT c s l g (L ++ [.lst xs]))):wpR (bJ .loc xs (hT c s l g L)) QV:=sL n q
theorem set_mid{α : Type}{M:List α}{x y:α}:∀ {L:List α},(L ++ x :: M).set L.length y=L ++ y :: M
 | []=>rfl
 | z :: L=>by show z :: (L ++ x :: M).set L.length y=_; rw [set_mid]; rfl
theorem gw{α : Type}{M:List α}{x:α}{L:List α}:(L ++ x :: M)[L.length]?=some x:=by simp
theorem t_tyL{ys:List Val}{M:List Cel}{R:Prop}(q:R):tyL (hT c s l g (L ++ .lst ys :: M)) (.ref (.loc L.length))=true/\R:=⟨o_tyL (ys:=ys) gw,q⟩
theorem kl{ys:List Val}{M:List Cel}(hn:v.nl=true)(hl:ys.length < 1000000)(q:QV .non (hT c s l g (L ++ .lst (ys ++ [v]) :: M))):wpR (cm (hT c s l g (L ++ .lst ys :: M)) (.ref (.loc L.length)) [v]) QV:=by
 refine uM (ys:=ys) gw hn hl ?_;have e:(hT c s l g (L ++ .lst ys :: M)).set (.loc L.length) (.lst (ys ++ [v]))=hT c s l g (L ++ .lst (ys ++ [v]) :: M):=by unfold Hh.set hT; dsimp only; rw [set_mid]
 rw [e]; exact q
theorem eF{α : Type}{md:Md}{vs:List Nat}{tg:Val->Sl->Option Sl}{fe:Sl->Hh->Res Val}{ft:Sl->Hh->Res Bool}{fw:Sl->Hh->Res Wk}(tv:α->Val)(ts:List α)(c:α->Bool)(g:α->Val)(hw:wpR (fw δ h) fun k h1=>k=⟨itD (ts.map tv),(ts.map tv).length⟩/\h1=h)(hl:ts.length<=1000000)
  (hs:∀ t∈ts,∃ δ1,tg (tv t) (cZ δ vs)=some δ1/\wpR (ft δ1 h) fun b h2=>h2=h/\b=c t/\(c t=true->wpR (fe δ1 h) fun y h3=>h3=h/\y=g t)) (q:wpR (bJ md ((ts.filter c).map g) h) QV):wpR (mLc md vs fw tg ft fe δ h) QV:=by
 refine w_lc (hw.mono ?_);rintro k h1 ⟨rfl,rfl⟩;refine⟨by show(ts.map tv).length<=_; simpa using hl,fun i acc h2=>h2=h1/\acc=((ts.take i).filter c).map g,⟨rfl,by simp⟩,?_,?_⟩
 .rintro i acc h2 hi ⟨rfl,rfl⟩;have hi:i < ts.length:=by simpa using (show i < (ts.map tv).length from hi)
  obtain⟨δ1,e1,q1⟩:=hs ts[i] (List.getElem_mem hi);refine⟨tv ts[i],δ1,by simp [itD,hi],e1,q1.mono ?_⟩;rintro b h3 ⟨rfl,rfl,q2⟩;have et:ts.take (i + 1)=ts.take i ++ [ts[i]]:=by rw [List.take_succ,List.getElem?_eq_getElem hi]; rfl
  cases hc:c ts[i]
  .refine rQ ⟨rfl,?_⟩;rw [et,List.filter_append,List.filter_cons_of_neg (by simp [hc])]; simp
  .refine pE ((q2 hc).mono ?_);rintro y h4 ⟨rfl,rfl⟩;refine⟨rfl,?_⟩;rw [et,List.filter_append,List.filter_cons_of_pos hc]; simp
 .rintro acc h2 ⟨rfl,rfl⟩;refine⟨by simp [itD],?_⟩;have:ts.take (Wk.n ⟨itD (ts.map tv),(ts.map tv).length⟩)=ts:=by show ts.take (ts.map tv).length=ts; simp
  rw [this]; exact q
theorem w_wkN{n:Nat}{R:Wk->Prop}(hn:n<=1000000000)(q:R ⟨itR 0 n,n⟩):∃ k,wkR [.int n]=some k/\R k:=sE (by omega) (by simpa using q)
theorem loopN{f:Sl->Hh->aD}{n:Nat}{tg:Val->Sl->Option Sl}{δ : Sl}{h:Hh}{P:Po}(I:Nat->Sl->Hh->Prop)(i0:I 0 δ h)(hs:∀ (i:Nat) δ h,i < n->I i δ h->∃ δ1,tg (.int i) δ = some δ1/\wpS (f δ1 h) { P with nx:=I (i + 1),ct:=I (i + 1),bk:=P.nx })(hd:∀ δ h,I n δ h->P.nx δ h) :
  ∃ I:Nat->Sl->Hh->Prop,I 0 δ h/\(∀ i δ h,i < (Wk.mk (itR 0 n) n).n->I i δ h->∃ x δ1,(Wk.mk (itR 0 n) n).it i h=some (some x)/\tg x δ = some δ1/\wpS (f δ1 h) { P with nx:=I (i + 1),ct:=I (i + 1),bk:=P.nx }) /\
   (∀ δ h,I (Wk.mk (itR 0 n) n).n δ h->(Wk.mk (itR 0 n) n).it (Wk.mk (itR 0 n) n).n h=some none/\P.nx δ h) :=
 loopR I i0 (fun i δ h hi ii=>by rw [Int.zero_add]; exact hs i δ h hi ii) hd
theorem loopM{α : Type}{tv:α->Val}{ts:List α}{f:Sl->Hh->aD}{tg:Val->Sl->Option Sl}{δ : Sl}{h:Hh}{P:Po}(I:Nat->Sl->Hh->Prop)(i0:I 0 δ h)(hs:∀ i δ h t,ts[i]?=some t->I i δ h->∃ δ1,tg (tv t) δ = some δ1/\wpS (f δ1 h) { P with nx:=I (i + 1),ct:=I (i + 1),bk:=P.nx })(hd:∀ δ h,I ts.length δ h->P.nx δ h) :
  ∃ I:Nat->Sl->Hh->Prop,I 0 δ h/\(∀ i δ h,i < (Wk.mk (itD (ts.map tv)) (ts.map tv).length).n->I i δ h->∃ x δ1,(Wk.mk (itD (ts.map tv)) (ts.map tv).length).it i h=some (some x)/\tg x δ = some δ1/\wpS (f δ1 h) { P with nx:=I (i + 1),ct:=I (i + 1),bk:=P.nx }) /\
   (∀ δ h,I (Wk.mk (itD (ts.map tv)) (ts.map tv).length).n δ h->(Wk.mk (itD (ts.map tv)) (ts.map tv).length).it (Wk.mk (itD (ts.map tv)) (ts.map tv).length).n h=some none/\P.nx δ h) :=
 loopD I i0 (fun i δ h x hx ii=>by
  rw [List.getElem?_map] at hx;obtain⟨t,ht,rfl⟩:=Option.map_eq_some_iff.mp hx;exact hs i δ h t ht ii) (fun δ h ii=>hd δ h (by rw [List.length_map] at ii; exact ii))
theorem loopE{α : Type}{tv:α->Val}{ts:List α}{f:Sl->Hh->aD}{tg:Val->Sl->Option Sl}{δ : Sl}{h:Hh}{P:Po}(I:Nat->Sl->Hh->Prop)(i0:I 0 δ h)(hs:∀ (i:Nat) δ h t,ts[i]?=some t->I i δ h->∃ δ1,tg (.tup [.int i,tv t]) δ = some δ1/\wpS (f δ1 h) { P with nx:=I (i + 1),ct:=I (i + 1),bk:=P.nx })(hd:∀ δ h,I ts.length δ h->P.nx δ h) :
  ∃ I:Nat->Sl->Hh->Prop,I 0 δ h/\(∀ i δ h,i < (Wk.mk (itE (itD (ts.map tv))) (ts.map tv).length).n->I i δ h->∃ x δ1,(Wk.mk (itE (itD (ts.map tv))) (ts.map tv).length).it i h=some (some x)/\tg x δ = some δ1/\wpS (f δ1 h) { P with nx:=I (i + 1),ct:=I (i + 1),bk:=P.nx }) /\
   (∀ δ h,I (Wk.mk (itE (itD (ts.map tv))) (ts.map tv).length).n δ h->(Wk.mk (itE (itD (ts.map tv))) (ts.map tv).length).it (Wk.mk (itE (itD (ts.map tv))) (ts.map tv).length).n h=some none/\P.nx δ h) :=
 ⟨I,i0,fun i δ h hi ii=>by
  have hi:i < ts.length:=by simpa using (show i < (ts.map tv).length from hi)
  obtain⟨δ1,e,q⟩:=hs i δ h ts[i] (by simp [hi]) ii;exact⟨_,δ1,by simp [itE,itD,hi],e,q⟩,fun δ h ii=>⟨by simp [itE,itD],hd δ h (by simpa using ii)⟩⟩
def Sv(n:Nat)(v:Val):Prop:=∃ d,v.toD=some d/\Shp n d
theorem jl{i:Int}{n:Nat}:Sv n (.int i):=⟨_,rfl,shp_int⟩
theorem sv_non{n:Nat}:Sv n .non:=⟨_,rfl,shp_non⟩
theorem oJ{x:Str}{n:Nat}(h:PyData.strOk x=true):Sv n (.str x):=⟨_,rfl,shp_str h⟩
theorem oL{n:Nat}:∀ {xs:List Val},(∀ x∈xs,Sv n x)->∃ ds,Val.hU xs=some ds/\∀ d∈ds,Shp n d
 | [],_=>⟨[],rfl,by simp⟩
 | x :: xs,h=>by
  obtain⟨d,e1,s1⟩:=h x (by simp);obtain⟨ds,e2,s2⟩:=oL fun y hy=>h y (List.mem_cons_of_mem _ hy);refine⟨d :: ds,?_,fun e he=>?_⟩
  .show(match x.toD,Val.hU xs with | some d,some ds=>some (d :: ds) | _,_=>none)=_;rw [e1,e2]
  .rcases List.mem_cons.mp he with rfl | he
   .exact s1
   .exact s2 _ he
theorem tO{n:Nat}{xs:List Val}(h:∀ x∈xs,Sv n x):Sv (n + 1) (.lst xs):=by
 obtain⟨ds,e,s⟩:=oL h;exact⟨.list ds,by show(Val.hU xs).map PyData.list=_; rw [e]; rfl,shp_lst s⟩
theorem lg{n:Nat}{xs:List Val}(h:∀ x∈xs,Sv n x):Sv (n + 1) (.tup xs):=by
 obtain⟨ds,e,s⟩:=oL h;exact⟨.tuple ds,by show(Val.hU xs).map PyData.tuple=_; rw [e]; rfl,shp_tup s⟩
theorem oK{n:Nat}:∀ x∈([]:List Val),Sv n x:=by simp
theorem dQ{n:Nat}{x:Val}{xs:List Val}(a:Sv n x)(b:∀ y∈xs,Sv n y):∀ y∈x :: xs,Sv n y:=fun y hy=>by
 rcases List.mem_cons.mp hy with rfl | hy
 .exact a
 .exact b _ hy
theorem tN{α : Type}{n:Nat}{f:α->Val}{ts:List α}(h:∀ t∈ts,Sv n (f t)):∀ x∈ts.map f,Sv n x:=fun x hx=>by
 obtain⟨t,ht,rfl⟩:=List.mem_map.mp hx;exact h t ht
theorem Sv.mono{n m:Nat}{v:Val}(h:Sv n v)(l:n<=m):Sv m v:=by
 obtain⟨d,e,s⟩:=h;exact⟨d,e,s.mono l⟩
theorem eqO_same{n:Nat}{v:Val}(hs:Sv n v)(hn:n<=64):eqO h v v=some true:=by
 obtain⟨d,e,s⟩:=hs;have hr:rdD h v=some d:=by unfold rdD; rw [e]
 cases v with
 | int i=>exact congrArg some (decide_eq_true rfl)
 | str i=>exact congrArg some (decide_eq_true rfl)
 | bl i=>exact congrArg some (decide_eq_true rfl)
 | _=>unfold eqO; dsimp only; rw [hr]; dsimp only; rw [s.ok hn,s.refl]; rfl
theorem jD{n:Nat}(hs:Sv n v)(q:QV (.bl false) h)(hn:n<=64:=by decide):wpR (ik h v v) QV:=by unfold ik; rw [eqO_same hs hn]; exact⟨q⟩
theorem t_pushG{i:Nat}{cl:Cel}(hi:i≠0):(hT c s l g L).bh i cl=hT c s l (upg g i (g i ++ [some cl])) L:=by
 unfold Hh.bh hT upg;dsimp only
 congr 1
 funext j
 by_cases e:j=i
 .subst e; rw [if_pos rfl,if_neg hi,if_neg hi,if_pos rfl]
 .rw [if_neg e]
  by_cases e0:j=0
  .rw [if_pos e0,if_pos e0]
  .rw [if_neg e0,if_neg e0,if_neg e]
theorem t_setG{i j:Nat}{cl:Cel}(hi:i≠0):(hT c s l g L).set (.glo i j) cl=hT c s l (upg g i ((g i).set j (some cl))) L:=by
 unfold Hh.set hT upg;dsimp only
 congr 1
 funext k
 by_cases e:k=i
 .subst e; rw [if_pos rfl,if_neg hi,if_neg hi,if_pos rfl]
 .rw [if_neg e]
  by_cases e0:k=0
  .rw [if_pos e0,if_pos e0]
  .rw [if_neg e0,if_neg e0,if_neg e]
theorem app_1{α : Type}{L M:List α}{x0:α}{y:α}:L ++ x0 :: y :: M=(L ++ [x0]) ++ y :: M:=by simp
theorem uS{α : Type}{L:List α}{x0:α}:(L ++ [x0]).length=L.length + 1:=by simp
theorem mE{α : Type}{L M:List α}{x0:α}{y:α}:(L ++ x0 :: y :: M)[L.length + 1]?=some y:=by
 have:=gw (L:=L ++ [x0]) (M:=M) (x:=y);rw [uS] at this;rw [app_1]; exact this
theorem k9{x0:Cel}{xs:List Val}(n:Val.nls xs=true)(q:QV (.ref (.loc (L.length + 1))) (hT c s l g (L ++ x0 :: .lst xs :: []))):wpR (bJ .loc xs (hT c s l g (L ++ [x0]))) QV:=by
 refine hV n ?_;rw [uS,List.append_assoc]; exact q
theorem tA{x0:Cel}{ys:List Val}{M:List Cel}{R:Prop}(q:R):tyL (hT c s l g (L ++ x0 :: .lst ys :: M)) (.ref (.loc (L.length + 1)))=true/\R:=⟨o_tyL (ys:=ys) mE,q⟩
theorem tH{x0:Cel}{ys:List Val}{M:List Cel}(hn:v.nl=true)(hl:ys.length < 1000000)(q:QV .non (hT c s l g (L ++ x0 :: .lst (ys ++ [v]) :: M))):wpR (cm (hT c s l g (L ++ x0 :: .lst ys :: M)) (.ref (.loc (L.length + 1))) [v]) QV:=by
 rw [app_1] at q ⊢;rw [<- uS (L:=L) (x0:=x0)];exact kl hn hl q
theorem t_glo{i:Nat}(hi:i≠0):(hT c s l g L).glo i=g i:=if_neg hi
theorem ny{xs:List Val}{j:Int}(k:Nat)(e:j=k)(q:QV (.lst (xs.take k)) h):wpR (j4 h (.lst xs) none (some j)) QV:=by
 subst e;refine wpR.eq (?_:_=Res.ok (Val.lst (xs.take k)) h) q;show Res.ok (Val.lst (e6 xs none (some (k:Int)))) h=_;rw [iy]
theorem nz{xs:List Val}{j:Int}(k:Nat)(e:j=k)(q:QV (.lst (xs.drop k)) h):wpR (j4 h (.lst xs) (some j) none) QV:=by
 subst e;refine wpR.eq (?_:_=Res.ok (Val.lst (xs.drop k)) h) q;show Res.ok (Val.lst (e6 xs (some (k:Int)) none)) h=_;rw [rS]
theorem ku{xs:List Val}{j:Int}(k:Nat)(e:j=k)(q:QV (.tup (xs.take k)) h):wpR (j4 h (.tup xs) none (some j)) QV:=by
 subst e;refine wpR.eq (?_:_=Res.ok (Val.tup (xs.take k)) h) q;show Res.ok (Val.tup (e6 xs none (some (k:Int)))) h=_;rw [iy]
theorem cJ{α : Type}{f:α->Val}(hf:∀ t,(f t).nl=true):∀ {ts:List α},Val.nls (ts.map f)=true
 | []=>rfl
 | t :: ts=>by show((f t).nl && Val.nls (ts.map f))=true; rw [hf,cJ hf]; rfl
theorem nl_lst{α : Type}{f:α->Val}(hf:∀ t,(f t).nl=true){ts:List α}:(Val.lst (ts.map f)).nl=true:=cJ hf
theorem log2_small{i:Int}(h0:-18446744073709551616 < i)(h1:i < 18446744073709551616):i.natAbs.log2 < 1920:=by
 by_cases e:i.natAbs=0
 .rw [e]; decide
 .exact(Nat.log2_lt e).mpr (Nat.lt_of_lt_of_le (show i.natAbs < 2 ^ 64 by omega) (Nat.pow_le_pow_right (by decide) (by decide)))
theorem pq{i:Int}(h0:-18446744073709551616 < i)(h1:i < 18446744073709551616)(q:QV (.str (toString i)) h):wpR (ka h [.int i]) QV:=wpR.eq (if_pos (log2_small h0 h1):(if i.natAbs.log2 < 1920 then Res.ok (Val.str (toString i)) h else .err)=_) q
theorem pj{a:Str}(q:QV (.str a) h):wpR (ka h [.str a]) QV:=⟨q⟩
theorem sG{Q:List (Key×Val)->Hh->Prop}{δ : Sl}(q:Q [] h):wpR (nQ δ h) Q:=⟨q⟩
theorem p5{Q:List (Key×Val)->Hh->Prop}{δ : Sl}{fk fv:Sl->Hh->Res Val}{fr:Sl->Hh->Res (List (Key×Val))}(q:wpR (fk δ h) fun x h1=>wpR (fv δ h1) fun y h2=>wpR (fr δ h2) fun ps h3=>∃ k,fP x=some k/\Q ((k,y) :: ps) h3):wpR (bY fk fv fr δ h) Q :=
 .bind (q.mono fun _ _ q=>.bind (q.mono fun _ _ q=>.bind (q.mono fun _ _ ⟨k,e,q⟩=>by rw [e]; exact⟨q⟩)))
theorem sO{md:Md}{δ : Sl}{fr:Sl->Hh->Res (List (Key×Val))}(q:wpR (fr δ h) fun kvs h1=>kvs.length<=15/\wpR (newD md (dc [] kvs) h1) QV):wpR (kF md fr δ h) QV:=.bind (q.mono fun kvs h1 q=>by rw [if_pos q.1]; exact q.2)
theorem kPp{r:Res (List (Key×Val))}{Q:List (Key×Val)->Hh->Prop}(q:wpR r Q):wpR r Q:=q
theorem uX{k:Key}{R:Key->Prop}(e:fP x=some k)(q:R k):∃ c,fP x=some c/\R c:=⟨k,e,q⟩
theorem uW{xs:List (Key×Val)}{n:Nat}{A:Prop}(e:xs.length<=n)(a:A):xs.length<=n/\A:=⟨e,a⟩
theorem kf{kvs:List (Key×Val)}(q:QV (.dct kvs) h):wpR (newD .dat kvs h) QV:=⟨q⟩
theorem p6{kvs:List (Key×Val)}{i:Nat}(n:nlp kvs=true)(q:QV (.ref (.glo i (h.glo i).length)) (h.bh i (.dct kvs))):wpR (newD (.glo i) kvs h) QV:=by unfold newD; dsimp only; rw [if_pos n]; exact⟨q⟩
theorem o_slScr{ns:List Int}{j:Int}(k:Nat)(e:j=k)(q:QV (.lst ((ns.take k).map .int)) h):wpR (j4 h (.scr ns) none (some j)) QV:=by
 subst e;refine wpR.eq (?_:_=Res.ok (Val.lst ((ns.take k).map .int)) h) q;show Res.ok (Val.lst (e6 (ns.map Val.int) none (some (k:Int)))) h=_;rw [iy,List.map_take]
theorem tape0{v:Val}:h0.bh 0 (.dct (tpk v 0 0))=hT v 0 0 (fun _=>[]) []:=by
 unfold Hh.bh hT upg h0;dsimp only
 congr 1
end
end M
namespace M
open PySem PySem.Spec PyProof.Rows L2 B
abbrev SndI(p:Pm)(ti:WX->TI)(fw:Sl->Hh->Res Wk):Prop:=∀ W σ δ m h G H (R:It->Hp->Prop),En p m h G σ δ->Wo p m h G H->aq p (fun m h G (J:It×Hp) (k:Wk)=>gx p J.1 m h G J.2 k.it) m h G H W σ (fun J H'=>J.2=H'->R J.1 H') (fw δ h)->ti W σ H R
end M
namespace M
open PySem PySem.Spec PyProof.Rows L2 B
def gQ(md:Md)(h:Hh)(x y:Val):Res Val:=match rdM h x,rdM h y with
 | some xs,some ys=>if xs.length + ys.length<=1000000 then bJ md (xs ++ ys) h else .err
 | _,_=>.err
section
variable{p:Pm}{C:Ct}{a b o ky:Expr}{pos p2 apos cpos:Pos}{fa fb fo fk:Sl->Hh->Res Val}{fl fh:Sl->Hh->Res (Option Int)}{lo hi:Option Expr}
theorem sr_cat(md:Md):cA p (ux p.K) (gQ md):=fun m h G H u v x y Q W σ w rx ry e=>by
 unfold gQ at e
 split at e
 .rename_i xs ys hx hy
  split at e
  .rename_i hl;obtain⟨a,vs,rfl,h1,h2⟩:=gk w rx hx;obtain⟨b,ws,rfl,h3,h4⟩:=gk w ry hy;exact .inr (.inr ⟨_,_,_,_,rfl,rfl,h1,h3,by rw [h2.len,h4.len]; exact aK hl,fun q n=>ml e w n (h2.app h4)⟩)
  .exact e.elim
 .exact e.elim
theorem ub(md:Md)(ha:SE C a fa)(hb:SE C b fb):SE C (.BinOp a .Add b pos) (m2 (gQ md) fa fb):=iL (fun W X g=>uF C.p.K g.K) (sr_cat md) ha hb
end
end M
namespace M
open PySem PySem.Spec PyProof.Rows L2 B
section
variable{QV:Val->Hh->Prop}{δ : Sl}{h:Hh}{x y v:Val}{md:Md}{r:Rf}
theorem o_catD{xs ys:List Val}(hl:xs.length + ys.length<=1000000)(q:wpR (bJ md (xs ++ ys) h) QV):wpR (gQ md h (.lst xs) (.lst ys)) QV:=by
 unfold gQ;show wpR (if xs.length + ys.length<=1000000 then bJ md (xs ++ ys) h else .err) QV;rw [if_pos hl]; exact q
theorem t_ext{c:Val}{s l:Int}{g:Nat->List (Option Cel)}{L M:List Cel}{ys zs:List Val}(hn:Val.nls zs=true)(hl:ys.length + zs.length<=1000000)(q:QV .non (hT c s l g (L ++ .lst (ys ++ zs) :: M))):wpR (fG (hT c s l g (L ++ .lst ys :: M)) (.ref (.loc L.length)) [.lst zs]) QV:=by
 unfold fG;dsimp only;have hr:(hT c s l g (L ++ .lst ys :: M)).get (.loc L.length)=some (.lst ys):=gw;rw [hr];show wpR (if Val.nls zs=true/\ys.length + zs.length<=1000000 then Res.ok .non ((hT c s l g (L ++ .lst ys :: M)).set (.loc L.length) (.lst (ys ++ zs))) else .err) QV;rw [if_pos ⟨hn,hl⟩];have e:(hT c s l g (L ++ .lst ys :: M)).set (.loc L.length) (.lst (ys ++ zs))=hT c s l g (L ++ .lst (ys ++ zs) :: M):=by unfold Hh.set hT; dsimp only; rw [set_mid]
 rw [e];exact⟨q⟩
end
end M
namespace M
open PySem PySem.Spec PyProof.Rows L2 B
section
variable{QV:Val->Hh->Prop}{δ : Sl}{h:Hh}{x y v:Val}{c:Val}{s l:Int}{g:Nat->List (Option Cel)}{L:List Cel}{r:Rf}
theorem fH{i:Nat}:(hT c s l g L).get (.loc i)=L[i]?:=rfl
theorem w_dget2{fo fk fd:Sl->Hh->Res Val}(q:wpR (fo δ h) fun x h1=>cq h1 x=true/\wpR (fk δ h1) fun y h2=>wpR (fd δ h2) fun z h3=>∃ r kvs k,x = .ref r/\h3.get r=some (.dct kvs)/\fP y=some k/\QV ((cD kvs k).getD z) h3):wpR (pB fo fk fd δ h) QV:=by
 refine .bind (q.mono fun x h1 ⟨hd,q⟩=>?_);rw [if_pos hd];refine .bind (q.mono fun y h2 q=>.bind (q.mono fun z h3 ⟨r,kvs,k,e,e1,e2,qq⟩=>?_));subst e;have hk:rdK h3 (.ref r)=some kvs:=fD e1;have hl:fY h3 (.ref r) y=some (cD kvs k):=by unfold fY; rw [hk]; dsimp only; rw [e2]; rfl
 rw [hl]
 cases hv:cD kvs k with
 | none=>rw [hv] at qq; exact⟨qq⟩
 | some v=>rw [hv] at qq; exact⟨qq⟩
theorem rO{kvs:List (Key×Val)}(hr:h.get r=some (.dct kvs)):cq h (.ref r)=true:=by
 have hk:rdK h (.ref r)=some kvs:=fD hr;unfold cq; rw [hk]; rfl
end
end M
namespace M
open PySem PySem.Spec PyProof.Rows L2 B
abbrev chS(c:Nat):Str:=⟨#[c]⟩
section
variable{j k:Nat}{a b w:Str}
theorem ir{ps:List Str}:(Txt.join ⟨#[]⟩ ps).cps.toList=ps.flatMap fun p=>p.cps.toList:=by
 have key:∀ (ps:List Str) (a:Array Nat),(ps.foldl (fun acc p=>acc ++ (#[]:Array Nat) ++ p.cps) a).toList=a.toList ++ ps.flatMap fun p=>p.cps.toList:=by
  intro ps
  induction ps with
  | nil=>intro a; simp
  | cons p ps ih=>intro a; rw [List.foldl_cons,ih]; simp
 cases ps with
 | nil=>rfl
 | cons p ps =>
  show((ps.foldl (fun acc p=>acc ++ (#[]:Array Nat) ++ p.cps) p.cps)).toList=_;rw [key]; rfl
end
section
variable{QV:Val->Hh->Prop}{δ : Sl}{h:Hh}{x v:Val}{z:Str}{r:Rf}
theorem o_ixS{i:Int}(hz:z.length<=1000000)(h0:0<=i)(h1:i < z.cps.toList.length)(q:∀ c,c∈z.cps.toList->QV (.str (chS c)) h):wpR (au h (.str z) (.int i)) QV:=by
 obtain⟨c,e,hc,_⟩:=pT (xs:=z.cps.toList) (i:=i) (by intro e; rw [e] at h1; simp at h1; omega) h0 h1;refine wpR.eq (?_:_=Res.ok (Val.str (chS c)) h) (q c hc);show(if z.length<=1000000 then(match atI z.cps.toList i with | some c=>Res.ok (Val.str ⟨#[c]⟩) h | none=>.err) else .err)=_;rw [if_pos hz,e]
theorem eV{lo hi:Option Int}(hz:z.length<=1000000)(q:QV (.str (cutS z lo hi)) h):wpR (j4 h (.str z) lo hi) QV:=by
 refine wpR.eq (?_:_=Res.ok (Val.str (cutS z lo hi)) h) q;show(if z.length<=1000000 then Res.ok (Val.str (cutS z lo hi)) h else .err)=_;rw [if_pos hz]
theorem sx{R:Wk->Prop}(q:R ⟨itD (z.cps.toList.map fun c=>Val.str (chS c)),(z.cps.toList.map fun c=>Val.str (chS c)).length⟩):∃ k,jj h (.str z)=some k/\R k:=by
 rw [List.length_map] at q;exact⟨_,rfl,q⟩
theorem eW{ps:List Str}{a:Str}(hl:(ps.map (·.length)).sum + ps.length * a.length<=1000000)(q:QV (.str (Txt.join a ps)) h):wpR (eh h (.str a) [.lst (ps.map Val.str)]) QV:=by
 refine wpR.eq (?_:_=Res.ok (Val.str (Txt.join a ps)) h) q;show(match jm (ps.map Val.str) with | some zs=>if (List.map (fun z:Str=>z.length) zs).sum + zs.length * a.length<=1000000 then Res.ok (Val.str (Txt.join a zs)) h else .err | none=>.err)=_;rw [km];dsimp only;rw [if_pos hl]
theorem dS{a b:Str}(hb:(b.length == 0)=false)(ha:a.length + 2<=1000000)(q:QV (.lst ((Txt.split a b).map Val.str)) h):wpR (c8 h (.str a) [.str b]) QV:=by
 refine wpR.eq (?_:_=Res.ok (Val.lst ((Txt.split a b).map Val.str)) h) q;show(if (b.length == 0)=false/\a.length + 2<=1000000 then Res.ok (Val.lst ((Txt.split a b).map Val.str)) h else .err)=_;rw [if_pos ⟨hb,ha⟩]
theorem in_ref{xs:List Val}{b:Bool}(neg:Bool)(hr:h.get r=some (.lst xs))(f:cC x=true)(fa:xs.all cC=true)(e:(xs.any fun z=>eqM z x)=b):cO neg inU h x (.ref r) = .ok (.bl (if neg=true then !b else b)) h:=by
 have hd:cq h (.ref r)=false:=by unfold cq rdK uv; dsimp only; rw [hr]; rfl
 have hq:rdQ h (.ref r)=some xs:=by show(match h.get r with | some (.lst xs)=>some xs | _=>none)=_; rw [hr]
 have hs:inS h x (.ref r)=some b:=by
  unfold inS;dsimp only;rw [hq];dsimp only;rw [f,fa,e]
  rfl
 unfold cO inU;rw [if_neg (by rw [hd]; simp),hs]
theorem uK{f:Str}{ds:List Str}(hr:h.get r=some (.lst (ds.map Val.str)))(q:QV (.bl (decide (f∈ds))) h):wpR (gp h (.str f) (.ref r)) QV:=wpR.eq (in_ref false hr rfl all_strs oz) q
theorem w_lcC{α : Type}{md:Md}{vs:List Nat}{tg:Val->Sl->Option Sl}{fe:Sl->Hh->Res Val}{ft:Sl->Hh->Res Bool}{fw:Sl->Hh->Res Wk}(tv:α->Val)(ts:List α)(c:α->Bool)(g:α->Val){h':Hh}(hw:wpR (fw δ h) fun k h1=>∃ r,k=⟨itC r,ts.length⟩/\h1=h'/\h'.get r=some (.lst (ts.map tv)))(hl:ts.length<=1000000)
  (hs:∀ t∈ts,∃ δ1,tg (tv t) (cZ δ vs)=some δ1/\wpR (ft δ1 h') fun b h2=>h2=h'/\b=c t/\(c t=true->wpR (fe δ1 h') fun y h3=>h3=h'/\y=g t)) (q:wpR (bJ md ((ts.filter c).map g) h') QV):wpR (mLc md vs fw tg ft fe δ h) QV:=by
 refine w_lc (hw.mono ?_);rintro k h1 ⟨r,rfl,rfl,hr⟩;refine⟨hl,fun i acc h2=>h2=h1/\acc=((ts.take i).filter c).map g,⟨rfl,by simp⟩,?_,?_⟩
 .rintro i acc h2 hi ⟨rfl,rfl⟩;have hi:i < ts.length:=hi;obtain⟨δ1,e1,q1⟩:=hs ts[i] (List.getElem_mem hi);refine⟨tv ts[i],δ1,by show(match h2.get r with | some (.lst xs)=>some xs[i]? | _=>none)=_; rw [hr]; simp [hi],e1,q1.mono ?_⟩;rintro b h3 ⟨rfl,rfl,q2⟩;have et:ts.take (i + 1)=ts.take i ++ [ts[i]]:=by rw [List.take_succ,List.getElem?_eq_getElem hi]; rfl
  cases hc:c ts[i]
  .refine rQ ⟨rfl,?_⟩;rw [et,List.filter_append,List.filter_cons_of_neg (by simp [hc])]; simp
  .refine pE ((q2 hc).mono ?_);rintro y h4 ⟨rfl,rfl⟩;refine⟨rfl,?_⟩;rw [et,List.filter_append,List.filter_cons_of_pos hc]; simp
 .rintro acc h2 ⟨rfl,rfl⟩;refine⟨by show(match h2.get r with | some (.lst xs)=>some xs[ts.length]? | _=>none)=_; rw [hr]; simp,?_⟩;have:ts.take (Wk.n ⟨itC r,ts.length⟩)=ts:=List.take_length;rw [this]; exact q
theorem o_tupR{xs:List Val}(hr:h.get r=some (.lst xs))(q:QV (.tup xs) h):wpR (d7 h [.ref r]) QV:=by
 have hq:rdL h (.ref r)=some xs:=by show(match h.get r with | some (.lst xs)=>some xs | _=>none)=_; rw [hr]
 refine wpR.eq ?_ q;show(match rdL h (.ref r) with | some ys=>Res.ok (Val.tup ys) h | none=>.err)=_;rw [hq]
theorem p7{md:Md}{vs:List Nat}{tg:Val->Sl->Option Sl}{fe:Sl->Hh->Res Val}{fw:Sl->Hh->Res Wk}(hw:wpR (fw δ h) fun k h1=>∃ n,k=⟨itR 0 n,n⟩/\n<=1000000/\∃ I:Nat->List Val->Hh->Prop,I 0 [] h1/\(∀ (i:Nat) acc h,i < n->I i acc h->∃ δ1,tg (.int i) (cZ δ vs)=some δ1/\wpR (fe δ1 h) fun y h3=>I (i + 1) (acc ++ [y]) h3)/\(∀ acc h,I n acc h->wpR (bJ md acc h) QV)):wpR (mLc md vs fw tg dW fe δ h) QV:=by
 refine w_lc (hw.mono ?_);rintro k h1 ⟨n,rfl,hn,I,i0,hs,hd⟩;refine⟨hn,I,i0,?_,?_⟩
 .intro i acc h hi ii;have hi:i < n:=hi;obtain⟨δ1,e1,q⟩:=hs i acc h hi ii;exact⟨_,δ1,by show some (if i < n then some (Val.int (0 + i)) else none)=_; rw [if_pos hi,Int.zero_add],e1,sD (pE q)⟩
 .intro acc h ii;exact⟨by show some (if n < n then some (Val.int (0 + n)) else none)=_; rw [if_neg (Nat.lt_irrefl _)],hd acc h ii⟩
end
end M
namespace L2
open PySem PySem.Spec PyProof.Rows
def rDUpd:V->List V->Hp->VK->Prop:=fun x vs H Q=>∃ (a b:Addr) (kvs more:List (Key×V)),x = .ref a/\vs=[.ref b]/\a≠b/\H a=some (.dK kvs)/\Rd H b (.dK more)/\kvs.length + more.length<=sizeLine/\Q .non (upd H a (.dK (mergeK kvs more)))
theorem mt_dupd{X:Cx}:MtR X "dict.update" rDUpd:=by
 intro pins s σ H x vs v us Q I rx rv h;obtain⟨a,b,kvs,more,ex,ev,hne,e,e2,hz,q⟩:=h;subst ex;subst ev;obtain rfl:v=Value.ref a:=rx;obtain⟨u,eu,rb⟩:=vals1 rv;subst eu
 cases rb
 obtain⟨z,hd,vs1,rel,dd⟩:=dk_of I.hok e;obtain⟨z2,hd2,vs2,rel2,dd2⟩:=dk_rd I.hok e2;refine call_meetsIn PySem.F.slot_dict_update dd.typeIs PySem.F.entry_dict_update (PySem.F.args_dict_update_2 _ _) (meets_dict_update (mixKind X.prog X.w) a b hne hd2) ⟨vs1,vs2,dd,dd2,by rw [<- rel.length,<- rel2.length]; exact hz,fun h' dd' _ hs=>?_⟩;have he:∃ q,h'.get? a=some q:=let ⟨q,_,_,hq,_⟩:=dd'; ⟨q,hq⟩
 exact⟨.non,_,d_write (t':=s.toks) I (by rw [e]; exact True.intro) hs he (dk_new (Nat.le_trans (length_mergeK more kvs) hz) hd (KV.merge rel2 rel) dd'),rfl,q⟩
end L2
namespace M
open PySem PySem.Spec PyProof.Rows L2 B
def pS:List Val->Option (List (Key×Val))
 | []=>some []
 | .tup [k,v] :: r=>match fP k,pS r with
  | some k,some r=>some ((k,v) :: r)
  | _,_=>none
 | _=>none
def notRef(y:Val)(r:Rf):Bool:=match y with
 | .ref r'=>!decide (r'=r)
 | _=>true
def dY(h:Hh)(x:Val)(xs:List Val):Res Val:=match x,xs with
 | .ref r,[y]=>match h.get r,rdK h y with
  | some (.dct kvs),some more=>if (nlp more=true/\notRef y r=true)/\kvs.length + more.length<=1000000 then .ok .non (h.set r (.dct (dc kvs more))) else .err
  | _,_=>.err
 | _,_=>.err
section
variable{p:Pm}{m:Rf->Addr}{h:Hh}{G H:Hp}
theorem rh:rX p rDUpd dY:=fun m h G H u us x xs Q W σ w rx r e=>by
 unfold dY at e
 split at e
 .rename_i rr y;obtain⟨v,rfl,rv⟩:=eB r
  split at e
  .rename_i kvs more hc hy
   split at e
   .rename_i hcond;obtain⟨hG,hn,o,h3,h4⟩:=w.cel _ _ hc;obtain⟨b,vs,rfl,h5,h6⟩:=lJ w rv hy;have hne:m rr≠b:=by
     cases rv with
     | dct g1 g2=>intro z; rw [<- z,hG] at g1; cases g1
     | @ref r' hr' =>
      intro z;have h7:=hcond.1.2;unfold notRef at h7;dsimp only at h7;have h8:r'≠rr:=by simpa using h7
      exact h8 (w.inj _ _ (cw hc) hr' z).symm
     | _=>cases hy
    cases rx
    cases h4 with
    | dct h4 =>
     refine⟨_,b,_,vs,rfl,rfl,hne,h3,h5,by rw [h4.length,h6.length]; exact aK hcond.2,?_⟩;have hn2:nlp (dc kvs more)=true:=kD hn hcond.1.1;have ww:=w.mut hc (c:=.dct (dc kvs more)) (o:=.dK _) hn2 (.dct (ig h6 h4));exact e.step ww.2 ww.1 .non
   .exact e.elim
  .exact e.elim
 .exact e.elim
end
section
variable{C:Ct}{o e:Expr}{es:List Expr}{pos q apos:Pos}{fs:Sl->Hh->Res (List Val)}{fo:Sl->Hh->Res Val}
theorem rk(ho:SE C o fo)(ha:SA C [e] fs)(hb:∀ env,attributeBase o "update" env (eval o env)=eval o env:=by intro _; rfl) (hfew:∀ env,((backTo pos (starEach [e] env)).all (fun x=>!x.1) && (backToKw pos (keywordEach [] env)).all (fun x=>x.1.isSome)
   && decide (([e]:List Expr).length + ([]:List Keyword).length + (if ([]:List Keyword).isEmpty then 0 else 1) < 30))=true:=by intro _; rfl)
  (hline:(apos.endLine == pos.line)=true:=by rfl) (hs:∀ env,starEach [e] env=(false,eval e env) :: starEach [] env:=by intro _; rfl):SE C (.Call (.Attribute o "update" apos) [e] [] pos) (mBM tyD dY fo fs) :=
 mT PySem.F.plainAttrs_dict PySem.F.slot_dict_update PySem.F.type_dict_update ty_D (fun _ _ _=>mt_dupd) rh ho ha hb hfew hline hs
end
end M
namespace M
open PySem PySem.Spec PyProof.Rows L2 B
section
variable{QV:Val->Hh->Prop}{δ : Sl}{h:Hh}{x y v:Val}{md:Md}{r:Rf}{Γ : Calls}{f k m:Nat}{dv:List Val}{fs fk:Sl->Hh->Res (List Val)}
theorem rK{kvs more:List (Key×Val)}{y:Val}(hr:h.get r=some (.dct kvs))(hy:rdK h y=some more)(hne:notRef y r=true)(hn:nlp more=true)(hl:kvs.length + more.length<=1000000)(q:QV .non (h.set r (.dct (dc kvs more)))):wpR (dY h (.ref r) [y]) QV:=by
 unfold dY;dsimp only;rw [hr,hy];dsimp only;rw [if_pos ⟨⟨hn,hne⟩,hl⟩]; exact⟨q⟩
theorem uI{kvs more:List (Key×Val)}(hr:h.get r=some (.dct kvs))(hn:nlp more=true)(hl:kvs.length + more.length<=1000000)(q:QV .non (h.set r (.dct (dc kvs more)))):wpR (dY h (.ref r) [.dct more]) QV:=rK hr rfl rfl hn hl q
theorem o_tyD{kvs:List (Key×Val)}(hr:h.get r=some (.dct kvs)):tyD h (.ref r)=true:=by
 unfold tyD; dsimp only; rw [hr]
end
end M
namespace M
open PySem PySem.Spec PyProof.Rows L2 B
def leS(a b:Str):Bool:=!ltCps b.cps.toList a.cps.toList
theorem kG(a b c:Str)(h1:leS a b=true)(h2:leS b c=true):leS a c=true:=by
 unfold leS at *;rw [ltCps_eq] at *
 simp only [Bool.not_eq_true',decide_eq_false_iff_not] at *
 have h1:a.cps.toList<=b.cps.toList:=h1;have h2:b.cps.toList<=c.cps.toList:=h2;exact List.not_lt.mpr (Std.le_trans h1 h2)
theorem rL(a b:Str):(leS a b || leS b a)=true:=by
 unfold leS;rw [ltCps_eq,ltCps_eq];rcases List.le_total a.cps.toList b.cps.toList with h | h
 .rw [decide_eq_false (List.not_lt.mpr h)]; rfl
 .rw [decide_eq_false (List.not_lt.mpr h)]; simp
theorem lT(a b:Str)(h1:leS a b=true)(h2:leS b a=true):a=b:=by
 unfold leS at *;rw [ltCps_eq] at *
 simp only [Bool.not_eq_true',decide_eq_false_iff_not] at *
 have h1:a.cps.toList<=b.cps.toList:=h1;have h2:b.cps.toList<=a.cps.toList:=h2;have:=List.le_antisymm h1 h2
 cases a; cases b
 congr 1
 exact Array.ext' this
theorem oN:∀ {ys:List Str},sortedS ys=true->ys.Pairwise fun a b=>leS a b=true
 | [],_=>.nil
 | y :: ys,h=>by
  have key:∀ {r:List Str} {p:Str},risingS p r=true->(∀ z∈r,leS p z=true)/\r.Pairwise fun a b=>leS a b=true:=by
   intro r
   induction r with
   | nil=>intro p _; exact⟨by simp,.nil⟩
   | cons x r ih =>
    intro p h;have h:=Bool.and_eq_true_iff.mp (show(!ltCps x.cps.toList p.cps.toList && risingS x r)=true from h);obtain⟨i1,i2⟩:=ih h.2;refine⟨fun z hz=>?_,.cons i1 i2⟩;rcases List.mem_cons.mp hz with rfl | hz
    .exact h.1
    .exact kG p x z h.1 (i1 z hz)
  obtain⟨k1,k2⟩:=key (show risingS y ys=true from h);exact .cons k1 k2
def mO(xs:List Str):List Str:=xs.mergeSort leS
theorem srtS_eq{xs ys:List Str}(h1:ys.Perm xs)(h2:sortedS ys=true):ys=mO xs :=
 List.Perm.eq_of_pairwise (fun a b _ _=>lT a b) (oN h2) (List.pairwise_mergeSort kG rL xs) (h1.trans (List.mergeSort_perm xs leS).symm)
theorem fB{xs:List Str}:(mO xs).Perm xs:=List.mergeSort_perm xs leS
theorem m7{p:Pm}{m:Rf->Addr}{hs:Rf->Prop}{G:Hp}:∀ {xs:List (Key×Val)} {vs:List (Key×V)},Rkv p m hs G vs xs->vs.map (·.1)=xs.map (·.1)
 | [],_,h=>by cases h; rfl
 | _ :: _,_,h=>by cases h with | cons h1 h2=>rw [List.map_cons,List.map_cons,h1.1,m7 h2]
theorem rW:bootBuiltins "sorted" = some (.builtin "sorted"):=by decide +kernel
end M
namespace M
open PySem PySem.Spec PyProof.Rows L2 B
def faC(K:PySem.W.Frag)(mg:Str->Option Value)(names:List (Str×Option Str))(k:Nat):Addr:=match names.getD k ("",none) with
 | (x,none)=>adr (mg x)
 | (x,some m)=>He.ma K (He.ga K x) m
def gm(P:Program)(w:World)(K:PySem.W.Frag)(mg:Str->Option Value)(base:Heap)(names:List (Str×Option Str))(cls flds:List Str)(h:nmOk flds=true)(cs:List (Addr×Addr)):Pm:=⟨P,w,K,mg,base,nmX flds,nmX_inj h,fun c=>He.ga K (cls.getD c ""),faC K mg names,flds.length,cs.length,fun k=>(cs.getD k (0,0)).1,fun k=>(cs.getD k (0,0)).2⟩
theorem bindsM{K:PySem.W.Frag}{x qual:Str}{st:Stmt}{kws:List (Str×V)}{f:Addr}{fd:FuncData}{ps:List Str}(F:FunD K x qual (defArgs st) (defBody st) (defScope st) [] kws f fd)
  (hb:∀ (kV doc pm:Value) (an:Option Addr) (cdv ct:Value) (us:List Value),us.length=ps.length->bindArgs (PySem.W.fnOf x qual (defArgs st) (defBody st) (defScope st) .none kV doc pm an cdv ct) ⟨us,[]⟩=pure (ps.zip us)):Binds K fd ps []:=F.bindsN hb
end M
namespace M
open PySem PySem.Spec PyProof.Rows L2 B
abbrev GG:=Nat->List (Option Cel)
def gat(g:GG)(i j:Nat):Option Cel:=match (g i)[j]? with
 | some c=>c
 | none=>none
def gset(g:GG)(i j:Nat)(c:Cel):GG:=upg g i ((g i).set j (some c))
def jK(g:GG)(i:Nat)(c:Cel):GG:=upg g i (g i ++ [some c])
section
variable{g:GG}{i j i' j':Nat}{c c':Cel}
theorem gat_lt(e:gat g i j=some c):j < (g i).length:=by
 unfold gat at e
 split at e
 .rename_i h; exact(List.getElem?_eq_some_iff.mp h).1
 .cases e
theorem gat_set(h:j < (g i).length):gat (gset g i j c) i j=some c:=by
 unfold gat gset upg;rw [if_pos rfl,List.getElem?_set_self h]
theorem gat_setE(e:gat g i j=some c'):gat (gset g i j c) i j=some c:=gat_set (gat_lt e)
theorem cx:gat (jK g i c) i (g i).length=some c:=by
 unfold gat jK upg;rw [if_pos rfl]; simp
end
section
variable{QV:Val->Hh->Prop}{P:Po}{δ : Sl}{c:Val}{s l:Int}{g:GG}{L:List Cel}{i j k f:Nat}{cl:Cel}{fs:List (Nat×Val)}{v x y:Val}{kvs:List (Key×Val)}{xs:List Val}
theorem qQ(hi:i≠0):(hT c s l g L).get (.glo i j)=gat g i j:=by
 unfold Hh.get hT gat;dsimp only;rw [if_neg hi]; first | done | rfl
theorem fJ(e:gat g i j=some cl)(hi:i≠0:=by decide):(hT c s l g L).get (.glo i j)=some cl:=by rw [qQ hi]; exact e
theorem hT_setG(hi:i≠0:=by decide):(hT c s l g L).set (.glo i j) cl=hT c s l (gset g i j cl) L:=t_setG hi
theorem n3(hi:i≠0:=by decide):(hT c s l g L).bh i cl=hT c s l (jK g i cl) L:=t_pushG hi
theorem hT_glo(hi:i≠0:=by decide):(hT c s l g L).glo i=g i:=t_glo hi
theorem sM(hn:nlp kvs=true)(q:QV (.ref (.glo i (g i).length)) (hT c s l (jK g i (.dct kvs)) L))(hi:i≠0:=by decide):wpR (newD (.glo i) kvs (hT c s l g L)) QV:=by
 refine p6 hn ?_;rw [hT_glo hi,n3 hi]; exact q
theorem uL{k:Key}(e:gat g i j=some (.dct kvs))(hk:fP x=some k)(hv:cD kvs k=some v)(q:QV v (hT c s l g L))(hi:i≠0:=by decide):wpR (au (hT c s l g L) (.ref (.glo i j)) x) QV:=o_getK (fJ e hi) hk hv q
end
end M
namespace M
open PySem PySem.Spec PyProof.Rows L2 B
def rMulS:R2:=fun x y H Q=>∃ (z:Str) (k:Int),x = .str z/\y = .int k/\z.length<=16/\-(2 ^ 63:Int)<=k/\k<=1000000/\Q (.str (Txt.mul z k)) H
theorem op_mulS{X:Cx}:OpR X (binaryOp .Mult) rMulS:=by
 intro pins s σ H x y v u Q I rx ry h;obtain⟨z,k,rfl,rfl,h1,h2,h3,q⟩:=h;obtain⟨t,rfl⟩:=rx;obtain⟨t',rfl⟩:=ry;exact SB.mul (mulOk_of 16 1048576 (by omega) (by omega) h2 (by decide) (by decide)) fun t2 k2=>⟨.str (Txt.mul z k),H,I.tok _,⟨_,rfl⟩,q⟩
def jy(h:Hh)(x y:Val):Res Val:=match x,y with
 | .str z,.int k=>if z.length<=16/\-(2 ^ 63:Int)<=k/\k<=1000000 then .ok (.str (Txt.mul z k)) h else .err
 | _,_=>.err
theorem sr_mulS{p:Pm}:cA p rMulS jy:=fun m h G H u v x y Q W σ w rx ry e=>by
 unfold jy at e
 split at e
 .cases rx; cases ry
  split at e
  .rename_i hc; exact⟨_,_,rfl,rfl,hc.1,hc.2.1,hc.2.2,aq.here e w (.str _)⟩
  .exact e.elim
 .exact e.elim
section
variable{C:Ct}{a b:Expr}{pos:Pos}{fa fb:Sl->Hh->Res Val}
theorem se_mulS(ha:SE C a fa)(hb:SE C b fb):SE C (.BinOp a .Mult b pos) (m2 jy fa fb):=iL (fun W X g=>op_mulS) sr_mulS ha hb
theorem o_mulS{h:Hh}{z:Str}{k:Int}{QV:Val->Hh->Prop}(h1:z.length<=16)(h2:0<=k/\k<=1000000)(q:QV (.str (Txt.mul z k)) h):wpR (jy h (.str z) (.int k)) QV:=wpR.eq (if_pos ⟨h1,by omega,h2.2⟩:(if z.length<=16/\-(2 ^ 63:Int)<=k/\k<=1000000 then Res.ok (Val.str (Txt.mul z k)) h else .err)=_) q
end
end M
namespace M
open PySem PySem.Spec PyProof.Rows L2 B He
abbrev AlL:Type:=M.AlX×List (Option (List (Option (Str×Int))))
def obsLK(fa:List Fa)(fn:List DefD)(xs:List (PySem.W.Frag->Bool))(tf:List Defn)(ts:List Tab)(g:Addr->Option Obj)(K:PySem.W.Frag):AlL:=(((obsX fa fn xs K).1,(obsX fa fn xs K).2 && tabsB g tf K),ts.map fun t=>dicW K (t.1 K))
def valL(fn:List DefD)(ts:List Tab)(w:World):AlL:=(M.valX fn,ts.map fun t=>some (keysIn w.params t.2))
structure SaysL(fa:List Fa)(fn:List DefD)(xs:List (PySem.W.Frag->Bool))(tf:List Defn)(ts:List Tab)(w:World)(h:Heap)(K:PySem.W.Frag):Prop where
 x:SaysX fa fn xs K
 hd:∀ p∈tf,PySem.W.codeHdIn K (cT K p).1 (cT K p).2=true
 out:∀ p∈tf,K.lookup (cT K p).2=none
 nil:∀ p∈tf,h.get? (cT K p).2=some { cls:=.none,data:=.fields #[] }
 tab:∀ t∈ts,∃ es n,KDict K w (t.1 K) es n
theorem rN{P:Program}{w:World}{K:PySem.W.Frag}{mg mb:Str->Option Value}{CX:CXT}{k:Nat}{fa a:Addr}{cs:List (Addr×Addr)}{fd:FuncData}{x:Str}{sp:Sp}{s₁ : Shared}{vs:List Value}{ns:List Int}(KX:K.In s₁.heap)(hns:s₁.heap.Ns mainGlobals mg)(hb:s₁.heap.Ns builtinsNs mb)
  (hbb:∀ x:Str,x≠"__name__"->mb x=bootBuiltins x) (hlim:s₁.heap.NoLimit) (hg:s₁.gens = #[]) (hT:∀ p∈cs,s₁.heap.get? p.2=some { cls:=.none,data:=.fields #[] }) (nT:∀ p∈cs,K.lookup p.2=none) (hC:∀ p∈cs,PySem.W.CodeHd s₁.heap p.1 p.2)
  (hbm:∃ (bm:Addr) (ob:Obj),mg "__builtins__" = some (.ref bm)/\bm≠builtinsNs/\s₁.heap.get? bm=some ob/\ob.cls = .type "module"/\ob.dict=some builtinsNs/\ob.data = .plain) (ha:s₁.heap.get? a=some { cls:=.type "list",data:=.seq vs.toArray }) (hi:IntsAre vs ns) (hl:ns.length<=sizeLine) (hr:Room k callerA)
  (F:∀ base:Heap,K.In base->base.Ns mainGlobals mg->(∀ p∈cs,LamX.TabB base mg p.1 p.2)->FnG P w K mg base CX k fa fd [x] sp) (hbind:∀ (s:Shared) (u:Value),BindsTo s fd ⟨[u],[]⟩ [(x,u)])
  (hsp:∀ H:Hp,(∀ p∈cs,H p.2=some (.tbl #[]))->SqL K H a (ns.map V.int)->sp [.ref a] H (fun v _=>v = .bl true) fun _ _ _=>False) (hCX:∀ H e s',CX [] H s₁ (fun _ _ _=>False) e s'->False) :
  codeAny (model P w) callerA (.call (.ref fa) ⟨[.ref a],[]⟩) (fun r s'=>r = .ok (.ret (.bool true))/\OldK s₁.heap s'.heap/\s'.os=s₁.os/\AllBare s'.gens) s₁:=by
 obtain⟨H,hH⟩:∃ H:Hp,H=fun b=>if b∈cs.map Prod.snd then some (.tbl #[]) else if b=a/\K.lookup a=none then some (.frz { cls:=.type "list",data:=.seq vs.toArray } (.lst (ns.map V.int))) else none:=⟨_,rfl⟩
 have isT:∀ {b},b∈cs.map Prod.snd->s₁.heap.get? b=some { cls:=.none,data:=.fields #[] }:=fun hb=>by
  obtain⟨p,hp,rfl⟩:=List.mem_map.mp hb;exact hT p hp
 have at_T:∀ {b},b∈cs.map Prod.snd->H b=some (.tbl #[]):=fun hb=>by rw [hH]; exact if_pos hb
 have aT:a ∉ cs.map Prod.snd:=fun z=>by
  have:=isT z;rw [ha] at this
  cases congrArg Obj.data (Option.some.inj this)
 have hc:∀ {b u},H b=some u->(b∈cs.map Prod.snd/\u = .tbl #[])\/(b=a/\K.lookup a=none/\u = .frz { cls:=.type "list",data:=.seq vs.toArray } (.lst (ns.map V.int))):=fun {b u} e=>by
  rw [hH] at e
  by_cases h1:b∈cs.map Prod.snd
  .exact .inl ⟨h1,(Option.some.inj ((if_pos h1).symm.trans e)).symm⟩
  .have e:=(if_neg h1).symm.trans e
   by_cases h2:b=a/\K.lookup a=none
   .exact .inr ⟨h2.1,h2.2,(Option.some.inj ((if_pos h2).symm.trans e)).symm⟩
   .cases (if_neg h2).symm.trans e
 have rv:=vals_ints hi;have hS:SqL K H a (ns.map V.int):=by
  rcases hk:K.lookup a with _ | o
  .exact .inl (.inr ⟨_,by rw [hH]; exact(if_neg aT).trans (if_pos ⟨rfl,hk⟩)⟩)
  .have e:=KX a o hk;rw [ha] at e
   cases e
   exact .inr ⟨_,vs.toArray,_,hk,rfl,rfl,rfl,by rw [List.size_toArray,hi.length]; exact hl,by simpa using rv⟩
 have hok:HOk P w H s₁.heap:=fun b u e=>by
  rcases hc e with ⟨h1,rfl⟩ | ⟨rfl,_,rfl⟩
  .exact isT h1
  .exact⟨ha,by rw [List.length_map]; exact hl,vs,_,rv,ha⟩
 have seen:∀ {b:Addr} {o:Obj},s₁.heap.get? b=some o->(∀ us n,o.data≠.seq us n)->o.data≠.fields #[]->(hidT s₁.heap H).get? b=some o:=fun {b o} e n1 n2=>hidT_get e (by
  rcases hq:H b with _ | u
  .rfl
  .rcases hc hq with ⟨h1,_⟩ | ⟨rfl,_,_⟩
   .rw [isT h1] at e; cases e; exact absurd rfl n2
   .rw [ha] at e; cases e; exact absurd rfl (n1 _ _))
 have dic:∀ {b:Addr} {m:Str->Option Value},s₁.heap.Ns b m->(hidT s₁.heap H).Ns b m:=fun {b m} ⟨o,es,n,e,d,r⟩=>⟨o,es,n,seen e (by rw [d]; intro _ _ z; cases z) (by rw [d]; intro z; cases z),d,r⟩;have inB:K.In (hidT s₁.heap H):=fun b o e=>hidT_get (KX b o e) (by
  rcases hq:H b with _ | u
  .rfl
  .rcases hc hq with ⟨h1,_⟩ | ⟨rfl,h2,_⟩
   .obtain⟨p,hp,rfl⟩:=List.mem_map.mp h1;rw [nT p hp] at e; cases e
   .rw [h2] at e; cases e)
 have TB:∀ p∈cs,LamX.TabB (hidT s₁.heap H) mg p.1 p.2:=by
  intro p hp;have gne:∀ {b:Addr} {m:Str->Option Value},s₁.heap.Ns b m->∀ {c:Addr} {o:Obj},s₁.heap.get? c=some o->(∀ es n,o.data≠.dict es n)->b≠c:=fun {b m} ⟨o,es,n,e,d,_⟩ {c o'} e' nd z=>by
   rw [z,e'] at e; cases e; exact nd _ _ d
  refine⟨?_,?_,gne hns (hT p hp) fun _ _ z=>by cases z⟩
  .obtain⟨o,us,file,tf,flags,tg,inF,text,tt,e1,e2,e3,e4,rest⟩:=hC p hp;exact⟨o,us,file,tf,flags,tg,inF,text,tt,seen e1 (by rw [e3]; intro _ _ z; cases z) (by rw [e3]; intro z; cases z; simp at e4),e2,e3,e4,rest⟩
  .obtain⟨bm,ob,b1,b2,b3,b4,b5,b6⟩:=hbm;refine⟨bm,ob,b1,b2,fun z=>gne hns b3 (by rw [b6]; intro _ _ z; cases z) z.symm,fun z=>?_,seen b3 (by rw [b6]; intro _ _ z; cases z) (by rw [b6]; intro z; cases z),b4,b5,b6⟩;rw [z,hT p hp] at b3; cases b3; cases b6
 obtain⟨mc,c1,c2⟩:=hlim;have e0:Env0 P w K mg (hidT s₁.heap H) callerA [] s₁ H:=⟨rfl,⟨inB,dic hns,⟨mb,dic hb,hbb⟩,⟨mc,dic c1,c2⟩⟩,fun _ _=>of_hidT,Nat.le_of_eq (hidT_size _ _),trivial,fun _ z=>(List.not_mem_nil z).elim,hok,.of_eq hg⟩;have run:=(F _ inB (dic hns) TB).run callerA [] s₁ H ⟨[.ref a],[]⟩ [.ref a] [.ref a] _ _ hr rfl e0 (hbind s₁ (.ref a)) (.cons rfl .nil) (hsp H (fun p hp=>at_T (List.mem_map.mpr ⟨p,hp,rfl⟩)) hS);refine codeAny_mono run fun r s' h=>?_
 match r,h with
 | .error e,h=>exact(hCX H e s' h).elim
 | .ok .next,h=>exact h.elim
 | .ok .brk,h=>exact h.elim
 | .ok .cont,h=>exact h.elim
 | .ok (.ret u),⟨v,H',os,bare,un,hok',r',q⟩ =>
  have q':v = .bl true:=q;subst q';have r2:u=Value.bool true:=r';subst r2;have key:∀ {b o},b ∉ cs.map Prod.snd->s₁.heap.get? b=some o->s'.heap.get? b=some o:=fun {b o} nb e=>by
   rcases hq:H b with _ | u
   .exact un.keep b o e hq (fun z=>(List.not_mem_nil (show b∈([]:List Addr) from z)).elim) (by simp)
   .rcases hc hq with ⟨h1,_⟩ | ⟨rfl,_,rfl⟩
    .exact absurd h1 nb
    .have e1:=(hok _ _ hq).1;rw [e] at e1
     cases e1
     exact(hok' _ _ (un.frzs _ _ _ hq)).1
  have more:∀ {b},b∈cs.map Prod.snd->∃ us:Array Value,s'.heap.get? b=some { cls:=.none,data:=.fields us }:=fun {b} hb=>by
   obtain⟨us,z⟩:=un.tbls b #[] (at_T hb);exact⟨_,hok' b _ z⟩
  refine⟨rfl,⟨fun b o e=>?_,fun b o e=>?_⟩,os,bare⟩
  .by_cases hbT:b∈cs.map Prod.snd
   .obtain⟨us,hm⟩:=more hbT;obtain⟨p,hp,rfl⟩:=List.mem_map.mp hbT;rw [hT p hp] at e
    cases e
    exact .inr (.inl ⟨((hC p hp).tab (hT p hp)).isCodeTable,rfl,#[],us,rfl,by rw [Array.empty_append]; exact hm⟩)
   .exact .inl (key hbT e)
  .by_cases hbT:b∈cs.map Prod.snd
   .obtain⟨us,hm⟩:=more hbT; exact⟨_,hm⟩
   .exact⟨o,key hbT e⟩
theorem sC{l:PySem.W.OpenLaw}{n k:Nat}{q:Program}{loose:List Str}{XP:(Str->Option Value)->Heap->Prop}{YP:World->Heap->Prop}{d:DefRec}{CX:CXT}{x:Str}(hn:l.most=some n)(hn2:n<=sizeLine)(hdf:d.params.defaults=[])(hr:Room k callerA)
  (F:∀ (w:World) (mg:Str->Option Value) (fa:Addr) (h:Heap),YP w h->h.Ns mainGlobals mg->mg d.name=some (.ref fa)->∃ (K:PySem.W.Frag) (fd:FuncData) (cs:List (Addr×Addr)) (sp:Sp),K.In h/\(∀ p∈cs,h.get? p.2=some { cls:=.none,data:=.fields #[] })/\(∀ p∈cs,K.lookup p.2=none)/\(∀ p∈cs,PySem.W.CodeHd h p.1 p.2) /\
    (∀ (s:Shared) (u:Value),BindsTo s fd ⟨[u],[]⟩ [(x,u)])/\(∀ (H:Hp) (a:Addr) (ns:List Int),ns.length<=n->(∀ p∈cs,H p.2=some (.tbl #[]))->SqL K H a (ns.map V.int)->sp [.ref a] H (fun v _=>v = .bl true) fun _ _ _=>False) /\
    ∀ base:Heap,K.In base->base.Ns mainGlobals mg->(∀ p∈cs,LamX.TabB base mg p.1 p.2)->FnG l.prog w K mg base CX k fa fd [x] sp)
  (hCX:∀ (H:Hp) (s:Shared) (e:Value) (s':Shared),CX [] H s (fun _ _ _=>False) e s'->False):PySem.W.WalkO q loose XP YP l.row.toRowW d [] (fun f vs=>PySem.call f vs) :=
 Att.attach_call hn hdf fun w s₀ s₁ mg mb fa o pm cd doc a vs ns G Y ho hd hcd hmg hobj hints hlen hg =>
  let ⟨K,fd,cs,sp,KX,hT,nT,hC,hbd,hsp,hF⟩:=F w mg fa _ Y G.T.g hmg
  rN KX G.T.g G.T.b G.T.builtins G.T.nolimit hg hT nT hC G.T.bmain hobj hints (Nat.le_trans hlen hn2) hr hF hbd (fun H h1 h2=>hsp H a ns hlen h1 h2) fun H e s'=>hCX H s₁ e s'
end M
namespace M
open PySem PySem.Spec PyProof.Rows L2 B
def gs(Γ : Calls)(ok:List Nat)(i:Nat)(fs:Sl->Hh->Res (List Val)):Sl->Hh->Res Val:=fun δ h=>match δ[i]? with
 | some (some (.fn f))=>if f∈ok then(fs δ h).bind fun xs h1=>Γ f xs h1 else .err
 | _=>.err
section
variable{C:Ct}{T:Nat->Option Df}{n i:Nat}{ok:List Nat}{x:Str}{e:Expr}{es:List Expr}{q pos:Pos}{fs:Sl->Hh->Res (List Val)}
def tCallV(p:Pm)(T:Nat->Option Df)(n:Nat)(ok:List Nat)(i:Nat)(E:L2.St->XK)(t:TA):TE:=fun σ H Q=>∃ f d,f∈ok/\T f=some d/\σ[i]?=some (some (.ref (p.fa f)))/\t σ H fun vs H1=>spM p d.np (ao T n f) vs H1 Q (E σ)
theorem uc(hc:aH C.p T n)(hok:∀ f∈ok,∃ d,T f=some d/\d.kw=[])(hk:3 * n<=C.k)(hN:C.N[i]?=some x)(hv:Vis C.sc x)(ha:SA C (e :: es) fs)(hd:(x == ("__debug__" : Str))=false:=by decide)(hcd:(x == ("__classdict__" : Str))=false:=by decide)
  (he:∀ env,starEach (e :: es) env=(false,eval e env) :: starEach es env:=by intro _; rfl) (hpl:∀ env,(backTo pos (starEach es env)).any (·.1)=false:=by intro _; rfl):SE C (.Call (.Name x q) (e :: es) [] pos) (gs (ao T n) ok i fs):=by
 obtain⟨t,pa,sa⟩:=ha;refine⟨fun W=>tCallV C.p T n ok i (L2.WE W) (t W),fun W X g=>⟨fun pins s σ H Q I ⟨f,d,hf,hT,hs,ht⟩=>?_⟩,fun W σ δ m h G H Q en w e=>?_⟩
 .obtain⟨d',hT',hkw⟩:=hok f hf;rw [hT] at hT'
  cases hT'
  obtain⟨fd,F,kp,b,_⟩:=hc f d hT;have hv':Vis X.env.scope x:=by rw [g.sc]; exact hv
  refine wpAny_Call_Name_kw (thn ((pe_var (pos:=q) (by rw [g.N]; exact hN) hv' hd hcd).run pins s σ H (fun v H1=>v = .ref (C.p.fa f)/\H1=H) I ⟨_,hs,rfl,rfl⟩) fun u s1 ⟨v,H1,I1,r1,q1⟩=>?_);obtain⟨rfl,rfl⟩:=q1
  cases r1
  refine PySem.W.callWith_K (h₀:=X.base) I.ok.mod.kin (by rw [g.K]; exact kp) (thn ((pa W X g).run pos pins s1 σ _ _ I1 ht) fun us s2 ⟨vs,H2,I2,r,q⟩=>⟨I2.kIn,?_⟩) (he _) (hpl _);have F':FnG X.prog X.w X.K X.mg X.base (L2.CX X.prog X.w) (3 * n) (C.p.fa f) fd d.ps (spM C.p d.np (ao T n f)):=by rw [g.prog,g.w,g.K,g.mg,g.base]; exact F
  exact lF (dvs:=[]) F' (g.room.mono hk) g.gd (by rw [g.K]; exact b hkw) .nil (passAt g.takes σ) I2 r (by rw [List.append_nil]; exact q)
 .unfold gs at e
  split at e
  .rename_i f hi
   split at e
   .rename_i hf;obtain⟨d,hT,hkw⟩:=hok f hf;obtain⟨v,hs,rv⟩:=en.get i _ hi
    cases rv
    refine⟨f,d,hf,hT,hs,sa W σ δ m h G H _ en w (aq.bind e fun xs h1 m1 G1 us H1 s1 w1 r1 e1=>?_)⟩;have hl:xs.length=d.np:=by
     by_cases z:xs.length=d.np
     .exact z
     .rw [iA hT z] at e1; exact e1.elim
    refine⟨by rw [r1.len]; exact hl,m1,h1,G1,xs,w1,r1,?_⟩
    cases hr:ao T n f xs h1 with
    | err=>rw [hr] at e1; exact e1
    | ok v h'=>rw [hr] at e1; exact e1
    | exc c fs h'=>rw [hr] at e1; exact e1
   .exact e.elim
  .exact e.elim
end
end M
namespace L2
open PySem PySem.Spec PyProof.Rows
abbrev dx2(kx vx t0 i0 t1 i1:Expr)(f0 f1:List Expr)(sc:Scope)(ps:Pos):Expr:=.DictComp kx vx [⟨t0,i0,f0,0⟩,⟨t1,i1,f1,0⟩] sc ps
section
variable{P:Program}{w:World}{A:Around}{R:Result->Shared->Prop}{kx vx t0 i0 t1 i1:Expr}{f0 f1:List Expr}{sc:Scope}{ps:Pos}{it acc:Value}{D:Addr}{en:Env}
abbrev nb(P:Program)(w:World)(A:Around)(en:Env)(R:Result->Shared->Prop):Value->Shared->Prop:=notedBy (model P w) A en fun e s'=>R (.error e) s'
abbrev tests(en:Env)(fs:List Expr):Sem Bool:=forIn fs true fun c r=>if r=true then do let ok <- isTrue c en (eval c en); pure (ForInStep.yield ok) else pure (ForInStep.yield r)
end
section
variable{X:Cx}
abbrev AllB(X:Cx)(sc:Scope)(F:Cx->Prop):Prop:=∀ (s:Shared) (H:Hp) (C:Addr) (cl:List (Str×Addr)) (fp:List Addr),F (X.blk s H sc (compEnvC sc cl C X.env) fp)
end
end L2
namespace M
open PySem PySem.Spec PyProof.Rows L2 B He
theorem tbl_of{K:PySem.W.Frag}{H:Hp}{cs:List (Addr×Addr)}(h1:∀ p∈cs,H p.2=some (.tbl #[]))(h2:(cs.map Prod.snd).Nodup):Tbl cs.length (fun k=>(cs.getD k (0,0)).2) H:=by
 have g:∀ k,k < cs.length->cs[k]?=some (cs.getD k (0,0)):=fun k hk=>by rw [List.getD_eq_getElem?_getD,List.getElem?_eq_getElem hk]; rfl
 refine⟨fun k hk=>h1 _ (List.mem_of_getElem? (g k hk)),fun i j hi hj e=>?_⟩;have a1:(cs.map Prod.snd)[i]?=some (cs.getD i (0,0)).2:=by rw [List.getElem?_map,g i hi]; rfl
 have a2:(cs.map Prod.snd)[j]?=some (cs.getD i (0,0)).2:=by
  have e:(cs.getD i (0,0)).2=(cs.getD j (0,0)).2:=e;rw [List.getElem?_map,g j hj,e]; rfl
 exact(List.getElem?_inj (by rw [List.length_map]; exact hi) h2).mp (a1.trans a2.symm)
end M
namespace M
open PySem PySem.Spec PyProof.Rows L2 B
section
variable{QV:Val->Hh->Prop}{δ : Sl}{h:Hh}{md:Md}{vs vs1:List Nat}{fw fw1:Sl->Hh->Res Wk}{tg tg1:Val->Sl->Option Sl}{fe:Sl->Hh->Res Val}{ft ft1:Sl->Hh->Res Bool}
theorem w_callV{Γ : Calls}{ok:List Nat}{i f:Nat}{fs:Sl->Hh->Res (List Val)}(e:δ[i]?=some (some (.fn f)))(hf:f∈ok)(q:wpR (fs δ h) fun xs h1=>wpR (Γ f xs h1) QV):wpR (gs Γ ok i fs δ h) QV:=by
 unfold gs;rw [e];dsimp only;rw [if_pos (by simpa using hf)];exact .bind q
theorem p8{fa fb:Sl->Hh->Res Val}(t:wpR (ft δ h) fun c h'=>c=true/\h'=h)(q:wpR (fa δ h) QV):wpR (mIf ft fa fb δ h) QV:=mM t (fun _=>q) fun e=>by cases e
theorem w_ifN{fa fb:Sl->Hh->Res Val}(t:wpR (ft δ h) fun c h'=>c=false/\h'=h)(q:wpR (fb δ h) QV):wpR (mIf ft fa fb δ h) QV:=mM t (fun e=>by cases e) fun _=>q
theorem mY{f g:Sl->Hh->aD}{P:Po}(t:wpR (ft δ h) fun c h'=>c=true/\h'=h)(q:wpS (f δ h) P):wpS (bZ ft f g δ h) P:=eg t (fun _=>q) fun e=>by cases e
theorem iM{f g:Sl->Hh->aD}{P:Po}(t:wpR (ft δ h) fun c h'=>c=false/\h'=h)(q:wpS (g δ h) P):wpS (bZ ft f g δ h) P:=eg t (fun e=>by cases e) fun _=>q
end
end M
namespace M
open PySem PySem.Spec PyProof.Rows L2 B He
def jB(as:List Addr)(fa:List Fa)(fn:List DefD)(xs:List (PySem.W.Frag->Bool))(tf:List Defn)(ts:List Tab)(g:Addr->Option Obj):AlL:=obsLK fa fn xs tf ts g (frT g as)
theorem ue{as:List Addr}{fa:List Fa}{fn:List DefD}{xs:List (PySem.W.Frag->Bool)}{tf:List Defn}{ts:List Tab}{w:World}{h:Heap}(e:jB as fa fn xs tf ts h.get?=valL fn ts w):SaysL fa fn xs tf ts w h (frT h.get? as):=by
 have e0:(jB as fa fn xs tf ts h.get?).1=M.valX fn:=congrArg (fun z:AlL=>z.1) e;have e9:(ts.map fun t=>dicW (frT h.get? as) (t.1 (frT h.get? as)))=ts.map fun t=>some (keysIn w.params t.2):=congrArg (fun z:AlL=>z.2) e;obtain⟨h1,h2⟩:=ba (congrArg (fun z:M.AlX=>z.2) e0:_=true);have key:∀ p∈tf,PySem.W.codeHdIn (frT h.get? as) (cT (frT h.get? as) p).1 (cT (frT h.get? as) p).2=true/\∃ o,h.get? (cT (frT h.get? as) p).2=some o/\emptyTab o=true:=by
  intro p hp;obtain⟨a,b⟩:=ba (List.all_eq_true.mp h2 p hp);rcases hq:h.get? (cT (frT h.get? as) p).2 with _ | o
  .rw [hq] at b; cases b
  .rw [hq] at b; exact⟨a,o,rfl,b⟩
 have h0:(jB as fa fn xs tf ts h.get?).1.1=(M.valX fn).1:=congrArg (fun z:M.AlX=>z.1) e0;refine⟨Prod.ext h0 h1,fun p hp=>(key p hp).1,fun p hp=>let ⟨_,_,a,b⟩:=key p hp; frT_none a b,fun p hp=>let ⟨_,_,a,b⟩:=key p hp; by rw [a,emptyTab_eq b],fun t ht=>?_⟩;obtain⟨i,hi⟩:=List.mem_iff_getElem?.mp ht;have e2:=congrArg (fun l=>l[i]?) e9
 try dsimp only at e2
 rw [List.getElem?_map,List.getElem?_map,hi] at e2;exact dicW_ok (Option.some.inj e2)
def hookA(as:List Addr)(fa:List Fa)(fn:List DefD)(xs:List (PySem.W.Frag->Bool))(tf:List Defn)(ts:List Tab):PySem.W.Hook where
 α:=AlL
 obs s:=jB as fa fn xs tf ts s.heap.get?
 val w:=valL fn ts w
 says w h:=∃ K:PySem.W.Frag,K.In h/\SaysL fa fn xs tf ts w h K
 of _ _ e:=⟨_,frT_in,ue e⟩
 keeps _ _ _:=fun⟨K,hK,c⟩ k=>⟨K,hK.keeps k,c.x,c.hd,c.out,fun p hp=>k _ _ (c.nil p hp),c.tab⟩
theorem uH{as:List Addr}{fa:List Fa}{fn:List DefD}{xs:List (PySem.W.Frag->Bool)}{tf:List Defn}{ts:List Tab}{g:Addr->Option Obj}{s:Shared}(h:∀ a,g a=s.heap.get? a):jB as fa fn xs tf ts g=(hookA as fa fn xs tf ts).obs s:=congrArg (jB as fa fn xs tf ts) (funext h)
theorem map3{α β γ δ : Type}{o:Option α}{f:α->β}{g:α->γ}{k:α->δ}{x:β}{y:γ}{z:δ}(h1:o.map (fun s=>(f s,g s))=some (x,y))(h3:o.map k=some z):o.map (fun s=>(f s,g s,k s))=some (x,y,z):=by
 cases o with
 | none=>cases h1
 | some s =>
  injection h1 with h1
  injection h1 with h1 h2
  injection h3 with h3
  show some (f s,g s,k s)=_;rw [h1,h2,h3]
section
open PySem PySem.W PySem.Calls PyProof.Rows HandSHeadRun
def RunA(r:OpenRow)(q:Program)(N:Nat)(loose:List PySem.Str)(w:World):Prop :=
 ∀ os:OsState,(endF (stepQ (denQ tabQ) r.prog w) N r.prog w os).map (fun s=>(looksF r.prog (boot_heap w.params) s.abs,HandSHeadRun.seenQ q loose (importedModules r.prog.main.body) (fun s=>xlAt q [] s && recOk r.toRowW.records s) s.abs))=some (true,openGood q loose)
def RunB(r:OpenRow)(H:Hook)(ob:SharedT->H.α)(N:Nat)(w:World):Prop :=
 ∀ os:OsState,(endF (stepQ (denQ tabQ) r.prog w) N r.prog w os).map ob=some (H.val w)
theorem uk{r:OpenRow}{q:Program}{H:Hook}{ob:SharedT->H.α}{N:Nat}{loose:List PySem.Str}{w:World}(a:RunA r q N loose w)(b:RunB r H ob N w):RunEq r q H ob N loose w:=fun os=>map3 (a os) (b os)
end
def noatB(x:Str)(fl:List Str)(K:PySem.W.Frag):Bool:=fl.all fun f=>(Fa.noat x f).ok K
theorem noatB_ok{x:Str}{fl:List Str}{K:PySem.W.Frag}(h:noatB x fl K=true)(f:Nat)(hf:f < fl.length):NoAttr K (ga K x) (nmX fl f):=noat_ok (List.all_eq_true.mp h _ (by unfold nmX; rw [List.getElem?_eq_getElem hf]; exact List.getElem_mem hf))
section
variable{C:Ct}{x:Str}{pos q:Pos}{a b e:Expr}{es:List Expr}{fa fb:Sl->Hh->Res Val}{vs:List Nat}{T:Nat->Option Df}{n f:Nat}{d:Df}{fs:Sl->Hh->Res (List Val)}
theorem va(i:Nat)(hN:C.N[i]?=some x)(hv:C.sc.names.lookup x=some .local)(hd:(x == ("__debug__" : Str))=false:=by decide)(hcd:(x == ("__classdict__" : Str))=false:=by decide):SE C (.Name x pos) (ah i):=oP hN (.inl hv) hd hcd
theorem vb(i:Nat)(hN:C.N[i]?=some x)(hv:C.sc.names.lookup x=some .cell)(hd:(x == ("__debug__" : Str))=false:=by decide)(hcd:(x == ("__classdict__" : Str))=false:=by decide):SE C (.Name x pos) (ah i):=oP hN (.inr (.inl hv)) hd hcd
theorem vc(i:Nat)(hN:C.N[i]?=some x)(hv:Vis C.sc x:=by first | exact .inl rfl | exact .inr (.inl rfl) | exact .inr (.inr rfl))(hd:(x == ("__debug__" : Str))=false:=by decide)(hcd:(x == ("__classdict__" : Str))=false:=by decide):SE C (.Name x pos) (ah i):=oP hN hv hd hcd
theorem na(i:Nat)(hN:C.N[i]?=some x)(hl:C.sc.names.lookup x=some .local)(hi:i∈vs:=by decide):SG C (.Name x pos) vs (tgN i):=qp hN (.inl hl) hi
theorem nb(i:Nat)(hN:C.N[i]?=some x)(hl:C.sc.names.lookup x=some .cell)(hf:C.fn x=true)(hi:i∈vs:=by decide):SG C (.Name x pos) vs (tgN i):=qp hN (.inr ⟨hl,hf⟩) hi
theorem sb(ha:SE C a fa)(hb:SE C b fb)(hs:PlainIx b:=by exact fun _ _=>rfl):SE C (.Subscript a b pos) (m2 au fa fb):=se_sub' hs ha hb
theorem cl(hc:aH C.p T n)(hT:T f=some d)(hm:C.p.mg x=some (.ref (C.p.fa f)))(ha:SA C (e :: es) fs)(hk0:d.kw=[]:=by rfl)(hk:3 * n<=C.k:=by exact Nat.le_add_right _ _)(hl:C.sc.names.lookup x=some .globalImplicit:=by rfl)(hdb:(x == ("__debug__" : Str))=false:=by decide)
  (he:∀ env,starEach (e :: es) env=(false,eval e env) :: starEach es env:=by intro _; rfl) (hpl:∀ env,(backTo pos (starEach es env)).any (·.1)=false:=by intro _; rfl):SE C (.Call (.Name x q) (e :: es) [] pos) (aA (ao T n) f fs):=se_call hc hT hk0 hk hm hl ha hdb he hpl
end
end M
namespace M
open PySem PySem.Spec PyProof.Rows L2 B
def kH(h:Hh)(x y v:Val):Option Hh:=match x with
 | .ref r=>match h.get r with
  | some (.lst xs)=>match y with
   | .int k=>match ixN xs.length k with
    | some j=>if v.nl=true then some (h.set r (.lst (xs.set j v))) else none
    | none=>none
   | _=>none
  | _=>none
 | _=>none
section
variable{p:Pm}
theorem qy{m:Rf->Addr}{hs:Rf->Prop}{G:Hp}{u:V}{x:Val}(r:Rv p m hs G u x):∀ {xs:List Val} {us:List V} (j:Nat),RvA p m hs G us xs->RvA p m hs G (us.set j u) (xs.set j x)
 | [],_,_,h=>by cases h; exact .nil
 | _ :: _,_,0,h=>by cases h with | cons h1 h2=>exact .cons r h2
 | _ :: _,_,j + 1,h=>by cases h with | cons h1 h2=>exact .cons h1 (qy r j h2)
theorem qI{v:Val}:∀ {xs:List Val} (j:Nat),Val.nls xs=true->v.nl=true->Val.nls (xs.set j v)=true
 | [],_,_,_=>rfl
 | x :: xs,0,h,hv=>by
  have h:(x.nl && Val.nls xs)=true:=h;show(v.nl && Val.nls xs)=true;rw [hv,Bool.true_and]; exact(Bool.and_eq_true_iff.mp h).2
 | x :: xs,j + 1,h,hv=>by
  have h:(x.nl && Val.nls xs)=true:=h;have h:=Bool.and_eq_true_iff.mp h;show(x.nl && Val.nls (xs.set j v))=true;rw [h.1,Bool.true_and]; exact qI j h.2 hv
theorem uT{m:Rf->Addr}{h h':Hh}{G H:Hp}{u v z:V}{x y d:Val}(w:Wo p m h G H)(rx:Rv p m h.has G u x)(ry:Rv p m h.has G v y)(rz:Rv p m h.has G z d)(e:kH h x y d=some h') :
  ∃ a us k j,u = .ref a/\v = .int k/\H a=some (.lst us)/\ixN us.length k=some j/\Stp m h G H m h' G (upd H a (.lst (us.set j z)))/\Wo p m h' G (upd H a (.lst (us.set j z))):=by
 unfold kH at e
 split at e
 .split at e
  .rename_i xs hc
   split at e
   .rename_i k
    split at e
    .rename_i j hj
     split at e
     .rename_i hnv
      cases e
      obtain⟨_,hn,o,h3,h4⟩:=w.cel _ _ hc
      cases rx
      cases ry
      cases h4 with
      | lst h4 =>
       have ww:=w.mut hc (c:=.lst (xs.set j d)) (o:=.lst (_)) (qI j hn hnv) (.lst (qy rz j h4));exact⟨_,_,k,j,rfl,rfl,h3,by rw [h4.len]; exact hj,ww.2,ww.1⟩
     .cases e
    .cases e
   .cases e
  .cases e
 .cases e
end
def uP(fo fi fv:Sl->Hh->Res Val):Sl->Hh->aD:=fun δ h=>(fv δ h).st δ fun z h1=>(fo δ h1).st δ fun x h2=>(fi δ h2).st δ fun y h3=>match kH h3 x y z with
 | some h4=>.nx δ h4
 | none=>.err
section
variable{C:Ct}{e o i:Expr}{pos pos':Pos}{fa fb fc:Sl->Hh->Res Val}
theorem ss_lput(ho:SE C o fa)(hi:SE C i fb)(hv:SE C e fc)(hs:∀ env,swapsWithSole [.Subscript o i pos'] e pos.line env=pure false:=by intro _; rfl)(hw:∀ env,swappedStores [.Subscript o i pos'] e env=pure none:=by intro _; rfl)
  (ha:∀ env v,assign (.Subscript o i pos') env v=(do let ov <- holding [v] (eval o env); let iv <- holding [v,ov] (eval i env); standAt pos'; holding [v,ov,iv] (setItem ov iv v); release [v,ov,iv] []):=by intro _ _; rfl):SS C (.Assign [.Subscript o i pos'] e pos) (uP fa fb fc):=by
 obtain⟨ta,pa,sa⟩:=ho;obtain⟨tb,pb,sb⟩:=hi;obtain⟨tc,pc,sc⟩:=hv;refine⟨fun W=>tAsg (tc W) (gSub (ta W) (tb W) rSetL),fun W X g=>ps_asg (pc W X g) (pg_sub (pa W X g) (pb W X g) set_list (ha _)) (hs _) (hw _),fun W σ δ m h G H E en w e=>sc W σ δ m h G H _ en w (bK.ex en e fun z h1 m1 G1 zv H1 s1 w1 r1 e1=>?_)⟩;refine sa W σ δ m1 h1 G1 H1 _ (en.stp s1) w1 (bK.ex (en.stp s1) e1 fun x h2 m2 G2 u H2 s2 w2 r2 e2=>?_);refine sb W σ δ m2 h2 G2 H2 _ (en.stp (s1.trans s2)) w2 (bK.ex (en.stp (s1.trans s2)) e2 fun y h3 m3 G3 v H3 s3 w3 r3 e3=>?_)
 split at e3
 .rename_i h4 hp;obtain⟨a,us,k,j,rfl,rfl,h5,h6,s4,w4⟩:=uT w3 (Rv.stp s3 r2) r3 (Rv.stp (s2.trans s3) r1) hp;exact⟨a,us,k,j,rfl,rfl,h5,h6,e3 m3 G3 σ _ s4 w4 (en.stp (((s1.trans s2).trans s3).trans s4))⟩
 .exact e3.elim
end
section
variable{δ : Sl}{h:Hh}{P:Po}{fo fi fv:Sl->Hh->Res Val}
theorem s_subL(q:wpR (fv δ h) fun z h1=>wpR (fo δ h1) fun x h2=>wpR (fi δ h2) fun y h3=>∃ h4,kH h3 x y z=some h4/\P.nx δ h4):wpS (uP fo fi fv δ h) P:=.st (q.mono fun _ _ q=>.st (q.mono fun _ _ q=>.st (q.mono fun _ _ ⟨h4,e,q⟩=>by rw [e]; exact⟨q⟩)))
theorem k_putI{c:Val}{s l:Int}{g:GG}{L:List Cel}{xs:List Val}{i j:Nat}{v:Val}{R:Hh->Prop}(e:L[i]?=some (.lst xs))(hj:j < xs.length)(hn:v.nl=true)(q:R (hT c s l g (L.set i (.lst (xs.set j v))))):∃ h4,kH (hT c s l g L) (.ref (.loc i)) (.int (j:Nat)) v=some h4/\R h4:=by
 refine⟨_,?_,q⟩;have hg:(hT c s l g L).get (.loc i)=some (.lst xs):=e;have hx:ixN xs.length (j:Int)=some j:=by
  unfold ixN;rw [if_pos (by omega),if_pos (by omega)]; rfl
 unfold kH;dsimp only;rw [hg];dsimp only;rw [hx];dsimp only;rw [if_pos hn]; rfl
end
end M
namespace M
open PySem PySem.Spec PyProof.Rows L2 B
theorem qR{p:Pm}{x:Str}{f:Nat}(h:p.mg x=some (.ref (p.fa f))):hR p x (.fn f):=⟨_,.ref (p.fa f),h,rfl,fun _ _ _=>.fn f⟩
end M
namespace M
open PySem PySem.Spec PyProof.Rows L2 B
def FG:Str:="0123456789"
def bx(z:Str):Str:=if decide (cutS z none (some 1)=("-" : Str))=true then cutS z (some 1) none else z
def allF(f:Str):Bool:=(f.cps.toList.map fun c=>decide (c∈FG.cps.toList)).all id
def iB(z:Str):Bool:=decide (bx z=("" : Str)) || (decide (10 < (bx z).length) || !allF (bx z))
def iq(z:Str):Bool:=decide (chS ((bx z).cps.toList.headD 0)=("0" : Str)) && !decide (z=("0" : Str))
def aF(z:Str):Option Int:=if iB z=true then none else if iq z=true then none else PySem.intText? z
def onI:Option Int->Val
 | some i=>.int i
 | none=>.non
theorem fg_mem{c:Nat}:c∈FG.cps.toList↔48<=c/\c<=57:=by
 have e:FG.cps.toList=[48,49,50,51,52,53,54,55,56,57]:=by decide +kernel
 rw [e]
 simp only [List.mem_cons,List.not_mem_nil,or_false]
 omega
theorem hO{f:Str}:allF f=true↔NumText.AllDigits f.cps.toList:=by
 unfold allF;rw [List.all_map,List.all_eq_true]
 constructor
 .intro h c hc;exact fg_mem.mp (of_decide_eq_true (h c hc))
 .intro h c hc;exact decide_eq_true (fg_mem.mpr (h c hc))
theorem str_len{z:Str}:z.cps.toList.length=z.length:=Array.length_toList
theorem qf{a b:Str}(h:a.cps.toList=b.cps.toList):a=b:=by
 obtain⟨a⟩:=a;obtain⟨b⟩:=b;have:a=b:=Array.toList_inj.mp h;rw [this]
theorem tP{z:Str}(h:z≠("" : Str)):z.cps.toList≠[]:=fun e=>h (qf e)
theorem qV{z:Str}:(cutS z none (some 1)).cps.toList=z.cps.toList.take 1:=by
 show(z.cps.toList.drop (HT.sIx z.length 0 none)).take (HT.sIx z.length z.length (some ((1:Nat):Int)) - HT.sIx z.length 0 none)=_;rw [HT.sIx_none,HT.sIx_nat,List.drop_zero,Nat.sub_zero,<- str_len]
 cases z.cps.toList with
 | nil=>rfl
 | cons a b =>
  have e:min 1 (a :: b).length=1:=by rw [List.length_cons]; omega
  rw [e]
theorem dN{z:Str}:(cutS z (some 1) none).cps.toList=z.cps.toList.drop 1:=by
 show(z.cps.toList.drop (HT.sIx z.length 0 (some ((1:Nat):Int)))).take (HT.sIx z.length z.length none - HT.sIx z.length 0 (some ((1:Nat):Int)))=_;rw [HT.sIx_none,HT.sIx_nat,<- str_len]
 cases z.cps.toList with
 | nil=>rfl
 | cons a b =>
  have e:min 1 (a :: b).length=1:=by rw [List.length_cons]; omega
  rw [e];show b.take (b.length + 1 - 1)=b;rw [Nat.add_sub_cancel,List.take_length]
theorem il{z:Str}(h:cutS z none (some 1)=("-" : Str)):z.cps.toList=45 :: (cutS z (some 1) none).cps.toList:=by
 have e:=qV (z:=z);rw [h] at e;rw [dN];have e2:(Str.ofString "-").cps.toList=[45]:=by decide +kernel
 rw [e2] at e
 cases hz:z.cps.toList with
 | nil=>rw [hz] at e; cases e
 | cons a b =>
  rw [hz] at e;have e:[45]=[a]:=e
  injection e with e
  rw [<- e]; rfl
theorem oh{z:Str}:(bx z).length<=z.length:=by
 unfold bx
 split
 .rw [<- str_len,dN,List.length_drop,str_len]; omega
 .exact Nat.le_refl _
theorem nM{z:Str}(h:iB z=false):(∃ n,PySem.intText? z=some n)/\z.length<=640/\0 < (bx z).cps.toList.length:=by
 unfold iB at h;obtain⟨h1,h2⟩:=Bool.or_eq_false_iff.mp h;obtain⟨h2,h3⟩:=Bool.or_eq_false_iff.mp h2;have h1:=tP (of_decide_eq_false h1);have h2:(bx z).length<=10:=by have:=of_decide_eq_false h2; omega
 have h3:=hO.mp (by simpa using h3);have h0:0 < (bx z).cps.toList.length:=List.length_pos_iff.mpr h1;unfold bx at *
 by_cases hm:cutS z none (some 1)=("-" : Str)
 .rw [if_pos (decide_eq_true hm)] at *;have e:=il hm;have hl:z.length<=11:=by
   rw [<- str_len,e,List.length_cons,str_len]; omega
  exact⟨⟨_,PySem.intText_neg e h3 h1 (by omega)⟩,by omega,h0⟩
 .rw [if_neg (by rw [decide_eq_false hm]; decide)] at *;exact⟨⟨_,PySem.intText_digits h3 h1 (by omega)⟩,by omega,h0⟩
theorem kB:∀ n:Nat,(TL.numL n).headD 0=48->n=0:=by
 intro n
 induction n using Nat.strongRecOn with
 | _ n ih =>
  by_cases h:n < 10
  .rw [TL.numL_lt h];intro e;have:48 + n=48:=e;omega
  .rw [TL.numL_step (by omega)];intro e;have hne:=TL.numL_ne (n / 10)
   cases hx:TL.numL (n / 10) with
   | nil=>exact absurd hx hne
   | cons a b =>
    rw [hx] at e;have e:a=48:=e;have:=ih (n / 10) (by omega) (by rw [hx]; exact e);omega
theorem gz{m:Nat}:(Str.ofString (toString ((m:Nat):Int))).cps.toList=TL.numL m:=TL.tl_num m
theorem jA(s:String):(Str.ofString s).cps.toList=s.toList.map Char.toNat:=by
 first
 | exact(by rw [PySem.Str.ofString_eq_toList])
 | (rw [PySem.Str.ofString_eq_toList]; simp)
theorem i8{m:Nat}:(Str.ofString (toString (-((m + 1:Nat):Int)))).cps.toList=45 :: TL.numL (m + 1):=by
 have e:toString (-((m + 1:Nat):Int)) = "-" ++ toString ((m + 1:Nat):Int):=rfl;have h:(Str.ofString (toString ((m + 1:Nat):Int))).cps.toList=TL.numL (m + 1):=gz;rw [jA] at h;rw [e,jA,String.toList_append,List.map_append,h]
 rfl
theorem nN{z:Str}{n:Int}(h1:iB z=false)(h2:iq z=false)(h3:PySem.intText? z=some n):aF z=some n:=by
 unfold aF;rw [if_neg (by rw [h1]; decide),if_neg (by rw [h2]; decide),h3]
theorem chS_eq{c d:Nat}(h:chS c=chS d):c=d:=by
 have e:=congrArg (fun z:Str=>z.cps.toList) h;have e:[c]=[d]:=e
 injection e
theorem gr{i:Int}(h:-9999999999<=i/\i<=9999999999):aF (Str.ofString (toString i))=some i:=by
 have hz0:("0" : Str)=chS 48:=by decide +kernel
 have hlen:∀ m:Nat,m<=9999999999->(TL.numL m).length<=10:=fun m hm=>TL.numL_len (k:=10) (by decide) (Nat.lt_of_le_of_lt hm (by decide))
 by_cases h0:0<=i
 .obtain⟨m,rfl⟩:=Int.eq_ofNat_of_zero_le h0;have ez:=gz (m:=m);generalize hz:Str.ofString (toString ((m:Nat):Int))=z at *;have hl:=hlen m (by omega);have hd:NumText.AllDigits z.cps.toList:=by rw [ez]; exact TL.numL_digits m
  have hne:z.cps.toList≠[]:=by rw [ez]; exact TL.numL_ne m
  have hf:bx z=z:=by
   unfold bx;rw [if_neg];intro e;have e:=il (of_decide_eq_true e);have:=hd 45 (by rw [e]; exact List.mem_cons_self);omega
  have hb:iB z=false:=by
   unfold iB;rw [hf,hO.mpr hd,decide_eq_false (show ¬ 10 < z.length by rw [<- str_len,ez]; omega),decide_eq_false (fun e:z=("" : Str)=>hne (by rw [e]; decide +kernel))]
   rfl
  have hl2:iq z=false:=by
   unfold iq;rw [hf]
   by_cases e:chS (z.cps.toList.headD 0)=("0" : Str)
   .rw [hz0] at e;have e:=chS_eq e;rw [ez] at e;have hm:=kB m e;subst hm;have:z=("0" : Str):=by rw [<- hz]; decide +kernel
    rw [this]; decide +kernel
   .rw [decide_eq_false e]; rfl
  refine nN hb hl2 ?_;rw [PySem.intText_digits hd hne (by rw [<- str_len,ez]; omega),ez,TL.numL_val]
 .obtain⟨m,rfl⟩:∃ m:Nat,i = -((m + 1:Nat):Int):=⟨(-i).toNat - 1,by omega⟩;have ez:=i8 (m:=m);generalize hz:Str.ofString (toString (-((m + 1:Nat):Int)))=z at *;have hl:=hlen (m + 1) (by omega);have hc:cutS z none (some 1)=("-" : Str):=qf (by rw [qV,ez]; show [45]=_; decide +kernel);have hf:(bx z).cps.toList=TL.numL (m + 1):=by
   unfold bx;rw [if_pos (decide_eq_true hc),dN,ez]; rfl
  have hd:NumText.AllDigits (bx z).cps.toList:=by rw [hf]; exact TL.numL_digits _
  have hne:(bx z).cps.toList≠[]:=by rw [hf]; exact TL.numL_ne _
  have hb:iB z=false:=by
   unfold iB;rw [hO.mpr hd,decide_eq_false (show ¬ 10 < (bx z).length by rw [<- str_len,hf]; omega),decide_eq_false (fun e:bx z=("" : Str)=>hne (by rw [e]; decide +kernel))]
   rfl
  have hl2:iq z=false:=by
   unfold iq
   by_cases e:chS ((bx z).cps.toList.headD 0)=("0" : Str)
   .rw [hz0] at e;have e:=chS_eq e;rw [hf] at e;exact absurd (kB _ e) (by omega)
   .rw [decide_eq_false e]; rfl
  refine nN hb hl2 ?_;rw [PySem.intText_neg ez (TL.numL_digits _) (TL.numL_ne _) (by rw [<- str_len,ez,List.length_cons]; omega),TL.numL_val]
theorem g8:∀ (cs:List Nat) (a:Nat),NumText.AllDigits cs->cs.foldl (fun acc c=>acc * 10 + (c - 48)) a < (a + 1) * 10 ^ cs.length
 | [],a,_=>by simp
 | c :: cs,a,h=>by
  rw [List.foldl_cons,List.length_cons];have h1:=g8 cs (a * 10 + (c - 48)) h.tail;have h2:=h.head;refine Nat.lt_of_lt_of_le h1 ?_;rw [Nat.pow_succ,Nat.mul_comm (10 ^ cs.length) 10,<- Nat.mul_assoc];exact Nat.mul_le_mul_right _ (by omega)
theorem kL{cs:List Nat}(h:NumText.AllDigits cs)(hl:cs.length<=10):NumText.digitsVal cs<=9999999999:=by
 have h1:=g8 cs 0 h;have h2:10 ^ cs.length<=10 ^ 10:=Nat.pow_le_pow_right (by decide) hl;unfold NumText.digitsVal;have e:(10:Nat) ^ 10=10000000000:=by decide
 omega
theorem jE{z:Str}{i:Int}(h:aF z=some i):-9999999999<=i/\i<=9999999999:=by
 unfold aF at h
 split at h
 .cases h
 .rename_i hb
  split at h
  .cases h
  .have hb:=Bool.not_eq_true _ |>.mp hb
   unfold iB at hb;obtain⟨h1,h2⟩:=Bool.or_eq_false_iff.mp hb;obtain⟨h2,h3⟩:=Bool.or_eq_false_iff.mp h2;have h1:=tP (of_decide_eq_false h1);have h2:(bx z).length<=10:=by have:=of_decide_eq_false h2; omega
   have h3:=hO.mp (by simpa using h3);unfold bx at h1 h2 h3
   by_cases hm:cutS z none (some 1)=("-" : Str)
   .rw [if_pos (decide_eq_true hm)] at h1 h2 h3;have e:=il hm;have hl:z.length<=11:=by rw [<- str_len,e,List.length_cons,str_len]; omega
    rw [PySem.intText_neg e h3 h1 (by omega)] at h;have:=kL h3 (by rw [str_len]; exact h2)
    injection h with h
    omega
   .rw [if_neg (by rw [decide_eq_false hm]; decide)] at h1 h2 h3;rw [PySem.intText_digits h3 h1 (by omega)] at h;have:=kL h3 (by rw [str_len]; exact h2)
    injection h with h
    omega
end M
namespace M
open PySem PySem.Spec PyProof.Rows L2 B
abbrev kerr:List Value:=[.type "KeyError",.type "LookupError",.type "Exception",.type "BaseException",.type "object"]
abbrev verr:List Value:=[.type "ValueError",.type "Exception",.type "BaseException",.type "object"]
abbrev ierr:List Value:=[.type "IndexError",.type "LookupError",.type "Exception",.type "BaseException",.type "object"]
structure NB(B own newId initId:String)(bm:List Value):Prop where
 ends:newId.endsWith ".__new__" = true
 owner:newId.dropRight 8=own
 entry:entryFor table newId=some Builtin.«BaseException.__new__»
 quiet:newId.startsWith "lifetime." = false
 split:splitId newId=some (own,"__new__")
 kind:builtinKind newId=some .builtinFn
 row:Manifest.signature? newId=some ⟨.any,own,own,.cls,[⟨"args",.varPos,false⟩,⟨"kwargs",.varKw,false⟩]⟩
 star:(own != "*")=true
 canon:Manifest.canonical newId=Manifest.canonical "BaseException.__new__"
 hasO:bm.contains (.type own)=true
 hasX:bm.contains (.type "BaseException")=true
 noA:bm.contains (.type "AttributeError")=false
 noN:bm.contains (.type "NameError")=false
 init:Slot B "__init__" initId
 iEntry:entryFor table initId=some Builtin.«BaseException.__init__»
 iSplit:splitId initId=some (B,"__init__")
 iKind:builtinKind initId=some .slot
 iRow:Manifest.signature? initId=some ⟨.positional,"*",B,.self,[⟨"args",.varPos,false⟩]⟩
 hasB:bm.contains (.type B)=true
 iStar:(B != "*")=true
 st:StoreFacts B bm "object.__setattr__" "object"
 ty:typeOf (.type B)=pure (.type "type")
 bt:bootBuiltins B=some (.type B)
 stub:Manifest.isStub B=false
 hnd:PySem.W.handedIn (.builtin initId)=true
theorem i4:StoreFacts "KeyError" kerr "object.__setattr__" "object" :=
 ⟨by kernel_rfl,.of (owner:="object") (n:="__setattr__") (by rw [typeLookup_type,builtinLookup_eq_fast]; kernel_rfl) (by decide +kernel) (by decide +kernel) (by decide +kernel) (by first | exact .inl (by decide +kernel) | exact .inr (by decide +kernel)) (by rw [isSubtype_type]; kernel_rfl),PySem.F.entry_object_sa,by decide +kernel,by decide +kernel,by decide +kernel,(fun a b c=>by unfold argsOk; kernel_rfl),fun self=>by kernel_rfl⟩
theorem nbK:NB "KeyError" "LookupError" "LookupError.__new__" "KeyError.__init__" kerr :=
 have F:=PySem.F.excBase_LookupError
 ⟨F.ends,F.owner,F.entry,F.quiet,F.newSplit,F.newKind,F.newRow,F.noStar,F.canon,by decide +kernel,by decide +kernel,by decide +kernel,by decide +kernel,
  .of (owner:="KeyError") (n:="__init__") (by rw [typeLookup_type,builtinLookup_eq_fast]; kernel_rfl) (by decide +kernel) (by decide +kernel) (by decide +kernel) (by first | exact .inl (by decide +kernel) | exact .inr (by decide +kernel)) (by rw [isSubtype_type]; kernel_rfl),
  (entryFor_alias (id':="BaseException.__init__") (by rw [fastTable_eq_tree]; kernel_rfl) (by first | rfl | decide +kernel) (by decide +kernel) (by rw [fastTable_eq_tree]; kernel_rfl)),by kernel_rfl,by kernel_rfl,by kernel_rfl,by decide +kernel,by decide +kernel,i4,by kernel_rfl,by kernel_rfl,by decide +kernel,by decide +kernel⟩
theorem nbV:NB "ValueError" "ValueError" "ValueError.__new__" "ValueError.__init__" verr :=
 have F:=PySem.F.excBase_ValueError
 ⟨F.ends,F.owner,F.entry,F.quiet,F.newSplit,F.newKind,F.newRow,F.noStar,F.canon,F.hasB,F.hasBase,F.noAttr,F.noName,F.init,F.initEntry,F.initSplit,F.initKind,F.initRow,F.hasB,F.noStar,PySem.F.store_ValueError,by kernel_rfl,by kernel_rfl,by decide +kernel,by decide +kernel⟩
theorem nbI:NB "IndexError" "IndexError" "IndexError.__new__" "IndexError.__init__" ierr :=
 have F:=PySem.F.excBase_IndexError
 ⟨F.ends,F.owner,F.entry,F.quiet,F.newSplit,F.newKind,F.newRow,F.noStar,F.canon,F.hasB,F.hasBase,F.noAttr,F.noName,F.init,F.initEntry,F.initSplit,F.initKind,F.initRow,F.hasB,F.noStar,PySem.F.store_IndexError,by kernel_rfl,by kernel_rfl,by decide +kernel,by decide +kernel⟩
section
variable{prog:Program}{w:World}{A:Around}{E:Value->Shared->Prop}{R:Result->Shared->Prop}{h:Heap}{g:Array GenState}{d:Drawn}{t:Nat}{os:OsState}{K:PySem.W.Frag}
variable{nm q:Str}{C N:Addr}{bs bm:List Value}{hdct:Bool}{sn:List Str}{sub:List Value}{ab:Bool}{col:Option Bool}{dd:Option Addr}{k0 k1 k2 k3 k5:Option Value}{B own newId initId:String}
theorem uO{M:Model}(F:NB B own newId initId bm){rest:List Value}{Q:Unit->Shared->Prop}(hC:h.get? C=some (excClassObj nm q C N bs bm hdct sn sub ab col dd k0 k1 k2 k3 k5 newId))(hq:Q () ⟨h,g,d,t,os⟩):wpAny M A (checkBuiltinCall newId ⟨.ref C :: rest,[]⟩) Q E ⟨h,g,d,t,os⟩:=by
 have hcont:(Value.ref C :: bm).contains (.type own)=true:=by rw [List.contains_cons,F.hasO,Bool.or_true]
 have z:=F.star
 simp only [checkBuiltinCall,F.kind,F.split,F.row]
 repeat (first | (refine wpAny_loadPart_at hC ?_) | (refine wpAny_isSubtype_exc hC ?_; rw [hcont]) | (refine wpAny_staticBase_exc hC ?_) | (refine wpAny_madeBy_exc hC ?_) | (simp only [bne_self_eq_false,Bool.false_eq_true,if_false]) | wp_step)
 exact hq
theorem nb_new(F:NB B own newId initId bm){rest:List Value}(hC:h.get? C=some (excClassObj nm q C N bs bm hdct sn sub ab col dd k0 k1 k2 k3 k5 newId))
  (hq:R (.ok (.ret (.ref (h.objs.size + 1)))) ⟨(h.push (PySem.W.kdv_tup rest)).push (HandSPX.excO C h.objs.size),g,d,t,os⟩) (hz:rest.length<=sizeLine):codeAny (model prog w) A (.builtin newId ⟨.ref C :: rest,[]⟩) R ⟨h,g,d,t,os⟩:=by
 have z:=F.ends;have c1:(Value.ref C :: bm).contains (.type own)=true:=by rw [List.contains_cons,F.hasO,Bool.or_true]
 have c2:(Value.ref C :: bm).contains (.type "AttributeError")=false:=by rw [List.contains_cons,F.noA]; rfl
 have c3:(Value.ref C :: bm).contains (.type "NameError")=false:=by rw [List.contains_cons,F.noN]; rfl
 refine codeAny_builtinAt F.entry ?_;unfold Builtin.«BaseException.__new__»;refine PySem.wpAt_bind ?_;show PySem.wpAt _ _ _ (stack >>= _) _ _ _;refine PySem.wpAt_bind (PySem.wpAt_stack fun p below=>PySem.wpAt_of_wpAny ?_)
 wp_walk
 refine PySem.wpAt_of_wpAny ?_;rw [F.owner]
 repeat (first | (with_reducible refine wpAny_madeHere_exc F.canon hC ?_) | (with_reducible refine wpAny_loadPart_at hC ?_) | (with_reducible refine wpAny_isSubtype_exc hC ?_; first | rw [c1] | rw [c2] | rw [c3]) | wp_step)
 show R _ _;rw [Heap.size_push];exact hq
theorem nb_type(F:NB B own newId initId bm){rest:List Value}{fI:Addr}{Q:Fin->Shared->Prop}(hC:h.get? C=some (excClassObj nm q C N bs bm hdct sn sub ab col dd k0 k1 k2 k3 k5 newId))
  (hi:PySem.W.Looks (model prog w) h (typeLookup (.ref C) "__init__") (some (.ref fI))) (hb:∀ self,PySem.W.Looks (model prog w) h (bindSpecial (.ref fI) self) (.ref fI,[self])) (hz:rest.length<=sizeLine)
  (hq:codeAny (model prog w) A (.call (.ref fI) ⟨.ref (h.objs.size + 1) :: rest,[]⟩) (fun r s'=>match r with | .ok (.ret v)=>v = .none/\Q (.done (.ret (.ref (h.objs.size + 1)))) s' | .ok _=>False | .error e=>E e s') ⟨(h.push (PySem.W.kdv_tup rest)).push (HandSPX.excO C h.objs.size),g,d,t,os⟩) :
  wpAny (model prog w) A (Builtin.«type.__call__» ⟨.ref C :: rest,[]⟩) Q E ⟨h,g,d,t,os⟩:=by
 repeat (first | (with_reducible refine wpAny_loadPart_at hC ?_) | (with_reducible refine wpAny_madeBy_exc hC ?_) | wp_step)
 refine codeAny_call_builtin_code (Code.quiet_builtin _ F.quiet) (uO F hC (nb_new F hC ?_ hz));show wpAny _ _ _ _ _ _;have k:∀ b o,h.get? b=some o->((h.push (PySem.W.kdv_tup rest)).push (HandSPX.excO C h.objs.size)).get? b=some o:=fun b o e=>Heap.get?_push_of_some _ (Heap.get?_push_of_some _ e);have hC1:=k _ _ hC;have hg:((h.push (PySem.W.kdv_tup rest)).push (HandSPX.excO C h.objs.size)).get? (h.objs.size + 1)=some (HandSPX.excO C h.objs.size):=by heap_get
 have cc:(Value.ref C :: bm).contains (.ref C)=true:=by simp
 have i1:=hi.keeps k;have b1:=(hb (.ref (h.objs.size + 1))).keeps k;unfold isInstance
 repeat (first | (with_reducible refine wpAny_loadPart_at hg ?_) | (with_reducible refine wpAny_isSubtype_exc hC1 ?_; rw [cc]) | wp_step)
 show wpAny _ _ (typeLookup (.ref C) _) _ _ _;refine i1.at (wpAny_holding (wpAny_bind (b1.at (wpAny_bind (wpAny_call (codeAny_mono hq fun r s' z=>?_))))));rcases r with e | (v | _ | _ | _) <;> first | exact z | exact z.elim | skip
 obtain⟨rfl,z⟩:=z
 first | exact wpAny_pure (wpAny_pure z) | (wp_walk; exact z)
theorem nb_call(F:NB B own newId initId bm){rest:List Value}{fI:Addr}(hC:h.get? C=some (excClassObj nm q C N bs bm hdct sn sub ab col dd k0 k1 k2 k3 k5 newId))
  (hi:PySem.W.Looks (model prog w) h (typeLookup (.ref C) "__init__") (some (.ref fI))) (hb:∀ self,PySem.W.Looks (model prog w) h (bindSpecial (.ref fI) self) (.ref fI,[self])) (hz:rest.length<=sizeLine)
  (hq:codeAny (model prog w) (A.under (.builtin "type.__call__" ⟨.ref C :: rest,[]⟩)) (.call (.ref fI) ⟨.ref (h.objs.size + 1) :: rest,[]⟩) (PySem.W.InitBack (h.objs.size + 1) R) ⟨(h.push (PySem.W.kdv_tup rest)).push (HandSPX.excO C h.objs.size),g,d,t,os⟩) :
  codeAny (model prog w) A (.call (.ref C) ⟨rest,[]⟩) R ⟨h,g,d,t,os⟩:=by
 have f1:=tc_lookup;have f2:=tc_bind (.ref C);have hT:(⟨h,g,d,t,os⟩:Shared).TypeIs (.ref C) "type":=⟨_,hC,rfl⟩;refine codeAny_of_tree ?_;show wpAny _ _ (callAny (.ref C) _) _ _ _
 repeat (any_goals (first | assumption | (with_reducible refine wpAny_loadPart_at hC ?_) | wp_step))
 refine⟨rfl,codeAny_call_builtin_at (Code.quiet_builtin _ (by decide +kernel)) entry_typeCall (wpAny_check_type_call_sub hC (nb_type F hC hi hb hz (codeAny_mono hq fun r s' z=>?_)))⟩;rcases r with e | (v | _ | _ | _) <;> exact z
theorem nb_init(F:NB B own newId initId bm){e t0:Addr}{rest:List Value}(hC:h.get? C=some (excClassObj nm q C N bs bm hdct sn sub ab col dd k0 k1 k2 k3 k5 newId))(he:h.get? e=some (HandSPX.excO C t0))(hz:rest.length<=sizeLine)
  (hq:∀ h' t1,(∀ b o,b≠e->h.get? b=some o->h'.get? b=some o)->h'.get? e=some (HandSPX.excO C t1)->R (.ok (.ret .none)) ⟨h',g,d,t,os⟩):codeAny (model prog w) A (.call (.builtin initId) ⟨.ref e :: rest,[]⟩) R ⟨h,g,d,t,os⟩:=by
 have cB:(Value.ref C :: bm).contains (.type B)=true:=by rw [List.contains_cons,F.hasB,Bool.or_true]
 have z:=F.iStar;refine codeAny_call_builtin F.init.plain F.iEntry ?_
 simp only [checkBuiltinCall,F.iKind,F.iSplit,F.iRow]
 repeat (first | (with_reducible refine wpAny_loadPart_at he ?_) | (with_reducible refine wpAny_loadPart_at hC ?_) | (with_reducible refine wpAny_isSubtype_exc hC ?_; rw [cB]) | wp_step)
 refine wpAny_onRaise ?_;rw [show ∀ (a b:String) (n:Nat),Bind.check ⟨.positional,"*",B,.self,[⟨"args",.varPos,false⟩]⟩ a b n (List.map (fun x=>x.fst) ({ pos:=Value.ref e :: rest }:Args).kw)=pure () from fun a b n=>check_star_args _ _ _ _ _ _];refine wpAny_pure ?_
 wp_walk
 refine hq _ h.objs.size (fun b o hb ho=>?_) ?_
 .exact(Heap.get?_update_other _ _ (Ne.symm hb)).trans (Heap.get?_push_of_some _ ho)
 .rw [Heap.get?_update_self _ (Heap.get?_push_of_some _ he) rfl]; rfl
open Builtin Builtin.ObjectAttr in
theorem nb_put(F:NB B own newId initId bm){name:Str}{tk:Tok}{v:Value}{x:Addr}{fv:Array Value}(X:K.In h)(hx:h.get? x=some { cls:=.ref C,data:=.fields fv })(ov:PySem.W.excOver K C bm=true)(hh:PySem.W.hasDictIn K C=true)(ht:PySem.W.takerIn K C name=some none)
  (hq:∀ h' tk' dx,(∀ b o,b≠x->h.get? b=some o->h'.get? b=some o)->h.objs.size<=dx->dx≠x->h'.get? x=some { cls:=.ref C,dict:=some dx,data:=.fields fv }->h'.Ns1 dx (fun y=>if y=name then some v else none)->R (.ok (.ret .none)) ⟨h',g,d,tk',os⟩) :
  codeAny (model prog w) A (.call (.builtin "object.__setattr__") ⟨[.ref x,.str name tk,v],[]⟩) R ⟨h,g,d,t,os⟩:=by
 have xs:x≠h.objs.size:=Nat.ne_of_lt (Heap.lt_size hx);refine PySem.W.osa_openX (od:=none) F.st X ⟨hx,rfl,rfl,trivial⟩ ov ht fun b=>?_;obtain⟨cd,hc,hd⟩:=PySem.W.any_some hh;have L:=PySem.W.looks_clsIn (M:=model prog w) X hc;show wpAny _ _ (storeInOwnDict (.ref x) (.ref C) (.str name tk) name v b) _ _ _;obtain⟨nm,bs,mro,ns,qn,hd',sn,sb,ab,col,del⟩:=cd;dsimp only at hd;subst hd;unfold storeInOwnDict ownDictForStores
 repeat (first | (with_reducible refine HandSPX.store_in_new ?_ ?_) | (with_reducible refine wpAny_loadPart_at hx ?_) | (with_reducible refine L.at ?_) | wp_step)
 .exact⟨_,#[],_,(Heap.get?_update_ne _ _ _ _ xs.symm).trans (Heap.get?_push_at rfl rfl),rfl,fun e he=>absurd he (by simp),fun _=>rfl⟩
 .intro h' tk' hn' hs;have hx1:(h.push { cls:=.type "dict",data:=.dict #[] }).get? x=some { cls:=.ref C,data:=.fields fv }:=Heap.get?_push_of_some _ hx;refine hq h' tk' h.objs.size (fun b o hb ho=>?_) (Nat.le_refl _) xs.symm ?_ hn'
  .exact(hs.2 b (Nat.ne_of_lt (Heap.lt_size ho))).trans ((Heap.get?_update_ne _ _ _ _ hb).trans (Heap.get?_push_of_some _ ho))
  .exact(hs.2 x xs).trans (Heap.get?_update_self _ hx1 rfl)
end
def xcIn(K:PySem.W.Frag)(C:Addr)(bm:List Value)(newId:String):Bool:=match K.lookup C with
 | some ⟨.type "type",_,.cls cd,sl⟩=>cd.mro == .ref C :: bm && (cd.hasDict && (!cd.hasDel && (match sl.toList with
  | [_,_,_,_,some (.builtin n),_]=>n == newId
  | _=>false)))
 | _=>false
theorem xc_of{K:PySem.W.Frag}{h:Heap}{C:Addr}{bm:List Value}{newId:String}(X:K.In h)(z:xcIn K C bm newId=true):∃ nm qn N bs sn sub ab col dd k0 k1 k2 k3 k5,h.get? C=some (excClassObj nm qn C N bs bm true sn sub ab col dd k0 k1 k2 k3 k5 newId):=by
 unfold xcIn at z
 split at z
 .rename_i dd cd sl ho;obtain⟨z1,y1⟩:=Bool.and_eq_true_iff.mp z;obtain⟨z2,y2⟩:=Bool.and_eq_true_iff.mp y1;obtain⟨z3,y3⟩:=Bool.and_eq_true_iff.mp y2
  split at y3
  .rename_i k0 k1 k2 k3 n k5 hs;obtain⟨nm,bs,mro,ns,qn,hd,sn,sub,ab,col,del⟩:=cd;obtain rfl:mro = .ref C :: bm:=beq_iff_eq.mp z1;obtain rfl:n=newId:=beq_iff_eq.mp y3;have w2:hd=true:=z2;have w3:(!del)=true:=z3;rw [Bool.not_eq_true'] at w3;subst w2 w3;have e:sl = #[k0,k1,k2,k3,some (.builtin n),k5]:=by
    obtain⟨l⟩:=sl
    simp only at hs
    rw [hs]
   subst e;exact⟨nm,qn,ns,bs,sn,sub,ab,col,dd,k0,k1,k2,k3,k5,X _ _ ho⟩
  .cases y3
 .cases z
structure Xc(K:PySem.W.Frag)(C fI:Addr)(B own newId initId:String)(bm:List Value):Prop where
 nb:NB B own newId initId bm
 inn:xcIn K C bm newId=true
 ov:PySem.W.excOver K C bm=true
 hd:PySem.W.hasDictIn K C=true
 sa:PySem.W.findIn K (.ref C) "__setattr__" = some (some (.builtin "object.__setattr__"))
 ini:PySem.W.findIn K (.ref C) "__init__" = some (some (.ref fI))
 tI:PySem.W.typeIn K (.ref fI)=some (.type "function")
 kC:PySem.W.keepIn K (.ref C)=true
 exC:PySem.W.subIn K (.ref C) (.type "BaseException")=some true
 tyC:PySem.W.typeIn K (.ref C)=some (.type "type")
 vB:PySem.W.findCls K (.type B) (.type "type") "__init__" = some (.val (.builtin initId))
def tBini(C:Addr)(ta:TA):TE:=fun σ H Q=>ta σ H fun vs H1=>∃ (a:Addr) (ws:List V),vs = .ref a :: ws/\ws.length<=1000/\H1 a=some (exo a C none)/\Q .non H1
def tXput(C:Addr)(f:Str)(to te:TE):L2.TS:=fun D σ H=>te σ H fun y H1=>to σ H1 fun x H2=>∃ a:Addr,x = .ref a/\H2 a=some (exo a C none)/\∀ dx,H2 dx=none->dx≠a->D.nx σ (upd (upd H2 dx (exd dx [(f,y)])) a (exo a C (some dx)))
section
variable{X:Cx}{C fI:Addr}{B own newId initId:String}{bm:List Value}{o e:Expr}{es:List Expr}{to te:TE}{ta:TA}{f x:Str}{p p' p1 p2 pos:Pos}
theorem pe_bini{pl:Sem Bool}(T:Xc X.K C fI B own newId initId bm)(hg:Gl X x)(hm:X.mg x=none)(hv:bootBuiltins x=some (.type B))(hn:x≠"__name__")(hdb:(x == ("__debug__" : Str))=false)(ha:PA X (e :: es) ta)
  (hc:eval (.Call (.Attribute (.Name x p1) "__init__" p2) (e :: es) [] pos) X.env=(do let ov <- eval (.Name x p1) X.env; standAt p2.atName; let (f,first) <- holding [ov] (getMethod ov "__init__" pl); callWith pos f first (backTo pos (starEach (e :: es) X.env)) (backToKw pos (keywordEach [] X.env))))
  (he:starEach (e :: es) X.env=(false,eval e X.env) :: starEach es X.env) (hpl:(backTo pos (starEach es X.env)).any (·.1)=false):PE X (.Call (.Attribute (.Name x p1) "__init__" p2) (e :: es) [] pos) (tBini C ta):=by
 refine⟨fun pins s σ H Q I h=>PySem.W.methodCall_KW (ld_blt I hg hm hv ?_ hn hdb) hc⟩;obtain⟨m,fr⟩:=I.fr;refine PySem.W.method_type fr I.ok.mod.kin T.nb.ty T.nb.stub T.vB T.nb.hnd ?_;show wpAny _ _ (callWith pos (Value.builtin initId) [] (backTo pos (starEach (e :: es) X.env)) []) _ _ _;refine PyProof.Rows.callWith_method1 (thn (ha.run pos pins _ σ H _ (I.tok _) h) fun us s1 ⟨vs,H1,I1,r1,a,ws,ev,hl,ea,q⟩=>?_) he hpl;subst ev
 cases r1 with
 | @cons _ u0 _ ur ra rw' =>
  obtain rfl:u0=Value.ref a:=ra;obtain⟨nm,qn,N,bs,sn,sub,ab,col,dd,k0,k1,k2,k3,k5,hC⟩:=xc_of I1.kIn T.inn;obtain⟨t1,ho⟩:=exo_at I1.hok ea;obtain⟨hp,g,d,t,os⟩:=s1;refine wpAny_call (nb_init T.nb hC ho (by rw [<- Paired.length rw',sizeLine_eq]; omega) fun h' t2 k hx=>?_);have J:=I1.write (t':=t) (x:=a) (e:=a) (o:=exo a C none) (by rw [ea]; exact True.intro) (.inl rfl) k ⟨_,hx⟩ (exo_ok hx);have eu:upd H1 a (exo a C none)=H1:=by
   funext b
   by_cases hb:b=a
   .rw [hb,upd_same,ea]
   .rw [upd_ne hb]
  rw [eu] at J;exact⟨.non,H1,J,rfl,q⟩
theorem ps_xput(T:Xc X.K C fI B own newId initId bm)(hf:PySem.W.takerIn X.K C f=some none)(ho:PE X o to)(he:PE X e te)(hs:swapsWith e (some (.Attribute o f p')) pos.line X.env=pure false):PS X (.Assign [.Attribute o f p'] e pos) (tXput C f to te):=by
 refine⟨fun pins s σ H D I h=>plainObj_wpAny_Assign_Attribute (thn (he.run pins s σ H _ I h) fun v s1 ⟨y,H1,I1,r1,q1⟩=>thn (ho.run pins s1 σ H1 _ I1 q1) fun u s2 ⟨x,H2,I2,r2,a,ex,ea,q⟩=>?_) hs⟩;subst ex;obtain rfl:u=Value.ref a:=r2;obtain⟨t1,hoa⟩:=exo_at I2.hok ea;obtain⟨hp,g,d,t,os⟩:=s2;refine PySem.W.set_plain I2.kIn (ox:={ cls:=.ref C,dict:=none,data:=.fields #[.ref t1,.none,.none,.none,.bool false,.none] }) (od:=none) ⟨hoa,rfl,rfl,trivial⟩ T.sa ?_;refine nb_put T.nb I2.kIn hoa T.ov T.hd hf fun h' tk' dx k dn dne hx hn=>?_;have hnd:H2 dx=none:=I2.hok.fresh dn;have nd:∀ {b:Addr} {o:Obj},hp.get? b=some o->b≠dx:=fun q=>Nat.ne_of_lt (Nat.lt_of_lt_of_le (Heap.lt_size q) dn);have na:∀ {b:Addr},H2 b=none->b≠a:=fun n z=>by rw [z,ea] at n; cases n
 have keep:∀ {b:Addr} {o:HO},H2 b=some o->(o≠exo a C none)->upd (upd H2 dx (exd dx [(f,y)])) a (exo a C (some dx)) b=some o:=fun {b o} q hne=>by
  rw [upd_ne fun z=>hne (by rw [z,ea] at q; exact(Option.some.inj q).symm),upd_ne (ne_of_none q hnd)]; exact q
 refine⟨σ,_,I2.un (t':=tk') ⟨fun b o q n _ _=>k b o (na n) q,fun b o q n _ _=>⟨o.slots,k b o (na n) q⟩,fun b o q n _=>by rw [upd_ne (na n),upd_ne (nd q)]; exact n,fun b o q _=>?_,fun b xs q=>keep q fun z=>exo_tup z.symm,fun b o v q=>keep q fun z=>exo_frz z.symm,fun b ps q=>⟨#[],(keep q fun z=>exo_tbl z.symm).trans (by simp)⟩⟩ (fun b o q=>?_),q dx hnd dne⟩
 .by_cases hb:b=a
  .exact⟨_,by rw [hb]; exact hx⟩
  .exact⟨o,k b o hb q⟩
 .by_cases hb:b=a
  .subst hb;rw [upd_same] at q; cases q;exact exo_ok hx
  .rw [upd_ne hb] at q
   by_cases hd:b=dx
   .subst hd;rw [upd_same] at q; cases q;exact exd_ok hn (relO_put (fs:=[]) r1 fun g=>True.intro)
   .rw [upd_ne hd] at q;exact(I2.hok b o q).stay (fun c v hc z=>k c v (hc.elim (fun e=>by rw [e]; exact hb) fun e=>at_ne ea e exo_own) z) (fun c hc=>keep hc fun z=>exo_own z.symm) fun c xs hc=>keep hc fun z=>exo_tup z.symm
end
def spX0(C:Addr):Sp:=fun vs H Q _=>∃ e:Addr,vs=[.ref e]/\H e=some (exo e C none)/\Q .non H
def spX1(C:Addr)(f:Str):Sp:=fun vs H Q _=>∃ (e:Addr) (v:V),vs=[.ref e,v]/\H e=some (exo e C none)/\∀ dx,H dx=none->dx≠e->Q .non (upd (upd H dx (exd dx [(f,v)])) e (exo e C (some dx)))
def tMkX1(C:Addr)(f:Str)(ta:TA):L2.St->Hp->XK->Prop:=fun σ H Q=>ta σ H fun vs H1=>∃ v,vs=[v]/\∀ d,H1 d=none->Q (.ref C) (some d) (upd H1 d (.xd [(f,v)]))
section
variable{X:Cx}{C fI:Addr}{B own newId initId:String}{bm:List Value}{e:Expr}{ta:TA}{f x:Str}{p pos:Pos}{k:Nat}{fd:FuncData}{ps:List Str}
theorem x_start{pins:List (Addr×Obj)}{σ : L2.St}{H:Hp}{hp:Heap}{g:Array GenState}{d:Drawn}{tk:Nat}{os:OsState}{us:List Value}{vs:List V}{sp:Sp}{Q:Value->Shared->Prop}{Q2:VK}{h5:XK}(T:Xc X.K C fI B own newId initId bm)(F1:FnG X.prog X.w X.K X.mg X.base CX0 k fI fd ps sp)(hr:Room (k + 1) X.A)(hgd:X.A.guards=some [])(hb:Binds X.K fd ps [])
  (I:Inv X pins σ H ⟨hp,g,d,tk,os⟩) (r:Vals vs us) (hz:us.length<=sizeLine) (hq:sp (.ref (hp.objs.size + 1) :: vs) (upd H (hp.objs.size + 1) (exo (hp.objs.size + 1) C none)) Q2 h5)
  (q:∀ (v:V) (H2:Hp) (s2:Shared),s2.os=os->AllBare s2.gens->Un (frs X.stack) [] (upd H (hp.objs.size + 1) (exo (hp.objs.size + 1) C none)) H2 ((hp.push (PySem.W.kdv_tup us)).push (HandSPX.excO C hp.objs.size)) s2.heap->HOk X.prog X.w H2 s2.heap->Q2 v H2->v = .non/\Q (.ref (hp.objs.size + 1)) s2) :
  wpAny (model X.prog X.w) X.A (call (.ref C) us) Q X.xe ⟨hp,g,d,tk,os⟩:=by
 obtain⟨nm,qn,N,bs,sn,sub,ab,col,dd,k0,k1,k2,k3,k5,hC⟩:=xc_of I.kIn T.inn;have kk:∀ b o,hp.get? b=some o->((hp.push (PySem.W.kdv_tup us)).push (HandSPX.excO C hp.objs.size)).get? b=some o:=fun b o e=>Heap.get?_push_of_some _ (Heap.get?_push_of_some _ e);have hg:((hp.push (PySem.W.kdv_tup us)).push (HandSPX.excO C hp.objs.size)).get? (hp.objs.size + 1)=some (HandSPX.excO C hp.objs.size):=by heap_get
 have I2:Inv X pins σ (upd H (hp.objs.size + 1) (exo (hp.objs.size + 1) C none)) ⟨(hp.push (PySem.W.kdv_tup us)).push (HandSPX.excO C hp.objs.size),g,d,tk,os⟩:=I.laid (t':=tk) kk (Nat.le_succ _) (exo_ok hg);have r2:Vals (V.ref (hp.objs.size + 1) :: vs) (Value.ref (hp.objs.size + 1) :: us):=.cons rfl r;have hl:(Value.ref (hp.objs.size + 1) :: us ++ []).length=ps.length:=by rw [List.append_nil,<- r2.length]; exact F1.len _ _ _ _ hq
 have hbd:=hb ⟨(hp.push (PySem.W.kdv_tup us)).push (HandSPX.excO C hp.objs.size),g,d,tk,os⟩ (Value.ref (hp.objs.size + 1) :: us) I2.kIn hl;rw [List.append_nil] at hbd;refine wpAny_call (nb_call T.nb hC (PySem.W.looks_findIn I.kIn T.ini) (fun self=>PySem.W.bind_fn I.kIn self T.tI) hz (codeAny_mono (F1.run _ X.stack _ _ ⟨_,[]⟩ _ _ _ _ (hr.make C us []) hgd (I2.env0.make C us []) hbd r2 hq) fun r s' hq'=>?_))
 cases r with
 | error er=>exact hq'.elim
 | ok fl =>
  cases fl with
  | ret u =>
   obtain⟨v,H2,os2,bare2,un2,hok2,rv,z⟩:=hq';obtain⟨ev,q2⟩:=q v H2 s' os2 bare2 un2 hok2 z;subst ev;exact⟨rv,q2⟩
  | next=>exact False.elim hq'
  | brk=>exact False.elim hq'
  | cont=>exact False.elim hq'
theorem pmk_x1(T:Xc X.K C fI B own newId initId bm)(F1:FnG X.prog X.w X.K X.mg X.base CX0 k fI fd ps (spX1 C f))(hr:Room (k + 1) X.A)(hgd:X.A.guards=some [])(hb:Binds X.K fd ps [])(hg:Gl X x)(hm:X.mg x=some (.ref C))(ha:PA X [e] ta)
  (hdb:(x == ("__debug__" : Str))=false) (he:starEach (e :: []) X.env=(false,eval e X.env) :: starEach [] X.env) (hpl:(backTo pos (starEach [] X.env)).any (·.1)=false):PMk X (.Call (.Name x p) [e] [] pos) (tMkX1 C f ta):=by
 intro pins s σ H Q I h;refine wpAny_Call_Name_kw (ld_glob I hg hm ?_ hdb);refine PySem.W.callWith_K (h₀:=X.base) I.ok.mod.kin T.kC (thn (ha.run pos pins s σ H _ I h) fun us s1 ⟨vs,H1,I1,r1,v,ev,q1⟩=>⟨I1.kIn,?_⟩) he hpl;subst ev;show wpAny _ _ (call (.ref C) us) _ _ _;obtain⟨hp,g,dr,tk,os⟩:=s1;have hsz:hp.objs.size<=hp.objs.size + 1:=Nat.le_succ _;have hn:H1 (hp.objs.size + 1)=none:=I1.hok.fresh hsz;have hz:us.length<=sizeLine:=by rw [<- Paired.length r1]; show 1<=_; rw [sizeLine_eq]; decide
 refine x_start (Q2:=fun u H2=>u = .non/\∃ dx,upd H1 (hp.objs.size + 1) (exo (hp.objs.size + 1) C none) dx=none/\dx≠hp.objs.size + 1/\H2=upd (upd (upd H1 (hp.objs.size + 1) (exo (hp.objs.size + 1) C none)) dx (exd dx [(f,v)])) (hp.objs.size + 1) (exo (hp.objs.size + 1) C (some dx))) (h5:=fun _ _ _=>False) T F1 hr hgd hb I1 r1 hz ⟨_,_,rfl,upd_same,fun dx a1 a2=>⟨rfl,dx,a1,a2,rfl⟩⟩ fun u H2 s2 os2 bare2 un2 hok2 z=>?_;obtain⟨rfl,dx,a1,a2,eH⟩:=z;rw [upd_ne a2] at a1;have kk:∀ b o,hp.get? b=some o->((hp.push (PySem.W.kdv_tup us)).push (HandSPX.excO C hp.objs.size)).get? b=some o:=fun b o e=>Heap.get?_push_of_some _ (Heap.get?_push_of_some _ e);have e3:upd (del H2 (hp.objs.size + 1)) dx (.xd [(f,v)])=upd H1 dx (.xd [(f,v)]):=by
  funext b
  by_cases h1:b=dx
  .rw [h1,upd_same,upd_same]
  .rw [upd_ne h1,upd_ne h1]
   by_cases h2:b=hp.objs.size + 1
   .rw [h2,del_same,hn]
   .rw [del_ne h2,eH,upd_ne h2,upd_ne h1,upd_ne h2]
 obtain⟨h2,g2,d2,t2,os'⟩:=s2;exact⟨rfl,mk_end (raises_own T.exC T.tyC) I1 hsz kk un2 hok2 os2 bare2 (by rw [eH]; exact upd_same) (by rw [eH,upd_ne a2]; exact upd_same) a1 (by rw [e3]; exact q1 dx a1)⟩
end
end M
namespace M
open PySem PySem.Spec PyProof.Rows L2 B
def gU(c f:Nat)(fs:Sl->Hh->Res (List Val)):Sl->Hh->aD:=fun δ h=>(fs δ h).st δ fun xs h1=>match xs with
 | [x]=>.exc c [(f,x)] δ h1
 | _=>.err
structure XcOk(p:Pm)(x:Str)(c:Nat)(fo:Option Nat):Prop where
 ex:∃ (fI:Addr) (fd:FuncData) (ps:List Str) (B own newId initId:String) (bm:List Value),Xc p.K (p.ca c) fI B own newId initId bm/\FnG p.P p.w p.K p.mg p.base CX0 1 fI fd ps (match fo with
  | none=>spX0 (p.ca c)
  | some f=>spX1 (p.ca c) (p.nm f))/\Binds p.K fd ps []
 mg:p.mg x=some (.ref (p.ca c))
 fl:∀ f,fo=some f->f < p.nf
section
variable{C:Ct}{x:Str}{c f:Nat}{e:Expr}{q pos pos2:Pos}{fs:Sl->Hh->Res (List Val)}
theorem kn(hX:XcOk C.p x c (some f))(hk:2<=C.k)(hl:C.sc.names.lookup x=some .globalImplicit)(ha:SA C [e] fs)(hdb:(x == ("__debug__" : Str))=false:=by decide)
  (he:∀ env,starEach (e :: []) env=(false,eval e env) :: starEach [] env:=by intro _; rfl) (hpl:∀ env,(backTo pos (starEach [] env)).any (·.1)=false:=by intro _; rfl):SS C (.Raise (some (.Call (.Name x q) [e] [] pos)) none pos2) (gU c f fs):=by
 obtain⟨ta,pa,sa⟩:=ha;obtain⟨fI,fd,ps,B,own,newId,initId,bm,T,F1,hb⟩:=hX.ex;refine⟨fun W _ σ H=>tMkX1 (C.p.ca c) (C.p.nm f) (ta W) σ H fun cls d H'=>W cls d σ H',fun W X g=>?_,fun W σ δ m h G H E en w e=>sa W σ δ m h G H _ en w (bK.ex en e fun xs h1 m1 G1 us H1 s1 w1 r1 e1=>?_)⟩
 .refine ps_raise g.calm g.takes (pmk_x1 (k:=1) (fI:=fI) (fd:=fd) (ps:=ps) (B:=B) (own:=own) (newId:=newId) (initId:=initId) (bm:=bm) ?_ ?_ (g.room.mono hk) g.gd (by rw [g.K]; exact hb) (g.gl hl) (by rw [g.mg]; exact hX.mg) (pa W X g) hdb (he _) (hpl _))
  .rw [g.K]; exact T
  .rw [g.prog,g.w,g.K,g.mg,g.base]; exact F1
 .split at e1
  .rename_i y
   cases r1 with
   | @cons v _ _ _ r r0 =>
    cases r0
    refine⟨_,rfl,fun d hd=>?_⟩;have ww:=w1.data (o:=.xd [(C.p.nm f,v)]) hd;exact e1 m1 _ σ _ _ _ ww.2 ww.1 (en.stp (s1.trans ww.2)) ⟨rfl,.inr ⟨d,_,rfl,upd_same,.cons ⟨rfl,Rv.stp ww.2 r⟩ .nil,fun q hq=>by
     cases List.mem_singleton.mp hq
     exact hX.fl f rfl⟩⟩
  .exact e1.elim
end
end M
namespace M
open PySem PySem.Spec PyProof.Rows L2 B
section
variable{X:Cx}{pins:List (Addr×Obj)}{σ : L2.St}{H:Hp}{s:Shared}
theorem x_adopt{a C:Addr}{oe:Obj}{vs:Array Value}{d:Option Addr}(I:Inv X pins σ H s)(ha:s.heap.get? a=some oe)(hc:oe.cls = .ref C)(hd:oe.dict=d)(hv:oe.data = .fields vs)(na:H a=none)(nL:a≠X.env.locals)(n0:X.s_0.heap.get? a=none)(np:∀ p∈X.pn ++ pins,p.1≠a):Inv X pins σ (upd H a (xco a C d)) s:=by
 have st:∀ {b:Addr} {o:HO},H b=some o->upd H a (xco a C d) b=some o:=fun q=>(upd_ne (ne_of_none q na)).trans q;refine⟨I.ok,I.os,I.bare,⟨I.base.keep,I.base.slot,fun b o q n hx=>?_,I.base.there,fun b xs q=>st (I.base.tups b xs q),fun b o u q=>st (I.base.frzs b o u q),fun b ps q=>(I.base.tbls b ps q).imp fun m z=>st z⟩,I.loc,I.cell,(upd_ne (Ne.symm nL)).trans I.free,fun x c q=>?_,fun p hp=>?_,fun b o q=>?_,I.len⟩
 .exact(upd_ne fun z=>by rw [z,n0] at q; cases q).trans (I.base.free b o q n hx)
 .refine(upd_ne fun z=>?_).trans (I.freeC x c q);obtain⟨v,o,h1,h2⟩:=I.cell x c q;rw [z,ha] at h1
  cases h1
  rw [hv] at h2; cases h2
 .obtain⟨h1,h2,h3⟩:=I.pin p hp;exact⟨h1,(upd_ne (np p hp)).trans h2,h3⟩
 .by_cases hb:b=a
  .subst hb;rw [upd_same] at q
   cases q
   exact⟨⟨oe,vs,ha,hc,hd,hv⟩,⟨oe,ha⟩,fun h1 h2 ⟨oe',vs',z1,z2⟩ k=>⟨oe',vs',k _ z1,z2⟩⟩
  .rw [upd_ne hb] at q;exact(I.hok b o q).stay (fun c u hc r=>r) (fun c hc=>st hc) fun c xs hc=>st hc
end
def sU(K:PySem.W.Frag)(c:Value)(i j:Nat)(Wout:WX)(D:Ends):WX:=fun cls d σ H =>
 ∃ b,PySem.W.exmOne K cls c=some b/\(b=true->∃ C:Addr,cls = .ref C/\∀ a,H a=none->D.nx (((σ.set i (some (.ref a))).set j (some (.ref a))).set i none) (upd H a (xco a C d)))/\(b=false->Wout cls d σ H)
section
variable{X:Cx}{x n y:Str}{c:Value}{i j:Nat}{body:List Stmt}{np pos pos' p1 p2 p3:Pos}{tb:WX->L2.TS}{Wout:WX}
theorem ps_tryK(hs:X.stack=X.env :: X.outer)(hf:X.env.frame=some X.env.locals)(hex:X.ex=[])(hN:X.N.Nodup)(hi:X.N[i]?=some n)(hln:X.env.kindOf n=some .local)(hj:X.N[j]?=some y)(hly:X.env.kindOf y=some .local)(hc:Names X x c)(tk:Takes X Wout)
  (hd1:(n == ("__debug__" : Str))=false) (hd2:(n == ("__classdict__" : Str))=false) (hsw:swapsWith (.Name n p2) (some (.Name y p1)) p3.line X.env=pure false)
  (hb:∀ (W:WX) (pn:List (Addr×Obj)) (xe:Value->Shared->Prop),Takes (X.tr pn xe) W->PassesOwn (model X.prog X.w) X.A X.env xe->PSs (X.tr pn xe) body (tb W)) :
  PS X (.Try body [.ExceptHandler (some (.Name x np)) (some n) [.Assign [.Name y p1] (.Name n p2) p3] pos'] [] [] pos) (fun D σ H=>tb (sU X.K c i j Wout D) D σ H):=by
 refine⟨fun pins s σ H D I h=>?_⟩;have ok:=I.ok;have hfr:X.A.frames=some (X.env :: X.outer):=by rw [ok.frames,hs]
 refine wpAny_Try_except (wpAny_mono ((hb (sU X.K c i j Wout D) (X.pn ++ pins) (fun e s1=>wpAny (model X.prog X.w) X.A (noteFrame e X.env) (fun _ s2=>wpAny (model X.prog X.w) X.A (setFlight e none) (fun _ s3 =>
  wpAny (model X.prog X.w) X.A (handleBy e X.env [.ExceptHandler (some (.Name x np)) (some n) [.Assign [.Name y p1] (.Name n p2) p3] pos']) (L2.SP X pins D) X.xe s3) X.xe s2) X.xe s1) (fun u s' xx=>?_) PassesOwn.looking).run [] s σ H D (I.toTry _) h) (fun f s1 hsp=>?_) (fun e s1 he=>he))
 .obtain⟨a,B,sI,pins',σ',H',cls,d,rfl,J',nb,up,sky,na,os,ag,b,hb1,hyes,hno⟩:=xx;have J:Inv X pins σ' H' sI:=J'.ofTry ok;have sky':Sky B (X.env :: X.outer) a (Zc cls d) X.env.locals s'.heap:=by rw [<- hs]; exact sky
  show wpAny (model X.prog X.w) X.A (noteFrame (.ref a) X.env) _ _ _;refine Sky.land Zc.steady hfr hf sky' fun h3 fl3 up3=>?_;have J3:Inv X pins σ' H' { s' with heap:=h3 }:=J.landed nb fl3.1 (up.trans up3) os ag;obtain⟨oe3,vs3,he3,hz3,hd3⟩:=fl3.there;have nfr:a ∉ frs (X.env :: X.outer):=fun hm=>by
   obtain⟨_,o',e',hnf⟩:=fl3.2.2.1.mem hm;rw [he3] at e'; cases e';exact hnf _ hd3
  have nL:a≠X.env.locals:=fun z=>nfr (List.mem_filterMap.mpr ⟨X.env,List.mem_cons_self,by rw [hf,z]⟩);have nF:a ∉ X.fs:=fun hm=>by
   obtain⟨e,he,q⟩:=List.mem_filterMap.mp hm;exact nfr (List.mem_filterMap.mpr ⟨e,List.mem_cons_of_mem _ he,q⟩)
  have nI:sI.heap.get? a=none:=by
   cases q:sI.heap.get? a with
   | none=>rfl
   | some o =>
    have z:=nb a o q (by rw [hs]; exact nfr);rw [fl3.2.1] at z; cases z
  have n0:X.s_0.heap.get? a=none:=by
   cases q:X.s_0.heap.get? a with
   | none=>rfl
   | some o =>
    obtain⟨o',z⟩:=J.base.there a o q (by rw [hex]; intro z; cases z);rw [nI] at z; cases z
  have np9:∀ p∈X.pn ++ pins,p.1≠a:=fun p hp z=>by
   have q:=(J.pin p hp).1;rw [z,nI] at q; cases q
  have S3:=J3.suite he3 hd3 na nL nF;refine wpAny_handleBy_cons (codeAny_handlers_test ?_) (by intro q; cases q);have LT:PySem.W.Looks (model X.prog X.w) h3 (typeOf (.ref a)) cls:=fun A Q E s k q=>wpAny_typeOf_ref (k _ _ he3) (by rw [hz3.1]; exact q);have LM:=PySem.W.exm_one (M:=model X.prog X.w) (J3.kIn) LT hb1;have test:∀ {Q:Value->Shared->Prop} {E:Value->Shared->Prop},Q c { s' with heap:=h3 }->wpAny (model X.prog X.w) (X.A.mark (some (.ref a))) (eval (.Name x np) X.env) Q E { s' with heap:=h3 }:=fun {Q E} q=>by
   obtain⟨hg,hdbg,hm | ⟨hm,hv,hnn⟩⟩:=hc
   .exact ld_glob (X:=X.suite a ((a,oe3) :: (X.pn ++ pins))) S3 hg hm q hdbg
   .exact ld_blt (X:=X.suite a ((a,oe3) :: (X.pn ++ pins))) S3 hg hm hv q hnn hdbg
  refine test (LM.here ?_)
  cases b with
  | true =>
   obtain⟨C,ecl,hy2⟩:=hyes rfl;subst ecl;refine codeAny_handlers_suite_as (HandSPX.lands_againZ fl3 fun h4 fl4 up4=>?_);have J4:Inv X pins σ' H' { s' with heap:=h4 }:=J.landed nb fl4.1 ((up.trans up3).trans up4) os ag;obtain⟨oe4,vs4,he4,hz4,hd4⟩:=fl4.there;have S4:=J4.suite he4 hd4 na nL nF;refine store_ok (X:=X.suite a ((a,oe4) :: (X.pn ++ pins))) (v:=.ref a) S4 hN hi (.inl hln) rfl (fun s5 S5=>?_) (.inr hln);have hlen:i < σ'.length:=by rw [J.len]; exact(List.getElem?_eq_some_iff.mp hi).1
   refine wpAny_mono ((pss_one (ps_set (X:=X.suite a ((a,oe4) :: (X.pn ++ pins))) (i:=j) hN hj (.inl hly) (pe_var (X:=X.suite a ((a,oe4) :: (X.pn ++ pins))) (i:=i) hi (.inl hln) hd1 hd2) hsw (.inr hly))).run [] s5 _ H' { nx:=fun σ6 H6=>σ6=(σ'.set i (some (.ref a))).set j (some (.ref a))/\H6=H',rt:=fun _ _=>False } S5 ⟨.ref a,List.getElem?_set_self hlen,rfl,rfl⟩) (fun f s6 hsp=>?_) (fun _ _ z=>False.elim z)
   cases f with
   | next =>
    obtain⟨σ6,H6,S6,rfl,rfl⟩:=hsp;obtain⟨ha6,_⟩:=S6.pin (a,oe4) (List.mem_append_left _ List.mem_cons_self);exact gone_ok (x_adopt (S6.unsuite ok) ha6 hz4.1 hz4.2 hd4 na nL n0 np9) hN hi hln fun s7 J7=>⟨_,_,J7,hy2 a na⟩
   | brk =>
    obtain⟨_,_,_,q6⟩:=hsp;exact q6.elim
   | cont =>
    obtain⟨_,_,_,q6⟩:=hsp;exact q6.elim
   | ret u =>
    obtain⟨_,_,_,_,_,q6⟩:=hsp;exact q6.elim
  | false =>
   show wpAny _ X.A (handleBy (.ref a) X.env []) _ _ _;refine wpAny_handleBy_nil ?_;obtain⟨k1,k2,k3,oe,vs,T,oT,ts',he,hz,hd,h1,hr⟩:=id fl3;unfold PySem.passOn;refine wpAny_bind (wpAny_field he hd h1 ?_);rw [if_neg (show ¬ ((Value.ref T == Value.none)=true) from by simp)];have fin:wpAny (model X.prog X.w) X.A (setFlight (.ref a) X.env.frame) (fun _ s4=>wpAny (model X.prog X.w) X.A (throw (.ref a):Sem Flow) (L2.SP X pins D) X.xe s4) X.xe { s' with heap:=h3 }:=by
    rw [hf];exact HandSPX.setFlight_upZ fl3 fun h4 hh4 up4=>wpAny_throw (tk _ _ ⟨a,B,sI,pins,σ',H',cls,d,rfl,J,nb,(up.trans up3).trans up4,.inr (.inr (by rw [hs]; exact hh4)),na,os,ag,hno rfl⟩)
   first | exact wpAny_bind (wpAny_pure (wpAny_bind fin)) | exact wpAny_bind fin
 .cases f with
  | next =>
   obtain⟨σ',H',J',q⟩:=hsp;exact wpAny_execs_nil ⟨σ',H',J'.ofTry ok,q⟩
  | brk =>
   obtain⟨σ',H',J',q⟩:=hsp;exact⟨σ',H',J'.ofTry ok,q⟩
  | cont =>
   obtain⟨σ',H',J',q⟩:=hsp;exact⟨σ',H',J'.ofTry ok,q⟩
  | ret u =>
   obtain⟨v,σ',H',J',r,q⟩:=hsp;exact⟨v,σ',H',J'.ofTry ok,r,q⟩
end
end M
namespace M
open PySem PySem.Spec PyProof.Rows L2 B
theorem sh{P:Program}{w:World}{H:Hp}{h:Heap}{b a C:Addr}{d:Option Addr}(x:ObjOk P w H h b (xco a C d)):∃ oe vs,h.get? b=some oe/\oe.cls = .ref C/\oe.dict=d/\oe.data = .fields vs:=by
 have x':(∃ oe vs,h.get? a=some oe/\oe.cls = .ref C/\oe.dict=d/\oe.data = .fields vs)/\(∃ o,h.get? b=some o)/\∀ h1 h2:Heap,(∃ oe vs,h1.get? a=some oe/\oe.cls = .ref C/\oe.dict=d/\oe.data = .fields vs)->(∀ o,h1.get? b=some o->h2.get? b=some o)->∃ oe vs,h2.get? a=some oe/\oe.cls = .ref C/\oe.dict=d/\oe.data = .fields vs:=x;obtain⟨z,_,k⟩:=x'
 by_cases e:a=b
 .subst e; exact z
 .obtain⟨G,g1,g2⟩:=restrict h fun c=>decide (c=b);obtain⟨oe,vs,q,_⟩:=k h G z fun o q=>(g1 b (by simp)).trans q;rw [g2 a (by simpa using e)] at q
  cases q
def XfOk(p:Pm)(c f:Nat):Prop:=XfC p.K (p.ca c)/\PySem.W.findIn p.K (.ref (p.ca c)) (p.nm f)=some none
def tXfK(K:PySem.W.Frag)(n:Str)(te:TE):TE:=fun σ H Q=>te σ H fun x H1=>∃ (a a' C dd:Addr) (fs:List (Str×V)) (v:V),x = .ref a/\H1 a=some (xco a' C (some dd))/\XfC K C/\PySem.W.findIn K (.ref C) n=some none/\H1 dd=some (.xd fs)/\fs.lookup n=some v/\Q v H1
theorem pe_xfK{X:Cx}{e:Expr}{te:TE}{pos:Pos}{n:Str}(he:PE X e te)(hb:attributeBase e n X.env (eval e X.env)=eval e X.env):PE X (.Attribute e n pos) (tXfK X.K n te):=by
 refine⟨fun pins s σ H Q I h=>attr_of hb (thn (he.run pins s σ H _ I h) fun u s1 hh=>?_)⟩;obtain⟨x,H1,I1,rx,a,a',C,dd,fs,v,ex,ea,T,hno,ed,l,q⟩:=hh;subst ex;obtain rfl:u=Value.ref a:=rx;obtain⟨oe,vs,ha,hc,hd,hv⟩:=sh (I1.hok a _ ea);have hx:ObjOk X.prog X.w H1 s1.heap dd (.xd fs):=I1.hok dd _ ed;obtain⟨mA,hns,hr⟩:=hx;obtain⟨od,ho,hl⟩:=lookIn_ns hns;obtain⟨u,hu,ru⟩:=RelO.some_of (v:=v) (o:=mA n) (by rw [<- l]; exact hr n);have J:PySem.W.InstAt s1.heap a oe C (some od):=⟨ha,hc,by unfold PySem.W.notCls; rw [hv] <;> rfl,by rw [hd]; exact ho⟩;exact HandSPX.exc_get I1.kIn J T.ga T.gg T.exC (PySem.W.findObj_own T.hdC hno rfl (by rw [hl,hu])) (handed_of ru) ⟨v,H1,I1.tok _,ru,q⟩
def rJ(cs:List Nat)(f:Nat):Hh->Val->Res Val:=fun h x=>match x with
 | .ref r=>match h.get r with
  | some (.exc c [(g,y)])=>if c∈cs/\g=f then .ok y h else .err
  | _=>.err
 | _=>.err
theorem qr{C:Ct}{o:Expr}{fa:Sl->Hh->Res Val}{f:Nat}{n:Str}{pos:Pos}(cs:List Nat)(hn:C.p.nm f=n)(hx:∀ c∈cs,XfOk C.p c f)(ha:SE C o fa)(hb:∀ env,attributeBase o n env (eval o env)=eval o env:=by intro _; rfl):SE C (.Attribute o n pos) (m1 (rJ cs f) fa):=by
 obtain⟨ta,pa,sa⟩:=ha;subst hn;refine⟨fun W=>tXfK C.p.K (C.p.nm f) (ta W),fun W X g=>by rw [<- g.K]; exact pe_xfK (pa W X g) (hb _),fun W σ δ m h G H Q en w e=>sa W σ δ m h G H _ en w (aq.bind e fun x h1 m1 G1 u H1 s1 w1 r1 e1=>?_)⟩;unfold rJ at e1
 split at e1
 .split at e1
  .rename_i c g y hg
   split at e1
   .rename_i hcg;obtain⟨hc,rfl⟩:=hcg;obtain⟨_,_,o',h3,h4⟩:=w1.cel _ _ hg
    cases r1
    cases h4 with
    | exc h5 =>
     rcases h5 with ⟨z,_⟩ | ⟨dd,vs,rfl,h6,h7,_⟩
     .cases z
     .obtain⟨x1,x2⟩:=hx c hc
      cases h7 with
      | @cons v _ vs' _ hv hr =>
       obtain⟨v1,v2⟩:=v;obtain⟨z1,z2⟩:=hv;have z1:v1=C.p.nm g:=z1;subst z1;exact⟨_,_,_,dd,_,v2,rfl,h3,x1,x2,w1.gh _ _ h6,by simp [List.lookup],aq.here e1 w1 z2⟩
   .exact e1.elim
  .exact e1.elim
 .exact e1.elim
structure XcIs(K:PySem.W.Frag)(C:Addr):Prop where
 cl:(PySem.W.clsIn K C).isSome=true
 ga:PySem.W.findIn K (.ref C) "__getattribute__" = some (some (.builtin "BaseException.__getattribute__"))
 gg:PySem.W.findIn K (.ref C) "__getattr__" = some none
 ex:PySem.W.subIn K (.ref C) (.type "BaseException")=some true
 ha:PySem.W.findIn K (.ref C) "__class__" = some (some (.builtin "object.__class__"))
 hn:PySem.W.specialIn K (.builtin "object.__class__") "__get__" = some (some (.builtin "getset_descriptor.__get__"))
 ht:PySem.W.takesIn K (.builtin "object.__class__")=some true
 hm:PySem.W.mroIn K C (.type "object")=some true
def rIsX(K:PySem.W.Frag):List V->Hp->VK->Prop:=fun xs H Q=>∃ (a a' C:Addr) (d:Option Addr) (c:V) (cv:Value) (b:Bool),xs=[.ref a,c]/\H a=some (xco a' C d)/\XcIs K C/\(d.isSome=true->∃ dd fs,d=some dd/\H dd=some (.xd fs))/\(∀ u,RelV c u->u=cv)/\PySem.W.kitOne K (.ref C) cv=some b/\Q (.bl b) H
theorem call_isX{X:Cx}:CallR X (.builtin "isinstance") (rIsX X.K):=by
 intro pins s σ H xs us Q I r h;obtain⟨a,a',C,d,c,cv,b,rfl,ea,T,hd,hcv,e,q⟩:=h
 cases r with
 | cons rx rr =>
  cases rr with
  | cons rt rr =>
   cases rr
   cases rx
   have ec:=hcv _ rt;subst ec;obtain⟨oe,vs,ha,hc,hdd,hv⟩:=sh (I.hok a _ ea);have nc:PySem.W.notCls oe=true:=by unfold PySem.W.notCls; rw [hv] <;> rfl
   cases d with
   | none=>exact PySem.W.kia_one (PySem.W.kitx_exc (od:=none) T.cl T.ga T.gg T.ex T.ha T.hn T.ht T.hm) I.kIn ⟨ha,hc,nc,by rw [hdd]; trivial⟩ e (fun z=>nomatch z) fun tk=>⟨.bl b,H,I.kept (t':=tk) fun _ _ z=>z,rfl,q⟩
   | some dx =>
    obtain⟨dd,fs,z,ed⟩:=hd rfl
    cases z
    have hx:ObjOk X.prog X.w H s.heap dx (.xd fs):=I.hok dx _ ed;obtain⟨mA,hns,hr⟩:=hx;obtain⟨od,ho,hl⟩:=lookIn_ns hns;exact PySem.W.kia_one (PySem.W.kitx_exc (od:=some od) T.cl T.ga T.gg T.ex T.ha T.hn T.ht T.hm) I.kIn ⟨ha,hc,nc,by rw [hdd]; exact ho⟩ e (fun z=>nomatch z) fun tk=>⟨.bl b,H,I.kept (t':=tk) fun _ _ z=>z,rfl,q⟩
theorem rT{X:Cx}(K:PySem.W.Frag)(h:X.K=K):CallR X (.builtin "isinstance") (rIsX K):=by subst h; exact call_isX
end M
namespace M
open PySem PySem.Spec PyProof.Rows L2 B
def jG(tbl:List (Nat×Bool))(i j s:Nat)(f:Sl->Hh->aD):Sl->Hh->aD:=fun δ h=>match f δ h with
 | .exc c fs δ' h'=>match tbl.lookup c with
  | some true=>if nlp fs=true then .nx ((δ'.set j (some (.ref (.glo s (h'.glo s).length)))).set i none) (h'.bh s (.exc c fs)) else .err
  | some false=>.exc c fs δ' h'
  | none=>.err
 | r=>r
theorem lS{α β : Type}[BEq α][LawfulBEq α]{k:α}{v:β}:∀ {l:List (α×β)},l.lookup k=some v->(k,v)∈l
 | [],h=>by cases h
 | (a,b) :: l,h=>by
  unfold List.lookup at h
  split at h
  .rename_i e
   cases h
   rw [eq_of_beq e]; exact List.mem_cons_self
  .exact List.mem_cons_of_mem _ (lS h)
theorem good_tr{C:Ct}{W W':WX}{X:Cx}(g:Good C W X){pn:List (Addr×Obj)}{xe:Value->Shared->Prop}(tk:Takes (X.tr pn xe) W')(ps:PassesOwn (model X.prog X.w) X.A X.env xe):Good C W' (X.tr pn xe) :=
 ⟨g.prog,g.w,g.K,g.mg,g.base,g.N,g.nd,g.sc,g.fn,g.calm,g.room,g.gd,ps,tk,g.cd,g.ql,g.top⟩
section
variable{C:Ct}{x n y:Str}{c0 i j:Nat}{body:List Stmt}{f g:Sl->Hh->aD}{np pos pos' p1 p2 p3:Pos}{tbl:List (Nat×Bool)}{st:Stmt}
theorem ss_tryK(s:Nat)(ht:C.tp=true)(hi:C.N[i]?=some n)(hj:C.N[j]?=some y)(hln:C.sc.names.lookup n=some .local)(hly:C.sc.names.lookup y=some .local)(hg:C.sc.names.lookup x=some .globalImplicit)(hm:C.p.mg x=some (.ref (C.p.ca c0)))
  (hx:∀ c b,(c,b)∈tbl->PySem.W.exmOne C.p.K (.ref (C.p.ca c)) (.ref (C.p.ca c0))=some b) (hb:SSs C body f) (hd:(x == ("__debug__" : Str))=false:=by decide) (hd1:(n == ("__debug__" : Str))=false:=by decide) (hd2:(n == ("__classdict__" : Str))=false:=by decide)
  (hsw:∀ env:Env,env.scope=C.sc->swapsWith (.Name n p2) (some (.Name y p1)) p3.line env=pure false:=by intro _ _; rfl) :
  SS C (.Try body [.ExceptHandler (some (.Name x np)) (some n) [.Assign [.Name y p1] (.Name n p2) p3] pos'] [] [] pos) (jG tbl i j s f):=by
 obtain⟨tb,pb,sb⟩:=hb;refine⟨fun W D σ H=>tb (sU C.p.K (.ref (C.p.ca c0)) i j W D) D σ H,fun W X g=>?_,fun W σ δ m h G H E en w e=>sb _ σ δ m h G H E en w ?_⟩
 .obtain⟨h1,h2,h3⟩:=g.top ht;rw [<- g.K];exact ps_tryK h1 h2 h3 g.nd (by rw [g.N]; exact hi) (by show X.env.scope.names.lookup n=_; rw [g.sc]; exact hln) (by rw [g.N]; exact hj) (by show X.env.scope.names.lookup y=_; rw [g.sc]; exact hly) ⟨g.gl hg,hd,.inl (by rw [g.mg]; exact hm)⟩ g.takes hd1 hd2 (hsw _ g.sc) fun W' pn xe tk ps=>pb W' _ (good_tr g tk ps)
 .unfold jG at e
  cases hr:f δ h with
  | err=>rw [hr] at e; exact e
  | nx δ' h'=>rw [hr] at e; exact e
  | rt v h'=>rw [hr] at e; exact e
  | bk δ' h'=>rw [hr] at e; exact e
  | ct δ' h'=>rw [hr] at e; exact e
  | exc c fs δ' h' =>
   rw [hr] at e;intro m' G' σ' H' cls d s' w' en' x';obtain⟨rfl,xf⟩:=x';dsimp only at e
   split at e
   .rename_i hl
    split at e
    .rename_i hn;refine⟨true,hx _ _ (lS hl),fun _=>⟨_,rfl,fun a ha=>?_⟩,fun z=>nomatch z⟩;have ww:=w'.cellG (s:=s) (c:=.exc c fs) (o:=xco a (C.p.ca c) d) ha hn (.exc xf);refine e _ _ _ _ (s'.trans ww.2) ww.1 ⟨by simp [en'.len],fun k z hk=>?_⟩;have en2:=en'.stp ww.2
     by_cases ki:k=i
     .subst ki;rw [List.getElem?_set_self'] at hk
      cases q:(δ'.set j (some (.ref (.glo s (h'.glo s).length))))[k]? with
      | none=>rw [q] at hk; cases hk
      | some o=>rw [q] at hk; cases hk
     .rw [List.getElem?_set_ne (Ne.symm ki)] at hk ⊢
      by_cases kj:k=j
      .subst kj;have hl:k < δ'.length:=by
        rw [List.getElem?_set_self'] at hk
        cases q:δ'[k]? with
        | none=>rw [q] at hk; cases hk
        | some o=>exact(List.getElem?_eq_some_iff.mp q).1
       rw [List.getElem?_set_self hl] at hk
       cases hk
       have hr:Rv C.p (upm m' (.glo s (h'.glo s).length) a) (h'.bh s (.exc c fs)).has G' (.ref (upm m' (.glo s (h'.glo s).length) a (.glo s (h'.glo s).length))) (.ref (.glo s (h'.glo s).length)):=.ref (cG.mpr (.inr rfl));have eq:upm m' (.glo s (h'.glo s).length) a (.glo s (h'.glo s).length)=a:=by unfold upm; rw [if_pos rfl]
       rw [eq] at hr;exact⟨_,List.getElem?_set_self (by rw [List.length_set,en'.len]; exact hl),hr⟩
      .rw [List.getElem?_set_ne (Ne.symm kj)] at hk ⊢;rw [List.getElem?_set_ne (Ne.symm ki)];exact en2.get k z hk
    .exact e.elim
   .rename_i hl;exact⟨false,hx _ _ (lS hl),(fun z=>nomatch z),fun _=>e _ _ _ _ _ _ s' w' en' ⟨rfl,xf⟩⟩
   .exact e.elim
end
def nr(tbl:List (Nat×Bool)):Hh->Val->Res Val:=fun h x=>match x with
 | .ref r=>match h.get r with
  | some (.exc c _)=>match tbl.lookup c with
   | some b=>.ok (.bl b) h
   | none=>.err
  | _=>.err
 | _=>.err
theorem se_isX{C:Ct}{e:Expr}{pos q q2:Pos}{fa:Sl->Hh->Res Val}{x:Str}{T:String}(tbl:List (Nat×Bool))(hx:∀ c b,(c,b)∈tbl->XcIs C.p.K (C.p.ca c)/\PySem.W.kitOne C.p.K (.ref (C.p.ca c)) (.type T)=some b)(hT:bootBuiltins x=some (.type T))(hl:C.sc.names.lookup ("isinstance" : Str)=some .globalImplicit)(hm:C.p.mg "isinstance" = none)(hl2:C.sc.names.lookup x=some .globalImplicit)(hm2:C.p.mg x=none)(ha:SE C e fa)
  (hn:x≠"__name__":=by decide) (hd:(x == ("__debug__" : Str))=false:=by decide) (he:∀ env,starEach (e :: [.Name x q2]) env=(false,eval e env) :: starEach [.Name x q2] env:=by intro _; rfl):SE C (.Call (.Name "isinstance" q) [e,.Name x q2] [] pos) (m1 (nr tbl) fa):=by
 obtain⟨ta,pa,sa⟩:=ha;refine⟨fun W=>tCB (rIsX C.p.K) (tCons (ta W) (tCons (tC (.ty T)) tNil)),fun W X g=>pe_callB (rT C.p.K g.K) (g.gl hl) (by rw [g.mg]; exact hm) bb_isi (pa_cons (pa W X g) (pa_cons (pe_bltn (v:=.ty T) (u:=.type T) (g.gl hl2) (by rw [g.mg]; exact hm2) hT rfl hn hd) pa_nil rfl) (he _)) (by decide) (by decide) (he _) rfl,
  fun W σ δ m h G H Q en w e=>sa W σ δ m h G H _ en w (aq.bind e fun x h1 m1 G1 u H1 s1 w1 r1 e1=>?_)⟩
 unfold nr at e1
 split at e1
 .split at e1
  .rename_i c fs hg
   split at e1
   .rename_i b hb;obtain⟨_,_,o',h3,h4⟩:=w1.cel _ _ hg
    cases r1
    cases h4 with
    | exc h5 =>
     obtain⟨x1,x2⟩:=hx _ _ (lS hb);exact⟨_,_,_,_,.ty T,.type T,b,rfl,h3,x1,fun z=>by
      rcases h5 with ⟨_,z'⟩ | ⟨dd,vs,z',h6,_⟩
      .rw [z'] at z; cases z
      .exact⟨dd,vs,z',w1.gh _ _ h6⟩,fun u hu=>hu,x2,aq.here e1 w1 (.bl b)⟩
   .exact e1.elim
  .exact e1.elim
 .exact e1.elim
end M
namespace M
open PySem PySem.Spec PyProof.Rows L2 B He
structure XmOk(p:Pm)(x:Str)(c0:Nat)(tbl:List (Nat×Bool)):Prop where
 mg:p.mg x=some (.ref (p.ca c0))
 ex:∀ c b,(c,b)∈tbl->PySem.W.exmOne p.K (.ref (p.ca c)) (.ref (p.ca c0))=some b
def xbm(k:Nat):List Value:=if k=0 then verr else if k=1 then kerr else ierr
def xbn(k:Nat):String:=if k=0 then "ValueError" else if k=1 then "KeyError" else "IndexError"
def xbo(k:Nat):String:=if k=0 then "ValueError" else if k=1 then "LookupError" else "IndexError"
def xbw(k:Nat):String:=if k=0 then "ValueError.__new__" else if k=1 then "LookupError.__new__" else "IndexError.__new__"
def xbi(k:Nat):String:=if k=0 then "ValueError.__init__" else if k=1 then "KeyError.__init__" else "IndexError.__init__"
theorem xb_nb(k:Nat):NB (xbn k) (xbo k) (xbw k) (xbi k) (xbm k):=by
 unfold xbn xbo xbw xbi xbm
 by_cases h:k=0
 .simp only [h,if_true]; exact nbV
 .by_cases h1:k=1
  .subst h1; exact nbK
  .simp only [if_neg h,if_neg h1]; exact nbI
def isV(o:Option PySem.W.CFound)(n:String):Bool:=match o with
 | some (.val (.builtin m))=>m == n
 | _=>false
theorem isV_ok{o:Option PySem.W.CFound}{n:String}(h:isV o n=true):o=some (.val (.builtin n)):=by
 unfold isV at h
 split at h
 .rw [eq_of_beq h]
 .cases h
def xkB(x:Str)(k:Nat)(K:PySem.W.Frag):Bool :=
 xcIn K (ga K x) (xbm k) (xbw k) && (PySem.W.excOver K (ga K x) (xbm k) && (PySem.W.hasDictIn K (ga K x) && (He.eqO (PySem.W.findIn K (.ref (ga K x)) "__setattr__") (some (some (.builtin "object.__setattr__"))) && (He.eqO (PySem.W.findIn K (.ref (ga K x)) "__init__") (some (some (.ref (ma K (ga K x) "__init__")))) && (decide (PySem.W.typeIn K (.ref (ma K (ga K x) "__init__"))=some (.type "function")) && (PySem.W.keepIn K (.ref (ga K x)) &&
 (decide (PySem.W.subIn K (.ref (ga K x)) (.type "BaseException")=some true) && (decide (PySem.W.typeIn K (.ref (ga K x))=some (.type "type")) && (isV (PySem.W.findCls K (.type (xbn k)) (.type "type") "__init__") (xbi k) && (He.eqO (PySem.W.findIn K (.ref (ga K x)) "__getattribute__") (some (some (.builtin "BaseException.__getattribute__"))) && (He.eqO (PySem.W.findIn K (.ref (ga K x)) "__getattr__") (some none) && ((PySem.W.clsIn K (ga K x)).isSome && (He.eqO (PySem.W.findIn K (.ref (ga K x)) "__class__") (some (some (.builtin "object.__class__"))) &&
 (He.eqO (PySem.W.specialIn K (.builtin "object.__class__") "__get__") (some (some (.builtin "getset_descriptor.__get__"))) && (decide (PySem.W.takesIn K (.builtin "object.__class__")=some true) && decide (PySem.W.mroIn K (ga K x) (.type "object")=some true))))))))))))))))
theorem xkB_ok{x:Str}{k:Nat}{K:PySem.W.Frag}(h:xkB x k K=true):Xc K (ga K x) (ma K (ga K x) "__init__") (xbn k) (xbo k) (xbw k) (xbi k) (xbm k)/\XfC K (ga K x)/\XcIs K (ga K x):=by
 obtain⟨a1,h⟩:=Bool.and_eq_true_iff.mp h;obtain⟨a2,h⟩:=Bool.and_eq_true_iff.mp h;obtain⟨a3,h⟩:=Bool.and_eq_true_iff.mp h;obtain⟨a4,h⟩:=Bool.and_eq_true_iff.mp h;obtain⟨a5,h⟩:=Bool.and_eq_true_iff.mp h;obtain⟨a6,h⟩:=Bool.and_eq_true_iff.mp h;obtain⟨a7,h⟩:=Bool.and_eq_true_iff.mp h;obtain⟨a8,h⟩:=Bool.and_eq_true_iff.mp h;obtain⟨a9,h⟩:=Bool.and_eq_true_iff.mp h;obtain⟨b1,h⟩:=Bool.and_eq_true_iff.mp h;obtain⟨b2,h⟩:=Bool.and_eq_true_iff.mp h;obtain⟨b3,h⟩:=Bool.and_eq_true_iff.mp h;obtain⟨b4,h⟩:=Bool.and_eq_true_iff.mp h;obtain⟨b5,h⟩:=Bool.and_eq_true_iff.mp h;obtain⟨b6,h⟩:=Bool.and_eq_true_iff.mp h;obtain⟨b7,b8⟩:=Bool.and_eq_true_iff.mp h;exact⟨⟨xb_nb k,a1,a2,a3,He.eqO_ok a4,He.eqO_ok a5,of_decide_eq_true a6,a7,of_decide_eq_true a8,of_decide_eq_true a9,isV_ok b1⟩,⟨He.eqO_ok b2,He.eqO_ok b3,of_decide_eq_true a8,a3⟩,⟨b4,He.eqO_ok b2,He.eqO_ok b3,of_decide_eq_true a8,He.eqO_ok b5,He.eqO_ok b6,of_decide_eq_true b7,of_decide_eq_true b8⟩⟩
def xfB(x f:Str)(K:PySem.W.Frag):Bool:=He.eqO (PySem.W.findIn K (.ref (ga K x)) f) (some none)
theorem xfB_ok{x f:Str}{K:PySem.W.Frag}(h:xfB x f K=true):PySem.W.findIn K (.ref (ga K x)) f=some none/\PySem.W.takerIn K (ga K x) f=some none:=by
 have e:=He.eqO_ok h;refine⟨e,?_⟩;unfold PySem.W.takerIn;rw [e]; rfl
def xmB(x:Str)(l:List (Str×Bool))(K:PySem.W.Frag):Bool:=l.all fun q=>decide (PySem.W.exmOne K (.ref (ga K q.1)) (.ref (ga K x))=some q.2)
theorem xmB_ok{x:Str}{l:List (Str×Bool)}{K:PySem.W.Frag}(h:xmB x l K=true){y:Str}{b:Bool}(hm:(y,b)∈l):PySem.W.exmOne K (.ref (ga K y)) (.ref (ga K x))=some b:=of_decide_eq_true (List.all_eq_true.mp h _ hm)
def xiB(T:String)(l:List (Str×Bool))(K:PySem.W.Frag):Bool:=l.all fun q=>decide (PySem.W.kitOne K (.ref (ga K q.1)) (.type T)=some q.2)
theorem xiB_ok{T:String}{l:List (Str×Bool)}{K:PySem.W.Frag}(h:xiB T l K=true){y:Str}{b:Bool}(hm:(y,b)∈l):PySem.W.kitOne K (.ref (ga K y)) (.type T)=some b:=of_decide_eq_true (List.all_eq_true.mp h _ hm)
section
variable{p:Pm}{C fI:Addr}{fd:FuncData}{qual:Str}{st:Stmt}{B own newId initId:String}{bm:List Value}{Bn a msg f:Str}{q1 q2 q3 q4 q5 q6 q7 q8 q9 q0:Pos}{k:Nat}
theorem x_ini1{pl:Env->Sem Bool}(F:FunD p.K "__init__" qual (defArgs st) (defBody st) (defScope st) [] [] fI fd)(S:FnScope ["self",a] ["self",a] (defScope st))(T:Xc p.K C fI B own newId initId bm)(hbd:defBody st=[.Expr (.Call (.Attribute (.Name Bn q1) "__init__" q2) [.Name "self" q3,.Constant (.str msg) k q4] [] q5) q6,.Assign [.Attribute (.Name "self" q7) f q8] (.Name a q9) q0])
  (hc:∀ env,eval (.Call (.Attribute (.Name Bn q1) "__init__" q2) [.Name "self" q3,.Constant (.str msg) k q4] [] q5) env=(do let ov <- eval (.Name Bn q1) env; standAt q2.atName; let (f,first) <- holding [ov] (getMethod ov "__init__" (pl env)); callWith q5 f first (backTo q5 (starEach [.Name "self" q3,.Constant (.str msg) k q4] env)) (backToKw q5 (keywordEach [] env)))) (hl:(defScope st).names.lookup Bn=some .globalImplicit) (h0:(defScope st).names.lookup ("self" : Str)=some .local) (h1:(defScope st).names.lookup a=some .local) (hm:p.mg Bn=none) (hv:bootBuiltins Bn=some (.type B)) (hf:PySem.W.takerIn p.K C f=some none) (hn:Bn≠"__name__") (hd:(Bn == ("__debug__" : Str))=false) (hd1:(a == ("__debug__" : Str))=false) (hd2:(a == ("__classdict__" : Str))=false) :
  FnG p.P p.w p.K p.mg p.base CX0 1 fI fd ["self",a] (spX1 C f):=by
 refine fnG_of F S (fun vs H Q E ⟨e,v,h,_⟩=>by rw [h]; rfl) fun cdv A outer s H vs Q E hcd hr hgd hsp=>?_;rw [hbd];obtain⟨e,v,rfl,he,hq⟩:=hsp;have p0:PE (cxOf CX0 p.P p.w p.K p.mg p.base ["self",a] qual (defScope st) fI cdv A outer s H E) (.Name "self" q3) (tVar 0):=pe_var rfl (.inl h0);have p0':PE (cxOf CX0 p.P p.w p.K p.mg p.base ["self",a] qual (defScope st) fI cdv A outer s H E) (.Name "self" q7) (tVar 0):=pe_var rfl (.inl h0);have p1:PE (cxOf CX0 p.P p.w p.K p.mg p.base ["self",a] qual (defScope st) fI cdv A outer s H E) (.Name a q9) (tVar 1):=pe_var rfl (.inl h1) hd1 hd2;refine⟨_,pss_cons (ps_expr (pe_bini T hl hm hv hn hd (pa_cons p0 (pa_cons pe_str pa_nil rfl) rfl) (hc _) rfl rfl) rfl) (pss_one (ps_xput T hf p0' p1 rfl)),?_⟩;exact⟨.ref e,rfl,e,[_],rfl,Nat.le_of_ble_eq_true rfl,he,v,rfl,.ref e,rfl,e,rfl,he,fun dx hx hne=>hq dx hx hne⟩
end
end M
namespace M
open PySem PySem.Spec PyProof.Rows L2 B
abbrev XQ:=Nat->List (Nat×Val)->Hh->Prop
structure xpR{α : Type}(r:Res α)(Q:XQ):Prop where
 of ::
 go:match r with
  | .exc c fs h=>Q c fs h
  | _=>False
structure xpS(r:aD)(Q:Nat->List (Nat×Val)->Sl->Hh->Prop):Prop where
 of ::
 go:match r with
  | .exc c fs δ h=>Q c fs δ h
  | _=>False
section
variable{α β : Type}{r:Res α}{k:α->Hh->Res β}{Q:XQ}{QS:Nat->List (Nat×Val)->Sl->Hh->Prop}{δ : Sl}{h:Hh}{P:Po}{fo fv:Sl->Hh->Res Val}{ft:Sl->Hh->Res Bool}{fs:Sl->Hh->Res (List Val)}{f g:Sl->Hh->aD}
theorem xpR.get(q:xpR r Q):∃ c fs h,r = .exc c fs h/\Q c fs h:=by
 cases r with
 | ok a h=>exact q.go.elim
 | err=>exact q.go.elim
 | exc c fs h=>exact⟨c,fs,h,rfl,q.go⟩
theorem xpS.get{s:aD}(q:xpS s QS):∃ c fs δ h,s = .exc c fs δ h/\QS c fs δ h:=by
 cases s with
 | exc c fs δ h=>exact⟨c,fs,δ,h,rfl,q.go⟩
 | _=>exact q.go.elim
theorem xpR.mono{Q':XQ}(q:xpR r Q)(w:∀ c fs h,Q c fs h->Q' c fs h):xpR r Q':=by
 obtain⟨c,fs,h,e,q⟩:=q.get;rw [e]; exact⟨w _ _ _ q⟩
theorem xpR.bind(q:wpR r fun a h=>xpR (k a h) Q):xpR (r.bind k) Q:=by
 obtain⟨a,h,e,q⟩:=q.get;rw [e]; exact q
theorem xpR.bindX(q:xpR r Q):xpR (r.bind k) Q:=by
 obtain⟨c,fs,h,e,q⟩:=q.get;rw [e]; exact⟨q⟩
theorem sm(q:wpS (f δ h) { nx:=fun δ1 h1=>xpS (g δ1 h1) QS }):xpS (az f g δ h) QS:=by
 unfold az
 cases e:f δ h with
 | nx δ1 h1=>rw [e] at q; exact q.go
 | rt v h1=>rw [e] at q; exact q.go.elim
 | bk δ1 h1=>rw [e] at q; exact q.go.elim
 | ct δ1 h1=>rw [e] at q; exact q.go.elim
 | err=>rw [e] at q; exact q.go.elim
 | exc c fs δ1 h1=>rw [e] at q; exact q.go.elim
theorem kX(q:xpS (f δ h) QS):xpS (az f g δ h) QS:=by
 obtain⟨c,fs,δ1,h1,e,q⟩:=q.get;unfold az;rw [e]; exact⟨q⟩
theorem x_if(q:wpR (ft δ h) fun c h1=>if c=true then xpS (f δ h1) QS else xpS (g δ h1) QS):xpS (bZ ft f g δ h) QS:=by
 obtain⟨a,h1,e,q⟩:=q.get;unfold bZ;rw [e]
 cases a
 .exact q
 .exact q
theorem mI{c f:Nat}(q:wpR (fs δ h) fun xs h1=>∃ x,xs=[x]/\QS c [(f,x)] δ h1):xpS (gU c f fs δ h) QS:=by
 obtain⟨a,h1,e,x,rfl,q⟩:=q.get;unfold gU;rw [e]; exact⟨q⟩
theorem x_asg{g:Val->Sl->Option Sl}(q:xpR (fo δ h) fun c fs h1=>QS c fs δ h1):xpS (aI fo g δ h) QS:=by
 obtain⟨c,fs,h1,e,q⟩:=q.get;unfold aI;rw [e]; exact⟨q⟩
theorem x_fn{T:Nat->Option Df}{n k:Nat}{d:Df}{xs:List Val}(hT:T k=some d)(hl:xs.length=d.np)(q:xpS (d.body (ao T n) (startM d xs) h) fun c fs _ h1=>nlp fs=true/\Q c fs (h1.cut h.loc.length)):xpR (ao T (n + 1) k xs h) Q:=by
 obtain⟨c,fs,δ1,h1,e,q1,q2⟩:=q.get;unfold ao;rw [hT];dsimp only;rw [if_pos hl,e];unfold finR;dsimp only;rw [if_pos q1];exact⟨q2⟩
theorem x_call{Γ : Calls}{k:Nat}(q:wpR (fs δ h) fun xs h1=>xpR (Γ k xs h1) Q):xpR (aA Γ k fs δ h) Q:=.bind q
theorem s_tryKn{tbl:List (Nat×Bool)}{i j s:Nat}(q:wpS (f δ h) P):wpS (jG tbl i j s f δ h) P:=by
 unfold jG
 cases e:f δ h with
 | err=>rw [e] at q; exact q.go.elim
 | exc c fs δ1 h1=>rw [e] at q; exact q.go.elim
 | nx δ1 h1=>rw [e] at q; exact q
 | rt v h1=>rw [e] at q; exact q
 | bk δ1 h1=>rw [e] at q; exact q
 | ct δ1 h1=>rw [e] at q; exact q
theorem qx{tbl:List (Nat×Bool)}{i j s:Nat}(q:xpS (f δ h) fun c fs δ1 h1=>tbl.lookup c=some true/\nlp fs=true/\P.nx ((δ1.set j (some (.ref (.glo s (h1.glo s).length)))).set i none) (h1.bh s (.exc c fs))):wpS (jG tbl i j s f δ h) P:=by
 obtain⟨c,fs,δ1,h1,e,q1,q2,q3⟩:=q.get;unfold jG;rw [e];dsimp only;rw [q1];dsimp only;rw [if_pos q2];exact⟨q3⟩
end
section
variable{QV:Val->Hh->Prop}{c:Val}{s l:Int}{g:GG}{L:List Cel}{i j k:Nat}{x:Val}
theorem nZ{fs:List (Nat×Val)}(hi:i≠0:=by decide):(hT c s l g L).bh i (.exc k fs)=hT c s l (jK g i (.exc k fs)) L:=n3 hi
theorem o_xf{cs:List Nat}{f:Nat}(e:gat g i j=some (.exc k [(f,x)]))(hc:k∈cs)(q:QV x (hT c s l g L))(hi:i≠0:=by decide):wpR (rJ cs f (hT c s l g L) (.ref (.glo i j))) QV:=by
 unfold rJ;dsimp only;rw [fJ e hi];dsimp only;rw [if_pos ⟨hc,rfl⟩];exact⟨q⟩
theorem o_isX{tbl:List (Nat×Bool)}{b:Bool}{fs:List (Nat×Val)}(e:gat g i j=some (.exc k fs))(hb:tbl.lookup k=some b)(q:QV (.bl b) (hT c s l g L))(hi:i≠0:=by decide):wpR (nr tbl (hT c s l g L) (.ref (.glo i j))) QV:=by
 unfold nr;dsimp only;rw [fJ e hi];dsimp only;rw [hb];exact⟨q⟩
end
end M
namespace M
open PySem PySem.Spec PyProof.Rows L2 B
theorem x_for{fw:Sl->Hh->Res Wk}{tg:Val->Sl->Option Sl}{f:Sl->Hh->aD}{δ : Sl}{h:Hh}{QS:Nat->List (Nat×Val)->Sl->Hh->Prop}{j:Nat} (q:wpR (fw δ h) fun k h1=>∃ I:Nat->Sl->Hh->Prop,I 0 δ h1/\j < k.n /\
  (∀ i δ h,i < j->I i δ h->∃ x δ1,k.it i h=some (some x)/\tg x δ = some δ1/\wpS (f δ1 h) { nx:=I (i + 1) })/\(∀ δ h,I j δ h->∃ x δ1,k.it j h=some (some x)/\tg x δ = some δ1/\xpS (f δ1 h) QS)):xpS (ip fw tg f δ h) QS:=by
 obtain⟨k,h1,e,I,i0,hj,hs,hd⟩:=q.get;have key:∀ m i n δ h,i + m=j->i + n=k.n->I i δ h->xpS (forM k.it tg f n i δ h) QS:=by
  intro m
  induction m with
  | zero =>
   intro i n δ h hm hn hi;obtain rfl:i=j:=hm;obtain⟨x,δ1,e1,e2,q⟩:=hd δ h hi;obtain⟨n',rfl⟩:∃ n',n=n' + 1:=⟨n - 1,by omega⟩;obtain⟨c,fs,δ2,h2,e3,q⟩:=q.get;unfold forM;rw [e1];dsimp only;rw [e2];dsimp only;rw [e3];exact⟨q⟩
  | succ m ih =>
   intro i n δ h hm hn hi;obtain⟨x,δ1,e1,e2,q⟩:=hs i δ h (by omega) hi;obtain⟨n',rfl⟩:∃ n',n=n' + 1:=⟨n - 1,by omega⟩;unfold forM;rw [e1];dsimp only;rw [e2];dsimp only
   cases e:f δ1 h with
   | nx δ2 h2 =>
    rw [e] at q;exact ih (i + 1) n' δ2 h2 (by omega) (by omega) q.go
   | rt v h1=>rw [e] at q; exact q.go.elim
   | bk δ1 h1=>rw [e] at q; exact q.go.elim
   | ct δ1 h1=>rw [e] at q; exact q.go.elim
   | err=>rw [e] at q; exact q.go.elim
   | exc c fs δ1 h1=>rw [e] at q; exact q.go.elim
 unfold ip;rw [e];exact key j 0 k.n δ h1 (by omega) (by omega) i0
end M
namespace M
open PySem PySem.Spec PyProof.Rows L2 B
def tK(K:PySem.W.Frag)(w:World)(td ty tx:TE):TE:=fun σ H Q=>td σ H fun x H1=>∃ a,x = .ref a/\(∃ es n,KDict K w a es n)/\ty σ H1 fun y H2=>tx σ H2 fun z H3=>∃ (k:Str) (r:Option Value),y = .str k/\PySem.W.nsIn K a k=some r/\(match r with | none=>Q z H3 | some u=>∃ v,RelV v u/\Q v H3)
section
variable{X:Cx}{o e f:Expr}{apos cpos:Pos}{td ty tx:TE}
theorem uB(ho:PE X o td)(he:PE X e ty)(hf:PE X f tx)(m:M2 X o "get" apos e f cpos):PE X (.Call (.Attribute o "get" apos) [e,f] [] cpos) (tK X.K X.w td ty tx):=by
 refine⟨fun pins s σ H Q I h=>?_⟩;refine wpAny_Call_method m.base m.few m.line PySem.F.plainAttrs_dict PySem.F.slot_dict_get PySem.F.type_dict_get (thn (ho.run pins s σ H _ I h) fun u s1 ⟨x,H1,I1,rx,a,ex,⟨es,n,D⟩,q1⟩=>?_);subst ex;obtain rfl:u=Value.ref a:=rx;have hm1:=PySem.W.mapOf_K (prog:=X.prog) (w:=X.w) I1.kIn D.at_ D.lit;refine⟨hm1.typeIs,fun b q=>?_,?_⟩
 .cases q
  exact⟨_,I1.kIn _ _ D.at_,rfl⟩
 rw [m.trees];refine Calls.callWith_builtin rfl (Calls.evalArgs_plain (Calls.spliced_cons (thn (he.run pins s1 σ H1 _ I1 q1) fun iv s2 ⟨y,H2,I2,ry,q2⟩ =>
  Calls.spliced_cons (thn (hf.run pins s2 σ H2 _ I2 q2) fun fv s3 ⟨z,H3,I3,rz,k,r,ey,er,q3⟩=>Calls.spliced_nil ?_))))
 subst ey;obtain⟨t,rfl⟩:=(show ∃ t,iv=Value.str k t from ry);have hm3:=PySem.W.mapOf_K (prog:=X.prog) (w:=X.w) I3.kIn D.at_ D.lit;refine call_meetsIn PySem.F.slot_dict_get hm3.typeIs PySem.F.entry_dict_get (PySem.F.args_dict_get_3 _ _ _) (meets_dict_get_default (strKind X.prog X.w) a (strKind_is X.prog X.w k t) D.low fv) ⟨_,hm3,?_⟩;rw [PySem.W.find_K D.at_ er]
 cases r with
 | none=>exact⟨z,H3,I3.tok _,rz,q3⟩
 | some u =>
  obtain⟨v,rv,q3⟩:=q3;exact⟨v,H3,I3.tok _,rv,q3⟩
end
structure KmapP(p:Pm)(x:Str)(T:List (Str×List Int)):Prop where
 ex:∃ d es n,p.mg x=some (.ref d)/\KDict p.K p.w d es n/\∀ z:Str,match T.lookup z with
  | some is=>∃ b,PySem.W.nsIn p.K d z=some (some (.ref b))/\∀ H:Hp,SqT p.K H b (is.map V.int)
  | none=>PySem.W.nsIn p.K d z=some none
def lQ(T:List (Str×List Int))(fk fd:Sl->Hh->Res Val):Sl->Hh->Res Val:=fun δ h=>(fk δ h).bind fun x h1=>(fd δ h1).bind fun z h2=>match x with
 | .str y=>match T.lookup y with
  | some is=>.ok (.kt (is.map Val.int)) h2
  | none=>.ok z h2
 | _=>.err
section
variable{C:Ct}{x:Str}{T:List (Str×List Int)}{ky df:Expr}{fk fd:Sl->Hh->Res Val}{p1 apos cpos:Pos}
theorem t5(hK:KmapP C.p x T)(hl:GN C x)(hk:SE C ky fk)(hf:SE C df fd)(hd:(x == ("__debug__" : Str))=false:=by decide)(hM:∀ X,M2 X (.Name x p1) "get" apos ky df cpos:=by intro _; constructor <;> rfl):SE C (.Call (.Attribute (.Name x p1) "get" apos) [ky,df] [] cpos) (lQ T fk fd):=by
 obtain⟨tk,pk,sk⟩:=hk;obtain⟨tf,pf,sf⟩:=hf;obtain⟨d,es,n,h1,h2,h3⟩:=hK.ex;refine⟨fun W=>tK C.p.K C.p.w (tC (.ref d)) (tk W) (tf W),fun W X g=>by have:=uB (X:=X) (pe_glob (v:=.ref d) (g.gl hl) (by rw [g.mg]; exact h1) rfl hd) (pk W X g) (pf W X g) (hM X); rw [g.K,g.w] at this; exact this,fun W σ δ m h G H Q en w e=>⟨d,rfl,⟨es,n,h2⟩,sk W σ δ m h G H _ en w (aq.bind e fun x1 hh m1 G1 u H1 s1 w1 r1 e1=>sf W σ δ m1 hh G1 H1 _ (en.stp s1) w1 (aq.bind e1 fun z h3 m3 G3 zv H3 s3 w3 r3 e3=>?_))⟩⟩
 split at e3
 .rename_i y
  cases r1
  have h4:=‹∀ z:Str,_› y
  split at e3
  .rename_i is hi;rw [hi] at h4;obtain⟨b,hb,hs⟩:=h4;exact⟨y,_,rfl,hb,.ref b,rfl,aq.here e3 w3 (.kt hs eR)⟩
  .rename_i hi;rw [hi] at h4;exact⟨y,_,rfl,h4,aq.here e3 w3 r3⟩
 .exact e3.elim
end
theorem w_getKD{T:List (Str×List Int)}{fk fd:Sl->Hh->Res Val}{δ : Sl}{h:Hh}{QV:Val->Hh->Prop}(q:wpR (fk δ h) fun x h1=>∃ y,x = .str y/\wpR (fd δ h1) fun z h2=>QV (match T.lookup y with | some is=>.kt (is.map Val.int) | none=>z) h2):wpR (lQ T fk fd δ h) QV:=by
 unfold lQ;refine .bind (q.mono fun x h1 ⟨y,e,q⟩=>?_);subst e;refine .bind (q.mono fun z h2 q=>?_);dsimp only
 cases e:T.lookup y with
 | some is=>rw [e] at q; exact⟨q⟩
 | none=>rw [e] at q; exact⟨q⟩
section
variable{X:Cx}{CX:CXT}{k:Nat}{f:Addr}{fd:FuncData}{ps:List Str}{sp:Sp}{dvs:List V}{ds:List Value}{E:L2.St->XK}{x:Str}{p pos:Pos}
theorem rH(F:FnG X.prog X.w X.K X.mg X.base CX k f fd ps sp)(hr:Room k X.A)(hgd:X.A.guards=some [])(hg:Gl X x)(hm:X.mg x=some (.ref f))(hk:PySem.W.keepIn X.K (.ref f)=true)(hb:Binds X.K fd ps ds)(hd:Vals dvs ds)(hx:∀ σ,PassesAt CX X σ (E σ))
  (hdb:(x == ("__debug__" : Str))=false):PE X (.Call (.Name x p) [] [] pos) (tCallSD sp dvs E tNil) :=
 ⟨fun pins s σ H Q I h=>wpAny_Call_Name_kw (ld_glob I hg hm (PySem.W.callWith_K0 I.kIn hk (lF (us:=[]) F hr hgd hb hd (hx σ) I .nil h)) hdb)⟩
end
section
variable{C:Ct}{T:Nat->Option Df}{n f:Nat}{d:Df}{x:Str}{q pos:Pos}
theorem jn(hc:aH C.p T n)(hT:T f=some d)(hk0:d.kw=[])(hk:3 * n<=C.k)(hm:C.p.mg x=some (.ref (C.p.fa f)))(hl:C.sc.names.lookup x=some .globalImplicit)(hdb:(x == ("__debug__" : Str))=false:=by decide):SE C (.Call (.Name x q) [] [] pos) (aA (ao T n) f ar):=by
 obtain⟨fd,F,kp,b,_⟩:=hc f d hT;refine⟨fun W=>tCallSD (spM C.p d.np (ao T n f)) [] (L2.WE W) tNil,fun W X g=>?_,fun W σ δ m h G H Q en w e=>?_⟩
 .refine rH (f:=C.p.fa f) (fd:=fd) (ps:=d.ps) (CX:=L2.CX X.prog X.w) ?_ (g.room.mono hk) g.gd (g.gl hl) (by rw [g.mg]; exact hm) (by rw [g.K]; exact kp) (by rw [g.K]; exact b hk0) .nil (fun σ=>passAt g.takes σ) hdb;rw [g.prog,g.w,g.K,g.mg,g.base]; exact F
 .have e1:aq C.p (rV C.p) m h G H W σ Q (ao T n f [] h):=e;show spM C.p d.np (ao T n f) ([] ++ []) H Q _;have hl:([]:List Val).length=d.np:=by
   by_cases z:([]:List Val).length=d.np
   .exact z
   .rw [iA hT z] at e1; exact e1.elim
  refine⟨hl,m,h,G,[],w,.nil,?_⟩
  cases hr:ao T n f [] h with
  | err=>rw [hr] at e1; exact e1
  | ok v h'=>rw [hr] at e1; exact e1
  | exc c fs h'=>rw [hr] at e1; exact e1
end
def jI:List (Key×Val)->Option (List Str)
 | []=>some []
 | (.inr k,_) :: r=>(jI r).map (k :: ·)
 | _=>none
theorem nS:∀ {kvs:List (Key×Val)} {ks:List Str},jI kvs=some ks->kvs.map (·.1)=ks.map Sum.inr
 | [],_,h=>by cases h; rfl
 | (.inr k,v) :: r,_,h=>by
  have h:(jI r).map (k :: ·)=some _:=h;obtain⟨l,h1,h2⟩:=Option.map_eq_some_iff.mp h;subst h2;rw [List.map_cons,nS h1]; rfl
def d8(md:Md)(h:Hh)(xs:List Val):Res Val:=match xs with
 | [x]=>match rdK h x with
  | some kvs=>match jI kvs with
   | some ks=>if ks.length < 64 then bJ md ((mO ks).map .str) h else .err
   | none=>.err
  | none=>.err
 | _=>.err
def rSortDW:List V->Hp->VK->Prop:=fun xs H Q=>∃ (a:Addr) (kvs:List (Key×V)) (ks:List Str),xs=[.ref a]/\Rd H a (.dK kvs)/\kvs.map (·.1)=ks.map Sum.inr/\ks.length < 64/\∀ (ys:List Str) (p:Addr),ys.Perm ks->sortedS ys=true->H p=none->Q (.ref p) (upd H p (.lst (ys.map V.str)))
theorem rm{p:Pm}(md:Md):mF p rSortDW (d8 md):=fun m h G H us xs Q W σ w r e=>by
 unfold d8 at e
 split at e
 .obtain⟨u,rfl,ru⟩:=eB r
  split at e
  .rename_i kvs hk
   split at e
   .rename_i ks hks
    split at e
    .rename_i hl;obtain⟨a,vs,rfl,h1,h2⟩:=lJ w ru hk;refine⟨a,vs,ks,rfl,h1,by rw [m7 h2]; exact nS hks,hl,fun zs q k1 k2 n=>?_⟩;rw [srtS_eq k1 k2];exact ml e w n jt
    .exact e.elim
   .exact e.elim
  .exact e.elim
 .exact e.elim
section
variable{C:Ct}{e:Expr}{pos q:Pos}{fs:Sl->Hh->Res (List Val)}
theorem ko(md:Md)(hl:GN C "sorted")(hm:C.p.mg "sorted" = none)(ha:SA C [e] fs)(he:∀ env,starEach [e] env=(false,eval e env) :: starEach [] env:=by intro _; rfl):SE C (.Call (.Name "sorted" q) [e] [] pos) (mC (d8 md) fs) :=
 ua (fun W X g=>call_sortedD g.calm) (rm md) hl hm rW ha (he:=he)
end
theorem nv{md:Md}{h:Hh}{x:Val}{kvs:List (Key×Val)}{ks:List Str}{QV:Val->Hh->Prop}(hx:rdK h x=some kvs)(hk:jI kvs=some ks)(hl:ks.length < 64)(q:wpR (bJ md ((mO ks).map .str) h) QV):wpR (d8 md h [x]) QV:=by
 unfold d8;dsimp only;rw [hx];dsimp only;rw [hk];dsimp only;rw [if_pos hl];exact q
def sZ(K:PySem.W.Frag)(a:Addr)(vs:List He.Dv):Bool:=match K.lookup a with
 | some ⟨.type c,_,.seq its _,_⟩=>decide (c = "tuple") && (decide (its.size<=sizeLine) && He.relAll (vs.map (He.Dv.v K)) its.toList)
 | _=>false
theorem sY{K:PySem.W.Frag}{a:Addr}{vs:List He.Dv}(h:sZ K a vs=true)(H:Hp):SqT K H a (vs.map (He.Dv.v K)):=by
 unfold sZ at h
 split at h
 .rename_i c od its n osl q;obtain⟨h1,h2⟩:=Bool.and_eq_true_iff.mp h;obtain⟨h3,h4⟩:=Bool.and_eq_true_iff.mp h2;exact .inr ⟨_,its,n,q,congrArg Value.type (of_decide_eq_true h1),rfl,of_decide_eq_true h3,He.relAll_ok h4⟩
 .cases h
def kmB(x:Str)(T:List (Str×List Int))(K:PySem.W.Frag):Bool:=(T.all fun q=>match PySem.W.nsIn K (He.ga K x) q.1 with
  | some (some (.ref b))=>sZ K b (q.2.map He.Dv.int)
  | _=>false) && (match K.lookup (He.ga K x) with
  | some ⟨_,_,.dict es _,_⟩=>es.toList.all fun e=>!e.refKey && (match e.key with
   | .str s _=>T.any fun q=>q.1 == s
   | _=>false)
  | _=>false)
theorem eX{a:Str}{b:List Int}:∀ {l:List (Str×List Int)},l.lookup a=some b->(a,b)∈l
 | [],h=>nomatch h
 | (a',b') :: r,h=>by
  rw [List.lookup_cons] at h
  split at h
  .rename_i z; cases h; rw [beq_iff_eq.mp z]; exact List.mem_cons_self
  .exact List.mem_cons_of_mem _ (eX h)
theorem gW{a:Str}:∀ {l:List (Str×List Int)},l.lookup a=none->∀ q∈l,(q.1 == a)=false
 | [],_,q,hq=>nomatch hq
 | (a',b') :: r,h,q,hq=>by
  rw [List.lookup_cons] at h
  split at h
  .cases h
  .rename_i z;rcases List.mem_cons.mp hq with rfl | hq
   .show(a' == a)=false;rw [Bool.eq_false_iff] at z ⊢;intro e;exact z (beq_iff_eq.mpr (beq_iff_eq.mp e).symm)
   .exact gW h q hq
theorem kmap_of{p:Pm}{x:Str}{T:List (Str×List Int)}(e:p.mg x=some (.ref (He.ga p.K x)))(D:∃ es n,KDict p.K p.w (He.ga p.K x) es n)(h:kmB x T p.K=true):KmapP p x T:=by
 obtain⟨es,n,D⟩:=D;obtain⟨h1,h2⟩:=Bool.and_eq_true_iff.mp h;refine⟨He.ga p.K x,es,n,e,D,fun z=>?_⟩
 cases hz:T.lookup z with
 | some is =>
  have h3:=List.all_eq_true.mp h1 _ (eX hz);dsimp only at h3 ⊢
  split at h3
  .rename_i b hb;refine⟨b,hb,fun H=>?_⟩;have h4:=sY h3 H;rw [List.map_map] at h4;exact h4
  .cases h3
 | none =>
  dsimp only;rw [D.at_] at h2;have h2:=List.all_eq_true.mp h2;unfold PySem.W.nsIn;rw [D.at_];dsimp only;have hf:es.toList.find? (·.key.isStr z)=none:=by
   refine List.find?_eq_none.mpr fun e he hq=>?_;obtain⟨_,h4⟩:=Bool.and_eq_true_iff.mp (h2 e he)
   split at h4
   .rename_i s t hs;rw [hs] at hq;have hq:(s == z)=true:=hq;obtain⟨q,hq1,hq2⟩:=List.any_eq_true.mp h4;have:=gW hz q hq1;rw [beq_iff_eq.mp hq2,hq] at this
    cases this
   .cases h4
  rw [hf];dsimp only;rw [if_neg];rw [Bool.not_eq_true,List.any_eq_false];intro e he;obtain⟨h4,_⟩:=Bool.and_eq_true_iff.mp (h2 e he)
  simpa using h4
end M
namespace K13
open PySem PySem.Spec PyProof.Rows L2 B M
def di(i:Nat):Stmt:=PySem.Challenge.pw_strokeguess_k13_told_rows_as_texts.main.body.getD i (.Pass ⟨0,0,0,0⟩)
def topM(i j:Nat):Stmt:=match di i with
 | .ClassDef _ _ _ b _ _ _ _ _ _ _=>b.getD j (.Pass ⟨0,0,0,0⟩)
 | s=>s
abbrev aS:Stmt:=topM 1 0
abbrev bp:Stmt:=di 27
abbrev bI:Stmt:=di 23
abbrev aJ:Stmt:=di 26
abbrev aU:Stmt:=di 29
abbrev aN:Stmt:=di 25
abbrev bg:Stmt:=di 28
abbrev cg:Stmt:=di 31
abbrev bW:Stmt:=di 32
abbrev bo:Stmt:=di 30
abbrev bH:Stmt:=di 22
abbrev aR:Stmt:=di 24
abbrev cF:Stmt:=di 16
abbrev bV:Stmt:=di 3
abbrev bG:Stmt:=di 10
abbrev cb:Stmt:=di 7
abbrev bf:Stmt:=di 15
abbrev b9:Stmt:=di 19
abbrev bF:Stmt:=di 20
abbrev bE:Stmt:=di 17
abbrev bc:Stmt:=di 18
abbrev gJ:Stmt:=di 33
end K13
namespace K13
open PySem PySem.Spec PyProof.Rows L2 B M
open He
def j8:He.DefD:=⟨("_law_asked",none),"_law_asked","_law_asked",defArgs bp,defBody bp,defScope bp,[],[]⟩
def my:He.DefD:=⟨("_law_draw",none),"_law_draw","_law_draw",defArgs bI,defBody bI,defScope bI,[],[]⟩
def g9:He.DefD:=⟨("_law_bent_text",none),"_law_bent_text","_law_bent_text",defArgs aJ,defBody aJ,defScope aJ,[],[]⟩
def jP:He.DefD:=⟨("_law_counts",none),"_law_counts","_law_counts",defArgs aU,defBody aU,defScope aU,[],[]⟩
def jO:He.DefD:=⟨("_law_number",none),"_law_number","_law_number",defArgs aN,defBody aN,defScope aN,[],[]⟩
def mw:He.DefD:=⟨("_law_word",none),"_law_word","_law_word",defArgs bg,defBody bg,defScope bg,[],[]⟩
def pO:He.DefD:=⟨("_law_in",none),"_law_in","_law_in",defArgs cg,defBody cg,defScope cg,[],[]⟩
def ot:He.DefD:=⟨("_law_due",none),"_law_due","_law_due",defArgs bW,defBody bW,defScope bW,[],[]⟩
def oq:He.DefD:=⟨("_law_row",none),"_law_row","_law_row",defArgs bo,defBody bo,defScope bo,[],[]⟩
def mx:He.DefD:=⟨("_law_tape",none),"_law_tape","_law_tape",defArgs bH,defBody bH,defScope bH,[],[]⟩
def j7:He.DefD:=⟨("_law_words",none),"_law_words","_law_words",defArgs aR,defBody aR,defScope aR,[],[]⟩
def pM:He.DefD:=⟨("rows_in",none),"rows_in","rows_in",defArgs cF,defBody cF,defScope cF,[],[]⟩
def oo:He.DefD:=⟨("is_whole",none),"is_whole","is_whole",defArgs bV,defBody bV,defScope bV,[],[]⟩
def mv:He.DefD:=⟨("is_moment",none),"is_moment","is_moment",defArgs bG,defBody bG,defScope bG,[],[]⟩
def pN:He.DefD:=⟨("is_word",none),"is_word","is_word",defArgs cb,defBody cb,defScope cb,[],[]⟩
def mr:He.DefD:=⟨("number_in",none),"number_in","number_in",defArgs bf,defBody bf,defScope bf,[],[]⟩
def pL:He.DefD:=⟨("told_in",none),"told_in","told_in",defArgs b9,defBody b9,defScope b9,[],[]⟩
def mq:He.DefD:=⟨("read_told",none),"read_told","read_told",defArgs bF,defBody bF,defScope bF,[],[]⟩
def oj:He.DefD:=⟨("words_of",none),"words_of","words_of",defArgs bE,defBody bE,defScope bE,[],[]⟩
def mn:He.DefD:=⟨("show_told",none),"show_told","show_told",defArgs bc,defBody bc,defScope bc,[],[]⟩
def dd_law:He.DefD:=⟨("law",none),"law","law",defArgs gJ,defBody gJ,defScope gJ,[],[]⟩
def dh:He.DefD:=⟨("NoText",some "__init__"),"__init__","NoText.__init__",defArgs aS,defBody aS,defScope aS,[],[]⟩
def fn0:List He.DefD:=[j8,my,g9,jP,jO,mw,pO,ot,oq,mx,j7,pM,oo,mv,pN,mr,pL,mq,oj,mn,dd_law,dh]
def fn:List He.DefD:=fn0
def fldT0:List PySem.Str:=["scene","forms","spots","number","way","touches","spot","contest","labelled","part","wish","kind","label","strokes","state","since","why","taps","machine_at","is_lifted","due","counted","claimed","begun_with","told_at","is_over","parts","beside","heeds","slop"]
def fldT1:List PySem.Str:=["gap","guessing","shelves","hopes","time","touched","claims","rows","contests","seen","time_told","held","ears","away","deeds","reader","watchers","name","box","ear","shelf","wishes","within","about","names","named","states","wanted","machine","other"]
def fldT2:List PySem.Str:=["wants","best","lines","row"]
def fQ:List PySem.Str:=fldT0 ++ fldT1 ++ fldT2
def fa0:List He.Fa:=[.glo "_law_asked",.glo "_law_draw",.glo "_law_bent_text",.glo "_law_counts",.glo "_law_number",.glo "_law_word",.glo "_law_in",.glo "_law_due",.glo "_law_row",.glo "_law_tape",.glo "_law_words",.glo "rows_in",.glo "is_whole",.glo "is_moment",.glo "is_word",.glo "number_in",.glo "told_in",.glo "read_told",.glo "words_of",.glo "show_told",.glo "law",.int "LAST_MOMENT" 1000000000,.int "LONGEST" 8,.int "MOST_FIGURES" 10,.str "LETTERS" "abcdefghijklmnopqrstuvwxyz",.str "FIGURES" "0123456789",.free "isinstance",.free "bool",.free "ValueError",.free "len"]
def fa1:List He.Fa:=[.free "int",.free "all",.free "tuple",.free "enumerate",.free "str",.free "range",.free "sorted",.glo "NoText",.glo "MANY"]
def fa:List He.Fa:=fa0 ++ fa1
def xs0:List (PySem.W.Frag->Bool):=[(fun K=>decide ((([]:List He.Defn).map (He.cT K)).map Prod.snd).Nodup),(xkB "NoText" 0),(xfB "NoText" "row"),(xmB "NoText" [("NoText",true)]),(xiB "ValueError" [("NoText",true)]),(kmB "MANY" [("tapped",[2]),("began",[0]),("moved",[2,4]),("ended",[0]),("flung",[2]),("off",[0]),("shelf",[3]),("over",[2]),("guess",[0]),("back",[0])])]
def xs:List (PySem.W.Frag->Bool):=xs0
def loose0:List PySem.Str:=["NoText","is_whole","LETTERS","LONGEST","is_word","LAST_MOMENT","is_moment","FIGURES","MOST_FIGURES","MANY","number_in","rows_in","words_of","show_told","told_in","read_told","_law_tape","_law_draw","_law_words","_law_number","_law_bent_text","_law_asked","_law_word","_law_counts","_law_row","_law_in","_law_due"]
def loose:List PySem.Str:=loose0
abbrev R:PySem.W.OpenRow:=PySem.W.OpenLaw.row PySem.Challenge.rw_strokeguess_k13_told_rows_as_texts
def tf:List He.Defn:=[]
def ts:List He.Tab:=[((fun K=>He.ga K "MANY"),["tapped","began","moved","ended","flung","off","shelf","over","guess","back"])]
def asT:List PySem.Addr:=[3,134,112,127,146,122,139,156,163,151,105,117,76,41,53,46,69,91,98,81,86,168,28,31,54,133,111,126,145,121,138,155,162,150,104,116,75,40,52,45,68,90,97,80,85,167,27,30,55,56,57,58,59,60,61,62,63,64]
abbrev hk:PySem.W.Hook:=M.hookA asT fa fn xs tf ts
def ob(s:PySem.W.SharedT):M.AlL:=M.jB asT fa fn xs tf ts (HandSHeadRun.getT s)
theorem ob_eq(s:PySem.W.SharedT):ob s=hk.obs s.abs:=M.uH (HandSHeadRun.getT_eq s)
set_option maxHeartbeats 0 in
theorem oW(w:World):M.RunA R (PySem.W.view R.prog [33]) 10000 loose (w.withFollow "special-get-raises" false):=by
 intro os
 kernel_rfl
set_option maxHeartbeats 0 in
theorem oV(w:World):M.RunB R hk ob 10000 (w.withFollow "special-get-raises" false):=by
 intro os
 kernel_rfl
theorem rn(w:World):HandSHeadRun.RunEq R (PySem.W.view R.prog [33]) hk ob 10000 loose (w.withFollow "special-get-raises" false):=M.uk (oW w) (oV w)
set_option maxHeartbeats 0 in
theorem rq(w:World):M.RunA R (PySem.W.view R.prog [33]) 10000 loose (w.withFollow "special-get-raises" true):=by
 intro os
 kernel_rfl
set_option maxHeartbeats 0 in
theorem rp(w:World):M.RunB R hk ob 10000 (w.withFollow "special-get-raises" true):=by
 intro os
 kernel_rfl
theorem uj(w:World):HandSHeadRun.RunEq R (PySem.W.view R.prog [33]) hk ob 10000 loose (w.withFollow "special-get-raises" true):=M.uk (rq w) (rp w)
theorem run(w:World):HandSHeadRun.RunEq R (PySem.W.view R.prog [33]) hk ob 10000 loose w:=by
 have h:∀ (b:Bool) (w:World),HandSHeadRun.RunEq R (PySem.W.view R.prog [33]) hk ob 10000 loose (w.withFollow "special-get-raises" b):=fun b w=>by cases b; exact rn w; exact uj w
 have:=h (w.params.followText "special-get-raises") w
 rwa [World.withFollow_self] at this
end K13
section
open PySem PySem.W PySem.Calls PyProof.Rows
set_option maxRecDepth 100000 in
set_option maxHeartbeats 0 in
theorem K13.pre(hc:WalkO (view (OpenLaw.row PySem.Challenge.rw_strokeguess_k13_told_rows_as_texts).prog [33]) K13.loose (XL (view (OpenLaw.row PySem.Challenge.rw_strokeguess_k13_told_rows_as_texts).prog [33]) []) K13.hk.says (OpenLaw.row PySem.Challenge.rw_strokeguess_k13_told_rows_as_texts).toRowW (HandSHeadRun.topDef (OpenLaw.row PySem.Challenge.rw_strokeguess_k13_told_rows_as_texts).prog 33) [] fun f vs=>PySem.call f vs):PySem.Challenge.rw_strokeguess_k13_told_rows_as_texts.Holds:=by
 w_on; o_law
 refine HandSHeadRun.head_any (r:=OpenLaw.row PySem.Challenge.rw_strokeguess_k13_told_rows_as_texts) (q:=view (OpenLaw.row PySem.Challenge.rw_strokeguess_k13_told_rows_as_texts).prog [33]) (H:=K13.hk) (ob:=K13.ob) (M:=10000) (loose:=K13.loose) (d:=HandSHeadRun.topDef (OpenLaw.row PySem.Challenge.rw_strokeguess_k13_told_rows_as_texts).prog 33) (kwd:=[]) K13.ob_eq
  (by kernel_rfl) (fun s=>by kernel_rfl) K13.run (by kernel_rfl) (by kernel_rfl) (by kernel_rfl) (by rfl) (by first | assumption | decide +kernel) (by decide +kernel) ⟨rfl,rfl,rfl,rfl,rfl,by decide +kernel⟩ ?hw ?hc
 case hw=>w_witness2
 case hc=>exact hc
end
namespace K13
open PySem PySem.Spec PyProof.Rows L2 B M
def cy(Γ : Calls):Sl->Hh->aD :=
  (az (aI (mK .non) (tgN 2))
  (az (aI (mK .non) (tgN 3))
  (az (jG [(10,true)] 4 3 95 (aI (gs Γ [17] 0 (ae (ah 1) ar)) (tgN 2)))
  (az (bZ (mB (m2 j5 (ah 3) (mK .non))) (bq (ah 2)) bw)
  (bq (mIf (gV (gT (m1 (nr [(10,true)]) (ah 3))) (de (gT (m1 (eT .bool) (m1 (rJ [10] 63) (ah 3)))))) (lP (ae (m1 (rJ [10] 63) (ah 3)) ar)) (mK (.str "odd"))))))))
def hI:Df:=⟨2,5,cy,["_law_asked_here","_law_text"],[]⟩
def cP(Γ : Calls):Sl->Hh->aD :=
  (az (bZ (mB (m2 nu (m2 au (ah 0) (mK (.str "left"))) (mK (.int 0)))) (az (aI (m2 cN (m2 au (ah 0) (mK (.str "left"))) (ah 1)) (tgN 2))
  (az (nO (ah 0) (mK (.str "left")) (m2 gO (m2 au (ah 0) (mK (.str "left"))) (ah 1)))
  (bq (ah 2)))) bw)
  (az (aI (m2 au (ah 0) (mK (.str "spot"))) (tgN 3))
  (az (nO (ah 0) (mK (.str "spot")) (m2 aE (ah 3) (mK (.int 1))))
  (az (aI (mOrV (m2 au (ah 0) (mK (.str "cells"))) (aV .dat (ae (mK (.int 0)) ar))) (tgN 4))
  (az (aI (m2 au (ah 4) (m2 cN (ah 3) (mC cz (ae (ah 4) ar)))) (tgN 5))
  (az (bZ (gV (mB (m2 uG (ah 5) (m2 aQ (mK (.int 10)) (mK (.int 18))))) (mB (m2 nq (ah 3) (mC cz (ae (ah 4) ar))))) (az (aI (m2 cN (m2 eS (ah 5) (m2 aQ (mK (.int 10)) (mK (.int 18)))) (m2 aQ (m2 aQ (m2 aQ (mK (.int 10)) (mK (.int 50))) (mK (.int 60))) (mK (.int 10)))) (tgN 6))
  (az (nO (ah 0) (mK (.str "left")) (m2 gO (ah 6) (ah 1)))
  (bq (m2 cN (ah 6) (ah 1))))) bw)
  (az (aI (aV .dat (ae (mK (.int 2147483647)) (ae (mK (.int 2147483629)) (ae (mK (.int 2147483587)) (ae (mK (.int 2147483579)) (ae (mK (.int 2147483563)) (ae (mK (.int 2147483549)) (ae (mK (.int 2147483543)) ar)))))))) (tgN 7))
  (az (aI (m2 au (ah 7) (m2 cN (ah 3) (mK (.int 7)))) (tgN 8))
  (az (aI (m2 cN (m2 aE (m2 aE (m2 aE (m2 dH (m2 cN (ah 5) (ah 8)) (mK (.int 48271))) (m2 dH (m2 dH (mK (.int 7919)) (ah 3)) (ah 3))) (m2 dH (mK (.int 69621)) (ah 3))) (mK (.int 1))) (ah 8)) (tgN 9))
  (az (aI (m2 cN (m2 dH (ah 9) (m2 aE (ah 9) (mK (.int 16807)))) (m2 au (ah 7) (m2 cN (m2 aE (ah 3) (mK (.int 3))) (mK (.int 7))))) (tgN 9))
  (az (aI (m2 gO (m2 cN (m2 dH (ah 9) (ah 9)) (ah 8)) (mK (.int 64))) (tgN 2))
  (az (bZ (mB (m2 nu (ah 1) (m2 aQ (mK (.int 10)) (mK (.int 6))))) (aI (m2 aE (m2 cN (ah 2) (m2 aQ (mK (.int 10)) (mK (.int 6)))) (m2 dH (m2 aQ (mK (.int 10)) (mK (.int 6))) (aA Γ 1 (ae (ah 0) (ae (m2 aE (m2 gO (ah 1) (m2 aQ (mK (.int 10)) (mK (.int 6)))) (mK (.int 1))) ar))))) (tgN 2)) bw)
  (bq (m2 cN (ah 2) (ah 1)))))))))))))))
def iV:Df:=⟨2,10,cP,["_law_tape_here","_law_many"],[]⟩
def bM(Γ : Calls):Sl->Hh->aD :=
  (az (aI (mBM tyS c8 (ah 1) (ae (mK (.str "\n")) ar)) (tgN 3))
  (az (aI (aA Γ 1 (ae (ah 0) (ae (mC cz (ae (ah 3) ar)) ar))) (tgN 4))
  (az (aI (mBM tyS c8 (m2 au (ah 3) (ah 4)) (ae (mK (.str " ")) ar)) (tgN 5))
  (az (aI (aA Γ 1 (ae (ah 0) (ae (mC cz (ae (ah 5) ar)) ar))) (tgN 6))
  (az (aI (m2 au (ah 2) (aA Γ 1 (ae (ah 0) (ae (mC cz (ae (ah 2) ar)) ar)))) (tgN 7))
  (az (aI (mK (.str "abcdefghijklmnopqrstuvwxyzABCDEFGHIJKLMNOPQRSTUVWXYZ0123456789!#$&'()*+,-./:;<=>?\x40[]^_{|}~ \n")) (tgN 8))
  (az (aI (m2 au (ah 8) (aA Γ 1 (ae (ah 0) (ae (mC cz (ae (ah 8) ar)) ar)))) (tgN 9))
  (az (aI (aA Γ 1 (ae (ah 0) (ae (m2 aE (mC cz (ae (ah 1) ar)) (mK (.int 1))) ar))) (tgN 10))
  (az (aI (aV .loc (ae (aV .dat (ae (mBM tyS eh (mK (.str " ")) (ae (m2 aE (m2 aE (mSl (ah 5) cR (mP (ah 6))) (aV .dat (ae (ah 7) ar))) (mSl (ah 5) (mP (m2 aE (ah 6) (mK (.int 1)))) cR)) ar)) ar)) (ae (aV .dat ar) (ae (aV .dat (ae (m2 au (ah 3) (ah 4)) (ae (m2 au (ah 3) (ah 4)) ar))) ar)))) (tgN 11))
  (az (aI (m2 (gQ .loc) (ah 11) (aV .dat (ae (aV .dat (ae (m2 au (ah 3) (aA Γ 1 (ae (ah 0) (ae (mC cz (ae (ah 3) ar)) ar)))) ar)) (ae (aV .dat (ae (mBM tyS eh (mK (.str " ")) (ae (m2 aE (m2 aE (mSl (ah 5) cR (mP (ah 6))) (aV .dat (ae (ah 7) ar))) (mSl (ah 5) (mP (ah 6)) cR)) ar)) ar)) ar)))) (tgN 11))
  (az (iO (mBM tyL cm (ah 11) (ae (aV .dat (ae (m2 au (ah 3) (ah 4)) (ae (m2 au (ah 3) (aA Γ 1 (ae (ah 0) (ae (mC cz (ae (ah 3) ar)) ar)))) ar))) ar)))
  (az (aI (m2 aE (mLc .dat [14] (mWk (ah 11)) (tgN 14) dW (m2 aE (m2 aE (mSl (ah 3) cR (mP (ah 4))) (ah 14)) (mSl (ah 3) (mP (m2 aE (ah 4) (mK (.int 1)))) cR))) (aV .dat (ae (m2 aE (ah 3) (aV .dat (ae (mK (.str "")) ar))) (ae (mSl (ah 3) cR (mP (ah 4))) (ae (m2 aE (aV .dat (ae (mK (.str "")) ar)) (ah 3)) ar))))) (tgN 12))
  (az (aI (mLc .dat [14] (mWk (ah 12)) (tgN 14) dW (mBM tyS eh (mK (.str "\n")) (ae (ah 14) ar))) (tgN 13))
  (az (aI (m2 aE (ah 13) (aV .dat (ae (m2 aE (m2 aE (mSl (ah 1) cR (mP (ah 10))) (ah 9)) (mSl (ah 1) (mP (ah 10)) cR)) (ae (m2 aE (m2 aE (mSl (ah 1) cR (mP (ah 10))) (ah 9)) (mSl (ah 1) (mP (m2 aE (ah 10) (mK (.int 1)))) cR)) ar)))) (tgN 13))
  (bq (m2 au (ah 13) (aA Γ 1 (ae (ah 0) (ae (mK (.int 11)) ar)))))))))))))))))))
def dM:Df:=⟨3,15,bM,["_law_tape_here","_law_text","_law_some"],[]⟩
def cL(Γ : Calls):Sl->Hh->aD :=
  (az (aI (kF (.glo 70) (bY (mK (.str "tapped")) (aV .dat (ae (mK (.int 2)) ar)) (bY (mK (.str "began")) (aV .dat (ae (mK (.int 0)) ar)) (bY (mK (.str "moved")) (aV .dat (ae (mK (.int 2)) (ae (mK (.int 4)) ar))) (bY (mK (.str "ended")) (aV .dat (ae (mK (.int 0)) ar)) (bY (mK (.str "flung")) (aV .dat (ae (mK (.int 2)) ar)) (bY (mK (.str "off")) (aV .dat (ae (mK (.int 0)) ar)) nQ))))))) (tgN 0))
  (az (iO (mBM tyD dY (ah 0) (ae (kF .dat (bY (mK (.str "shelf")) (aV .dat (ae (mK (.int 3)) ar)) (bY (mK (.str "over")) (aV .dat (ae (mK (.int 2)) ar)) (bY (mK (.str "guess")) (aV .dat (ae (mK (.int 0)) ar)) (bY (mK (.str "back")) (aV .dat (ae (mK (.int 0)) ar)) nQ))))) ar)))
  (bq (ah 0))))
def bQ:Df:=⟨0,1,cL,[],[]⟩
def cK(Γ : Calls):Sl->Hh->aD :=
  (az (aI (mIf (mB (m2 eU (mSl (ah 0) cR (mP (mK (.int 1)))) (mK (.str "-")))) (mSl (ah 0) (mP (mK (.int 1))) cR) (ah 0)) (tgN 3))
  (az (bZ (dX (mB (m2 eU (ah 3) (mK (.str "")))) (dX (mB (m2 nu (mC cz (ae (ah 3) ar)) (mK (.int 10)))) (de (gT (mC mD (ae (mLc .dat [4] (mWk (ah 3)) (tgN 4) dW (m2 gp (ah 4) (mK (.str "0123456789")))) ar)))))) (bq (mK .non)) bw)
  (az (bZ (dX (gV (mB (m2 eU (m2 au (ah 3) (mK (.int 0))) (mK (.str "0")))) (mB (m2 ik (ah 0) (mK (.str "0"))))) (de (mB (mCh gN gN (ah 1) (mC i5 (ae (ah 0) ar)) (ah 2))))) (bq (mK .non)) bw)
  (bq (mC i5 (ae (ah 0) ar))))))
def fX:Df:=⟨3,5,cK,["_law_word_here","_law_least","_law_most"],[]⟩
def du(Γ : Calls):Sl->Hh->aD :=
  (bq (jH (mCh gN gN (mK (.int 1)) (mC cz (ae (ah 0) ar)) (mK (.int 8))) (mC mD (ae (mLc .dat [1] (mWk (ah 0)) (tgN 1) dW (m2 gp (ah 1) (mK (.str "abcdefghijklmnopqrstuvwxyz")))) ar))))
def iT:Df:=⟨1,2,du,["_law_word_here"],[]⟩
def fM(Γ : Calls):Sl->Hh->aD :=
  (az (aI (mBM tyS c8 (ah 0) (ae (mK (.str " ")) ar)) (tgN 1))
  (az (aI (aA Γ 3 ar) (tgN 2))
  (az (bZ (dX (mB (m2 nq (mC cz (ae (ah 1) ar)) (mK (.int 4)))) (dX (mB (m2 fF (m2 eS (mC cz (ae (ah 1) ar)) (mK (.int 4))) (pB (ah 2) (m2 au (ah 1) (mK (.int 3))) (aV .dat ar)))) (de (gT (aA Γ 5 (ae (m2 au (ah 1) (mK (.int 1))) ar)))))) (bq (mK .non)) bw)
  (az (mPar 3 4 (ae (aA Γ 4 (ae (m2 au (ah 1) (mK (.int 0))) (ae (mK (.int 0)) (ae (m2 aQ (mK (.int 10)) (mK (.int 9))) ar)))) (ae (aA Γ 4 (ae (m2 au (ah 1) (mK (.int 2))) (ae (mK (.int 0)) (ae (m2 aQ (mK (.int 10)) (mK (.int 10))) ar)))) ar)))
  (az (aI (mIf (mB (m2 eU (m2 au (ah 1) (mK (.int 3))) (mK (.str "shelf")))) (mK (.int 1)) (mK (.int 0))) (tgN 5))
  (az (aI (mLc .dat [7] (mWk (mSl (ah 1) (mP (m2 aE (mK (.int 4)) (ah 5))) cR)) (tgN 7) dW (aA Γ 4 (ae (ah 7) (ae (m2 eS (mK (.int 0)) (m2 aQ (mK (.int 10)) (mK (.int 10)))) (ae (m2 aQ (mK (.int 10)) (mK (.int 10))) ar))))) (tgN 6))
  (az (bZ (dX (mB (m2 j5 (ah 3) (mK .non))) (dX (mB (m2 j5 (ah 4) (mK .non))) (dX (mB (m2 gp (mK .non) (ah 6))) (gV (mB (m2 eU (ah 5) (mK (.int 1)))) (de (gT (aA Γ 5 (ae (m2 au (ah 1) (mK (.int 4))) ar)))))))) (bq (mK .non)) bw)
  (bq (lP (ae (ah 3) (ae (m2 au (ah 1) (mK (.int 1))) (ae (ah 4) (ae (m2 au (ah 1) (mK (.int 3))) (ae (mC d7 (ae (m2 aE (mSl (ah 1) (mP (mK (.int 4))) (mP (m2 aE (mK (.int 4)) (ah 5)))) (ah 6)) ar)) ar))))))))))))))
def kQ:Df:=⟨1,8,fM,["_law_row_here"],[]⟩
def dg(Γ : Calls):Sl->Hh->aD :=
  (az (bZ (de (gT (m1 (eT .str) (ah 0)))) (bq (lP (ae (mK (.int 0)) ar))) bw)
  (az (aI (aV .loc ar) (tgN 1))
  (az (ip (kE (ae (mIf (mB (m2 ik (ah 0) (mK (.str "")))) (mBM tyS c8 (ah 0) (ae (mK (.str "\n")) ar)) (aV .dat ar)) ar)) (tgT (eJ (tgN 2) (eJ (tgN 3) kh))) (az (aI (aA Γ 6 (ae (ah 3) ar)) (tgN 4))
  (az (bZ (mB (m2 j5 (ah 4) (mK .non))) (bq (lP (ae (ah 2) ar))) bw)
  (iO (mBM tyL cm (ah 1) (ae (ah 4) ar))))))
  (bq (ah 1)))))
def jT:Df:=⟨1,5,dg,["_law_text"],[]⟩
def d6(Γ : Calls):Sl->Hh->aD :=
  (az (aI (aA Γ 3 ar) (tgN 2))
  (az (aI (m2 au (mC (d8 .dat) (ae (ah 2) ar)) (aA Γ 1 (ae (ah 0) (ae (mK (.int 10)) ar)))) (tgN 3))
  (az (aI (m2 au (m2 au (ah 2) (ah 3)) (aA Γ 1 (ae (ah 0) (ae (mC cz (ae (m2 au (ah 2) (ah 3)) ar)) ar)))) (tgN 4))
  (az (aI (mLc .loc [8] (nP wkR (ae (ah 4) ar)) (tgN 8) dW (m2 eS (aA Γ 1 (ae (ah 0) (ae (mK (.int 60001)) ar))) (mK (.int 30000)))) (tgN 5))
  (az (bZ (mB (m2 eU (aA Γ 1 (ae (ah 0) (ae (mK (.int 3)) ar))) (mK (.int 0)))) (aI (mLc .loc [8] (nP wkR (ae (ah 4) ar)) (tgN 8) dW (m2 aE (m2 eS (aA Γ 1 (ae (ah 0) (ae (m2 eS (m2 dH (mK (.int 2)) (m2 aQ (mK (.int 10)) (mK (.int 10)))) (mK (.int 1))) ar))) (m2 aQ (mK (.int 10)) (mK (.int 10)))) (mK (.int 1)))) (tgN 5)) bw)
  (az (bZ (mB (m2 eU (ah 3) (mK (.str "shelf")))) (uP (ah 5) (mK (.int 0)) (m2 au (ah 1) (aA Γ 1 (ae (ah 0) (ae (mC cz (ae (ah 1) ar)) ar))))) bw)
  (az (aI (m2 au (aV .dat (ae (mK (.int 0)) (ae (m2 aQ (mK (.int 10)) (mK (.int 9))) (ae (aA Γ 1 (ae (ah 0) (ae (mK (.int 2000)) ar))) ar)))) (aA Γ 1 (ae (ah 0) (ae (mK (.int 3)) ar)))) (tgN 6))
  (az (aI (m2 au (aV .dat (ae (mK (.int 0)) (ae (mK (.int 9)) (ae (mK (.int 10)) (ae (mK (.int 99)) (ae (mK (.int 100)) (ae (aA Γ 1 (ae (ah 0) (ae (m2 aQ (mK (.int 10)) (mK (.int 10))) ar))) ar))))))) (aA Γ 1 (ae (ah 0) (ae (mK (.int 6)) ar)))) (tgN 7))
  (bq (lP (ae (ah 6) (ae (m2 au (ah 1) (aA Γ 1 (ae (ah 0) (ae (mC cz (ae (ah 1) ar)) ar)))) (ae (ah 7) (ae (ah 3) (ae (mC d7 (ae (ah 5) ar)) ar)))))))))))))))
def jS:Df:=⟨2,9,d6,["_law_tape_here","_law_words_here"],[]⟩
def dw(Γ : Calls):Sl->Hh->aD :=
  (bq (kF (.glo 0) (bY (mK (.str "cells")) (mSl (ah 0) cR (mP (mK (.int 63)))) (bY (mK (.str "spot")) (mK (.int 0)) (bY (mK (.str "left")) (mK (.int 0)) nQ)))))
def iU:Df:=⟨1,1,dw,["_law_script"],[]⟩
def cV(Γ : Calls):Sl->Hh->aD :=
  (az (aI (mK (.str "abcdefghijklmnopqrstuvwxyz")) (tgN 2))
  (az (aI (mBM tyS c8 (mK (.str "tap press pull part ear hear stop back")) (ae (mK (.str " ")) ar)) (tgN 3))
  (az (aI (mBM tyS eh (mK (.str "")) (ae (mLc .dat [6] (nP wkR (ae (m2 aE (mK (.int 1)) (aA Γ 1 (ae (ah 0) (ae (mK (.int 6)) ar)))) ar)) (tgN 6) dW (m2 au (ah 2) (aA Γ 1 (ae (ah 0) (ae (mK (.int 26)) ar))))) ar)) (tgN 4))
  (az (aI (aV .loc ar) (tgN 5))
  (az (ip (nP wkR (ae (ah 1) ar)) (tgN 6) (az (aI (m2 au (ah 2) (aA Γ 1 (ae (ah 0) (ae (mK (.int 26)) ar)))) (tgN 7))
  (az (aI (aV .dat (ae (ah 4) (ae (m2 aE (ah 4) (ah 7)) (ae (m2 aE (ah 7) (ah 4)) (ae (ah 7) (ae (m2 aE (m2 aE (ah 4) (ah 7)) (ah 7)) (ae (m2 au (ah 3) (aA Γ 1 (ae (ah 0) (ae (mK (.int 8)) ar)))) ar))))))) (tgN 8))
  (az (aI (mSl (m2 au (ah 8) (aA Γ 1 (ae (ah 0) (ae (mK (.int 6)) ar)))) cR (mP (mK (.int 8)))) (tgN 9))
  (az (ip (mWk (ah 2)) (tgN 10) (bZ (mB (m2 gp (ah 9) (ah 5))) (aI (m2 aE (mSl (ah 9) cR (mP (mK (.int 7)))) (ah 10)) (tgN 9)) bw))
  (az (ip (mWk (ah 2)) (tgN 10) (bZ (mB (m2 gp (ah 9) (ah 5))) (aI (m2 aE (ah 10) (mSl (ah 9) (mP (mK (.int 1))) cR)) (tgN 9)) bw))
  (iO (mBM tyL cm (ah 5) (ae (ah 9) ar)))))))))
  (bq (ah 5)))))))
def hE:Df:=⟨2,11,cV,["_law_tape_here","_law_many"],[]⟩
def cX(Γ : Calls):Sl->Hh->aD :=
  (az (bZ (de (gT (m1 (eT .str) (ah 0)))) (gU 10 63 (ae (mK (.int 0)) ar)) bw)
  (bq (mIf (mB (m2 ik (ah 0) (mK (.str "")))) (mBM tyS c8 (ah 0) (ae (mK (.str "\n")) ar)) (aV .dat ar))))
def kN:Df:=⟨1,1,cX,["text"],[]⟩
def d5(Γ : Calls):Sl->Hh->aD :=
  (bq (jH (m1 (eT .int) (ah 0)) (jH (uQ (m1 (eT .bool) (ah 0))) (mCh gN gN (ah 1) (ah 0) (ah 2)))))
def jR:Df:=⟨3,3,d5,["thing","least","most"],[]⟩
def dt(Γ : Calls):Sl->Hh->aD :=
  (bq (aA Γ 12 (ae (ah 0) (ae (mK (.int 0)) (ae (mK (.int 1000000000)) ar)))))
def iS:Df:=⟨1,1,dt,["thing"],[]⟩
def fL(Γ : Calls):Sl->Hh->aD :=
  (bq (jH (m1 (eT .str) (ah 0)) (jH (mCh gN gN (mK (.int 1)) (mC cz (ae (ah 0) ar)) (mK (.int 8))) (mC mD (ae (mLc .dat [1] (mWk (ah 0)) (tgN 1) dW (m2 gp (ah 1) (mK (.str "abcdefghijklmnopqrstuvwxyz")))) ar)))))
def kP:Df:=⟨1,2,fL,["thing"],[]⟩
def dq(Γ : Calls):Sl->Hh->aD :=
  (az (aI (mIf (mB (m2 eU (mSl (ah 0) cR (mP (mK (.int 1)))) (mK (.str "-")))) (mSl (ah 0) (mP (mK (.int 1))) cR) (ah 0)) (tgN 1))
  (az (bZ (dX (mB (m2 eU (ah 1) (mK (.str "")))) (dX (mB (m2 nu (mC cz (ae (ah 1) ar)) (mK (.int 10)))) (de (gT (mC mD (ae (mLc .dat [2] (mWk (ah 1)) (tgN 2) dW (m2 gp (ah 2) (mK (.str "0123456789")))) ar)))))) (bq (mK .non)) bw)
  (az (bZ (gV (mB (m2 eU (m2 au (ah 1) (mK (.int 0))) (mK (.str "0")))) (mB (m2 ik (ah 0) (mK (.str "0"))))) (bq (mK .non)) bw)
  (bq (mC i5 (ae (ah 0) ar))))))
def iR:Df:=⟨1,3,dq,["word"],[]⟩
def fK(Γ : Calls):Sl->Hh->aD :=
  (az (aI (mBM tyS c8 (ah 0) (ae (mK (.str " ")) ar)) (tgN 1))
  (az (bZ (dX (mB (m2 nq (mC cz (ae (ah 1) ar)) (mK (.int 4)))) (mB (m2 fF (m2 eS (mC cz (ae (ah 1) ar)) (mK (.int 4))) (lQ [("tapped",[2]),("began",[0]),("moved",[2,4]),("ended",[0]),("flung",[2]),("off",[0]),("shelf",[3]),("over",[2]),("guess",[0]),("back",[0])] (m2 au (ah 1) (mK (.int 3))) (lP ar))))) (bq (mK .non)) bw)
  (az (mPar 2 3 (ae (aA Γ 15 (ae (m2 au (ah 1) (mK (.int 0))) ar)) (ae (aA Γ 15 (ae (m2 au (ah 1) (mK (.int 2))) ar)) ar)))
  (az (aI (mC i5 (ae (m2 eU (m2 au (ah 1) (mK (.int 3))) (mK (.str "shelf"))) ar)) (tgN 4))
  (az (aI (m2 aE (mSl (ah 1) (mP (mK (.int 4))) (mP (m2 aE (mK (.int 4)) (ah 4)))) (mLc .dat [6] (mWk (mSl (ah 1) (mP (m2 aE (mK (.int 4)) (ah 4))) cR)) (tgN 6) dW (aA Γ 15 (ae (ah 6) ar)))) (tgN 5))
  (az (bZ (dX (de (gT (aA Γ 13 (ae (ah 2) ar)))) (dX (de (gT (aA Γ 14 (ae (m2 au (ah 1) (mK (.int 1))) ar)))) (dX (mB (m2 j5 (ah 3) (mK .non))) (dX (mB (m2 nq (ah 3) (mK (.int 0)))) (mB (m2 gp (mK .non) (ah 5))))))) (bq (mK .non)) bw)
  (az (bZ (gV (mB (m2 eU (ah 4) (mK (.int 1)))) (de (gT (aA Γ 14 (ae (m2 au (ah 5) (mK (.int 0))) ar))))) (bq (mK .non)) bw)
  (bq (lP (ae (ah 2) (ae (m2 au (ah 1) (mK (.int 1))) (ae (ah 3) (ae (m2 au (ah 1) (mK (.int 3))) (ae (mC d7 (ae (ah 5) ar)) ar))))))))))))))
def kM:Df:=⟨1,7,fK,["row"],[]⟩
def bj(Γ : Calls):Sl->Hh->aD :=
  (az (aI (aV .loc ar) (tgN 1))
  (az (ip (kE (ae (aA Γ 11 (ae (ah 0) ar)) ar)) (tgT (eJ (tgN 2) (eJ (tgN 3) kh))) (az (aI (aA Γ 16 (ae (ah 3) ar)) (tgN 4))
  (az (bZ (mB (m2 j5 (ah 4) (mK .non))) (gU 10 63 (ae (ah 2) ar)) bw)
  (iO (mBM tyL cm (ah 1) (ae (ah 4) ar))))))
  (bq (ah 1))))
def e5:Df:=⟨1,5,bj,["text"],[]⟩
def d4(Γ : Calls):Sl->Hh->aD :=
  (bq (mBM tyS eh (mK (.str " ")) (ae (mLc .dat [1] (mWk (ah 0)) (tgN 1) dW (mC ka (ae (ah 1) ar))) ar)))
def jQ:Df:=⟨1,2,d4,["things"],[]⟩
def dm(Γ : Calls):Sl->Hh->aD :=
  (bq (mBM tyS eh (mK (.str "\n")) (ae (mLc .dat [1] (mWk (ah 0)) (tgN 1) dW (aA Γ 18 (ae (m2 aE (mSl (ah 1) cR (mP (mK (.int 4)))) (m2 au (ah 1) (mK (.int 4)))) ar))) ar)))
def iQ:Df:=⟨1,2,dm,["rows"],[]⟩
def qT(Γ : Calls):Sl->Hh->aD :=
  (az (aI (aA Γ 9 (ae (ah 0) ar)) (tgN 1))
  (az (aI (aA Γ 10 (ae (ah 1) (ae (mK (.int 6)) ar))) (tgN 2))
  (az (aI (m2 (gQ .loc) (m2 aE (mC (d8 .dat) (ae (aA Γ 3 ar) ar)) (ah 2)) (aV .dat (ae (mK (.str "0")) (ae (mK (.str "-1")) (ae (mK (.str "-0")) (ae (mK (.str "01")) (ae (mK (.str "10")) (ae (mK (.str "1000000000")) (ae (mK (.str "1000000001")) (ae (mK (.str "")) (ae (mK (.str "A")) ar))))))))))) (tgN 3))
  (az (iO (mBM tyL fG (ah 3) (ae (aV .dat (ae (m2 jy (mK (.str "1")) (mK (.int 4400))) (ae (mK (.str "9999999999")) (ae (mK (.str "-9999999999")) (ae (mK (.str "10000000000")) (ae (mK (.str "-1234567890")) (ae (mK (.str "-12345678901")) (ae (mK (.str "00")) (ae (mK (.str "--1")) ar))))))))) ar)))
  (az (ip (nP wkR (ae (mK (.int 4)) ar)) (tgN 4) (az (aI (mLc .dat [11] (nP wkR (ae (m2 au (aV .dat (ae (mK (.int 0)) (ae (mK (.int 4)) (ae (mK (.int 30)) (ae (mK (.int 110)) ar))))) (ah 4)) ar)) (tgN 11) dW (aA Γ 8 (ae (ah 1) (ae (ah 2) ar)))) (tgN 5))
  (az (aI (mLc .dat [12] (mWk (ah 5)) (tgN 12) dW (mBM tyS eh (mK (.str " ")) (ae (mLc .dat [13] (mWk (m2 aE (mSl (ah 12) cR (mP (mK (.int 4)))) (m2 au (ah 12) (mK (.int 4))))) (tgN 13) dW (mC ka (ae (ah 13) ar))) ar))) (tgN 6))
  (az (aI (mBM tyS eh (mK (.str "\n")) (ae (ah 6) ar)) (tgN 7))
  (az (bZ (dX (mB (m2 ik (aA Γ 19 (ae (ah 5) ar)) (ah 7))) (mB (m2 ik (aA Γ 0 (ae (mK (.fn 17)) (ae (ah 7) ar))) (ah 5)))) (bq (mK (.bl false))) bw)
  (az (aI (aA Γ 2 (ae (ah 1) (ae (ah 7) (ae (ah 3) ar)))) (tgN 8))
  (az (aI (m2 au (aV .dat (ae (mK .non) (ae (mK (.int 7)) (ae (mK (.bl true)) (ae (ah 5) (ae (mK (.str "")) ar)))))) (aA Γ 1 (ae (ah 1) (ae (mK (.int 5)) ar)))) (tgN 9))
  (ip (mWk (aV .dat (ae (ah 8) (ae (aA Γ 2 (ae (ah 1) (ae (ah 8) (ae (ah 3) ar)))) (ae (ah 9) ar))))) (tgN 10) (bZ (mB (m2 ik (aA Γ 0 (ae (mK (.fn 17)) (ae (ah 10) ar))) (aA Γ 7 (ae (ah 10) ar)))) (bq (mK (.bl false))) bw)))))))))
  (bq (mK (.bl true))))))))
def d_law:Df:=⟨1,14,qT,["_law_script"],[]⟩
def tabL:List Df:=[hI,iV,dM,bQ,fX,iT,kQ,jT,jS,iU,hE,kN,jR,iS,kP,iR,kM,e5,jQ,iQ,d_law]
def tq:Nat->Option Df:=fun f=>tabL[f]?
noncomputable def tab:Nat->Option Df:=Classical.choose (⟨tq,rfl⟩:∃ T,T=tq)
theorem aO:tab=tq:=Classical.choose_spec (⟨tq,rfl⟩:∃ T,T=tq)
theorem c4:tab 0=some hI:=by rw [aO]; rfl
theorem fW{n:Nat}{h:Hh}{QV:Val->Hh->Prop}{v0 v1:Val}(q:wpS (cy (ao tab n) [some v0,some v1,none,none,none] h) { nx:=fun _ h1=>QV .non (h1.cut h.loc.length),rt:=fun v h1=>wpR (bP h.loc.length v h1) QV }):wpR (ao tab (n + 1) 0 [v0,v1] h) QV:=dy c4 rfl q
theorem av:tab 1=some iV:=by rw [aO]; rfl
theorem gZ{n:Nat}{h:Hh}{QV:Val->Hh->Prop}{v0 v1:Val}(q:wpS (cP (ao tab n) [some v0,some v1,none,none,none,none,none,none,none,none] h) { nx:=fun _ h1=>QV .non (h1.cut h.loc.length),rt:=fun v h1=>wpR (bP h.loc.length v h1) QV }):wpR (ao tab (n + 1) 1 [v0,v1] h) QV:=dy av rfl q
theorem bT:tab 2=some dM:=by rw [aO]; rfl
theorem g5{n:Nat}{h:Hh}{QV:Val->Hh->Prop}{v0 v1 v2:Val}(q:wpS (bM (ao tab n) [some v0,some v1,some v2,none,none,none,none,none,none,none,none,none,none,none,none] h) { nx:=fun _ h1=>QV .non (h1.cut h.loc.length),rt:=fun v h1=>wpR (bP h.loc.length v h1) QV }):wpR (ao tab (n + 1) 2 [v0,v1,v2] h) QV:=dy bT rfl q
theorem bS:tab 3=some bQ:=by rw [aO]; rfl
theorem jM{n:Nat}{h:Hh}{QV:Val->Hh->Prop}(q:wpS (cL (ao tab n) [none] h) { nx:=fun _ h1=>QV .non (h1.cut h.loc.length),rt:=fun v h1=>wpR (bP h.loc.length v h1) QV }):wpR (ao tab (n + 1) 3 [] h) QV:=dy bS rfl q
theorem bR:tab 4=some fX:=by rw [aO]; rfl
theorem jL{n:Nat}{h:Hh}{QV:Val->Hh->Prop}{v0 v1 v2:Val}(q:wpS (cK (ao tab n) [some v0,some v1,some v2,none,none] h) { nx:=fun _ h1=>QV .non (h1.cut h.loc.length),rt:=fun v h1=>wpR (bP h.loc.length v h1) QV }):wpR (ao tab (n + 1) 4 [v0,v1,v2] h) QV:=dy bR rfl q
theorem dz:tab 5=some iT:=by rw [aO]; rfl
theorem mh{n:Nat}{h:Hh}{QV:Val->Hh->Prop}{v0:Val}(q:wpS (du (ao tab n) [some v0,none] h) { nx:=fun _ h1=>QV .non (h1.cut h.loc.length),rt:=fun v h1=>wpR (bP h.loc.length v h1) QV }):wpR (ao tab (n + 1) 5 [v0] h) QV:=dy dz rfl q
theorem iK:tab 6=some kQ:=by rw [aO]; rfl
theorem pI{n:Nat}{h:Hh}{QV:Val->Hh->Prop}{v0:Val}(q:wpS (fM (ao tab n) [some v0,none,none,none,none,none,none,none] h) { nx:=fun _ h1=>QV .non (h1.cut h.loc.length),rt:=fun v h1=>wpR (bP h.loc.length v h1) QV }):wpR (ao tab (n + 1) 6 [v0] h) QV:=dy iK rfl q
theorem gE:tab 7=some jT:=by rw [aO]; rfl
theorem iP{n:Nat}{h:Hh}{QV:Val->Hh->Prop}{v0:Val}(q:wpS (dg (ao tab n) [some v0,none,none,none,none] h) { nx:=fun _ h1=>QV .non (h1.cut h.loc.length),rt:=fun v h1=>wpR (bP h.loc.length v h1) QV }):wpR (ao tab (n + 1) 7 [v0] h) QV:=dy gE rfl q
theorem gC:tab 8=some jS:=by rw [aO]; rfl
theorem n6{n:Nat}{h:Hh}{QV:Val->Hh->Prop}{v0 v1:Val}(q:wpS (d6 (ao tab n) [some v0,some v1,none,none,none,none,none,none,none] h) { nx:=fun _ h1=>QV .non (h1.cut h.loc.length),rt:=fun v h1=>wpR (bP h.loc.length v h1) QV }):wpR (ao tab (n + 1) 8 [v0,v1] h) QV:=dy gC rfl q
theorem fU:tab 9=some iU:=by rw [aO]; rfl
theorem mj{n:Nat}{h:Hh}{QV:Val->Hh->Prop}{v0:Val}(q:wpS (dw (ao tab n) [some v0] h) { nx:=fun _ h1=>QV .non (h1.cut h.loc.length),rt:=fun v h1=>wpR (bP h.loc.length v h1) QV }):wpR (ao tab (n + 1) 9 [v0] h) QV:=dy fU rfl q
theorem eM:tab 10=some hE:=by rw [aO]; rfl
theorem j6{n:Nat}{h:Hh}{QV:Val->Hh->Prop}{v0 v1:Val}(q:wpS (cV (ao tab n) [some v0,some v1,none,none,none,none,none,none,none,none,none] h) { nx:=fun _ h1=>QV .non (h1.cut h.loc.length),rt:=fun v h1=>wpR (bP h.loc.length v h1) QV }):wpR (ao tab (n + 1) 10 [v0,v1] h) QV:=dy eM rfl q
theorem eK:tab 11=some kN:=by rw [aO]; rfl
theorem pG{n:Nat}{h:Hh}{QV:Val->Hh->Prop}{v0:Val}(q:wpS (cX (ao tab n) [some v0] h) { nx:=fun _ h1=>QV .non (h1.cut h.loc.length),rt:=fun v h1=>wpR (bP h.loc.length v h1) QV }):wpR (ao tab (n + 1) 11 [v0] h) QV:=dy eK rfl q
theorem gB:tab 12=some jR:=by rw [aO]; rfl
theorem n5{n:Nat}{h:Hh}{QV:Val->Hh->Prop}{v0 v1 v2:Val}(q:wpS (d5 (ao tab n) [some v0,some v1,some v2] h) { nx:=fun _ h1=>QV .non (h1.cut h.loc.length),rt:=fun v h1=>wpR (bP h.loc.length v h1) QV }):wpR (ao tab (n + 1) 12 [v0,v1,v2] h) QV:=dy gB rfl q
theorem fT:tab 13=some iS:=by rw [aO]; rfl
theorem mf{n:Nat}{h:Hh}{QV:Val->Hh->Prop}{v0:Val}(q:wpS (dt (ao tab n) [some v0] h) { nx:=fun _ h1=>QV .non (h1.cut h.loc.length),rt:=fun v h1=>wpR (bP h.loc.length v h1) QV }):wpR (ao tab (n + 1) 13 [v0] h) QV:=dy fT rfl q
theorem eL:tab 14=some kP:=by rw [aO]; rfl
theorem pH{n:Nat}{h:Hh}{QV:Val->Hh->Prop}{v0:Val}(q:wpS (fL (ao tab n) [some v0,none] h) { nx:=fun _ h1=>QV .non (h1.cut h.loc.length),rt:=fun v h1=>wpR (bP h.loc.length v h1) QV }):wpR (ao tab (n + 1) 14 [v0] h) QV:=dy eL rfl q
theorem cI:tab 15=some iR:=by rw [aO]; rfl
theorem lZ{n:Nat}{h:Hh}{QV:Val->Hh->Prop}{v0:Val}(q:wpS (dq (ao tab n) [some v0,none,none] h) { nx:=fun _ h1=>QV .non (h1.cut h.loc.length),rt:=fun v h1=>wpR (bP h.loc.length v h1) QV }):wpR (ao tab (n + 1) 15 [v0] h) QV:=dy cI rfl q
theorem iJ:tab 16=some kM:=by rw [aO]; rfl
theorem pF{n:Nat}{h:Hh}{QV:Val->Hh->Prop}{v0:Val}(q:wpS (fK (ao tab n) [some v0,none,none,none,none,none,none] h) { nx:=fun _ h1=>QV .non (h1.cut h.loc.length),rt:=fun v h1=>wpR (bP h.loc.length v h1) QV }):wpR (ao tab (n + 1) 16 [v0] h) QV:=dy iJ rfl q
theorem cH:tab 17=some e5:=by rw [aO]; rfl
theorem lY{n:Nat}{h:Hh}{QV:Val->Hh->Prop}{v0:Val}(q:wpS (bj (ao tab n) [some v0,none,none,none,none] h) { nx:=fun _ h1=>QV .non (h1.cut h.loc.length),rt:=fun v h1=>wpR (bP h.loc.length v h1) QV }):wpR (ao tab (n + 1) 17 [v0] h) QV:=dy cH rfl q
theorem gA:tab 18=some jQ:=by rw [aO]; rfl
theorem n4{n:Nat}{h:Hh}{QV:Val->Hh->Prop}{v0:Val}(q:wpS (d4 (ao tab n) [some v0,none] h) { nx:=fun _ h1=>QV .non (h1.cut h.loc.length),rt:=fun v h1=>wpR (bP h.loc.length v h1) QV }):wpR (ao tab (n + 1) 18 [v0] h) QV:=dy gA rfl q
theorem fS:tab 19=some iQ:=by rw [aO]; rfl
theorem lX{n:Nat}{h:Hh}{QV:Val->Hh->Prop}{v0:Val}(q:wpS (dm (ao tab n) [some v0,none] h) { nx:=fun _ h1=>QV .non (h1.cut h.loc.length),rt:=fun v h1=>wpR (bP h.loc.length v h1) QV }):wpR (ao tab (n + 1) 19 [v0] h) QV:=dy fS rfl q
theorem qd:tab 20=some d_law:=by rw [aO]; rfl
theorem go_law{n:Nat}{h:Hh}{QV:Val->Hh->Prop}{v0:Val}(q:wpS (qT (ao tab n) [some v0,none,none,none,none,none,none,none,none,none,none,none,none,none] h) { nx:=fun _ h1=>QV .non (h1.cut h.loc.length),rt:=fun v h1=>wpR (bP h.loc.length v h1) QV }):wpR (ao tab (n + 1) 20 [v0] h) QV:=dy qd rfl q
end K13
namespace K13
open PySem PySem.Spec PyProof.Rows L2 B M
local macro_rules | `(tactic| walk_at "w") => `(tactic| repeat (first
  | ((with_reducible apply M.kV); first
    | ((with_reducible apply M.w_var); (· exact rfl))
    | with_reducible apply M.w_K
    | ((with_reducible apply M.o_big); intro b hb)
    | with_reducible apply M.w_2
    | with_reducible apply M.w_1
    | with_reducible apply M.w_C
    | with_reducible apply M.sQ
    | with_reducible apply M.w_tup
    | with_reducible apply M.w_lst
    | with_reducible apply M.w_if
    | with_reducible apply M.sS
    | with_reducible apply M.sH
    | with_reducible apply M.w_ch
    | with_reducible apply M.w_sl
    | with_reducible apply M.sO
    | with_reducible apply M.kf
    | with_reducible apply M.w_bm
    | with_reducible apply M.w_bm0
    | with_reducible apply M.w_make
    | with_reducible apply M.w_makeD
    | with_reducible apply M.mL
    | with_reducible apply M.o_slAll
    | ((with_reducible apply M.pq); (· omega); (· omega))
    | with_reducible apply M.pj
    | with_reducible apply M.o_listD
    | with_reducible apply M.o_listT
    | ((with_reducible apply M.ny); (· first | exact rfl | omega))
    | ((with_reducible apply M.nz); (· first | exact rfl | omega))
    | ((with_reducible apply M.ku); (· first | exact rfl | omega))
    | ((with_reducible apply M.o_slDropT); (· first | exact rfl | omega))
    | with_reducible apply M.o_add
    | with_reducible apply M.o_sub
    | with_reducible apply M.uJ
    | ((with_reducible apply M.o_repB); (· first | omega | (simp only [List.length_map, List.length_append, List.length_cons, List.length_nil]; omega)))
    | ((with_reducible apply M.da); (· first | omega | (simp only [List.length_map, List.length_append, List.length_cons, List.length_nil]; omega)))
    | ((with_reducible apply M.pA); (· first | omega | (simp only [List.length_map, List.length_append, List.length_cons, List.length_nil]; omega)))
    | with_reducible apply M.o_inI
    | with_reducible apply M.o_ninI
    | with_reducible apply M.o_lt
    | with_reducible apply M.o_le
    | with_reducible apply M.o_gt
    | with_reducible apply M.o_ge
    | with_reducible apply M.o_eqI
    | with_reducible apply M.o_neI
    | with_reducible apply M.o_eqS
    | with_reducible apply M.o_neS
    | with_reducible apply M.o_is
    | with_reducible apply M.o_isn
    | ((with_reducible apply M.o_mul); (· first | exact qO (by omega) (by omega) | exact qN (by omega) (by omega)))
    | ((with_reducible apply M.o_mod); (· first | omega | (simp only [List.length_map]; omega)))
    | ((with_reducible apply M.o_div); (· omega))
    | ((with_reducible apply M.qL); first | with_reducible apply M.o_p10_1 | with_reducible apply M.o_p10_2 | with_reducible apply M.o_p10_3 | with_reducible apply M.o_p10_4 | with_reducible apply M.o_p10_5 | with_reducible apply M.qH | with_reducible apply M.o_p10_7 | with_reducible apply M.o_p10_8 | with_reducible apply M.qG | with_reducible apply M.nB | with_reducible apply M.o_p10_12 | with_reducible apply M.o_p10_15 | with_reducible apply M.nA | with_reducible apply M.o_p10_20 | with_reducible apply M.o_p10_24 | with_reducible apply M.o_p10_27 | with_reducible apply M.o_p10_30 | with_reducible apply M.o_p2_10 | with_reducible apply M.o_p2_20 | with_reducible apply M.o_p2_30 | with_reducible apply M.o_p2_31 | with_reducible apply M.o_p2_32 | with_reducible apply M.o_p2_60 | with_reducible apply M.o_p2_61 | with_reducible apply M.o_p2_62 | with_reducible apply M.o_p2_63 | with_reducible apply M.o_p2_64)
    | ((with_reducible apply M.nW); first | with_reducible apply M.tG | with_reducible apply M.tF | with_reducible apply M.oI | with_reducible apply M.t_getC2 | with_reducible apply M.t_getR | with_reducible apply M.nJ | with_reducible apply M.o_ixtup0 | with_reducible apply M.o_ixkt0 | with_reducible apply M.nH | with_reducible apply M.o_ixtup1 | with_reducible apply M.o_ixkt1 | with_reducible apply M.nG | with_reducible apply M.o_ixtup2 | with_reducible apply M.o_ixkt2 | with_reducible apply M.nE | with_reducible apply M.o_ixtup3 | with_reducible apply M.o_ixkt3 | with_reducible apply M.nD | with_reducible apply M.nC | with_reducible apply M.o_ixkt4 | with_reducible apply M.o_ixlst5 | with_reducible apply M.o_ixtup5 | with_reducible apply M.o_ixkt5 | with_reducible apply M.o_ixlst6 | with_reducible apply M.o_ixtup6 | with_reducible apply M.o_ixkt6 | with_reducible apply M.o_ixlst7 | with_reducible apply M.o_ixtup7 | with_reducible apply M.o_ixkt7)
    | ((first | with_reducible apply M.k_opSub | with_reducible apply M.k_opEq | with_reducible apply M.k_opNe | with_reducible apply M.k_opLt | with_reducible apply M.k_opLe | with_reducible apply M.k_opGt | with_reducible apply M.k_opGe | with_reducible apply M.k_opNeg | with_reducible apply M.k_opRev | with_reducible apply M.uY | with_reducible apply M.k_bAbs | with_reducible apply M.k_bMax2 | with_reducible apply M.k_bMin2 | with_reducible apply M.k_bMaxL | with_reducible apply M.k_bMinL | with_reducible apply M.k_bSum | with_reducible apply M.k_bAll | with_reducible apply M.k_bAny | with_reducible apply M.nX | with_reducible apply M.k_bBool | with_reducible apply M.qM | with_reducible apply M.k_opFld); refine wpR.eq rfl ?_)
    | ((with_reducible apply M.t_newL3); (· exact rfl))
    | with_reducible apply M.t_newD3
    | ((with_reducible apply M.t_newL2); (· exact rfl))
    | with_reducible apply M.t_newD2
    | ((with_reducible apply M.k9); (· exact rfl))
    | with_reducible apply M.t_newD1
    | ((with_reducible apply M.hV); (· exact rfl))
    | with_reducible apply M.t_newD
    | ((with_reducible apply M.tH); (· first | exact rfl | assumption); (· first | omega | (simp only [List.length_map, List.length_append, List.length_cons, List.length_nil]; omega)))
    | ((with_reducible apply M.t_app2); (· first | exact rfl | assumption); (· first | omega | (simp only [List.length_map, List.length_append, List.length_cons, List.length_nil]; omega)))
    | ((with_reducible apply M.t_app3); (· first | exact rfl | assumption); (· first | omega | (simp only [List.length_map, List.length_append, List.length_cons, List.length_nil]; omega)))
    | ((with_reducible apply M.kl); (· first | exact rfl | assumption); (· first | omega | (simp only [List.length_map, List.length_append, List.length_cons, List.length_nil]; omega)))
    | ((with_reducible apply M.sF); (· exact rfl))
    | ((with_reducible apply M.eE); (· exact rfl))
    | ((with_reducible apply M.i7); (· exact rfl))
    | with_reducible apply M.p4)
  | ((with_reducible apply M.kS); first
    | with_reducible apply M.kr
    | with_reducible apply M.s_asg
    | with_reducible apply M.s_ret
    | with_reducible apply M.s_if
    | with_reducible apply M.ug
    | with_reducible apply M.s_drop
    | with_reducible apply M.s_retN
    | with_reducible apply M.s_brk
    | with_reducible apply M.s_cnt
    | with_reducible apply M.uf
    | with_reducible apply M.s_fld
    | with_reducible apply M.s_par
    | with_reducible apply M.s_for
    | with_reducible apply M.s_asgT
    | with_reducible apply M.s_asgX
    | with_reducible apply M.st_n
    | with_reducible apply M.st_s
    | with_reducible apply M.st_nil)
  | ((with_reducible apply M.kA); first
    | with_reducible apply M.sP
    | with_reducible apply M.w_nil)
  | ((with_reducible apply M.kT); first
    | with_reducible apply M.w_B
    | with_reducible apply M.w_asB
    | with_reducible apply M.w_tru
    | with_reducible apply M.sT
    | with_reducible apply M.w_orT
    | with_reducible apply M.sJ
    | with_reducible apply M.sD
    | ((with_reducible apply M.w_ofO); (· exact rfl)))
  | ((with_reducible apply M.kO); first
    | with_reducible apply M.w_noP
    | with_reducible apply M.w_P
    | with_reducible apply M.sR
    | with_reducible apply M.w_asPn)
  | ((with_reducible apply M.kPp); first
    | with_reducible apply M.p5
    | with_reducible apply M.sG)
  | ((with_reducible apply M.kW); first
    | with_reducible apply M.w_wk
    | with_reducible apply M.w_rng
    | with_reducible apply M.sN)
  | with_reducible apply M.pE
  | with_reducible apply M.rQ
  | with_reducible apply M.if_nt
  | with_reducible apply M.if_nf
  | ((with_reducible apply M.kPnx); (with_reducible refine M.p_nx ?_))
  | ((with_reducible apply M.kPrt); (with_reducible refine M.p_rt ?_))
  | ((with_reducible apply M.kPbk); (with_reducible refine M.p_bk ?_))
  | ((with_reducible apply M.kPct); (with_reducible refine M.p_ct ?_))
  | with_reducible apply M.tE
  | with_reducible apply M.tA
  | ((with_reducible apply M.t_put1); (· exact rfl); (· first | exact rfl | assumption); (· first | omega | (simp only [List.length_map, List.length_append, List.length_cons, List.length_nil]; omega)))
  | with_reducible apply M.t_tyL2
  | ((with_reducible apply M.t_put2); (· exact rfl); (· first | exact rfl | assumption); (· first | omega | (simp only [List.length_map, List.length_append, List.length_cons, List.length_nil]; omega)))
  | with_reducible apply M.t_tyL3
  | ((with_reducible apply M.t_put3); (· exact rfl); (· first | exact rfl | assumption); (· first | omega | (simp only [List.length_map, List.length_append, List.length_cons, List.length_nil]; omega)))
  | with_reducible apply M.t_tyL
  | ((with_reducible apply M.t_put); (· exact rfl); (· first | exact rfl | assumption); (· first | omega | (simp only [List.length_map, List.length_append, List.length_cons, List.length_nil]; omega)))
  | with_reducible apply M.tD
  | with_reducible apply M.w_bl
  | with_reducible apply M.w_xy
  | ((with_reducible apply M.uV); (· exact rfl))
  | with_reducible apply M.sx
  | ((with_reducible apply M.uU); (· exact rfl))
  | ((with_reducible apply M.k_wkE); (· exact rfl))
  | ((with_reducible apply M.k_tgT); (· exact rfl))
  | ((with_reducible apply M.k_tgN); (· exact rfl))
  | ((with_reducible apply M.k_rdT); (· exact rfl))
  | ((with_reducible apply M.k_tgL); (· exact rfl))
  | ((with_reducible apply M.uX); (· exact rfl))
  | ((with_reducible apply M.uW); (· exact Nat.le_of_ble_eq_true rfl))
  | ((with_reducible apply M.w_wkN); (· first | omega | (simp only [List.length_map, List.length_append, List.length_cons, List.length_nil]; omega)))
  | ((with_reducible apply M.sE); (· omega))
  | ((with_reducible apply M.k_le); (· exact Nat.le_of_ble_eq_true rfl))))
local macro_rules | `(tactic| walk_at "v") => `(tactic| repeat (first
  | ((with_reducible apply M.kV); first
    | ((with_reducible apply M.w_var); (· exact rfl))
    | with_reducible apply M.w_K
    | ((with_reducible apply M.o_big); intro b hb)
    | with_reducible apply M.w_2
    | with_reducible apply M.w_1
    | with_reducible apply M.w_C
    | with_reducible apply M.sQ
    | with_reducible apply M.w_tup
    | with_reducible apply M.w_lst
    | with_reducible apply M.sS
    | with_reducible apply M.sH
    | with_reducible apply M.w_ch
    | with_reducible apply M.w_sl
    | with_reducible apply M.sO
    | with_reducible apply M.kf
    | with_reducible apply M.w_bm
    | with_reducible apply M.w_bm0
    | with_reducible apply M.w_make
    | with_reducible apply M.w_makeD
    | with_reducible apply M.mL
    | with_reducible apply M.o_slAll
    | ((with_reducible apply M.pq); (· omega); (· omega))
    | with_reducible apply M.pj
    | with_reducible apply M.o_listD
    | with_reducible apply M.o_listT
    | ((with_reducible apply M.ny); (· first | exact rfl | omega))
    | ((with_reducible apply M.nz); (· first | exact rfl | omega))
    | ((with_reducible apply M.ku); (· first | exact rfl | omega))
    | ((with_reducible apply M.o_slDropT); (· first | exact rfl | omega))
    | with_reducible apply M.o_add
    | with_reducible apply M.o_sub
    | with_reducible apply M.uJ
    | ((with_reducible apply M.o_repB); (· first | omega | (simp only [List.length_map, List.length_append, List.length_cons, List.length_nil]; omega)))
    | ((with_reducible apply M.da); (· first | omega | (simp only [List.length_map, List.length_append, List.length_cons, List.length_nil]; omega)))
    | ((with_reducible apply M.pA); (· first | omega | (simp only [List.length_map, List.length_append, List.length_cons, List.length_nil]; omega)))
    | with_reducible apply M.o_inI
    | with_reducible apply M.o_ninI
    | with_reducible apply M.o_lt
    | with_reducible apply M.o_le
    | with_reducible apply M.o_gt
    | with_reducible apply M.o_ge
    | with_reducible apply M.o_eqI
    | with_reducible apply M.o_neI
    | with_reducible apply M.o_eqS
    | with_reducible apply M.o_neS
    | with_reducible apply M.o_is
    | with_reducible apply M.o_isn
    | ((with_reducible apply M.o_mul); (· first | exact qO (by omega) (by omega) | exact qN (by omega) (by omega)))
    | ((with_reducible apply M.o_mod); (· first | omega | (simp only [List.length_map]; omega)))
    | ((with_reducible apply M.o_div); (· omega))
    | ((with_reducible apply M.qL); first | with_reducible apply M.o_p10_1 | with_reducible apply M.o_p10_2 | with_reducible apply M.o_p10_3 | with_reducible apply M.o_p10_4 | with_reducible apply M.o_p10_5 | with_reducible apply M.qH | with_reducible apply M.o_p10_7 | with_reducible apply M.o_p10_8 | with_reducible apply M.qG | with_reducible apply M.nB | with_reducible apply M.o_p10_12 | with_reducible apply M.o_p10_15 | with_reducible apply M.nA | with_reducible apply M.o_p10_20 | with_reducible apply M.o_p10_24 | with_reducible apply M.o_p10_27 | with_reducible apply M.o_p10_30 | with_reducible apply M.o_p2_10 | with_reducible apply M.o_p2_20 | with_reducible apply M.o_p2_30 | with_reducible apply M.o_p2_31 | with_reducible apply M.o_p2_32 | with_reducible apply M.o_p2_60 | with_reducible apply M.o_p2_61 | with_reducible apply M.o_p2_62 | with_reducible apply M.o_p2_63 | with_reducible apply M.o_p2_64)
    | ((with_reducible apply M.nW); first | with_reducible apply M.tG | with_reducible apply M.tF | with_reducible apply M.oI | with_reducible apply M.t_getC2 | with_reducible apply M.t_getR | with_reducible apply M.nJ | with_reducible apply M.o_ixtup0 | with_reducible apply M.o_ixkt0 | with_reducible apply M.nH | with_reducible apply M.o_ixtup1 | with_reducible apply M.o_ixkt1 | with_reducible apply M.nG | with_reducible apply M.o_ixtup2 | with_reducible apply M.o_ixkt2 | with_reducible apply M.nE | with_reducible apply M.o_ixtup3 | with_reducible apply M.o_ixkt3 | with_reducible apply M.nD | with_reducible apply M.nC | with_reducible apply M.o_ixkt4 | with_reducible apply M.o_ixlst5 | with_reducible apply M.o_ixtup5 | with_reducible apply M.o_ixkt5 | with_reducible apply M.o_ixlst6 | with_reducible apply M.o_ixtup6 | with_reducible apply M.o_ixkt6 | with_reducible apply M.o_ixlst7 | with_reducible apply M.o_ixtup7 | with_reducible apply M.o_ixkt7)
    | ((first | with_reducible apply M.k_opSub | with_reducible apply M.k_opEq | with_reducible apply M.k_opNe | with_reducible apply M.k_opLt | with_reducible apply M.k_opLe | with_reducible apply M.k_opGt | with_reducible apply M.k_opGe | with_reducible apply M.k_opNeg | with_reducible apply M.k_opRev | with_reducible apply M.uY | with_reducible apply M.k_bAbs | with_reducible apply M.k_bMax2 | with_reducible apply M.k_bMin2 | with_reducible apply M.k_bMaxL | with_reducible apply M.k_bMinL | with_reducible apply M.k_bSum | with_reducible apply M.k_bAll | with_reducible apply M.k_bAny | with_reducible apply M.nX | with_reducible apply M.k_bBool | with_reducible apply M.qM | with_reducible apply M.k_opFld); refine wpR.eq rfl ?_)
    | ((with_reducible apply M.t_newL3); (· exact rfl))
    | with_reducible apply M.t_newD3
    | ((with_reducible apply M.t_newL2); (· exact rfl))
    | with_reducible apply M.t_newD2
    | ((with_reducible apply M.k9); (· exact rfl))
    | with_reducible apply M.t_newD1
    | ((with_reducible apply M.hV); (· exact rfl))
    | with_reducible apply M.t_newD
    | ((with_reducible apply M.tH); (· first | exact rfl | assumption); (· first | omega | (simp only [List.length_map, List.length_append, List.length_cons, List.length_nil]; omega)))
    | ((with_reducible apply M.t_app2); (· first | exact rfl | assumption); (· first | omega | (simp only [List.length_map, List.length_append, List.length_cons, List.length_nil]; omega)))
    | ((with_reducible apply M.t_app3); (· first | exact rfl | assumption); (· first | omega | (simp only [List.length_map, List.length_append, List.length_cons, List.length_nil]; omega)))
    | ((with_reducible apply M.kl); (· first | exact rfl | assumption); (· first | omega | (simp only [List.length_map, List.length_append, List.length_cons, List.length_nil]; omega)))
    | ((with_reducible apply M.sF); (· exact rfl))
    | ((with_reducible apply M.eE); (· exact rfl))
    | ((with_reducible apply M.i7); (· exact rfl))
    | with_reducible apply M.p4)
  | ((with_reducible apply M.kS); first
    | with_reducible apply M.kr
    | with_reducible apply M.s_asg
    | with_reducible apply M.s_ret
    | with_reducible apply M.ug
    | with_reducible apply M.s_drop
    | with_reducible apply M.s_retN
    | with_reducible apply M.s_brk
    | with_reducible apply M.s_cnt
    | with_reducible apply M.uf
    | with_reducible apply M.s_fld
    | with_reducible apply M.s_par
    | with_reducible apply M.s_for
    | with_reducible apply M.s_asgT
    | with_reducible apply M.s_asgX
    | with_reducible apply M.st_n
    | with_reducible apply M.st_s
    | with_reducible apply M.st_nil)
  | ((with_reducible apply M.kA); first
    | with_reducible apply M.sP
    | with_reducible apply M.w_nil)
  | ((with_reducible apply M.kT); first
    | with_reducible apply M.w_B
    | with_reducible apply M.w_asB
    | with_reducible apply M.w_tru
    | with_reducible apply M.sT
    | with_reducible apply M.w_orT
    | with_reducible apply M.sJ
    | with_reducible apply M.sD
    | ((with_reducible apply M.w_ofO); (· exact rfl)))
  | ((with_reducible apply M.kO); first
    | with_reducible apply M.w_noP
    | with_reducible apply M.w_P
    | with_reducible apply M.sR
    | with_reducible apply M.w_asPn)
  | ((with_reducible apply M.kPp); first
    | with_reducible apply M.p5
    | with_reducible apply M.sG)
  | ((with_reducible apply M.kW); first
    | with_reducible apply M.w_wk
    | with_reducible apply M.w_rng
    | with_reducible apply M.sN)
  | with_reducible apply M.pE
  | with_reducible apply M.rQ
  | with_reducible apply M.if_nt
  | with_reducible apply M.if_nf
  | ((with_reducible apply M.kPnx); (with_reducible refine M.p_nx ?_))
  | ((with_reducible apply M.kPrt); (with_reducible refine M.p_rt ?_))
  | ((with_reducible apply M.kPbk); (with_reducible refine M.p_bk ?_))
  | ((with_reducible apply M.kPct); (with_reducible refine M.p_ct ?_))
  | with_reducible apply M.tE
  | with_reducible apply M.tA
  | ((with_reducible apply M.t_put1); (· exact rfl); (· first | exact rfl | assumption); (· first | omega | (simp only [List.length_map, List.length_append, List.length_cons, List.length_nil]; omega)))
  | with_reducible apply M.t_tyL2
  | ((with_reducible apply M.t_put2); (· exact rfl); (· first | exact rfl | assumption); (· first | omega | (simp only [List.length_map, List.length_append, List.length_cons, List.length_nil]; omega)))
  | with_reducible apply M.t_tyL3
  | ((with_reducible apply M.t_put3); (· exact rfl); (· first | exact rfl | assumption); (· first | omega | (simp only [List.length_map, List.length_append, List.length_cons, List.length_nil]; omega)))
  | with_reducible apply M.t_tyL
  | ((with_reducible apply M.t_put); (· exact rfl); (· first | exact rfl | assumption); (· first | omega | (simp only [List.length_map, List.length_append, List.length_cons, List.length_nil]; omega)))
  | with_reducible apply M.tD
  | with_reducible apply M.w_bl
  | with_reducible apply M.w_xy
  | ((with_reducible apply M.uV); (· exact rfl))
  | with_reducible apply M.sx
  | ((with_reducible apply M.uU); (· exact rfl))
  | ((with_reducible apply M.k_wkE); (· exact rfl))
  | ((with_reducible apply M.k_tgT); (· exact rfl))
  | ((with_reducible apply M.k_tgN); (· exact rfl))
  | ((with_reducible apply M.k_rdT); (· exact rfl))
  | ((with_reducible apply M.k_tgL); (· exact rfl))
  | ((with_reducible apply M.uX); (· exact rfl))
  | ((with_reducible apply M.uW); (· exact Nat.le_of_ble_eq_true rfl))
  | ((with_reducible apply M.w_wkN); (· first | omega | (simp only [List.length_map, List.length_append, List.length_cons, List.length_nil]; omega)))
  | ((with_reducible apply M.sE); (· omega))
  | ((with_reducible apply M.k_le); (· exact Nat.le_of_ble_eq_true rfl))))
section
variable{QV:Val->Hh->Prop}{cs:List Int}{s l many:Int}{g:Nat->List (Option Cel)}{L:List Cel}{n:Nat}
abbrev cel(cs:List Int):Val:=.lst (cs.map .int)
theorem qU(q:∀ cs',cs'≠[]->QV (cel cs') (hT (cel cs) s l g L)){δ : Sl}(h0:δ[0]?=some (some T0)):wpR (mOrV (m2 au (ah 0) (mK (.str "cells"))) (aV .dat (ae (mK (.int 0)) ar)) δ (hT (cel cs) s l g L)) QV:=by
 refine w_orV (w_2 (w_var h0 (w_K (oI ⟨_,rfl,?_⟩))));refine ite_b (fun hc=>q cs (by rintro rfl; cases hc)) (fun _=>?_);walk_at"w";exact q [0] (by simp)
abbrev primes:List Val:=[.int 2147483647,.int 2147483629,.int 2147483587,.int 2147483579,.int 2147483563,.int 2147483549,.int 2147483543]
theorem gM{i:Int}{h:Hh}(q:∀ p,0 < p->p < 2147483648->QV (.int p) h)(h0:0<=i)(h1:i < 7):wpR (au h (.lst primes) (.int i)) QV:=by
 refine dI h0 h1 fun v hv _=>?_
 simp only [List.mem_cons,List.not_mem_nil,or_false] at hv
 rcases hv with rfl | rfl | rfl | rfl | rfl | rfl | rfl <;> exact q _ (by decide) (by decide)
theorem cel_at{i:Int}{h:Hh}(q:∀ x,QV (.int x) h)(h0:0<=i)(h1:i < cs.length):wpR (au h (cel cs) (.int i)) QV:=by
 refine dI h0 (by simpa using h1) fun v hv _=>?_;obtain⟨x,_,rfl⟩:=List.mem_map.mp hv;exact q x
theorem cj(hs0:0<=s)(hs:s < 1000000000000)(hm:0 < many)(hM:many<=1000000)(q:∀ r s' l',0<=r->r < many->s<=s'->s'<=s + 1->QV (.int r) (hT (cel cs) s' l' g L)):wpR (ao tab (n + 1) 1 [T0,.int many] (hT (cel cs) s l g L)) QV:=by
 refine gZ ?_;unfold cP;walk_at"w";refine cn (fun hl=>?_) (fun hl=>?_)
 .walk_at"w";exact q _ _ _ (Int.emod_nonneg _ (by omega)) (Int.emod_lt_of_pos _ hm) (by omega) (by omega)
 walk_at"w";refine qU (fun cs' hc=>?_) rfl;have hn:0 < (cs'.length:Int):=by have:=List.length_pos_iff.mpr hc; omega
 walk_at"w";refine cel_at (fun x=>?_) (by simp only [List.length_map]; exact Int.emod_nonneg _ (by omega)) (by simp only [List.length_map]; exact Int.emod_lt_of_pos _ hn);walk_at"v";refine uh (s_if ?_) ?_
 .walk_at"w";refine cn (fun hx=>?_) (fun hx=>?_)
  .walk_at"w";refine cn (fun hx=>?_) (fun hx=>?_)
   .walk_at"w";exact q _ _ _ (Int.emod_nonneg _ (by omega)) (Int.emod_lt_of_pos _ hm) (by omega) (by omega)
   .walk_at"w";exact⟨rfl,rfl⟩
  .walk_at"w";exact⟨rfl,rfl⟩
 walk_at"w";refine gM (fun p p0 p1=>?_) (by omega) (by omega);walk_at"w";generalize x % p * 48271 + 7919 * s * s + 69621 * s + 1=z;have z0:=Int.emod_nonneg z (b:=p) (by omega);have z1:=Int.emod_lt_of_pos z p0;generalize z % p=r at *;walk_at"w";refine gM (fun p2 p20 p21=>?_) (by omega) (by omega);walk_at"w";generalize r * (r + 16807)=z;have z0:=Int.emod_nonneg z (b:=p2) (by omega);have z1:=Int.emod_lt_of_pos z p20;generalize z % p2=r at *;walk_at"w";refine cn (fun hx=>absurd hx (by omega)) (fun hx=>?_);walk_at"w";exact q _ _ _ (Int.emod_nonneg _ (by omega)) (Int.emod_lt_of_pos _ hm) (by omega) (by omega)
end
section
variable{QV:Val->Hh->Prop}{cs:List Int}{s l many:Int}{g:Nat->List (Option Cel)}{L:List Cel}{n:Nat}
theorem drawB(hs:0<=s/\s < 100000000000)(hm:0 < many/\many<=100000000000)(q:∀ r s' l',0<=r/\r < many/\s<=s'/\s'<=s + 2->QV (.int r) (hT (cel cs) s' l' g L)):wpR (ao tab (n + 2) 1 [T0,.int many] (hT (cel cs) s l g L)) QV:=by
 refine gZ ?_;unfold cP;walk_at"w";refine cn (fun hl=>?_) (fun hl=>?_)
 .walk_at"w";exact q _ _ _ ⟨Int.emod_nonneg _ (by omega),Int.emod_lt_of_pos _ hm.1,by omega,by omega⟩
 walk_at"w";refine qU (fun cs' hc=>?_) rfl;have hn:0 < (cs'.length:Int):=by have:=List.length_pos_iff.mpr hc; omega
 walk_at"w";refine cel_at (fun x=>?_) (by simp only [List.length_map]; exact Int.emod_nonneg _ (by omega)) (by simp only [List.length_map]; exact Int.emod_lt_of_pos _ hn);walk_at"v";refine uh (s_if ?_) ?_
 .walk_at"w";refine cn (fun hx=>?_) (fun hx=>?_)
  .walk_at"w";refine cn (fun hx=>?_) (fun hx=>?_)
   .walk_at"w";exact q _ _ _ ⟨Int.emod_nonneg _ (by omega),Int.emod_lt_of_pos _ hm.1,by omega,by omega⟩
   .walk_at"w";exact⟨rfl,rfl⟩
  .walk_at"w";exact⟨rfl,rfl⟩
 walk_at"w";refine gM (fun p p0 p1=>?_) (by omega) (by omega);walk_at"w";generalize x % p * 48271 + 7919 * s * s + 69621 * s + 1=z;have z0:=Int.emod_nonneg z (b:=p) (by omega);have z1:=Int.emod_lt_of_pos z p0;generalize z % p=r at *;walk_at"w";refine gM (fun p2 p20 p21=>?_) (by omega) (by omega);walk_at"w";generalize r * (r + 16807)=z;have z0:=Int.emod_nonneg z (b:=p2) (by omega);have z1:=Int.emod_lt_of_pos z p20;generalize z % p2=r at *;walk_at"w";refine cn (fun hx=>?_) (fun hx=>?_)
 .walk_at"w";refine cj (by omega) (by omega) (by omega) (by omega) fun r2 s2 l2 r20 r21 s20 s21=>?_;walk_at"w";exact q _ _ _ ⟨Int.emod_nonneg _ (by omega),Int.emod_lt_of_pos _ hm.1,by omega,by omega⟩
 walk_at"w";exact q _ _ _ ⟨Int.emod_nonneg _ (by omega),Int.emod_lt_of_pos _ hm.1,by omega,by omega⟩
end
def Wl(k:Nat)(w:Str):Prop:=(∀ c∈w.cps.toList,97<=c/\c<=122)/\1<=w.cps.toList.length/\w.cps.toList.length<=k
section
variable{j k:Nat}{a b w:Str}
theorem Wl.len(h:Wl k w):w.length<=k:=by have:=h.2.2; rw [Array.length_toList] at this; exact this
theorem Wl.mono(h:Wl j w)(l:j<=k):Wl k w:=⟨h.1,h.2.1,Nat.le_trans h.2.2 l⟩
theorem ja{a b:Str}:(a ++ b).cps.toList=a.cps.toList ++ b.cps.toList:=Array.toList_append
theorem Wl.app(h1:Wl j a)(h2:Wl k b):Wl (j + k) (a ++ b):=by
 refine⟨fun c hc=>?_,?_,?_⟩
 .rw [ja] at hc;rcases List.mem_append.mp hc with hc | hc
  .exact h1.1 c hc
  .exact h2.1 c hc
 .rw [ja,List.length_append]; have:=h1.2.1; omega
 .rw [ja,List.length_append]; have:=h1.2.2; have:=h2.2.2; omega
theorem cut_n{w:Str}{n:Nat}:(cutS w none (some (n:Int))).cps.toList=w.cps.toList.take n:=by
 show(w.cps.toList.drop _).take (HT.sIx w.length w.length (some (n:Int)) - HT.sIx w.length 0 none)=_;rw [HT.sIx_nat,HT.sIx_none,List.drop_zero,Nat.sub_zero];have e:w.length=w.cps.toList.length:=by rw [Array.length_toList]; rfl
 rw [e]
 by_cases h:n<=w.cps.toList.length
 .rw [Nat.min_eq_left h]
 .rw [Nat.min_eq_right (by omega),List.take_of_length_le (Nat.le_refl _),List.take_of_length_le (by omega)]
theorem Wl.to{n:Nat}(h:Wl k w)(hn:1<=n):Wl n (cutS w none (some (n:Int))):=by
 refine⟨fun c hc=>?_,?_,?_⟩
 .rw [cut_n] at hc;exact h.1 c (List.mem_of_mem_take hc)
 .rw [cut_n,List.length_take]; have:=h.2.1; omega
 .rw [cut_n,List.length_take]; omega
theorem Wl.from(h:Wl k w)(hb:Wl 1 b):Wl k (b ++ cutS w (some 1) none):=by
 have e:(b ++ cutS w (some 1) none).cps.toList=b.cps.toList ++ w.cps.toList.drop 1:=by rw [ja,dN]
 refine⟨fun c hc=>?_,?_,?_⟩
 .rw [e] at hc;rcases List.mem_append.mp hc with hc | hc
  .exact hb.1 c hc
  .exact h.1 c (List.mem_of_mem_drop hc)
 .rw [e,List.length_append]; have:=hb.2.1; omega
 .rw [e,List.length_append,List.length_drop]; have:=hb.2.2; have:=h.2.1; have:=h.2.2; omega
theorem Wl.join{ps:List Str}(h:∀ p∈ps,Wl 1 p)(h1:1<=ps.length):Wl ps.length (Txt.join ⟨#[]⟩ ps):=by
 have key:∀ (ps:List Str),(∀ p∈ps,Wl 1 p)->(ps.flatMap fun p=>p.cps.toList).length=ps.length:=by
  intro ps
  induction ps with
  | nil=>intro _; rfl
  | cons p ps ih =>
   intro h;have h2:=h p (by simp);have h3:=ih fun x hx=>h x (List.mem_cons_of_mem _ hx);rw [List.flatMap_cons,List.length_append,h3,List.length_cons];have:=h2.2.1; have:=h2.2.2; omega
 refine⟨fun c hc=>?_,?_,?_⟩
 .rw [ir] at hc;obtain⟨p,hp,hc⟩:=List.mem_flatMap.mp hc;exact(h p hp).1 c hc
 .rw [ir,key ps h]; exact h1
 .rw [ir,key ps h]; exact Nat.le_refl _
end
abbrev alS:Str:="abcdefghijklmnopqrstuvwxyz"
abbrev owS:Str:="tap press pull part ear hear stop back"
theorem al_ok:(alS.cps.toList.all fun c=>decide (97<=c/\c<=122))=true:=by decide +kernel
theorem al_len:alS.cps.toList.length=26:=by decide +kernel
theorem ow_ok:((Txt.split owS " ").all fun w=>w.cps.toList.all (fun c=>decide (97<=c/\c<=122)) && (decide (1<=w.cps.toList.length) && decide (w.cps.toList.length<=5)))=true:=by decide +kernel
theorem ow_len:(Txt.split owS " ").length=8:=by decide +kernel
theorem ow_w{w:Str}(h:w∈Txt.split owS " "):Wl 5 w:=by
 have:=List.all_eq_true.mp ow_ok w h;rw [Bool.and_eq_true,Bool.and_eq_true] at this;exact⟨fun c hc=>of_decide_eq_true (List.all_eq_true.mp this.1 c hc),of_decide_eq_true this.2.1,of_decide_eq_true this.2.2⟩
theorem wl_ch{c:Nat}(hc:97<=c/\c<=122):Wl 1 (chS c):=⟨by simpa using hc,Nat.le_refl _,Nat.le_refl _⟩
theorem al_ch{c:Nat}(hc:c∈alS.cps.toList):Wl 1 (chS c):=wl_ch (of_decide_eq_true (List.all_eq_true.mp al_ok c hc))
theorem sum_le9{ps:List Str}(h:∀ p∈ps,Wl 1 p):(ps.map (·.length)).sum<=ps.length:=by
 induction ps with
 | nil=>exact Nat.le_refl _
 | cons p ps ih =>
  have h2:=(h p (by simp)).len;have h3:=ih fun x hx=>h x (List.mem_cons_of_mem _ hx)
  simp only [List.map_cons,List.sum_cons,List.length_cons]
  omega
section
variable{QV:Val->Hh->Prop}{cs:List Int}{s l many i:Int}{g:Nat->List (Option Cel)}{L:List Cel}{n:Nat}{h:Hh}
theorem oi(hs:0<=s/\s < 1000000000000)(hm:0 < many/\many<=1000000)(q:∀ r s' l',0<=r/\r < many/\s<=s'/\s'<=s + 1->QV (.int r) (hT (cel cs) s' l' g L)):wpR (ao tab (n + 1) 1 [T0,.int many] (hT (cel cs) s l g L)) QV :=
 cj hs.1 hs.2 hm.1 hm.2 fun r s' l' a b c d=>q r s' l' ⟨a,b,c,d⟩
theorem uR(hi:0<=i/\i < 26)(q:∀ w,Wl 1 w->QV (.str w) h):wpR (au h (.str alS) (.int i)) QV :=
 o_ixS (by decide +kernel) hi.1 (by rw [al_len]; exact hi.2) fun c hc=>q _ (al_ch hc)
theorem pick{xs:List Val}(P:Val->Prop)(hi:0<=i/\i < xs.length)(hp:∀ v∈xs,P v)(q:∀ v,P v->QV v h):wpR (au h (.lst xs) (.int i)) QV:=dI hi.1 hi.2 fun v hv _=>q v (hp v hv)
def Wd(v:Val):Prop:=∃ w,v = .str w/\Wl 20 w
theorem wd{j:Nat}{w:Str}(h:Wl j w)(hj:j<=20):Wd (.str w):=⟨w,rfl,h.mono hj⟩
theorem wd_nil:∀ v∈([]:List Val),Wd v:=by simp
theorem fq{x:Val}{xs:List Val}(a:Wd x)(b:∀ y∈xs,Wd y):∀ y∈x :: xs,Wd y:=fun y hy=>by
 rcases List.mem_cons.mp hy with rfl | hy
 .exact a
 .exact b _ hy
theorem sv{m:Nat}(hm:m<=50)(hs:0<=s/\s < 999999000000)(q:∀ (ws:List Str) s' l',ws.length=m->(∀ w∈ws,Wl 8 w)->s<=s'/\s'<=s + 10 + 3 * m->QV (.lst (ws.map .str)) (hT (cel cs) s' l' g L)):wpR (ao tab (n + 2) 10 [T0,.int m] (hT (cel cs) s l g L)) QV:=by
 refine j6 ?_;unfold cV;walk_at"v";refine⟨rfl,?_⟩;walk_at"v";refine dS (by decide +kernel) (by decide +kernel) ?_;walk_at"v";refine⟨rfl,?_⟩;walk_at"v";refine p7 ?_;walk_at"v";refine oi (by omega) (by omega) fun r0 s1 l1 h1=>?_;walk_at"v";refine⟨_,rfl,by omega,fun i acc h=>∃ (ws:List Str) (s2 l2:Int),acc=ws.map .str/\ws.length=i/\(∀ w∈ws,Wl 1 w)/\s1<=s2/\s2<=s1 + i/\h=hT (cel cs) s2 l2 g L,?_,?_,?_⟩
 .exact⟨[],s1,l1,rfl,rfl,by simp,by omega,by omega,rfl⟩
 .rintro i acc h hi ⟨ws,s2,l2,rfl,hl,hw,a1,a2,rfl⟩;refine⟨_,rfl,?_⟩;walk_at"v";refine oi (by omega) (by omega) fun r s3 l3 h3=>?_;refine uR (by omega) fun w hw1=>?_;refine⟨ws ++ [w],s3,l3,by simp,by simp [hl],?_,by omega,by omega,rfl⟩;intro u hu;rcases List.mem_append.mp hu with hu | hu
  .exact hw u hu
  .rw [List.mem_singleton.mp hu]; exact hw1
 rintro acc h ⟨ws,s2,l2,rfl,hl,hw,a1,a2,rfl⟩;walk_at"v";have hsum:=sum_le9 hw;refine eW (by show _ + ws.length * 0<=1000000; omega) ?_;have hb:Wl 6 (Txt.join "" ws):=(Wl.join hw (by omega)).mono (by omega);generalize Txt.join "" ws=bs at hb;walk_at"v";refine loopN (fun i δ h=>∃ (ws:List Str) (s3 l3:Int) (o6 o7 o8 o9 o10:Option Val),δ = [some T0,some (.int m),some (.str alS),some (.lst ((Txt.split owS " ").map .str)),some (.str bs),some (.ref (.loc L.length)),o6,o7,o8,o9,o10]/\ws.length=i/\(∀ w∈ws,Wl 8 w)/\s2<=s3/\s3<=s2 + 3 * i/\h=hT (cel cs) s3 l3 g (L ++ [.lst (ws.map .str)])) ?_ ?_ ?_
 .exact⟨[],s2,l2,_,_,_,_,_,rfl,rfl,by simp,by omega,by omega,rfl⟩
 .rintro i δ h hi ⟨ws,s3,l3,o6,o7,o8,o9,o10,rfl,hl,hw,a3,a4,rfl⟩;refine⟨_,rfl,?_⟩;walk_at"v";refine oi (by omega) (by omega) fun r4 s4 l4 h4=>?_;refine uR (by omega) fun lt hlt=>?_;walk_at"v";refine dA (by have:=hb.len; have:=hlt.len; omega) ?_;walk_at"v";refine dA (by have:=hb.len; have:=hlt.len; omega) ?_;walk_at"v";refine dA (by have:=hb.len; have:=hlt.len; omega) ?_;walk_at"v";refine dA (by have:=(hb.app hlt).len; have:=hlt.len; omega) ?_;walk_at"v";refine oi (by omega) (by omega) fun r5 s5 l5 h5=>?_;refine pick Wd ⟨h5.1,by rw [List.length_map,ow_len]; exact h5.2.1⟩ ?_ fun ow how=>?_
  .intro v hv;obtain⟨w,hw,rfl⟩:=List.mem_map.mp hv;exact wd (ow_w hw) (by decide)
  walk_at"v";refine oi (by omega) (by omega) fun r6 s6 l6 h6=>?_;refine pick Wd ⟨h6.1,h6.2.1⟩ (fq (wd hb (by decide)) (fq (wd (hb.app hlt) (by decide)) (fq (wd (hlt.app hb) (by decide)) (fq (wd hlt (by decide)) (fq (wd ((hb.app hlt).app hlt) (by decide)) (fq how wd_nil)))))) fun v hv=>?_;obtain⟨w0,rfl,hw0⟩:=hv;walk_at"v";refine eV (by have:=hw0.len; omega) ?_;walk_at"v";have hw1:Wl 8 (cutS w0 none (some 8)):=hw0.to (n:=8) (by decide);generalize cutS w0 none (some 8)=w1 at hw1;refine loopM (tv:=fun c=>.str (chS c)) (ts:=alS.cps.toList) (fun j δ h=>∃ (w2:Str) (o10:Option Val),Wl 8 w2/\δ = [some T0,some (.int m),some (.str alS),some (.lst ((Txt.split owS " ").map .str)),some (.str bs),some (.ref (.loc L.length)),some (.int i),some (.str lt),some (.lst [.str bs,.str (bs ++ lt),.str (lt ++ bs),.str lt,.str (bs ++ lt ++ lt),ow]),some (.str w2),o10]/\h=hT (cel cs) s6 l6 g (L ++ [.lst (ws.map .str)])) ?_ ?_ ?_
  .refine⟨w1,o10,hw1,rfl,rfl⟩
  .rintro j δ h c hc ⟨w2,o10,hw2,rfl,rfl⟩;have hcw:=al_ch (List.mem_of_getElem? hc);refine⟨_,rfl,?_⟩;refine s_if ?_;walk_at"v";refine uK (ds:=ws) gw ?_;walk_at"v";refine cn (fun hin=>?_) (fun hin=>?_)
   .walk_at"v";refine eV (by have:=hw2.len; omega) ?_;have h7:Wl 7 (cutS w2 none (some 7)):=hw2.to (n:=7) (by decide);walk_at"v";refine dA (by have:=h7.len; have:=hcw.len; omega) ?_;walk_at"v";exact⟨_,_,h7.app hcw,rfl,rfl⟩
   .walk_at"v";exact⟨_,_,hw2,rfl,rfl⟩
  rintro δ h ⟨w2,o10,hw2,rfl,rfl⟩;walk_at"v";have hal:=al_len;refine loopM (tv:=fun c=>.str (chS c)) (ts:=alS.cps.toList) (fun j δ h=>∃ (w2:Str) (o10:Option Val),Wl 8 w2/\δ = [some T0,some (.int m),some (.str alS),some (.lst ((Txt.split owS " ").map .str)),some (.str bs),some (.ref (.loc L.length)),some (.int i),some (.str lt),some (.lst [.str bs,.str (bs ++ lt),.str (lt ++ bs),.str lt,.str (bs ++ lt ++ lt),ow]),some (.str w2),o10]/\h=hT (cel cs) s6 l6 g (L ++ [.lst (ws.map .str)])) ?_ ?_ ?_
  .exact⟨w2,o10,hw2,rfl,rfl⟩
  .rintro j δ h c hc ⟨w2,o10,hw2,rfl,rfl⟩;have hcw:=al_ch (List.mem_of_getElem? hc);refine⟨_,rfl,?_⟩;refine s_if ?_;walk_at"v";refine uK (ds:=ws) gw ?_;walk_at"v";refine cn (fun hin=>?_) (fun hin=>?_)
   .walk_at"v";refine eV (by have:=hw2.len; omega) ?_;have h7:(cutS w2 (some 1) none).length<=8:=by
     rw [<- str_len,dN,List.length_drop]; have:=hw2.2.2; omega
    walk_at"v";refine dA (by have:=hcw.len; omega) ?_;walk_at"v";exact⟨_,_,hw2.from hcw,rfl,rfl⟩
   .walk_at"v";exact⟨_,_,hw2,rfl,rfl⟩
  rintro δ h ⟨w3,o10,hw3,rfl,rfl⟩;walk_at"v";refine⟨ws ++ [w3],s6,l6,_,_,_,_,_,rfl,by rw [List.length_append,hl]; rfl,?_,by omega,by omega,by rw [List.map_append]; rfl⟩;intro u hu;rcases List.mem_append.mp hu with hu | hu
  .exact hw u hu
  .rw [List.mem_singleton.mp hu]; exact hw3
 .rintro δ h ⟨ws,s3,l3,o6,o7,o8,o9,o10,rfl,hl,hw,a3,a4,rfl⟩;walk_at"v";exact q ws _ _ hl hw (by omega)
end
section
variable{QV:Val->Hh->Prop}{c0:Val}{s l:Int}{g:GG}{L:List Cel}{n:Nat}{z:Str}{h:Hh}
theorem lN{c:Nat}{y:Str}(q:QV (.bl (decide (c∈y.cps.toList))) h):wpR (gp h (.str (chS c)) (.str y)) QV:=wpR.eq (rfl:gp h (.str (chS c)) (.str y)=Res.ok (Val.bl (decide (c∈y.cps.toList))) h) q
theorem jf{α : Type}{f:α->Bool}{ts:List α}(q:QV (.bl ((ts.map f).all id)) h):wpR (mD h [.lst (ts.map fun t=>Val.bl (f t))]) QV:=by
 have hb:∀ ts:List α,pR (ts.map fun t=>Val.bl (f t))=some (ts.map f):=fun ts=>by
  induction ts with
  | nil=>rfl
  | cons t ts ih=>rw [List.map_cons,List.map_cons]; unfold pR; rw [ih]; rfl
 have e:mD h [.lst (ts.map fun t=>Val.bl (f t))] = .ok (.bl ((ts.map f).all id)) h:=by
  unfold mD i6;show(match pR (ts.map fun t=>Val.bl (f t)) with | some ns=>_ | none=>_)=_;rw [hb]
 rw [e]; exact⟨q⟩
theorem gR(hz:z.length<=1000000)(q:QV (.int (z.length:Nat)) h):wpR (cz h [.str z]) QV:=by
 first
 | exact o_lenS hz q
 | (unfold cz; dsimp only; rw [if_pos hz]; exact⟨q⟩)
 | exact⟨q⟩
theorem o_ix0(hz:z.length<=1000000)(h1:0 < z.cps.toList.length)(q:QV (.str (chS (z.cps.toList.headD 0))) h):wpR (au h (.str z) (.int 0)) QV:=by
 have e0:atI z.cps.toList 0=some (z.cps.toList.headD 0):=by
  cases hz:z.cps.toList with
  | nil=>rw [hz] at h1; exact absurd h1 (by decide)
  | cons a b =>
   unfold atI ixN;rw [if_pos (by decide)]
   first
   | rfl
   | (rw [if_pos (by simp)]; rfl)
 refine wpR.eq (?_:_=Res.ok (Val.str (chS (z.cps.toList.headD 0))) h) q;show(if z.length<=1000000 then(match atI z.cps.toList 0 with | some c=>Res.ok (Val.str ⟨#[c]⟩) h | none=>.err) else .err)=_;rw [if_pos hz,e0]
theorem pz{n:Int}(e:PySem.intText? z=some n)(hl:z.length<=640)(q:QV (.int n) h):wpR (i5 h [.str z]) QV:=by
 have e2:i5 h [.str z] = .ok (.int n) h:=by
  unfold i5;dsimp only;rw [e];dsimp only;rw [if_pos hl]
 rw [e2]; exact⟨q⟩
theorem dU(hz:z.length<=160000)(q:QV (onI (aF z)) (hT c0 s l g L)):wpR (ao tab (n + 1) 15 [.str z] (hT c0 s l g L)) QV:=by
 refine lZ ?_;unfold dq;refine kr ?_;refine s_asg ?_;refine k7 (fun v h=>v = .str (bx z)/\h=hT c0 s l g L) ?_ ?_
 .refine mM (b:=decide (cutS z none (some 1)=("-" : Str))) ?_ (fun e=>?_) (fun e=>?_)
  .walk_at"v";refine eV (by omega) ?_;walk_at"v";exact⟨rfl,rfl⟩
  .walk_at"v";refine eV (by omega) ?_;unfold bx;rw [if_pos e];exact⟨rfl,rfl⟩
  .walk_at"v";unfold bx;rw [if_neg (by rw [e]; decide)];exact⟨rfl,rfl⟩
 rintro _ _ ⟨rfl,rfl⟩;have hfl:(bx z).length<=160000:=by
  exact Nat.le_trans oh hz
 walk_at"v";unfold aF at q;refine eg (b:=iB z) ?_ (fun e=>?_) (fun e=>?_)
 .unfold iB;walk_at"v"
  by_cases e1:bx z=("" : Str)
  .rw [if_pos (decide_eq_true e1)];exact⟨by rw [decide_eq_true e1]; rfl,rfl⟩
  .rw [if_neg (by rw [decide_eq_false e1]; decide)];walk_at"v";rw [decide_eq_false e1,Bool.false_or];refine gR (by omega) ?_;walk_at"v"
   by_cases e2:10 < (bx z).length
   .rw [if_pos (decide_eq_true (by omega))];exact⟨by rw [decide_eq_true e2]; rfl,rfl⟩
   .rw [if_neg (fun z9=>e2 (by have:=of_decide_eq_true z9; omega))];rw [decide_eq_false e2,Bool.false_or];walk_at"v";refine eF (fun c=>Val.str (chS c)) (bx z).cps.toList (fun _=>true) (fun c=>.bl (decide (c∈FG.cps.toList))) ?_ (by rw [str_len]; omega) ?_ ?_
    .walk_at"v";exact⟨rfl,rfl⟩
    .intro c hc;refine⟨_,rfl,?_⟩;walk_at"v";refine⟨rfl,rfl,fun _=>?_⟩;walk_at"v";exact lN ⟨rfl,rfl⟩
    rw [List.filter_eq_self.mpr fun _ _=>rfl];walk_at"v";refine jf ?_;walk_at"v";exact⟨rfl,rfl⟩
 .rw [if_pos e] at q;walk_at"v";exact q
 .rw [if_neg (by rw [e]; decide)] at q;obtain⟨⟨n9,hn9⟩,hl,h0⟩:=nM e;walk_at"v";refine eg (b:=iq z) ?_ (fun e=>?_) (fun e=>?_)
  .unfold iq;walk_at"v";refine o_ix0 (by omega) h0 ?_;walk_at"v"
   by_cases e1:chS ((bx z).cps.toList.headD 0)=("0" : Str)
   .rw [if_pos (decide_eq_true e1),decide_eq_true e1,Bool.true_and];walk_at"v";exact⟨rfl,rfl⟩
   .rw [if_neg (by rw [decide_eq_false e1]; decide)];exact⟨by rw [decide_eq_false e1,Bool.false_and],rfl⟩
  .rw [if_pos e] at q;walk_at"v";exact q
  .rw [if_neg (by rw [e]; decide),hn9] at q;walk_at"v";refine pz hn9 hl ?_;walk_at"v";exact q
theorem gu{lo hi:Int}(hz:z.length<=160000)(q:QV (onI ((aF z).filter fun i=>decide (lo<=i/\i<=hi))) (hT c0 s l g L)):wpR (ao tab (n + 1) 4 [.str z,.int lo,.int hi] (hT c0 s l g L)) QV:=by
 refine jL ?_;unfold cK;refine kr ?_;refine s_asg ?_;refine k7 (fun v h=>v = .str (bx z)/\h=hT c0 s l g L) ?_ ?_
 .refine mM (b:=decide (cutS z none (some 1)=("-" : Str))) ?_ (fun e=>?_) (fun e=>?_)
  .walk_at"v";refine eV (by omega) ?_;walk_at"v";exact⟨rfl,rfl⟩
  .walk_at"v";refine eV (by omega) ?_;unfold bx;rw [if_pos e];exact⟨rfl,rfl⟩
  .walk_at"v";unfold bx;rw [if_neg (by rw [e]; decide)];exact⟨rfl,rfl⟩
 rintro _ _ ⟨rfl,rfl⟩;have hfl:(bx z).length<=160000:=by
  exact Nat.le_trans oh hz
 walk_at"v";unfold aF at q;refine eg (b:=iB z) ?_ (fun e=>?_) (fun e=>?_)
 .unfold iB;walk_at"v"
  by_cases e1:bx z=("" : Str)
  .rw [if_pos (decide_eq_true e1)];exact⟨by rw [decide_eq_true e1]; rfl,rfl⟩
  .rw [if_neg (by rw [decide_eq_false e1]; decide)];walk_at"v";rw [decide_eq_false e1,Bool.false_or];refine gR (by omega) ?_;walk_at"v"
   by_cases e2:10 < (bx z).length
   .rw [if_pos (decide_eq_true (by omega))];exact⟨by rw [decide_eq_true e2]; rfl,rfl⟩
   .rw [if_neg (fun z9=>e2 (by have:=of_decide_eq_true z9; omega))];rw [decide_eq_false e2,Bool.false_or];walk_at"v";refine eF (fun c=>Val.str (chS c)) (bx z).cps.toList (fun _=>true) (fun c=>.bl (decide (c∈FG.cps.toList))) ?_ (by rw [str_len]; omega) ?_ ?_
    .walk_at"v";exact⟨rfl,rfl⟩
    .intro c hc;refine⟨_,rfl,?_⟩;walk_at"v";refine⟨rfl,rfl,fun _=>?_⟩;walk_at"v";exact lN ⟨rfl,rfl⟩
    rw [List.filter_eq_self.mpr fun _ _=>rfl];walk_at"v";refine jf ?_;walk_at"v";exact⟨rfl,rfl⟩
 .rw [if_pos e] at q;walk_at"v";exact q
 .rw [if_neg (by rw [e]; decide)] at q;obtain⟨⟨n9,hn9⟩,hl,h0⟩:=nM e;walk_at"v";refine eg (b:=(iq z || !decide (lo<=n9/\n9<=hi))) ?_ (fun e=>?_) (fun e=>?_)
  .unfold iq;walk_at"v";refine o_ix0 (by omega) h0 ?_;walk_at"v";have tl:wpR (de (mB (mCh gN gN (ah 1) (mC i5 (ae (ah 0) ar)) (ah 2))) [some (.str z),some (.int lo),some (.int hi),some (.str (bx z)),none] (hT c0 s l g L)) fun c h'=>c = !decide (lo<=n9/\n9<=hi)/\h'=hT c0 s l g L:=by
    walk_at"v";refine pz hn9 hl ?_;walk_at"v"
    by_cases h1:lo<=n9
    .rw [if_pos (decide_eq_true h1)];walk_at"v"
     by_cases h2:n9<=hi
     .rw [decide_eq_true h2,decide_eq_true (show lo<=n9/\n9<=hi from⟨h1,h2⟩)];exact⟨rfl,rfl⟩
     .rw [decide_eq_false h2,decide_eq_false (fun z=>h2 z.2)];exact⟨rfl,rfl⟩
    .rw [if_neg (by rw [decide_eq_false h1]; decide),decide_eq_false (fun z=>h1 z.1)];walk_at"v";exact⟨rfl,rfl⟩
   by_cases e1:chS ((bx z).cps.toList.headD 0)=("0" : Str)
   .rw [if_pos (decide_eq_true e1),decide_eq_true e1,Bool.true_and];walk_at"v"
    by_cases e2:z=("0" : Str)
    .rw [if_neg (by rw [decide_eq_true e2]; decide),decide_eq_true e2];exact tl
    .rw [if_pos (by rw [decide_eq_false e2]; rfl),decide_eq_false e2];exact⟨rfl,rfl⟩
   .rw [if_neg (by rw [decide_eq_false e1]; decide),decide_eq_false e1,Bool.false_and,Bool.false_or];exact tl
  .have e3:((if iq z=true then none else PySem.intText? z).filter fun i=>decide (lo<=i/\i<=hi))=none:=by
    rw [hn9]
    cases hw:iq z with
    | true=>rfl
    | false =>
     rw [hw,Bool.false_or] at e;rw [if_neg (by decide)];have e:decide (lo<=n9/\n9<=hi)=false:=Bool.not_eq_true' _ |>.mp e
     show(if decide (lo<=n9/\n9<=hi)=true then some n9 else none)=none;rw [e]; rfl
   rw [e3] at q;walk_at"v";exact q
  .obtain⟨ew,er⟩:=Bool.or_eq_false_iff.mp e;have er:decide (lo<=n9/\n9<=hi)=true:=Bool.not_eq_false' _ |>.mp er
   have e3:((if iq z=true then none else PySem.intText? z).filter fun i=>decide (lo<=i/\i<=hi))=some n9:=by
    rw [hn9,ew,if_neg (by decide)];show(if decide (lo<=n9/\n9<=hi)=true then some n9 else none)=_;rw [er]; rfl
   rw [e3] at q;walk_at"v";refine pz hn9 hl ?_;walk_at"v";exact q
end
def sz(ps:List Str):Nat:=(ps.map (·.length)).sum + ps.length
theorem hW:sz []=0:=rfl
theorem ck{a:Str}{r:List Str}:sz (a :: r)=a.length + 1 + sz r:=by
 unfold sz
 simp only [List.map_cons,List.sum_cons,List.length_cons]
 omega
theorem f7:∀ {a b:List Str},sz (a ++ b)=sz a + sz b
 | [],b=>by rw [List.nil_append,hW,Nat.zero_add]
 | x :: r,b=>by rw [List.cons_append,ck,ck,f7]; omega
theorem tL{ps:List Str}(k:Nat):sz (ps.take k) + sz (ps.drop k)=sz ps:=by
 rw [<- f7,List.take_append_drop]
theorem sz_dr:∀ {ps:List Str} {k:Nat},sz (ps.drop (k + 1))<=sz (ps.drop k)
 | [],k=>by simp
 | a :: r,0=>by
  rw [List.drop_zero,show(a :: r).drop (0 + 1)=r from rfl,ck];omega
 | a :: r,k + 1=>by
  rw [List.drop_succ_cons,List.drop_succ_cons];exact sz_dr
theorem hY{ps:List Str}:ps.length<=sz ps:=by unfold sz; omega
theorem f6:∀ {ps:List Str} {p:Str},p∈ps->p.length + 1<=sz ps
 | [],_,h=>by cases h
 | a :: r,p,h=>by
  rw [ck];rcases List.mem_cons.mp h with rfl | h
  .omega
  .have:=f6 h;omega
theorem qe:∀ {ps:List Str} {y:Str},y.length=1->sz ps<=(Str.join y ps).length + 1
 | [],_,_=>by rw [hW]; omega
 | [a],y,hy=>by
  rw [ck,hW];exact Nat.le_refl _
 | a :: b :: ps,y,hy=>by
  have e:Str.join y (a :: b :: ps)=a ++ y ++ Str.join y (b :: ps):=rfl;have hl:(a ++ y ++ Str.join y (b :: ps)).length=a.length + y.length + (Str.join y (b :: ps)).length:=by
   rw [TL.len_tl,TL.tl_append,TL.tl_append,List.length_append,List.length_append,<- TL.len_tl,<- TL.len_tl,<- TL.len_tl]
  have:=qe (ps:=b :: ps) hy;rw [ck,e,hl];omega
theorem eN{z y:Str}(hy:y.length=1):sz (Txt.split z y)<=z.length + 1:=by
 have e:=qe (ps:=Txt.split z y) hy;rw [PySem.StrLaws.join_split] at e;exact e
theorem lW{ps:List Str}{y:Str}(hy:y.length=1):(Txt.join y ps).length<=sz ps:=by
 rw [TL.join_eq];have:=PySem.StrLaws.join_length_le y ps;unfold sz;rw [hy] at this;omega
theorem nl1:(Str.ofString "\n").length=1:=by decide +kernel
theorem bl1:(Str.ofString " ").length=1:=by decide +kernel
theorem tM{ps one:List Str}{k:Nat}:sz (ps.take k ++ one ++ ps.drop (k + 1))<=sz ps + sz one:=by
 rw [f7,f7];have:=tL (ps:=ps) k;have:=sz_dr (ps:=ps) (k:=k);omega
theorem sz_ins{ps one:List Str}{k:Nat}:sz (ps.take k ++ one ++ ps.drop k)=sz ps + sz one:=by
 rw [f7,f7];have:=tL (ps:=ps) k;omega
def inB(lo hi:Int)(o:Option Int):Option Int:=o.filter fun i=>decide (lo<=i/\i<=hi)
abbrev fR:List (Str×List Int):=[("tapped",[2]),("began",[0]),("moved",[2,4]),("ended",[0]),("flung",[2]),("off",[0]),("shelf",[3]),("over",[2]),("guess",[0]),("back",[0])]
def bb(w:Str):List Int:=(fR.lookup w).getD []
abbrev LT:Str:="abcdefghijklmnopqrstuvwxyz"
def dO(w:Str):Bool:=decide (1<=w.length/\w.length<=8) && (w.cps.toList.map fun c=>decide (c∈LT.cps.toList)).all id
def hL:List (Option Int)->Option (List Int)
 | []=>some []
 | some i :: r=>(hL r).map (i :: ·)
 | none :: _=>none
theorem cY:∀ {os:List (Option Int)} {is:List Int},hL os=some is->os=is.map some
 | [],_,h=>by cases h; rfl
 | some i :: r,is,h=>by
  have h:(hL r).map (i :: ·)=some is:=h;obtain⟨l,h1,h2⟩:=Option.map_eq_some_iff.mp h;subst h2;rw [List.map_cons,<- cY h1]
 | none :: r,_,h=>by cases h
theorem iD:∀ {os:List (Option Int)},hL os=none->os.any (·.isNone)=true
 | [],h=>by cases h
 | some i :: r,h=>by
  have h:(hL r).map (i :: ·)=none:=h;rw [List.any_cons,iD (Option.map_eq_none_iff.mp h),Bool.or_true]
 | none :: r,h=>rfl
def shN(d:Str):Nat:=if decide (d=("shelf" : Str))=true then 1 else 0
abbrev Tr:=Int×Str×Int×Str×List Str×List Int
def trV(t:Tr):Val:=.tup [.int t.1,.str t.2.1,.int t.2.2.1,.str t.2.2.2.1,.tup (t.2.2.2.2.1.map .str ++ t.2.2.2.2.2.map .int)]
def onR:Option Tr->Val
 | some t=>trV t
 | none=>.non
theorem eG{t:Tr}:(trV t).nl=true:=by
 have h:Val.nls (t.2.2.2.2.1.map Val.str ++ t.2.2.2.2.2.map Val.int)=true:=by
  rw [gS,cJ fun _=>rfl,cJ fun _=>rfl]; rfl
 show(true && (true && (true && (true && (Val.nls (t.2.2.2.2.1.map Val.str ++ t.2.2.2.2.2.map Val.int) && true)))))=true;rw [h]; rfl
theorem onR_nl{o:Option Tr}:(onR o).nl=true:=by
 cases o with
 | none=>rfl
 | some t=>exact eG
def ep:List Str->Option Tr
 | a :: b :: c :: d :: r =>
  if decide ((r.length:Int)∈bb d)=true then
  if dO b=true then
  match inB 0 1000000000 (aF a),inB 0 9999999999 (aF c),hL ((r.drop (shN d)).map aF) with
  | some m,some k,some is=>if (r.take (shN d)).all dO=true then some (m,b,k,d,r.take (shN d),is) else none
  | _,_,_=>none
  else none else none
 | _=>none
def cS(row:Str):Option Tr:=ep (Txt.split row " ")
section
variable{QV:Val->Hh->Prop}{c0:Val}{s l:Int}{g:GG}{L:List Cel}{n:Nat}{h:Hh}
theorem nY{o:Option Int}{lo hi:Int}(q:QV (.bl (inB lo hi o).isSome) (hT c0 s l g L)):wpR (ao tab (n + 1) 12 [onI o,.int lo,.int hi] (hT c0 s l g L)) QV:=by
 refine n5 ?_;unfold d5
 cases o with
 | none =>
  unfold onI;walk_at"v";exact q
 | some i =>
  unfold onI;have e:(inB lo hi (some i)).isSome=decide (lo<=i/\i<=hi):=by
   unfold inB;show(if decide (lo<=i/\i<=hi)=true then some i else none).isSome=_
   split <;> rename_i h9
   .exact h9.symm
   .exact(Bool.not_eq_true _ |>.mp h9).symm
  rw [e] at q;walk_at"v"
  by_cases h1:lo<=i
  .rw [if_pos (decide_eq_true h1)];walk_at"v"
   by_cases h2:i<=hi
   .rw [decide_eq_true h2];rw [decide_eq_true (show lo<=i/\i<=hi from⟨h1,h2⟩)] at q;exact q
   .rw [decide_eq_false h2];rw [decide_eq_false (fun z=>h2 z.2)] at q;exact q
  .rw [if_neg (by rw [decide_eq_false h1]; decide)];rw [decide_eq_false (fun z=>h1 z.1)] at q;walk_at"v";exact q
theorem jJ{w:Str}(hw:w.length<=160000)(q:QV (.bl (dO w)) (hT c0 s l g L)):wpR (ao tab (n + 1) 14 [.str w] (hT c0 s l g L)) QV:=by
 refine pH ?_;unfold fL;unfold dO at q;walk_at"v";refine gR (by omega) ?_;walk_at"v"
 by_cases h1:1<=w.length
 .rw [if_pos (decide_eq_true (by omega))];walk_at"v"
  by_cases h2:w.length<=8
  .rw [if_pos (decide_eq_true (by omega))];rw [decide_eq_true ⟨h1,h2⟩,Bool.true_and] at q;walk_at"v";refine eF (fun c=>Val.str (chS c)) w.cps.toList (fun _=>true) (fun c=>.bl (decide (c∈LT.cps.toList))) ?_ (by rw [str_len]; omega) ?_ ?_
   .walk_at"v";exact⟨rfl,rfl⟩
   .intro c hc;refine⟨_,rfl,?_⟩;walk_at"v";refine⟨rfl,rfl,fun _=>?_⟩;walk_at"v";exact lN ⟨rfl,rfl⟩
   rw [List.filter_eq_self.mpr fun _ _=>rfl];walk_at"v";refine jf ?_;walk_at"v";exact q
  .rw [show decide ((w.length:Int)<=8)=false from decide_eq_false (by omega),if_neg (by decide)];rw [decide_eq_false (fun z=>h2 z.2),Bool.false_and] at q;walk_at"v";exact q
 .rw [show decide (1<=(w.length:Int))=false from decide_eq_false (by omega),if_neg (by decide)];rw [decide_eq_false (fun z=>h1 z.1),Bool.false_and] at q;walk_at"v";exact q
theorem nR{w:Str}(hw:w.length<=160000)(q:QV (.bl (dO w)) (hT c0 s l g L)):wpR (ao tab (n + 1) 5 [.str w] (hT c0 s l g L)) QV:=by
 refine mh ?_;unfold du;unfold dO at q;walk_at"v";refine gR (by omega) ?_;walk_at"v"
 by_cases h1:1<=w.length
 .rw [if_pos (decide_eq_true (by omega))];walk_at"v"
  by_cases h2:w.length<=8
  .rw [if_pos (decide_eq_true (by omega))];rw [decide_eq_true ⟨h1,h2⟩,Bool.true_and] at q;walk_at"v";refine eF (fun c=>Val.str (chS c)) w.cps.toList (fun _=>true) (fun c=>.bl (decide (c∈LT.cps.toList))) ?_ (by rw [str_len]; omega) ?_ ?_
   .walk_at"v";exact⟨rfl,rfl⟩
   .intro c hc;refine⟨_,rfl,?_⟩;walk_at"v";refine⟨rfl,rfl,fun _=>?_⟩;walk_at"v";exact lN ⟨rfl,rfl⟩
   rw [List.filter_eq_self.mpr fun _ _=>rfl];walk_at"v";refine jf ?_;walk_at"v";exact q
  .rw [show decide ((w.length:Int)<=8)=false from decide_eq_false (by omega),if_neg (by decide)];rw [decide_eq_false (fun z=>h2 z.2),Bool.false_and] at q;walk_at"v";exact q
 .rw [show decide (1<=(w.length:Int))=false from decide_eq_false (by omega),if_neg (by decide)];rw [decide_eq_false (fun z=>h1 z.1),Bool.false_and] at q;walk_at"v";exact q
theorem gX:∀ {parts:List Str} {y p:Str},p∈parts->p.length<=(Str.join y parts).length
 | [],_,_,h=>by cases h
 | [a],y,p,h=>by
  rw [List.mem_singleton.mp h];exact Nat.le_refl _
 | a :: b :: ps,y,p,h=>by
  have e:Str.join y (a :: b :: ps)=a ++ y ++ Str.join y (b :: ps):=rfl;have hl:(a ++ y ++ Str.join y (b :: ps)).length=a.length + y.length + (Str.join y (b :: ps)).length:=by
   rw [TL.len_tl,TL.tl_append,TL.tl_append,List.length_append,List.length_append,<- TL.len_tl,<- TL.len_tl,<- TL.len_tl]
  rw [e,hl];rcases List.mem_cons.mp h with rfl | h
  .omega
  .have:=gX (y:=y) h;omega
theorem split_len{z y p:Str}(h:p∈Txt.split z y):p.length<=z.length:=by
 have e:=gX (y:=y) h;rw [PySem.StrLaws.join_split] at e;exact e
theorem nK{xs:List Val}(fa:xs.all cC=true)(q:QV (.bl (xs.any fun z=>eqM z .non)) h):wpR (gp h .non (.lst xs)) QV:=wpR.eq (in_seq false (.inl rfl) rfl fa rfl) q
theorem qS{os:List (Option Int)}:(os.map onI).all cC=true:=by
 induction os with
 | nil=>rfl
 | cons o r ih=>rw [List.map_cons,List.all_cons,ih,Bool.and_true]; cases o <;> rfl
theorem any_on{os:List (Option Int)}:((os.map onI).any fun z=>eqM z .non)=os.any (·.isNone):=by
 induction os with
 | nil=>rfl
 | cons o r ih=>rw [List.map_cons,List.any_cons,List.any_cons,ih]; cases o <;> rfl
theorem flat_str{ws:List Str}:(ws.map Val.str).all cC=true:=by
 induction ws with
 | nil=>rfl
 | cons o r ih=>rw [List.map_cons,List.all_cons,ih]; rfl
theorem any_str{ws:List Str}:((ws.map Val.str).any fun z=>eqM z .non)=false:=by
 induction ws with
 | nil=>rfl
 | cons o r ih=>rw [List.map_cons,List.any_cons,ih]; rfl
theorem o_ninC{d:Str}{i:Int}(q:QV (.bl (!decide (i∈bb d))) h):wpR (fF h (.int i) (match fR.lookup d with | some is=>.kt (is.map Val.int) | none=>.tup [])) QV:=by
 unfold bb at q
 cases e:fR.lookup d with
 | some is =>
  rw [e] at q;exact pw is rfl (.inr (.inr rfl)) q
 | none =>
  rw [e] at q;exact pw [] rfl (.inr (.inl rfl)) q
theorem o_sl4{a b c d:Val}{R:List Val}{k:Nat}{i j:Int}(ei:i=4)(ej:j=4 + (k:Int))(hk:k<=R.length)(q:QV (.lst (R.take k)) h):wpR (j4 h (.lst (a :: b :: c :: d :: R)) (some i) (some j)) QV:=by
 subst ei ej;refine wpR.eq (?_:_=Res.ok (Val.lst (R.take k)) h) q;show Res.ok (Val.lst (e6 (a :: b :: c :: d :: R) (some ((4:Nat):Int)) (some (4 + (k:Int))))) h=_;rw [show(4 + (k:Int))=((4 + k:Nat):Int) by omega];unfold e6;rw [HT.sIx_nat,HT.sIx_nat,show min 4 (a :: b :: c :: d :: R).length=4 by simp only [List.length_cons]; omega,show min (4 + k) (a :: b :: c :: d :: R).length=4 + k by simp only [List.length_cons]; omega,Nat.add_sub_cancel_left]
 rfl
theorem shI{d:Str}:(if decide (d=Str.ofString "shelf")=true then(1:Int) else 0)=(shN d:Nat):=by
 unfold shN
 split <;> rfl
theorem sh_le{d:Str}{r:List Str}(h:decide ((r.length:Int)∈bb d)=true):shN d<=r.length:=by
 unfold shN
 split
 .rename_i e;have e:=of_decide_eq_true e;subst e;have h:=of_decide_eq_true h;have e3:bb ("shelf" : Str)=[3]:=by decide +kernel
  rw [e3] at h;have:=List.mem_singleton.mp h;omega
 .exact Nat.zero_le _
theorem inB_v{lo hi:Int}{o:Option Int}{x:Int}(h:inB lo hi o=some x):o=some x:=(Option.filter_eq_some_iff.mp h).1
theorem f5{row:Str}(hr:row.length<=150000)(q:QV (onR (cS row)) (hT c0 s l g L)):wpR (ao tab (n + 4) 16 [.str row] (hT c0 s l g L)) QV:=by
 refine pF ?_;unfold fK;walk_at"v";refine⟨rfl,?_⟩;walk_at"v";refine dS (a:=row) (b:=" ") (by decide +kernel) (by omega) ?_;unfold cS at q;have hls:∀ p∈Txt.split row " ",p.length<=160000:=fun p hp=>by have:=split_len hp; omega
 have hll:(Txt.split row " ").length<=150001:=by have h1:=@hY (Txt.split row " "); have h2:=eN (z:=row) bl1; omega
 generalize Txt.split row " " = ws at *;walk_at"v"
 by_cases h4:ws.length < 4
 .refine mY ?_ ?_
  .walk_at"v";rw [List.length_map,if_pos (decide_eq_true (by omega))];exact⟨rfl,rfl⟩
  have e:ep ws=none:=by
   match ws,h4 with
   | [],_=>rfl
   | [_],_=>rfl
   | [_,_],_=>rfl
   | [_,_,_],_=>rfl
   | _ :: _ :: _ :: _ :: _,h=>exact absurd h (by simp only [List.length_cons]; omega)
  rw [e] at q;walk_at"v";exact q
 obtain⟨a,b,c,d,r,rfl⟩:∃ a b c d r,ws=a :: b :: c :: d :: r:=by
  match ws,h4 with
  | [],h=>exact absurd (by decide) h
  | [_],h=>exact absurd (by simp) h
  | [_,_],h=>exact absurd (by simp) h
  | [_,_,_],h=>exact absurd (by simp) h
  | a :: b :: c :: d :: r,_=>exact⟨a,b,c,d,r,rfl⟩
 rw [show((a :: b :: c :: d :: r).map Val.str)=Val.str a :: .str b :: .str c :: .str d :: r.map Val.str from rfl];refine eg (b:=!decide ((r.length:Int)∈bb d)) ?_ (fun e=>?_) (fun e=>?_)
 .walk_at"v";rw [if_neg (by rw [decide_eq_false (by simp only [List.length_cons]; omega)]; decide)];walk_at"v";refine w_getKD ?_;walk_at"v";refine⟨d,rfl,?_⟩;walk_at"v";rw [show(((Val.str a :: Val.str b :: Val.str c :: Val.str d :: List.map Val.str r).length:Int) - 4)=(r.length:Nat) by simp only [List.length_cons,List.length_map]; omega];refine o_ninC ?_;exact⟨rfl,rfl⟩
 .have e:=Bool.not_eq_true' _ |>.mp e
  have e2:ep (a :: b :: c :: d :: r)=none:=by unfold ep; dsimp only; rw [e,if_neg (by decide)]
  rw [e2] at q;walk_at"v";exact q
 .have e:=Bool.not_eq_false' _ |>.mp e
  walk_at"v";refine dU (hls a (by simp)) ?_;walk_at"v";refine dU (hls c (by simp)) ?_;walk_at"v";rw [shI];have hsh:=sh_le e;refine o_sl4 rfl rfl (by rw [List.length_map]; exact hsh) ?_;walk_at"v";refine eF (fun w:Str=>.str w) (r.drop (shN d)) (fun _=>true) (fun w=>onI (aF w)) ?_ (by rw [List.length_drop]; simp only [List.length_cons] at hll; omega) ?_ ?_
  .walk_at"v";refine⟨?_,rfl⟩;rw [Nat.add_comm 4 (shN d),List.map_drop]
   rfl
  .intro w hw;refine⟨_,rfl,?_⟩;walk_at"v";refine⟨rfl,rfl,fun _=>?_⟩;walk_at"v";refine dU (hls w (by have:=List.mem_of_mem_drop hw; simp [this])) ?_;exact⟨rfl,rfl⟩
  rw [List.filter_eq_self.mpr fun _ _=>rfl];walk_at"v";refine da (by simp only [List.length_take,List.length_map,List.length_drop]; simp only [List.length_cons] at hll; omega) ?_;walk_at"v";refine eg (b:=!((inB 0 1000000000 (aF a)).isSome && (dO b && ((inB 0 9999999999 (aF c)).isSome && (hL ((r.drop (shN d)).map aF)).isSome)))) ?_ (fun e9=>?_) (fun e9=>?_)
  .walk_at"v";refine mf ?_;unfold dt;walk_at"v";refine nY ?_;walk_at"v"
   cases (inB 0 1000000000 (aF a)).isSome with
   | false =>
    walk_at"v";exact⟨rfl,rfl⟩
   | true =>
    walk_at"v";refine jJ (hls b (by simp)) ?_;walk_at"v"
    cases dO b with
    | false =>
     walk_at"v";exact⟨rfl,rfl⟩
    | true =>
     walk_at"v"
     cases hC:aF c with
     | none =>
      walk_at"v";exact⟨rfl,rfl⟩
     | some k =>
      have hk:=jE hC;walk_at"v";rw [show onI (some k)=Val.int k from rfl,if_neg (by intro z; cases z)];walk_at"v"
      by_cases hk0:k < 0
      .have hn:inB 0 9999999999 (some k)=none:=by
        unfold inB;rw [Option.filter_some,if_neg];intro z;have:=of_decide_eq_true z;omega
       rw [if_pos (decide_eq_true hk0),hn];exact⟨rfl,rfl⟩
      .have hn:inB 0 9999999999 (some k)=some k:=by
        unfold inB;rw [Option.filter_some,if_pos (decide_eq_true ⟨by omega,by omega⟩)]
       rw [if_neg (by rw [decide_eq_false hk0]; decide),hn];walk_at"v";have em:((r.drop (shN d)).map fun w=>onI (aF w))=((r.drop (shN d)).map aF).map onI:=by rw [List.map_map]; rfl
       rw [em,<- List.map_take];refine nK (by rw [List.all_append,flat_str,qS]; rfl) ?_;rw [List.any_append,any_str,any_on,Bool.false_or];refine⟨?_,rfl⟩
       cases hD:hL ((r.drop (shN d)).map aF) with
       | none=>exact iD hD
       | some is =>
        rw [cY hD];show(List.map some is).any (fun x=>x.isNone)=false;rw [List.any_map];exact List.any_eq_false.mpr fun x _=>by simp
  .have e9:=Bool.not_eq_true' _ |>.mp e9
   have e2:ep (a :: b :: c :: d :: r)=none:=by
    unfold ep;dsimp only;rw [if_pos e]
    cases hb:dO b with
    | false=>rfl
    | true =>
     rw [if_pos rfl]
     cases hA:inB 0 1000000000 (aF a) with
     | none=>rfl
     | some m =>
      cases hC:inB 0 9999999999 (aF c) with
      | none=>rfl
      | some k =>
       cases hD:hL ((r.drop (shN d)).map aF) with
       | none=>rfl
       | some is=>rw [hA,hb,hC,hD] at e9; cases e9
   rw [e2] at q;walk_at"v";exact q
  .have e9:=Bool.not_eq_false' _ |>.mp e9
   obtain⟨e1,e9⟩:=Bool.and_eq_true_iff.mp e9;obtain⟨e2,e9⟩:=Bool.and_eq_true_iff.mp e9;obtain⟨e3,e4⟩:=Bool.and_eq_true_iff.mp e9;obtain⟨m,hA⟩:=Option.isSome_iff_exists.mp e1;obtain⟨k,hC⟩:=Option.isSome_iff_exists.mp e3;obtain⟨is,hD⟩:=Option.isSome_iff_exists.mp e4;have hT9:ep (a :: b :: c :: d :: r)=if (r.take (shN d)).all dO=true then some (m,b,k,d,r.take (shN d),is) else none:=by
    unfold ep;dsimp only;rw [if_pos e,if_pos e2,hA,hC,hD]
   rw [hT9] at q;rw [inB_v hA,inB_v hC];have hD2:=cY hD;have hD3:((r.drop (shN d)).map fun w=>onI (aF w))=is.map Val.int:=by
    have:((r.drop (shN d)).map fun w=>onI (aF w))=((r.drop (shN d)).map aF).map onI:=by rw [List.map_map]; rfl
    rw [this,hD2,List.map_map]
    rfl
   rw [hD3];walk_at"v"
   by_cases hs:d=("shelf" : Str)
   .subst hs;have h1:shN ("shelf" : Str)=1:=by decide +kernel
    rw [h1] at q ⊢;have h3:(r.length:Int)∈bb ("shelf" : Str):=of_decide_eq_true e;have e3:bb ("shelf" : Str)=[3]:=by decide +kernel
    rw [e3] at h3;have h3:=List.mem_singleton.mp h3;obtain⟨x,r9,rfl⟩:∃ x r9,r=x :: r9:=by
     cases r with
     | nil=>exact absurd h3 (by decide)
     | cons x r9=>exact⟨x,r9,rfl⟩
    rw [show List.take 1 (List.map Val.str (x :: r9))=[Val.str x] from rfl];rw [show List.take 1 (x :: r9)=[x] from rfl] at q;refine eg (b:=!dO x) ?_ (fun e=>?_) (fun e=>?_)
    .walk_at"v";rw [if_pos (by decide)];rw [show([Val.str x] ++ is.map Val.int)=Val.str x :: is.map Val.int from rfl];walk_at"v";refine jJ (hls x (by simp)) ?_;walk_at"v";exact⟨rfl,rfl⟩
    .have e:=Bool.not_eq_true' _ |>.mp e
     rw [List.all_cons,e,Bool.false_and,if_neg (by decide)] at q;walk_at"v";exact q
    .have e:=Bool.not_eq_false' _ |>.mp e
     rw [List.all_cons,e,List.all_nil,Bool.and_true,if_pos rfl] at q;walk_at"v";exact eE (v:=trV (m,b,k,("shelf" : Str),[x],is)) eG q
   .have h0:shN d=0:=by unfold shN; rw [if_neg (by rw [decide_eq_false hs]; decide)]
    rw [h0] at q ⊢;rw [show List.take 0 (List.map Val.str r)=[] from rfl];rw [show(List.take 0 r).all dO=true from rfl,if_pos rfl,show List.take 0 r=[] from rfl] at q;refine iM (by walk_at"v"; exact⟨rfl,rfl⟩) ?_;walk_at"v";exact eE (v:=trV (m,b,k,d,[],is)) eG q
end
section
variable{QV:Val->Hh->Prop}{c0:Val}{s l:Int}{g:GG}{L:List Cel}{n:Nat}{h:Hh}
def cntK:List (Key×Val):=fR.map fun q=>(.inr q.1,.lst (q.2.map .int))
theorem iz(q:∀ g' k,(hT c0 s l g' L).get (.glo 70 k)=some (.dct cntK)->QV (.ref (.glo 70 k)) (hT c0 s l g' L)):wpR (ao tab (n + 1) 3 [] (hT c0 s l g L)) QV:=by
 refine jM ?_;unfold cL;walk_at"v";refine sM (by rfl) ?_;walk_at"v";refine⟨o_tyD (fJ (i:=70) cx),?_⟩;walk_at"v";refine uI (fJ (i:=70) cx) ?_ ?_ ?_
 .rfl
 .decide +kernel
 rw [hT_setG];walk_at"v";refine q _ _ (fJ (i:=70) ?_);rw [gat_setE cx]
 congr 2
theorem qY:∀ {T:List (Str×List Int)} {d:Str},(cD (T.map fun q=>((.inr q.1:Key),Val.lst (q.2.map .int))) (.inr d)).getD (.lst []) = .lst (((T.lookup d).getD []).map .int)
 | [],_=>rfl
 | (w,is) :: r,d=>by
  rw [List.map_cons,List.lookup_cons];unfold cD
  by_cases e:w=d
  .subst e;rw [if_pos rfl,beq_self_eq_true]
   rfl
  .rw [if_neg (fun z=>e (Sum.inr.inj z)),show(d == w)=false from beq_eq_false_iff_ne.mpr fun z=>e z.symm];exact qY
theorem flt_c{z:Str}:(aF z).filter (fun i=>decide (0<=i/\i<=10000000000))=inB 0 9999999999 (aF z):=by
 unfold inB
 cases e:aF z with
 | none=>rfl
 | some i =>
  have hb:=jE e;rw [Option.filter_some,Option.filter_some];have:decide (0<=i/\i<=10000000000)=decide (0<=i/\i<=9999999999):=by
   by_cases h0:0<=i
   .rw [decide_eq_true ⟨h0,by omega⟩,decide_eq_true ⟨h0,hb.2⟩]
   .rw [decide_eq_false fun z=>h0 z.1,decide_eq_false fun z=>h0 z.1]
  rw [this]
theorem flt_m{z:Str}:(aF z).filter (fun i=>decide (-10000000000<=i/\i<=10000000000))=aF z:=by
 cases e:aF z with
 | none=>rfl
 | some i =>
  have hb:=jE e;rw [Option.filter_some,if_pos (decide_eq_true ⟨by omega,by omega⟩)]
theorem rM{row:Str}(hr:row.length<=150000)(q:∀ g',QV (onR (cS row)) (hT c0 s l g' L)):wpR (ao tab (n + 3) 6 [.str row] (hT c0 s l g L)) QV:=by
 refine pI ?_;unfold fM;walk_at"v";refine⟨rfl,?_⟩;walk_at"v";refine dS (a:=row) (b:=" ") (by decide +kernel) (by omega) ?_;unfold cS at q;have hls:∀ p∈Txt.split row " ",p.length<=160000:=fun p hp=>by have:=split_len hp; omega
 have hll:(Txt.split row " ").length<=150001:=by have h1:=@hY (Txt.split row " "); have h2:=eN (z:=row) bl1; omega
 generalize Txt.split row " " = ws at *;walk_at"v";refine iz fun g2 kk hg=>?_;walk_at"v"
 by_cases h4:ws.length < 4
 .refine mY ?_ ?_
  .walk_at"v";rw [List.length_map,if_pos (decide_eq_true (by omega))];exact⟨rfl,rfl⟩
  have e:ep ws=none:=by
   match ws,h4 with
   | [],_=>rfl
   | [_],_=>rfl
   | [_,_],_=>rfl
   | [_,_,_],_=>rfl
   | _ :: _ :: _ :: _ :: _,h=>exact absurd h (by simp only [List.length_cons]; omega)
  rw [e] at q;walk_at"v";exact q _
 obtain⟨a,b,c,d,r,rfl⟩:∃ a b c d r,ws=a :: b :: c :: d :: r:=by
  match ws,h4 with
  | [],h=>exact absurd (by decide) h
  | [_],h=>exact absurd (by simp) h
  | [_,_],h=>exact absurd (by simp) h
  | [_,_,_],h=>exact absurd (by simp) h
  | a :: b :: c :: d :: r,_=>exact⟨a,b,c,d,r,rfl⟩
 rw [show((a :: b :: c :: d :: r).map Val.str)=Val.str a :: .str b :: .str c :: .str d :: r.map Val.str from rfl];refine eg (b:=!(decide ((r.length:Int)∈bb d) && dO b)) ?_ (fun e=>?_) (fun e=>?_)
 .walk_at"v";rw [if_neg (by rw [decide_eq_false (by simp only [List.length_cons]; omega)]; decide)];walk_at"v";refine w_dget2 ?_;walk_at"v";refine⟨rO hg,?_⟩;walk_at"v";refine⟨_,cntK,.inr d,rfl,hg,rfl,?_⟩;rw [show((cD cntK (.inr d)).getD (Val.lst [])) = .lst ((bb d).map .int) from qY];rw [show(((Val.str a :: Val.str b :: Val.str c :: Val.str d :: List.map Val.str r).length:Int) - 4)=(r.length:Nat) by simp only [List.length_cons,List.length_map]; omega];refine pw (bb d) rfl (.inl rfl) ?_;walk_at"v"
  cases decide ((r.length:Int)∈bb d) with
  | false =>
   walk_at"v";exact⟨rfl,rfl⟩
  | true =>
   walk_at"v";refine nR (hls b (by simp)) ?_;walk_at"v";exact⟨rfl,rfl⟩
 .have e:=Bool.not_eq_true' _ |>.mp e
  have e2:ep (a :: b :: c :: d :: r)=none:=by
   unfold ep; dsimp only
   by_cases e7:decide ((r.length:Int)∈bb d)=true
   .rw [if_pos e7];rw [e7,Bool.true_and] at e;rw [e,if_neg (by decide)]
   .rw [if_neg e7]
  rw [e2] at q;walk_at"v";exact q _
 have e:=Bool.not_eq_false' _ |>.mp e
 obtain⟨e,hb⟩:=Bool.and_eq_true_iff.mp e;walk_at"v";refine gu (hls a (by simp)) ?_;walk_at"v";refine gu (hls c (by simp)) ?_;rw [flt_c];have hA0:(aF a).filter (fun i=>decide (0<=i/\i<=1000000000))=inB 0 1000000000 (aF a):=rfl;rw [hA0];walk_at"v";refine k7 (fun v h=>v = .int (shN d:Nat)/\h=hT c0 s l g2 L) ?_ ?_
 .refine mM (b:=decide (d=("shelf" : Str))) (by walk_at"v"; exact⟨rfl,rfl⟩) (fun e=>?_) (fun e=>?_)
  .walk_at"v";unfold shN;rw [if_pos e];exact⟨rfl,rfl⟩
  .walk_at"v";unfold shN;rw [if_neg (by rw [e]; decide)];exact⟨rfl,rfl⟩
 rintro _ _ ⟨rfl,rfl⟩;have hsh:=sh_le e;walk_at"v";refine eF (fun w:Str=>.str w) (r.drop (shN d)) (fun _=>true) (fun w=>onI (aF w)) ?_ (by rw [List.length_drop]; simp only [List.length_cons] at hll; omega) ?_ ?_
 .walk_at"v";refine⟨?_,rfl⟩;rw [Nat.add_comm 4 (shN d),List.map_drop]
  rfl
 .intro w hw;refine⟨_,rfl,?_⟩;walk_at"v";refine⟨rfl,rfl,fun _=>?_⟩;walk_at"v";refine gu (hls w (by have:=List.mem_of_mem_drop hw; simp [this])) ?_;exact⟨rfl,congrArg onI flt_m⟩
 rw [List.filter_eq_self.mpr fun _ _=>rfl];walk_at"v";have em:((r.drop (shN d)).map fun w=>onI (aF w))=((r.drop (shN d)).map aF).map onI:=by rw [List.map_map]; rfl
 refine eg (b:=!((inB 0 1000000000 (aF a)).isSome && ((inB 0 9999999999 (aF c)).isSome && ((hL ((r.drop (shN d)).map aF)).isSome && (r.take (shN d)).all dO)))) ?_ (fun e9=>?_) (fun e9=>?_)
 .walk_at"v"
  cases inB 0 1000000000 (aF a) with
  | none =>
   rw [show onI none=Val.non from rfl,if_pos (by rfl)];exact⟨rfl,rfl⟩
  | some m =>
   rw [show onI (some m)=Val.int m from rfl,if_neg (by intro z; cases z)];walk_at"v"
   cases inB 0 9999999999 (aF c) with
   | none =>
    rw [show onI none=Val.non from rfl,if_pos (by rfl)];exact⟨rfl,rfl⟩
   | some k =>
    rw [show onI (some k)=Val.int k from rfl,if_neg (by intro z; cases z)];walk_at"v";rw [em];refine nK qS ?_;rw [any_on];walk_at"v"
    cases hD:hL ((r.drop (shN d)).map aF) with
    | none =>
     rw [iD hD,if_pos rfl];exact⟨rfl,rfl⟩
    | some is =>
     have hD2:((r.drop (shN d)).map aF).any (fun x=>x.isNone)=false:=by
      rw [cY hD,List.any_map];exact List.any_eq_false.mpr fun x _=>by simp
     rw [hD2,if_neg (by decide)];walk_at"v"
     by_cases hs:d=("shelf" : Str)
     .subst hs;have h1:shN ("shelf" : Str)=1:=by decide +kernel
      have h3:(r.length:Int)∈bb ("shelf" : Str):=of_decide_eq_true e;have e3:bb ("shelf" : Str)=[3]:=by decide +kernel
      rw [e3] at h3;have h3:=List.mem_singleton.mp h3;obtain⟨x,r9,rfl⟩:∃ x r9,r=x :: r9:=by
       cases r with
       | nil=>exact absurd h3 (by decide)
       | cons x r9=>exact⟨x,r9,rfl⟩
      rw [h1,if_pos (by decide)];rw [show List.take 1 (x :: r9)=[x] from rfl,List.all_cons,List.all_nil,Bool.and_true];rw [show List.map Val.str (x :: r9)=Val.str x :: List.map Val.str r9 from rfl];walk_at"v";refine nR (hls x (by simp)) ?_;walk_at"v";exact⟨rfl,rfl⟩
     .have h0:shN d=0:=by unfold shN; rw [if_neg (by rw [decide_eq_false hs]; decide)]
      rw [h0,if_neg (by decide)];exact⟨rfl,rfl⟩
 .have e9:=Bool.not_eq_true' _ |>.mp e9
  have e2:ep (a :: b :: c :: d :: r)=none:=by
   unfold ep;dsimp only;rw [if_pos e,if_pos hb]
   cases hA:inB 0 1000000000 (aF a) with
   | none=>rfl
   | some m =>
    cases hC:inB 0 9999999999 (aF c) with
    | none=>rfl
    | some k =>
     cases hD:hL ((r.drop (shN d)).map aF) with
     | none=>rfl
     | some is =>
      rw [hA,hC,hD] at e9;dsimp only;have e9:(r.take (shN d)).all dO=false:=by simpa using e9
      rw [e9,if_neg (by decide)]
  rw [e2] at q;walk_at"v";exact q _
 have e9:=Bool.not_eq_false' _ |>.mp e9
 obtain⟨e1,e9⟩:=Bool.and_eq_true_iff.mp e9;obtain⟨e2,e9⟩:=Bool.and_eq_true_iff.mp e9;obtain⟨e3,e4⟩:=Bool.and_eq_true_iff.mp e9;obtain⟨m,hA⟩:=Option.isSome_iff_exists.mp e1;obtain⟨k,hC⟩:=Option.isSome_iff_exists.mp e2;obtain⟨is,hD⟩:=Option.isSome_iff_exists.mp e3;have hT9:ep (a :: b :: c :: d :: r)=some (m,b,k,d,r.take (shN d),is):=by
  unfold ep;dsimp only;rw [if_pos e,if_pos hb,hA,hC,hD];dsimp only;rw [if_pos e4]
 rw [hT9] at q;have hD3:((r.drop (shN d)).map fun w=>onI (aF w))=is.map Val.int:=by
  rw [em,cY hD,List.map_map]
  rfl
 rw [hD3,hA,hC];walk_at"v";refine o_sl4 rfl rfl (by rw [List.length_map]; exact hsh) ?_;walk_at"v";have hil:is.length<=150001:=by
  have h9:=congrArg List.length (cY hD);rw [List.length_map,List.length_map,List.length_drop] at h9
  simp only [List.length_cons] at hll
  omega
 refine da (by simp only [List.length_take,List.length_map]; simp only [List.length_cons] at hll; omega) ?_;walk_at"v";rw [<- List.map_take];exact eE (v:=trV (m,b,k,d,r.take (shN d),is)) eG (q _)
end
def rowsOf(z:Str):List Str:=if decide (z=("" : Str))=true then [] else Txt.split z "\n"
def RdN(rows:List Str):Option Nat->Prop
 | some j=>∃ r,rows[j]?=some r/\cS r=none/\∀ i r',i < j->rows[i]?=some r'->(cS r').isSome=true
 | none=>∀ r∈rows,(cS r).isSome=true
theorem uq:∀ rows:List Str,∃ o,RdN rows o
 | []=>⟨none,fun r h=>by cases h⟩
 | r :: rs=>by
  cases hr:cS r with
  | none=>exact⟨some 0,r,rfl,hr,fun i _ h=>absurd h (by omega)⟩
  | some t =>
   obtain⟨o,ho⟩:=uq rs
   cases o with
   | none=>exact⟨none,fun x hx=>(List.mem_cons.mp hx).elim (fun z=>by rw [z,hr]; rfl) (ho x)⟩
   | some j =>
    obtain⟨y,h1,h2,h3⟩:=ho;refine⟨some (j + 1),y,by simpa using h1,h2,fun i x hi hx=>?_⟩
    cases i with
    | zero =>
     have:r=x:=by simpa using hx
     rw [<- this,hr]; rfl
    | succ i=>exact h3 i x (by omega) (by simpa using hx)
def rdV(rows:List Str):List Val:=rows.map fun r=>onR (cS r)
section
variable{QV:Val->Hh->Prop}{c0:Val}{s l:Int}{g:GG}{L:List Cel}{n:Nat}{h:Hh}
theorem ju{z:Str}(hz:z.length<=150000):∀ r∈rowsOf z,r.length<=150000:=fun r hr=>by
 unfold rowsOf at hr
 split at hr
 .cases hr
 .have:=split_len hr; omega
theorem jv{z:Str}(hz:z.length<=150000)(q:QV (.lst ((rowsOf z).map .str)) (hT c0 s l g L)):wpR (ao tab (n + 1) 11 [.str z] (hT c0 s l g L)) QV:=by
 refine pG ?_;unfold cX;refine kr ?_;refine iM (by walk_at"v"; exact⟨rfl,rfl⟩) ?_;walk_at"v";unfold rowsOf at q
 by_cases e:z=("" : Str)
 .rw [if_pos (decide_eq_true e)] at q;refine w_ifN (by walk_at"v"; exact⟨by rw [decide_eq_true e]; rfl,rfl⟩) ?_;walk_at"v";exact q
 .rw [if_neg (by rw [decide_eq_false e]; decide)] at q;refine p8 (by walk_at"v"; exact⟨by rw [decide_eq_false e]; rfl,rfl⟩) ?_;walk_at"v";refine⟨rfl,?_⟩;walk_at"v";refine dS (a:=z) (b:="\n") (by decide +kernel) (by omega) ?_;exact eE (cJ fun _=>rfl) q
theorem read_ok{z:Str}(hz:z.length<=150000)(hl:(rowsOf z).length<=160000)(ho:RdN (rowsOf z) none)(q:QV (.lst (rdV (rowsOf z))) (hT c0 s l g L)):wpR (ao tab (n + 5) 17 [.str z] (hT c0 s l g L)) QV:=by
 have hrl:=ju hz;refine lY ?_;unfold bj;walk_at"v";refine jv hz ?_;walk_at"v";refine loopE (ts:=rowsOf z) (tv:=Val.str) (fun i δ h=>∃ (o2 o3 o4:Option Val),δ = [some (.str z),some (.ref (.loc L.length)),o2,o3,o4]/\h=hT c0 s l g (L ++ [.lst (rdV ((rowsOf z).take i))])) ?_ ?_ ?_
 .exact⟨_,_,_,rfl,rfl⟩
 .rintro i δ h r hr ⟨o2,o3,o4,rfl,rfl⟩;have hi:i < (rowsOf z).length:=(List.getElem?_eq_some_iff.mp hr).1;have hrm:=List.mem_of_getElem? hr;obtain⟨t,ht⟩:=Option.isSome_iff_exists.mp (ho r hrm);refine⟨_,rfl,?_⟩;walk_at"v";refine f5 (hrl r hrm) ?_;rw [ht];have eo:onR (some t) = .tup [.int t.1,.str t.2.1,.int t.2.2.1,.str t.2.2.2.1,.tup (t.2.2.2.2.1.map .str ++ t.2.2.2.2.2.map .int)]:=rfl;rw [eo];walk_at"v";refine iM (by walk_at"v"; exact⟨rfl,rfl⟩) ?_;walk_at"v";refine kl (M:=[]) (eG (t:=t)) (by unfold rdV; rw [List.length_map,List.length_take]; omega) ?_;walk_at"v";have et:(rowsOf z).take (i + 1)=(rowsOf z).take i ++ [r]:=by rw [List.take_succ,hr]; rfl
  refine⟨_,_,_,rfl,?_⟩;rw [et];unfold rdV;rw [List.map_append,List.map_cons,ht]
  rfl
 .rintro δ h ⟨o2,o3,o4,rfl,rfl⟩;rw [List.take_length];walk_at"v";exact q
theorem read_x{z:Str}{j:Nat}(hz:z.length<=150000)(hl:(rowsOf z).length<=160000)(ho:RdN (rowsOf z) (some j)):xpR (ao tab (n + 5) 17 [.str z] (hT c0 s l g L)) fun k fs h1=>k=10/\fs=[(63,.int (j:Nat))]/\h1=hT c0 s l g L:=by
 have hrl:=ju hz;obtain⟨r9,hr9,hn9,hlt9⟩:=ho;have hj:j < (rowsOf z).length:=(List.getElem?_eq_some_iff.mp hr9).1;refine x_fn cH rfl ?_;show xpS (bj (ao tab (n + 4)) [some (.str z),none,none,none,none] (hT c0 s l g L)) _;unfold bj;refine sm ?_;walk_at"v";refine kX ?_;refine x_for (j:=j) ?_;walk_at"v";refine jv hz ?_;walk_at"v";refine⟨fun i δ h=>∃ (o2 o3 o4:Option Val),δ = [some (.str z),some (.ref (.loc L.length)),o2,o3,o4]/\h=hT c0 s l g (L ++ [.lst (rdV ((rowsOf z).take i))]),⟨_,_,_,rfl,rfl⟩,by rw [List.length_map]; exact hj,?_,?_⟩
 .rintro i δ h hi ⟨o2,o3,o4,rfl,rfl⟩;have hil:i < (rowsOf z).length:=by omega
  have hr:(rowsOf z)[i]?=some (rowsOf z)[i]:=List.getElem?_eq_getElem hil;generalize (rowsOf z)[i]=r at hr;have hrm:=List.mem_of_getElem? hr;obtain⟨t,ht⟩:=Option.isSome_iff_exists.mp (hlt9 i r hi hr);refine⟨.tup [.int (i:Nat),.str r],_,?_,rfl,?_⟩
  .simp [itE,itD,hr]
  walk_at"v";refine f5 (hrl r hrm) ?_;rw [ht];have eo:onR (some t) = .tup [.int t.1,.str t.2.1,.int t.2.2.1,.str t.2.2.2.1,.tup (t.2.2.2.2.1.map .str ++ t.2.2.2.2.2.map .int)]:=rfl;rw [eo];walk_at"v";refine iM (by walk_at"v"; exact⟨rfl,rfl⟩) ?_;walk_at"v";refine kl (M:=[]) (eG (t:=t)) (by unfold rdV; rw [List.length_map,List.length_take]; omega) ?_;walk_at"v";have et:(rowsOf z).take (i + 1)=(rowsOf z).take i ++ [r]:=by rw [List.take_succ,hr]; rfl
  refine⟨_,_,_,rfl,?_⟩;rw [et];unfold rdV;rw [List.map_append,List.map_cons,ht]
  rfl
 .rintro δ h ⟨o2,o3,o4,rfl,rfl⟩;have hrm:=List.mem_of_getElem? hr9;refine⟨.tup [.int (j:Nat),.str r9],_,?_,rfl,?_⟩
  .simp [itE,itD,hr9]
  refine sm ?_;walk_at"v";refine f5 (hrl r9 hrm) ?_;rw [hn9];have eo:onR none = .non:=rfl;rw [eo];walk_at"v";refine kX ?_;refine x_if ?_;walk_at"v";refine mI ?_;walk_at"v";exact⟨_,rfl,rfl,rfl,rfl,ji⟩
end
theorem rB{z:Str}:sz (rowsOf z)<=z.length + 1:=by
 unfold rowsOf
 split
 .rw [hW]; omega
 .exact eN nl1
def dueV(rows:List Str):Option Nat->Val
 | some j=>.tup [.int (j:Nat)]
 | none=>.lst (rdV rows)
section
variable{QV:Val->Hh->Prop}{c0:Val}{s l:Int}{g:GG}{L:List Cel}{n:Nat}{h:Hh}
theorem rdV_nl{rows:List Str}:Val.nls (rdV rows)=true:=cJ fun _=>onR_nl
theorem due_ok{z:Str}{o:Option Nat}(hz:z.length<=150000)(hl:(rowsOf z).length<=160000)(ho:RdN (rowsOf z) o)(q:∀ g',QV (dueV (rowsOf z) o) (hT c0 s l g' L)):wpR (ao tab (n + 4) 7 [.str z] (hT c0 s l g L)) QV:=by
 have hrl:=ju hz;refine iP ?_;unfold dg;walk_at"v";refine iM (by walk_at"v"; exact⟨rfl,rfl⟩) ?_;walk_at"v";refine k7 (fun v h=>v = .lst ((rowsOf z).map .str)/\h=hT c0 s l g (L ++ [.lst []])) ?_ ?_
 .unfold rowsOf
  by_cases e:z=("" : Str)
  .rw [if_pos (decide_eq_true e)];refine w_ifN (by walk_at"v"; exact⟨by rw [decide_eq_true e]; rfl,rfl⟩) ?_;walk_at"v";exact⟨rfl,rfl⟩
  .rw [if_neg (by rw [decide_eq_false e]; decide)];refine p8 (by walk_at"v"; exact⟨by rw [decide_eq_false e]; rfl,rfl⟩) ?_;walk_at"v";refine⟨rfl,?_⟩;walk_at"v";refine dS (a:=z) (b:="\n") (by decide +kernel) (by omega) ?_;exact⟨rfl,rfl⟩
 rintro _ _ ⟨rfl,rfl⟩;walk_at"v";refine loopE (ts:=rowsOf z) (tv:=Val.str) (fun i δ h=>∃ (g:GG) (o2 o3 o4:Option Val),δ = [some (.str z),some (.ref (.loc L.length)),o2,o3,o4]/\h=hT c0 s l g (L ++ [.lst (rdV ((rowsOf z).take i))])/\∀ j,o=some j->i<=j) ?_ ?_ ?_
 .exact⟨_,_,_,_,rfl,rfl,fun _ _=>Nat.zero_le _⟩
 .rintro i δ h r hr ⟨g,o2,o3,o4,rfl,rfl,hij⟩;have hi:i < (rowsOf z).length:=(List.getElem?_eq_some_iff.mp hr).1;have hrm:=List.mem_of_getElem? hr;refine⟨_,rfl,?_⟩;walk_at"v";refine rM (hrl r hrm) fun g3=>?_
  cases ht:cS r with
  | none =>
   have hoj:o=some i:=by
    cases o with
    | none=>have:=ho r hrm; rw [ht] at this; cases this
    | some j =>
     have hle:=hij j rfl
     by_cases e:i=j
     .rw [e]
     .obtain⟨r9,_,_,h3⟩:=ho;have:=h3 i r (by omega) hr;rw [ht] at this; cases this
   rw [hoj] at q;have eo:onR none = .non:=rfl;rw [eo];walk_at"v";refine mY (by walk_at"v"; exact⟨rfl,rfl⟩) ?_;walk_at"v";exact q _
  | some t =>
   have eo:onR (some t) = .tup [.int t.1,.str t.2.1,.int t.2.2.1,.str t.2.2.2.1,.tup (t.2.2.2.2.1.map .str ++ t.2.2.2.2.2.map .int)]:=rfl;rw [eo];walk_at"v";refine iM (by walk_at"v"; exact⟨rfl,rfl⟩) ?_;walk_at"v";refine kl (M:=[]) (eG (t:=t)) (by unfold rdV; rw [List.length_map,List.length_take]; omega) ?_;walk_at"v";have et:(rowsOf z).take (i + 1)=(rowsOf z).take i ++ [r]:=by rw [List.take_succ,hr]; rfl
   refine⟨g3,_,_,_,rfl,?_,fun j hj=>?_⟩
   .rw [et];unfold rdV;rw [List.map_append,List.map_cons,ht]
    rfl
   .have hle:=hij j hj;subst hj;obtain⟨r9,h1,h2,_⟩:=ho;have hne:i≠j:=fun z9=>by
     subst z9;rw [hr] at h1;have:=Option.some.inj h1;rw [this,h2] at ht; cases ht
    omega
 .rintro δ h ⟨g,o2,o3,o4,rfl,rfl,hij⟩;rw [List.take_length];have hon:o=none:=by
   cases o with
   | none=>rfl
   | some j =>
    have hle:=hij j rfl;obtain⟨r9,h1,_⟩:=ho;have:=(List.getElem?_eq_some_iff.mp h1).1;omega
  rw [hon] at q;walk_at"v";exact q _
end
section
variable{QV:Val->Hh->Prop}{c0:Val}{s l:Int}{g:GG}{L:List Cel}{n:Nat}{h:Hh}
theorem pZ{Γ : Calls}{ok:List Nat}{i f:Nat}{fs:Sl->Hh->Res (List Val)}{δ : Sl}{h:Hh}{Q:XQ}(e:δ[i]?=some (some (.fn f)))(hf:f∈ok)(q:wpR (fs δ h) fun xs h1=>xpR (Γ f xs h1) Q):xpR (gs Γ ok i fs δ h) Q:=by
 unfold gs;rw [e];dsimp only;rw [if_pos hf];exact .bind q
theorem oy{z:Str}{o:Option Nat}(hz:z.length<=150000)(hl:(rowsOf z).length<=160000)(ho:RdN (rowsOf z) o)(q:∀ g',QV (dueV (rowsOf z) o) (hT c0 s l g' L)):wpR (ao tab (n + 6) 0 [.fn 17,.str z] (hT c0 s l g L)) QV:=by
 refine fW ?_;unfold cy;walk_at"v"
 cases o with
 | none =>
  refine s_tryKn ?_;walk_at"v";refine w_callV rfl (by simp) ?_;walk_at"v";refine read_ok hz hl ho ?_;walk_at"v";refine mY (by walk_at"v"; exact⟨rfl,rfl⟩) ?_;walk_at"v";exact eE (v:=.lst (rdV (rowsOf z))) rdV_nl (q g)
 | some j =>
  refine qx ?_;refine x_asg ?_;refine pZ rfl (by simp) ?_;walk_at"v";refine(read_x hz hl ho).mono ?_;rintro k fs h1 ⟨rfl,rfl,rfl⟩;refine⟨rfl,rfl,?_⟩;rw [nZ];have e1:gat (jK g 95 (.exc 10 [(63,.int (j:Nat))])) 95 ((hT c0 s l g L).glo 95).length=some (.exc 10 [(63,.int (j:Nat))]):=cx;walk_at"v";refine iM (by walk_at"v"; exact⟨rfl,rfl⟩) ?_;walk_at"v";refine p8 ?_ ?_
  .walk_at"v";refine o_isX e1 rfl ?_;walk_at"v";refine o_xf e1 (by simp) ?_;walk_at"v";exact⟨rfl,rfl⟩
  walk_at"v";refine o_xf e1 (by simp) ?_;walk_at"v";exact q _
theorem x_forX{fw:Sl->Hh->Res Wk}{tg:Val->Sl->Option Sl}{f:Sl->Hh->aD}{δ : Sl}{h:Hh}{QS:Nat->List (Nat×Val)->Sl->Hh->Prop}(q:xpR (fw δ h) fun c fs h1=>QS c fs δ h1):xpS (ip fw tg f δ h) QS:=by
 obtain⟨c,fs,h1,e,q⟩:=q.get;unfold ip;rw [e];exact⟨q⟩
theorem x_enumX{fs:Sl->Hh->Res (List Val)}{δ : Sl}{h:Hh}{Q:XQ}(q:xpR (fs δ h) Q):xpR (kE fs δ h) Q:=by
 unfold kE;exact .bindX q
theorem x_consX{fo:Sl->Hh->Res Val}{fs:Sl->Hh->Res (List Val)}{δ : Sl}{h:Hh}{Q:XQ}(q:xpR (fo δ h) Q):xpR (ae fo fs δ h) Q:=by
 unfold ae;exact .bindX q
def NoTx(x:Val):Prop:=x = .non\/(∃ i,x = .int i)\/(∃ b,x = .bl b)\/∃ xs,x = .lst xs
theorem rows_x{x:Val}(hx:NoTx x):xpR (ao tab (n + 1) 11 [x] (hT c0 s l g L)) fun k fs h1=>k=10/\fs=[(63,.int (0:Nat))]/\h1=hT c0 s l g L:=by
 refine x_fn eK rfl ?_;show xpS (cX (ao tab n) [some x] (hT c0 s l g L)) _;unfold cX;refine kX ?_;refine x_if ?_;rcases hx with rfl | ⟨i,rfl⟩ | ⟨b,rfl⟩ | ⟨xs,rfl⟩
 all_goals
  walk_at"v";refine mI ?_;walk_at"v";exact⟨_,rfl,rfl,rfl,rfl,hT_cut⟩
theorem read_xx{x:Val}(hx:NoTx x):xpR (ao tab (n + 5) 17 [x] (hT c0 s l g L)) fun k fs h1=>k=10/\fs=[(63,.int (0:Nat))]/\h1=hT c0 s l g L:=by
 refine x_fn cH rfl ?_;show xpS (bj (ao tab (n + 4)) [some x,none,none,none,none] (hT c0 s l g L)) _;unfold bj;refine sm ?_;walk_at"v";refine kX ?_;refine x_forX ?_;refine x_enumX ?_;refine x_consX ?_;refine x_call ?_;walk_at"v";refine(rows_x (n:=n + 3) hx).mono ?_;rintro k fs h1 ⟨rfl,rfl,rfl⟩;exact⟨rfl,rfl,rfl,ji⟩
theorem asked_x{x:Val}(hx:NoTx x)(q:∀ g',QV (.tup [.int (0:Nat)]) (hT c0 s l g' L)):wpR (ao tab (n + 6) 0 [.fn 17,x] (hT c0 s l g L)) QV:=by
 refine fW ?_;unfold cy;walk_at"v";refine qx ?_;refine x_asg ?_;refine pZ rfl (by simp) ?_;walk_at"v";refine(read_xx hx).mono ?_;rintro k fs h1 ⟨rfl,rfl,rfl⟩;refine⟨rfl,rfl,?_⟩;rw [nZ];have e1:gat (jK g 95 (.exc 10 [(63,.int (0:Nat))])) 95 ((hT c0 s l g L).glo 95).length=some (.exc 10 [(63,.int (0:Nat))]):=cx;walk_at"v";refine iM (by walk_at"v"; exact⟨rfl,rfl⟩) ?_;walk_at"v";refine p8 ?_ ?_
 .walk_at"v";refine o_isX e1 rfl ?_;walk_at"v";refine o_xf e1 (by simp) ?_;walk_at"v";exact⟨rfl,rfl⟩
 walk_at"v";refine o_xf e1 (by simp) ?_;walk_at"v";exact q _
theorem due_x{x:Val}(hx:NoTx x)(q:QV (.tup [.int (0:Nat)]) (hT c0 s l g L)):wpR (ao tab (n + 4) 7 [x] (hT c0 s l g L)) QV:=by
 refine iP ?_;unfold dg;refine kr ?_;rcases hx with rfl | ⟨i,rfl⟩ | ⟨b,rfl⟩ | ⟨xs,rfl⟩
 all_goals
  refine mY (by walk_at"v"; exact⟨rfl,rfl⟩) ?_;walk_at"v";exact q
end
def eA(t:Tr):Prop:=(0<=t.1/\t.1<=1000000000)/\Wl 8 t.2.1/\(0<=t.2.2.1/\t.2.2.1<=9999999999)/\t.2.2.2.1∈fR.map (·.1)/\((t.2.2.2.2.1.length + t.2.2.2.2.2.length:Nat):Int)∈bb t.2.2.2.1/\t.2.2.2.2.1.length=shN t.2.2.2.1/\(∀ w∈t.2.2.2.2.1,Wl 8 w)/\∀ i∈t.2.2.2.2.2,-9999999999<=i/\i<=9999999999
theorem lU:∀ {T:List (Str×List Int)},jI (T.map fun q=>((.inr q.1:Key),Val.lst (q.2.map .int)))=some (T.map (·.1))
 | []=>rfl
 | (w,is) :: r=>by
  show(jI (r.map fun q=>((.inr q.1:Key),Val.lst (q.2.map .int)))).map (w :: ·)=_;rw [lU]; rfl
theorem jV:∀ {T:List (Str×List Int)} {d:Str},d∈T.map (·.1)->cD (T.map fun q=>((.inr q.1:Key),Val.lst (q.2.map .int))) (.inr d)=some (.lst (((T.lookup d).getD []).map .int))
 | [],_,h=>by cases h
 | (w,is) :: r,d,h=>by
  rw [List.map_cons,List.lookup_cons];unfold cD
  by_cases e:w=d
  .subst e;rw [if_pos rfl,beq_self_eq_true]
   rfl
  .rw [if_neg (fun z=>e (Sum.inr.inj z)),show(d == w)=false from beq_eq_false_iff_ne.mpr fun z=>e z.symm];refine jV ?_;rcases List.mem_cons.mp h with h | h
   .exact absurd h.symm e
   .exact h
theorem cnt_bd:∀ d∈fR.map (·.1),0 < (bb d).length/\(bb d).length<=2/\∀ i∈bb d,0<=i/\i<=4:=by
 have e:((fR.map (·.1)).all fun d=>decide (0 < (bb d).length) && (decide ((bb d).length<=2) && (bb d).all fun i=>decide (0<=i) && decide (i<=4)))=true:=by decide +kernel
 intro d hd;have h:=List.all_eq_true.mp e d hd;obtain⟨h1,h⟩:=Bool.and_eq_true_iff.mp h;obtain⟨h2,h3⟩:=Bool.and_eq_true_iff.mp h;refine⟨of_decide_eq_true h1,of_decide_eq_true h2,fun i hi=>?_⟩;obtain⟨h4,h5⟩:=Bool.and_eq_true_iff.mp (List.all_eq_true.mp h3 i hi);exact⟨of_decide_eq_true h4,of_decide_eq_true h5⟩
section
variable{QV:Val->Hh->Prop}{cs:List Int}{s l:Int}{g:GG}{L:List Cel}{n:Nat}{h:Hh}
theorem row_ok{ws:List Str}(hw0:0 < ws.length)(hw1:ws.length<=1000)(hw:∀ w∈ws,Wl 8 w)(hs:0<=s/\s < 90000000000)
  (q:∀ (t:Tr) s' l' g',eA t->s<=s'/\s'<=s + 100->QV (trV t) (hT (cel cs) s' l' g' L)) :
  wpR (ao tab (n + 3) 8 [T0,.lst (ws.map .str)] (hT (cel cs) s l g L)) QV:=by
 refine n6 ?_;unfold d6;walk_at"v";refine iz fun g2 kk hg=>?_;walk_at"v";refine nv (fD hg) lU (by decide +kernel) ?_;walk_at"v";refine cj hs.1 (by omega) (by omega) (by omega) fun a s1 l1 a0 a1 a2 a3=>?_;have hlen:(mO (fR.map (·.1))).length=10:=by rw [fB.length_eq]; rfl
 refine dI a0 (by rw [List.length_map,hlen]; exact a1) fun v hv _=>?_;obtain⟨d,hd,rfl⟩:=List.mem_map.mp hv;have hd:=fB.mem_iff.mp hd;obtain⟨c0,c1,c2⟩:=cnt_bd d hd;walk_at"v";have hg9:gat g2 70 kk=some (.dct cntK):=(qQ (by decide)).symm.trans hg;refine uL hg9 rfl (jV hd) ?_;walk_at"v";refine uL hg9 rfl (jV hd) ?_;walk_at"v";refine cj (by omega) (by omega) (by rw [List.length_map]; exact Int.natCast_pos.mpr c0) (by rw [List.length_map]; have:(((fR.lookup d).getD []).length:Int)<=2:=Int.ofNat_le.mpr c1; omega) fun b s2 l2 b0 b1 b2 b3=>?_;refine dI b0 b1 fun v2 hv2 _=>?_;obtain⟨mi,hm,rfl⟩:=List.mem_map.mp hv2;have hm:mi∈bb d:=hm;obtain⟨m0,m4⟩:=c2 mi hm;obtain⟨m,rfl⟩:=Int.eq_ofNat_of_zero_le m0;walk_at"v";refine p7 ?_;walk_at"v";refine⟨m,rfl,by omega,fun i acc h=>∃ (is:List Int) (s3 l3:Int),acc=is.map .int/\is.length=i/\(∀ x∈is,-9999999999<=x/\x<=9999999999)/\s2<=s3/\s3<=s2 + 2 * i/\h=hT (cel cs) s3 l3 g2 L,?_,?_,?_⟩
 .exact⟨[],s2,l2,rfl,rfl,by simp,by omega,by omega,rfl⟩
 .rintro i acc h hi ⟨is,s3,l3,rfl,hl,hb,k1,k2,rfl⟩;refine⟨_,rfl,?_⟩;walk_at"v";refine cj (by omega) (by omega) (by omega) (by omega) fun r s4 l4 r0 r1 r2 r3=>?_;walk_at"v";refine⟨is ++ [r - 30000],s4,l4,by simp,by simp [hl],?_,by omega,by omega,rfl⟩;intro x hx;rcases List.mem_append.mp hx with hx | hx
  .exact hb x hx
  .rw [List.mem_singleton.mp hx]; omega
 rintro acc h ⟨is,s3,l3,rfl,hil,hib,k1,k2,rfl⟩;walk_at"v";refine hV (cJ fun _=>rfl) ?_;walk_at"v";refine ui (fun δ1 h1=>∃ (M1:List Cel) (js:List Int) (s5 l5:Int),js.length=m/\(∀ x∈js,-9999999999<=x/\x<=9999999999)/\s3<=s5/\s5<=s3 + 20/\h1=hT (cel cs) s5 l5 g2 ((L ++ M1) ++ [.lst (js.map .int)])/\∃ o8:Option Val,δ1=[some T0,some (.lst (ws.map .str)),some (.ref (.glo 70 kk)),some (.str d),some (.int (m:Nat)),some (.ref (.loc (L ++ M1).length)),none,none,o8]) ?_ ?_
 .refine s_if ?_;walk_at"v";refine cj (by omega) (by omega) (by omega) (by omega) fun e s4 l4 e0 e1 e2 e3=>?_;walk_at"v";refine cn (fun hz=>?_) (fun hz=>?_)
  .walk_at"v";refine p7 ?_;walk_at"v";refine⟨m,rfl,by omega,fun i acc h=>∃ (js:List Int) (s5 l5:Int),acc=js.map .int/\js.length=i/\(∀ x∈js,-9999999999<=x/\x<=9999999999)/\s4<=s5/\s5<=s4 + 2 * i/\h=hT (cel cs) s5 l5 g2 (L ++ [.lst (is.map .int)]),?_,?_,?_⟩
   .exact⟨[],s4,l4,rfl,rfl,by simp,by omega,by omega,rfl⟩
   .rintro i acc h hi ⟨js,s5,l5,rfl,hl,hb,k3,k4,rfl⟩;refine⟨_,rfl,?_⟩;walk_at"v";refine drawB (by omega) (by omega) fun r s6 l6 hr=>?_;walk_at"v";refine⟨js ++ [r - 10000000000 + 1],s6,l6,by simp,by simp [hl],?_,by omega,by omega,rfl⟩;intro x hx;rcases List.mem_append.mp hx with hx | hx
    .exact hb x hx
    .rw [List.mem_singleton.mp hx]; omega
   rintro acc h ⟨js,s5,l5,rfl,hjl,hjb,k3,k4,rfl⟩;walk_at"v";refine hV (cJ fun _=>rfl) ?_;walk_at"v";exact⟨[.lst (is.map .int)],js,s5,l5,hjl,hjb,by omega,by omega,rfl,_,rfl⟩
  .walk_at"v";exact⟨[],is,s4,l4,hil,hib,by omega,by omega,by rw [List.append_nil],_,by rw [List.append_nil]; rfl⟩
 rintro δ1 h1 ⟨M1,js,s5,l5,hjl,hjb,k3,k4,rfl,o8,rfl⟩;walk_at"v";have hset:∀ y:Cel,((L ++ M1) ++ [Cel.lst (js.map .int)]).set (L ++ M1).length y=(L ++ M1) ++ [y]:=fun y=>set_mid (M:=[]);have hat:((L ++ M1) ++ [Cel.lst (js.map .int)])[(L ++ M1).length]?=some (Cel.lst (js.map .int)):=by simp
 refine ui (fun δ1 h1=>∃ (nm:List Str) (is':List Int) (s6 l6:Int),nm.length=shN d/\nm.length + is'.length=m/\(∀ w∈nm,Wl 8 w)/\(∀ x∈is',-9999999999<=x/\x<=9999999999)/\s5<=s6/\s6<=s5 + 1/\h1=hT (cel cs) s6 l6 g2 ((L ++ M1) ++ [.lst (nm.map .str ++ is'.map .int)])/\δ1=[some T0,some (.lst (ws.map .str)),some (.ref (.glo 70 kk)),some (.str d),some (.int (m:Nat)),some (.ref (.loc (L ++ M1).length)),none,none,o8]) ?_ ?_
 .refine eg (b:=decide (d=("shelf" : Str))) (by walk_at"v"; exact⟨rfl,rfl⟩) (fun e=>?_) (fun e=>?_)
  .have e:=of_decide_eq_true e;subst e;have e3:bb ("shelf" : Str)=[3]:=by decide +kernel
   have h1:shN ("shelf" : Str)=1:=by decide +kernel
   rw [e3] at hm;have hm3:=List.mem_singleton.mp hm;obtain⟨x,j9,rfl⟩:∃ x j9,js=x :: j9:=by
    cases js with
    | nil=>rw [<- hjl] at hm3; exact absurd hm3 (by decide)
    | cons x j9=>exact⟨x,j9,rfl⟩
   refine s_subL ?_;walk_at"v";refine cj (by omega) (by omega) (by rw [List.length_map]; omega) (by rw [List.length_map]; omega) fun e s6 l6 e0 e1 e2 e3=>?_;refine dI e0 e1 fun v hv _=>?_;obtain⟨w,hwm,rfl⟩:=List.mem_map.mp hv;walk_at"v";refine k_putI (j:=0) hat (by simp) rfl ?_;rw [hset];exact⟨[w],j9,s6,l6,h1.symm,by rw [<- hjl]; simp only [List.length_cons,List.length_nil]; omega,fun w9 h9=>by rw [List.mem_singleton.mp h9]; exact hw w hwm,fun y hy=>hjb y (List.mem_cons_of_mem _ hy),by omega,by omega,rfl,rfl⟩
  .walk_at"v";have h0:shN d=0:=by unfold shN; rw [e,if_neg (by decide)]
   exact⟨[],js,s5,l5,h0.symm,by rw [<- hjl]; simp,(fun w9 h9=>by cases h9),hjb,by omega,by omega,rfl,rfl⟩
 rintro δ1 h1 ⟨nm,is',s6,l6,hn1,hn2,hn3,hn4,k5,k6,rfl,rfl⟩;walk_at"v";refine cj (by omega) (by omega) (by omega) (by omega) fun r1 s7 l7 a1 a2 a3 a4=>?_;walk_at"v";refine cj (by omega) (by omega) (by omega) (by omega) fun r2 s8 l8 b1 b2 b3 b4=>?_;refine dI b1 (by simp; omega) fun v3 hv3 _=>?_;obtain⟨mo,rfl,mo0⟩:∃ i:Int,v3 = .int i/\0<=i/\i<=1000000000:=by
  simp only [List.mem_cons,List.not_mem_nil,or_false] at hv3
  rcases hv3 with rfl | rfl | rfl
  .exact⟨_,rfl,by omega⟩
  .exact⟨_,rfl,by omega⟩
  .exact⟨_,rfl,by omega⟩
 walk_at"v";refine drawB (by omega) (by omega) fun r3 s9 l9 d1=>?_;walk_at"v";refine cj (by omega) (by omega) (by omega) (by omega) fun r4 s10 l10 e1 e2 e3 e4=>?_;refine dI e1 (by simp; omega) fun v4 hv4 _=>?_;obtain⟨st,rfl,st0⟩:∃ i:Int,v4 = .int i/\0<=i/\i<=9999999999:=by
  simp only [List.mem_cons,List.not_mem_nil,or_false] at hv4
  rcases hv4 with rfl | rfl | rfl | rfl | rfl | rfl
  all_goals exact⟨_,rfl,by omega⟩
 walk_at"v";refine cj (by omega) (by omega) (by rw [List.length_map]; omega) (by rw [List.length_map]; omega) fun r5 s11 l11 f1 f2 f3 f4=>?_;refine dI f1 f2 fun v5 hv5 _=>?_;obtain⟨lb,hlb,rfl⟩:=List.mem_map.mp hv5;walk_at"v";refine o_tupR (xs:=nm.map .str ++ is'.map .int) (by rw [fH]; simp) ?_;walk_at"v";rw [List.append_assoc];refine i7 (v:=trV (mo,lb,st,d,nm,is')) eG (q _ _ _ _ ⟨mo0,hw lb hlb,st0,hd,?_,hn1,hn3,hn4⟩ (by omega));show((nm.length + is'.length:Nat):Int)∈bb d;rw [hn2]; exact hm
end
def tw(t:Tr):List Str:=Str.ofString (toString t.1) :: t.2.1 :: Str.ofString (toString t.2.2.1) :: t.2.2.2.1 :: (t.2.2.2.2.1 ++ t.2.2.2.2.2.map fun i=>Str.ofString (toString i))
def cM(t:Tr):Str:=Txt.join " " (tw t)
def fO(ts:List Tr):Str:=Txt.join "\n" (ts.map cM)
theorem num_sg{i:Int}{c:Nat}(h:c∈(Str.ofString (toString i)).cps.toList):c=45\/(48<=c/\c<=57):=by
 by_cases h0:0<=i
 .obtain⟨m,rfl⟩:=Int.eq_ofNat_of_zero_le h0;rw [gz] at h;exact .inr (TL.numL_digits m c h)
 .obtain⟨m,rfl⟩:∃ m:Nat,i = -((m + 1:Nat):Int):=⟨(-i).toNat - 1,by omega⟩;rw [i8] at h;rcases List.mem_cons.mp h with h | h
  .exact .inl h
  .exact .inr (TL.numL_digits _ c h)
theorem num_ne{i:Int}:0 < (Str.ofString (toString i)).length:=by
 rw [<- str_len]
 by_cases h0:0<=i
 .obtain⟨m,rfl⟩:=Int.eq_ofNat_of_zero_le h0;rw [gz];exact List.length_pos_iff.mpr (TL.numL_ne m)
 .obtain⟨m,rfl⟩:∃ m:Nat,i = -((m + 1:Nat):Int):=⟨(-i).toNat - 1,by omega⟩;rw [i8];exact Nat.succ_pos _
theorem num_ln{i:Int}(h:-9999999999<=i/\i<=9999999999):(Str.ofString (toString i)).length<=11:=by
 have hlen:∀ m:Nat,m<=9999999999->(TL.numL m).length<=10:=fun m hm=>TL.numL_len (k:=10) (by decide) (Nat.lt_of_le_of_lt hm (by decide));rw [<- str_len]
 by_cases h0:0<=i
 .obtain⟨m,rfl⟩:=Int.eq_ofNat_of_zero_le h0;rw [gz];have:=hlen m (by omega);omega
 .obtain⟨m,rfl⟩:∃ m:Nat,i = -((m + 1:Nat):Int):=⟨(-i).toNat - 1,by omega⟩;rw [i8,List.length_cons];have:=hlen (m + 1) (by omega);omega
theorem lt_mem{c:Nat}(h:97<=c/\c<=122):c∈LT.cps.toList:=by
 have e:∀ c,c < 123->97<=c->c∈LT.cps.toList:=by decide +kernel
 exact e c (by omega) h.1
theorem wl_ok{w:Str}(h:Wl 8 w):dO w=true:=by
 unfold dO;have h1:=h.2.1;have h2:=h.2.2;rw [str_len] at h1 h2;rw [decide_eq_true (show 1<=w.length/\w.length<=8 from⟨h1,h2⟩),Bool.true_and,List.all_map,List.all_eq_true];intro c hc;exact decide_eq_true (lt_mem (h.1 c hc))
theorem lV:∀ d∈fR.map (·.1),Wl 6 d:=by
 have e:((fR.map (·.1)).all fun w=>w.cps.toList.all (fun c=>decide (97<=c/\c<=122)) && (decide (1<=w.cps.toList.length) && decide (w.cps.toList.length<=6)))=true:=by decide +kernel
 intro w hw;have:=List.all_eq_true.mp e w hw;rw [Bool.and_eq_true,Bool.and_eq_true] at this;exact⟨fun c hc=>of_decide_eq_true (List.all_eq_true.mp this.1 c hc),of_decide_eq_true this.2.1,of_decide_eq_true this.2.2⟩
theorem qa{t:Tr}(h:eA t):∀ w∈tw t,(∀ c∈w.cps.toList,33<=c)/\w.length<=11:=by
 obtain⟨h1,h2,h3,h4,h5,h6,h7,h8⟩:=h;have hn:∀ i:Int,-9999999999<=i/\i<=9999999999->(∀ c∈(Str.ofString (toString i)).cps.toList,33<=c)/\(Str.ofString (toString i)).length<=11:=fun i hi=>⟨fun c hc=>by rcases num_sg hc with h | h <;> omega,num_ln hi⟩;have hw9:∀ {k:Nat} {w:Str},k<=11->Wl k w->(∀ c∈w.cps.toList,33<=c)/\w.length<=11:=fun hk hw=>⟨fun c hc=>by have:=hw.1 c hc; omega,Nat.le_trans hw.len hk⟩;intro w hw;unfold tw at hw;rcases List.mem_cons.mp hw with rfl | hw
 .exact hn _ (by omega)
 rcases List.mem_cons.mp hw with rfl | hw
 .exact hw9 (by decide) h2
 rcases List.mem_cons.mp hw with rfl | hw
 .exact hn _ (by omega)
 rcases List.mem_cons.mp hw with rfl | hw
 .exact hw9 (by decide) (lV _ h4)
 rcases List.mem_append.mp hw with hw | hw
 .exact hw9 (by decide) (h7 w hw)
 .obtain⟨i,hi,rfl⟩:=List.mem_map.mp hw;exact hn i (h8 i hi)
theorem k8{t:Tr}(h:eA t):(tw t).length<=8:=by
 have h5:=(cnt_bd _ h.2.2.2.1).2.2 _ h.2.2.2.2.1;unfold tw
 simp only [List.length_cons,List.length_append,List.length_map]
 omega
theorem allN_map{is:List Int}:hL (is.map some)=some is:=by
 induction is with
 | nil=>rfl
 | cons i r ih=>show(hL (r.map some)).map (i :: ·)=_; rw [ih]; rfl
theorem qc{t:Tr}(h:eA t):cS (cM t)=some t:=by
 have hs:=qa h;unfold cS cM;rw [TL.split_join (s:=32) (S:=[]) (by decide +kernel) (by decide +kernel) (by simp [tw]) (fun p hp hc=>by have:=(hs p hp).1 32 hc; omega)];obtain⟨m,b,k,d,nm,is⟩:=t;obtain⟨h1,h2,h3,h4,h5,h6,h7,h8⟩:=h;dsimp only at h1 h2 h3 h4 h5 h6 h7 h8;have hb:∀ {lo hi i:Int},lo<=i/\i<=hi->inB lo hi (some i)=some i:=fun {lo hi i} hi9=>by
  unfold inB;rw [Option.filter_some,if_pos (decide_eq_true hi9)]
 have e1:(nm ++ is.map fun i=>Str.ofString (toString i)).drop (shN d)=is.map fun i=>Str.ofString (toString i):=by rw [<- h6,List.drop_left]
 have e2:(nm ++ is.map fun i=>Str.ofString (toString i)).take (shN d)=nm:=by rw [<- h6,List.take_left]
 have e3:((is.map fun i=>Str.ofString (toString i)).map aF)=is.map some:=by
  rw [List.map_map];refine List.map_congr_left fun i hi=>?_;exact gr (h8 i hi)
 show ep (Str.ofString (toString m) :: b :: Str.ofString (toString k) :: d :: (nm ++ is.map fun i=>Str.ofString (toString i)))=_;unfold ep;dsimp only;rw [if_pos (decide_eq_true (by rw [List.length_append,List.length_map]; exact h5)),if_pos (wl_ok h2),gr (by omega),gr (by omega),hb h1,hb h3,e1,e2,e3,allN_map];dsimp only;rw [if_pos (List.all_eq_true.mpr fun w hw=>wl_ok (h7 w hw))]
theorem join_sg:∀ {parts:List Str} {y:Str} {c:Nat},c∈(Txt.join y parts).cps.toList->c∈y.cps.toList\/∃ p∈parts,c∈p.cps.toList:=by
 intro parts y c h;rw [TL.join_eq] at h
 revert h
 induction parts with
 | nil=>intro h; exact absurd h (by show ¬ c∈([]:List Nat); simp)
 | cons a ps ih =>
  intro h
  cases ps with
  | nil=>exact .inr ⟨a,by simp,h⟩
  | cons b r =>
   have e:Str.join y (a :: b :: r)=a ++ y ++ Str.join y (b :: r):=rfl;rw [e] at h;have h:c∈TL.tl (a ++ y ++ Str.join y (b :: r)):=h;rw [TL.tl_append,TL.tl_append] at h;rcases List.mem_append.mp h with h | h
   .rcases List.mem_append.mp h with h | h
    .exact .inr ⟨a,by simp,h⟩
    .exact .inl h
   .rcases ih h with h | ⟨p,hp,h⟩
    .exact .inl h
    .exact .inr ⟨p,List.mem_cons_of_mem _ hp,h⟩
theorem row_sg{t:Tr}(h:eA t):∀ c∈(cM t).cps.toList,32<=c:=fun c hc=>by
 rcases join_sg hc with hc | ⟨p,hp,hc⟩
 .have e:(Str.ofString " ").cps.toList=[32]:=by decide +kernel
  rw [e] at hc;rw [List.mem_singleton.mp hc]; decide
 .have:=(qa h p hp).1 c hc;omega
theorem lh{ps:List Str}{b:Nat}(h:∀ p∈ps,p.length<=b):(ps.map (·.length)).sum<=b * ps.length:=by
 induction ps with
 | nil=>exact Nat.zero_le _
 | cons a r ih =>
  have h1:=h a (by simp);have h2:=ih fun x hx=>h x (List.mem_cons_of_mem _ hx)
  simp only [List.map_cons,List.sum_cons,List.length_cons,Nat.mul_succ]
  omega
theorem lH{t:Tr}(h:eA t):0 < (cM t).length/\(cM t).length<=84 + 12:=by
 constructor
 .have h1:(Str.ofString (toString t.1)).length<=(cM t).length:=by
   unfold cM;rw [TL.join_eq];exact gX (by simp [tw])
  have:=@num_ne t.1;omega
 .unfold cM;rw [TL.join_eq];refine Nat.le_trans (PySem.StrLaws.join_length_le _ _) ?_;have hl:=lh fun w hw=>(qa h w hw).2;have h8:=k8 h;have e:(Str.ofString " ").length=1:=by decide +kernel
  rw [e];omega
theorem um{ts:List Tr}(h:∀ t∈ts,eA t):rowsOf (fO ts)=ts.map cM:=by
 unfold rowsOf
 cases ts with
 | nil=>rfl
 | cons t r =>
  have hne:fO (t :: r)≠("" : Str):=fun e=>by
   have h1:(cM t).length<=(fO (t :: r)).length:=by
    unfold fO;rw [TL.join_eq];exact gX (by simp)
   have h2:=(lH (h t (by simp))).1;rw [e] at h1;have e0:(Str.ofString "").length=0:=by decide +kernel
   omega
  rw [if_neg (by rw [decide_eq_false hne]; decide)];unfold fO;exact TL.split_join (s:=10) (S:=[]) (by decide +kernel) (by decide +kernel) (by simp) fun p hp hc=>by
   obtain⟨x,hx,rfl⟩:=List.mem_map.mp hp;have:=row_sg (h x hx) 10 hc;omega
theorem rdn_txt{ts:List Tr}(h:∀ t∈ts,eA t):RdN (rowsOf (fO ts)) none/\rdV (rowsOf (fO ts))=ts.map trV:=by
 rw [um h]
 constructor
 .intro r hr;obtain⟨t,ht,rfl⟩:=List.mem_map.mp hr;rw [qc (h t ht)]; rfl
 .unfold rdV;rw [List.map_map];refine List.map_congr_left fun t ht=>?_;show onR (cS (cM t))=_;rw [qc (h t ht)]; rfl
theorem txt_len{ts:List Tr}(h:∀ t∈ts,eA t)(hl:ts.length<=110):(fO ts).length<=11000:=by
 unfold fO;rw [TL.join_eq];refine Nat.le_trans (PySem.StrLaws.join_length_le _ _) ?_;have e:(Str.ofString "\n").length=1:=by decide +kernel
 have:=lh (ps:=ts.map cM) (b:=96) fun p hp=>by
  obtain⟨x,hx,rfl⟩:=List.mem_map.mp hp;exact(lH (h x hx)).2
 rw [List.length_map] at this;rw [e,List.length_map];omega
section
variable{QV:Val->Hh->Prop}{cs:List Int}{s l:Int}{g:GG}{L:List Cel}{n:Nat}
def twv(t:Tr):List (Val×Str):=(.int t.1,Str.ofString (toString t.1)) :: (.str t.2.1,t.2.1) :: (.int t.2.2.1,Str.ofString (toString t.2.2.1)) :: (.str t.2.2.2.1,t.2.2.2.1) :: ((t.2.2.2.2.1.map fun w=>(Val.str w,w)) ++ t.2.2.2.2.2.map fun i=>(Val.int i,Str.ofString (toString i)))
theorem sW{t:Tr}(ht:eA t){h:Hh}:∀ a∈twv t,wpR (ka h [a.1]) fun y h3=>h3=h/\y = .str a.2:=by
 obtain⟨h1,h2,h3,h4,h5,h6,h7,h8⟩:=ht;have hi:∀ i:Int,-9999999999<=i/\i<=9999999999->wpR (ka h [.int i]) fun y h3=>h3=h/\y = .str (Str.ofString (toString i)):=fun i b=>pq (by omega) (by omega) ⟨rfl,rfl⟩;have hs:∀ w:Str,wpR (ka h [.str w]) fun y h3=>h3=h/\y = .str w:=fun w=>pj ⟨rfl,rfl⟩;intro a ha;unfold twv at ha;rcases List.mem_cons.mp ha with rfl | ha
 .exact hi _ (by omega)
 rcases List.mem_cons.mp ha with rfl | ha
 .exact hs _
 rcases List.mem_cons.mp ha with rfl | ha
 .exact hi _ (by omega)
 rcases List.mem_cons.mp ha with rfl | ha
 .exact hs _
 rcases List.mem_append.mp ha with ha | ha
 .obtain⟨w,_,rfl⟩:=List.mem_map.mp ha;exact hs w
 .obtain⟨i,hm,rfl⟩:=List.mem_map.mp ha;exact hi i (h8 i hm)
theorem twv_v{t:Tr}:(twv t).map (·.1)=[Val.int t.1,.str t.2.1,.int t.2.2.1,.str t.2.2.2.1] ++ (t.2.2.2.2.1.map .str ++ t.2.2.2.2.2.map .int):=by
 unfold twv
 simp only [List.map_cons,List.map_append,List.map_map]
 rfl
theorem sV{t:Tr}:(twv t).map (fun a=>Val.str a.2)=(tw t).map Val.str:=by
 unfold twv tw
 simp only [List.map_cons,List.map_append,List.map_map]
 rfl
theorem p9{t:Tr}(ht:eA t):(twv t).length<=8:=by
 have h:=congrArg List.length (sV (t:=t));rw [List.length_map,List.length_map] at h;rw [h]; exact k8 ht
theorem sX{t:Tr}(ht:eA t):((tw t).map (·.length)).sum + (tw t).length * (Str.ofString " ").length<=1000000:=by
 have hl:=lh fun w hw=>(qa ht w hw).2;have h8:=k8 ht;have e:(Str.ofString " ").length=1:=by decide +kernel
 rw [e];omega
theorem mZ{ts:List Tr}(ht:∀ t∈ts,eA t)(hl:ts.length<=110):((ts.map cM).map (·.length)).sum + (ts.map cM).length * (Str.ofString "\n").length<=1000000:=by
 have e:(Str.ofString "\n").length=1:=by decide +kernel
 have:=lh (ps:=ts.map cM) (b:=96) fun p hp=>by
  obtain⟨x,hx,rfl⟩:=List.mem_map.mp hp;exact(lH (ht x hx)).2
 rw [List.length_map] at this;rw [e,List.length_map];omega
theorem uN{t:Tr}{h:Hh}(ht:eA t)(q:QV (.tup ((twv t).map (·.1))) h):wpR (aE h (.tup [.int t.1,.str t.2.1,.int t.2.2.1,.str t.2.2.2.1]) (.tup (t.2.2.2.2.1.map .str ++ t.2.2.2.2.2.map .int))) QV:=by
 refine pA ?_ ?_
 .have h8:=k8 ht;unfold tw at h8
  simp only [List.length_cons,List.length_append,List.length_map,List.length_nil] at h8 ⊢
  omega
 .rw [twv_v] at q;exact q
theorem mJ{t:Tr}(ht:eA t)(q:QV (.str (cM t)) (hT (cel cs) s l g L)):wpR (ao tab (n + 1) 18 [.tup ((twv t).map (·.1))] (hT (cel cs) s l g L)) QV:=by
 refine n4 ?_;unfold d4;walk_at"v";refine⟨rfl,?_⟩;walk_at"v";have hl8:=p9 ht;refine eF (fun a:Val×Str=>a.1) (twv t) (fun _=>true) (fun a=>.str a.2) ?_ (by omega) ?_ ?_
 .walk_at"v";exact⟨rfl,rfl⟩
 .intro a ha;refine⟨_,rfl,?_⟩;walk_at"v";refine⟨rfl,rfl,fun _=>?_⟩;walk_at"v";exact sW ht a ha
 rw [List.filter_eq_self.mpr fun _ _=>rfl,sV];walk_at"v";refine eW (sX ht) ?_;walk_at"v";exact q
theorem show_ok{ts:List Tr}(ht:∀ t∈ts,eA t)(hl:ts.length<=110)(q:QV (.str (fO ts)) (hT (cel cs) s l g L)):wpR (ao tab (n + 2) 19 [.lst (ts.map trV)] (hT (cel cs) s l g L)) QV:=by
 refine lX ?_;unfold dm;walk_at"v";refine⟨rfl,?_⟩;walk_at"v";refine eF trV ts (fun _=>true) (fun t=>.str (cM t)) ?_ (by omega) ?_ ?_
 .walk_at"v";exact⟨rfl,rfl⟩
 .intro a ha;refine⟨_,rfl,?_⟩;walk_at"v";refine⟨rfl,rfl,fun _=>?_⟩;unfold trV;walk_at"v";refine uN (ht a ha) ?_;walk_at"v";refine mJ (ht a ha) ?_;exact⟨rfl,rfl⟩
 rw [List.filter_eq_self.mpr fun _ _=>rfl];walk_at"v";rw [show(ts.map fun t=>Val.str (cM t))=(ts.map cM).map Val.str by rw [List.map_map]; rfl];refine eW (mZ ht hl) ?_;walk_at"v";exact q
end
section
variable{QV:Val->Hh->Prop}{cs:List Int}{s l:Int}{g:GG}{L:List Cel}{n i0:Nat}
theorem o_catRL{md:Md}{h:Hh}{r:Rf}{xs ys:List Val}(hr:h.get r=some (.lst xs))(hl:xs.length + ys.length<=1000000)(q:wpR (bJ md (xs ++ ys) h) QV):wpR (gQ md h (.ref r) (.lst ys)) QV:=by
 have:rdM h (.ref r)=some xs:=by show(match h.get r with | some (.lst xs)=>some xs | _=>none)=_; rw [hr]
 unfold gQ;rw [this];show wpR (if xs.length + ys.length<=1000000 then bJ md (xs ++ ys) h else .err) QV;rw [if_pos hl]; exact q
theorem iC{ps:List Str}{i:Int}{h:Hh}(h0:0<=i)(h1:i < ps.length)(q:∀ p∈ps,QV (.str p) h):wpR (au h (.lst (ps.map Val.str)) (.int i)) QV:=by
 refine dI h0 (by simpa using h1) fun v hv _=>?_;obtain⟨p,hp,rfl⟩:=List.mem_map.mp hv;exact q p hp
theorem split_pos{z y:Str}:0 < (Txt.split z y).length:=by
 unfold Txt.split
 split
 .exact Nat.le_refl 1
 .split
  .exact Nat.le_refl 1
  .simp [PySem.Builtin.Str.partsBetween]
theorem fN{a b:Str}:(a ++ b).length=a.length + b.length:=Array.size_append
theorem cut_le{z:Str}{lo hi:Option Int}:(cutS z lo hi).length<=z.length:=by
 rw [<- str_len,show(cutS z lo hi).cps.toList=(z.cps.toList.drop (HT.sIx z.length 0 lo)).take (HT.sIx z.length z.length hi - HT.sIx z.length 0 lo) from rfl,List.length_take,List.length_drop,str_len];omega
theorem o_lenRx{r:Rf}{xs:List Val}{h:Hh}(hr:h.get r=some (.lst xs))(q:QV (.int xs.length) h):wpR (cz h [.ref r]) QV:=by
 exact o_lenR hr q
theorem at_strR{ps:List Str}{i:Int}{r:Rf}{h:Hh}(hr:h.get r=some (.lst (ps.map .str)))(h0:0<=i)(h1:i < ps.length)(q:∀ p∈ps,QV (.str p) h):wpR (au h (.ref r) (.int i)) QV:=by
 obtain⟨v,e,hv,_⟩:=pT (xs:=ps.map Val.str) (i:=i) (by intro e; have h9:=List.map_eq_nil_iff.mp e; subst h9; exact absurd h1 (by simp; omega)) h0 (by rw [List.length_map]; exact h1);obtain⟨p,hp,rfl⟩:=List.mem_map.mp hv;exact o_ixR hr e (q p hp)
theorem mp3{a b:List Str}{k j:Nat}:List.take k (List.map Val.str a) ++ List.map Val.str b ++ List.drop j (List.map Val.str a)=(a.take k ++ b ++ a.drop j).map Val.str:=by
 rw [List.map_append,List.map_append,List.map_take,List.map_drop]
theorem sumJ{ps:List Str}{y:Str}(hy:y.length=1)(h:sz ps<=1000000):(ps.map (·.length)).sum + ps.length * y.length<=1000000:=by
 unfold sz at h;rw [hy];omega
theorem rf{z:Str}{ws:List Str}{B:Nat}(hat:L[i0]?=some (.lst (ws.map .str)))(hz:z.length<=B)(hB:B<=40000)(hw0:0 < ws.length)(hw1:ws.length<=1000)(hw:∀ w∈ws,w.length<=4400)(hs:0<=s/\s < 900000000000)
  (q:∀ (z':Str) s' l',z'.length<=3 * B + 5000->s<=s'/\s'<=s + 10->QV (.str z') (hT (cel cs) s' l' g L)) :
  wpR (ao tab (n + 2) 2 [T0,.str z,.ref (.loc i0)] (hT (cel cs) s l g L)) QV:=by
 refine g5 ?_;unfold bM;walk_at"v";refine⟨rfl,?_⟩;walk_at"v";refine dS (a:=z) (b:="\n") (by decide +kernel) (by omega) ?_;have hrs:=eN (z:=z) nl1;have hr0:=split_pos (z:=z) (y:="\n");generalize Txt.split z "\n" = rows at *;have hrl:=@hY rows;walk_at"v";rw [List.length_map];refine cj hs.1 (by omega) (by omega) (by omega) fun a s1 l1 a0 a1 a2 a3=>?_;walk_at"v";refine iC a0 a1 fun row hrow=>?_;have hrw:=f6 hrow;walk_at"v";refine⟨rfl,?_⟩;walk_at"v";refine dS (a:=row) (b:=" ") (by decide +kernel) (by omega) ?_;have hws:=eN (z:=row) bl1;have hw9:=split_pos (z:=row) (y:=" ");generalize Txt.split row " " = wds at *;have hwl:=@hY wds;walk_at"v";rw [List.length_map];refine cj (by omega) (by omega) (by omega) (by omega) fun b s2 l2 b0 b1 b2 b3=>?_;walk_at"v";refine o_lenRx (fH.trans hat) ?_;walk_at"v";rw [List.length_map];refine cj (by omega) (by omega) (by omega) (by omega) fun c s3 l3 c0 c1 c2 c3=>?_;walk_at"v";refine at_strR (fH.trans hat) c0 c1 fun w hwm=>?_;have hw2:=hw w hwm;walk_at"v";have hsg:(Str.ofString "abcdefghijklmnopqrstuvwxyzABCDEFGHIJKLMNOPQRSTUVWXYZ0123456789!#$&'()*+,-./:;<=>?\x40[]^_{|}~ \n").length=92:=by decide +kernel
 generalize Str.ofString "abcdefghijklmnopqrstuvwxyzABCDEFGHIJKLMNOPQRSTUVWXYZ0123456789!#$&'()*+,-./:;<=>?\x40[]^_{|}~ \n" = sg at *;refine cj (by omega) (by omega) (by omega) (by omega) fun d s4 l4 d0 d1 d2 d3=>?_;refine o_ixS (by omega) d0 (by rw [str_len]; omega) fun c9 _=>?_;have hc9:(chS c9).length=1:=rfl;generalize chS c9=sign at *;walk_at"v";refine gR (by omega) ?_;walk_at"v";refine cj (by omega) (by omega) (by omega) (by omega) fun e s5 l5 e0 e1 e2 e3=>?_;obtain⟨ak,rfl⟩:=Int.eq_ofNat_of_zero_le a0;obtain⟨bk,rfl⟩:=Int.eq_ofNat_of_zero_le b0;walk_at"v";refine⟨rfl,?_⟩;walk_at"v";refine da (by simp only [List.length_take,List.length_map,List.length_cons,List.length_nil]; omega) ?_;walk_at"v";refine da (by simp only [List.length_append,List.length_drop,List.length_take,List.length_map,List.length_cons,List.length_nil]; omega) ?_;walk_at"v";have hs1:=tM (ps:=wds) (one:=[w]) (k:=bk);rw [show sz [w]=w.length + 1 from ck] at hs1;rw [show List.take bk (List.map Val.str wds) ++ [Val.str w] ++ List.drop (bk + 1) (List.map Val.str wds)=_ from mp3 (b:=[w])];refine eW (sumJ bl1 (by omega)) ?_;have hj1:=lW (ps:=wds.take bk ++ [w] ++ wds.drop (bk + 1)) bl1;generalize Txt.join " " (wds.take bk ++ [w] ++ wds.drop (bk + 1))=j1 at *;walk_at"v";refine iC a0 a1 fun ra hra=>?_;have hra9:=f6 hra;walk_at"v";refine iC a0 a1 fun rb hrb=>?_;have hrb9:=f6 hrb;walk_at"v";rw [List.length_map];refine cj (by omega) (by omega) (by omega) (by omega) fun f s6 l6 f0 f1 f2 f3=>?_;walk_at"v";refine iC f0 f1 fun rc hrc=>?_;have hrc9:=f6 hrc;walk_at"v";refine⟨rfl,?_⟩;walk_at"v";refine da (by simp only [List.length_append,List.length_drop,List.length_take,List.length_map,List.length_cons,List.length_nil]; omega) ?_;walk_at"v";refine da (by simp only [List.length_append,List.length_drop,List.length_take,List.length_map,List.length_cons,List.length_nil]; omega) ?_;walk_at"v";have hs2:=sz_ins (ps:=wds) (one:=[w]) (k:=bk);rw [show sz [w]=w.length + 1 from ck] at hs2;rw [show List.take bk (List.map Val.str wds) ++ [Val.str w] ++ List.drop bk (List.map Val.str wds)=_ from mp3 (b:=[w])];refine eW (sumJ bl1 (by omega)) ?_;have hj2:=lW (ps:=wds.take bk ++ [w] ++ wds.drop bk) bl1;generalize Txt.join " " (wds.take bk ++ [w] ++ wds.drop bk)=j2 at *;walk_at"v";refine o_catRL (fH.trans gw) (by simp) ?_;refine k9 rfl ?_;walk_at"v";refine iC a0 a1 fun rd hrd=>?_;have hrd9:=f6 hrd;walk_at"v";rw [List.length_map];refine cj (by omega) (by omega) (by omega) (by omega) fun f2 s7 l7 g0 g1 g2 g3=>?_;walk_at"v";refine iC g0 g1 fun re hre=>?_;have hre9:=f6 hre;walk_at"v";have hone:∀ ps∈[[j1],[],[ra,rb],[rc],[j2],[rd,re]],sz ps<=2 * B + 4410:=by
  simp only [List.forall_mem_cons,ck,hW]
  refine⟨by omega,by omega,by omega,by omega,by omega,by omega,fun w h=>by cases h⟩
 have hput:∀ ps:List Str,sz ps<=2 * B + 4410->sz (rows.take ak ++ ps ++ rows.drop (ak + 1))<=3 * B + 4411:=fun ps h=>by
  have:=tM (ps:=rows) (one:=ps) (k:=ak);omega
 refine w_lcC (fun ps:List Str=>.lst (ps.map .str)) [[j1],[],[ra,rb],[rc],[j2],[rd,re]] (fun _=>true) (fun ps=>.lst ((rows.take ak ++ ps ++ rows.drop (ak + 1)).map .str)) (h':=hT (cel cs) s7 l7 g (L ++ [.lst [.lst [.str j1],.lst [],.lst [.str ra,.str rb]],.lst [.lst [.str j1],.lst [],.lst [.str ra,.str rb],.lst [.str rc],.lst [.str j2],.lst [.str rd,.str re]]])) ?_ (by simp) ?_ ?_
 .walk_at"v";exact wk_ref (fH.trans mE) ⟨_,rfl,rfl,fH.trans mE⟩
 .intro ps hps;have h9:=@hY ps;have h8:=hone ps hps;refine⟨_,rfl,?_⟩;walk_at"v";refine⟨rfl,rfl,fun _=>?_⟩;walk_at"v";refine da (by simp only [List.length_append,List.length_drop,List.length_take,List.length_map,List.length_cons,List.length_nil]; omega) ?_;walk_at"v";refine da (by simp only [List.length_append,List.length_drop,List.length_take,List.length_map,List.length_cons,List.length_nil]; omega) ?_;refine⟨rfl,?_⟩;rw [mp3]
 rw [List.filter_eq_self.mpr fun _ _=>rfl];walk_at"v";have hall:∀ ps∈[[j1],[],[ra,rb],[rc],[j2],[rd,re]].map (fun ps=>rows.take ak ++ ps ++ rows.drop (ak + 1)) ++ [rows ++ [Str.ofString ""],rows.take ak,Str.ofString "" :: rows],sz ps<=3 * B + 4412:=by
  intro ps hps;rcases List.mem_append.mp hps with h | h
  .obtain⟨p,hp,rfl⟩:=List.mem_map.mp h;exact Nat.le_succ_of_le (hput p (hone p hp))
  .have e0:(Str.ofString "").length=0:=by decide +kernel
   have:=tL (ps:=rows) ak
   simp only [List.mem_cons,List.not_mem_nil,or_false] at h
   rcases h with rfl | rfl | rfl
   .rw [f7,ck,hW,e0]; omega
   .omega
   .rw [ck,e0]; omega
 refine eF (fun ps:List Str=>.lst (ps.map .str)) ([[j1],[],[ra,rb],[rc],[j2],[rd,re]].map (fun ps=>rows.take ak ++ ps ++ rows.drop (ak + 1)) ++ [rows ++ [Str.ofString ""],rows.take ak,Str.ofString "" :: rows]) (fun _=>true) (fun ps=>.str (Txt.join "\n" ps)) ?_ (by simp) ?_ ?_
 .walk_at"v";refine⟨?_,rfl⟩
  simp only [List.map_append,List.map_cons,List.map_nil,List.map_take,List.map_drop,List.cons_append,List.nil_append]
 .intro ps hps;have h8:=hall ps hps;refine⟨_,rfl,?_⟩;walk_at"v";refine⟨rfl,rfl,fun _=>?_⟩;walk_at"v";refine⟨rfl,?_⟩;walk_at"v";refine eW (sumJ nl1 (by omega)) ?_;exact⟨rfl,rfl⟩
 rw [List.filter_eq_self.mpr fun _ _=>rfl];walk_at"v";have c1:=fun(lo hi:Option Int)=>cut_le (z:=z) (lo:=lo) (hi:=hi);refine eV (by omega) ?_;walk_at"v";refine dA (by have:=c1 none (some e); omega) ?_;walk_at"v";refine eV (by omega) ?_;walk_at"v";refine dA (by have:=c1 none (some e); have:=c1 (some e) none; rw [fN]; omega) ?_;walk_at"v";refine eV (by omega) ?_;walk_at"v";refine dA (by have:=c1 none (some e); omega) ?_;walk_at"v";refine eV (by omega) ?_;walk_at"v";refine dA (by have:=c1 none (some e); have:=c1 (some (e + 1)) none; rw [fN]; omega) ?_;walk_at"v";refine cj (by omega) (by omega) (by omega) (by omega) fun v s8 l8 v0 v1 v2 v3=>?_;refine dI v0 (by simp; omega) fun y hy _=>?_;obtain⟨z',rfl,hz'⟩:∃ z':Str,y = .str z'/\z'.length<=3 * B + 5000:=by
  rcases List.mem_append.mp hy with h | h
  .obtain⟨ps,hps,rfl⟩:=List.mem_map.mp h;have h1:=hall ps hps;have h2:=lW (ps:=ps) nl1;exact⟨_,rfl,by omega⟩
  .simp only [List.mem_cons,List.not_mem_nil,or_false] at h
   have h1:=c1 none (some e);have h2:=c1 (some e) none;have h3:=c1 (some (e + 1)) none;rcases h with rfl | rfl
   .exact⟨_,rfl,by rw [fN,fN]; omega⟩
   .exact⟨_,rfl,by rw [fN,fN]; omega⟩
 exact i7 rfl (q z' s8 l8 hz' (by omega))
end
section
variable{QV:Val->Hh->Prop}{c0:Val}{cs:List Int}{s l:Int}{g:GG}{L:List Cel}{n:Nat}{h:Hh}
theorem tape_ok{ns:List Int}(q:QV T0 (hT (cel (ns.take 63)) 0 0 (fun _=>[]) [])):wpR (ao tab (n + 1) 9 [.scr ns] h0) QV:=by
 refine mj ?_;unfold dw;walk_at"v";refine o_slScr 63 rfl ?_;walk_at"v";have e:dc [] [((.inr "cells" : Key),cel (ns.take 63)),(.inr "spot",.int 0),(.inr "left",.int 0)]=tpk (cel (ns.take 63)) 0 0:=rfl;rw [e];have hn:nlp (tpk (cel (ns.take 63)) 0 0)=true:=by
  show((cel (ns.take 63)).nl && (true && (true && true)))=true;rw [nl_lst fun _=>rfl]; rfl
 refine p6 hn ?_;rw [tape0];exact eE (c:=cel []) (s:=0) (l:=0) (g:=fun _=>[]) (L:=[]) rfl q
theorem sv_tr{t:Tr}(h1:PyData.strOk t.2.1=true)(h2:PyData.strOk t.2.2.2.1=true)(h3:∀ w∈t.2.2.2.2.1,PyData.strOk w=true):Sv 2 (trV t):=by
 refine lg (dQ jl (dQ (oJ h1) (dQ jl (dQ (oJ h2) (dQ (lg fun x hx=>?_) oK)))));rcases List.mem_append.mp hx with hx | hx
 .obtain⟨w,hw,rfl⟩:=List.mem_map.mp hx;exact oJ (h3 w hw)
 .obtain⟨i,_,rfl⟩:=List.mem_map.mp hx;exact jl
theorem sA{w:Str}(h:dO w=true):PyData.strOk w=true:=by
 unfold dO at h;obtain⟨_,h⟩:=Bool.and_eq_true_iff.mp h;rw [List.all_map] at h;have h:=List.all_eq_true.mp h;show w.cps.all (· < 0x110000)=true;rw [<- Array.all_toList];refine List.all_eq_true.mpr fun c hc=>decide_eq_true ?_;have h9:c∈LT.cps.toList:=of_decide_eq_true (h c hc);have e:∀ c∈LT.cps.toList,c < 0x110000:=by decide +kernel
 exact e c h9
theorem key_mem{d:Str}{i:Int}(h:decide (i∈bb d)=true):d∈fR.map (·.1):=by
 have h:=of_decide_eq_true h;unfold bb at h
 cases e:fR.lookup d with
 | none=>rw [e] at h; cases h
 | some is=>exact List.mem_map.mpr ⟨_,eX e,rfl⟩
theorem kY{k:Nat}{w:Str}(h:Wl k w):PyData.strOk w=true:=by
 show w.cps.all (· < 0x110000)=true;rw [<- Array.all_toList];exact List.all_eq_true.mpr fun c hc=>decide_eq_true (by have:=h.1 c hc; omega)
theorem sv_onR{r:Str}:Sv 2 (onR (cS r)):=by
 cases e:cS r with
 | none=>exact sv_non
 | some t =>
  unfold cS ep at e
  split at e
  .split at e
   .rename_i h1
    split at e
    .rename_i h2
     split at e
     .split at e
      .rename_i h3
       injection e with e
       subst e;exact sv_tr (sA h2) (kY (lV _ (key_mem h1))) fun w hw=>sA (List.all_eq_true.mp h3 w hw)
      .cases e
     .cases e
    .cases e
   .cases e
  .cases e
theorem sv_row{t:Tr}(h:eA t):Sv 2 (trV t):=sv_tr (kY h.2.1) (kY (lV _ h.2.2.2.1)) fun w hw=>kY (h.2.2.2.2.2.2.1 w hw)
theorem sv_due{rows:List Str}{o:Option Nat}:Sv 3 (dueV rows o):=by
 cases o with
 | none=>exact tO (tN fun r _=>sv_onR)
 | some j=>exact(lg (dQ jl oK)).mono (by decide:1<=3)
def Thg(x:Val):Prop:=NoTx x\/∃ z:Str,x = .str z/\z.length<=150000
theorem lG{z:Str}(hz:z.length<=150000):(rowsOf z).length<=160000:=by
 have h1:=@hY (rowsOf z);have h2:=@rB z;omega
theorem kJ:∀ {n:Nat} {a c:Array Nat},((List.replicate n c).foldl (· ++ ·) a).size=a.size + n * c.size
 | 0,a,c=>by simp
 | n + 1,a,c=>by
  rw [List.replicate_succ,List.foldl_cons,kJ,Array.size_append,Nat.succ_mul];omega
theorem mul_le{z:Str}{k:Nat}(hk:1<=k):(Txt.mul z (k:Int)).length<=k * z.length:=by
 unfold Txt.mul
 split
 .exact Nat.zero_le _
 .split
  .exact Nat.le_mul_of_pos_left _ hk
  .show((List.replicate ((k:Int)).toNat z.cps).foldl (· ++ ·) #[]).size<=_;rw [kJ,Int.toNat_natCast];exact Nat.le_of_eq (Nat.zero_add _)
theorem hrun:∀ ns:List Int,ns.length<=63->∃ h',ao tab 40 20 [.scr ns] h0 = .ok (.bl true) h':=by
 intro ns _
 suffices h:wpR (ao tab 40 20 [.scr ns] h0) fun v _=>v = .bl true by
  obtain⟨v,h',e,rfl⟩:=h.get;exact⟨h',e⟩
 refine go_law ?_;unfold qT;walk_at"v";refine tape_ok ?_;walk_at"v";generalize ns.take 63=cs;refine sv (m:=6) (by decide) (by omega) fun wd s0 l0 hwl hww hs0=>?_;walk_at"v";refine iz fun g1 kk hg=>?_;walk_at"v";refine nv (fD hg) lU (by decide +kernel) ?_;walk_at"v";have hsl:(mO (fR.map (·.1))).length=10:=by rw [fB.length_eq]; rfl
 have hsw:∀ w∈mO (fR.map (·.1)),w.length<=4400:=fun w hw=>by
  have:=(lV w (fB.mem_iff.mp hw)).len;omega
 generalize mO (fR.map (·.1))=st at *;refine da (by rw [List.length_map,List.length_map]; omega) ?_;walk_at"v";refine o_catD (by simp only [List.length_append,List.length_map,List.length_cons,List.length_nil]; omega) ?_;refine hV (by rw [gS,gS,cJ fun _=>rfl,cJ fun _=>rfl]; rfl) ?_;walk_at"v";refine o_mulS (by decide +kernel) (by decide) ?_;have hm1:(Txt.mul (Str.ofString "1") 4400).length<=4400:=by
  have h1:=mul_le (z:=Str.ofString "1") (k:=4400) (by decide);have e:(Str.ofString "1").length=1:=by decide +kernel
  rw [e] at h1;exact h1
 generalize Txt.mul (Str.ofString "1") 4400=ones at *;walk_at"v";refine t_ext (L:=[]) (M:=[]) (by rfl) (by simp only [List.length_append,List.length_map,List.length_cons,List.length_nil]; omega) ?_;walk_at"v";obtain⟨ws,hws,hw0,hw1,hw⟩:∃ ws:List Str,((List.map Val.str st ++ List.map Val.str wd ++ [Val.str (Str.ofString "0"),Val.str (Str.ofString "-1"),Val.str (Str.ofString "-0"),Val.str (Str.ofString "01"),Val.str (Str.ofString "10"),Val.str (Str.ofString "1000000000"),Val.str (Str.ofString "1000000001"),Val.str (Str.ofString ""),Val.str (Str.ofString "A")]) ++ [Val.str ones,Val.str (Str.ofString "9999999999"),Val.str (Str.ofString "-9999999999"),Val.str (Str.ofString "10000000000"),Val.str (Str.ofString "-1234567890"),Val.str (Str.ofString "-12345678901"),Val.str (Str.ofString "00"),Val.str (Str.ofString "--1")])=ws.map Val.str/\0 < ws.length/\ws.length<=1000/\∀ w∈ws,w.length<=4400:=by
  refine⟨st ++ wd ++ (["0","-1","-0","01","10","1000000000","1000000001","","A"]:List Str) ++ (ones :: (["9999999999","-9999999999","10000000000","-1234567890","-12345678901","00","--1"]:List Str)),?_,?_,?_,?_⟩
  .simp only [List.map_append]; rfl
  .simp only [List.length_append,List.length_cons,List.length_nil]; omega
  .simp only [List.length_append,List.length_cons,List.length_nil]; omega
  .intro w hm;rcases List.mem_append.mp hm with hm | hm
   .rcases List.mem_append.mp hm with hm | hm
    .rcases List.mem_append.mp hm with hm | hm
     .exact hsw w hm
     .have:=(hww w hm).len; omega
    .have e:∀ w∈(["0","-1","-0","01","10","1000000000","1000000001","","A"]:List Str),w.length<=4400:=by decide +kernel
     exact e w hm
   .rcases List.mem_cons.mp hm with rfl | hm
    .exact hm1
    .have e:∀ w∈(["9999999999","-9999999999","10000000000","-1234567890","-12345678901","00","--1"]:List Str),w.length<=4400:=by decide +kernel
     exact e w hm
 rw [hws];refine loopN (fun i δ h=>∃ (s l:Int) (g:GG) (o4 o5 o6 o7 o8 o9 o10 o11 o12 o13:Option Val),δ = [some (.scr ns),some T0,some (.lst (wd.map .str)),some (.ref (.loc 0)),o4,o5,o6,o7,o8,o9,o10,o11,o12,o13]/\h=hT (cel cs) s l g [.lst (ws.map .str)]/\0<=s/\s<=12000 * i + 60) ?_ ?_ ?_
 .exact⟨s0,l0,_,_,_,_,_,_,_,_,_,_,_,rfl,rfl,by omega,by omega⟩
 .rintro i δ h hi ⟨s,l,g,o4,o5,o6,o7,o8,o9,o10,o11,o12,o13,rfl,rfl,s0,s1⟩;have hi:i < 4:=hi;refine⟨_,rfl,?_⟩;walk_at"v";refine p7 ?_;walk_at"v";refine dI (by omega) (by simp; omega) fun v hv _=>?_;obtain⟨m,rfl,hm⟩:∃ m:Nat,v = .int m/\m<=110:=by
   simp only [List.mem_cons,List.not_mem_nil,or_false] at hv
   rcases hv with rfl | rfl | rfl | rfl
   .exact⟨0,rfl,by decide⟩
   .exact⟨4,rfl,by decide⟩
   .exact⟨30,rfl,by decide⟩
   .exact⟨110,rfl,by decide⟩
  walk_at"v";refine⟨m,rfl,by omega,fun i acc h=>∃ (ts:List Tr) (s2 l2:Int) (g2:GG),acc=ts.map trV/\ts.length=i/\(∀ t∈ts,eA t)/\s<=s2/\s2<=s + 100 * i/\h=hT (cel cs) s2 l2 g2 [.lst (ws.map .str)],?_,?_,?_⟩
  .exact⟨[],s,l,g,rfl,rfl,by simp,by omega,by omega,rfl⟩
  .rintro k acc h hk ⟨ts,s2,l2,g2,rfl,hl,ht,k1,k2,rfl⟩;refine⟨_,rfl,?_⟩;walk_at"v";refine row_ok (by omega) (by omega) hww ⟨by omega,by omega⟩ fun t s3 l3 g3 htk hs3=>?_;walk_at"v";refine⟨ts ++ [t],s3,l3,g3,by simp,by simp [hl],?_,by omega,by omega,rfl⟩;intro u hu;rcases List.mem_append.mp hu with hu | hu
   .exact ht u hu
   .rw [List.mem_singleton.mp hu]; exact htk
  rintro acc h ⟨us,s2,l2,g2,rfl,hul,hus,k1,k2,rfl⟩;walk_at"v";refine eF trV us (fun _=>true) (fun t=>.str (cM t)) ?_ (by omega) ?_ ?_
  .walk_at"v";exact⟨rfl,rfl⟩
  .intro a ha;refine⟨_,rfl,?_⟩;walk_at"v";refine⟨rfl,rfl,fun _=>?_⟩;unfold trV;walk_at"v";refine⟨rfl,?_⟩;walk_at"v";refine eF (fun a:Val×Str=>a.1) (twv a) (fun _=>true) (fun a=>.str a.2) ?_ (by have:=p9 (hus a ha); omega) ?_ ?_
   .walk_at"v";refine uN (hus a ha) ?_;walk_at"v";exact⟨rfl,rfl⟩
   .intro b hb;refine⟨_,rfl,?_⟩;walk_at"v";refine⟨rfl,rfl,fun _=>?_⟩;walk_at"v";exact sW (hus a ha) b hb
   rw [List.filter_eq_self.mpr fun _ _=>rfl,sV];walk_at"v";refine eW (sX (hus a ha)) ?_;exact⟨rfl,rfl⟩
  rw [List.filter_eq_self.mpr fun _ _=>rfl];walk_at"v";refine⟨rfl,?_⟩;walk_at"v";rw [show(us.map fun t=>Val.str (cM t))=(us.map cM).map Val.str by rw [List.map_map]; rfl];refine eW (mZ hus (by omega)) ?_;walk_at"v";have hx:=rdn_txt hus;have hy:=txt_len hus (by omega);have hz:=lG (z:=fO us) (by omega);have hv:Sv 3 (.lst (us.map trV)):=tO (tN fun t ht=>sv_row (hus t ht));refine s_ifF ?_;walk_at"v";refine show_ok hus (by omega) ?_;walk_at"v";rw [if_neg (by rw [show fO us=Txt.join (Str.ofString "\n") (List.map cM us) from rfl,decide_eq_true rfl]; decide)];walk_at"v";refine oy (z:=fO us) (o:=none) (by omega) hz hx.1 fun g3=>?_;rw [show dueV (rowsOf (fO us)) none = .lst (us.map trV) by show Val.lst (rdV (rowsOf (fO us)))=_; rw [hx.2]];walk_at"v";refine jD hv ?_;walk_at"v";refine⟨rfl,?_⟩;walk_at"v";have hy':(Txt.join (Str.ofString "\n") (us.map cM)).length<=11000:=hy;refine rf (i0:=0) rfl hy' (by decide) hw0 hw1 hw ⟨by omega,by omega⟩ fun z1 s3 l3 hz1 hs3=>?_;walk_at"v";refine cj (by omega) (by omega) (by omega) (by omega) fun v s4 l4 v0 v1 v2 v3=>?_;refine dI v0 (by simp; omega) fun od hod _=>?_;have ho:Thg od:=by
   simp only [List.mem_cons,List.not_mem_nil,or_false] at hod
   rcases hod with rfl | rfl | rfl | rfl | rfl
   .exact .inl (.inl rfl)
   .exact .inl (.inr (.inl ⟨_,rfl⟩))
   .exact .inl (.inr (.inr (.inl ⟨_,rfl⟩)))
   .exact .inl (.inr (.inr (.inr ⟨_,rfl⟩)))
   .exact .inr ⟨_,rfl,by decide +kernel⟩
  walk_at"v";refine rf (i0:=0) (B:=38000) rfl (by omega) (by decide) hw0 hw1 hw ⟨by omega,by omega⟩ fun z2 s5 l5 hz2 hs5=>?_;walk_at"v";refine loopD (fun j δ h=>∃ (g:GG) (o10 o11 o12 o13:Option Val),δ = [some (.scr ns),some T0,some (.lst (wd.map .str)),some (.ref (.loc 0)),some (.int (i:Nat)),some (.lst (us.map trV)),some (.lst ((us.map cM).map .str)),some (.str (fO us)),some (.str z1),some od,o10,o11,o12,o13]/\h=hT (cel cs) s5 l5 g [.lst (ws.map .str)]) ?_ ?_ ?_
  .exact⟨_,_,_,_,_,rfl,rfl⟩
  .rintro j δ h x hx ⟨g,o10,o11,o12,o13,rfl,rfl⟩;have kx:Thg x:=by
    have hx:=List.mem_of_getElem? hx
    simp only [List.mem_cons,List.not_mem_nil,or_false] at hx
    rcases hx with rfl | rfl | rfl
    .exact .inr ⟨_,rfl,by omega⟩
    .exact .inr ⟨_,rfl,by omega⟩
    .exact ho
   refine⟨_,rfl,?_⟩;walk_at"v";refine s_ifF ?_;walk_at"v";rcases kx with kx | ⟨z,rfl,kx⟩
   .refine asked_x kx fun g2=>?_;walk_at"v";refine due_x kx ?_;refine jD (n:=1) (lg (dQ jl oK)) ?_;walk_at"v";exact⟨rfl,_,_,_,_,_,rfl,rfl⟩
   .obtain⟨o,ho⟩:=uq (rowsOf z);refine oy kx (lG kx) ho fun g2=>?_;walk_at"v";refine due_ok kx (lG kx) ho fun g4=>?_;refine jD sv_due ?_;walk_at"v";exact⟨rfl,_,_,_,_,_,rfl,rfl⟩
  .rintro δ h ⟨g,o10,o11,o12,o13,rfl,rfl⟩;walk_at"v";exact⟨s5,l5,_,_,_,_,_,_,_,_,_,_,_,rfl,rfl,by omega,by omega⟩
 .rintro δ h ⟨s,l,g,o4,o5,o6,o7,o8,o9,o10,o11,o12,o13,rfl,rfl,s0,s1⟩;walk_at"v";exact kZ rfl rfl
end
end K13
namespace K13
open PySem PySem.Spec PyProof.Rows L2 B M
structure Txt(p:Pm):Prop where
 n_scene:p.nm 0 = "scene"/\0 < p.nf
 n_forms:p.nm 1 = "forms"/\1 < p.nf
 n_spots:p.nm 2 = "spots"/\2 < p.nf
 n_number:p.nm 3 = "number"/\3 < p.nf
 n_way:p.nm 4 = "way"/\4 < p.nf
 n_touches:p.nm 5 = "touches"/\5 < p.nf
 n_spot:p.nm 6 = "spot"/\6 < p.nf
 n_contest:p.nm 7 = "contest"/\7 < p.nf
 n_labelled:p.nm 8 = "labelled"/\8 < p.nf
 n_part:p.nm 9 = "part"/\9 < p.nf
 n_wish:p.nm 10 = "wish"/\10 < p.nf
 n_kind:p.nm 11 = "kind"/\11 < p.nf
 n_label:p.nm 12 = "label"/\12 < p.nf
 n_strokes:p.nm 13 = "strokes"/\13 < p.nf
 n_state:p.nm 14 = "state"/\14 < p.nf
 n_since:p.nm 15 = "since"/\15 < p.nf
 n_why:p.nm 16 = "why"/\16 < p.nf
 n_taps:p.nm 17 = "taps"/\17 < p.nf
 n_machine_at:p.nm 18 = "machine_at"/\18 < p.nf
 n_is_lifted:p.nm 19 = "is_lifted"/\19 < p.nf
 n_due:p.nm 20 = "due"/\20 < p.nf
 n_counted:p.nm 21 = "counted"/\21 < p.nf
 n_claimed:p.nm 22 = "claimed"/\22 < p.nf
 n_begun_with:p.nm 23 = "begun_with"/\23 < p.nf
 n_told_at:p.nm 24 = "told_at"/\24 < p.nf
 n_is_over:p.nm 25 = "is_over"/\25 < p.nf
 n_parts:p.nm 26 = "parts"/\26 < p.nf
 n_beside:p.nm 27 = "beside"/\27 < p.nf
 n_heeds:p.nm 28 = "heeds"/\28 < p.nf
 n_slop:p.nm 29 = "slop"/\29 < p.nf
 n_gap:p.nm 30 = "gap"/\30 < p.nf
 n_guessing:p.nm 31 = "guessing"/\31 < p.nf
 n_shelves:p.nm 32 = "shelves"/\32 < p.nf
 n_hopes:p.nm 33 = "hopes"/\33 < p.nf
 n_time:p.nm 34 = "time"/\34 < p.nf
 n_touched:p.nm 35 = "touched"/\35 < p.nf
 n_claims:p.nm 36 = "claims"/\36 < p.nf
 n_rows:p.nm 37 = "rows"/\37 < p.nf
 n_contests:p.nm 38 = "contests"/\38 < p.nf
 n_seen:p.nm 39 = "seen"/\39 < p.nf
 n_time_told:p.nm 40 = "time_told"/\40 < p.nf
 n_held:p.nm 41 = "held"/\41 < p.nf
 n_ears:p.nm 42 = "ears"/\42 < p.nf
 n_away:p.nm 43 = "away"/\43 < p.nf
 n_deeds:p.nm 44 = "deeds"/\44 < p.nf
 n_reader:p.nm 45 = "reader"/\45 < p.nf
 n_watchers:p.nm 46 = "watchers"/\46 < p.nf
 n_name:p.nm 47 = "name"/\47 < p.nf
 n_box:p.nm 48 = "box"/\48 < p.nf
 n_ear:p.nm 49 = "ear"/\49 < p.nf
 n_shelf:p.nm 50 = "shelf"/\50 < p.nf
 n_wishes:p.nm 51 = "wishes"/\51 < p.nf
 n_within:p.nm 52 = "within"/\52 < p.nf
 n_about:p.nm 53 = "about"/\53 < p.nf
 n_names:p.nm 54 = "names"/\54 < p.nf
 n_named:p.nm 55 = "named"/\55 < p.nf
 n_states:p.nm 56 = "states"/\56 < p.nf
 n_wanted:p.nm 57 = "wanted"/\57 < p.nf
 n_machine:p.nm 58 = "machine"/\58 < p.nf
 n_other:p.nm 59 = "other"/\59 < p.nf
 n_wants:p.nm 60 = "wants"/\60 < p.nf
 n_best:p.nm 61 = "best"/\61 < p.nf
 n_lines:p.nm 62 = "lines"/\62 < p.nf
 n_row:p.nm 63 = "row"/\63 < p.nf
 xc_NoText:XcOk p "NoText" 10 (some 63)
 xm_NoText:XmOk p "NoText" 10 [(10,true)]
 xf_row:∀ c∈[10],XfOk p c 63
 xi_ValueError:∀ c b,(c,b)∈[(10,true)]->XcIs p.K (p.ca c)/\PySem.W.kitOne p.K (.ref (p.ca c)) (.type "ValueError")=some b
 m__law_asked:p.mg "_law_asked" = some (.ref (p.fa 0))
 m__law_draw:p.mg "_law_draw" = some (.ref (p.fa 1))
 m__law_bent_text:p.mg "_law_bent_text" = some (.ref (p.fa 2))
 m__law_counts:p.mg "_law_counts" = some (.ref (p.fa 3))
 m__law_number:p.mg "_law_number" = some (.ref (p.fa 4))
 m__law_word:p.mg "_law_word" = some (.ref (p.fa 5))
 m__law_in:p.mg "_law_in" = some (.ref (p.fa 6))
 m__law_due:p.mg "_law_due" = some (.ref (p.fa 7))
 m__law_row:p.mg "_law_row" = some (.ref (p.fa 8))
 m__law_tape:p.mg "_law_tape" = some (.ref (p.fa 9))
 m__law_words:p.mg "_law_words" = some (.ref (p.fa 10))
 m_rows_in:p.mg "rows_in" = some (.ref (p.fa 11))
 m_is_whole:p.mg "is_whole" = some (.ref (p.fa 12))
 m_is_moment:p.mg "is_moment" = some (.ref (p.fa 13))
 m_is_word:p.mg "is_word" = some (.ref (p.fa 14))
 m_number_in:p.mg "number_in" = some (.ref (p.fa 15))
 m_told_in:p.mg "told_in" = some (.ref (p.fa 16))
 m_read_told:p.mg "read_told" = some (.ref (p.fa 17))
 m_words_of:p.mg "words_of" = some (.ref (p.fa 18))
 m_show_told:p.mg "show_told" = some (.ref (p.fa 19))
 m_law:p.mg "law" = some (.ref (p.fa 20))
 b_isinstance:p.mg "isinstance" = none
 b_bool:p.mg "bool" = none
 b_ValueError:p.mg "ValueError" = none
 b_len:p.mg "len" = none
 b_int:p.mg "int" = none
 b_all:p.mg "all" = none
 b_tuple:p.mg "tuple" = none
 b_enumerate:p.mg "enumerate" = none
 b_str:p.mg "str" = none
 b_range:p.mg "range" = none
 b_sorted:p.mg "sorted" = none
 g_LAST_MOMENT:hR p "LAST_MOMENT" (.int 1000000000)
 g_LETTERS:hR p "LETTERS" (.str "abcdefghijklmnopqrstuvwxyz")
 g_LONGEST:hR p "LONGEST" (.int 8)
 g_FIGURES:hR p "FIGURES" (.str "0123456789")
 g_MOST_FIGURES:hR p "MOST_FIGURES" (.int 10)
 km_MANY:KmapP p "MANY" [("tapped",[2]),("began",[0]),("moved",[2,4]),("ended",[0]),("flung",[2]),("off",[0]),("shelf",[3]),("over",[2]),("guess",[0]),("back",[0])]
abbrev hP:List Str:=["_law_asked_here","_law_text","_law_found","_law_caught","e"]
abbrev mH:List Str:=["_law_asked_here","_law_text"]
theorem jZ:FnScope hP mH (defScope bp):=⟨rfl,rfl,rfl,by decide +kernel,rfl,by decide +kernel,by decide +kernel⟩
theorem lM{p:Pm}{n:Nat}(X:Txt p)(hc:aH p tab n):SSs (ctx p n 0 "_law_asked" bp hP) (defBody bp) (cy (ao tab n)) :=
  (aj (ax (i:=2) rfl (.inl rfl) aY)
  (aj (ax (i:=3) rfl (.inl rfl) aY)
  (aj (ss_tryK (i:=4) (j:=3) (c0:=10) (tbl:=[(10,true)]) 95 rfl rfl rfl rfl rfl rfl X.xm_NoText.mg X.xm_NoText.ex (ay (ax (i:=2) rfl (.inl rfl) (uc (i:=0) hc (fun f hq=>(by rcases List.mem_cons.mp hq with rfl | hq; exact⟨e5,cH,rfl⟩; exact nomatch hq)) (Nat.le_add_right _ _) rfl (.inl rfl) (aa (va 1 rfl rfl) af)))))
  (aj (bB (bO kR (va 3 rfl rfl) aY) (ay (aG (va 2 rfl rfl))) aP)
  (ay (aG (kq (bz (hZ (c5 (se_isX (x:="ValueError") (T:="ValueError") [(10,true)] X.xi_ValueError (by kernel_rfl) (by rfl) X.b_isinstance (by rfl) X.b_ValueError (va 3 rfl rfl))) (fy (c6 (c5 (ie .bool rfl (by rfl) X.b_isinstance (by rfl) X.b_bool (qr [10] X.n_row.1 X.xf_row (va 3 rfl rfl)))))))) (gi (aa (qr [10] X.n_row.1 X.xf_row (va 3 rfl rfl)) af)) aw)))))))
abbrev i3:List Str:=["_law_tape_here","_law_many","_law_found","_law_spot","_law_cells","_law_cell","_law_great","_law_primes","_law_prime","_law_seed"]
abbrev oG:List Str:=["_law_tape_here","_law_many"]
theorem lE:FnScope i3 oG (defScope bI):=⟨rfl,rfl,rfl,by decide +kernel,rfl,by decide +kernel,by decide +kernel⟩
theorem nk{p:Pm}{n:Nat}(X:Txt p)(hc:aH p tab n):SSs (ctx p n 1 "_law_draw" bI i3) (defBody bI) (cP (ao tab n)) :=
  (aj (bB (bO qX (sb (va 0 rfl rfl) aw) ai) (aj (ax (i:=2) rfl (.inl rfl) (cQ (sb (va 0 rfl rfl) aw) (va 1 rfl rfl)))
  (aj (ll (va 0 rfl rfl) aw (jd (sb (va 0 rfl rfl) aw) (va 1 rfl rfl)))
  (ay (aG (va 2 rfl rfl))))) aP)
  (aj (ax (i:=3) rfl (.inl rfl) (sb (va 0 rfl rfl) aw))
  (aj (ll (va 0 rfl rfl) aw (aB (va 3 rfl rfl) ai))
  (aj (ax (i:=4) rfl (.inl rfl) (se_or (sb (va 0 rfl rfl) aw) (lr (aC .dat (aa ai af)))))
  (aj (ax (i:=5) rfl (.inl rfl) (sb (va 4 rfl rfl) (cQ (va 3 rfl rfl) (aZ (by rfl) X.b_len (aa (va 4 rfl rfl) af)))))
  (aj (bB (bz (hZ (bO cs_ge (va 5 rfl rfl) (bD ai ai)) (fy (bO qW (va 3 rfl rfl) (aZ (by rfl) X.b_len (aa (va 4 rfl rfl) af)))))) (aj (ax (i:=6) rfl (.inl rfl) (cQ (gj (va 5 rfl rfl) (bD ai ai)) (bD (bD (bD ai ai) ai) ai)))
  (aj (ll (va 0 rfl rfl) aw (jd (va 6 rfl rfl) (va 1 rfl rfl)))
  (ay (aG (cQ (va 6 rfl rfl) (va 1 rfl rfl)))))) aP)
  (aj (ax (i:=7) rfl (.inl rfl) (aC .dat (aa ai (aa ai (aa ai (aa ai (aa ai (aa ai (aa ai af)))))))))
  (aj (ax (i:=8) rfl (.inl rfl) (sb (va 7 rfl rfl) (cQ (va 3 rfl rfl) ai)))
  (aj (ax (i:=9) rfl (.inl rfl) (cQ (aB (aB (aB (eQ (cQ (va 5 rfl rfl) (va 8 rfl rfl)) ai) (eQ (eQ ai (va 3 rfl rfl)) (va 3 rfl rfl))) (eQ ai (va 3 rfl rfl))) ai) (va 8 rfl rfl)))
  (aj (ax (i:=9) rfl (.inl rfl) (cQ (eQ (va 9 rfl rfl) (aB (va 9 rfl rfl) ai)) (sb (va 7 rfl rfl) (cQ (aB (va 3 rfl rfl) ai) ai))))
  (aj (ax (i:=2) rfl (.inl rfl) (jd (cQ (eQ (va 9 rfl rfl) (va 9 rfl rfl)) (va 8 rfl rfl)) ai))
  (aj (bB (bO qX (va 1 rfl rfl) (bD ai ai)) (ay (ax (i:=2) rfl (.inl rfl) (aB (cQ (va 2 rfl rfl) (bD ai ai)) (eQ (bD ai ai) (cl hc av X.m__law_draw (aa (va 0 rfl rfl) (aa (aB (jd (va 1 rfl rfl) (bD ai ai)) ai) af))))))) aP)
  (ay (aG (cQ (va 2 rfl rfl) (va 1 rfl rfl))))))))))))))))
abbrev bN:List Str:=["_law_tape_here","_law_text","_law_some","_law_rows","_law_at","_law_words_here","_law_spot","_law_word_here","_law_signs","_law_sign","_law_place","_law_more","_law_lists","_law_texts","_law_one"]
abbrev iE:List Str:=["_law_tape_here","_law_text","_law_some"]
theorem gI:FnScope bN iE (defScope aJ):=⟨rfl,rfl,rfl,by decide +kernel,rfl,by decide +kernel,by decide +kernel⟩
theorem ij{p:Pm}{n:Nat}(X:Txt p)(hc:aH p tab n):SSs (ctx p n 2 "_law_bent_text" aJ bN) (defBody aJ) (bM (ao tab n)) :=
  (aj (ax (i:=3) rfl (.inr ⟨rfl,rfl⟩) (c7 (va 1 rfl rfl) (aa aw af)))
  (aj (ax (i:=4) rfl (.inr ⟨rfl,rfl⟩) (cl hc av X.m__law_draw (aa (va 0 rfl rfl) (aa (aZ (by rfl) X.b_len (aa (vb 3 rfl rfl) af)) af))))
  (aj (ax (i:=5) rfl (.inl rfl) (c7 (sb (vb 3 rfl rfl) (vb 4 rfl rfl)) (aa aw af)))
  (aj (ax (i:=6) rfl (.inl rfl) (cl hc av X.m__law_draw (aa (va 0 rfl rfl) (aa (aZ (by rfl) X.b_len (aa (va 5 rfl rfl) af)) af))))
  (aj (ax (i:=7) rfl (.inl rfl) (sb (va 2 rfl rfl) (cl hc av X.m__law_draw (aa (va 0 rfl rfl) (aa (aZ (by rfl) X.b_len (aa (va 2 rfl rfl) af)) af)))))
  (aj (ax (i:=8) rfl (.inl rfl) aw)
  (aj (ax (i:=9) rfl (.inl rfl) (sb (va 8 rfl rfl) (cl hc av X.m__law_draw (aa (va 0 rfl rfl) (aa (aZ (by rfl) X.b_len (aa (va 8 rfl rfl) af)) af)))))
  (aj (ax (i:=10) rfl (.inl rfl) (cl hc av X.m__law_draw (aa (va 0 rfl rfl) (aa (aB (aZ (by rfl) X.b_len (aa (va 1 rfl rfl) af)) ai) af))))
  (aj (ax (i:=11) rfl (.inl rfl) (aC .loc (aa (aC .dat (aa (dj aw (aa (aB (aB (bu (va 5 rfl rfl) bC (cE (va 6 rfl rfl))) (aC .dat (aa (va 7 rfl rfl) af))) (bu (va 5 rfl rfl) (cE (aB (va 6 rfl rfl) ai)) bC)) af)) af)) (aa (aC .dat af) (aa (aC .dat (aa (sb (vb 3 rfl rfl) (vb 4 rfl rfl)) (aa (sb (vb 3 rfl rfl) (vb 4 rfl rfl)) af))) af)))))
  (aj (ax (i:=11) rfl (.inl rfl) (ub .loc (va 11 rfl rfl) (aC .dat (aa (aC .dat (aa (sb (vb 3 rfl rfl) (cl hc av X.m__law_draw (aa (va 0 rfl rfl) (aa (aZ (by rfl) X.b_len (aa (vb 3 rfl rfl) af)) af)))) af)) (aa (aC .dat (aa (dj aw (aa (aB (aB (bu (va 5 rfl rfl) bC (cE (va 6 rfl rfl))) (aC .dat (aa (va 7 rfl rfl) af))) (bu (va 5 rfl rfl) (cE (va 6 rfl rfl)) bC)) af)) af)) af)))))
  (aj (fA (fC (va 11 rfl rfl) (aa (aC .dat (aa (sb (vb 3 rfl rfl) (vb 4 rfl rfl)) (aa (sb (vb 3 rfl rfl) (cl hc av X.m__law_draw (aa (va 0 rfl rfl) (aa (aZ (by rfl) X.b_len (aa (vb 3 rfl rfl) af)) af)))) af))) af)))
  (aj (ax (i:=12) rfl (.inl rfl) (aB (fV .dat [("_law_one",14)] (bU (va 11 rfl rfl)) (show blkC bN (defScope aJ) _ _=true by decide +kernel) (na 14 rfl rfl) aX (aB (aB (bu (vc 3 rfl) bC (cE (vc 4 rfl))) (vc 14 rfl)) (bu (vc 3 rfl) (cE (aB (vc 4 rfl) ai)) bC))) (aC .dat (aa (aB (vb 3 rfl rfl) (aC .dat (aa aw af))) (aa (bu (vb 3 rfl rfl) bC (cE (vb 4 rfl rfl))) (aa (aB (aC .dat (aa aw af)) (vb 3 rfl rfl)) af))))))
  (aj (dG (i:=13) .dat [("_law_one",14)] rfl rfl rfl rfl (by decide +kernel) (bU (va 12 rfl rfl)) (show blkC bN (defScope aJ) _ _=true by decide +kernel) (na 14 rfl rfl) aX (dj aw (aa (vc 14 rfl) af)))
  (aj (ax (i:=13) rfl (.inl rfl) (aB (va 13 rfl rfl) (aC .dat (aa (aB (aB (bu (va 1 rfl rfl) bC (cE (va 10 rfl rfl))) (va 9 rfl rfl)) (bu (va 1 rfl rfl) (cE (va 10 rfl rfl)) bC)) (aa (aB (aB (bu (va 1 rfl rfl) bC (cE (va 10 rfl rfl))) (va 9 rfl rfl)) (bu (va 1 rfl rfl) (cE (aB (va 10 rfl rfl) ai)) bC)) af)))))
  (ay (aG (sb (va 13 rfl rfl) (cl hc av X.m__law_draw (aa (va 0 rfl rfl) (aa ai af))))))))))))))))))))
abbrev fZ:List Str:=["_law_found"]
abbrev ke:List Str:=[]
theorem jr:FnScope fZ ke (defScope aU):=⟨rfl,rfl,rfl,by decide +kernel,rfl,by decide +kernel,by decide +kernel⟩
theorem j3{p:Pm}{n:Nat}(X:Txt p)(hc:aH p tab n):SSs (ctx p n 3 "_law_counts" aU fZ) (defBody aU) (cL (ao tab n)) :=
  (aj (ax (i:=0) rfl (.inl rfl) (lu (.glo 70) (bL aw (aC .dat (aa ai af)) (bL aw (aC .dat (aa ai af)) (bL aw (aC .dat (aa ai (aa ai af))) (bL aw (aC .dat (aa ai af)) (bL aw (aC .dat (aa ai af)) (bL aw (aC .dat (aa ai af)) oM))))))))
  (aj (fA (rk (va 0 rfl rfl) (aa (lu .dat (bL aw (aC .dat (aa ai af)) (bL aw (aC .dat (aa ai af)) (bL aw (aC .dat (aa ai af)) (bL aw (aC .dat (aa ai af)) oM))))) af)))
  (ay (aG (va 0 rfl rfl)))))
abbrev dE:List Str:=["_law_word_here","_law_least","_law_most","_law_figures","_law_sign"]
abbrev kd:List Str:=["_law_word_here","_law_least","_law_most"]
theorem jq:FnScope dE kd (defScope aN):=⟨rfl,rfl,rfl,by decide +kernel,rfl,by decide +kernel,by decide +kernel⟩
theorem j0{p:Pm}{n:Nat}(X:Txt p)(hc:aH p tab n):SSs (ctx p n 4 "_law_number" aN dE) (defBody aN) (cK (ao tab n)) :=
  (aj (ax (i:=3) rfl (.inl rfl) (kq (bO el (bu (va 0 rfl rfl) bC (cE ai)) aw) (bu (va 0 rfl rfl) (cE ai) bC) (va 0 rfl rfl)))
  (aj (bB (bz (cU (bO el (va 3 rfl rfl) aw) (cU (bO qX (aZ (by rfl) X.b_len (aa (va 3 rfl rfl) af)) ai) (eO (c6 (c5 (lx (by rfl) X.b_all (aa (fV .dat [("_law_sign",4)] (bU (va 3 rfl rfl)) (show blkC dE (defScope aN) _ _=true by decide +kernel) (na 4 rfl rfl) aX (qu (vc 4 rfl) aw)) af)))))))) (ay (aG aY)) aP)
  (aj (bB (bz (cU (bz (hZ (bO el (sb (va 3 rfl rfl) ai) aw) (fy (bO jU (va 0 rfl rfl) aw)))) (eO (c6 (st_ch iW iW (va 1 rfl rfl) (jc (by rfl) X.b_int (aa (va 0 rfl rfl) af)) (va 2 rfl rfl)))))) (ay (aG aY)) aP)
  (ay (aG (jc (by rfl) X.b_int (aa (va 0 rfl rfl) af)))))))
abbrev fm:List Str:=["_law_word_here","_law_sign"]
abbrev oE:List Str:=["_law_word_here"]
theorem lC:FnScope fm oE (defScope bg):=⟨rfl,rfl,rfl,by decide +kernel,rfl,by decide +kernel,by decide +kernel⟩
theorem ni{p:Pm}{n:Nat}(X:Txt p)(hc:aH p tab n):SSs (ctx p n 5 "_law_word" bg fm) (defBody bg) (du (ao tab n)) :=
  (ay (aG (jo (t9 iW iW ai (aZ (by rfl) X.b_len (aa (va 0 rfl rfl) af)) ai) (lr (lx (by rfl) X.b_all (aa (fV .dat [("_law_sign",1)] (bU (va 0 rfl rfl)) (show blkC fm (defScope bg) _ _=true by decide +kernel) (na 1 rfl rfl) aX (qu (vc 1 rfl) aw)) af))))))
abbrev iH:List Str:=["_law_row_here","_law_words_here","_law_counts_here","_law_moment","_law_stroke","_law_named","_law_more","_law_word_here"]
abbrev r8:List Str:=["_law_row_here"]
theorem oU:FnScope iH r8 (defScope cg):=⟨rfl,rfl,rfl,by decide +kernel,rfl,by decide +kernel,by decide +kernel⟩
theorem rG{p:Pm}{n:Nat}(X:Txt p)(hc:aH p tab n):SSs (ctx p n 6 "_law_in" cg iH) (defBody cg) (fM (ao tab n)) :=
  (aj (ax (i:=1) rfl (.inl rfl) (c7 (va 0 rfl rfl) (aa aw af)))
  (aj (ax (i:=2) rfl (.inl rfl) (jn (f:=3) (d:=bQ) hc bS rfl (Nat.le_add_right _ _) X.m__law_counts (by rfl)))
  (aj (bB (bz (cU (bO qW (aZ (by rfl) X.b_len (aa (va 1 rfl rfl) af)) ai) (cU (tQ (gj (aZ (by rfl) X.b_len (aa (va 1 rfl rfl) af)) ai) (t6 (va 2 rfl rfl) (sb (va 1 rfl rfl) ai) (aC .dat af))) (eO (c6 (c5 (cl hc dz X.m__law_word (aa (sb (va 1 rfl rfl) ai) af)))))))) (ay (aG aY)) aP)
  (aj (tS (i:=3) (j:=4) rfl rfl (by decide) rfl rfl (aa (cl hc bR X.m__law_number (aa (sb (va 1 rfl rfl) ai) (aa ai (aa (bD ai ai) af)))) (aa (cl hc bR X.m__law_number (aa (sb (va 1 rfl rfl) ai) (aa ai (aa (bD ai ai) af)))) af)) (by intro env h; cases env; cases h; rfl))
  (aj (ax (i:=5) rfl (.inl rfl) (kq (bO el (sb (va 1 rfl rfl) ai) aw) ai ai))
  (aj (dG (i:=6) .dat [("_law_word_here",7)] rfl rfl rfl rfl (by decide +kernel) (bU (bu (va 1 rfl rfl) (cE (aB ai (va 5 rfl rfl))) bC)) (show blkC iH (defScope cg) _ _=true by decide +kernel) (na 7 rfl rfl) aX (cl hc bR X.m__law_number (aa (vc 7 rfl) (aa (gj ai (bD ai ai)) (aa (bD ai ai) af)))))
  (aj (bB (bz (cU (bO kR (va 3 rfl rfl) aY) (cU (bO kR (va 4 rfl rfl) aY) (cU (qg aY (va 6 rfl rfl)) (eO (bz (hZ (bO el (va 5 rfl rfl) ai) (fy (c6 (c5 (cl hc dz X.m__law_word (aa (sb (va 1 rfl rfl) ai) af)))))))))))) (ay (aG aY)) aP)
  (ay (aG (gi (aa (va 3 rfl rfl) (aa (sb (va 1 rfl rfl) ai) (aa (va 4 rfl rfl) (aa (sb (va 1 rfl rfl) ai) (aa (ic (by rfl) X.b_tuple (aa (aB (bu (va 1 rfl rfl) (cE ai) (cE (aB ai (va 5 rfl rfl)))) (va 6 rfl rfl)) af)) af)))))))))))))))
abbrev jX:List Str:=["_law_text","_law_found","_law_at","_law_row_here","_law_told_row"]
abbrev pY:List Str:=["_law_text"]
theorem mX:FnScope jX pY (defScope bW):=⟨rfl,rfl,rfl,by decide +kernel,rfl,by decide +kernel,by decide +kernel⟩
theorem ph{p:Pm}{n:Nat}(X:Txt p)(hc:aH p tab n):SSs (ctx p n 7 "_law_due" bW jX) (defBody bW) (dg (ao tab n)) :=
  (aj (bB (c6 (c5 (ie .str rfl (by rfl) X.b_isinstance (by rfl) X.b_str (va 0 rfl rfl)))) (ay (aG (gi (aa ai af)))) aP)
  (aj (ax (i:=1) rfl (.inl rfl) (aC .loc af))
  (aj (f9 (vs:=[2,3]) (qm (by rfl) X.b_enumerate (aa (kq (bO jU (va 0 rfl rfl) aw) (c7 (va 0 rfl rfl) (aa aw af)) (aC .dat af)) af)) (t4 (n:=2) (gH (na 2 rfl rfl) (gH (na 3 rfl rfl) qo)) (dP (dP kg))) (aj (ax (i:=4) rfl (.inl rfl) (cl hc iK X.m__law_in (aa (va 3 rfl rfl) af)))
  (aj (bB (bO kR (va 4 rfl rfl) aY) (ay (aG (gi (aa (va 2 rfl rfl) af)))) aP)
  (ay (fA (fC (va 1 rfl rfl) (aa (va 4 rfl rfl) af)))))))
  (ay (aG (va 1 rfl rfl))))))
abbrev ee:List Str:=["_law_tape_here","_law_words_here","_law_counts_here","_law_word_here","_law_many","_law_more","_law_moment","_law_stroke","_law_k"]
abbrev pX:List Str:=["_law_tape_here","_law_words_here"]
theorem mW:FnScope ee pX (defScope bo):=⟨rfl,rfl,rfl,by decide +kernel,rfl,by decide +kernel,by decide +kernel⟩
theorem oZ{p:Pm}{n:Nat}(X:Txt p)(hc:aH p tab n):SSs (ctx p n 8 "_law_row" bo ee) (defBody bo) (d6 (ao tab n)) :=
  (aj (ax (i:=2) rfl (.inl rfl) (jn (f:=3) (d:=bQ) hc bS rfl (Nat.le_add_right _ _) X.m__law_counts (by rfl)))
  (aj (ax (i:=3) rfl (.inl rfl) (sb (ko .dat (by rfl) X.b_sorted (aa (va 2 rfl rfl) af)) (cl hc av X.m__law_draw (aa (vb 0 rfl rfl) (aa ai af)))))
  (aj (ax (i:=4) rfl (.inl rfl) (sb (sb (va 2 rfl rfl) (va 3 rfl rfl)) (cl hc av X.m__law_draw (aa (vb 0 rfl rfl) (aa (aZ (by rfl) X.b_len (aa (sb (va 2 rfl rfl) (va 3 rfl rfl)) af)) af)))))
  (aj (dG (i:=5) .loc [("_law_k",8)] rfl rfl rfl rfl (by decide +kernel) (ib (by rfl) X.b_range (aa (va 4 rfl rfl) af)) (show blkC ee (defScope bo) _ _=true by decide +kernel) (na 8 rfl rfl) aX (gj (cl hc av X.m__law_draw (aa (vc 0 rfl) (aa ai af))) ai))
  (aj (bB (bO el (cl hc av X.m__law_draw (aa (vb 0 rfl rfl) (aa ai af))) ai) (ay (dG (i:=5) .loc [("_law_k",8)] rfl rfl rfl rfl (by decide +kernel) (ib (by rfl) X.b_range (aa (va 4 rfl rfl) af)) (show blkC ee (defScope bo) _ _=true by decide +kernel) (na 8 rfl rfl) aX (aB (gj (cl hc av X.m__law_draw (aa (vc 0 rfl) (aa (gj (eQ ai (bD ai ai)) ai) af))) (bD ai ai)) ai))) aP)
  (aj (bB (bO el (va 3 rfl rfl) aw) (ay (ss_lput (va 5 rfl rfl) ai (sb (va 1 rfl rfl) (cl hc av X.m__law_draw (aa (vb 0 rfl rfl) (aa (aZ (by rfl) X.b_len (aa (va 1 rfl rfl) af)) af)))))) aP)
  (aj (ax (i:=6) rfl (.inl rfl) (sb (aC .dat (aa ai (aa (bD ai ai) (aa (cl hc av X.m__law_draw (aa (vb 0 rfl rfl) (aa ai af))) af)))) (cl hc av X.m__law_draw (aa (vb 0 rfl rfl) (aa ai af)))))
  (aj (ax (i:=7) rfl (.inl rfl) (sb (aC .dat (aa ai (aa ai (aa ai (aa ai (aa ai (aa (cl hc av X.m__law_draw (aa (vb 0 rfl rfl) (aa (bD ai ai) af))) af))))))) (cl hc av X.m__law_draw (aa (vb 0 rfl rfl) (aa ai af)))))
  (ay (aG (gi (aa (va 6 rfl rfl) (aa (sb (va 1 rfl rfl) (cl hc av X.m__law_draw (aa (vb 0 rfl rfl) (aa (aZ (by rfl) X.b_len (aa (va 1 rfl rfl) af)) af)))) (aa (va 7 rfl rfl) (aa (va 3 rfl rfl) (aa (ic (by rfl) X.b_tuple (aa (va 5 rfl rfl) af)) af))))))))))))))))
abbrev iZ:List Str:=["_law_script"]
abbrev oF:List Str:=["_law_script"]
theorem lD:FnScope iZ oF (defScope bH):=⟨rfl,rfl,rfl,by decide +kernel,rfl,by decide +kernel,by decide +kernel⟩
theorem nj{p:Pm}{n:Nat}(X:Txt p)(hc:aH p tab n):SSs (ctx p n 9 "_law_tape" bH iZ) (defBody bH) (dw (ao tab n)) :=
  (ay (aG (lu (.glo 0) (bL aw (bu (va 0 rfl rfl) bC (cE ai)) (bL aw ai (bL aw ai oM))))))
abbrev d9:List Str:=["_law_tape_here","_law_many","_law_letters","_law_own","_law_base","_law_found","_law_k","_law_letter","_law_some","_law_word_here","_law_more"]
abbrev mG:List Str:=["_law_tape_here","_law_many"]
theorem jY:FnScope d9 mG (defScope aR):=⟨rfl,rfl,rfl,by decide +kernel,rfl,by decide +kernel,by decide +kernel⟩
theorem lL{p:Pm}{n:Nat}(X:Txt p)(hc:aH p tab n):SSs (ctx p n 10 "_law_words" aR d9) (defBody aR) (cV (ao tab n)) :=
  (aj (ax (i:=2) rfl (.inr ⟨rfl,rfl⟩) aw)
  (aj (ax (i:=3) rfl (.inl rfl) (c7 aw (aa aw af)))
  (aj (ax (i:=4) rfl (.inl rfl) (dj aw (aa (fV .dat [("_law_k",6)] (ib (by rfl) X.b_range (aa (aB ai (cl hc av X.m__law_draw (aa (vb 0 rfl rfl) (aa ai af)))) af)) (show blkC d9 (defScope aR) _ _=true by decide +kernel) (na 6 rfl rfl) aX (sb (vc 2 rfl) (cl hc av X.m__law_draw (aa (vc 0 rfl) (aa ai af))))) af)))
  (aj (ax (i:=5) rfl (.inl rfl) (aC .loc af))
  (aj (f9 (vs:=[6]) (ib (by rfl) X.b_range (aa (va 1 rfl rfl) af)) (na 6 rfl rfl) (aj (ax (i:=7) rfl (.inl rfl) (sb (vb 2 rfl rfl) (cl hc av X.m__law_draw (aa (vb 0 rfl rfl) (aa ai af)))))
  (aj (ax (i:=8) rfl (.inl rfl) (aC .dat (aa (va 4 rfl rfl) (aa (aB (va 4 rfl rfl) (va 7 rfl rfl)) (aa (aB (va 7 rfl rfl) (va 4 rfl rfl)) (aa (va 7 rfl rfl) (aa (aB (aB (va 4 rfl rfl) (va 7 rfl rfl)) (va 7 rfl rfl)) (aa (sb (va 3 rfl rfl) (cl hc av X.m__law_draw (aa (vb 0 rfl rfl) (aa ai af)))) af))))))))
  (aj (ax (i:=9) rfl (.inl rfl) (bu (sb (va 8 rfl rfl) (cl hc av X.m__law_draw (aa (vb 0 rfl rfl) (aa ai af)))) bC (cE ai)))
  (aj (f9 (vs:=[10]) (bU (vb 2 rfl rfl)) (na 10 rfl rfl) (ay (bB (qg (va 9 rfl rfl) (va 5 rfl rfl)) (ay (ax (i:=9) rfl (.inl rfl) (aB (bu (va 9 rfl rfl) bC (cE ai)) (va 10 rfl rfl)))) aP)))
  (aj (f9 (vs:=[10]) (bU (vb 2 rfl rfl)) (na 10 rfl rfl) (ay (bB (qg (va 9 rfl rfl) (va 5 rfl rfl)) (ay (ax (i:=9) rfl (.inl rfl) (aB (va 10 rfl rfl) (bu (va 9 rfl rfl) (cE ai) bC)))) aP)))
  (ay (fA (fC (va 5 rfl rfl) (aa (va 9 rfl rfl) af))))))))))
  (ay (aG (va 5 rfl rfl))))))))
abbrev kU:List Str:=["text"]
abbrev rZ:List Str:=["text"]
theorem oR:FnScope kU rZ (defScope cF):=⟨rfl,rfl,rfl,by decide +kernel,rfl,by decide +kernel,by decide +kernel⟩
theorem rD{p:Pm}{n:Nat}(X:Txt p)(hc:aH p tab n):SSs (ctx p n 11 "rows_in" cF kU) (defBody cF) (cX (ao tab n)) :=
  (aj (bB (c6 (c5 (ie .str rfl (by rfl) X.b_isinstance (by rfl) X.b_str (va 0 rfl rfl)))) (ay (kn X.xc_NoText (Nat.le_add_left _ _) rfl (aa ai af))) aP)
  (ay (aG (kq (bO jU (va 0 rfl rfl) aw) (c7 (va 0 rfl rfl) (aa aw af)) (aC .dat af)))))
abbrev jW:List Str:=["thing","least","most"]
abbrev pW:List Str:=["thing","least","most"]
theorem mV:FnScope jW pW (defScope bV):=⟨rfl,rfl,rfl,by decide +kernel,rfl,by decide +kernel,by decide +kernel⟩
theorem oY{p:Pm}{n:Nat}(X:Txt p)(hc:aH p tab n):SSs (ctx p n 12 "is_whole" bV jW) (defBody bV) (d5 (ao tab n)) :=
  (ay (aG (jo (ie .int rfl (by rfl) X.b_isinstance (by rfl) X.b_int (va 0 rfl rfl)) (jo (se_not (ie .bool rfl (by rfl) X.b_isinstance (by rfl) X.b_bool (va 0 rfl rfl))) (lr (t9 iW iW (va 1 rfl rfl) (va 0 rfl rfl) (va 2 rfl rfl)))))))
abbrev iY:List Str:=["thing"]
abbrev oD:List Str:=["thing"]
theorem lB:FnScope iY oD (defScope bG):=⟨rfl,rfl,rfl,by decide +kernel,rfl,by decide +kernel,by decide +kernel⟩
theorem nh{p:Pm}{n:Nat}(X:Txt p)(hc:aH p tab n):SSs (ctx p n 13 "is_moment" bG iY) (defBody bG) (dt (ao tab n)) :=
  (ay (aG (cl hc gB X.m_is_whole (aa (va 0 rfl rfl) (aa ai (aa (dR X.g_LAST_MOMENT (by rfl)) af))))))
abbrev iG:List Str:=["thing","sign"]
abbrev r7:List Str:=["thing"]
theorem oS:FnScope iG r7 (defScope cb):=⟨rfl,rfl,rfl,by decide +kernel,rfl,by decide +kernel,by decide +kernel⟩
theorem rF{p:Pm}{n:Nat}(X:Txt p)(hc:aH p tab n):SSs (ctx p n 14 "is_word" cb iG) (defBody cb) (fL (ao tab n)) :=
  (ay (aG (jo (ie .str rfl (by rfl) X.b_isinstance (by rfl) X.b_str (va 0 rfl rfl)) (jo (t9 iW iW ai (aZ (by rfl) X.b_len (aa (va 0 rfl rfl) af)) (dR X.g_LONGEST (by rfl))) (lr (lx (by rfl) X.b_all (aa (fV .dat [("sign",1)] (bU (va 0 rfl rfl)) (show blkC iG (defScope cb) _ _=true by decide +kernel) (na 1 rfl rfl) aX (qu (vc 1 rfl) (dR X.g_LETTERS (by rfl)))) af)))))))
abbrev fj:List Str:=["word","figures","sign"]
abbrev oC:List Str:=["word"]
theorem lA:FnScope fj oC (defScope bf):=⟨rfl,rfl,rfl,by decide +kernel,rfl,by decide +kernel,by decide +kernel⟩
theorem ng{p:Pm}{n:Nat}(X:Txt p)(hc:aH p tab n):SSs (ctx p n 15 "number_in" bf fj) (defBody bf) (dq (ao tab n)) :=
  (aj (ax (i:=1) rfl (.inl rfl) (kq (bO el (bu (va 0 rfl rfl) bC (cE ai)) aw) (bu (va 0 rfl rfl) (cE ai) bC) (va 0 rfl rfl)))
  (aj (bB (bz (cU (bO el (va 1 rfl rfl) aw) (cU (bO qX (aZ (by rfl) X.b_len (aa (va 1 rfl rfl) af)) (dR X.g_MOST_FIGURES (by rfl))) (eO (c6 (c5 (lx (by rfl) X.b_all (aa (fV .dat [("sign",2)] (bU (va 1 rfl rfl)) (show blkC fj (defScope bf) _ _=true by decide +kernel) (na 2 rfl rfl) aX (qu (vc 2 rfl) (dR X.g_FIGURES (by rfl)))) af)))))))) (ay (aG aY)) aP)
  (aj (bB (bz (hZ (bO el (sb (va 1 rfl rfl) ai) aw) (fy (bO jU (va 0 rfl rfl) aw)))) (ay (aG aY)) aP)
  (ay (aG (jc (by rfl) X.b_int (aa (va 0 rfl rfl) af)))))))
abbrev iF:List Str:=["row","words","moment","stroke","named","more","word"]
abbrev rY:List Str:=["row"]
theorem oQ:FnScope iF rY (defScope b9):=⟨rfl,rfl,rfl,by decide +kernel,rfl,by decide +kernel,by decide +kernel⟩
theorem rC{p:Pm}{n:Nat}(X:Txt p)(hc:aH p tab n):SSs (ctx p n 16 "told_in" b9 iF) (defBody b9) (fK (ao tab n)) :=
  (aj (ax (i:=1) rfl (.inl rfl) (c7 (va 0 rfl rfl) (aa aw af)))
  (aj (bB (bz (cU (bO qW (aZ (by rfl) X.b_len (aa (va 1 rfl rfl) af)) ai) (eO (tQ (gj (aZ (by rfl) X.b_len (aa (va 1 rfl rfl) af)) ai) (t5 X.km_MANY (by rfl) (sb (va 1 rfl rfl) ai) (gi af)))))) (ay (aG aY)) aP)
  (aj (tS (i:=2) (j:=3) rfl rfl (by decide) rfl rfl (aa (cl hc cI X.m_number_in (aa (sb (va 1 rfl rfl) ai) af)) (aa (cl hc cI X.m_number_in (aa (sb (va 1 rfl rfl) ai) af)) af)) (by intro env h; cases env; cases h; rfl))
  (aj (ax (i:=4) rfl (.inl rfl) (jc (by rfl) X.b_int (aa (se_c el (sb (va 1 rfl rfl) ai) aw) af)))
  (aj (ax (i:=5) rfl (.inl rfl) (aB (bu (va 1 rfl rfl) (cE ai) (cE (aB ai (va 4 rfl rfl)))) (fV .dat [("word",6)] (bU (bu (va 1 rfl rfl) (cE (aB ai (va 4 rfl rfl))) bC)) (show blkC iF (defScope b9) _ _=true by decide +kernel) (na 6 rfl rfl) aX (cl hc cI X.m_number_in (aa (vc 6 rfl) af)))))
  (aj (bB (bz (cU (c6 (c5 (cl hc fT X.m_is_moment (aa (va 2 rfl rfl) af)))) (cU (c6 (c5 (cl hc eL X.m_is_word (aa (sb (va 1 rfl rfl) ai) af)))) (cU (bO kR (va 3 rfl rfl) aY) (cU (bO qW (va 3 rfl rfl) ai) (eO (qg aY (va 5 rfl rfl)))))))) (ay (aG aY)) aP)
  (aj (bB (bz (hZ (bO el (va 4 rfl rfl) ai) (fy (c6 (c5 (cl hc eL X.m_is_word (aa (sb (va 5 rfl rfl) ai) af))))))) (ay (aG aY)) aP)
  (ay (aG (gi (aa (va 2 rfl rfl) (aa (sb (va 1 rfl rfl) ai) (aa (va 3 rfl rfl) (aa (sb (va 1 rfl rfl) ai) (aa (ic (by rfl) X.b_tuple (aa (va 5 rfl rfl) af)) af)))))))))))))))
abbrev iX:List Str:=["text","found","at","row","told"]
abbrev oB:List Str:=["text"]
theorem lz:FnScope iX oB (defScope bF):=⟨rfl,rfl,rfl,by decide +kernel,rfl,by decide +kernel,by decide +kernel⟩
theorem m9{p:Pm}{n:Nat}(X:Txt p)(hc:aH p tab n):SSs (ctx p n 17 "read_told" bF iX) (defBody bF) (bj (ao tab n)) :=
  (aj (ax (i:=1) rfl (.inl rfl) (aC .loc af))
  (aj (f9 (vs:=[2,3]) (qm (by rfl) X.b_enumerate (aa (cl hc eK X.m_rows_in (aa (va 0 rfl rfl) af)) af)) (t4 (n:=2) (gH (na 2 rfl rfl) (gH (na 3 rfl rfl) qo)) (dP (dP kg))) (aj (ax (i:=4) rfl (.inl rfl) (cl hc iJ X.m_told_in (aa (va 3 rfl rfl) af)))
  (aj (bB (bO kR (va 4 rfl rfl) aY) (ay (kn X.xc_NoText (Nat.le_add_left _ _) rfl (aa (va 2 rfl rfl) af))) aP)
  (ay (fA (fC (va 1 rfl rfl) (aa (va 4 rfl rfl) af)))))))
  (ay (aG (va 1 rfl rfl)))))
abbrev gy:List Str:=["things","thing"]
abbrev pV:List Str:=["things"]
theorem mU:FnScope gy pV (defScope bE):=⟨rfl,rfl,rfl,by decide +kernel,rfl,by decide +kernel,by decide +kernel⟩
theorem oX{p:Pm}{n:Nat}(X:Txt p)(hc:aH p tab n):SSs (ctx p n 18 "words_of" bE gy) (defBody bE) (d4 (ao tab n)) :=
  (ay (aG (dj aw (aa (fV .dat [("thing",1)] (bU (va 0 rfl rfl)) (show blkC gy (defScope bE) _ _=true by decide +kernel) (na 1 rfl rfl) aX (qt (by rfl) X.b_str (aa (vc 1 rfl) af))) af))))
abbrev e8:List Str:=["rows","row"]
abbrev oA:List Str:=["rows"]
theorem ly:FnScope e8 oA (defScope bc):=⟨rfl,rfl,rfl,by decide +kernel,rfl,by decide +kernel,by decide +kernel⟩
theorem m8{p:Pm}{n:Nat}(X:Txt p)(hc:aH p tab n):SSs (ctx p n 19 "show_told" bc e8) (defBody bc) (dm (ao tab n)) :=
  (ay (aG (dj aw (aa (fV .dat [("row",1)] (bU (va 0 rfl rfl)) (show blkC e8 (defScope bc) _ _=true by decide +kernel) (na 1 rfl rfl) aX (cl hc gA X.m_words_of (aa (aB (bu (vc 1 rfl) bC (cE ai)) (sb (vc 1 rfl) ai)) af))) af))))
abbrev rg:List Str:=["_law_script","_law_tape_here","_law_words_here","_law_some","_law_turn","_law_rows","_law_lines","_law_text","_law_bent","_law_odd","_law_one","_law_k","_law_row_here","_law_thing"]
abbrev P_law:List Str:=["_law_script"]
theorem sc_law:FnScope rg P_law (defScope gJ):=⟨rfl,rfl,rfl,by decide +kernel,rfl,by decide +kernel,by decide +kernel⟩
theorem r_law{p:Pm}{n:Nat}(X:Txt p)(hc:aH p tab n):SSs (ctx p n 20 "law" gJ rg) (defBody gJ) (qT (ao tab n)) :=
  (aj (ax (i:=1) rfl (.inr ⟨rfl,rfl⟩) (cl hc fU X.m__law_tape (aa (va 0 rfl rfl) af)))
  (aj (ax (i:=2) rfl (.inr ⟨rfl,rfl⟩) (cl hc eM X.m__law_words (aa (vb 1 rfl rfl) (aa ai af))))
  (aj (ax (i:=3) rfl (.inl rfl) (ub .loc (aB (ko .dat (by rfl) X.b_sorted (aa (jn (f:=3) (d:=bQ) hc bS rfl (Nat.le_add_right _ _) X.m__law_counts (by rfl)) af)) (vb 2 rfl rfl)) (aC .dat (aa aw (aa aw (aa aw (aa aw (aa aw (aa aw (aa aw (aa aw (aa aw af))))))))))))
  (aj (fA (rl (va 3 rfl rfl) (aa (aC .dat (aa (se_mulS aw ai) (aa aw (aa aw (aa aw (aa aw (aa aw (aa aw (aa aw af))))))))) af)))
  (aj (f9 (vs:=[4]) (ib (by rfl) X.b_range (aa ai af)) (na 4 rfl rfl) (aj (dG (i:=5) .dat [("_law_k",11)] rfl rfl rfl rfl (by decide +kernel) (ib (by rfl) X.b_range (aa (sb (aC .dat (aa ai (aa ai (aa ai (aa ai af))))) (va 4 rfl rfl)) af)) (show blkC rg (defScope gJ) _ _=true by decide +kernel) (na 11 rfl rfl) aX (cl hc gC X.m__law_row (aa (vc 1 rfl) (aa (vc 2 rfl) af))))
  (aj (dG (i:=6) .dat [("_law_row_here",12)] rfl rfl rfl rfl (by decide +kernel) (bU (va 5 rfl rfl)) (show blkC rg (defScope gJ) _ _=true by decide +kernel) (na 12 rfl rfl) aX (dj aw (aa (fV .dat [("_law_thing",13)] (bU (aB (bu (vc 12 rfl) bC (cE ai)) (sb (vc 12 rfl) ai))) (by rfl) (na 13 rfl rfl) aX (qt (by rfl) X.b_str (aa (vc 13 rfl) af))) af)))
  (aj (ax (i:=7) rfl (.inl rfl) (dj aw (aa (va 6 rfl rfl) af)))
  (aj (bB (bz (cU (bO jU (cl hc fS X.m_show_told (aa (va 5 rfl rfl) af)) (va 7 rfl rfl)) (eO (bO jU (cl hc c4 X.m__law_asked (aa (dR (qR X.m_read_told) (by rfl)) (aa (va 7 rfl rfl) af))) (va 5 rfl rfl))))) (ay (aG qw)) aP)
  (aj (ax (i:=8) rfl (.inl rfl) (cl hc bT X.m__law_bent_text (aa (vb 1 rfl rfl) (aa (va 7 rfl rfl) (aa (va 3 rfl rfl) af)))))
  (aj (ax (i:=9) rfl (.inl rfl) (sb (aC .dat (aa aY (aa ai (aa qw (aa (va 5 rfl rfl) (aa aw af)))))) (cl hc av X.m__law_draw (aa (vb 1 rfl rfl) (aa ai af)))))
  (ay (f9 (vs:=[10]) (bU (aC .dat (aa (va 8 rfl rfl) (aa (cl hc bT X.m__law_bent_text (aa (vb 1 rfl rfl) (aa (va 8 rfl rfl) (aa (va 3 rfl rfl) af)))) (aa (va 9 rfl rfl) af))))) (na 10 rfl rfl) (ay (bB (bO jU (cl hc c4 X.m__law_asked (aa (dR (qR X.m_read_told) (by rfl)) (aa (va 10 rfl rfl) af))) (cl hc gE X.m__law_due (aa (va 10 rfl rfl) af))) (ay (aG qw)) aP)))))))))))
  (ay (aG qw)))))))
end K13
namespace K13
open PySem PySem.Spec PyProof.Rows L2 B M He
def namesT0:List (PySem.Str×Option PySem.Str):=[("_law_asked",none),("_law_draw",none),("_law_bent_text",none),("_law_counts",none),("_law_number",none),("_law_word",none),("_law_in",none),("_law_due",none),("_law_row",none),("_law_tape",none),("_law_words",none),("rows_in",none),("is_whole",none),("is_moment",none),("is_word",none),("number_in",none),("told_in",none),("read_told",none),("words_of",none),("show_told",none),("law",none)]
def bX:List (PySem.Str×Option PySem.Str):=namesT0
def gv:List PySem.Str:=["Shelves","Stroke","Hope","Contests","Reader","Desk","Growing","SceneReader","Walk","NoTouch","NoText","Late","IsDown","NotDown","NoHope","NoPart","NoWatch","NoCount"]
theorem br:nmOk fQ=true:=by decide +kernel
set_option maxHeartbeats 0 in
theorem facts{P:Program}{w:World}{K:PySem.W.Frag}{h:Heap}{mg:Str->Option Value}{f:Addr}(X:K.In h)(G:h.Ns mainGlobals mg)(hfa:mg ("law" : Str)=some (.ref f))(c0:M.SaysL fa fn xs tf ts w h K) :
  ∃ fd:FuncData,(∀ (s:Shared) (v:Value),BindsTo s fd ⟨[v],[]⟩ [("_law_script",v)])/\∀ base:Heap,K.In base->base.Ns mainGlobals mg->(∀ p∈tf.map (He.cT K),LamX.TabB base mg p.1 p.2)->FnG P w K mg base CX0 120 f fd ["_law_script"] (qi K (tf.map (He.cT K)).length fun k=>((tf.map (He.cT K)).getD k (0,0)).2):=by
 have c:=c0.x;have F__law_asked:bA K mg "_law_asked" bp:=aL X G c.d 0 0 rfl rfl;have F__law_draw:bA K mg "_law_draw" bI:=aL X G c.d 1 1 rfl rfl;have F__law_bent_text:bA K mg "_law_bent_text" aJ:=aL X G c.d 2 2 rfl rfl;have F__law_counts:bA K mg "_law_counts" aU:=aL X G c.d 3 3 rfl rfl;have F__law_number:bA K mg "_law_number" aN:=aL X G c.d 4 4 rfl rfl;have F__law_word:bA K mg "_law_word" bg:=aL X G c.d 5 5 rfl rfl;have F__law_in:bA K mg "_law_in" cg:=aL X G c.d 6 6 rfl rfl;have F__law_due:bA K mg "_law_due" bW:=aL X G c.d 7 7 rfl rfl;have F__law_row:bA K mg "_law_row" bo:=aL X G c.d 8 8 rfl rfl;have F__law_tape:bA K mg "_law_tape" bH:=aL X G c.d 9 9 rfl rfl;have F__law_words:bA K mg "_law_words" aR:=aL X G c.d 10 10 rfl rfl;have F_rows_in:bA K mg "rows_in" cF:=aL X G c.d 11 11 rfl rfl;have F_is_whole:bA K mg "is_whole" bV:=aL X G c.d 12 12 rfl rfl;have F_is_moment:bA K mg "is_moment" bG:=aL X G c.d 13 13 rfl rfl;have F_is_word:bA K mg "is_word" cb:=aL X G c.d 14 14 rfl rfl;have F_number_in:bA K mg "number_in" bf:=aL X G c.d 15 15 rfl rfl;have F_told_in:bA K mg "told_in" b9:=aL X G c.d 16 16 rfl rfl;have F_read_told:bA K mg "read_told" bF:=aL X G c.d 17 17 rfl rfl;have F_words_of:bA K mg "words_of" bE:=aL X G c.d 18 18 rfl rfl;have F_show_told:bA K mg "show_told" bc:=aL X G c.d 19 19 rfl rfl;have F_law:bA K mg "law" gJ:=aL X G c.d 20 20 rfl rfl;obtain⟨fd,F⟩:=c.d.def_ 20 (d:=dd_law) rfl;have e:=hfa.symm.trans (He.glo_ok X G (c.d.fact 20 (f:=.glo "law") rfl))
 cases e
 have b:=FunD.bindsA (ps:=["_law_script"]) F fun _ _ _ _ _ _ us hl=>match us,hl with | [_],_=>rfl
 refine⟨fd,fun s v=>b s [v] rfl,fun base hb hG hTB=>?_⟩;have XK_NoText:=xkB_ok (c.x 1 (f:=_) rfl);have XF_NoText:=xfB_ok (c.x 2 rfl);obtain⟨fdx_NoText,FX_NoText⟩:=c.d.def_ 21 (d:=dh) rfl;have XC_NoText:XcOk (gm P w K mg base bX gv fQ br (tf.map (He.cT K))) "NoText" 10 (some 63):=⟨⟨_,fdx_NoText,["self","row"],_,_,_,_,_,XK_NoText.1,x_ini1 (p:=(gm P w K mg base bX gv fQ br (tf.map (He.cT K)))) (st:=aS) FX_NoText ⟨rfl,rfl,rfl,by decide +kernel,rfl,by decide +kernel,by decide +kernel⟩ XK_NoText.1 rfl (fun _=>rfl) rfl rfl rfl (He.free_ok X G (c.d.fact 28 (f:=.free "ValueError") rfl)) (by kernel_rfl) XF_NoText.2 (by decide) (by decide) (by decide) (by decide),(bindsM (st:=aS) FX_NoText fun _ _ _ _ _ _ us hl=>match us,hl with | [_,_],_=>rfl)⟩,He.glo_ok X G (c.d.fact 37 (f:=.glo "NoText") rfl),fun f hf=>by cases hf; exact Nat.le_of_ble_eq_true rfl⟩;have XM_NoText:XmOk (gm P w K mg base bX gv fQ br (tf.map (He.cT K))) "NoText" 10 [(10,true)]:=⟨He.glo_ok X G (c.d.fact 37 (f:=.glo "NoText") rfl),by
  intro c_ b_ hq;rcases List.mem_cons.mp hq with e | hq
  .cases e; exact xmB_ok (c.x 3 rfl) (y:="NoText") (List.mem_of_getElem? (i:=0) rfl)
  exact nomatch hq⟩
 have XR_row:∀ c∈[10],XfOk (gm P w K mg base bX gv fQ br (tf.map (He.cT K))) c 63:=by
  intro c_ hq;rcases List.mem_cons.mp hq with e | hq
  .cases e; exact⟨XK_NoText.2.1,XF_NoText.1⟩
  exact nomatch hq
 have XI_ValueError:∀ c b,(c,b)∈[(10,true)]->XcIs K (((gm P w K mg base bX gv fQ br (tf.map (He.cT K)))).ca c)/\PySem.W.kitOne K (.ref (((gm P w K mg base bX gv fQ br (tf.map (He.cT K)))).ca c)) (.type "ValueError")=some b:=by
  intro c_ b_ hq;rcases List.mem_cons.mp hq with e | hq
  .cases e; exact⟨XK_NoText.2.2,xiB_ok (c.x 4 rfl) (y:="NoText") (List.mem_of_getElem? (i:=0) rfl)⟩
  exact nomatch hq
 have Tx:Txt (gm P w K mg base bX gv fQ br (tf.map (He.cT K))):={ n_scene:=⟨rfl,Nat.le_of_ble_eq_true rfl⟩,n_forms:=⟨rfl,Nat.le_of_ble_eq_true rfl⟩,n_spots:=⟨rfl,Nat.le_of_ble_eq_true rfl⟩,n_number:=⟨rfl,Nat.le_of_ble_eq_true rfl⟩,n_way:=⟨rfl,Nat.le_of_ble_eq_true rfl⟩,n_touches:=⟨rfl,Nat.le_of_ble_eq_true rfl⟩,n_spot:=⟨rfl,Nat.le_of_ble_eq_true rfl⟩,n_contest:=⟨rfl,Nat.le_of_ble_eq_true rfl⟩,n_labelled:=⟨rfl,Nat.le_of_ble_eq_true rfl⟩,n_part:=⟨rfl,Nat.le_of_ble_eq_true rfl⟩,n_wish:=⟨rfl,Nat.le_of_ble_eq_true rfl⟩,n_kind:=⟨rfl,Nat.le_of_ble_eq_true rfl⟩,n_label:=⟨rfl,Nat.le_of_ble_eq_true rfl⟩,n_strokes:=⟨rfl,Nat.le_of_ble_eq_true rfl⟩,n_state:=⟨rfl,Nat.le_of_ble_eq_true rfl⟩,n_since:=⟨rfl,Nat.le_of_ble_eq_true rfl⟩,n_why:=⟨rfl,Nat.le_of_ble_eq_true rfl⟩,n_taps:=⟨rfl,Nat.le_of_ble_eq_true rfl⟩,n_machine_at:=⟨rfl,Nat.le_of_ble_eq_true rfl⟩,n_is_lifted:=⟨rfl,Nat.le_of_ble_eq_true rfl⟩,n_due:=⟨rfl,Nat.le_of_ble_eq_true rfl⟩,n_counted:=⟨rfl,Nat.le_of_ble_eq_true rfl⟩,n_claimed:=⟨rfl,Nat.le_of_ble_eq_true rfl⟩,n_begun_with:=⟨rfl,Nat.le_of_ble_eq_true rfl⟩,n_told_at:=⟨rfl,Nat.le_of_ble_eq_true rfl⟩,n_is_over:=⟨rfl,Nat.le_of_ble_eq_true rfl⟩,n_parts:=⟨rfl,Nat.le_of_ble_eq_true rfl⟩,n_beside:=⟨rfl,Nat.le_of_ble_eq_true rfl⟩,n_heeds:=⟨rfl,Nat.le_of_ble_eq_true rfl⟩,n_slop:=⟨rfl,Nat.le_of_ble_eq_true rfl⟩,n_gap:=⟨rfl,Nat.le_of_ble_eq_true rfl⟩,n_guessing:=⟨rfl,Nat.le_of_ble_eq_true rfl⟩,n_shelves:=⟨rfl,Nat.le_of_ble_eq_true rfl⟩,n_hopes:=⟨rfl,Nat.le_of_ble_eq_true rfl⟩,n_time:=⟨rfl,Nat.le_of_ble_eq_true rfl⟩,n_touched:=⟨rfl,Nat.le_of_ble_eq_true rfl⟩,n_claims:=⟨rfl,Nat.le_of_ble_eq_true rfl⟩,n_rows:=⟨rfl,Nat.le_of_ble_eq_true rfl⟩,n_contests:=⟨rfl,Nat.le_of_ble_eq_true rfl⟩,n_seen:=⟨rfl,Nat.le_of_ble_eq_true rfl⟩,n_time_told:=⟨rfl,Nat.le_of_ble_eq_true rfl⟩,n_held:=⟨rfl,Nat.le_of_ble_eq_true rfl⟩,n_ears:=⟨rfl,Nat.le_of_ble_eq_true rfl⟩,n_away:=⟨rfl,Nat.le_of_ble_eq_true rfl⟩,n_deeds:=⟨rfl,Nat.le_of_ble_eq_true rfl⟩,n_reader:=⟨rfl,Nat.le_of_ble_eq_true rfl⟩,n_watchers:=⟨rfl,Nat.le_of_ble_eq_true rfl⟩,n_name:=⟨rfl,Nat.le_of_ble_eq_true rfl⟩,n_box:=⟨rfl,Nat.le_of_ble_eq_true rfl⟩,n_ear:=⟨rfl,Nat.le_of_ble_eq_true rfl⟩,n_shelf:=⟨rfl,Nat.le_of_ble_eq_true rfl⟩,n_wishes:=⟨rfl,Nat.le_of_ble_eq_true rfl⟩,n_within:=⟨rfl,Nat.le_of_ble_eq_true rfl⟩,n_about:=⟨rfl,Nat.le_of_ble_eq_true rfl⟩,n_names:=⟨rfl,Nat.le_of_ble_eq_true rfl⟩,n_named:=⟨rfl,Nat.le_of_ble_eq_true rfl⟩,n_states:=⟨rfl,Nat.le_of_ble_eq_true rfl⟩,n_wanted:=⟨rfl,Nat.le_of_ble_eq_true rfl⟩,n_machine:=⟨rfl,Nat.le_of_ble_eq_true rfl⟩,n_other:=⟨rfl,Nat.le_of_ble_eq_true rfl⟩,n_wants:=⟨rfl,Nat.le_of_ble_eq_true rfl⟩,n_best:=⟨rfl,Nat.le_of_ble_eq_true rfl⟩,n_lines:=⟨rfl,Nat.le_of_ble_eq_true rfl⟩,n_row:=⟨rfl,Nat.le_of_ble_eq_true rfl⟩,xc_NoText:=XC_NoText,xm_NoText:=XM_NoText,xf_row:=XR_row,xi_ValueError:=XI_ValueError,m__law_asked:=aW F__law_asked,m__law_draw:=aW F__law_draw,m__law_bent_text:=aW F__law_bent_text,m__law_counts:=aW F__law_counts,m__law_number:=aW F__law_number,m__law_word:=aW F__law_word,m__law_in:=aW F__law_in,m__law_due:=aW F__law_due,m__law_row:=aW F__law_row,m__law_tape:=aW F__law_tape,m__law_words:=aW F__law_words,m_rows_in:=aW F_rows_in,m_is_whole:=aW F_is_whole,m_is_moment:=aW F_is_moment,m_is_word:=aW F_is_word,m_number_in:=aW F_number_in,m_told_in:=aW F_told_in,m_read_told:=aW F_read_told,m_words_of:=aW F_words_of,m_show_told:=aW F_show_told,m_law:=aW F_law,b_isinstance:=He.free_ok X G (c.d.fact 26 (f:=.free "isinstance") rfl),b_bool:=He.free_ok X G (c.d.fact 27 (f:=.free "bool") rfl),b_ValueError:=He.free_ok X G (c.d.fact 28 (f:=.free "ValueError") rfl),b_len:=He.free_ok X G (c.d.fact 29 (f:=.free "len") rfl),b_int:=He.free_ok X G (c.d.fact 30 (f:=.free "int") rfl),b_all:=He.free_ok X G (c.d.fact 31 (f:=.free "all") rfl),b_tuple:=He.free_ok X G (c.d.fact 32 (f:=.free "tuple") rfl),b_enumerate:=He.free_ok X G (c.d.fact 33 (f:=.free "enumerate") rfl),b_str:=He.free_ok X G (c.d.fact 34 (f:=.free "str") rfl),b_range:=He.free_ok X G (c.d.fact 35 (f:=.free "range") rfl),b_sorted:=He.free_ok X G (c.d.fact 36 (f:=.free "sorted") rfl),km_MANY:=kmap_of (He.glo_ok X G (c.d.fact 38 (f:=.glo "MANY") rfl)) (c0.tab ((fun K=>He.ga K "MANY"),_) (List.mem_of_getElem? (i:=0) rfl)) (c.x 5 rfl),g_LAST_MOMENT:=jN (p:=(gm P w K mg base bX gv fQ br (tf.map (He.cT K)))) (He.int_ok X G (c.d.fact 21 (f:=.int "LAST_MOMENT" 1000000000) rfl)),g_LONGEST:=jN (p:=(gm P w K mg base bX gv fQ br (tf.map (He.cT K)))) (He.int_ok X G (c.d.fact 22 (f:=.int "LONGEST" 8) rfl)),g_MOST_FIGURES:=jN (p:=(gm P w K mg base bX gv fQ br (tf.map (He.cT K)))) (He.int_ok X G (c.d.fact 23 (f:=.int "MOST_FIGURES" 10) rfl)),g_LETTERS:=n7 (p:=(gm P w K mg base bX gv fQ br (tf.map (He.cT K)))) (He.str_ok X G (c.d.fact 24 (f:=.str "LETTERS" "abcdefghijklmnopqrstuvwxyz") rfl)),g_FIGURES:=n7 (p:=(gm P w K mg base bX gv fQ br (tf.map (He.cT K)))) (He.str_ok X G (c.d.fact 25 (f:=.str "FIGURES" "0123456789") rfl)) };have ok:∀ f d,tab f=some d->DefOk (gm P w K mg base bX gv fQ br (tf.map (He.cT K))) tab f d:=by
  intro f d e;have hl:f < 21:=(List.getElem?_eq_some_iff.mp (show tabL[f]?=some d by rw [aO] at e; exact e)).1;rw [aO] at e
  match f,hl,e with
  | 0,_,e=>cases e; exact aM (x:="_law_asked") rfl F__law_asked jZ rfl rfl (fun _ _ _ _ _ _ us hl=>match us,hl with | [_,_],_=>rfl) (fun n hc=>lM Tx hc)
  | 1,_,e=>cases e; exact aM (x:="_law_draw") rfl F__law_draw lE rfl rfl (fun _ _ _ _ _ _ us hl=>match us,hl with | [_,_],_=>rfl) (fun n hc=>nk Tx hc)
  | 2,_,e=>cases e; exact aM (x:="_law_bent_text") rfl F__law_bent_text gI rfl rfl (fun _ _ _ _ _ _ us hl=>match us,hl with | [_,_,_],_=>rfl) (fun n hc=>ij Tx hc)
  | 3,_,e=>cases e; exact aM (x:="_law_counts") rfl F__law_counts jr rfl rfl (fun _ _ _ _ _ _ us hl=>match us,hl with | [],_=>rfl) (fun n hc=>j3 Tx hc)
  | 4,_,e=>cases e; exact aM (x:="_law_number") rfl F__law_number jq rfl rfl (fun _ _ _ _ _ _ us hl=>match us,hl with | [_,_,_],_=>rfl) (fun n hc=>j0 Tx hc)
  | 5,_,e=>cases e; exact aM (x:="_law_word") rfl F__law_word lC rfl rfl (fun _ _ _ _ _ _ us hl=>match us,hl with | [_],_=>rfl) (fun n hc=>ni Tx hc)
  | 6,_,e=>cases e; exact aM (x:="_law_in") rfl F__law_in oU rfl rfl (fun _ _ _ _ _ _ us hl=>match us,hl with | [_],_=>rfl) (fun n hc=>rG Tx hc)
  | 7,_,e=>cases e; exact aM (x:="_law_due") rfl F__law_due mX rfl rfl (fun _ _ _ _ _ _ us hl=>match us,hl with | [_],_=>rfl) (fun n hc=>ph Tx hc)
  | 8,_,e=>cases e; exact aM (x:="_law_row") rfl F__law_row mW rfl rfl (fun _ _ _ _ _ _ us hl=>match us,hl with | [_,_],_=>rfl) (fun n hc=>oZ Tx hc)
  | 9,_,e=>cases e; exact aM (x:="_law_tape") rfl F__law_tape lD rfl rfl (fun _ _ _ _ _ _ us hl=>match us,hl with | [_],_=>rfl) (fun n hc=>nj Tx hc)
  | 10,_,e=>cases e; exact aM (x:="_law_words") rfl F__law_words jY rfl rfl (fun _ _ _ _ _ _ us hl=>match us,hl with | [_,_],_=>rfl) (fun n hc=>lL Tx hc)
  | 11,_,e=>cases e; exact aM (x:="rows_in") rfl F_rows_in oR rfl rfl (fun _ _ _ _ _ _ us hl=>match us,hl with | [_],_=>rfl) (fun n hc=>rD Tx hc)
  | 12,_,e=>cases e; exact aM (x:="is_whole") rfl F_is_whole mV rfl rfl (fun _ _ _ _ _ _ us hl=>match us,hl with | [_,_,_],_=>rfl) (fun n hc=>oY Tx hc)
  | 13,_,e=>cases e; exact aM (x:="is_moment") rfl F_is_moment lB rfl rfl (fun _ _ _ _ _ _ us hl=>match us,hl with | [_],_=>rfl) (fun n hc=>nh Tx hc)
  | 14,_,e=>cases e; exact aM (x:="is_word") rfl F_is_word oS rfl rfl (fun _ _ _ _ _ _ us hl=>match us,hl with | [_],_=>rfl) (fun n hc=>rF Tx hc)
  | 15,_,e=>cases e; exact aM (x:="number_in") rfl F_number_in lA rfl rfl (fun _ _ _ _ _ _ us hl=>match us,hl with | [_],_=>rfl) (fun n hc=>ng Tx hc)
  | 16,_,e=>cases e; exact aM (x:="told_in") rfl F_told_in oQ rfl rfl (fun _ _ _ _ _ _ us hl=>match us,hl with | [_],_=>rfl) (fun n hc=>rC Tx hc)
  | 17,_,e=>cases e; exact aM (x:="read_told") rfl F_read_told lz rfl rfl (fun _ _ _ _ _ _ us hl=>match us,hl with | [_],_=>rfl) (fun n hc=>m9 Tx hc)
  | 18,_,e=>cases e; exact aM (x:="words_of") rfl F_words_of mU rfl rfl (fun _ _ _ _ _ _ us hl=>match us,hl with | [_],_=>rfl) (fun n hc=>oX Tx hc)
  | 19,_,e=>cases e; exact aM (x:="show_told") rfl F_show_told ly rfl rfl (fun _ _ _ _ _ _ us hl=>match us,hl with | [_],_=>rfl) (fun n hc=>m8 Tx hc)
  | 20,_,e=>cases e; exact aM (x:="law") rfl F_law sc_law rfl rfl (fun _ _ _ _ _ _ us hl=>match us,hl with | [_],_=>rfl) (fun n hc=>r_law Tx hc)
 obtain⟨fd2,F2,lk2⟩:=law_fn (p:=(gm P w K mg base bX gv fQ br (tf.map (He.cT K)))) (qs:=[]) rfl (callsOk ok 40) (f:=20) (d:=d_law) qd rfl (by rw [h0T_nil]; exact hrun);have ea:(gm P w K mg base bX gv fQ br (tf.map (He.cT K))).fa 20=He.ga K "law":=by show adr (mg "law")=_; rw [He.glo_ok X G (c.d.fact 20 (f:=.glo "law") rfl)]; rfl
 rw [ea] at F2 lk2;have ef:=hQ.eq (lR F) lk2;subst ef;exact F2
end K13
open PySem PySem.W PySem.Calls PyProof.Rows
set_option maxRecDepth 100000 in
set_option maxHeartbeats 0 in
theorem PySem.Challenge.cw_strokeguess_k13_told_rows_as_texts_holds : PySem.Challenge.rw_strokeguess_k13_told_rows_as_texts.Holds := by
 refine K13.pre ?_;refine M.sC (l:=PySem.Challenge.rw_strokeguess_k13_told_rows_as_texts) (n:=63) (k:=120) (x:="_law_script") (CX:=L2.CX0) rfl (by decide) (by kernel_rfl) ⟨rfl,by decide,by decide⟩ ?F (fun _ _ _ _ z=>z);intro w mg fa h Y G hmg0;obtain⟨K,KX,c⟩:=Y;have hmg:mg ("law" : PySem.Str)=some (.ref fa):=by
  have e:(HandSHeadRun.topDef (OpenLaw.row PySem.Challenge.rw_strokeguess_k13_told_rows_as_texts).prog 33).name=("law" : PySem.Str):=by kernel_rfl
  rw [<- e];exact hmg0
 obtain⟨fd,hb,hF⟩:=K13.facts (P:=(PySem.Challenge.rw_strokeguess_k13_told_rows_as_texts).prog) (w:=w) KX G hmg c;exact⟨K,fd,K13.tf.map (He.cT K),M.qi K _ _,KX,fun p hp=>by obtain⟨q,hq,rfl⟩:=List.mem_map.mp hp; exact c.nil q hq,fun p hp=>by obtain⟨q,hq,rfl⟩:=List.mem_map.mp hp; exact c.out q hq,fun p hp=>by obtain⟨q,hq,rfl⟩:=List.mem_map.mp hp; exact PySem.W.codeHd_of_K KX (c.hd q hq),hb,fun H a ns hl h1 hS=>⟨a,ns,rfl,hS,hl,M.tbl_of (K:=K) h1 (of_decide_eq_true (c.x.x 0 rfl)),fun _=>rfl⟩,hF⟩
