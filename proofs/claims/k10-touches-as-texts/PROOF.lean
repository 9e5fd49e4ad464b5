import PyProof.Rows.All
import Wide.All
import OpenK.AllK
import Wide.FinOn
import HandS.ForMost
import HandS.Flow
import HandS.Deep
import HandS.Wide
import HandS.IsInst
import HandS.Evl
import KE.DataEq
import HandS.TupAny
import HandS.Style
import HandS.Defaults
import HandS.HeadHook1
import HandS.HeadHook2
import HandS.Head0
import HandS.Head1
import HandS.Head2
import HandS.HeadEnd
import HandS.Lambda
import HandS.RaiseMore
import HandS.Zip
import HandS.DictComp
import HandS.ForExc
import HandS.CallSlots
import HandS.More
import HandS.Conv
import HandS.DictEq
import HandS.Finally
import KE.KDictPairs
import HandS.Small
import PyProof.SumAny
import HandS.TryOnly
import PyProof.StrBlock2
import PyProof.ReprRoads
import PyProof.TwoTypes
import PyProof.Rows.RuleB_bool
import HandS.MakeKwOnly
import HandS.SortInts
import KE.KxIndex
import PyProof.ReprLen
import PyProof.Rows.ReprShort
import KE.DataMinKey
import KE.LtData
import HandS.SortKw
import KE.DataMinMax
import HandS.HeadHook3
import HandS.HeadHook4
import HandS.EndTab
import HandS.WrittenGet
import HandS.SetKeys
import KE.DataFind
import PyProof.NeKinds
import KE.KNestM
import KE.SortKeyHeap
import KE.SortLaws
import HandS.ListItems
import KE.SortData
import HandS.Strs
import KE.IntTextLaws
import HandS.Text
import KE.KExcInit
import HandS.ExcInit
import HandS.ExcField
import KE.KExcIs
import PySem.Challenge.RW_strokeguess_k10_touches_as_texts
set_option Elab.async false
set_option linter.all false
set_option maxRecDepth 100000
set_option maxHeartbeats 4000000
namespace B
open PySem PySem.Spec PyProof.Rows L2
abbrev St:=L2.St
theorem e6{H:Hp}{p:Addr}{o:HO}(h:H p=none):Same H (upd H p o):=fun a u e=>by
 rw [upd_ne (ne_of_none e h)];exact e
theorem mX{H H':Hp}{p:Addr}{o:HO}(e:Same H H')(h:H p=none):Same H (upd H' p o):=fun a u ha=>by
 rw [upd_ne (ne_of_none ha h)];exact e a u ha
def CPowW(i j:Int):Prop:=0<=j/\(Builtin.Int.intBits i:Int) * j<=2 ^ 27
theorem ud{X:Cx}:OpR X (binaryOp .Pow) (rI CPowW fun i j=>.int (i ^ j.toNat)):=opI fun _ _ _ _ _ _ _ hc q=>PyProof.Rows.pow_int hc.1 hc.2 q
section
variable{K:PySem.W.Frag}{σ : St}{H H1:Hp}{Q:VK}{v x y:V}{ta tb tc te:TE}{t u:TT}{D:Ends}{ts us:TS}{i:Nat}{QB:Bool->Hp->Prop}{QA:List V->Hp->Prop}
theorem rd_eqI{a b:Int}(q:Q (.bl (decide (a=b))) H):rEq (.int a) (.int b) H Q:=⟨rfl,by
 have e:decide (V.int a=V.int b)=decide (a=b):=by rw [Bool.eq_iff_iff]; simp
 rw [e]; exact q⟩
theorem rd_neI{a b:Int}(q:Q (.bl (decide (a≠b))) H):rNe (.int a) (.int b) H Q:=⟨rfl,by
 have e:(!decide (V.int a=V.int b))=decide (a≠b):=by rw [Bool.eq_iff_iff]; simp
 rw [e]; exact q⟩
theorem rd_eqS{a b:Str}(q:Q (.bl (decide (a=b))) H):rEq (.str a) (.str b) H Q:=⟨rfl,by
 have e:decide (V.str a=V.str b)=decide (a=b):=by rw [Bool.eq_iff_iff]; simp
 rw [e]; exact q⟩
theorem rd_neS{a b:Str}(q:Q (.bl (decide (a≠b))) H):rNe (.str a) (.str b) H Q:=⟨rfl,by
 have e:(!decide (V.str a=V.str b))=decide (a≠b):=by rw [Bool.eq_iff_iff]; simp
 rw [e]; exact q⟩
end
end B
namespace B
open PySem PySem.Spec PyProof.Rows L2
structure bE(K:PySem.W.Frag)(mg:Str->Option Value)(x:Str)(st:Stmt):Prop where
 ex:∃ (f:Addr) (fd:FuncData),FunD K x x (defArgs st) (defBody st) (defScope st) [] [] f fd/\mg x=some (.ref f)
section
variable{P:Program}{w:World}{K:PySem.W.Frag}{mg:Str->Option Value}{base:Heap}{k:Nat}{x:Str}{st:Stmt}{N ps:List Str}{sp:Sp}
theorem aL{h:Heap}{fa:List He.Fa}{fn:List He.DefD}(X:K.In h)(G:h.Ns mainGlobals mg)(c:He.SaysD fa fn K)(i j:Nat)(hd:fn[i]?=some ⟨(x,none),x,x,defArgs st,defBody st,defScope st,[],[]⟩)(hf:fa[j]?=some (.glo x)):bE K mg x st:=by
 obtain⟨fd,F⟩:=c.def_ i hd;exact⟨_,fd,F,He.glo_ok X G (c.fact j hf)⟩
end
end B
namespace B
open PySem PySem.Spec PyProof.Rows L2
section
variable{X:Cx}{K:PySem.W.Frag}{σ : St}{H:Hp}{Q:VK}{QB:Bool->Hp->Prop}{ta te:TE}
abbrev RL:=List V->Hp->VK->Prop
def qX(K:PySem.W.Frag):RL:=fun xs H Q=>∃ p ys,xs=[.ref p]/\(SqL K H p ys\/SqT K H p ys)/\Q (.int ys.length) H
theorem cl_len:CallR X (.builtin "len") (qX X.K):=call_len_seq
def rLenS:RL:=fun xs H Q=>∃ z,xs=[.str z]/\z.length<=sizeLine/\Q (.int z.length) H
theorem uQ:CallR X (.builtin "len") rLenS:=call_len_str
theorem tV{z:Str}(h:z.length<=sizeLine)(q:Q (.int z.length) H):rLenS [.str z] H Q:=⟨z,rfl,h,q⟩
def oD:RL:=fun xs H Q=>(∃ i,xs=[.int i]/\Q (.int i) H)\/∃ k,xs=[.bl k]/\Q (.int (if k then 1 else 0)) H
theorem cl_int:CallR X (.type "int") oD:=call_int1
theorem tW{i:Int}(q:Q (.int i) H):oD [.int i] H Q:=.inl ⟨i,rfl,q⟩
theorem tX{k:Bool}(q:Q (.int (if k then 1 else 0)) H):oD [.bl k] H Q:=.inr ⟨k,rfl,q⟩
def rIsNo:R2:=fun x y H Q=>y = .non/\Q (.bl (decide (x = .non))) H
theorem oq_isN:OpR X (compareOp .Is) rIsNo:=op_isN
def rAddS:R2:=fun x y H Q=>∃ i j,x = .str i/\y = .str j/\i.length + j.length<=sizeLine/\Q (.str (i ++ j)) H
theorem uc:OpR X (binaryOp .Add) rAddS:=op_add_str
def j5(K:PySem.W.Frag)(ta:TE):TT:=fun σ H Q=>ta σ H fun x H'=>∃ k,TruV K x H' k/\Q k H'
theorem pt_tru{a:Expr}(ha:PE X a ta)(he:∀ whole,isTrue a X.env whole=(do let v <- whole; standAt a.pos; holding [v] (truthy v)):=by intro _; rfl):PT X a (j5 X.K ta):=pt_truth ha he
end
end B
namespace B
open PySem PySem.Spec PyProof.Rows L2
structure pI(M:List Addr)(G H G' H':Hp):Prop where
 gg:Same G G'
 gh:Same G' H'
 out:∀ b,G b=none->H b≠none->G' b=none
 fr:∀ b o,H b=some o->b ∉ M->H' b=some o
 dom:∀ b,H b≠none->H' b≠none
section
variable{M M':List Addr}{G0 H0 G1 H1 G2 H2 G H G' H':Hp}{K:PySem.W.Frag}{p l:Addr}{xs ys:List V}{Q:VK}{o o':HO}{v y:V}
theorem iW{b:Addr}(n:H p=none)(h:H b≠none):b≠p:=fun z=>h (by rw [z]; exact n)
theorem pI.data(h:Same G H)(n:H p=none):pI [] G H (upd G p o) (upd H p o) where
 gg:=e6 (h.free n)
 gh:=fun b u e=>by
  by_cases hb:b=p
  .subst hb; rw [upd_same] at e ⊢; exact e
  .rw [upd_ne hb] at e ⊢; exact h b u e
 out:=fun b hg hh=>by rw [upd_ne (iW n hh)]; exact hg
 fr:=fun b u e _=>by rw [upd_ne (ne_of_none e n)]; exact e
 dom:=fun b hh=>by rw [upd_ne (iW n hh)]; exact hh
theorem pI.freeze(h:Same G H)(n:G p=none)(e:H p=some o):Same G (upd G p o)/\Same (upd G p o) H:=⟨e6 n,fun b u eb=>by
 by_cases hb:b=p
 .subst hb; rw [upd_same] at eb; cases eb; exact e
 .rw [upd_ne hb] at eb; exact h b u eb⟩
end
end B
namespace B
open PySem PySem.Spec PyProof.Rows L2
section
variable{K:PySem.W.Frag}{σ : St}{G H:Hp}{Q:VK}{a:Addr}{kvs kvs':List (Key×V)}{s:Str}{v w:V}{R:V->Hp->Prop}{S:Hp->Prop}{td ty tv:TE}{D:Ends}
theorem cdivw{i j:Int}(h:0 < j)(h2:j < 18446744073709551616):CDivW i j:=⟨h,by
 have:j.natAbs < 2 ^ 64:=by omega
 exact Nat.lt_of_lt_of_le (PySem.Flt.log2_lt_of (by decide) this) (by decide)⟩
theorem sF{α : Type}{xs:List α}{i:Int}(h:xs≠[])(h0:0<=i)(h1:i < xs.length):∃ v,atI xs i=some v/\v∈xs/\xs[i.toNat]?=some v:=by
 obtain⟨j,rfl⟩:∃ j:Nat,i=j:=⟨i.toNat,by omega⟩;have hj:j < xs.length:=by omega
 exact⟨xs[j],atI_nat (by simp [hj]),List.getElem_mem hj,by simp [hj]⟩
end
end B
namespace B
open PySem PySem.Spec PyProof.Rows L2
def Shp(n:Nat)(d:PyData):Prop:=d.canLay0=true/\d.depth<=n
theorem tJ{i:Int}{n:Nat}:Shp n (.int i):=⟨rfl,Nat.zero_le _⟩
theorem tG{n:Nat}:Shp n .none:=⟨rfl,Nat.zero_le _⟩
theorem tF{i:Str}{n:Nat}(h:PyData.strOk i=true):Shp n (.str i):=⟨by simpa [PyData.canLay0] using h,Nat.zero_le _⟩
theorem ka:∀ {ds:List PyData} {n:Nat},(∀ d∈ds,Shp n d)->PyData.canLayAll0 ds=true/\PyData.depthAll ds<=n
 | [],n,_=>⟨rfl,Nat.zero_le _⟩
 | d :: ds,n,h=>by
  obtain⟨h1,h2⟩:=h d (by simp);obtain⟨h3,h4⟩:=ka fun e he=>h e (List.mem_cons_of_mem _ he);exact⟨by simp [PyData.canLayAll0,h1,h3],by simp only [PyData.depthAll]; omega⟩
theorem tE{ds:List PyData}{n:Nat}(h:∀ d∈ds,Shp n d):Shp (n + 1) (.tuple ds):=by
 obtain⟨h1,h2⟩:=ka h;exact⟨by simpa [PyData.canLay0] using h1,by simp only [PyData.depth]; omega⟩
theorem tH{ds:List PyData}{n:Nat}(h:∀ d∈ds,Shp n d):Shp (n + 1) (.list ds):=by
 obtain⟨h1,h2⟩:=ka h;exact⟨by simpa [PyData.canLay0] using h1,by simp only [PyData.depth]; omega⟩
theorem Shp.mono{n m:Nat}{d:PyData}(h:Shp n d)(l:n<=m):Shp m d:=⟨h.1,Nat.le_trans h.2 l⟩
theorem Shp.ok{n:Nat}{d:PyData}(h:Shp n d)(l:n<=64:=by decide):SeqAt.shaped d=true:=by
 unfold SeqAt.shaped;rw [h.1,decide_eq_true (Nat.le_trans h.2 l)]; rfl
theorem Shp.refl{n:Nat}{d:PyData}(h:Shp n d):PyData.eqv d d=true:=SeqAt.eqv_refl_plain d (PyData.plain_of_canLay0 d h.1)
end B
namespace B
open PySem PySem.Spec PyProof.Rows L2
section
variable{K:PySem.W.Frag}{σ : St}{M:List Addr}{G0 H0 G H:Hp}{Q:VK}{l b:Addr}{xs zs:List V}{y:V}{to:TE}{t:TA}{T:String}{r:V->List V->Hp->VK->Prop}{P:Prop}
theorem rd_eqB{a b:Bool}(q:Q (.bl (decide (a=b))) H):rEq (.bl a) (.bl b) H Q:=⟨rfl,by
 have e:decide (V.bl a=V.bl b)=decide (a=b):=by rw [Bool.eq_iff_iff]; simp
 rw [e]; exact q⟩
theorem rd_neB{a b:Bool}(q:Q (.bl (decide (a≠b))) H):rNe (.bl a) (.bl b) H Q:=⟨rfl,by
 have e:(!decide (V.bl a=V.bl b))=decide (a≠b):=by rw [Bool.eq_iff_iff]; simp
 rw [e]; exact q⟩
end
end B
namespace B
open PySem PySem.Spec PyProof.Rows L2
section
variable{X:Cx}{e a b o tg:Expr}{es rest:List Expr}{te ta tb tl:TE}{t:TA}{pos apos cpos:Pos}{f name:Str}{T id:String}{r:V->List V->Hp->VK->Prop}
theorem uG(K:PySem.W.Frag)(h:X.K=K:=by rfl):IxR X (rIxT K):=by subst h; exact ix_tup
theorem rQ(K:PySem.W.Frag)(h:X.K=K:=by rfl):IxR X (rIxL K):=by subst h; exact ix_list
theorem uR(K:PySem.W.Frag)(h:X.K=K:=by rfl):CallR X (.builtin "len") (qX K):=by subst h; exact cl_len
theorem op_inK(K:PySem.W.Frag)(h:X.K=K:=by rfl):OpR X (compareOp .In) (rIn K false):=by subst h; exact op_in_seq
theorem ue(K:PySem.W.Frag)(h:X.K=K:=by rfl):OpR X (compareOp .NotIn) (rIn K true):=by subst h; exact op_notIn_seq
theorem uh(K:PySem.W.Frag)(hu:X.A.units + 64 < cLine)(h:X.K=K:=by rfl):OpR X (compareOp .Eq) (rEqD K):=by subst h; exact op_eqD hu
theorem uf(K:PySem.W.Frag)(hu:X.A.units + 64 < cLine)(h:X.K=K:=by rfl):OpR X (compareOp .NotEq) (rNeD K):=by subst h; exact op_neD hu
theorem qH(K:PySem.W.Frag)(h:X.K=K:=by rfl):SlR X (rSlL K):=by subst h; exact sl_list
theorem rg(K:PySem.W.Frag)(hl:PE X e tl)(h:X.K=K:=by rfl):PI X tg e (iList K tl):=by subst h; exact pi_list hl
theorem t6(K:PySem.W.Frag)(hl:PE X e tl)(h:X.K=K:=by rfl):PI X tg e (iTup K tl):=by subst h; exact pi_tup hl
theorem t7(K:PySem.W.Frag){k:Nat}{t:TGs}{n:Nat}(hc:X.calm=true)(h:PGs X es t)(hK:X.K=K:=by rfl)(hn:(assignEach es X.env).length=n:=by rfl)(hst:(assignEach es X.env).findIdx? (·.1)=none:=by rfl):PG X (.Tuple es k pos) (gTup K n t):=by
 subst hK; exact pg_tup hc h hn hst
theorem tZ(K:PySem.W.Frag)(ha:PE X a ta)(h:X.K=K:=by rfl)(he:∀ whole,isTrue a X.env whole=(do let v <- whole; standAt a.pos; holding [v] (truthy v)):=by intro _; rfl):PT X a (j5 K ta):=by subst h; exact pt_tru ha he
theorem t9(K:PySem.W.Frag)(ha:PE X a ta)(hb:PE X (.BoolOp .Or (b :: rest) pos) tb)(h:X.K=K:=by rfl):PE X (.BoolOp .Or (a :: b :: rest) pos) (tOrT K ta tb):=by subst h; exact pe_orT ha hb
theorem ri(K:PySem.W.Frag)(ha:PE X a ta)(hb:PE X (.BoolOp .And (b :: rest) pos) tb)(h:X.K=K:=by rfl):PE X (.BoolOp .And (a :: b :: rest) pos) (tAndT K ta tb):=by subst h; exact pe_andT ha hb
theorem rh(K:PySem.W.Frag)(ha:PE X a ta)(h:X.K=K:=by rfl):PE X (.UnaryOp .Not a pos) (tNotT K ta):=by subst h; exact pe_notT ha
theorem pe_bmK(K:PySem.W.Frag)(pa:PlainAttrs T)(slot:Slot T name id)(hty:typeOf (.builtin id)=pure (.type "method_descriptor"))(hm:MtR X id r)(ho:PE X o ta)(ha:PA X (e :: es) t)(h:X.K=K:=by rfl)
  (hbase:attributeBase o name X.env (eval o X.env)=eval o X.env:=by rfl)
  (hfew:((backTo cpos (starEach (e :: es) X.env)).all (fun x=>!x.1) && (backToKw cpos (keywordEach [] X.env)).all (fun x=>x.1.isSome)
   && decide ((e :: es).length + ([]:List Keyword).length + (if ([]:List Keyword).isEmpty then 0 else 1) < 30))=true:=by rfl)
  (hline:(apos.endLine == cpos.line)=true:=by rfl) (hs:starEach (e :: es) X.env=(false,eval e X.env) :: starEach es X.env:=by rfl) (hplain:(backTo cpos (starEach es X.env)).any (·.1)=false:=by rfl) :
  PE X (.Call (.Attribute o name apos) (e :: es) [] cpos) (tBM K T r ta t):=by subst h; exact pe_bm pa slot hty hm ho ha hbase hfew hline hs hplain
theorem nH(K:PySem.W.Frag)(h:X.K=K:=by rfl):CallR X (.builtin "isinstance") (rIsi K):=by subst h; exact call_isi
theorem uP(K:PySem.W.Frag)(hc:X.calm=true)(h:X.K=K:=by rfl):CallR X (.builtin "all") (rAll K):=by subst h; exact cr_all hc
end
end B
namespace M
open PySem PySem.Spec PyProof.Rows L2 B
inductive Rf where
 | loc (i:Nat) | glo (s i:Nat)
 deriving DecidableEq
inductive Val where
 | non | bl (b:Bool) | int (i:Int) | str (x:Str) | lst (xs:List Val) | tup (xs:List Val) | dct (kvs:List (Key×Val)) | ref (r:Rf) | fn (f:Nat) | kt (xs:List Val) | scr (ns:List Int)
inductive Cel where
 | lst (xs:List Val) | dct (kvs:List (Key×Val)) | dtt (kvs:List (List Key×Val)) | ins (c:Nat) (fs:List (Nat×Val))
 /-- a dict that is walked now -/
 | ldc (kvs:List (Key×Val))
 /-- the code objects that a def has made,by their name -/
 | tab (q:Str)
 /-- an exception that was caught and kept: its class,its fields -/
 | exc (c:Nat) (fs:List (Nat×Val))
def Cel.lk:Cel->Bool
 | .ldc _=>true
 | _=>false
structure Hh where
 glo:Nat->List (Option Cel)
 loc:List Cel
mutual
def Val.nl:Val->Bool
 | .lst xs=>Val.nls xs
 | .tup xs=>Val.nls xs
 | .dct kvs=>Val.nlk kvs
 | .kt xs=>Val.nls xs
 | .ref (.loc _)=>false
 | _=>true
def Val.nls:List Val->Bool
 | []=>true
 | x :: xs=>x.nl && Val.nls xs
def Val.nlk:List (Key×Val)->Bool
 | []=>true
 | (_,x) :: xs=>x.nl && Val.nlk xs
end
def nlp{κ : Type}(kvs:List (κ×Val)):Bool:=kvs.all fun p=>p.2.nl
def Cel.nl:Cel->Bool
 | .lst xs=>Val.nls xs
 | .dct kvs=>nlp kvs
 | .dtt kvs=>nlp kvs
 | .ins _ fs=>nlp fs
 | .ldc kvs=>nlp kvs
 | .tab _=>true
 | .exc _ fs=>nlp fs
theorem kz:∀ xs:List Val,Val.nls xs=xs.all Val.nl
 | []=>rfl
 | x :: r=>by show(x.nl && Val.nls r)=(x.nl && r.all Val.nl); rw [kz r]
def Hh.get(h:Hh):Rf->Option Cel
 | .loc i=>h.loc[i]?
 | .glo s i=>match (h.glo s)[i]? with
  | some c=>c
  | none=>none
def Hh.has(h:Hh):Rf->Prop
 | .loc i=>i < h.loc.length
 | .glo s i=>i < (h.glo s).length
def upg(g:Nat->List (Option Cel))(s:Nat)(l:List (Option Cel)):Nat->List (Option Cel):=fun s'=>if s'=s then l else g s'
def Hh.set(h:Hh)(r:Rf)(c:Cel):Hh:=match r with
 | .loc i=>{ h with loc:=h.loc.set i c }
 | .glo s i=>{ h with glo:=upg h.glo s ((h.glo s).set i (some c)) }
def Hh.cX(h:Hh)(c:Cel):Hh:={ h with loc:=h.loc ++ [c] }
def Hh.aY(h:Hh)(s:Nat)(c:Cel):Hh:={ h with glo:=upg h.glo s (h.glo s ++ [some c]) }
theorem cm{h:Hh}{r:Rf}{c:Cel}(e:h.get r=some c):h.has r:=by
 cases r with
 | loc i=>exact(List.getElem?_eq_some_iff.mp e).1
 | glo s i =>
  show i < _;unfold Hh.get at e;dsimp only at e
  split at e
  .rename_i hc; exact(List.getElem?_eq_some_iff.mp hc).1
  .cases e
theorem dG{h:Hh}{r r':Rf}{c:Cel}:(h.set r c).has r'↔h.has r':=by
 cases r <;> cases r' <;> simp [Hh.has,Hh.set,upg]
 rename_i s i s' i'
 by_cases e:s'=s
 .subst e; simp
 .simp [e]
theorem get_set{h:Hh}{r:Rf}{c:Cel}(hr:h.has r):(h.set r c).get r=some c:=by
 cases r with
 | loc i=>simp only [Hh.get,Hh.set]; exact List.getElem?_set_self hr
 | glo s i =>
  simp only [Hh.get,Hh.set,upg,if_pos]
  rw [List.getElem?_set_self hr]
theorem nC{h:Hh}{r r':Rf}{c:Cel}(hr:r'≠r):(h.set r c).get r'=h.get r':=by
 cases r with
 | loc i =>
  cases r' with
  | loc j=>simp only [Hh.get,Hh.set]; exact List.getElem?_set_ne fun z=>hr (by rw [z])
  | glo s j=>rfl
 | glo s i =>
  cases r' with
  | loc j=>rfl
  | glo s' j =>
   simp only [Hh.get,Hh.set,upg]
   by_cases e:s'=s
   .subst e;rw [if_pos rfl,List.getElem?_set_ne fun z=>hr (by rw [z])]
   .rw [if_neg e]
theorem cG{h:Hh}{r:Rf}{c:Cel}:(h.cX c).has r↔h.has r\/r = .loc h.loc.length:=by
 cases r <;> simp [Hh.has,Hh.cX]
 omega
theorem cg{h:Hh}{s:Nat}{r:Rf}{c:Cel}:(h.aY s c).has r↔h.has r\/r = .glo s (h.glo s).length:=by
 cases r with
 | loc i=>simp [Hh.has,Hh.aY]
 | glo s' i =>
  simp only [Hh.has,Hh.aY,upg]
  by_cases e:s'=s
  .subst e; simp; omega
  .simp [e]
theorem gK{h:Hh}{r:Rf}{c:Cel}(hr:h.has r):(h.cX c).get r=h.get r:=by
 cases r with
 | loc i=>simp only [Hh.get,Hh.cX]; exact List.getElem?_append_left hr
 | glo s i=>rfl
theorem de{h:Hh}{c:Cel}:(h.cX c).get (.loc h.loc.length)=some c:=by simp [Hh.get,Hh.cX]
theorem gL{h:Hh}{s:Nat}{r:Rf}{c:Cel}(hr:h.has r):(h.aY s c).get r=h.get r:=by
 cases r with
 | loc i=>rfl
 | glo s' i =>
  simp only [Hh.get,Hh.aY,upg]
  by_cases e:s'=s
  .subst e; rw [if_pos rfl,List.getElem?_append_left hr]
  .rw [if_neg e]
theorem dg{h:Hh}{s:Nat}{c:Cel}:(h.aY s c).get (.glo s (h.glo s).length)=some c:=by simp [Hh.get,Hh.aY,upg]
structure Pm where
 P:Program
 w:World
 K:PySem.W.Frag
 mg:Str->Option Value
 base:Heap
 nm:Nat->Str
 inj:∀ i j,nm i=nm j->i=j
 ca:Nat->Addr
 fa:Nat->Addr
 nf:Nat
 /-- defs that make lambdas: how many,their code objects,these objects' tables -/
 nt:Nat:=0
 tc:Nat->Addr:=fun _=>0
 ta:Nat->Addr:=fun _=>0
structure GoodC(p:Pm)(c:Nat):Prop where
 cls:Cls p.K (p.ca c)
 no:∀ f,f < p.nf->NoAttr p.K (p.ca c) (p.nm f)
def oE:Val->Bool
 | .tup [.str w,.str _]=>decide (w∈(["out","up","down","wait"]:List Str))
 | .tup [.str w,.int _]=>decide (w∈(["out","up","down","wait"]:List Str))
 | _=>false
def Tu(G:Hp)(a:Addr)(vs:List V)(xs:List Val):Prop:=(xs.all oE=true/\∃ o:Obj,G a=some (.frz o (.tup vs))/\o.dict=none)\/(G a=some (.tup vs)/\xs.all oE=false)
theorem Tu.mono{G G':Hp}{a:Addr}{vs:List V}{xs:List Val}(h:Tu G a vs xs)(e:Same G G'):Tu G' a vs xs:=h.imp (fun⟨z,o,h1,h2⟩=>⟨z,o,e _ _ h1,h2⟩) fun⟨h1,h2⟩=>⟨e _ _ h1,h2⟩
theorem Tu.sq{K:PySem.W.Frag}{G H:Hp}{a:Addr}{vs:List V}{xs:List Val}(h:Tu G a vs xs)(e:Same G H):SqT K H a vs:=h.elim (fun⟨_,o,h1,_⟩=>.inl (.inr ⟨o,e _ _ h1⟩)) fun⟨h1,_⟩=>.inl (.inl (e _ _ h1))
theorem Tu.ty{K:PySem.W.Frag}{G H:Hp}{a:Addr}{vs:List V}{xs:List Val}(h:Tu G a vs xs)(e:Same G H):TyX K H (.ref a) (.type "tuple"):=h.elim (fun⟨_,o,h1,_⟩=>.fTuple (e _ _ h1)) fun⟨h1,_⟩=>.base (.tup (e _ _ h1))
mutual
inductive Rv (p:Pm) (m:Rf->Addr) (hs:Rf->Prop) (G:Hp):V->Val->Prop
 | non:Rv p m hs G .non .non
 | bl (b:Bool):Rv p m hs G (.bl b) (.bl b)
 | int (i:Int):Rv p m hs G (.int i) (.int i)
 | str (x:Str):Rv p m hs G (.str x) (.str x)
 | lst {a:Addr} {vs:List V} {xs:List Val}:G a=some (.lst vs)->RvA p m hs G vs xs->Rv p m hs G (.ref a) (.lst xs)
 | tup {a:Addr} {vs:List V} {xs:List Val}:Tu G a vs xs->RvA p m hs G vs xs->Rv p m hs G (.ref a) (.tup xs)
 | dct {a:Addr} {o:Obj} {vs:List (Key×V)} {xs:List (Key×Val)}:G a=some (.frz o (.dK vs))->RvK p m hs G vs xs->Rv p m hs G (.ref a) (.dct xs)
 | ref {r:Rf}:hs r->Rv p m hs G (.ref (m r)) (.ref r)
 | fn (f:Nat):Rv p m hs G (.ref (p.fa f)) (.fn f)
 | kt {a:Addr} {vs:List V} {xs:List Val}:(∀ H:Hp,SqT p.K H a vs)->RvA p m hs G vs xs->Rv p m hs G (.ref a) (.kt xs)
 | scr {a:Addr} {ns:List Int}:SqL p.K G a (ns.map V.int)->Rv p m hs G (.ref a) (.scr ns)
inductive RvA (p:Pm) (m:Rf->Addr) (hs:Rf->Prop) (G:Hp):List V->List Val->Prop
 | nil:RvA p m hs G [] []
 | cons {v:V} {vs:List V} {x:Val} {xs:List Val}:Rv p m hs G v x->RvA p m hs G vs xs->RvA p m hs G (v :: vs) (x :: xs)
inductive RvK (p:Pm) (m:Rf->Addr) (hs:Rf->Prop) (G:Hp):List (Key×V)->List (Key×Val)->Prop
 | nil:RvK p m hs G [] []
 | cons {k:Key} {v:V} {vs:List (Key×V)} {x:Val} {xs:List (Key×Val)}:Rv p m hs G v x->RvK p m hs G vs xs->RvK p m hs G ((k,v) :: vs) ((k,x) :: xs)
end
section
variable{p:Pm}{m m':Rf->Addr}{hs hs':Rf->Prop}{G G' H:Hp}
theorem lh{K:PySem.W.Frag}{H H':Hp}{a:Addr}{xs:List V}(e:Same H H')(h:SqL K H a xs):SqL K H' a xs:=e.seq h
mutual
theorem Rv.mono(hm:∀ r,hs r->hs' r/\m' r=m r)(e:Same G G'):∀ {x:Val} {v:V},Rv p m hs G v x->Rv p m' hs' G' v x
 | .non,_,h=>by cases h; exact .non
 | .bl _,_,h=>by cases h; exact .bl _
 | .int _,_,h=>by cases h; exact .int _
 | .str _,_,h=>by cases h; exact .str _
 | .lst _,_,h=>by cases h with | lst h1 h2=>exact .lst (e _ _ h1) (RvA.mono hm e h2)
 | .tup _,_,h=>by cases h with | tup h1 h2=>exact .tup (h1.mono e) (RvA.mono hm e h2)
 | .dct _,_,h=>by cases h with | dct h1 h2=>exact .dct (e _ _ h1) (RvK.mono hm e h2)
 | .ref r,_,h=>by cases h with | ref h1=>rw [<- (hm r h1).2]; exact .ref (hm r h1).1
 | .fn _,_,h=>by cases h; exact .fn _
 | .kt _,_,h=>by cases h with | kt h1 h2=>exact .kt h1 (RvA.mono hm e h2)
 | .scr _,_,h=>by cases h with | scr h1=>exact .scr (lh e h1)
theorem RvA.mono(hm:∀ r,hs r->hs' r/\m' r=m r)(e:Same G G'):∀ {xs:List Val} {vs:List V},RvA p m hs G vs xs->RvA p m' hs' G' vs xs
 | [],_,h=>by cases h; exact .nil
 | _ :: _,_,h=>by cases h with | cons h1 h2=>exact .cons (Rv.mono hm e h1) (RvA.mono hm e h2)
theorem RvK.mono(hm:∀ r,hs r->hs' r/\m' r=m r)(e:Same G G'):∀ {xs:List (Key×Val)} {vs:List (Key×V)},RvK p m hs G vs xs->RvK p m' hs' G' vs xs
 | [],_,h=>by cases h; exact .nil
 | (k,x) :: _,_,h=>by cases h with | cons h1 h2=>exact .cons (Rv.mono hm e h1) (RvK.mono hm e h2)
end
mutual
theorem Rv.less(hm:∀ s i,hs (.glo s i)->hs' (.glo s i)):∀ {x:Val} {v:V},x.nl=true->Rv p m hs G v x->Rv p m hs' G v x
 | .non,_,_,h=>by cases h; exact .non
 | .bl _,_,_,h=>by cases h; exact .bl _
 | .int _,_,_,h=>by cases h; exact .int _
 | .str _,_,_,h=>by cases h; exact .str _
 | .lst _,_,n,h=>by cases h with | lst h1 h2=>exact .lst h1 (RvA.less hm n h2)
 | .tup _,_,n,h=>by cases h with | tup h1 h2=>exact .tup h1 (RvA.less hm n h2)
 | .dct _,_,n,h=>by cases h with | dct h1 h2=>exact .dct h1 (RvK.less hm n h2)
 | .ref (.glo s i),_,_,h=>by cases h with | ref h1=>exact .ref (hm s i h1)
 | .ref (.loc i),_,n,_=>by cases n
 | .fn _,_,_,h=>by cases h; exact .fn _
 | .kt _,_,n,h=>by cases h with | kt h1 h2=>exact .kt h1 (RvA.less hm n h2)
 | .scr _,_,_,h=>by cases h with | scr h1=>exact .scr h1
theorem RvA.less(hm:∀ s i,hs (.glo s i)->hs' (.glo s i)):∀ {xs:List Val} {vs:List V},Val.nls xs=true->RvA p m hs G vs xs->RvA p m hs' G vs xs
 | [],_,_,h=>by cases h; exact .nil
 | _ :: _,_,n,h=>by
  cases h with
  | cons h1 h2 =>
   have n':=Bool.and_eq_true_iff.mp n;exact .cons (Rv.less hm n'.1 h1) (RvA.less hm n'.2 h2)
theorem RvK.less(hm:∀ s i,hs (.glo s i)->hs' (.glo s i)):∀ {xs:List (Key×Val)} {vs:List (Key×V)},Val.nlk xs=true->RvK p m hs G vs xs->RvK p m hs' G vs xs
 | [],_,_,h=>by cases h; exact .nil
 | (k,x) :: _,_,n,h=>by
  cases h with
  | cons h1 h2 =>
   have n':=Bool.and_eq_true_iff.mp n;exact .cons (Rv.less hm n'.1 h1) (RvK.less hm n'.2 h2)
end
theorem RvA.len:∀ {xs:List Val} {vs:List V},RvA p m hs G vs xs->vs.length=xs.length
 | [],_,h=>by cases h; rfl
 | _ :: _,_,h=>by cases h with | cons _ h2=>simp [RvA.len h2]
theorem RvK.len:∀ {xs:List (Key×Val)} {vs:List (Key×V)},RvK p m hs G vs xs->vs.length=xs.length
 | [],_,h=>by cases h; rfl
 | _ :: _,_,h=>by cases h with | cons _ h2=>simp [RvK.len h2]
theorem RvA.at:∀ {xs:List Val} {vs:List V} {i:Nat} {x:Val},RvA p m hs G vs xs->xs[i]?=some x->∃ v,vs[i]?=some v/\Rv p m hs G v x
 | [],_,i,x,_,e=>by simp at e
 | _ :: _,_,0,x,h,e=>by cases h with | cons h1 _=>simp at e; subst e; exact⟨_,rfl,h1⟩
 | _ :: _,_,i + 1,x,h,e=>by
  cases h with
  | cons _ h2 =>
   obtain⟨d,h3,h4⟩:=RvA.at (i:=i) h2 (by simpa using e);exact⟨d,by simpa using h3,h4⟩
theorem RvA.app:∀ {xs ys:List Val} {vs ws:List V},RvA p m hs G vs xs->RvA p m hs G ws ys->RvA p m hs G (vs ++ ws) (xs ++ ys)
 | [],_,_,_,h,k=>by cases h; exact k
 | _ :: _,_,_,_,h,k=>by cases h with | cons h1 h2=>exact .cons h1 (RvA.app h2 k)
theorem RvA.take:∀ {xs:List Val} {vs:List V} (n:Nat),RvA p m hs G vs xs->RvA p m hs G (vs.take n) (xs.take n)
 | _,_,0,_=>.nil
 | [],_,_ + 1,h=>by cases h; exact .nil
 | _ :: _,_,n + 1,h=>by cases h with | cons h1 h2=>exact .cons h1 (RvA.take n h2)
theorem RvA.drop:∀ {xs:List Val} {vs:List V} (n:Nat),RvA p m hs G vs xs->RvA p m hs G (vs.drop n) (xs.drop n)
 | _,_,0,h=>h
 | [],_,_ + 1,h=>by cases h; exact .nil
 | _ :: _,_,n + 1,h=>by cases h with | cons h1 h2=>exact RvA.drop n h2
theorem RvA.repl{n:Nat}{xs:List Val}{vs:List V}(h:RvA p m hs G vs xs):RvA p m hs G (List.replicate n vs).flatten (List.replicate n xs).flatten:=by
 induction n with
 | zero=>exact .nil
 | succ n ih=>rw [List.replicate_succ,List.replicate_succ,List.flatten_cons,List.flatten_cons]; exact h.app ih
abbrev Rkv{κ : Type}(p:Pm)(m:Rf->Addr)(hs:Rf->Prop)(G:Hp):List (κ×V)->List (κ×Val)->Prop:=Paired fun q r=>q.1=r.1/\Rv p m hs G q.2 r.2
theorem RvK.pd:∀ {xs:List (Key×Val)} {vs:List (Key×V)},RvK p m hs G vs xs->Rkv p m hs G vs xs
 | [],_,h=>by cases h; exact .nil
 | _ :: _,_,h=>by cases h with | cons h1 h2=>exact .cons ⟨rfl,h1⟩ (RvK.pd h2)
theorem RvK.of:∀ {xs:List (Key×Val)} {vs:List (Key×V)},Rkv p m hs G vs xs->RvK p m hs G vs xs
 | [],_,h=>by cases h; exact .nil
 | (k,x) :: _,_,h=>by
  cases h with
  | @cons q _ _ _ h1 h2 =>
   obtain⟨k',v⟩:=q;obtain⟨e,h1⟩:=h1;dsimp only at e;subst e;exact .cons h1 (RvK.of h2)
theorem Rkv.mono{κ : Type}(hm:∀ r,hs r->hs' r/\m' r=m r)(e:Same G G'){vs:List (κ×V)}{xs:List (κ×Val)}(h:Rkv p m hs G vs xs):Rkv p m' hs' G' vs xs:=L2.Paired.mapP h fun _ _ h=>⟨h.1,h.2.mono hm e⟩
theorem Rkv.less{κ : Type}(hm:∀ s i,hs (.glo s i)->hs' (.glo s i)):∀ {xs:List (κ×Val)} {vs:List (κ×V)},nlp xs=true->Rkv p m hs G vs xs->Rkv p m hs' G vs xs
 | [],_,_,h=>by cases h; exact .nil
 | (k,x) :: xs,_,n,h=>by
  cases h with
  | cons h1 h2 =>
   have n':(x.nl && nlp xs)=true:=n;rw [Bool.and_eq_true] at n';exact .cons ⟨h1.1,h1.2.less hm n'.1⟩ (Rkv.less hm n'.2 h2)
def xco(a C:Addr)(d:Option Addr):HO:=.ext fun h=>∃ oe vs,h.get? a=some oe/\oe.cls = .ref C/\oe.dict=d/\oe.data = .fields vs
def XF(p:Pm)(m:Rf->Addr)(hs:Rf->Prop)(G:Hp)(d:Option Addr)(fs:List (Nat×Val)):Prop :=
 (fs=[]/\d=none)\/∃ a vs,d=some a/\G a=some (.xd vs)/\Rkv p m hs G vs (fs.map fun q=>(p.nm q.1,q.2))/\∀ q∈fs,q.1 < p.nf
theorem XF.mono(hm:∀ r,hs r->hs' r/\m' r=m r)(e:Same G G'){d:Option Addr}{fs:List (Nat×Val)}(h:XF p m hs G d fs):XF p m' hs' G' d fs :=
 h.imp id fun⟨a,vs,h1,h2,h3,h4⟩=>⟨a,vs,h1,e _ _ h2,h3.mono hm e,h4⟩
theorem oJ{fs:List (Nat×Val)}{f:Nat->Str}:nlp (fs.map fun q=>(f q.1,q.2))=nlp fs:=by unfold nlp; rw [List.all_map]; rfl
theorem XF.less(hm:∀ s i,hs (.glo s i)->hs' (.glo s i)){d:Option Addr}{fs:List (Nat×Val)}(n:nlp fs=true)(h:XF p m hs G d fs):XF p m hs' G d fs :=
 h.imp id fun⟨a,vs,h1,h2,h3,h4⟩=>⟨a,vs,h1,h2,h3.less hm (oJ.trans n),h4⟩
inductive dj (p:Pm) (m:Rf->Addr) (hs:Rf->Prop) (G:Hp):HO->Cel->Prop
 | lst {vs:List V} {xs:List Val}:RvA p m hs G vs xs->dj p m hs G (.lst vs) (.lst xs)
 | dct {vs:List (Key×V)} {xs:List (Key×Val)}:Rkv p m hs G vs xs->dj p m hs G (.dK vs) (.dct xs)
 | dtt {vs:List (List Key×V)} {xs:List (List Key×Val)}:Rkv p m hs G vs xs->dj p m hs G (.dT vs) (.dtt xs)
 | ins {c:Nat} {dx:Addr} {vs:List (Str×V)} {fs:List (Nat×Val)}:GoodC p c->(∀ q∈fs,q.1 < p.nf)->Rkv p m hs G vs (fs.map fun q=>(p.nm q.1,q.2))->dj p m hs G (.ins (p.ca c) dx vs) (.ins c fs)
 | ldc {o:Obj} {vs:List (Key×V)} {xs:List (Key×Val)}:Rkv p m hs G vs xs->dj p m hs G (.frz o (.dK vs)) (.ldc xs)
 | tab {ps:Array Value} {q:Str}:TriplesOk ps.toList->(∀ (pos:Pos) (cv:Value),codeAmong pos ps.toList=some cv->∃ c,cv = .ref c/\G c=some (LamX.CodeO c q))->dj p m hs G (.tbl ps) (.tab q)
 | exc {a:Addr} {c:Nat} {d:Option Addr} {fs:List (Nat×Val)}:XF p m hs G d fs->dj p m hs G (xco a (p.ca c) d) (.exc c fs)
theorem dj.nofrz{o:HO}{c:Cel}(h:dj p m hs G o c)(l:c.lk=false):∀ a b,o≠.frz a b:=fun a b z=>by
 subst z
 cases h with
 | ldc=>cases l
theorem dj.mono(hm:∀ r,hs r->hs' r/\m' r=m r)(e:Same G G'){o:HO}{c:Cel}(h:dj p m hs G o c):dj p m' hs' G' o c:=by
 cases h with
 | lst h=>exact .lst (h.mono hm e)
 | dct h=>exact .dct (h.mono hm e)
 | dtt h=>exact .dtt (h.mono hm e)
 | ins a b h=>exact .ins a b (h.mono hm e)
 | ldc h=>exact .ldc (h.mono hm e)
 | tab a b=>exact .tab a fun pos cv z=>(b pos cv z).imp fun c q=>⟨q.1,e _ _ q.2⟩
 | exc h=>exact .exc (h.mono hm e)
theorem dj.less(hm:∀ s i,hs (.glo s i)->hs' (.glo s i)){o:HO}{c:Cel}(n:c.nl=true)(h:dj p m hs G o c):dj p m hs' G o c:=by
 cases h with
 | lst h=>exact .lst (h.less hm n)
 | dct h=>exact .dct (h.less hm n)
 | dtt h=>exact .dtt (h.less hm n)
 | ins a b h=>exact .ins a b (h.less hm (oJ.trans n))
 | ldc h=>exact .ldc (h.less hm n)
 | tab a b=>exact .tab a b
 | exc h=>exact .exc (h.less hm n)
end
structure Wo(p:Pm)(m:Rf->Addr)(h:Hh)(G H:Hp):Prop where
 gh:Same G H
 cel:∀ r c,h.get r=some c->G (m r)=none/\c.nl=true/\∃ o,H (m r)=some o/\dj p m h.has G o c
 inj:∀ r r',h.has r->h.has r'->m r=m r'->r=r'
 dom:∀ r,h.has r->H (m r)≠none
 tb:∀ k,k < p.nt->h.has (.glo 99 k)/\m (.glo 99 k)=p.ta k
def Own(m:Rf->Addr)(h:Hh)(b:Addr):Prop:=∃ r,h.has r/\m r=b
structure Stp(m:Rf->Addr)(h:Hh)(G H:Hp)(m':Rf->Addr)(h':Hh)(G' H':Hp):Prop where
 gg:Same G G'
 mm:∀ r,h.has r->h'.has r/\m' r=m r
 fr:∀ b o,H b=some o->¬ Own m h b->H' b=some o
 out:∀ b,H b≠none->¬ Own m h b->¬ Own m' h' b/\(G b=none->G' b=none)
 dom:∀ b,H b≠none->H' b≠none
 fz:∀ b o u,H b=some (.frz o u)->H' b=some (.frz o u)
structure Stw(m:Rf->Addr)(h:Hh)(G:Hp)(m':Rf->Addr)(h':Hh)(G':Hp):Prop where
 gg:Same G G'
 mm:∀ r,h.has r->h'.has r/\m' r=m r
theorem Stp.w{m m':Rf->Addr}{h h':Hh}{G H G' H':Hp}(s:Stp m h G H m' h' G' H'):Stw m h G m' h' G':=⟨s.gg,s.mm⟩
def upm(m:Rf->Addr)(r:Rf)(a:Addr):Rf->Addr:=fun r'=>if r'=r then a else m r'
section
variable{p:Pm}{m m' m1 m2:Rf->Addr}{h h' h1 h2:Hh}{G H G' H' G1 H1 G2 H2:Hp}{a b q:Addr}{c c':Cel}{o:HO}{v:V}{x:Val}{r:Rf}
theorem Stp.refl:Stp m h G H m h G H:=⟨Same.refl _,fun _ h=>⟨h,rfl⟩,fun _ _ h _=>h,fun _ _ n=>⟨n,id⟩,fun _ h=>h,fun _ _ _ h=>h⟩
theorem Stp.trans(s:Stp m h G H m1 h1 G1 H1)(t:Stp m1 h1 G1 H1 m2 h2 G2 H2):Stp m h G H m2 h2 G2 H2 where
 gg:=s.gg.trans t.gg
 mm:=fun r hr=>⟨(t.mm r (s.mm r hr).1).1,(t.mm r (s.mm r hr).1).2.trans (s.mm r hr).2⟩
 fr:=fun b o e n=>t.fr b o (s.fr b o e n) (s.out b (by rw [e]; simp) n).1
 out:=fun b e n=>⟨(t.out b (s.dom b e) (s.out b e n).1).1,fun g=>(t.out b (s.dom b e) (s.out b e n).1).2 ((s.out b e n).2 g)⟩
 dom:=fun b e=>t.dom b (s.dom b e)
 fz:=fun b o u e=>t.fz b o u (s.fz b o u e)
theorem Rv.stp(s:Stp m h G H m1 h1 G1 H1)(r:Rv p m h.has G v x):Rv p m1 h1.has G1 v x:=r.mono s.mm s.gg
theorem RvA.stw{p:Pm}{m m1:Rf->Addr}{h h1:Hh}{G G1:Hp}{vs:List V}{xs:List Val}(s:Stw m h G m1 h1 G1)(r:RvA p m h.has G vs xs):RvA p m1 h1.has G1 vs xs:=r.mono s.mm s.gg
theorem RvA.stp{vs:List V}{xs:List Val}(s:Stp m h G H m1 h1 G1 H1)(r:RvA p m h.has G vs xs):RvA p m1 h1.has G1 vs xs:=r.mono s.mm s.gg
theorem Wo.fresh(w:Wo p m h G H)(n:H q=none):¬ Own m h q:=fun⟨r,hr,e⟩=>w.dom r hr (by rw [e]; exact n)
theorem Wo.data(w:Wo p m h G H)(n:H q=none):Wo p m h (upd G q o) (upd H q o)/\Stp m h G H m h (upd G q o) (upd H q o):=by
 have gn:=w.gh.free n;refine⟨⟨(pI.data w.gh n).gh,fun r c e=>?_,w.inj,fun r hr=>?_,w.tb⟩,⟨e6 gn,fun _ h=>⟨h,rfl⟩,fun b u e _=>by rw [upd_ne (ne_of_none e n)]; exact e,fun b hb e=>⟨e,fun g=>by rw [upd_ne (iW n hb)]; exact g⟩,fun b hb=>by rw [upd_ne (iW n hb)]; exact hb,fun b o u e=>by rw [upd_ne (ne_of_none e n)]; exact e⟩⟩
 .obtain⟨h1,hn,u,h2,h3⟩:=w.cel r c e;have hb:m r≠q:=fun z=>w.fresh n ⟨r,cm e,z⟩;exact⟨by rw [upd_ne hb]; exact h1,hn,u,by rw [upd_ne hb]; exact h2,h3.mono (fun _ h=>⟨h,rfl⟩) (e6 gn)⟩
 .have hb:m r≠q:=fun z=>w.fresh n ⟨r,hr,z⟩;rw [upd_ne hb]; exact w.dom r hr
theorem Wo.mut(w:Wo p m h G H)(e:h.get r=some c')(hn:c.nl=true)(hc:dj p m h.has G o c)(lk:c'.lk=false:=by rfl):Wo p m (h.set r c) G (upd H (m r) o)/\Stp m h G H m (h.set r c) G (upd H (m r) o):=by
 have hr:=cm e;obtain⟨gn,_,u,hu,cu⟩:=w.cel r c' e;have hh:(h.set r c).has=h.has:=funext fun r'=>propext dG;refine⟨⟨mX w.gh gn,fun r' x hx=>?_,fun r1 r2 h1 h2=>w.inj r1 r2 (dG.mp h1) (dG.mp h2),fun r' h'=>?_,fun k hk=>⟨dG.mpr (w.tb k hk).1,(w.tb k hk).2⟩⟩,⟨Same.refl _,fun r' h'=>⟨dG.mpr h',rfl⟩,fun b u e n=>?_,fun b _ n=>⟨fun⟨r',h1,h2⟩=>n ⟨r',dG.mp h1,h2⟩,id⟩,fun b hb=>?_,fun b o' u' e'=>?_⟩⟩
 .rw [hh]
  by_cases er:r'=r
  .subst er; rw [get_set hr] at hx; cases hx; exact⟨gn,hn,o,upd_same,hc⟩
  .rw [nC er] at hx;obtain⟨h1,n1,u,h2,h3⟩:=w.cel r' x hx;have hb:m r'≠m r:=fun z=>er (w.inj _ _ (cm hx) hr z);exact⟨h1,n1,u,by rw [upd_ne hb]; exact h2,h3⟩
 .by_cases er:m r'=m r
  .rw [er,upd_same]; simp
  .rw [upd_ne er]; exact w.dom r' (dG.mp h')
 .rw [upd_ne fun z=>n ⟨r,hr,z.symm⟩]; exact e
 .by_cases er:b=m r
  .rw [er,upd_same]; simp
  .rw [upd_ne er]; exact hb
 .have hb:b≠m r:=fun z=>by
   rw [z,hu] at e';exact cu.nofrz lk _ _ (Option.some.inj e')
  rw [upd_ne hb]; exact e'
theorem Wo.cell(w:Wo p m h G H)(n:H q=none)(hh:∀ r',h'.has r'↔h.has r'\/r'=r)(hr:¬ h.has r)(hg:∀ r',h.has r'->h'.get r'=h.get r')(hgr:h'.get r=some c)(hn:c.nl=true)(hc:dj p m h.has G o c) :
  Wo p (upm m r q) h' G (upd H q o)/\Stp m h G H (upm m r q) h' G (upd H q o):=by
 have gn:=w.gh.free n;have hm:∀ r',h.has r'->h'.has r'/\upm m r q r'=m r':=fun r' h'=>⟨(hh r').mpr (.inl h'),by unfold upm; rw [if_neg (fun z:r'=r=>hr (by rw [<- z]; exact h'))]⟩;have hq:upm m r q r=q:=by unfold upm; rw [if_pos rfl]
 have hne:∀ r',h.has r'->m r'≠q:=fun r' h' z=>w.fresh n ⟨r',h',z⟩;refine⟨⟨mX w.gh gn,fun r' x hx=>?_,fun r1 r2 h1 h2 e=>?_,fun r' h'=>?_,fun k hk=>⟨(hm _ (w.tb k hk).1).1,(hm _ (w.tb k hk).1).2.trans (w.tb k hk).2⟩⟩,⟨Same.refl _,hm,fun b u e _=>by rw [upd_ne (ne_of_none e n)]; exact e,fun b hb nb=>⟨fun⟨r',h1,h2⟩=>?_,id⟩,fun b hb=>by rw [upd_ne (iW n hb)]; exact hb,fun b o u e=>by rw [upd_ne (ne_of_none e n)]; exact e⟩⟩
 .rcases (hh r').mp (cm hx) with h1 | rfl
  .rw [(hm r' h1).2];rw [hg r' h1] at hx;obtain⟨h2,n1,u,h3,h4⟩:=w.cel r' x hx;exact⟨h2,n1,u,by rw [upd_ne (hne r' h1)]; exact h3,h4.mono hm (Same.refl _)⟩
  .rw [hgr] at hx; cases hx;rw [hq];exact⟨gn,hn,o,upd_same,hc.mono hm (Same.refl _)⟩
 .rcases (hh r1).mp h1 with h1 | rfl
  .rcases (hh r2).mp h2 with h2 | rfl
   .rw [(hm r1 h1).2,(hm r2 h2).2] at e; exact w.inj _ _ h1 h2 e
   .rw [(hm r1 h1).2,hq] at e; exact absurd e (hne r1 h1)
  .rcases (hh r2).mp h2 with h2 | rfl
   .rw [(hm r2 h2).2,hq] at e; exact absurd e.symm (hne r2 h2)
   .rfl
 .rcases (hh r').mp h' with h1 | rfl
  .rw [(hm r' h1).2,upd_ne (hne r' h1)]; exact w.dom r' h1
  .rw [hq,upd_same]; simp
 .rcases (hh r').mp h1 with h1 | rfl
  .rw [(hm r' h1).2] at h2; exact nb ⟨r',h1,h2⟩
  .rw [hq] at h2; exact hb (by rw [<- h2]; exact n)
theorem Wo.cellL(w:Wo p m h G H)(n:H q=none)(hn:c.nl=true)(hc:dj p m h.has G o c):Wo p (upm m (.loc h.loc.length) q) (h.cX c) G (upd H q o)/\Stp m h G H (upm m (.loc h.loc.length) q) (h.cX c) G (upd H q o) :=
 w.cell n (fun _=>cG) (Nat.lt_irrefl _) (fun _ h=>gK h) de hn hc
theorem Wo.cellG{s:Nat}(w:Wo p m h G H)(n:H q=none)(hn:c.nl=true)(hc:dj p m h.has G o c):Wo p (upm m (.glo s (h.glo s).length) q) (h.aY s c) G (upd H q o)/\Stp m h G H (upm m (.glo s (h.glo s).length) q) (h.aY s c) G (upd H q o) :=
 w.cell n (fun _=>cg) (Nat.lt_irrefl _) (fun _ h=>gL h) dg hn hc
end
end M
namespace L2
open PySem PySem.Spec PyProof.Rows
section
variable{X:Cx}{pins:List (Addr×Obj)}{σ : St}{H:Hp}{s:Shared}{Q:VK}
def TQ(Q:VK)(p:Addr)(H:Hp)(xs:List V):Prop:=(∀ o:Obj,o.dict=none->Q (.ref p) (upd H p (.frz o (.tup xs))))\/Q (.ref p) (upd H p (.tup xs))
theorem jZ{us:List Value}{xs:List V}(I:Inv X pins σ H s)(r:Vals xs us)(z:xs.length<=sizeLine)(q:∀ p,H p=none->TQ Q p H xs):EP X pins σ Q (.ref s.heap.objs.size) { s with heap:=s.heap.push { cls:=.type "tuple",data:=.seq us.toArray } }:=by
 rcases q _ (I.hok.fresh (Nat.le_refl _)) with q | q
 .exact⟨.ref s.heap.objs.size,upd H s.heap.objs.size (.frz { cls:=.type "tuple",data:=.seq us.toArray } (.tup xs)),I.laid (t':=s.toks) (fun b ob e=>Heap.get?_push_of_some _ e) (Nat.le_refl _) ⟨Heap.get?_push_size _ rfl,z,us,r,⟨_,Heap.get?_push_size _ rfl,rfl,_,rfl⟩⟩,rfl,q _ rfl⟩
 .exact⟨.ref s.heap.objs.size,upd H s.heap.objs.size (.tup xs),I.laid (t':=s.toks) (fun b ob e=>Heap.get?_push_of_some _ e) (Nat.le_refl _) ⟨z,us,r,⟨_,Heap.get?_push_size _ rfl,rfl,_,rfl⟩⟩,rfl,q⟩
def tTupF(t:TA):TE:=fun σ H Q=>t σ H fun xs H1=>xs.length<=sizeLine/\∀ p,H1 p=none->TQ Q p H1 xs
theorem t8{es:List Expr}{k:Nat}{pos:Pos}{t:TA}(h:PA X es t):PE X (.Tuple es k pos) (tTupF t) :=
 ⟨fun pins s σ H Q I hq=>wpAny_Tuple_spliced (thn (h.run pos pins s σ H _ I hq) fun us s1 ⟨xs,H1,I1,r,z,q⟩=>⟨by rw [<- r.length]; exact z,jZ I1 r z q⟩)⟩
def rCatF(K:PySem.W.Frag):R2:=fun x y H Q=>∃ a b xs ys,x = .ref a/\y = .ref b/\SqT K H a xs/\SqT K H b ys/\xs.length + ys.length<=sizeLine /\
 (xs=[]->Q (.ref b) H)/\(xs≠[]->ys=[]->Q (.ref a) H)/\(xs≠[]->ys≠[]->∀ p,H p=none->TQ Q p H (xs ++ ys))
theorem ui(K:PySem.W.Frag)(h:X.K=K):OpR X (binaryOp .Add) (rCatF K):=by
 subst h;intro pins s σ H x y v u Q I rx ry h;obtain⟨a,b,xs,ys,rfl,rfl,ha,hb,hz,q0,q1,q2⟩:=h
 cases rx; cases ry
 obtain⟨its,r1,p1,_⟩:=I.tuple ha;obtain⟨jts,r2,p2,_⟩:=I.tuple hb
 by_cases hx:xs=[]
 .subst hx
  cases r1
  exact L2.cat_tup0 p1 p2 ⟨.ref b,H,I,rfl,q0 rfl⟩
 .exact HT.cat_tup p1 p2 (fun z=>hx (r1.nil_iff.mp z)) (fun z=>⟨.ref a,H,I,rfl,q1 hx (r2.nil_iff.mp z)⟩) (fun z=>jZ I (r1.append r2) (by rw [List.length_append]; exact hz) (q2 hx fun w=>z (r2.nil_iff.mpr w))) (by rw [<- r1.length,<- r2.length]; exact hz)
def rSlF(K:PySem.W.Frag):V->Option Int->Option Int->Hp->VK->Prop:=fun x lo hi H Q=>∃ a xs,x = .ref a/\SqT K H a xs /\
 (HT.sIx xs.length 0 lo=0/\HT.sIx xs.length xs.length hi=xs.length->Q (.ref a) H)/\(¬ (HT.sIx xs.length 0 lo=0/\HT.sIx xs.length xs.length hi=xs.length)->∀ p,H p=none->TQ Q p H (cutV xs lo hi))
theorem tD(K:PySem.W.Frag)(h:X.K=K):SlR X (rSlF K):=by
 subst h;intro pins s σ H x v vl vu lo hi sl Q I rx hs pl pu h;obtain⟨a,xs,rfl,hx,q1,q2⟩:=h
 cases rx
 obtain⟨its,r,ht,hz⟩:=I.tuple hx;have hlen:its.toArray.size=xs.length:=by rw [List.size_toArray]; exact r.length.symm
 refine⟨"tuple",_,PyProof.Rows.slot_tuple_getitem.lookup,ht.typeIs,?_⟩
 by_cases hw:HT.sIx xs.length 0 lo=0/\HT.sIx xs.length xs.length hi=xs.length
 .exact L2.getItem_tuple_whole ht hs pl pu (by rw [hlen]; exact hw) ⟨.ref a,H,I,rfl,q1 hw⟩
 .refine HT.getItem_tuple_cut ht hs pl pu (by rw [hlen]; exact hw) ?_ (by rw [hlen]; exact hz);rw [hlen];exact jZ I ((r.drop (HT.sIx xs.length 0 lo)).take (HT.sIx xs.length xs.length hi - HT.sIx xs.length 0 lo)) (Nat.le_trans (cutV_length xs lo hi) hz) (q2 hw)
end
end L2
namespace M
open PySem PySem.Spec PyProof.Rows L2 B
abbrev Sl:=List (Option Val)
structure En(p:Pm)(m:Rf->Addr)(h:Hh)(G:Hp)(σ : L2.St)(δ : Sl):Prop where
 len:σ.length = δ.length
 get:∀ (i:Nat) (x:Val),δ[i]?=some (some x)->∃ v,σ[i]?=some (some v)/\Rv p m h.has G v x
def cU(δ : Sl):List Nat->Sl
 | []=>δ
 | v :: vs=>(cU δ vs).set v none
section
variable{p:Pm}{m m1:Rf->Addr}{h h1:Hh}{G H G1 H1:Hp}{σ : L2.St}{δ : Sl}{v:V}{x:Val}
theorem En.stp(s:Stp m h G H m1 h1 G1 H1)(e:En p m h G σ δ):En p m1 h1 G1 σ δ:=⟨e.len,fun i x hx=>by
 obtain⟨v,a,b⟩:=e.get i x hx;exact⟨v,a,b.stp s⟩⟩
theorem En.set(e:En p m h G σ δ)(i:Nat)(r:Rv p m h.has G v x):En p m h G (σ.set i (some v)) (δ.set i (some x)):=⟨by simp [e.len],fun j y he=>by
 by_cases hij:i=j
 .subst hij
  by_cases hl:i < δ.length
  .rw [List.getElem?_set_self hl] at he
   cases he
   exact⟨v,by rw [List.getElem?_set_self (by rw [e.len]; exact hl)],r⟩
  .rw [List.getElem?_eq_none (by simp; omega)] at he; cases he
 .rw [List.getElem?_set_ne hij] at he ⊢;exact e.get j y he⟩
theorem En.unset(e:En p m h G σ δ)(i:Nat):En p m h G (σ.set i none) (δ.set i none):=⟨by simp [e.len],fun j y he=>by
 by_cases hij:i=j
 .subst hij
  by_cases hl:i < δ.length
  .rw [List.getElem?_set_self hl] at he; cases he
  .rw [List.getElem?_eq_none (by simp; omega)] at he; cases he
 .rw [List.getElem?_set_ne hij] at he ⊢;exact e.get j y he⟩
theorem En.wipe(e:En p m h G σ δ):∀ vs:List Nat,En p m h G (L2.wipe σ vs) (cU δ vs)
 | []=>e
 | v :: vs=>(En.wipe e vs).unset v
end
inductive Res (α : Type) where
 | err | ok (a:α) (h:Hh) | exc (c:Nat) (fs:List (Nat×Val)) (h:Hh)
def Res.bind{α β : Type}(r:Res α)(k:α->Hh->Res β):Res β:=match r with
 | .err=>.err
 | .ok a h=>k a h
 | .exc c fs h=>.exc c fs h
def ofO{α : Type}(o:Option α)(h:Hh):Res α:=match o with
 | some a=>.ok a h
 | none=>.err
def XR(p:Pm)(m:Rf->Addr)(h:Hh)(G H:Hp)(c:Nat)(fs:List (Nat×Val))(cls:Value)(d:Option Addr):Prop :=
 cls = .ref (p.ca c)/\XF p m h.has G d fs
abbrev jw(α β : Type):=(Rf->Addr)->Hh->Hp->β->α->Prop
def ao{α β : Type}(p:Pm)(R:jw α β)(m:Rf->Addr)(h:Hh)(G H:Hp)(W:WX)(σ : L2.St)(Q:β->Hp->Prop):Res α->Prop
 | .err=>False
 | .ok x h'=>∀ m' G' u H',Stp m h G H m' h' G' H'->Wo p m' h' G' H'->R m' h' G' u x->Q u H'
 | .exc c fs h'=>∀ m' G' H' cls d,Stp m h G H m' h' G' H'->Wo p m' h' G' H'->XR p m' h' G' H' c fs cls d->W cls d σ H'
section
variable{α β γ ε : Type}{p:Pm}{R:jw α β}{R':jw γ ε}{m m1:Rf->Addr}{h h1:Hh}{G H G1 H1:Hp}{W:WX}{σ : L2.St}{Q:β->Hp->Prop}{Q':ε->Hp->Prop}{r:Res α}{k:α->Hh->Res γ}
theorem ao.after(s:Stp m h G H m1 h1 G1 H1)(e:ao p R m h G H W σ Q r):ao p R m1 h1 G1 H1 W σ Q r:=by
 cases r with
 | err=>exact e
 | ok x h'=>exact fun m' G' u H' s' w' r'=>e m' G' u H' (s.trans s') w' r'
 | exc c fs h'=>exact fun m' G' H' cls d s' w' x'=>e m' G' H' cls d (s.trans s') w' x'
theorem ao.bind(e:ao p R' m h G H W σ Q' (r.bind k))(step:∀ x h1 m1 G1 u H1,Stp m h G H m1 h1 G1 H1->Wo p m1 h1 G1 H1->R m1 h1 G1 u x->ao p R' m1 h1 G1 H1 W σ Q' (k x h1)->Q u H1):ao p R m h G H W σ Q r:=by
 cases r with
 | err=>exact e
 | ok x h'=>exact fun m' G' u H' s' w' r'=>step x h' m' G' u H' s' w' r' (ao.after s' e)
 | exc c fs h'=>exact e
theorem ao.here{x:α}{u:β}(e:ao p R m h G H W σ Q (.ok x h))(w:Wo p m h G H)(r:R m h G u x):Q u H:=e m G u H .refl w r
theorem ao.step{x:α}{u:β}(e:ao p R m h G H W σ Q (.ok x h1))(s:Stp m h G H m1 h1 G1 H1)(w:Wo p m1 h1 G1 H1)(r:R m1 h1 G1 u x):Q u H1:=e m1 G1 u H1 s w r
theorem endO{o:Option α}(e:ao p R m h G H W σ Q (ofO o h)):∃ x,o=some x/\ao p R m h G H W σ Q (.ok x h):=by
 cases o with
 | none=>exact e.elim
 | some x=>exact⟨x,rfl,e⟩
end
def rV(p:Pm):jw Val V:=fun m h G u x=>Rv p m h.has G u x
def rA(p:Pm):jw (List Val) (List V):=fun m h G u x=>RvA p m h.has G u x
def rE{α : Type}:jw α α:=fun _ _ _ u x=>u=x
def Snd{α β : Type}(p:Pm)(R:jw α β)(t:WX->L2.St->Hp->(β->Hp->Prop)->Prop)(f:Sl->Hh->Res α):Prop :=
 ∀ W σ δ m h G H Q,En p m h G σ δ->Wo p m h G H->ao p R m h G H W σ Q (f δ h)->t W σ H Q
def gs(K:PySem.W.Frag)(a:Addr)(fd:FuncData):Prop:=∃ oc od osl,K.lookup a=some ⟨oc,od,.func fd,osl⟩
structure Ct where
 p:Pm
 k:Nat
 sc:Scope
 N:List Str
 fn:Str->Bool
 /-- the def one stands in: its address,the names within it -/
 cf:Addr
 ql:Str
 /-- a def's own block,no comprehension's -/
 tp:Bool
structure Good(C:Ct)(W:WX)(X:Cx):Prop where
 prog:X.prog=C.p.P
 w:X.w=C.p.w
 K:X.K=C.p.K
 mg:X.mg=C.p.mg
 base:X.base=C.p.base
 N:X.N=C.N
 nd:X.N.Nodup
 sc:X.env.scope=C.sc
 fn:X.fn=C.fn
 calm:X.calm=true
 room:Room C.k X.A
 gd:X.A.guards=some []
 pass:PassesOwn (model X.prog X.w) X.A X.env X.xe
 takes:Takes X W
 cd:∀ fd,gs C.p.K C.cf fd->X.env.code=fd.code
 ql:X.env.qual=C.ql
 top:C.tp=true->X.stack=X.env :: X.outer/\X.env.frame=some X.env.locals/\X.ex=[]
theorem Good.un{C:Ct}{W:WX}{X:Cx}(g:Good C W X):X.A.units + 64 < cLine:=g.room.units
theorem Good.u1{C:Ct}{W:WX}{X:Cx}(g:Good C W X):X.A.units + 1 < cLine:=by have:=g.room.units; omega
theorem Good.gl{C:Ct}{W:WX}{X:Cx}{x:Str}(g:Good C W X)(h:C.sc.names.lookup x=some .globalImplicit):Gl X x:=by
 show X.env.scope.names.lookup x=_;rw [g.sc]; exact h
def SE(C:Ct)(e:Expr)(f:Sl->Hh->Res Val):Prop:=∃ t:WX->TE,(∀ W X,Good C W X->PE X e (t W))/\Snd C.p (rV C.p) t f
def ST(C:Ct)(e:Expr)(f:Sl->Hh->Res Bool):Prop:=∃ t:WX->TT,(∀ W X,Good C W X->PT X e (t W))/\Snd C.p rE t f
def SW(C:Ct)(e:Expr)(f:Sl->Hh->Res Bool):Prop:=∃ t:WX->TT,(∀ W X,Good C W X->PW X e (t W))/\Snd C.p rE t f
def SA(C:Ct)(es:List Expr)(f:Sl->Hh->Res (List Val)):Prop:=∃ t:WX->TA,(∀ W X,Good C W X->PA X es (t W))/\Snd C.p (rA C.p) t f
def SO(C:Ct)(e:Option Expr)(f:Sl->Hh->Res (Option Int)):Prop:=∃ t:WX->TO,(∀ W X,Good C W X->PO X e (t W))/\Snd C.p rE t f
def ai(i:Nat):Sl->Hh->Res Val:=fun δ h=>match δ[i]? with
 | some (some x)=>.ok x h
 | _=>.err
def mK(x:Val):Sl->Hh->Res Val:=fun _ h=>.ok x h
section
variable{C:Ct}{a b e:Expr}{es:List Expr}{pos:Pos}{fa fb fc:Sl->Hh->Res Val}
theorem mY{i:Nat}{x:Str}(hN:C.N[i]?=some x)(hv:Vis C.sc x)(hd:(x == ("__debug__" : Str))=false:=by decide)(hcd:(x == ("__classdict__" : Str))=false:=by decide):SE C (.Name x pos) (ai i):=by
 refine⟨fun _=>tVar i,fun W X g=>pe_var (by rw [g.N]; exact hN) (by rw [g.sc]; exact hv) hd hcd,fun W σ δ m h G H Q en w e=>?_⟩;unfold ai at e
 split at e
 .rename_i x hx;obtain⟨v,h1,h2⟩:=en.get i x hx;exact⟨v,h1,e.here w h2⟩
 .exact e.elim
theorem af{i:Int}{j:Nat}:SE C (.Constant (.int i) j pos) (mK (.int i)):=⟨fun _=>tC (.int i),fun _ _ _=>pe_int,fun W σ δ m h G H Q en w e=>ao.here e w (.int i)⟩
theorem au{i:Str}{j:Nat}:SE C (.Constant (.str i) j pos) (mK (.str i)):=⟨fun _=>tC (.str i),fun _ _ _=>pe_str,fun W σ δ m h G H Q en w e=>ao.here e w (.str i)⟩
theorem iK{i:Bool}{j:Nat}:SE C (.Constant (.bool i) j pos) (mK (.bl i)):=⟨fun _=>tC (.bl i),fun _ _ _=>pe_bl,fun W σ δ m h G H Q en w e=>ao.here e w (.bl i)⟩
theorem bJ{j:Nat}:SE C (.Constant .none j pos) (mK .non):=⟨fun _=>tC .non,fun _ _ _=>pe_non,fun W σ δ m h G H Q en w e=>ao.here e w .non⟩
def eX(p:Pm)(x:Str)(y:Val):Prop:=∃ u v,p.mg x=some u/\RelV v u/\∀ m h G,Rv p m h G v y
theorem ck{x:Str}{y:Val}(hg:eX C.p x y)(hl:C.sc.names.lookup x=some .globalImplicit)(hd:(x == ("__debug__" : Str))=false:=by decide):SE C (.Name x pos) (mK y):=by
 obtain⟨u,v,h1,h2,h3⟩:=hg;exact⟨fun _=>tC v,fun W X g=>pe_glob (g.gl hl) (by rw [g.mg]; exact h1) h2 hd,fun W σ δ m h G H Q en w e=>ao.here e w (h3 m h.has G)⟩
def cj(p:Pm)(r:R2)(g:Hh->Val->Val->Res Val):Prop:=∀ m h G H u v x y Q W σ,Wo p m h G H->Rv p m h.has G u x->Rv p m h.has G v y->ao p (rV p) m h G H W σ Q (g h x y)->r u v H Q
def m2(g:Hh->Val->Val->Res Val)(fa fb:Sl->Hh->Res Val):Sl->Hh->Res Val:=fun δ h=>(fa δ h).bind fun x h1=>(fb δ h1).bind fun y h2=>g h2 x y
theorem iH{r:R2}{g:Hh->Val->Val->Res Val}{ta tb:WX->TE}(hr:cj C.p r g)(sa:Snd C.p (rV C.p) ta fa)(sb:Snd C.p (rV C.p) tb fb):Snd C.p (rV C.p) (fun W=>tOp r (ta W) (tb W)) (m2 g fa fb):=fun W σ δ m h G H Q en w e =>
 sa W σ δ m h G H _ en w (ao.bind e fun x h1 m1 G1 u H1 s1 w1 r1 e1 =>
  sb W σ δ m1 h1 G1 H1 _ (en.stp s1) w1 (ao.bind e1 fun y h2 m2 G2 v H2 s2 w2 r2 e2=>hr m2 h2 G2 H2 u v x y Q W σ w2 (Rv.stp s2 r1) r2 e2))
theorem gR{op:Operator}{r:R2}{g:Hh->Val->Val->Res Val}(ho:∀ W X,Good C W X->OpR X (binaryOp op) r)(hr:cj C.p r g)(ha:SE C a fa)(hb:SE C b fb):SE C (.BinOp a op b pos) (m2 g fa fb):=by
 obtain⟨ta,pa,sa⟩:=ha;obtain⟨tb,pb,sb⟩:=hb;exact⟨fun W=>tOp r (ta W) (tb W),fun W X g=>pe_op (ho W X g) (pa W X g) (pb W X g),iH hr sa sb⟩
def asB(x:Val)(h:Hh):Res Bool:=match x with
 | .bl b=>.ok b h
 | _=>.err
def mB(f:Sl->Hh->Res Val):Sl->Hh->Res Bool:=fun δ h=>(f δ h).bind asB
theorem fH{t:WX->TE}{f:Sl->Hh->Res Val}(s:Snd C.p (rV C.p) t f):Snd C.p rE (fun W=>tTest (t W)) (mB f):=fun W σ δ m h G H Q en w e =>
 s W σ δ m h G H _ en w (ao.bind e fun x h1 m1 G1 u H1 s1 w1 r1 e1=>by
  unfold asB at e1
  split at e1
  .cases r1
   exact⟨_,rfl,ao.here e1 w1 rfl⟩
  .exact e1.elim)
theorem st_cmp{op:CmpOp}{r:R2}{g:Hh->Val->Val->Res Val}(ho:∀ W X,Good C W X->OpR X (compareOp op) r)(hr:cj C.p r g)(ha:SE C a fa)(hb:SE C b fb)(hm:behindInMarks op b=false):ST C (.Compare a [op] [b] pos) (mB (m2 g fa fb)):=by
 obtain⟨ta,pa,sa⟩:=ha;obtain⟨tb,pb,sb⟩:=hb;exact⟨fun W=>tTest (tOp r (ta W) (tb W)),fun W X g=>pt_cmpR (ho W X g) (pa W X g) (pb W X g) hm,fH (iH hr sa sb)⟩
def mCh(g g':Hh->Val->Val->Res Val)(fa fb fc:Sl->Hh->Res Val):Sl->Hh->Res Val:=fun δ h=>(fa δ h).bind fun x h1=>(fb δ h1).bind fun y h2=>(g h2 x y).bind fun z h3=>match z with
 | .bl true=>(fc δ h3).bind fun w h4=>g' h4 y w
 | .bl false=>.ok (.bl false) h3
 | _=>.err
theorem qE{r r':R2}{g g':Hh->Val->Val->Res Val}{ta tb tc:WX->TE}(hr:cj C.p r g)(hr':cj C.p r' g')(sa:Snd C.p (rV C.p) ta fa)(sb:Snd C.p (rV C.p) tb fb)(sc:Snd C.p (rV C.p) tc fc) :
  Snd C.p (rV C.p) (fun W=>tChain r r' (ta W) (tb W) (tc W)) (mCh g g' fa fb fc):=fun W σ δ m h G H Q en w e =>
 sa W σ δ m h G H _ en w (ao.bind e fun x h1 m1 G1 u H1 s1 w1 r1 e1 =>
  sb W σ δ m1 h1 G1 H1 _ (en.stp s1) w1 (ao.bind e1 fun y h2 m2 G2 v H2 s2 w2 r2 e2 =>
   hr m2 h2 G2 H2 u v x y _ W σ w2 (Rv.stp s2 r1) r2 (ao.bind e2 fun z h3 m3 G3 zv H3 s3 w3 r3 e3=>by
    have s13:=(s1.trans s2).trans s3
    split at e3
    .cases r3
     refine⟨true,rfl,?_⟩;exact sc W σ δ m3 h3 G3 H3 _ (en.stp s13) w3 (ao.bind e3 fun q h4 m4 G4 qv H4 s4 w4 r4 e4=>hr' m4 h4 G4 H4 v qv y q Q W σ w4 (Rv.stp (s3.trans s4) r2) r4 e4)
    .cases r3
     exact⟨false,rfl,ao.here e3 w3 (.bl false)⟩
    .exact e3.elim)))
theorem qM{op op':CmpOp}{r r':R2}{g g':Hh->Val->Val->Res Val}{c:Expr}(ho:∀ W X,Good C W X->OpR X (compareOp op) r)(ho':∀ W X,Good C W X->OpR X (compareOp op') r')(hr:cj C.p r g)(hr':cj C.p r' g')
  (ha:SE C a fa) (hb:SE C b fb) (hc:SE C c fc) (hm:lastMarks [op,op'] [b,c]=false:=by rfl):SE C (.Compare a [op,op'] [b,c] pos) (mCh g g' fa fb fc):=by
 obtain⟨ta,pa,sa⟩:=ha;obtain⟨tb,pb,sb⟩:=hb;obtain⟨tc,pc,sc⟩:=hc;exact⟨fun W=>tChain r r' (ta W) (tb W) (tc W),fun W X g=>pe_chain (ho W X g) (ho' W X g) (pa W X g) (pb W X g) (pc W X g) hm,qE hr hr' sa sb sc⟩
theorem qz{op op':CmpOp}{r r':R2}{g g':Hh->Val->Val->Res Val}{c:Expr}(ho:∀ W X,Good C W X->OpR X (compareOp op) r)(ho':∀ W X,Good C W X->OpR X (compareOp op') r')(hr:cj C.p r g)(hr':cj C.p r' g')
  (ha:SE C a fa) (hb:SE C b fb) (hc:SE C c fc) (hm:lastMarks [op,op'] [b,c]=false:=by rfl):ST C (.Compare a [op,op'] [b,c] pos) (mB (mCh g g' fa fb fc)):=by
 obtain⟨ta,pa,sa⟩:=ha;obtain⟨tb,pb,sb⟩:=hb;obtain⟨tc,pc,sc⟩:=hc;exact⟨fun W=>tTest (tChain r r' (ta W) (tb W) (tc W)),fun W X g=>pt_chain (ho W X g) (ho' W X g) (pa W X g) (pb W X g) (pc W X g) hm,fH (qE hr hr' sa sb sc)⟩
def i5(f g:Sl->Hh->Res Bool):Sl->Hh->Res Bool:=fun δ h=>(f δ h).bind fun c h1=>if c=true then g δ h1 else .ok false h1
def gH(f g:Sl->Hh->Res Bool):Sl->Hh->Res Bool:=fun δ h=>(f δ h).bind fun c h1=>if c=true then .ok true h1 else g δ h1
def cY(f:Sl->Hh->Res Bool):Sl->Hh->Res Bool:=fun δ h=>(f δ h).bind fun c h1=>.ok (!c) h1
variable{ft fu:Sl->Hh->Res Bool}
theorem snd_and{t u:WX->TT}(s:Snd C.p rE t ft)(s':Snd C.p rE u fu):Snd C.p rE (fun W=>tAnd (t W) (u W)) (i5 ft fu):=fun W σ δ m h G H Q en w e =>
 s W σ δ m h G H _ en w (ao.bind e fun c h1 m1 G1 c' H1 s1 w1 r1 e1=>by
  cases r1
  cases c
  .exact ao.here e1 w1 rfl
  .exact s' W σ δ m1 h1 G1 H1 Q (en.stp s1) w1 e1)
theorem snd_or{t u:WX->TT}(s:Snd C.p rE t ft)(s':Snd C.p rE u fu):Snd C.p rE (fun W=>tOr (t W) (u W)) (gH ft fu):=fun W σ δ m h G H Q en w e =>
 s W σ δ m h G H _ en w (ao.bind e fun c h1 m1 G1 c' H1 s1 w1 r1 e1=>by
  cases r1
  cases c
  .exact s' W σ δ m1 h1 G1 H1 Q (en.stp s1) w1 e1
  .exact ao.here e1 w1 rfl)
theorem tx{t:WX->TT}(s:Snd C.p rE t ft):Snd C.p rE (fun W=>tNot (t W)) (cY ft):=fun W σ δ m h G H Q en w e =>
 s W σ δ m h G H _ en w (ao.bind e fun c h1 m1 G1 c' H1 s1 w1 r1 e1=>by
  cases r1
  exact ao.here e1 w1 rfl)
theorem j7{rest:List Expr}(ha:ST C a ft)(hb:SW C (.BoolOp .And (b :: rest) pos) fu):SW C (.BoolOp .And (a :: b :: rest) pos) (i5 ft fu):=by
 obtain⟨ta,pa,sa⟩:=ha;obtain⟨tb,pb,sb⟩:=hb;exact⟨fun W=>tAnd (ta W) (tb W),fun W X g=>pw_and (pa W X g) (pb W X g),snd_and sa sb⟩
theorem eR{rest:List Expr}(ha:ST C a ft)(hb:SW C (.BoolOp .Or (b :: rest) pos) fu):SW C (.BoolOp .Or (a :: b :: rest) pos) (gH ft fu):=by
 obtain⟨ta,pa,sa⟩:=ha;obtain⟨tb,pb,sb⟩:=hb;exact⟨fun W=>tOr (ta W) (tb W),fun W X g=>pw_or (pa W X g) (pb W X g),snd_or sa sb⟩
theorem ij(ha:ST C a ft):SW C (.BoolOp .And [a] pos) ft:=by
 obtain⟨ta,pa,sa⟩:=ha;exact⟨ta,fun W X g=>pw_and1 (pa W X g),sa⟩
theorem eg(ha:ST C a ft):SW C (.BoolOp .Or [a] pos) ft:=by
 obtain⟨ta,pa,sa⟩:=ha;exact⟨ta,fun W X g=>pw_or1 (pa W X g),sa⟩
theorem bG(h:SW C e ft):ST C e ft:=by
 obtain⟨ta,pa,sa⟩:=h;exact⟨ta,fun W X g=>(pa W X g).pt,sa⟩
theorem c8(ha:ST C a ft):ST C (.UnaryOp .Not a pos) (cY ft):=by
 obtain⟨ta,pa,sa⟩:=ha;exact⟨fun W=>tNot (ta W),fun W X g=>pt_not (pa W X g),tx sa⟩
def iD(h:Hh):Val->Option Bool
 | .non=>some false
 | .bl b=>some b
 | .int i=>some (i != 0)
 | .str z=>if z.length<=1000000 then some ((z.length:Int) != 0) else none
 | .lst xs=>some (!xs.isEmpty)
 | .tup xs=>some (!xs.isEmpty)
 | .kt xs=>some (!xs.isEmpty)
 | .scr ns=>some (!ns.isEmpty)
 | .dct _=>none
 | .ref r=>match h.get r with
  | some (.lst xs)=>some (!xs.isEmpty)
  | some (.dct kvs)=>some (!kvs.isEmpty)
  | _=>none
 | .fn _=>none
theorem aK{n:Nat}(h:n<=1000000):n<=sizeLine:=Nat.le_trans h (by decide)
theorem gc{α β : Type}{xs:List α}{ys:List β}(h:xs.length=ys.length):xs.isEmpty=ys.isEmpty:=by
 cases xs <;> cases ys <;> simp_all
variable{p:Pm}{m:Rf->Addr}{h:Hh}{G H:Hp}{u:V}{x:Val}{c:Bool}
theorem eG(w:Wo p m h G H)(r:Rv p m h.has G u x)(t:iD h x=some c):TruV p.K u H c:=by
 cases r with
 | non=>cases t; rfl
 | bl=>cases t; rfl
 | int=>cases t; rfl
 | str z =>
  have t:(if z.length<=1000000 then some ((z.length:Int) != 0) else none)=some c:=t
  split at t
  .cases t; exact⟨aK (by assumption),rfl⟩
  .cases t
 | lst h1 h2=>cases t; exact .inl ⟨_,SqL.of (w.gh _ _ h1),by rw [gc h2.len]⟩
 | tup h1 h2=>cases t; exact .inr (.inl ⟨_,(h1.sq w.gh),by rw [gc h2.len]⟩)
 | dct h1 h2=>cases t
 | kt h1 h2=>cases t; exact .inr (.inl ⟨_,h1 H,by rw [gc h2.len]⟩)
 | scr h1=>cases t; exact .inl ⟨_,lh w.gh h1,by simp⟩
 | fn=>cases t
 | @ref r hr =>
  have t:(match h.get r with
   | some (.lst xs)=>some (!xs.isEmpty)
   | some (.dct kvs)=>some (!kvs.isEmpty)
   | _=>none)=some c:=t
  split at t
  .rename_i hc
   cases t
   obtain⟨_,_,o,h3,h4⟩:=w.cel _ _ hc
   cases h4 with | lst h4=>exact .inl ⟨_,SqL.of h3,by rw [gc h4.len]⟩
  .rename_i hc
   cases t
   obtain⟨_,_,o,h3,h4⟩:=w.cel _ _ hc
   cases h4 with | dct h4=>exact .inr (.inr ⟨_,h3,by rw [gc h4.length]⟩)
  .cases t
def fT(f:Sl->Hh->Res Val):Sl->Hh->Res Bool:=fun δ h=>(f δ h).bind fun x h1=>ofO (iD h1 x) h1
theorem tq{t:WX->TE}{f:Sl->Hh->Res Val}(s:Snd C.p (rV C.p) t f):Snd C.p rE (fun W=>j5 C.p.K (t W)) (fT f):=fun W σ δ m h G H Q en w e =>
 s W σ δ m h G H _ en w (ao.bind e fun x h1 m1 G1 u H1 s1 w1 r1 e1=>by
  obtain⟨c,hc,e2⟩:=endO e1;exact⟨c,eG w1 r1 hc,ao.here e2 w1 rfl⟩)
theorem cK(ha:SE C a fa)(he:∀ env whole,isTrue a env whole=(do let v <- whole; standAt a.pos; holding [v] (truthy v)):=by intro _ _; rfl):ST C a (fT fa):=by
 obtain⟨ta,pa,sa⟩:=ha;exact⟨fun W=>j5 C.p.K (ta W),fun W X g=>tZ C.p.K (pa W X g) g.K (he X.env),tq sa⟩
def lZ(fa fb:Sl->Hh->Res Val):Sl->Hh->Res Val:=fun δ h=>(fa δ h).bind fun x h1=>match iD h1 x with
 | some true=>fb δ h1
 | some false=>.ok x h1
 | none=>.err
def uD(fa fb:Sl->Hh->Res Val):Sl->Hh->Res Val:=fun δ h=>(fa δ h).bind fun x h1=>match iD h1 x with
 | some true=>.ok x h1
 | some false=>fb δ h1
 | none=>.err
def rJ(fa:Sl->Hh->Res Val):Sl->Hh->Res Val:=fun δ h=>(fa δ h).bind fun x h1=>match iD h1 x with
 | some c=>.ok (.bl (!c)) h1
 | none=>.err
theorem m7{rest:List Expr}(ha:SE C a fa)(hb:SE C (.BoolOp .And (b :: rest) pos) fb):SE C (.BoolOp .And (a :: b :: rest) pos) (lZ fa fb):=by
 obtain⟨ta,pa,sa⟩:=ha;obtain⟨tb,pb,sb⟩:=hb;refine⟨fun W=>tAndT C.p.K (ta W) (tb W),fun W X g=>ri C.p.K (pa W X g) (pb W X g) g.K,fun W σ δ m h G H Q en w e=>sa W σ δ m h G H _ en w (ao.bind e fun x h1 m1 G1 u H1 s1 w1 r1 e1=>?_)⟩
 split at e1
 .rename_i hc; exact⟨true,eG w1 r1 hc,sb W σ δ m1 h1 G1 H1 Q (en.stp s1) w1 e1⟩
 .rename_i hc; exact⟨false,eG w1 r1 hc,ao.here e1 w1 r1⟩
 .exact e1.elim
theorem se_or{rest:List Expr}(ha:SE C a fa)(hb:SE C (.BoolOp .Or (b :: rest) pos) fb):SE C (.BoolOp .Or (a :: b :: rest) pos) (uD fa fb):=by
 obtain⟨ta,pa,sa⟩:=ha;obtain⟨tb,pb,sb⟩:=hb;refine⟨fun W=>tOrT C.p.K (ta W) (tb W),fun W X g=>t9 C.p.K (pa W X g) (pb W X g) g.K,fun W σ δ m h G H Q en w e=>sa W σ δ m h G H _ en w (ao.bind e fun x h1 m1 G1 u H1 s1 w1 r1 e1=>?_)⟩
 split at e1
 .rename_i hc; exact⟨true,eG w1 r1 hc,ao.here e1 w1 r1⟩
 .rename_i hc; exact⟨false,eG w1 r1 hc,sb W σ δ m1 h1 G1 H1 Q (en.stp s1) w1 e1⟩
 .exact e1.elim
theorem mZ{op:BoolOp}(ha:SE C a fa):SE C (.BoolOp op [a] pos) fa:=by
 obtain⟨ta,pa,sa⟩:=ha;exact⟨ta,fun W X g=>pe_one (pa W X g),sa⟩
theorem se_not(ha:SE C a fa):SE C (.UnaryOp .Not a pos) (rJ fa):=by
 obtain⟨ta,pa,sa⟩:=ha;refine⟨fun W=>tNotT C.p.K (ta W),fun W X g=>rh C.p.K (pa W X g) g.K,fun W σ δ m h G H Q en w e=>sa W σ δ m h G H _ en w (ao.bind e fun x h1 m1 G1 u H1 s1 w1 r1 e1=>?_)⟩
 split at e1
 .rename_i c hc; exact⟨c,eG w1 r1 hc,ao.here e1 w1 (.bl _)⟩
 .exact e1.elim
def mIf(ft:Sl->Hh->Res Bool)(fa fb:Sl->Hh->Res Val):Sl->Hh->Res Val:=fun δ h=>(ft δ h).bind fun c h1=>if c=true then fa δ h1 else fb δ h1
theorem iJ{c:Expr}(hc:ST C c ft)(ha:SE C a fa)(hb:SE C b fb):SE C (.IfExp c a b pos) (mIf ft fa fb):=by
 obtain⟨tc,pc,sc⟩:=hc;obtain⟨ta,pa,sa⟩:=ha;obtain⟨tb,pb,sb⟩:=hb;refine⟨fun W=>tIf (tc W) (ta W) (tb W),fun W X g=>pe_ifExp (pc W X g) (pa W X g) (pb W X g),fun W σ δ m h G H Q en w e=>sc W σ δ m h G H _ en w (ao.bind e fun x h1 m1 G1 u H1 s1 w1 r1 e1=>?_)⟩
 cases r1
 cases x
 .exact sb W σ δ m1 h1 G1 H1 Q (en.stp s1) w1 e1
 .exact sa W σ δ m1 h1 G1 H1 Q (en.stp s1) w1 e1
def av:Sl->Hh->Res (List Val):=fun _ h=>.ok [] h
def ae(f:Sl->Hh->Res Val)(g:Sl->Hh->Res (List Val)):Sl->Hh->Res (List Val):=fun δ h=>(f δ h).bind fun x h1=>(g δ h1).bind fun xs h2=>.ok (x :: xs) h2
variable{fs:Sl->Hh->Res (List Val)}
theorem ah:SA C [] av:=⟨fun _=>tNil,fun _ _ _=>pa_nil,fun W σ δ m h G H Q en w e=>ao.here e w .nil⟩
theorem aa(ha:SE C e fa)(hr:SA C es fs)(hs:∀ env,starEach (e :: es) env=(false,eval e env) :: starEach es env:=by intro _; rfl):SA C (e :: es) (ae fa fs):=by
 obtain⟨ta,pa,sa⟩:=ha;obtain⟨tb,pb,sb⟩:=hr;refine⟨fun W=>tCons (ta W) (tb W),fun W X g=>pa_cons (pa W X g) (pb W X g) (hs _),fun W σ δ m h G H Q en w e=>sa W σ δ m h G H _ en w (ao.bind e fun x h1 m1 G1 u H1 s1 w1 r1 e1=>?_)⟩;exact sb W σ δ m1 h1 G1 H1 _ (en.stp s1) w1 (ao.bind e1 fun xs h2 m2 G2 us H2 s2 w2 r2 e2=>ao.here e2 w2 (.cons (Rv.stp s2 r1) r2))
theorem f7{Q:VK}{W:WX}{σ : L2.St}{q:Addr}{vs:List V}{xs:List Val}(e:ao p (rV p) m h G H W σ Q (.ok (.tup xs) h))(w:Wo p m h G H)(n:H q=none)(r:RvA p m h.has G vs xs):L2.TQ Q q H vs:=by
 by_cases hp:xs.all oE=true
 .refine .inl fun o ho=>?_;have ww:=w.data (o:=.frz o (.tup vs)) n;exact e.step ww.2 ww.1 (.tup (.inl ⟨hp,o,upd_same,ho⟩) (RvA.stp ww.2 r))
 .have ww:=w.data (o:=.tup vs) n;exact .inr (e.step ww.2 ww.1 (.tup (.inr ⟨upd_same,by simpa using hp⟩) (RvA.stp ww.2 r)))
theorem ey{Q:VK}{W:WX}{σ : L2.St}{q:Addr}{vs:List V}{xs:List Val}(e:ao p (rV p) m h G H W σ Q (.ok (.lst xs) h))(w:Wo p m h G H)(n:H q=none)(r:RvA p m h.has G vs xs):Q (.ref q) (upd H q (.lst vs)):=by
 have ww:=w.data (o:=.lst vs) n;exact e.step ww.2 ww.1 (.lst upd_same (RvA.stp ww.2 r))
inductive Md where
 | dat | loc | glo (s:Nat)
def bQ(md:Md)(xs:List Val)(h:Hh):Res Val:=match md with
 | .dat=>.ok (.lst xs) h
 | .loc=>if Val.nls xs=true then .ok (.ref (.loc h.loc.length)) (h.cX (.lst xs)) else .err
 | .glo s=>if Val.nls xs=true then .ok (.ref (.glo s (h.glo s).length)) (h.aY s (.lst xs)) else .err
theorem oV{Q:VK}{W:WX}{σ : L2.St}{q:Addr}{vs:List V}{xs:List Val}{md:Md}(e:ao p (rV p) m h G H W σ Q (bQ md xs h))(w:Wo p m h G H)(n:H q=none)(r:RvA p m h.has G vs xs):Q (.ref q) (upd H q (.lst vs)):=by
 cases md with
 | dat=>exact ey e w n r
 | loc =>
  unfold bQ at e;dsimp only at e
  split at e
  .rename_i hn;have ww:=w.cellL (c:=.lst xs) n hn (.lst r);refine e.step ww.2 ww.1 ?_;have:upm m (.loc h.loc.length) q (.loc h.loc.length)=q:=by unfold upm; rw [if_pos rfl]
   have rr:Rv p (upm m (.loc h.loc.length) q) (h.cX (.lst xs)).has G (.ref (upm m (.loc h.loc.length) q (.loc h.loc.length))) (.ref (.loc h.loc.length)):=.ref (cG.mpr (.inr rfl));rw [this] at rr;exact rr
  .exact e.elim
 | glo s =>
  unfold bQ at e;dsimp only at e
  split at e
  .rename_i hn;have ww:=w.cellG (s:=s) (c:=.lst xs) n hn (.lst r);refine e.step ww.2 ww.1 ?_;have:upm m (.glo s (h.glo s).length) q (.glo s (h.glo s).length)=q:=by unfold upm; rw [if_pos rfl]
   have rr:Rv p (upm m (.glo s (h.glo s).length) q) (h.aY s (.lst xs)).has G (.ref (upm m (.glo s (h.glo s).length) q (.glo s (h.glo s).length))) (.ref (.glo s (h.glo s).length)):=.ref (cg.mpr (.inr rfl));rw [this] at rr;exact rr
  .exact e.elim
def fS(fs:Sl->Hh->Res (List Val)):Sl->Hh->Res Val:=fun δ h=>(fs δ h).bind fun xs h1=>if xs.length<=1000000 then .ok (.tup xs) h1 else .err
def bb(md:Md)(fs:Sl->Hh->Res (List Val)):Sl->Hh->Res Val:=fun δ h=>(fs δ h).bind fun xs h1=>if xs.length<=1000000 then bQ md xs h1 else .err
theorem cz{k:Nat}(ha:SA C es fs):SE C (.Tuple es k pos) (fS fs):=by
 obtain⟨ta,pa,sa⟩:=ha;refine⟨fun W=>tTupF (ta W),fun W X g=>t8 (pa W X g),fun W σ δ m h G H Q en w e=>sa W σ δ m h G H _ en w (ao.bind e fun x h1 m1 G1 u H1 s1 w1 r1 e1=>?_)⟩
 split at e1
 .exact⟨by rw [RvA.len r1]; exact aK (by assumption),fun q n=>f7 e1 w1 n r1⟩
 .exact e1.elim
theorem aB(md:Md)(ha:SA C es fs):SE C (.List es pos) (bb md fs):=by
 obtain⟨ta,pa,sa⟩:=ha;refine⟨fun W=>tLst (ta W),fun W X g=>pe_lst (pa W X g),fun W σ δ m h G H Q en w e=>sa W σ δ m h G H _ en w (ao.bind e fun x h1 m1 G1 u H1 s1 w1 r1 e1=>?_)⟩
 split at e1
 .exact⟨by rw [RvA.len r1]; exact aK (by assumption),fun q n=>oV e1 w1 n r1⟩
 .exact e1.elim
end
end M
namespace M
open PySem PySem.Spec PyProof.Rows L2 B
def rdM(h:Hh):Val->Option (List Val)
 | .lst xs=>some xs
 | .ref r=>match h.get r with
  | some (.lst xs)=>some xs
  | _=>none
 | _=>none
def rdL(h:Hh):Val->Option (List Val)
 | .scr ns=>some (ns.map Val.int)
 | x=>rdM h x
def rdT:Val->Option (List Val)
 | .tup xs=>some xs
 | .kt xs=>some xs
 | _=>none
def rdQ(h:Hh)(x:Val):Option (List Val):=match rdT x with
 | some xs=>some xs
 | none=>rdL h x
section
variable{p:Pm}{m:Rf->Addr}{h:Hh}{G H:Hp}{u v:V}{x y:Val}{xs:List Val}
theorem gz(w:Wo p m h G H)(r:Rv p m h.has G u x)(t:rdM h x=some xs):∃ a vs,u = .ref a/\H a=some (.lst vs)/\RvA p m h.has G vs xs:=by
 cases r with
 | lst h1 h2=>cases t; exact⟨_,_,rfl,w.gh _ _ h1,h2⟩
 | @ref r hr =>
  have t:(match h.get r with | some (.lst xs)=>some xs | _=>none)=some xs:=t
  split at t
  .rename_i hc
   cases t
   obtain⟨_,_,o,h3,h4⟩:=w.cel _ _ hc
   cases h4 with | lst h4=>exact⟨_,_,rfl,h3,h4⟩
  .cases t
 | _=>cases t
theorem fN{hs:Rf->Prop}:∀ {ns:List Int},RvA p m hs G (ns.map V.int) (ns.map Val.int)
 | []=>.nil
 | _ :: _=>.cons (.int _) fN
theorem gU{hs:Rf->Prop}:∀ {ns:List Bool} {vs:List V},RvA p m hs G vs (ns.map Val.bl)->vs=ns.map V.bl
 | [],_,h=>by cases h; rfl
 | _ :: _,_,h=>by cases h with | cons h1 h2=>cases h1; rw [gU h2]; rfl
theorem kn(w:Wo p m h G H)(r:Rv p m h.has G u x)(t:rdL h x=some xs):∃ a vs,u = .ref a/\SqL p.K H a vs/\RvA p m h.has G vs xs:=by
 cases r with
 | scr h1=>cases t; exact⟨_,_,rfl,lh w.gh h1,fN⟩
 | lst h1 h2=>cases t; exact⟨_,_,rfl,SqL.of (w.gh _ _ h1),h2⟩
 | ref hr =>
  obtain⟨a,vs,e,h1,h2⟩:=gz (x:=.ref _) w (.ref hr) t;exact⟨a,vs,e,SqL.of h1,h2⟩
 | _=>cases t
theorem qV(w:Wo p m h G H)(r:Rv p m h.has G u x)(t:rdT x=some xs):∃ a vs,u = .ref a/\SqT p.K H a vs/\RvA p m h.has G vs xs:=by
 cases r with
 | tup h1 h2=>cases t; exact⟨_,_,rfl,(h1.sq w.gh),h2⟩
 | kt h1 h2=>cases t; exact⟨_,_,rfl,h1 H,h2⟩
 | _=>cases t
theorem km(w:Wo p m h G H)(r:Rv p m h.has G u x)(t:rdQ h x=some xs):∃ a vs,u = .ref a/\(SqL p.K H a vs\/SqT p.K H a vs)/\RvA p m h.has G vs xs:=by
 unfold rdQ at t
 split at t
 .rename_i ys hy
  cases t
  obtain⟨a,vs,e,h1,h2⟩:=qV w r hy;exact⟨a,vs,e,.inr h1,h2⟩
 .obtain⟨a,vs,e,h1,h2⟩:=kn w r t;exact⟨a,vs,e,.inl h1,h2⟩
mutual
def Val.toD:Val->Option PyData
 | .non=>some .none
 | .bl b=>some (.bool b)
 | .int i=>some (.int i)
 | .str x=>some (.str x)
 | .lst xs=>(Val.gu xs).map PyData.list
 | .tup xs=>(Val.gu xs).map PyData.tuple
 | .kt xs=>(Val.gu xs).map PyData.tuple
 | _=>none
def Val.gu:List Val->Option (List PyData)
 | []=>some []
 | x :: xs=>match x.toD,Val.gu xs with
  | some d,some ds=>some (d :: ds)
  | _,_=>none
end
mutual
theorem dY(w:Wo p m h G H):∀ {x:Val} {u:V} {d:PyData},Rv p m h.has G u x->x.toD=some d->Dp p.K H u d
 | .non,_,_,r,t=>by cases r; cases t; exact .non
 | .bl _,_,_,r,t=>by cases r; cases t; exact .bl _
 | .int _,_,_,r,t=>by cases r; cases t; exact .int _
 | .str _,_,_,r,t=>by cases r; cases t; exact .str _
 | .lst xs,_,_,r,t=>by
  cases r with
  | lst h1 h2 =>
   have t:(Val.gu xs).map PyData.list=some _:=t;obtain⟨ds,e1,e2⟩:=Option.map_eq_some_iff.mp t;subst e2;exact .lst (SqL.of (w.gh _ _ h1)) (ig w h2 e1)
 | .tup xs,_,_,r,t=>by
  cases r with
  | tup h1 h2 =>
   have t:(Val.gu xs).map PyData.tuple=some _:=t;obtain⟨ds,e1,e2⟩:=Option.map_eq_some_iff.mp t;subst e2;exact .tup ((h1.sq w.gh)) (ig w h2 e1)
 | .kt xs,_,_,r,t=>by
  cases r with
  | kt h1 h2 =>
   have t:(Val.gu xs).map PyData.tuple=some _:=t;obtain⟨ds,e1,e2⟩:=Option.map_eq_some_iff.mp t;subst e2;exact .tup (h1 H) (ig w h2 e1)
 | .dct _,_,_,_,t=>by cases t
 | .ref _,_,_,_,t=>by cases t
 | .fn _,_,_,_,t=>by cases t
 | .scr _,_,_,_,t=>by cases t
theorem ig(w:Wo p m h G H):∀ {xs:List Val} {us:List V} {ds:List PyData},RvA p m h.has G us xs->Val.gu xs=some ds->DpAll p.K H us ds
 | [],_,_,r,t=>by cases r; cases t; exact .nil
 | x :: xs,_,_,r,t=>by
  cases r with
  | cons h1 h2 =>
   have t:(match x.toD,Val.gu xs with | some d,some ds=>some (d :: ds) | _,_=>none)=some _:=t
   split at t
   .rename_i d ds e1 e2
    cases t
    exact .cons (dY w h1 e1) (ig w h2 e2)
   .cases t
end
def dD(h:Hh):Nat->Val->Option PyData
 | 0,_=>none
 | n + 1,x=>match x with
  | .ref r=>match h.get r with
   | some (.lst xs)=>(xs.mapM fun(y:Val)=>match y.toD with | some d=>some d | none=>dD h n y).map PyData.list
   | _=>none
  | .lst xs=>(xs.mapM fun(y:Val)=>match y.toD with | some d=>some d | none=>dD h n y).map PyData.list
  | .tup xs=>(xs.mapM fun(y:Val)=>match y.toD with | some d=>some d | none=>dD h n y).map PyData.tuple
  | .scr ns=>some (.list (ns.map PyData.int))
  | x=>x.toD
def rdD(h:Hh)(x:Val):Option PyData:=match x.toD with
 | some d=>some d
 | none=>dD h 5 x
theorem jQ{K:PySem.W.Frag}:∀ {ns:List Int},DpAll K H (ns.map V.int) (ns.map PyData.int)
 | []=>.nil
 | _ :: _=>.cons (.int _) jQ
theorem iy{K:PySem.W.Frag}{R:V->Val->Prop}{f:Val->Option PyData}(hf:∀ u x d,R u x->f x=some d->Dp K H u d):∀ {xs:List Val} {us:List V} {ds:List PyData},Paired R us xs->xs.mapM f=some ds->DpAll K H us ds
 | [],_,_,.nil,e=>by simp at e; subst e; exact .nil
 | x :: xs,_,ds,.cons r t,e=>by
  rw [List.mapM_cons] at e
  cases h1:f x with
  | none=>rw [h1] at e; cases e
  | some d =>
   cases h2:xs.mapM f with
   | none=>rw [h1,h2] at e; cases e
   | some ds' =>
    rw [h1,h2] at e
    cases e
    exact .cons (hf _ _ _ r h1) (iy hf t h2)
theorem RvA.pair{hs:Rf->Prop}:∀ {xs:List Val} {us:List V},RvA p m hs G us xs->Paired (Rv p m hs G) us xs
 | [],_,h=>by cases h; exact .nil
 | _ :: _,_,h=>by cases h with | cons h1 h2=>exact .cons h1 (RvA.pair h2)
theorem dD_ok(w:Wo p m h G H):∀ {n:Nat} {x:Val} {u:V} {d:PyData},Rv p m h.has G u x->dD h n x=some d->Dp p.K H u d
 | 0,_,_,_,_,t=>by cases t
 | n + 1,x,u,d,r,t=>by
  have ih:∀ u x d,Rv p m h.has G u x->(match x.toD with | some d=>some d | none=>dD h n x)=some d->Dp p.K H u d:=fun u x d r t=>by
   split at t
   .rename_i e; cases t; exact dY w r e
   .exact dD_ok w r t
  cases r with
  | @ref r hr =>
   have t:(match h.get r with | some (.lst xs)=>(xs.mapM fun(y:Val)=>match y.toD with | some d=>some d | none=>dD h n y).map PyData.list | _=>none)=some d:=t
   split at t
   .rename_i hc;obtain⟨ds,e1,e2⟩:=Option.map_eq_some_iff.mp t;subst e2;obtain⟨_,_,o,h3,h4⟩:=w.cel _ _ hc
    cases h4 with | lst h4=>exact .lst (SqL.of h3) (iy ih h4.pair e1)
   .cases t
  | @lst a vs xs h1 h2 =>
   have t:(xs.mapM fun(y:Val)=>match y.toD with | some d=>some d | none=>dD h n y).map PyData.list=some d:=t;obtain⟨ds,e1,e2⟩:=Option.map_eq_some_iff.mp t;subst e2;exact .lst (SqL.of (w.gh _ _ h1)) (iy ih h2.pair e1)
  | @tup a vs xs h1 h2 =>
   have t:(xs.mapM fun(y:Val)=>match y.toD with | some d=>some d | none=>dD h n y).map PyData.tuple=some d:=t;obtain⟨ds,e1,e2⟩:=Option.map_eq_some_iff.mp t;subst e2;exact .tup ((h1.sq w.gh)) (iy ih h2.pair e1)
  | scr h1=>cases t; exact .lst (lh w.gh h1) jQ
  | non=>exact dY w .non t
  | bl=>exact dY w (.bl _) t
  | int=>exact dY w (.int _) t
  | str=>exact dY w (.str _) t
  | kt h1 h2=>exact dY w (.kt h1 h2) t
  | dct=>cases t
  | fn=>cases t
theorem ko(w:Wo p m h G H){d:PyData}(r:Rv p m h.has G u x)(t:rdD h x=some d):Dp p.K H u d:=by
 unfold rdD at t
 split at t
 .rename_i e; cases t; exact dY w r e
 .exact dD_ok w r t
end
def isMul(a b:Int):Bool:=decide ((-(2 ^ 64) < a/\a < 2 ^ 64)\/(-(2 ^ 64) < b/\b < 2 ^ 64))
theorem rR{a b:Int}(h:isMul a b=true):CMul a b:=by
 unfold isMul at h;have h2:=of_decide_eq_true h;exact h2
def aJ(h:Hh)(x y:Val):Res Val:=match x,y with
 | .int a,.int b=>.ok (.int (a + b)) h
 | .str a,.str b=>if a.length + b.length<=1000000 then .ok (.str (a ++ b)) h else .err
 | .tup xs,.tup ys=>if xs.length + ys.length<=1000000 then .ok (.tup (xs ++ ys)) h else .err
 | x,y=>match rdM h x,rdM h y with
  | some xs,some ys=>if xs.length + ys.length<=1000000 then .ok (.lst (xs ++ ys)) h else .err
  | _,_=>.err
def fP(h:Hh)(x y:Val):Res Val:=match x,y with
 | .int a,.int b=>.ok (.int (a - b)) h
 | _,_=>.err
def bZ(h:Hh)(x y:Val):Res Val:=match x,y with
 | .int a,.int b=>if isMul a b=true then .ok (.int (a * b)) h else .err
 | x,.int k=>match rdM h x with
  | some xs=>if xs.length * k.toNat<=1000000/\-(2 ^ 63)<=k/\k < 2 ^ 63 then .ok (.lst (List.replicate k.toNat xs).flatten) h else .err
  | _=>.err
 | _,_=>.err
def cw(h:Hh)(x y:Val):Res Val:=match x,y with
 | .int a,.int b=>if 0 < b then .ok (.int (a % b)) h else .err
 | _,_=>.err
def fR(h:Hh)(x y:Val):Res Val:=match x,y with
 | .int a,.int b=>if 0 < b/\b < 18446744073709551616 then .ok (.int (a / b)) h else .err
 | _,_=>.err
def bj(h:Hh)(x y:Val):Res Val:=match x,y with
 | .int a,.int b=>if 0<=b/\(Builtin.Int.intBits a:Int) * b<=2 ^ 27 then .ok (.int (a ^ b.toNat)) h else .err
 | _,_=>.err
section
variable{X:Cx}
theorem OpR.or{f:Value->Value->Sem Value}{r r':R2}(a:OpR X f r)(b:OpR X f r'):OpR X f (fun x y H Q=>r x y H Q\/r' x y H Q):=by
 intro pins s σ H x y v u Q I rx ry h;rcases h with h | h
 .exact a pins s σ H x y v u Q I rx ry h
 .exact b pins s σ H x y v u Q I rx ry h
def qY(K:PySem.W.Frag):R2:=fun x y H Q=>(rI0 (fun i j=>.int (i + j)) x y H Q\/rAddS x y H Q)\/(rCatF K x y H Q\/rCat x y H Q)
theorem rk(K:PySem.W.Frag)(h:X.K=K):OpR X (binaryOp .Add) (qY K):=by
 exact OpR.or (OpR.or op_add uc) (OpR.or (ui K h) op_cat)
def rMulU:R2:=fun x y H Q=>rI CMul (fun i j=>.int (i * j)) x y H Q\/rRep x y H Q
theorem or_mul:OpR X (binaryOp .Mult) rMulU:=OpR.or op_mul op_rep
end
section
variable{p:Pm}
theorem sr_add:cj p (qY p.K) aJ:=fun m h G H u v x y Q W σ w rx ry e=>by
 unfold aJ at e
 split at e
 .cases rx; cases ry; exact .inl (.inl ⟨_,_,rfl,rfl,ao.here e w (.int _)⟩)
 .cases rx; cases ry
  split at e
  .exact .inl (.inr ⟨_,_,rfl,rfl,aK (by assumption),ao.here e w (.str _)⟩)
  .exact e.elim
 .cases rx with
  | tup h1 h2=>cases ry with
   | tup h3 h4 =>
    split at e
    .rename_i hl;refine .inr (.inl ⟨_,_,_,_,rfl,rfl,(h1.sq w.gh),(h3.sq w.gh),by rw [h2.len,h4.len]; exact aK hl,fun z=>?_,fun _ z=>?_,fun _ _ q n=>f7 e w n (h2.app h4)⟩)
     .subst z
      cases h2
      exact ao.here e w (.tup h3 h4)
     .subst z
      cases h4
      rw [List.append_nil] at e;exact ao.here e w (.tup h1 h2)
    .exact e.elim
 .split at e
  .rename_i xs ys hx hy
   split at e
   .rename_i hl;obtain⟨a,vs,rfl,h1,h2⟩:=gz w rx hx;obtain⟨b,ws,rfl,h3,h4⟩:=gz w ry hy;exact .inr (.inr ⟨_,_,_,_,rfl,rfl,h1,h3,by rw [h2.len,h4.len]; exact aK hl,fun q n=>ey e w n (h2.app h4)⟩)
   .exact e.elim
  .exact e.elim
theorem sr_sub:cj p (rI0 fun i j=>.int (i - j)) fP:=fun m h G H u v x y Q W σ w rx ry e=>by
 unfold fP at e
 split at e
 .cases rx; cases ry; exact⟨_,_,rfl,rfl,ao.here e w (.int _)⟩
 .exact e.elim
theorem sr_mul:cj p rMulU bZ:=fun m h G H u v x y Q W σ w rx ry e=>by
 unfold bZ at e
 split at e
 .cases rx; cases ry
  split at e
  .rename_i hm;exact .inl ⟨_,_,rfl,rfl,rR hm,ao.here e w (.int _)⟩
  .exact e.elim
 .cases ry
  split at e
  .rename_i xs hx
   split at e
   .rename_i hl;obtain⟨a,vs,rfl,h1,h2⟩:=gz w rx hx;exact .inr ⟨_,_,_,rfl,rfl,h1,hl.2.1,hl.2.2,by rw [h2.len]; exact aK hl.1,fun q n=>ey e w n h2.repl⟩
   .exact e.elim
  .exact e.elim
 .exact e.elim
theorem sr_mod:cj p (rI (fun _ j=>0 < j) fun i j=>.int (i % j)) cw:=fun m h G H u v x y Q W σ w rx ry e=>by
 unfold cw at e
 split at e
 .cases rx; cases ry
  split at e
  .exact⟨_,_,rfl,rfl,by assumption,ao.here e w (.int _)⟩
  .exact e.elim
 .exact e.elim
theorem sr_div:cj p (rI CDivW fun i j=>.int (i / j)) fR:=fun m h G H u v x y Q W σ w rx ry e=>by
 unfold fR at e
 split at e
 .cases rx; cases ry
  split at e
  .rename_i hc;exact⟨_,_,rfl,rfl,cdivw hc.1 hc.2,ao.here e w (.int _)⟩
  .exact e.elim
 .exact e.elim
theorem sr_pow:cj p (rI CPowW fun i j=>.int (i ^ j.toNat)) bj:=fun m h G H u v x y Q W σ w rx ry e=>by
 unfold bj at e
 split at e
 .cases rx; cases ry
  split at e
  .exact⟨_,_,rfl,rfl,by assumption,ao.here e w (.int _)⟩
  .exact e.elim
 .exact e.elim
variable{C:Ct}{a b:Expr}{pos:Pos}{fa fb:Sl->Hh->Res Val}
theorem aE(ha:SE C a fa)(hb:SE C b fb):SE C (.BinOp a .Add b pos) (m2 aJ fa fb):=gR (fun W X g=>rk C.p.K g.K) sr_add ha hb
theorem iI(ha:SE C a fa)(hb:SE C b fb):SE C (.BinOp a .Sub b pos) (m2 fP fa fb):=gR (fun W X g=>op_sub) sr_sub ha hb
theorem cM(ha:SE C a fa)(hb:SE C b fb):SE C (.BinOp a .Mult b pos) (m2 bZ fa fb):=gR (fun W X g=>or_mul) sr_mul ha hb
theorem cA(ha:SE C a fa)(hb:SE C b fb):SE C (.BinOp a .Mod b pos) (m2 cw fa fb):=gR (fun W X g=>op_mod) sr_mod ha hb
theorem iq(ha:SE C a fa)(hb:SE C b fb):SE C (.BinOp a .FloorDiv b pos) (m2 fR fa fb):=gR (fun W X g=>op_fdivW) sr_div ha hb
theorem cL(ha:SE C a fa)(hb:SE C b fb):SE C (.BinOp a .Pow b pos) (m2 bj fa fb):=gR (fun W X g=>ud) sr_pow ha hb
def m1(g:Hh->Val->Res Val)(fa:Sl->Hh->Res Val):Sl->Hh->Res Val:=fun δ h=>(fa δ h).bind fun x h1=>g h1 x
def gV(h:Hh)(x:Val):Res Val:=match x with
 | .int a=>.ok (.int (-a)) h
 | _=>.err
theorem kc(ha:SE C a fa):SE C (.UnaryOp .USub a pos) (m1 gV fa):=by
 obtain⟨ta,pa,sa⟩:=ha;refine⟨fun W=>tUn (rU fun i=>.int (-i)) (ta W),fun W X g=>pe_un un_neg (pa W X g),fun W σ δ m h G H Q en w e=>sa W σ δ m h G H _ en w (ao.bind e fun x h1 m1 G1 u H1 s1 w1 r1 e1=>?_)⟩;unfold gV at e1
 split at e1
 .cases r1; exact⟨_,rfl,ao.here e1 w1 (.int _)⟩
 .exact e1.elim
end
def eqO(h:Hh)(x y:Val):Option Bool:=match x,y with
 | .int a,.int b=>some (decide (a=b))
 | .str a,.str b=>some (decide (a=b))
 | .bl a,.bl b=>some (decide (a=b))
 | x,y=>match rdD h x,rdD h y with
  | some d,some e=>if (SeqAt.shaped d && SeqAt.shaped e)=true then some (PyData.eqv d e) else none
  | _,_=>none
def hL(h:Hh)(x y:Val):Res Val:=match eqO h x y with
 | some b=>.ok (.bl b) h
 | none=>.err
def dR(h:Hh)(x y:Val):Res Val:=match eqO h x y with
 | some b=>.ok (.bl (!b)) h
 | none=>.err
def rl(h:Hh)(x y:Val):Res Val:=match x,y with
 | .int a,.int b=>.ok (.bl (decide (a < b))) h
 | _,_=>.err
def jt(h:Hh)(x y:Val):Res Val:=match x,y with
 | .int a,.int b=>.ok (.bl (decide (a<=b))) h
 | _,_=>.err
def lH(h:Hh)(x y:Val):Res Val:=match x,y with
 | .int a,.int b=>.ok (.bl (decide (b < a))) h
 | _,_=>.err
def rm(h:Hh)(x y:Val):Res Val:=match x,y with
 | .int a,.int b=>.ok (.bl (decide (b<=a))) h
 | _,_=>.err
def isNon:Val->Bool
 | .non=>true
 | _=>false
def nk(h:Hh)(x y:Val):Res Val:=match y with
 | .non=>.ok (.bl (isNon x)) h
 | _=>.err
def rEqU(K:PySem.W.Frag):R2:=fun x y H Q=>rEq x y H Q\/rEqD K x y H Q
def rNeU(K:PySem.W.Frag):R2:=fun x y H Q=>rNe x y H Q\/rNeD K x y H Q
section
variable{p:Pm}
theorem sr_eq:cj p (rEqU p.K) hL:=fun m h G H u v x y Q W σ w rx ry e=>by
 unfold hL at e
 split at e
 .rename_i b hb;unfold eqO at hb
  split at hb
  .cases hb; cases rx; cases ry; exact .inl (rd_eqI (ao.here e w (.bl _)))
  .cases hb; cases rx; cases ry; exact .inl (rd_eqS (ao.here e w (.bl _)))
  .cases hb; cases rx; cases ry; exact .inl (rd_eqB (ao.here e w (.bl _)))
  .split at hb
   .rename_i d1 d2 e1 e2
    split at hb
    .rename_i hs
     cases hb
     have hs':=Bool.and_eq_true_iff.mp hs;exact .inr ⟨d1,d2,ko w rx e1,ko w ry e2,hs'.1,hs'.2,ao.here e w (.bl _)⟩
    .cases hb
   .cases hb
 .exact e.elim
theorem nD{α : Type}[DecidableEq α]{a b:α}:decide (a≠b) = !decide (a=b):=by simp
theorem sr_ne:cj p (rNeU p.K) dR:=fun m h G H u v x y Q W σ w rx ry e=>by
 unfold dR at e
 split at e
 .rename_i b hb;unfold eqO at hb
  split at hb
  .cases hb; cases rx; cases ry; exact .inl (rd_neI (by rw [nD]; exact ao.here e w (.bl _)))
  .cases hb; cases rx; cases ry; exact .inl (rd_neS (by rw [nD]; exact ao.here e w (.bl _)))
  .cases hb; cases rx; cases ry; exact .inl (rd_neB (by rw [nD]; exact ao.here e w (.bl _)))
  .split at hb
   .rename_i d1 d2 e1 e2
    split at hb
    .rename_i hs
     cases hb
     have hs':=Bool.and_eq_true_iff.mp hs;exact .inr ⟨d1,d2,ko w rx e1,ko w ry e2,hs'.1,hs'.2,ao.here e w (.bl _)⟩
    .cases hb
   .cases hb
 .exact e.elim
theorem sr_lt:cj p (rI0 fun i j=>.bl (decide (i < j))) rl:=fun m h G H u v x y Q W σ w rx ry e=>by
 unfold rl at e
 split at e
 .cases rx; cases ry; exact⟨_,_,rfl,rfl,ao.here e w (.bl _)⟩
 .exact e.elim
theorem sr_le:cj p (rI0 fun i j=>.bl (decide (i<=j))) jt:=fun m h G H u v x y Q W σ w rx ry e=>by
 unfold jt at e
 split at e
 .cases rx; cases ry; exact⟨_,_,rfl,rfl,ao.here e w (.bl _)⟩
 .exact e.elim
theorem sr_gt:cj p (rI0 fun i j=>.bl (decide (j < i))) lH:=fun m h G H u v x y Q W σ w rx ry e=>by
 unfold lH at e
 split at e
 .cases rx; cases ry; exact⟨_,_,rfl,rfl,ao.here e w (.bl _)⟩
 .exact e.elim
theorem sr_ge:cj p (rI0 fun i j=>.bl (decide (j<=i))) rm:=fun m h G H u v x y Q W σ w rx ry e=>by
 unfold rm at e
 split at e
 .cases rx; cases ry; exact⟨_,_,rfl,rfl,ao.here e w (.bl _)⟩
 .exact e.elim
theorem sr_is:cj p rIsNo nk:=fun m h G H u v x y Q W σ w rx ry e=>by
 unfold nk at e
 split at e
 .cases ry
  refine⟨rfl,ao.here e w ?_⟩
  cases rx <;> exact .bl _
 .exact e.elim
theorem or_eq{X:Cx}(K:PySem.W.Frag)(h:X.K=K)(hu:X.A.units + 64 < cLine):OpR X (compareOp .Eq) (rEqU K):=OpR.or op_eq (uh K hu h)
theorem or_ne{X:Cx}(K:PySem.W.Frag)(h:X.K=K)(hu:X.A.units + 64 < cLine):OpR X (compareOp .NotEq) (rNeU K):=OpR.or op_ne (uf K hu h)
structure ib(C:Ct)(op:CmpOp)(g:Hh->Val->Val->Res Val):Prop where
 ex:∃ r:R2,(∀ W X,Good C W X->OpR X (compareOp op) r)/\cj C.p r g
variable{C:Ct}
theorem jf:ib C .Eq hL:=⟨_,fun W X g=>or_eq C.p.K g.K g.un,sr_eq⟩
theorem eC:ib C .NotEq dR:=⟨_,fun W X g=>or_ne C.p.K g.K g.un,sr_ne⟩
theorem cs_lt:ib C .Lt rl:=⟨_,fun W X g=>op_lt,sr_lt⟩
theorem oX:ib C .LtE jt:=⟨_,fun W X g=>op_le,sr_le⟩
theorem oY:ib C .Gt lH:=⟨_,fun W X g=>op_gt,sr_gt⟩
theorem cs_ge:ib C .GtE rm:=⟨_,fun W X g=>op_ge,sr_ge⟩
theorem sA:ib C .Is nk:=⟨_,fun W X g=>oq_isN,sr_is⟩
variable{a b c:Expr}{pos:Pos}{fa fb fc:Sl->Hh->Res Val}{op op':CmpOp}{g g':Hh->Val->Val->Res Val}
theorem b9(s:ib C op g)(ha:SE C a fa)(hb:SE C b fb)(hm:behindInMarks op b=false:=by first | exact nobehind _ (by decide) (by decide) | rfl):ST C (.Compare a [op] [b] pos) (mB (m2 g fa fb)):=by
 obtain⟨r,h1,h2⟩:=s.ex;exact st_cmp h1 h2 ha hb hm
theorem se_ch(s:ib C op g)(s':ib C op' g')(ha:SE C a fa)(hb:SE C b fb)(hc:SE C c fc)(hm:lastMarks [op,op'] [b,c]=false:=by rfl):SE C (.Compare a [op,op'] [b,c] pos) (mCh g g' fa fb fc):=by
 obtain⟨r,h1,h2⟩:=s.ex;obtain⟨r',h3,h4⟩:=s'.ex;exact qM h1 h3 h2 h4 ha hb hc hm
theorem st_ch(s:ib C op g)(s':ib C op' g')(ha:SE C a fa)(hb:SE C b fb)(hc:SE C c fc)(hm:lastMarks [op,op'] [b,c]=false:=by rfl):ST C (.Compare a [op,op'] [b,c] pos) (mB (mCh g g' fa fb fc)):=by
 obtain⟨r,h1,h2⟩:=s.ex;obtain⟨r',h3,h4⟩:=s'.ex;exact qz h1 h3 h2 h4 ha hb hc hm
end
end M
namespace M
open PySem PySem.Spec PyProof.Rows L2 B
section
variable{κ : Type}[DecidableEq κ]
def aV:List (κ×Val)->κ->Option Val
 | [],_=>none
 | (k',v) :: r,k=>if k'=k then some v else aV r k
def dt(kvs:List (κ×Val))(k:κ)(v:Val):List (κ×Val):=if (kvs.any fun kv=>decide (kv.1=k))=true then kvs.map (fun kv=>if kv.1=k then(kv.1,v) else kv) else kvs ++ [(k,v)]
def iX(kvs more:List (κ×Val)):List (κ×Val):=more.foldl (fun acc kv=>dt acc kv.1 kv.2) kvs
end
section
variable{p:Pm}{m:Rf->Addr}{hs:Rf->Prop}{G:Hp}{κ : Type}[DecidableEq κ]
theorem rj{α β : Type}{F:α->β->Prop}:∀ {xs xs':List α} {ys ys':List β},Paired F xs ys->Paired F xs' ys'->Paired F (xs ++ xs') (ys ++ ys')
 | _,_,_,_,.nil,h=>h
 | _,_,_,_,.cons r t,h=>.cons r (rj t h)
theorem fO{k:κ}:∀ {vs:List (κ×V)} {ds:List (κ×Val)},Rkv p m hs G vs ds->(∀ d,aV ds k=some d->∃ v,valV vs k=some v/\Rv p m hs G v d)/\(aV ds k=none->valV vs k=none)
 | _,_,.nil=>⟨fun d h=>by simp [aV] at h,fun _=>rfl⟩
 | _,_,.cons (a:=a) (b:=q) h t=>by
  obtain⟨e,r⟩:=h
  by_cases hk:q.1=k
  .have h1:∀ l,aV (q :: l) k=some q.2:=fun l=>by simp [aV,hk]
   have h2:∀ l,valV (a :: l) k=some a.2:=fun l=>valV_pos (e.trans hk);rw [h1,h2];exact⟨fun d h=>by cases h; exact⟨_,rfl,r⟩,fun h=>nomatch h⟩
  .have h1:∀ l,aV (q :: l) k=aV l k:=fun l=>by simp [aV,hk]
   have h2:∀ l,valV (a :: l) k=valV l k:=fun l=>valV_neg (fun z=>hk (e.symm.trans z));rw [h1,h2];exact fO t
theorem oB{k:κ}:∀ {vs:List (κ×V)} {ds:List (κ×Val)},Rkv p m hs G vs ds->(vs.any fun kv=>decide (kv.1=k))=ds.any fun kv=>decide (kv.1=k)
 | _,_,.nil=>rfl
 | _,_,.cons h t=>by rw [List.any_cons,List.any_cons,h.1,oB t]
theorem oA{k:κ}{v:V}{d:Val}(r:Rv p m hs G v d):∀ {vs:List (κ×V)} {ds:List (κ×Val)},Rkv p m hs G vs ds->Rkv p m hs G (vs.map fun kv=>if kv.1=k then(kv.1,v) else kv) (ds.map fun kv=>if kv.1=k then(kv.1,d) else kv)
 | _,_,.nil=>.nil
 | _,_,.cons (a:=a) (b:=q) h t=>by
  refine .cons ?_ (oA r t)
  by_cases hk:q.1=k
  .dsimp only; rw [if_pos (h.1.trans hk),if_pos hk]; exact⟨h.1,r⟩
  .have:¬ a.1=k:=fun z=>hk (h.1.symm.trans z);dsimp only; rw [if_neg this,if_neg hk]; exact h
theorem oz{k:κ}{v:V}{d:Val}(r:Rv p m hs G v d){vs:List (κ×V)}{ds:List (κ×Val)}(h:Rkv p m hs G vs ds):Rkv p m hs G (putK vs k v) (dt ds k d):=by
 unfold putK dt;rw [oB h]
 split
 .exact oA r h
 .exact rj h (.cons ⟨rfl,r⟩ .nil)
theorem jE:∀ {ms:List (κ×V)} {ns:List (κ×Val)},Rkv p m hs G ms ns->∀ {vs:List (κ×V)} {ds:List (κ×Val)},Rkv p m hs G vs ds->Rkv p m hs G (ms.foldl (fun acc kv=>putK acc kv.1 kv.2) vs) (iX ds ns)
 | _,_,.nil,_,_,h=>h
 | _,_,.cons (a:=a) (b:=q) h t,_,_,h'=>by
  have:=oz (k:=q.1) h.2 h';rw [<- h.1] at this;show Rkv p m hs G (List.foldl _ (putK _ a.1 a.2) _) (List.foldl _ (dt _ q.1 q.2) _);rw [<- h.1];exact jE t this
theorem qZ(ds:List (κ×Val))(k:κ)(d:Val):(dt ds k d).length<=ds.length + 1:=by
 unfold dt
 split <;> simp
theorem ux{ds es:List (κ×Val)}:nlp (ds ++ es)=(nlp ds && nlp es):=by unfold nlp; exact List.all_append
theorem uw{ds:List (κ×Val)}{k:κ}{d:Val}(h:nlp ds=true)(hd:d.nl=true):nlp (dt ds k d)=true:=by
 unfold dt
 split
 .unfold nlp at *;rw [List.all_map,List.all_eq_true] at *;intro q hq;show(if q.1=k then(q.1,d) else q).2.nl=true
  split
  .exact hd
  .exact h q hq
 .rw [ux,h];show(true && (d.nl && true))=true;rw [hd]; rfl
end
def rdK(h:Hh):Val->Option (List (Key×Val))
 | .dct kvs=>some kvs
 | .ref r=>match h.get r with
  | some (.dct kvs)=>some kvs
  | some (.ldc kvs)=>some kvs
  | _=>none
 | _=>none
theorem ir{h:Hh}{r:Rf}{kvs:List (Key×Val)}(hr:h.get r=some (.dct kvs)):rdK h (.ref r)=some kvs:=by unfold rdK; dsimp only; rw [hr]
def tY(h:Hh):Val->Option (List (List Key×Val))
 | .ref r=>match h.get r with
  | some (.dtt kvs)=>some kvs
  | _=>none
 | _=>none
def eN:Val->Option Key
 | .int i=>some (.inl i)
 | .str x=>some (.inr x)
 | _=>none
def jN:List Val->Option (List Key)
 | []=>some []
 | x :: xs=>match eN x,jN xs with
  | some k,some ks=>some (k :: ks)
  | _,_=>none
def keyT:Val->Option (List Key)
 | .tup (x :: xs)=>jN (x :: xs)
 | _=>none
def eW(h:Hh)(x y:Val):Option (Option Val):=match rdK h x with
 | some kvs=>(eN y).map (aV kvs)
 | none=>match tY h x with
  | some kvs=>(keyT y).map (aV kvs)
  | none=>none
def cy(h:Hh)(x:Val):Bool:=(rdK h x).isSome || (tY h x).isSome
section
variable{p:Pm}{m:Rf->Addr}{h:Hh}{G H:Hp}{u v:V}{x y:Val}
theorem iz{hs:Rf->Prop}{k:Key}(r:Rv p m hs G u x)(t:eN x=some k):u=kV k:=by
 cases r <;> first | (cases t; rfl) | cases t
theorem mh{hs:Rf->Prop}:∀ {xs:List Val} {us:List V} {ks:List Key},RvA p m hs G us xs->jN xs=some ks->us=ks.map kV
 | [],_,_,r,t=>by cases r; cases t; rfl
 | x :: xs,_,_,r,t=>by
  cases r with
  | cons h1 h2 =>
   have t:(match eN x,jN xs with | some k,some ks=>some (k :: ks) | _,_=>none)=some _:=t
   split at t
   .rename_i e1 e2
    cases t
    rw [iz h1 e1,mh h2 e2]; rfl
   .cases t
theorem qW{kvs:List (Key×Val)}(w:Wo p m h G H)(r:Rv p m h.has G u x)(t:rdK h x=some kvs):∃ a vs,u = .ref a/\Rd H a (.dK vs)/\Rkv p m h.has G vs kvs:=by
 cases r with
 | dct h1 h2=>cases t; exact⟨_,_,rfl,.inr ⟨_,w.gh _ _ h1⟩,h2.pd⟩
 | @ref r hr =>
  have t:(match h.get r with | some (.dct xs)=>some xs | some (.ldc xs)=>some xs | _=>none)=some kvs:=t
  split at t
  .rename_i hc
   cases t
   obtain⟨_,_,o,h3,h4⟩:=w.cel _ _ hc
   cases h4 with | dct h4=>exact⟨_,_,rfl,.inl h3,h4⟩
  .rename_i hc
   cases t
   obtain⟨_,_,o,h3,h4⟩:=w.cel _ _ hc
   cases h4 with | ldc h4=>exact⟨_,_,rfl,.inr ⟨_,h3⟩,h4⟩
  .cases t
 | _=>cases t
theorem oC{kvs:List (List Key×Val)}(w:Wo p m h G H)(r:Rv p m h.has G u x)(t:tY h x=some kvs):∃ a vs,u = .ref a/\H a=some (.dT vs)/\Rkv p m h.has G vs kvs:=by
 cases r with
 | @ref r hr =>
  have t:(match h.get r with | some (.dtt xs)=>some xs | _=>none)=some kvs:=t
  split at t
  .rename_i hc
   cases t
   obtain⟨_,_,o,h3,h4⟩:=w.cel _ _ hc
   cases h4 with | dtt h4=>exact⟨_,_,rfl,h3,h4⟩
  .cases t
 | _=>cases t
theorem rS(w:Wo p m h G H)(r:Rv p m h.has G u x)(t:cy h x=true):∃ a,u = .ref a/\IsD H a:=by
 unfold cy at t;rw [Bool.or_eq_true] at t;rcases t with t | t
 .obtain⟨kvs,e⟩:=Option.isSome_iff_exists.mp t;obtain⟨a,vs,h1,h2,_⟩:=qW w r e;exact⟨a,h1,.inl ⟨vs,h2⟩⟩
 .obtain⟨kvs,e⟩:=Option.isSome_iff_exists.mp t;obtain⟨a,vs,h1,h2,_⟩:=oC w r e;exact⟨a,h1,.inr ⟨vs,.inl h2⟩⟩
theorem nz:∀ {xs:List Val} {ks:List Key} {x:Val},jN (x :: xs)=some ks->(x :: xs).all oE=false
 | xs,ks,x,t=>by
  have t:(match eN x,jN xs with | some k,some ks=>some (k :: ks) | _,_=>none)=some _:=t
  cases x <;> first | rfl | (simp [eN] at t)
theorem uE{k:List Key}(w:Wo p m h G H)(r:Rv p m h.has G v y)(t:keyT y=some k):∃ b,v = .ref b/\H b=some (.tup (k.map kV)):=by
 unfold keyT at t
 split at t
 .cases r with
  | tup h1 h2 =>
   rcases h1 with ⟨h1,_⟩ | ⟨h1,_⟩
   .rw [nz t] at h1; cases h1
   .exact⟨_,rfl,by rw [<- mh h2 t]; exact w.gh _ _ h1⟩
 .cases t
theorem gk{o:Option Val}(w:Wo p m h G H)(rx:Rv p m h.has G u x)(ry:Rv p m h.has G v y)(t:eW h x y=some o) :
  ∃ a o',u = .ref a/\DGet H a v o'/\IsD H a/\(∀ d,o=some d->∃ z,o'=some z/\Rv p m h.has G z d)/\(o=none->o'=none):=by
 unfold eW at t
 split at t
 .rename_i kvs e;obtain⟨a,vs,rfl,h1,h2⟩:=qW w rx e;obtain⟨k,e1,e2⟩:=Option.map_eq_some_iff.mp t;subst e2;obtain rfl:=iz ry e1;exact⟨a,valV vs k,rfl,.inl ⟨vs,k,h1,rfl,rfl⟩,.inl ⟨vs,h1⟩,(fO h2).1,(fO h2).2⟩
 .split at t
  .rename_i kvs e;obtain⟨a,vs,rfl,h1,h2⟩:=oC w rx e;obtain⟨k,e1,e2⟩:=Option.map_eq_some_iff.mp t;subst e2;obtain⟨b,rfl,hb⟩:=uE w ry e1;exact⟨a,valV vs k,rfl,.inr ⟨vs,k,b,.inl h1,rfl,hb,rfl⟩,.inr ⟨vs,.inl h1⟩,(fO h2).1,(fO h2).2⟩
  .cases t
end
section
variable{X:Cx}{e:Expr}
theorem PE.or{t t':TE}(a:PE X e t)(b:PE X e t'):PE X e (fun σ H Q=>t σ H Q\/t' σ H Q):=⟨fun pins s σ H Q I h=>h.elim (a.run pins s σ H Q I) (b.run pins s σ H Q I)⟩
theorem PI.or{tg:Expr}{t t':TI}(a:PI X tg e t)(b:PI X tg e t'):PI X tg e (fun σ H Q=>t σ H Q\/t' σ H Q):=⟨fun pins s σ H Q I h=>h.elim (a.run pins s σ H Q I) (b.run pins s σ H Q I)⟩
end
theorem j9{α β : Type}{p:Pm}{R:jw α β}{t t':WX->L2.St->Hp->(β->Hp->Prop)->Prop}{f f1 f2:Sl->Hh->Res α}(s:Snd p R t f1)(s':Snd p R t' f2)(h:∀ δ h,f δ h=f1 δ h\/f δ h=f2 δ h):Snd p R (fun W σ H Q=>t W σ H Q\/t' W σ H Q) f:=fun W σ δ m h' G H Q en w e=>by
 rcases h δ h' with z | z
 .rw [z] at e; exact .inl (s W σ δ m h' G H Q en w e)
 .rw [z] at e; exact .inr (s' W σ δ m h' G H Q en w e)
theorem nv{g g1 g2:Hh->Val->Val->Res Val}{fa fb:Sl->Hh->Res Val}(hg:∀ h x y,g h x y=g1 h x y\/g h x y=g2 h x y)(δ : Sl)(h:Hh):m2 g fa fb δ h=m2 g1 fa fb δ h\/m2 g fa fb δ h=m2 g2 fa fb δ h:=by
 unfold m2
 cases h1:fa δ h with
 | err=>exact .inl rfl
 | exc c fs h'=>exact .inl rfl
 | ok x h' =>
  dsimp only [Res.bind]
  cases h2:fb δ h' with
  | err=>exact .inl rfl
  | exc c fs h''=>exact .inl rfl
  | ok y h''=>exact hg h'' x y
def opIx(h:Hh)(x y:Val):Res Val:=match y with
 | .int j=>match x with
  | .str z=>if z.length<=1000000 then(match atI z.cps.toList j with
   | some c=>.ok (.str ⟨#[c]⟩) h
   | none=>.err) else .err
  | x=>match rdQ h x with
   | some xs=>match atI xs j with
    | some v=>.ok v h
    | none=>.err
   | none=>.err
 | _=>.err
def iT(h:Hh)(x y:Val):Res Val:=match eW h x y with
 | some (some v)=>.ok v h
 | _=>.err
def aq(h:Hh)(x y:Val):Res Val:=if cy h x=true then iT h x y else opIx h x y
def rIxU(K:PySem.W.Frag):R2:=fun x y H Q=>(rIxL K x y H Q\/rIxT K x y H Q)\/rIxS x y H Q
theorem sG{α : Type}{xs:List α}{j:Int}{v:α}(h:atI xs j=some v):∃ k:Nat,ixN xs.length j=some k/\xs[k]?=some v:=by
 unfold atI at h
 cases e:ixN xs.length j with
 | none=>rw [e] at h; cases h
 | some k=>rw [e] at h; exact⟨k,rfl,h⟩
section
variable{p:Pm}{m:Rf->Addr}{h:Hh}{G H:Hp}
theorem RvA.atI'{hs:Rf->Prop}{vs:List V}{xs:List Val}{j:Int}{x:Val}(r:RvA p m hs G vs xs)(e:atI xs j=some x):∃ v,atI vs j=some v/\Rv p m hs G v x:=by
 obtain⟨k,h1,h2⟩:=sG e;obtain⟨v,h3,h4⟩:=r.at h2;exact⟨v,by unfold atI; rw [r.len,h1]; exact h3,h4⟩
theorem sr_ix:cj p (rIxU p.K) opIx:=fun m h G H u v x y Q W σ w rx ry e=>by
 unfold opIx at e
 split at e
 .cases ry
  split at e
  .cases rx
   split at e
   .split at e
    .exact .inr ⟨_,_,_,rfl,rfl,aK (by assumption),by assumption,ao.here e w (.str _)⟩
    .exact e.elim
   .exact e.elim
  .split at e
   .rename_i xs hx
    split at e
    .rename_i z hz;obtain⟨a,vs,rfl,h1,h2⟩:=km w rx hx;obtain⟨v,h3,h4⟩:=h2.atI' hz;rcases h1 with h1 | h1
     .exact .inl (.inl ⟨_,_,_,_,rfl,rfl,h1,h3,ao.here e w h4⟩)
     .exact .inl (.inr ⟨_,_,_,_,rfl,rfl,h1,h3,ao.here e w h4⟩)
    .exact e.elim
   .exact e.elim
 .exact e.elim
variable{C:Ct}{a b:Expr}{pos:Pos}{fa fb:Sl->Hh->Res Val}
theorem tM(hs:PlainIx b)(ha:SE C a fa)(hb:SE C b fb):SE C (.Subscript a b pos) (m2 aq fa fb):=by
 obtain⟨ta,pa,sa⟩:=ha;obtain⟨tb,pb,sb⟩:=hb;refine⟨fun W σ H Q=>tOp (rIxU C.p.K) (ta W) (tb W) σ H Q\/tDGet (ta W) (tb W) σ H Q,fun W X g=>PE.or (pe_ix (IxR.or (IxR.or (rQ C.p.K g.K) (uG C.p.K g.K)) ix_str) (pa W X g) (pb W X g) hs) (pe_dget g.u1 (pa W X g) (pb W X g) hs),
  j9 (iH sr_ix sa sb) (f2:=m2 iT fa fb) ?_ fun δ h=>nv (fun h x y=>by unfold aq; split <;> simp) δ h⟩
 refine fun W σ δ m h G H Q en w e=>sa W σ δ m h G H _ en w (ao.bind e fun x h1 m1 G1 u H1 s1 w1 r1 e1=>sb W σ δ m1 h1 G1 H1 _ (en.stp s1) w1 (ao.bind e1 fun y h2 m2 G2 v H2 s2 w2 r2 e2=>?_));unfold iT at e2
 split at e2
 .rename_i z hz;obtain⟨a,o',rfl,g1,_,h3,_⟩:=gk w2 (Rv.stp s2 r1) r2 hz;obtain⟨zv,rfl,rz⟩:=h3 z rfl;exact⟨a,zv,rfl,g1,ao.here e2 w2 rz⟩
 .exact e2.elim
def cN:Val->Bool
 | .non=>true | .bl _=>true | .int _=>true | .str _=>true | _=>false
def eqM:Val->Val->Bool
 | .non,.non=>true
 | .bl a,.bl b=>a == b
 | .bl a,.int b=>(if a then 1 else 0) == b
 | .int a,.bl b=>a == (if b then 1 else 0)
 | .int a,.int b=>a == b
 | .str a,.str b=>a == b
 | _,_=>false
theorem mw{hs:Rf->Prop}{u:V}{x:Val}(r:Rv p m hs G u x)(f:cN x=true):flatV u=true:=by
 cases r <;> first | rfl | cases f
theorem eqM_ok{hs:Rf->Prop}{u v:V}{x y:Val}(r:Rv p m hs G u x)(r':Rv p m hs G v y)(f:cN x=true)(f':cN y=true):eqV u v=eqM x y:=by
 cases r <;> first | (cases f; done) | (cases r' <;> first | rfl | (cases f'; done))
theorem rT{hs:Rf->Prop}{v:V}{y:Val}(r':Rv p m hs G v y)(f':cN y=true):∀ {xs:List Val} {vs:List V},RvA p m hs G vs xs->xs.all cN=true->vs.all flatV=true/\inV v vs=xs.any fun x=>eqM x y
 | [],_,h,_=>by cases h; exact⟨rfl,rfl⟩
 | x :: xs,_,h,f=>by
  cases h with
  | cons h1 h2 =>
   rw [List.all_cons,Bool.and_eq_true] at f;obtain⟨e1,e2⟩:=rT r' f' h2 f.2;refine⟨by rw [List.all_cons,mw h1 f.1,e1]; rfl,?_⟩;show(_ :: _).any _=_;rw [List.any_cons,List.any_cons,eqM_ok h1 r' f.1 f'];exact congrArg _ e2
def inS(h:Hh)(x y:Val):Option Bool:=match y with
 | .str z=>match x with
  | .str c=>match c.cps.toList with
   | [n]=>some (decide (n∈z.cps.toList))
   | _=>none
  | _=>none
 | y=>match rdQ h y with
  | some xs=>if (cN x && xs.all cN)=true then some (xs.any fun z=>eqM z x) else none
  | none=>none
def inD(h:Hh)(x y:Val):Option Bool:=match eW h y x with
 | some o=>some o.isSome
 | none=>none
def cx(neg:Bool)(g:Hh->Val->Val->Option Bool)(h:Hh)(x y:Val):Res Val:=match g h x y with
 | some b=>.ok (.bl (if neg=true then !b else b)) h
 | none=>.err
def inU(h:Hh)(x y:Val):Option Bool:=if cy h y=true then inD h x y else inS h x y
def gF:Hh->Val->Val->Res Val:=cx false inU
def fQ:Hh->Val->Val->Res Val:=cx true inU
def rSg(neg:Bool):R2:=fun x y H Q=>∃ (c:Nat) (z:Str),x = .str ⟨#[c]⟩/\y = .str z/\Q (.bl (if neg=true then !decide (c∈z.cps.toList) else decide (c∈z.cps.toList))) H
theorem one_sign:∀ {c:Str} {n:Nat},c.cps.toList=[n]->c=⟨#[n]⟩
 | ⟨arr⟩,n,h=>by
  have:arr = #[n]:=by rw [<- Array.toList_inj]; exact h
  rw [this]
theorem qC(neg:Bool):cj p (fun x y H Q=>rIn p.K neg x y H Q\/rSg neg x y H Q) (cx neg inS):=fun m h G H u v x y Q W σ w rx ry e=>by
 unfold cx at e
 split at e
 .rename_i b hb;unfold inS at hb
  split at hb
  .split at hb
   .split at hb
    .rename_i z0 _ c _ n hn
     cases hb
     cases rx; cases ry
     refine .inr ⟨n,_,?_,rfl,ao.here e w (.bl _)⟩;exact congrArg V.str (one_sign hn)
    .cases hb
   .cases hb
  .split at hb
   .rename_i xs hx
    split at hb
    .rename_i hf
     cases hb
     have hf':=Bool.and_eq_true_iff.mp hf;obtain⟨a,vs,rfl,h1,h2⟩:=km w ry hx;obtain⟨e1,e2⟩:=rT rx hf'.1 h2 hf'.2;refine .inl ⟨a,vs,rfl,h1,mw rx hf'.1,e1,?_⟩;rw [e2];exact ao.here e w (.bl _)
    .cases hb
   .cases hb
 .exact e.elim
theorem or_in{X:Cx}(K:PySem.W.Frag)(h:X.K=K):OpR X (compareOp .In) (fun x y H Q=>rIn K false x y H Q\/rSg false x y H Q):=OpR.or (op_inK K h) op_in_sign
theorem or_nin{X:Cx}(K:PySem.W.Frag)(h:X.K=K):OpR X (compareOp .NotIn) (fun x y H Q=>rIn K true x y H Q\/rSg true x y H Q):=OpR.or (ue K h) op_notIn_sign
theorem pc_op{X:Cx}{op:CmpOp}{r:R2}{ta tb:TE}(ho:OpR X (compareOp op) r)(ha:PE X a ta)(hb:PE X b tb):PC X op a b (tOp r ta tb):=⟨fun pins s σ H Q I h=>binT ha hb I h fun v u s2 x y H2 I2 rx ry q=>ho pins s2 σ H2 x y v u Q I2 rx ry q⟩
theorem PC.or{X:Cx}{op:CmpOp}{t t':TE}(h1:PC X op a b t)(h2:PC X op a b t'):PC X op a b (fun σ H Q=>t σ H Q\/t' σ H Q):=⟨fun pins s σ H Q I h=>h.elim (h1.run pins s σ H Q I) (h2.run pins s σ H Q I)⟩
theorem oQ(neg:Bool)(h:Hh)(x y:Val):cx neg inU h x y=cx neg inS h x y\/cx neg inU h x y=cx neg inD h x y:=by
 by_cases hd:cy h y=true
 .right; unfold cx inU; rw [if_pos hd]
 .left; unfold cx inU; rw [if_neg hd]
theorem oi(neg:Bool){ta tb:WX->TE}(sa:Snd C.p (rV C.p) ta fa)(sb:Snd C.p (rV C.p) tb fb):Snd C.p (rV C.p) (fun W=>if neg=true then tDNotIn (ta W) (tb W) else tDIn (ta W) (tb W)) (m2 (cx neg inD) fa fb):=fun W σ δ m h G H Q en w e=>by
 have key:∀ u v H2 m2 G2 h2 x y,Wo C.p m2 h2 G2 H2->Rv C.p m2 h2.has G2 u x->Rv C.p m2 h2.has G2 v y->ao C.p (rV C.p) m2 h2 G2 H2 W σ Q (cx neg inD h2 x y)->∃ a o,v = .ref a/\DGet H2 a u o/\Q (.bl (if neg=true then !o.isSome else o.isSome)) H2:=by
  intro u v H2 m2 G2 h2 x y w2 r1 r2 e2;unfold cx inD at e2
  split at e2
  .rename_i b hb
   split at hb
   .rename_i o ho
    cases hb
    obtain⟨a,o',rfl,g1,_,h3,h4⟩:=gk w2 r2 r1 ho;refine⟨a,o',rfl,g1,?_⟩;have:o'.isSome=o.isSome:=by
     cases o with
     | none=>rw [h4 rfl]; rfl
     | some d=>obtain⟨z,rfl,_⟩:=h3 d rfl; rfl
    rw [this];exact ao.here e2 w2 (.bl _)
   .cases hb
  .exact e2.elim
 cases neg
 .exact sa W σ δ m h G H _ en w (ao.bind e fun x h1 m1 G1 u H1 s1 w1 r1 e1=>sb W σ δ m1 h1 G1 H1 _ (en.stp s1) w1 (ao.bind e1 fun y h2 m2 G2 v H2 s2 w2 r2 e2=>key u v H2 m2 G2 h2 x y w2 (Rv.stp s2 r1) r2 e2))
 .exact sa W σ δ m h G H _ en w (ao.bind e fun x h1 m1 G1 u H1 s1 w1 r1 e1=>sb W σ δ m1 h1 G1 H1 _ (en.stp s1) w1 (ao.bind e1 fun y h2 m2 G2 v H2 s2 w2 r2 e2=>key u v H2 m2 G2 h2 x y w2 (Rv.stp s2 r1) r2 e2))
theorem pc_in(ha:SE C a fa)(hb:SE C b fb):∃ t:WX->TE,(∀ W X,Good C W X->PC X .In a b (t W))/\Snd C.p (rV C.p) t (m2 gF fa fb):=by
 obtain⟨ta,pa,sa⟩:=ha;obtain⟨tb,pb,sb⟩:=hb;exact⟨_,fun W X g=>PC.or (pc_op (or_in C.p.K g.K) (pa W X g) (pb W X g)) (pc_din g.u1 (pa W X g) (pb W X g)),j9 (iH (qC false) sa sb) (oi false sa sb) fun δ h=>nv (oQ false) δ h⟩
theorem pc_nin(ha:SE C a fa)(hb:SE C b fb):∃ t:WX->TE,(∀ W X,Good C W X->PC X .NotIn a b (t W))/\Snd C.p (rV C.p) t (m2 fQ fa fb):=by
 obtain⟨ta,pa,sa⟩:=ha;obtain⟨tb,pb,sb⟩:=hb;exact⟨_,fun W X g=>PC.or (pc_op (or_nin C.p.K g.K) (pa W X g) (pb W X g)) (pc_dnotin g.u1 (pa W X g) (pb W X g)),j9 (iH (qC true) sa sb) (oi true sa sb) fun δ h=>nv (oQ true) δ h⟩
theorem qK(ha:SE C a fa)(hb:SE C b fb)(hm:behindInMarks .In b=false:=by rfl):SE C (.Compare a [.In] [b] pos) (m2 gF fa fb):=by
 obtain⟨t,p1,s⟩:=pc_in ha hb;exact⟨t,fun W X g=>pe_cmp (p1 W X g) hm,s⟩
theorem st_in(ha:SE C a fa)(hb:SE C b fb)(hm:behindInMarks .In b=false:=by rfl):ST C (.Compare a [.In] [b] pos) (mB (m2 gF fa fb)):=by
 obtain⟨t,p1,s⟩:=pc_in ha hb;exact⟨fun W=>tB (t W),fun W X g=>pt_cmp (p1 W X g) hm,fH s⟩
theorem qy(ha:SE C a fa)(hb:SE C b fb)(hm:behindInMarks .NotIn b=false:=by rfl):ST C (.Compare a [.NotIn] [b] pos) (mB (m2 fQ fa fb)):=by
 obtain⟨t,p1,s⟩:=pc_nin ha hb;exact⟨fun W=>tB (t W),fun W X g=>pt_cmp (p1 W X g) hm,fH s⟩
end
end M
namespace M
open PySem PySem.Spec PyProof.Rows L2 B
def gm{α : Type}(xs:List α)(lo hi:Option Int):List α:=(xs.drop (HT.sIx xs.length 0 lo)).take (HT.sIx xs.length xs.length hi - HT.sIx xs.length 0 lo)
theorem jS{α : Type}(xs:List α)(k:Nat):gm xs none (some (k:Int))=xs.take k:=by
 unfold gm;rw [HT.sIx_nat,HT.sIx_none]
 simp only [List.drop_zero,Nat.sub_zero]
 by_cases h:k<=xs.length
 .rw [Nat.min_eq_left h]
 .rw [Nat.min_eq_right (by omega),List.take_of_length_le (Nat.le_refl _),List.take_of_length_le (by omega)]
theorem pF{α : Type}(xs:List α)(k:Nat):gm xs (some (k:Int)) none=xs.drop k:=by
 unfold gm;rw [HT.sIx_nat,HT.sIx_none]
 by_cases h:k<=xs.length
 .rw [Nat.min_eq_left h,List.take_of_length_le (by simp)]
 .rw [Nat.min_eq_right (by omega)]
  simp [List.drop_of_length_le (show xs.length<=k by omega)]
theorem sy{α : Type}(xs:List α)(lo hi:Option Int)(h:HT.sIx xs.length 0 lo=0/\HT.sIx xs.length xs.length hi=xs.length):gm xs lo hi=xs:=by unfold gm; rw [h.1,h.2]; simp
theorem RvA.cut{p:Pm}{m:Rf->Addr}{hs:Rf->Prop}{G:Hp}{vs:List V}{xs:List Val}{lo hi:Option Int}(h:RvA p m hs G vs xs):RvA p m hs G (cutV vs lo hi) (gm xs lo hi):=by
 unfold cutV gm;rw [h.len];exact(h.drop _).take _
def lF(h:Hh)(x:Val)(lo hi:Option Int):Res Val:=match x with
 | .str z=>if z.length<=1000000 then .ok (.str (cutS z lo hi)) h else .err
 | .tup xs=>.ok (.tup (gm xs lo hi)) h
 | .kt xs=>if HT.sIx xs.length 0 lo=0/\HT.sIx xs.length xs.length hi=xs.length then .ok (.kt xs) h else .ok (.tup (gm xs lo hi)) h
 | x=>match rdL h x with
  | some xs=>.ok (.lst (gm xs lo hi)) h
  | none=>.err
def rSlU(K:PySem.W.Frag):V->Option Int->Option Int->Hp->VK->Prop:=fun x lo hi H Q=>(rSlL K x lo hi H Q\/rSlF K x lo hi H Q)\/rSlS x lo hi H Q
theorem or_sl{X:Cx}(K:PySem.W.Frag)(h:X.K=K):SlR X (rSlU K):=SlR.or (SlR.or (qH K h) (tD K h)) sl_str
theorem sr_sl{p:Pm}{m:Rf->Addr}{h:Hh}{G H:Hp}{u:V}{x:Val}{lo hi:Option Int}{Q:VK}{W:WX}{σ : L2.St}(w:Wo p m h G H)(rx:Rv p m h.has G u x)(e:ao p (rV p) m h G H W σ Q (lF h x lo hi)):rSlU p.K u lo hi H Q:=by
 unfold lF at e
 split at e
 .cases rx
  split at e
  .exact .inr ⟨_,rfl,aK (by assumption),ao.here e w (.str _)⟩
  .exact e.elim
 .cases rx with
  | tup h1 h2 =>
   refine .inl (.inr ⟨_,_,rfl,(h1.sq w.gh),fun z=>?_,fun _ q n=>f7 e w n h2.cut⟩);rw [h2.len] at z;rw [sy _ _ _ z] at e;exact ao.here e w (.tup h1 h2)
 .cases rx with
  | kt h1 h2 =>
   refine .inl (.inr ⟨_,_,rfl,h1 H,fun z=>?_,fun z q n=>?_⟩)
   .rw [h2.len] at z;rw [if_pos z] at e;exact ao.here e w (.kt h1 h2)
   .rw [h2.len] at z;rw [if_neg z] at e;exact f7 e w n h2.cut
 .split at e
  .rename_i xs hx;obtain⟨a,vs,rfl,h1,h2⟩:=kn w rx hx;exact .inl (.inl ⟨_,_,rfl,h1,fun q n=>ey e w n h2.cut⟩)
  .exact e.elim
section
variable{X:Cx}{e:Expr}{te:TE}
def qr(te:TE):TO:=fun σ H Q=>te σ H fun x H1=>(∃ i,x = .int i/\Q (some i) H1)\/(x = .non/\Q none H1)
theorem rf(h:PE X e te):PO X (some e) (qr te):=by
 refine⟨fun pins s σ H Q I hw=>?_⟩;rw [evalPart_some];refine thn (h.run pins s σ H _ I hw) fun u s1 ⟨x,H1,I1,r1,q1⟩=>?_;rcases q1 with ⟨i,rfl,q⟩ | ⟨rfl,q⟩
 .obtain⟨t,rfl⟩:=r1;exact⟨some i,H1,I1,.int i t,q⟩
 .cases r1
  exact⟨none,H1,I1,.none,q⟩
end
def asP(x:Val)(h:Hh):Res (Option Int):=match x with
 | .int i=>.ok (some i) h
 | .non=>.ok none h
 | _=>.err
def dS:Sl->Hh->Res (Option Int):=fun _ h=>.ok none h
def mP(f:Sl->Hh->Res Val):Sl->Hh->Res (Option Int):=fun δ h=>(f δ h).bind asP
def mSl(f:Sl->Hh->Res Val)(fl fh:Sl->Hh->Res (Option Int)):Sl->Hh->Res Val:=fun δ h=>(f δ h).bind fun x h1=>(fl δ h1).bind fun l h2=>(fh δ h2).bind fun u h3=>lF h3 x l u
section
variable{C:Ct}{a b e:Expr}{es:List Expr}{pos p2:Pos}{fa fb:Sl->Hh->Res Val}{fl fh:Sl->Hh->Res (Option Int)}{lo hi:Option Expr}{fs:Sl->Hh->Res (List Val)}
theorem cD:SO C none dS:=⟨fun _=>tNoPart,fun _ _ _=>po_none,fun W σ δ m h G H Q en w e=>ao.here e w rfl⟩
theorem eM(ha:SE C e fa):SO C (some e) (mP fa):=by
 obtain⟨ta,pa,sa⟩:=ha;refine⟨fun W=>qr (ta W),fun W X g=>rf (pa W X g),fun W σ δ m h G H Q en w e=>sa W σ δ m h G H _ en w (ao.bind e fun x h1 m1 G1 u H1 s1 w1 r1 e1=>?_)⟩;unfold asP at e1
 split at e1
 .cases r1; exact .inl ⟨_,rfl,ao.here e1 w1 rfl⟩
 .cases r1; exact .inr ⟨rfl,ao.here e1 w1 rfl⟩
 .exact e1.elim
theorem cE(ha:SE C a fa)(hl:SO C lo fl)(hh:SO C hi fh):SE C (.Subscript a (.Slice lo hi none p2) pos) (mSl fa fl fh):=by
 obtain⟨ta,pa,sa⟩:=ha;obtain⟨tl,pl,sl⟩:=hl;obtain⟨tu,pu,su⟩:=hh;refine⟨fun W=>tSl (rSlU C.p.K) (ta W) (tl W) (tu W),fun W X g=>pe_slice (or_sl C.p.K g.K) (pa W X g) (pl W X g) (pu W X g),fun W σ δ m h G H Q en w e=>sa W σ δ m h G H _ en w (ao.bind e fun x h1 m1 G1 u H1 s1 w1 r1 e1=>?_)⟩;refine sl W σ δ m1 h1 G1 H1 _ (en.stp s1) w1 (ao.bind e1 fun l h2 m2 G2 l' H2 s2 w2 r2 e2=>?_);refine su W σ δ m2 h2 G2 H2 _ (en.stp (s1.trans s2)) w2 (ao.bind e2 fun y h3 m3 G3 y' H3 s3 w3 r3 e3=>?_)
 cases r2; cases r3
 exact sr_sl w3 (Rv.stp (s2.trans s3) r1) e3
def lookF:List (Nat×Val)->Nat->Option Val
 | [],_=>none
 | (g,x) :: r,f=>if g=f then some x else lookF r f
def opFld(f:Nat)(h:Hh)(x:Val):Res Val:=match x with
 | .ref r=>match h.get r with
  | some (.ins _ fs)=>match lookF fs f with
   | some v=>.ok v h
   | none=>.err
  | _=>.err
 | _=>.err
def nN(p:Pm)(r:RL)(g:Hh->List Val->Res Val):Prop:=∀ m h G H us xs Q W σ,Wo p m h G H->RvA p m h.has G us xs->ao p (rV p) m h G H W σ Q (g h xs)->r us H Q
def mC(g:Hh->List Val->Res Val)(fs:Sl->Hh->Res (List Val)):Sl->Hh->Res Val:=fun δ h=>(fs δ h).bind fun xs h1=>g h1 xs
theorem qF{r:RL}{g:Hh->List Val->Res Val}{t:WX->TA}(s:nN C.p r g)(sa:Snd C.p (rA C.p) t fs):Snd C.p (rV C.p) (fun W=>tCB r (t W)) (mC g fs):=fun W σ δ m h G H Q en w e =>
 sa W σ δ m h G H _ en w (ao.bind e fun xs h1 m1 G1 us H1 s1 w1 r1 e1=>s m1 h1 G1 H1 us xs Q W σ w1 r1 e1)
theorem se_cb{id:String}{x:Str}{q:Pos}{r:RL}{g:Hh->List Val->Res Val}(ho:∀ W X,Good C W X->CallR X (.builtin id) r)(s:nN C.p r g)(hl:C.sc.names.lookup x=some .globalImplicit)(hm:C.p.mg x=none)(hv:bootBuiltins x=some (.builtin id))(ha:SA C (e :: es) fs)
  (hn:x≠"__name__":=by decide) (hdb:(x == ("__debug__" : Str))=false:=by decide) (he:∀ env,starEach (e :: es) env=(false,eval e env) :: starEach es env:=by intro _; rfl) (hpl:∀ env,(backTo pos (starEach es env)).any (·.1)=false:=by intro _; rfl) :
  SE C (.Call (.Name x q) (e :: es) [] pos) (mC g fs):=by
 obtain⟨t,pa,sa⟩:=ha;exact⟨fun W=>tCB r (t W),fun W X gd=>pe_callB (ho W X gd) (gd.gl hl) (by rw [gd.mg]; exact hm) hv (pa W X gd) hn hdb (he _) (hpl _),qF s sa⟩
theorem se_ct{T:String}{x:Str}{q:Pos}{r:RL}{g:Hh->List Val->Res Val}(ho:∀ W X,Good C W X->CallR X (.type T) r)(s:nN C.p r g)(hl:C.sc.names.lookup x=some .globalImplicit)(hm:C.p.mg x=none)(hv:bootBuiltins x=some (.type T))(ha:SA C (e :: es) fs)
  (hn:x≠"__name__":=by decide) (hdb:(x == ("__debug__" : Str))=false:=by decide) (he:∀ env,starEach (e :: es) env=(false,eval e env) :: starEach es env:=by intro _; rfl) (hpl:∀ env,(backTo pos (starEach es env)).any (·.1)=false:=by intro _; rfl) :
  SE C (.Call (.Name x q) (e :: es) [] pos) (mC g fs):=by
 obtain⟨t,pa,sa⟩:=ha;exact⟨fun W=>tCB r (t W),fun W X gd=>pe_callTy (ho W X gd) (gd.gl hl) (by rw [gd.mg]; exact hm) hv (pa W X gd) hn hdb (he _) (hpl _),qF s sa⟩
def dh(h:Hh)(xs:List Val):Res Val:=match xs with
 | [.str z]=>if z.length<=1000000 then .ok (.int z.length) h else .err
 | [x]=>match rdQ h x with
  | some ys=>.ok (.int ys.length) h
  | none=>match x with
   | .ref r=>match h.get r with
    | some (.dct kvs)=>.ok (.int kvs.length) h
    | _=>.err
   | _=>.err
 | _=>.err
def bAbs(h:Hh)(xs:List Val):Res Val:=match xs with
 | [.int a]=>.ok (.int (if a < 0 then -a else a)) h
 | _=>.err
def intsM:List Val->Option (List Int)
 | []=>some []
 | .int i :: xs=>(intsM xs).map (i :: ·)
 | _=>none
def nJ:List Val->Option (List Bool)
 | []=>some []
 | .bl i :: xs=>(nJ xs).map (i :: ·)
 | _=>none
def iF:List Val->Option (List Str)
 | []=>some []
 | .str i :: xs=>(iF xs).map (i :: ·)
 | _=>none
theorem oZ:∀ {xs:List Val} {ns:List Bool},nJ xs=some ns->xs=ns.map Val.bl
 | [],_,h=>by cases h; rfl
 | .bl i :: xs,_,h=>by
  have h:(nJ xs).map (i :: ·)=some _:=h;obtain⟨l,h1,h2⟩:=Option.map_eq_some_iff.mp h;subst h2; rw [oZ h1]; rfl
 | .non :: _,_,h=>by cases h
 | .int _ :: _,_,h=>by cases h
 | .str _ :: _,_,h=>by cases h
 | .lst _ :: _,_,h=>by cases h
 | .tup _ :: _,_,h=>by cases h
 | .dct _ :: _,_,h=>by cases h
 | .ref _ :: _,_,h=>by cases h
 | .fn _ :: _,_,h=>by cases h
 | .kt _ :: _,_,h=>by cases h
 | .scr _ :: _,_,h=>by cases h
theorem la:∀ {xs:List Val} {ns:List Str},iF xs=some ns->xs=ns.map Val.str
 | [],_,h=>by cases h; rfl
 | .str i :: xs,_,h=>by
  have h:(iF xs).map (i :: ·)=some _:=h;obtain⟨l,h1,h2⟩:=Option.map_eq_some_iff.mp h;subst h2; rw [la h1]; rfl
 | .non :: _,_,h=>by cases h
 | .int _ :: _,_,h=>by cases h
 | .bl _ :: _,_,h=>by cases h
 | .lst _ :: _,_,h=>by cases h
 | .tup _ :: _,_,h=>by cases h
 | .dct _ :: _,_,h=>by cases h
 | .ref _ :: _,_,h=>by cases h
 | .fn _ :: _,_,h=>by cases h
 | .kt _ :: _,_,h=>by cases h
 | .scr _ :: _,_,h=>by cases h
theorem jB:∀ {ns:List Str},iF (ns.map Val.str)=some ns
 | []=>rfl
 | n :: ns=>by show(iF (ns.map Val.str)).map (n :: ·)=_; rw [jB]; rfl
def pN(h:Hh)(xs:List Val)(k:List Int->Res Val):Res Val:=match xs with
 | [x]=>match rdL h x with
  | some ys=>match intsM ys with
   | some ns=>k ns
   | none=>.err
  | none=>.err
 | _=>.err
def bMaxL(h:Hh)(xs:List Val):Res Val:=pN h xs fun ns=>match ns.max? with
 | some n=>.ok (.int n) h
 | none=>.err
def ic(h:Hh)(xs:List Val)(k:List Bool->Res Val):Res Val:=match xs with
 | [x]=>match rdL h x with
  | some ys=>match nJ ys with
   | some ns=>k ns
   | none=>.err
  | none=>.err
 | _=>.err
def nK(h:Hh)(xs:List Val):Res Val:=ic h xs fun ns=>.ok (.bl (ns.all id)) h
def hZ(h:Hh)(xs:List Val):Res Val:=match xs with
 | [.int i]=>.ok (.int i) h
 | [.bl b]=>.ok (.int (if b=true then 1 else 0)) h
 | [.str a]=>match PySem.intText? a with
  | some n=>if a.length<=640 then .ok (.int n) h else .err
  | none=>.err
 | _=>.err
def mG(h:Hh)(xs:List Val):Res Val:=match xs with
 | [.int i]=>if i.natAbs.log2 < 1920 then .ok (.str (toString i)) h else .err
 | [.str a]=>.ok (.str a) h
 | _=>.err
end
theorem CallR.or{X:Cx}{f:Value}{r r':RL}(a:CallR X f r)(b:CallR X f r'):CallR X f (fun xs H Q=>r xs H Q\/r' xs H Q):=by
 intro pins s σ H xs us Q I rx h;rcases h with h | h
 .exact a pins s σ H xs us Q I rx h
 .exact b pins s σ H xs us Q I rx h
section
variable{p:Pm}
theorem gy{m:Rf->Addr}{hs:Rf->Prop}{G:Hp}{us:List V}{x:Val}(r:RvA p m hs G us [x]):∃ u,us=[u]/\Rv p m hs G u x:=by
 cases r with | cons h1 h2=>cases h2; exact⟨_,rfl,h1⟩
theorem rva2{m:Rf->Addr}{hs:Rf->Prop}{G:Hp}{us:List V}{x y:Val}(r:RvA p m hs G us [x,y]):∃ u v,us=[u,v]/\Rv p m hs G u x/\Rv p m hs G v y:=by
 cases r with | cons h1 h2=>cases h2 with | cons h2 h3=>cases h3; exact⟨_,_,rfl,h1,h2⟩
def rLenD:RL:=fun xs H Q=>∃ d kvs,xs=[.ref d]/\H d=some (.dK kvs)/\Q (.int kvs.length) H
theorem nG{X:Cx}:CallR X (.builtin "len") rLenD:=fun pins s σ H xs us Q I r h=>by
 obtain⟨d,kvs,e,hd,q⟩:=h;exact call_lenD pins s σ H xs us Q I r ⟨d,kvs,e,hd,q⟩
def rLenU(K:PySem.W.Frag):RL:=fun xs H Q=>(rLenS xs H Q\/qX K xs H Q)\/rLenD xs H Q
theorem cr_len{X:Cx}(K:PySem.W.Frag)(h:X.K=K):CallR X (.builtin "len") (rLenU K):=CallR.or (CallR.or uQ (uR K h)) nG
theorem sc_len:nN p (rLenU p.K) dh:=fun m h G H us xs Q W σ w r e=>by
 unfold dh at e
 split at e
 .obtain⟨u,rfl,ru⟩:=gy r
  cases ru
  split at e
  .exact .inl (.inl (tV (aK (by assumption)) (ao.here e w (.int _))))
  .exact e.elim
 .obtain⟨u,rfl,ru⟩:=gy r
  split at e
  .rename_i ys hy;obtain⟨a,vs,rfl,h1,h2⟩:=km w ru hy;exact .inl (.inr ⟨a,vs,rfl,h1,by rw [h2.len]; exact ao.here e w (.int _)⟩)
  .split at e
   .split at e
    .rename_i hc;obtain⟨_,_,o,h3,h4⟩:=w.cel _ _ hc
     cases ru
     cases h4 with
     | dct h4=>exact .inr ⟨_,_,rfl,h3,by rw [h4.length]; exact ao.here e w (.int _)⟩
    .exact e.elim
   .exact e.elim
 .exact e.elim
theorem mN{m:Rf->Addr}{h:Hh}{G H:Hp}{us:List V}{xs:List Val}{Q:VK}{W:WX}{σ : L2.St}{k:List Bool->Res Val}(w:Wo p m h G H)(r:RvA p m h.has G us xs)(e:ao p (rV p) m h G H W σ Q (ic h xs k)) :
  ∃ a ns,us=[.ref a]/\SqL p.K H a (ns.map V.bl)/\ao p (rV p) m h G H W σ Q (k ns):=by
 unfold ic at e
 split at e
 .obtain⟨u,rfl,ru⟩:=gy r
  split at e
  .rename_i ys hy
   split at e
   .rename_i ns hn;obtain⟨a,vs,rfl,h1,h2⟩:=kn w ru hy;have:=oZ hn;subst this;rw [gU h2] at h1;exact⟨a,ns,rfl,h1,e⟩
   .exact e.elim
  .exact e.elim
 .exact e.elim
theorem sc_all:nN p (rAll p.K) nK:=fun m h G H us xs Q W σ w r e=>by
 obtain⟨a,ns,rfl,h1,e⟩:=mN w r e;exact⟨a,ns,rfl,h1,ao.here e w (.bl _)⟩
def rIntS:RL:=fun xs H Q=>∃ a n,xs=[.str a]/\PySem.intText? a=some n/\a.length<=640/\Q (.int n) H
def rIntU:RL:=fun xs H Q=>oD xs H Q\/rIntS xs H Q
theorem cr_int{X:Cx}:CallR X (.type "int") rIntU:=CallR.or cl_int call_int_str
theorem sc_int:nN p rIntU hZ:=fun m h G H us xs Q W σ w r e=>by
 unfold hZ at e
 split at e
 .obtain⟨u,rfl,ru⟩:=gy r
  cases ru; exact .inl (tW (ao.here e w (.int _)))
 .obtain⟨u,rfl,ru⟩:=gy r
  cases ru; exact .inl (tX (ao.here e w (.int _)))
 .obtain⟨u,rfl,ru⟩:=gy r
  cases ru
  split at e
  .split at e
   .exact .inr ⟨_,_,rfl,by assumption,by assumption,ao.here e w (.int _)⟩
   .exact e.elim
  .exact e.elim
 .exact e.elim
def rStr1:RL:=fun xs H Q=>(∃ i,xs=[.int i]/\i.natAbs.log2 < 1920/\Q (.str (toString i)) H)\/∃ a,xs=[.str a]/\Q (.str a) H
theorem cr_str{X:Cx}:CallR X (.type "str") rStr1:=CallR.or call_str_int SkE.call_str_str
theorem sc_str:nN p rStr1 mG:=fun m h G H us xs Q W σ w r e=>by
 unfold mG at e
 split at e
 .obtain⟨u,rfl,ru⟩:=gy r
  cases ru
  split at e
  .exact .inl ⟨_,rfl,by assumption,ao.here e w (.str _)⟩
  .exact e.elim
 .obtain⟨u,rfl,ru⟩:=gy r
  cases ru; exact .inr ⟨_,rfl,ao.here e w (.str _)⟩
 .exact e.elim
end
def tyN(h:Hh):Val->Option String
 | .non=>some "NoneType"
 | .bl _=>some "bool"
 | .int _=>some "int"
 | .str _=>some "str"
 | .lst _=>some "list"
 | .tup _=>some "tuple"
 | .kt _=>some "tuple"
 | .ref r=>match h.get r with
  | some (.lst _)=>some "list"
  | _=>none
 | _=>none
inductive Ity where
 | int | bool | str | list | tuple
def Ity.nm:Ity->String
 | .int=>"int" | .bool=>"bool" | .str=>"str" | .list=>"list" | .tuple=>"tuple"
def isTyV(T:Ity):Val->Option Bool
 | .non=>some false
 | .bl _=>some (match T with | .int=>true | .bool=>true | _=>false)
 | .int _=>some (match T with | .int=>true | _=>false)
 | .str _=>some (match T with | .str=>true | _=>false)
 | .lst _=>some (match T with | .list=>true | _=>false)
 | .tup _=>some (match T with | .tuple=>true | _=>false)
 | _=>none
def dN(T:Ity)(h:Hh)(x:Val):Res Val:=match isTyV T x with
 | some b=>.ok (.bl b) h
 | none=>match x with
  | .ref r=>match h.get r with
   | some (.lst _)=>.ok (.bl (match T with | .list=>true | _=>false)) h
   | _=>.err
  | _=>.err
theorem kb(T:Ity):kitB "NoneType" T.nm=some false/\kitB "bool" T.nm=some (match T with | .int=>true | .bool=>true | _=>false)/\kitB "int" T.nm=some (match T with | .int=>true | _=>false)/\kitB "str" T.nm=some (match T with | .str=>true | _=>false) /\
  kitB "list" T.nm=some (match T with | .list=>true | _=>false)/\kitB "tuple" T.nm=some (match T with | .tuple=>true | _=>false):=by
 cases T <;> decide +kernel
theorem isi_ok{p:Pm}{m:Rf->Addr}{h:Hh}{G H:Hp}{u:V}{x:Val}{T:Ity}{Q:VK}{W:WX}{σ : L2.St}(w:Wo p m h G H)(r:Rv p m h.has G u x)(e:ao p (rV p) m h G H W σ Q (dN T h x)):∃ t b,TyX p.K H u (.type t)/\kitB t T.nm=some b/\Q (.bl b) H:=by
 obtain⟨k1,k2,k3,k4,k5,k6⟩:=kb T;unfold dN at e
 split at e
 .rename_i b hb
  cases r with
  | non=>cases hb; exact⟨_,_,.base .non,k1,ao.here e w (.bl _)⟩
  | bl=>cases hb; exact⟨_,_,.base (.bl _),k2,ao.here e w (.bl _)⟩
  | int=>cases hb; exact⟨_,_,.base (.int _),k3,ao.here e w (.bl _)⟩
  | str=>cases hb; exact⟨_,_,.base (.str _),k4,ao.here e w (.bl _)⟩
  | lst h1 _=>cases hb; exact⟨_,_,.base (.lst (w.gh _ _ h1)),k5,ao.here e w (.bl _)⟩
  | tup h1 _=>cases hb; exact⟨_,_,h1.ty w.gh,k6,ao.here e w (.bl _)⟩
  | _=>cases hb
 .split at e
  .split at e
   .rename_i hc;obtain⟨_,_,o,h3,h4⟩:=w.cel _ _ hc
    cases r
    cases h4 with | lst h4=>exact⟨_,_,.base (.lst h3),k5,ao.here e w (.bl _)⟩
   .exact e.elim
  .exact e.elim
section
variable{C:Ct}{e:Expr}{pos q q2:Pos}{fa:Sl->Hh->Res Val}
theorem uS(T:Ity):bootBuiltins T.nm=some (.type T.nm)/\((T.nm:Str)≠"__name__")/\(((T.nm:Str) == ("__debug__" : Str))=false):=by cases T <;> refine⟨?_,?_,?_⟩ <;> decide +kernel
theorem sE:bootBuiltins "isinstance" = some (.builtin "isinstance"):=by decide +kernel
theorem e7(T:Ity){x:Str}(hx:x=T.nm)(hl:C.sc.names.lookup ("isinstance" : Str)=some .globalImplicit)(hm:C.p.mg "isinstance" = none)(hl2:C.sc.names.lookup x=some .globalImplicit)(hm2:C.p.mg x=none)(ha:SE C e fa)
  (he:∀ env,starEach (e :: [.Name x q2]) env=(false,eval e env) :: starEach [.Name x q2] env:=by intro _; rfl):SE C (.Call (.Name "isinstance" q) [e,.Name x q2] [] pos) (m1 (dN T) fa):=by
 obtain⟨ta,pa,sa⟩:=ha;subst hx;obtain⟨b1,b2,b3⟩:=uS T;refine⟨fun W=>tCB (rIsi C.p.K) (tCons (ta W) (tCons (tC (.ty T.nm)) tNil)),fun W X g=>pe_callB (nH C.p.K g.K) (g.gl hl) (by rw [g.mg]; exact hm) sE (pa_cons (pa W X g) (pa_cons (pe_bltn (v:=.ty T.nm) (u:=.type T.nm) (g.gl hl2) (by rw [g.mg]; exact hm2) b1 rfl b2 b3) pa_nil) (he _)) (by decide) (by decide) (he _) rfl,
  fun W σ δ m h G H Q en w e=>sa W σ δ m h G H _ en w (ao.bind e fun x h1 m1 G1 u H1 s1 w1 r1 e1=>?_)⟩
 obtain⟨t,b,ht,hb,q⟩:=isi_ok w1 r1 e1;exact⟨u,.ty T.nm,.type t,.type T.nm,b,rfl,.ty T.nm,ht,kit_ty hb,q⟩
end
end M
namespace M
open PySem PySem.Spec PyProof.Rows L2 B
inductive aC where
 | err | nx (δ : Sl) (h:Hh) | rt (v:Val) (h:Hh) | bk (δ : Sl) (h:Hh) | ct (δ : Sl) (h:Hh) | exc (c:Nat) (fs:List (Nat×Val)) (δ : Sl) (h:Hh)
def aC.thn(r:aC)(k:Sl->Hh->aC):aC:=match r with
 | .nx δ h=>k δ h
 | r=>r
def Res.st{α : Type}(r:Res α)(δ : Sl)(k:α->Hh->aC):aC:=match r with
 | .err=>.err
 | .ok a h=>k a h
 | .exc c fs h=>.exc c fs δ h
def bF(p:Pm)(m:Rf->Addr)(h:Hh)(G H:Hp)(W:WX)(E:Ends):aC->Prop
 | .err=>False
 | .nx δ h'=>∀ m' G' σ' H',Stp m h G H m' h' G' H'->Wo p m' h' G' H'->En p m' h' G' σ' δ->E.nx σ' H'
 | .rt v h'=>∀ m' G' u H',Stp m h G H m' h' G' H'->Wo p m' h' G' H'->Rv p m' h'.has G' u v->E.rt u H'
 | .bk δ h'=>∀ m' G' σ' H',Stp m h G H m' h' G' H'->Wo p m' h' G' H'->En p m' h' G' σ' δ->E.bk σ' H'
 | .ct δ h'=>∀ m' G' σ' H',Stp m h G H m' h' G' H'->Wo p m' h' G' H'->En p m' h' G' σ' δ->E.ct σ' H'
 | .exc c fs δ h'=>∀ m' G' σ' H' cls d,Stp m h G H m' h' G' H'->Wo p m' h' G' H'->En p m' h' G' σ' δ->XR p m' h' G' H' c fs cls d->W cls d σ' H'
def SndS(p:Pm)(t:WX->TS)(f:Sl->Hh->aC):Prop:=∀ W σ δ m h G H E,En p m h G σ δ->Wo p m h G H->bF p m h G H W E (f δ h)->t W E σ H
section
variable{p:Pm}{m m1:Rf->Addr}{h h1:Hh}{G H G1 H1:Hp}{W:WX}{σ : L2.St}{δ : Sl}{E:Ends}{r:aC}
theorem bF.after(s:Stp m h G H m1 h1 G1 H1)(e:bF p m h G H W E r):bF p m1 h1 G1 H1 W E r:=by
 cases r with
 | err=>exact e
 | nx δ h'=>exact fun m' G' u H' s' w' r'=>e m' G' u H' (s.trans s') w' r'
 | rt v h'=>exact fun m' G' u H' s' w' r'=>e m' G' u H' (s.trans s') w' r'
 | bk δ h'=>exact fun m' G' u H' s' w' r'=>e m' G' u H' (s.trans s') w' r'
 | ct δ h'=>exact fun m' G' u H' s' w' r'=>e m' G' u H' (s.trans s') w' r'
 | exc c fs δ h'=>exact fun m' G' σ' H' cls d s' w' e' x'=>e m' G' σ' H' cls d (s.trans s') w' e' x'
theorem bF.ex{α β : Type}{R:jw α β}{ra:Res α}{k:α->Hh->aC}{Q:β->Hp->Prop}(en:En p m h G σ δ)(e:bF p m h G H W E (ra.st δ k))(step:∀ x h1 m1 G1 u H1,Stp m h G H m1 h1 G1 H1->Wo p m1 h1 G1 H1->R m1 h1 G1 u x->bF p m1 h1 G1 H1 W E (k x h1)->Q u H1):ao p R m h G H W σ Q ra:=by
 cases ra with
 | err=>exact e
 | ok x h'=>exact fun m' G' u H' s' w' r'=>step x h' m' G' u H' s' w' r' (bF.after s' e)
 | exc c fs h'=>exact fun m' G' H' cls d s' w' x'=>e m' G' σ H' cls d s' w' (en.stp s') x'
theorem bF.thn{k:Sl->Hh->aC}(e:bF p m h G H W E (r.thn k)):bF p m h G H W { E with nx:=fun σ' H'=>∃ m' h' G' δ',Stp m h G H m' h' G' H'/\Wo p m' h' G' H'/\En p m' h' G' σ' δ'/\bF p m' h' G' H' W E (k δ' h') } r:=by
 cases r with
 | err=>exact e
 | nx δ h'=>exact fun m' G' σ' H' s' w' e'=>⟨m',h',G',δ,s',w',e',bF.after s' e⟩
 | rt v h'=>exact e
 | bk δ h'=>exact e
 | ct δ h'=>exact e
 | exc c fs δ h'=>exact e
theorem bF.nxh(e:bF p m h G H W E (.nx δ h))(w:Wo p m h G H)(en:En p m h G σ δ):E.nx σ H:=e m G σ H .refl w en
end
def SS(C:Ct)(st:Stmt)(f:Sl->Hh->aC):Prop:=∃ t:WX->TS,(∀ W X,Good C W X->PS X st (t W))/\SndS C.p t f
def SSs(C:Ct)(st:List Stmt)(f:Sl->Hh->aC):Prop:=∃ t:WX->TS,(∀ W X,Good C W X->PSs X st (t W))/\SndS C.p t f
def SndT(p:Pm)(g:TG)(f:Val->Sl->Option Sl):Prop:=∀ m h G H σ δ u x δ' (Q:L2.St->Hp->Prop),Wo p m h G H->En p m h G σ δ->Rv p m h.has G u x->f x δ = some δ'->(∀ σ',En p m h G σ' δ'->Q σ' H)->g u σ H Q
def SndTs(p:Pm)(g:TGs)(f:List Val->Sl->Option Sl):Prop:=∀ m h G H σ δ us xs δ' (Q:L2.St->Hp->Prop),Wo p m h G H->En p m h G σ δ->RvA p m h.has G us xs->f xs δ = some δ'->(∀ σ',En p m h G σ' δ'->Q σ' H)->g us σ H Q
def GOnly(g:TG)(vs:List Nat):Prop:=∀ v σ H Q,g v σ H Q->g v σ H fun σ2 H2=>Q σ2 H2/\L2.wipe σ2 vs=L2.wipe σ vs
def GsOnly(g:TGs)(vs:List Nat):Prop:=∀ us σ H Q,g us σ H Q->g us σ H fun σ2 H2=>Q σ2 H2/\L2.wipe σ2 vs=L2.wipe σ vs
def GMono(g:TG):Prop:=∀ v σ H (Q Q':L2.St->Hp->Prop),(∀ σ H,Q σ H->Q' σ H)->g v σ H Q->g v σ H Q'
def GsMono(g:TGs):Prop:=∀ v σ H (Q Q':L2.St->Hp->Prop),(∀ σ H,Q σ H->Q' σ H)->g v σ H Q->g v σ H Q'
def SG(C:Ct)(tg:Expr)(vs:List Nat)(f:Val->Sl->Option Sl):Prop:=∃ g:TG,(∀ W X,Good C W X->PG X tg g)/\SndT C.p g f/\GOnly g vs/\GMono g
def SGs(C:Ct)(tgs:List Expr)(vs:List Nat)(f:List Val->Sl->Option Sl):Prop:=∃ g:TGs,(∀ W X,Good C W X->PGs X tgs g)/\SndTs C.p g f/\GsOnly g vs/\GsMono g
def tgN(i:Nat):Val->Sl->Option Sl:=fun x δ=>some (δ.set i (some x))
def jz:List Val->Sl->Option Sl:=fun xs δ=>match xs with
 | []=>some δ
 | _=>none
def dZ(f:Val->Sl->Option Sl)(g:List Val->Sl->Option Sl):List Val->Sl->Option Sl:=fun xs δ=>match xs with
 | x :: xs=>match f x δ with
  | some δ1=>g xs δ1
  | none=>none
 | []=>none
def tgT(g:List Val->Sl->Option Sl):Val->Sl->Option Sl:=fun x δ=>match rdT x with
 | some xs=>g xs δ
 | none=>none
section
theorem dU{σ : L2.St}:∀ {vs:List Nat} (k:Nat),(L2.wipe σ vs)[k]?=if k∈vs then(if k < σ.length then some none else none) else σ[k]?
 | [],k=>by simp [L2.wipe]
 | v :: vs,k=>by
  unfold L2.wipe
  by_cases h:v=k
  .subst h;rw [List.getElem?_set_self',if_pos (by simp)]
   by_cases hl:v < σ.length
   .rw [if_pos hl];have:v < (L2.wipe σ vs).length:=by rw [wipe_length]; exact hl
    simp [this]
   .rw [if_neg hl];have:¬ v < (L2.wipe σ vs).length:=by rw [wipe_length]; exact hl
    simp; omega
  .rw [List.getElem?_set_ne h,dU k];have:(k∈v :: vs)↔k∈vs:=by simp; intro z; exact absurd z.symm h
   simp only [this]
variable{C:Ct}{pos:Pos}{vs:List Nat}{tg:Expr}{tgs:List Expr}
theorem tL{i:Nat}{x:Str}(hN:C.N[i]?=some x)(hl:C.sc.names.lookup x=some .local\/(C.sc.names.lookup x=some .cell/\C.fn x=true))(hi:i∈vs):SG C (.Name x pos) vs (tgN i):=by
 refine⟨gName i,fun W X g=>?_,fun m h G H σ δ u x δ' Q w en r e q=>?_,fun v σ H Q q=>⟨q,?_⟩,fun v σ H Q Q' h q=>h _ _ q⟩
 .refine pg_name g.nd (by rw [g.N]; exact hN) (by rw [g.sc]; exact hl.imp id And.left) ?_;rw [g.fn,g.sc];exact hl.symm.imp And.right id
 .cases e
  exact q _ (en.set i r)
 .refine List.ext_getElem? fun k=>?_;rw [dU,dU]
  by_cases hk:k∈vs
  .simp [hk]
  .have:i≠k:=fun z=>hk (z ▸ hi);rw [if_neg hk,if_neg hk,List.getElem?_set_ne this]
theorem oq:SGs C [] vs jz:=by
 refine⟨gNil,fun W X g=>pgs_nil,fun m h G H σ δ us xs δ' Q w en r e q=>?_,fun us σ H Q q=>⟨q.1,q.2,rfl⟩,fun v σ H Q Q' h q=>⟨q.1,h _ _ q.2⟩⟩;unfold jz at e
 split at e
 .cases e; cases r
  exact⟨rfl,q _ en⟩
 .cases e
theorem fJ{f:Val->Sl->Option Sl}{g:List Val->Sl->Option Sl}(ha:SG C tg vs f)(hb:SGs C tgs vs g)(hst:∀ env,(assignEach (tg :: tgs) env).map (·.2)=assign tg env :: (assignEach tgs env).map (·.2):=by intro _; rfl):SGs C (tg :: tgs) vs (dZ f g):=by
 obtain⟨ga,pa,sa,oa,ma⟩:=ha;obtain⟨gb,pb,sb,ob,mb⟩:=hb;refine⟨gCons ga gb,fun W X g=>pgs_cons (pa W X g) (pb W X g) (hst _),fun m h G H σ δ us xs δ' Q w en r e q=>?_,fun us σ H Q ⟨v,r,e,q⟩=>⟨v,r,e,ma _ _ _ _ _ (fun σ' H' ⟨q1,e1⟩=>mb _ _ _ _ _ (fun σ2 H2 ⟨q2,e2⟩=>⟨q2,e2.trans e1⟩) (ob _ _ _ _ q1)) (oa _ _ _ _ q)⟩,
  fun v σ H Q Q' h ⟨x,r,e,q⟩=>⟨x,r,e,ma _ _ _ _ _ (fun σ' H' q'=>mb _ _ _ _ _ h q') q⟩⟩
 unfold dZ at e
 split at e
 .split at e
  .rename_i δ1 hδ
   cases r with
   | cons r1 r2=>exact⟨_,_,rfl,sa m h G H σ δ _ _ δ1 _ w en r1 hδ fun σ' en'=>sb m h G H σ' δ1 _ _ δ' Q w en' r2 e q⟩
  .cases e
 .cases e
theorem qJ{k n:Nat}{g:List Val->Sl->Option Sl}(hb:SGs C tgs vs g)(hlen:∀ xs δ δ',g xs δ = some δ'->xs.length=n)(hn:∀ env,(assignEach tgs env).length=n:=by intro _; rfl)(hst:∀ env,(assignEach tgs env).findIdx? (·.1)=none:=by intro _; rfl):SG C (.Tuple tgs k pos) vs (tgT g):=by
 obtain⟨gb,pb,sb,ob,mb⟩:=hb;refine⟨gTup C.p.K n gb,fun W X g=>t7 C.p.K g.calm (pb W X g) g.K (hn _) (hst _),fun m h G H σ δ u x δ' Q w en r e q=>?_,fun us σ H Q ⟨x,r,e,e1,e2,q⟩=>⟨x,r,e,e1,e2,ob _ _ _ _ q⟩,fun v σ H Q Q' h ⟨x,r,e,e1,e2,q⟩=>⟨x,r,e,e1,e2,mb _ _ _ _ _ h q⟩⟩;unfold tgT at e
 split at e
 .rename_i xs hx;obtain⟨a,vs,rfl,h1,h2⟩:=qV w r hx;exact⟨a,vs,rfl,h1,by rw [h2.len]; exact hlen _ _ _ e,sb m h G H σ δ _ _ δ' Q w en h2 e q⟩
 .cases e
theorem dy{f:Val->Sl->Option Sl}{g:List Val->Sl->Option Sl}{n:Nat}(h:∀ xs δ δ',g xs δ = some δ'->xs.length=n):∀ xs δ δ',dZ f g xs δ = some δ'->xs.length=n + 1:=fun xs δ δ' e=>by
 unfold dZ at e
 split at e
 .split at e
  .simp [h _ _ _ e]
  .cases e
 .cases e
theorem jy:∀ xs δ δ',jz xs δ = some δ'->xs.length=0:=fun xs δ δ' e=>by
 unfold jz at e
 split at e
 .rfl
 .cases e
end
def jM(f:Sl->Hh->Res Val):Sl->Hh->aC:=fun δ h=>(f δ h).st δ fun _ h1=>.nx δ h1
def bg(f:Sl->Hh->Res Val):Sl->Hh->aC:=fun δ h=>(f δ h).st δ fun x h1=>.rt x h1
def bw:Sl->Hh->aC:=fun δ h=>.nx δ h
def aI(f:Sl->Hh->Res Val)(g:Val->Sl->Option Sl):Sl->Hh->aC:=fun δ h=>(f δ h).st δ fun x h1=>match g x δ with
 | some δ'=>.nx δ' h1
 | none=>.err
def bU(f:Sl->Hh->Res Bool)(a b:Sl->Hh->aC):Sl->Hh->aC:=fun δ h=>(f δ h).st δ fun c h1=>if c=true then a δ h1 else b δ h1
def az(a b:Sl->Hh->aC):Sl->Hh->aC:=fun δ h=>(a δ h).thn b
section
variable{C:Ct}{a b e:Expr}{pos:Pos}{fa fb:Sl->Hh->Res Val}{ft:Sl->Hh->Res Bool}{st:Stmt}{sts sts':List Stmt}{f g:Sl->Hh->aC}
theorem aU:SSs C [] bw:=⟨fun _=>tNext,fun _ _ _=>pss_nil,fun W σ δ m h G H E en w e=>e.nxh w en⟩
theorem ay(h:SS C st f):SSs C [st] f:=by
 obtain⟨t,p1,s⟩:=h;exact⟨t,fun W X g=>pss_one (p1 W X g),s⟩
theorem aj(h:SS C st f)(h':SSs C sts g):SSs C (st :: sts) (az f g):=by
 obtain⟨t,p1,s⟩:=h;obtain⟨u,p2,s2⟩:=h';refine⟨fun W=>tSeq (t W) (u W),fun W X g=>pss_cons (p1 W X g) (p2 W X g),fun W σ δ m h G H E en w e=>?_⟩;refine s W σ δ m h G H _ en w ?_;have e2:=bF.thn e
 cases hr:f δ h with
 | err=>rw [hr] at e2; exact e2
 | nx δ' h' =>
  rw [hr] at e2;intro m' G' σ' H' s' w' en';obtain⟨m2,h2,G2,δ2,s3,w3,en3,e3⟩:=e2 m' G' σ' H' s' w' en';exact s2 W σ' δ2 m2 h2 G2 H' E en3 w3 e3
 | rt v h'=>rw [hr] at e2; exact e2
 | bk δ' h'=>rw [hr] at e2; exact e2
 | ct δ' h'=>rw [hr] at e2; exact e2
 | exc c fs δ' h'=>rw [hr] at e2; exact e2
theorem ik(ha:SE C e fa)(hs:∀ env,swapsWith e none pos.line env=pure false:=by intro _; rfl):SS C (.Expr e pos) (jM fa):=by
 obtain⟨ta,pa,sa⟩:=ha;refine⟨fun W=>tDrop (ta W),fun W X g=>ps_expr (pa W X g) (hs _),fun W σ δ m h G H E en w e=>sa W σ δ m h G H _ en w (bF.ex en e fun x h1 m1 G1 u H1 s1 w1 r1 e1=>e1.nxh w1 (en.stp s1))⟩
theorem aD(ha:SE C e fa):SS C (.Return (some e) pos) (bg fa):=by
 obtain⟨ta,pa,sa⟩:=ha;refine⟨fun W=>tRet (ta W),fun W X g=>ps_ret (pa W X g),fun W σ δ m h G H E en w e=>sa W σ δ m h G H _ en w (bF.ex en e fun x h1 m1 G1 u H1 s1 w1 r1 e1=>e1 m1 G1 u H1 .refl w1 r1)⟩
theorem bC{c:Expr}(hc:ST C c ft)(h:SSs C sts f)(h':SSs C sts' g):SS C (.If c sts sts' pos) (bU ft f g):=by
 obtain⟨tc,pc,sc⟩:=hc;obtain⟨t,p1,s⟩:=h;obtain⟨u,p2,s2⟩:=h';refine⟨fun W=>tIfS (tc W) (t W) (u W),fun W X g=>ps_if (pc W X g) (p1 W X g) (p2 W X g),fun W σ δ m h G H E en w e=>sc W σ δ m h G H _ en w (bF.ex en e fun x h1 m1 G1 u H1 s1 w1 r1 e1=>?_)⟩
 cases r1
 cases x
 .exact s2 W σ δ m1 h1 G1 H1 E (en.stp s1) w1 e1
 .exact s W σ δ m1 h1 G1 H1 E (en.stp s1) w1 e1
theorem oj{t:WX->TE}{g:TG}{fg:Val->Sl->Option Sl}(sa:Snd C.p (rV C.p) t fa)(sg:SndT C.p g fg):SndS C.p (fun W=>tAsg (t W) g) (aI fa fg):=fun W σ δ m h G H E en w e =>
 sa W σ δ m h G H _ en w (bF.ex en e fun x h1 m1 G1 u H1 s1 w1 r1 e1=>by
  split at e1
  .rename_i δ' hδ;exact sg m1 h1 G1 H1 σ δ u x δ' _ w1 (en.stp s1) r1 hδ fun σ' en'=>e1.nxh w1 en'
  .exact e1.elim)
theorem ax{i:Nat}{x:Str}{pos':Pos}(hN:C.N[i]?=some x)(hl:C.sc.names.lookup x=some .local\/(C.sc.names.lookup x=some .cell/\C.fn x=true))(ha:SE C e fa)(hs:∀ env:Env,env.scope=C.sc->swapsWith e (some (.Name x pos')) pos.line env=pure false:=by intro _ _; rfl):SS C (.Assign [.Name x pos'] e pos) (aI fa (tgN i)):=by
 obtain⟨ta,pa,sa⟩:=ha;refine⟨fun W=>tAsg (ta W) (gName i),fun W X g=>?_,oj sa fun m h G H σ δ u x δ' Q w en r e q=>by cases e; exact q _ (en.set i r)⟩;refine ps_set g.nd (by rw [g.N]; exact hN) (by rw [g.sc]; exact hl.imp id And.left) (pa W X g) (hs _ g.sc) ?_;rw [g.fn,g.sc];exact hl.symm.imp And.right id
end
end M
namespace M
open PySem PySem.Spec PyProof.Rows L2 B
def je(h:Hh)(x y v:Val):Option Hh:=match x with
 | .ref r=>match h.get r with
  | some (.dct kvs)=>match eN y with
   | some k=>if v.nl=true/\kvs.length < 1000000 then some (h.set r (.dct (dt kvs k v))) else none
   | none=>none
  | _=>none
 | _=>none
theorem eh{n:Nat}(h:n < 1000000):n < sizeLine:=Nat.lt_of_lt_of_le h (by decide)
theorem uO{p:Pm}{m:Rf->Addr}{h h':Hh}{G H:Hp}{u v z:V}{x y d:Val}(w:Wo p m h G H)(rx:Rv p m h.has G u x)(ry:Rv p m h.has G v y)(rz:Rv p m h.has G z d)(e:je h x y d=some h') :
  ∃ a H',u = .ref a/\DPut H a v z H'/\Stp m h G H m h' G H'/\Wo p m h' G H':=by
 unfold je at e
 split at e
 .split at e
  .rename_i kvs hc
   split at e
   .rename_i k hk
    split at e
    .rename_i hcond
     cases e
     obtain⟨_,hn,o,h3,h4⟩:=w.cel _ _ hc
     cases rx
     obtain rfl:=iz ry hk
     cases h4 with
     | dct h4 =>
      have ww:=w.mut hc (c:=.dct (dt kvs k d)) (o:=.dK (putK _ k z)) (uw hn hcond.1) (.dct (oz rz h4));exact⟨_,_,rfl,.inl ⟨_,k,h3,rfl,by rw [h4.length]; exact eh hcond.2,rfl⟩,ww.2,ww.1⟩
    .cases e
   .cases e
  .cases e
 .cases e
def jK(fo fi fv:Sl->Hh->Res Val):Sl->Hh->aC:=fun δ h=>(fv δ h).st δ fun z h1=>(fo δ h1).st δ fun x h2=>(fi δ h2).st δ fun y h3=>match je h3 x y z with
 | some h4=>.nx δ h4
 | none=>.err
section
variable{C:Ct}{a b e o i:Expr}{es:List Expr}{pos pos':Pos}{fa fb fc:Sl->Hh->Res Val}{ft:Sl->Hh->Res Bool}{fs:Sl->Hh->Res (List Val)}{st:Stmt}{sts sts':List Stmt}{f g:Sl->Hh->aC}{tg:Expr}{vs:List Nat}{fg:Val->Sl->Option Sl}
theorem il(ho:SE C o fa)(hi:SE C i fb)(hv:SE C e fc)(hs:∀ env,swapsWith e (some (.Subscript o i pos')) pos.line env=pure false:=by intro _; rfl):SS C (.Assign [.Subscript o i pos'] e pos) (jK fa fb fc):=by
 obtain⟨ta,pa,sa⟩:=ho;obtain⟨tb,pb,sb⟩:=hi;obtain⟨tc,pc,sc⟩:=hv;refine⟨fun W=>sDPut (ta W) (tb W) (tc W),fun W X g=>ps_dput g.u1 (pa W X g) (pb W X g) (pc W X g) (hs _),fun W σ δ m h G H E en w e=>sc W σ δ m h G H _ en w (bF.ex en e fun z h1 m1 G1 zv H1 s1 w1 r1 e1=>?_)⟩;refine sa W σ δ m1 h1 G1 H1 _ (en.stp s1) w1 (bF.ex (en.stp s1) e1 fun x h2 m2 G2 u H2 s2 w2 r2 e2=>?_);refine sb W σ δ m2 h2 G2 H2 _ (en.stp (s1.trans s2)) w2 (bF.ex (en.stp (s1.trans s2)) e2 fun y h3 m3 G3 v H3 s3 w3 r3 e3=>?_)
 split at e3
 .rename_i h4 hp;obtain⟨a,H4,rfl,h5,s4,w4⟩:=uO w3 (Rv.stp s3 r2) r3 (Rv.stp (s2.trans s3) r1) hp;exact⟨a,H4,rfl,h5,e3 m3 G3 σ H4 s4 w4 (en.stp (((s1.trans s2).trans s3).trans s4))⟩
 .exact e3.elim
def mPar(i j:Nat)(fs:Sl->Hh->Res (List Val)):Sl->Hh->aC:=fun δ h=>(fs δ h).st δ fun xs h1=>match xs with
 | [x,y]=>.nx ((δ.set i (some x)).set j (some y)) h1
 | _=>.err
theorem ss_par{i j:Nat}{x y:Str}{px py pt:Pos}{kt k2:Nat}{pt2:Pos}(hi:C.N[i]?=some x)(hj:C.N[j]?=some y)(hij:i≠j)(hx:C.sc.names.lookup x=some .local)(hy:C.sc.names.lookup y=some .local)(ha:SA C [a,b] fs)
  (hw:∀ env:Env,env.scope=C.sc->swappedStores [.Tuple [.Name x px,.Name y py] kt pt] (.Tuple [a,b] k2 pt2) env=pure (some [x,y])) (hs:∀ env,swapsWithSole [.Tuple [.Name x px,.Name y py] kt pt] (.Tuple [a,b] k2 pt2) pos.line env=pure false:=by intro _; rfl) :
  SS C (.Assign [.Tuple [.Name x px,.Name y py] kt pt] (.Tuple [a,b] k2 pt2) pos) (mPar i j fs):=by
 obtain⟨ta,pa,sa⟩:=ha;refine⟨fun W=>tPar i j (ta W),fun W X g=>ps_par g.calm g.nd (by rw [g.N]; exact hi) (by rw [g.N]; exact hj) hij (by rw [g.sc]; exact hx) (by rw [g.sc]; exact hy) (pa W X g) (hw _ g.sc) (hs _),fun W σ δ m h G H E en w e=>sa W σ δ m h G H _ en w (bF.ex en e fun xs h1 m1 G1 us H1 s1 w1 r1 e1=>?_)⟩
 split at e1
 .obtain⟨u,v,rfl,r1,r2⟩:=rva2 r1;exact⟨u,v,rfl,e1.nxh w1 (((en.stp s1).set i r1).set j r2)⟩
 .exact e1.elim
abbrev Itm:=Nat->Hh->Option (Option Val)
def itD(xs:List Val):Itm:=fun i _=>some xs[i]?
def itC(r:Rf):Itm:=fun i h=>match h.get r with
 | some (.lst xs)=>some xs[i]?
 | _=>none
def fy(p:Pm)(J:It)(m:Rf->Addr)(h:Hh)(G H:Hp)(it:Itm):Prop:=∀ i m' h' G' H',Stw m h G m' h' G'->(∀ b o u,H b=some (.frz o u)->H' b=some (.frz o u))->Wo p m' h' G' H'->match it i h' with
 | some (some x)=>J.go i H'/\∀ u H2,J.yld i H' u H2->∃ G2,Stp m' h' G' H' m' h' G2 H2/\Wo p m' h' G2 H2/\Rv p m' h'.has G2 u x
 | some none=>J.stop i H'
 | none=>True
structure Wk where
 it:Itm
 n:Nat
def SI(C:Ct)(tg iter:Expr)(f:Sl->Hh->Res Wk):Prop:=∃ t:WX->TI,(∀ W X,Good C W X->PI X tg iter (t W))/\∀ W σ δ m h G H (R:It->Hp->Prop),En C.p m h G σ δ->Wo C.p m h G H ->
 ao C.p (fun m h G (J:It×Hp) (k:Wk)=>fy C.p J.1 m h G J.2 k.it) m h G H W σ (fun J H'=>J.2=H'->R J.1 H') (f δ h)->t W σ H R
def kMo:Key->Val
 | .inl i=>.int i
 | .inr x=>.str x
def mf(kvs:List (Key×Val)):List Val:=kvs.map fun kv=>kMo kv.1
def iC(h:Hh)(x:Val):Option Wk:=match x with
 | .dct kvs=>some ⟨itD (mf kvs),kvs.length⟩
 | .str z=>some ⟨itD (z.cps.toList.map fun c=>.str ⟨#[c]⟩),z.cps.toList.length⟩
 | .ref r=>match h.get r with
  | some (.lst xs)=>some ⟨itC r,xs.length⟩
  | some (.ldc kvs)=>some ⟨itD (mf kvs),kvs.length⟩
  | _=>none
 | x=>match rdQ h x with
  | some xs=>some ⟨itD xs,xs.length⟩
  | none=>none
def mWk(f:Sl->Hh->Res Val):Sl->Hh->Res Wk:=fun δ h=>(f δ h).bind fun x h1=>ofO (iC h1 x) h1
theorem fG{p:Pm}{m:Rf->Addr}{h:Hh}{G H:Hp}{a:Addr}{us:List V}{xs:List Val}(hs:∀ H',Same G H'->SqL p.K H' a us)(r:RvA p m h.has G us xs):fy p (Itl p.K a) m h G H (itD xs):=fun i m' h' G' H' s _ w=>by
 have q:=hs H' (s.gg.trans w.gh);have r':=RvA.stw s r;unfold itD
 cases e:xs[i]? with
 | none =>
  refine⟨us,q,?_⟩;rw [r.len];exact List.getElem?_eq_none_iff.mp e
 | some x =>
  obtain⟨v,h1,h2⟩:=r'.at e;exact⟨⟨us,v,q,h1⟩,fun u H2 y=>by
   obtain⟨e1,e2⟩:=y;subst e1;have:=e2 us q;rw [h1] at this; cases this;exact⟨G',.refl,w,h2⟩⟩
theorem n8{p:Pm}{m:Rf->Addr}{h:Hh}{G H:Hp}{a:Addr}{us:List V}{xs:List Val}(hs:∀ H',Same G H'->SqT p.K H' a us)(r:RvA p m h.has G us xs):fy p (Itt p.K a) m h G H (itD xs):=fun i m' h' G' H' s _ w=>by
 have q:=hs H' (s.gg.trans w.gh);have r':=RvA.stw s r;unfold itD
 cases e:xs[i]? with
 | none =>
  refine⟨us,q,?_⟩;rw [r.len];exact List.getElem?_eq_none_iff.mp e
 | some x =>
  obtain⟨v,h1,h2⟩:=r'.at e;exact⟨⟨us,v,q,h1⟩,fun u H2 y=>by
   obtain⟨e1,e2⟩:=y;subst e1;have:=e2 us q;rw [h1] at this; cases this;exact⟨G',.refl,w,h2⟩⟩
theorem lg{p:Pm}{m:Rf->Addr}{h:Hh}{G H:Hp}{r:Rf}(hr:h.has r):fy p (Itl p.K (m r)) m h G H (itC r):=fun i m' h' G' H' s _ w=>by
 unfold itC
 split
 .rename_i x hx
  split at hx
  .rename_i xs hc
   cases hx':xs[i]? with
   | none=>rw [hx'] at hx; cases hx
   | some y =>
    rw [hx'] at hx; cases hx;obtain⟨_,_,o,h3,h4⟩:=w.cel _ _ hc;rw [(s.mm r hr).2] at h3
    cases h4 with
    | lst h4 =>
     obtain⟨v,h5,h6⟩:=h4.at hx';refine⟨⟨_,v,SqL.of h3,h5⟩,fun u H2 y=>?_⟩;obtain⟨e1,e2⟩:=y;subst e1;have:=e2 _ (SqL.of h3);rw [h5] at this; cases this;exact⟨G',.refl,w,h6⟩
  .cases hx
 .rename_i hx
  split at hx
  .rename_i xs hc
   cases hx':xs[i]? with
   | some y=>rw [hx'] at hx; cases hx
   | none =>
    obtain⟨_,_,o,h3,h4⟩:=w.cel _ _ hc;rw [(s.mm r hr).2] at h3
    cases h4 with
    | lst h4=>exact⟨_,SqL.of h3,by rw [h4.len]; exact List.getElem?_eq_none_iff.mp hx'⟩
  .cases hx
 .trivial
theorem tj{p:Pm}{m:Rf->Addr}{h:Hh}{G H:Hp}{z:Str}:fy p (Its z) m h G H (itD (z.cps.toList.map fun c=>.str ⟨#[c]⟩)):=fun i m' h' G' H' s _ w=>by
 unfold itD;rw [List.getElem?_map]
 cases e:z.cps.toList[i]? with
 | none =>
  show z.cps.size<=i;rw [<- Array.length_toList];exact List.getElem?_eq_none_iff.mp e
 | some c =>
  have hi:i < z.cps.size:=by rw [<- Array.length_toList]; exact(List.getElem?_eq_some_iff.mp e).1
  refine⟨hi,fun u H2 y=>?_⟩;obtain⟨e1,c',e2,e3⟩:=y;subst e1; subst e3;have:c'=c:=by
   rw [Array.getElem?_toList] at e;rw [e2] at e; cases e; rfl
  rw [this];exact⟨G',.refl,w,.str _⟩
theorem kMo_ok{p:Pm}{m:Rf->Addr}{hs:Rf->Prop}{G:Hp}(k:Key):Rv p m hs G (kV k) (kMo k):=by
 cases k
 .exact .int _
 .exact .str _
theorem qT{p:Pm}{m:Rf->Addr}{hs:Rf->Prop}{G:Hp}{κ : Type}:∀ {vs:List (κ×V)} {ds:List (κ×Val)},Rkv p m hs G vs ds->∀ i:Nat,(ds[i]?=none->vs[i]?=none)/\∀ k x,ds[i]?=some (k,x)->∃ v,vs[i]?=some (k,v)/\Rv p m hs G v x
 | _,_,.nil=>fun i=>⟨fun _=>rfl,fun k x e=>by simp at e⟩
 | _,_,.cons (a:=a) (b:=b) h t=>fun i=>by
  cases i with
  | zero=>exact⟨fun e=>by simp at e,fun k x e=>by
    have e:b=(k,x):=by simpa using e
    subst e;exact⟨a.2,by obtain⟨a1,a2⟩:=a; obtain⟨h1,h2⟩:=h; have h1:a1=k:=h1; subst h1; rfl,h.2⟩⟩
  | succ i=>simpa using qT t i
theorem lb{p:Pm}{m:Rf->Addr}{h:Hh}{G H:Hp}{a:Addr}{o:Obj}{vs:List (Key×V)}{ds:List (Key×Val)}(hf:H a=some (.frz o (.dK vs)))(r:Rkv p m h.has G vs ds):fy p (Itk a o vs) m h G H (itD (mf ds)):=fun i m' h' G' H' s fz w=>by
 have q:=fz _ _ _ hf;obtain⟨r1,r2⟩:=qT r i;unfold itD mf;rw [List.getElem?_map]
 cases e:ds[i]? with
 | none=>exact⟨q,List.getElem?_eq_none_iff.mp (r1 e)⟩
 | some kx =>
  obtain⟨k,x⟩:=kx;obtain⟨v,h1,h2⟩:=r2 k x e;refine⟨⟨q,(List.getElem?_eq_some_iff.mp h1).1⟩,fun u H2 y=>?_⟩;obtain⟨e1,k',v',e2,e3⟩:=y;subst e1; subst e3;rw [h1] at e2; cases e2;exact⟨G',.refl,w,kMo_ok _⟩
def uH(K:PySem.W.Frag)(te:TE):TI:=fun σ H R=>((iList K te σ H R\/iTup K te σ H R)\/iStr te σ H R)\/iKeys te σ H R
theorem pi_any{X:Cx}{te:TE}(h:PE X e te)(K:PySem.W.Frag)(hK:X.K=K):PI X tg e (uH K te):=PI.or (PI.or (PI.or (rg K h hK) (t6 K h hK)) (pi_str h)) (pi_keys h)
theorem da(ha:SE C e fa):SI C tg e (mWk fa):=by
 obtain⟨ta,pa,sa⟩:=ha;refine⟨fun W=>uH C.p.K (ta W),fun W X g=>pi_any (pa W X g) C.p.K g.K,fun W σ δ m h G H R en w e=>?_⟩;unfold mWk at e
 cases hr:fa δ h with
 | err=>rw [hr] at e; exact e.elim
 | exc c fs h'=>rw [hr] at e; exact .inl (.inl (.inl (sa W σ δ m h G H _ en w (by rw [hr]; exact e))))
 | ok x h1 =>
  rw [hr] at e;have e:ao C.p (fun m h G (J:It×Hp) (k:Wk)=>fy C.p J.1 m h G J.2 k.it) m h G H W σ (fun J H'=>J.2=H'->R J.1 H') (ofO (iC h1 x) h1):=e;have sq:∀ xs,rdQ h1 x=some xs->iC h1 x=some ⟨itD xs,xs.length⟩->(∃ ys,x = .lst ys)\/(∃ ys,x = .scr ys)\/(∃ ys,x = .tup ys)\/(∃ ys,x = .kt ys)->uH C.p.K (ta W) σ H R:=fun xs hx hw hk=>by
   rw [hw] at e;have fin:∀ m1 G1 u H1,Stp m h G H m1 h1 G1 H1->Wo C.p m1 h1 G1 H1->Rv C.p m1 h1.has G1 u x->∀ J:It,fy C.p J m1 h1 G1 H1 (itD xs)->R J H1:=fun m1 G1 u H1 s1 w1 r1 J sj=>(ao.here (u:=(J,H1)) (ao.after s1 e) w1 sj) rfl;have isT:(∃ ys,x = .tup ys)\/(∃ ys,x = .kt ys)->uH C.p.K (ta W) σ H R:=fun hk=>by
    refine .inl (.inl (.inr (sa W σ δ m h G H _ en w ?_)));rw [hr];intro m1 G1 u H1 s1 w1 r1;have f1:=fin m1 G1 u H1 s1 w1 r1;rcases hk with ⟨ys,rfl⟩ | ⟨ys,rfl⟩
    .cases r1 with
     | tup h3 h4=>cases hx; exact⟨_,rfl,⟨_,(h3.sq w1.gh)⟩,f1 _ (n8 (fun H' s=>h3.sq s) h4)⟩
    .cases r1 with
     | kt h3 h4=>cases hx; exact⟨_,rfl,⟨_,h3 H1⟩,f1 _ (n8 (fun H' s=>h3 H') h4)⟩
   rcases hk with ⟨ys,rfl⟩ | ⟨ys,rfl⟩ | hk | hk
   .refine .inl (.inl (.inl (sa W σ δ m h G H _ en w ?_)));rw [hr];intro m1 G1 u H1 s1 w1 r1;have f1:=fin m1 G1 u H1 s1 w1 r1
    cases r1 with
    | lst h3 h4=>cases hx; exact⟨_,rfl,⟨_,SqL.of (w1.gh _ _ h3)⟩,f1 _ (fG (fun H' s=>SqL.of (s _ _ h3)) h4)⟩
   .refine .inl (.inl (.inl (sa W σ δ m h G H _ en w ?_)));rw [hr];intro m1 G1 u H1 s1 w1 r1;have f1:=fin m1 G1 u H1 s1 w1 r1
    cases r1 with
    | scr h3=>cases hx; exact⟨_,rfl,⟨_,lh w1.gh h3⟩,f1 _ (fG (fun H' s=>lh s h3) fN)⟩
   .exact isT (.inl hk)
   .exact isT (.inr hk)
  cases x with
  | str z =>
   refine .inl (.inr (sa W σ δ m h G H _ en w ?_));rw [hr];intro m1 G1 u H1 s1 w1 r1
   cases r1
   exact⟨z,rfl,(ao.here (u:=(Its z,H1)) (ao.after s1 e) w1 tj) rfl⟩
  | lst ys=>exact sq ys rfl rfl (.inl ⟨_,rfl⟩)
  | scr ys=>exact sq _ rfl rfl (.inr (.inl ⟨_,rfl⟩))
  | tup ys=>exact sq ys rfl rfl (.inr (.inr (.inl ⟨_,rfl⟩)))
  | kt ys=>exact sq ys rfl rfl (.inr (.inr (.inr ⟨_,rfl⟩)))
  | ref r =>
   obtain⟨k,hk,e1⟩:∃ k,iC h1 (.ref r)=some k/\ao C.p (fun m h G (J:It×Hp) (k:Wk)=>fy C.p J.1 m h G J.2 k.it) m h G H W σ (fun J H'=>J.2=H'->R J.1 H') (.ok k h1):=by
    cases hw:iC h1 (.ref r) with
    | none=>rw [hw] at e; exact e.elim
    | some k=>rw [hw] at e; exact⟨k,rfl,e⟩
   have hk:(match h1.get r with | some (.lst xs)=>some ⟨itC r,xs.length⟩ | some (.ldc kvs)=>some ⟨itD (mf kvs),kvs.length⟩ | _=>none)=some k:=hk
   split at hk
   .rename_i xs hc
    cases hk
    refine .inl (.inl (.inl (sa W σ δ m h G H _ en w ?_)));rw [hr];intro m1 G1 u H1 s1 w1 r1;obtain⟨_,_,o,h3,h4⟩:=w1.cel _ _ hc
    cases r1 with
    | ref hh =>
     cases h4 with
     | lst h4=>exact⟨_,rfl,⟨_,SqL.of h3⟩,(ao.here (u:=(Itl C.p.K (m1 r),H1)) (ao.after s1 e1) w1 (lg hh)) rfl⟩
   .rename_i kvs hc
    cases hk
    refine .inr (sa W σ δ m h G H _ en w ?_);rw [hr];intro m1 G1 u H1 s1 w1 r1;obtain⟨_,_,o,h3,h4⟩:=w1.cel _ _ hc
    cases r1 with
    | ref hh =>
     cases h4 with
     | @ldc ob vs _ h4=>exact⟨_,ob,rfl,.inl ⟨vs,h3,(ao.here (u:=(Itk (m1 r) ob vs,H1)) (ao.after s1 e1) w1 (lb h3 h4)) rfl⟩⟩
   .cases hk
  | dct kvs =>
   refine .inr (sa W σ δ m h G H _ en w ?_);rw [hr];intro m1 G1 u H1 s1 w1 r1
   cases r1 with
   | @dct a ob vs _ h3 h4=>exact⟨_,ob,rfl,.inl ⟨vs,w1.gh _ _ h3,(ao.here (u:=(Itk a ob vs,H1)) (ao.after s1 e) w1 (lb (w1.gh _ _ h3) h4.pd)) rfl⟩⟩
  | non=>exact e.elim
  | bl _=>exact e.elim
  | int _=>exact e.elim
  | fn _=>exact e.elim
def itR(lo:Int)(n:Nat):Itm:=fun i _=>some (if i < n then some (.int (lo + i)) else none)
def wkR(xs:List Val):Option Wk:=match xs with
 | [.int n]=>if -(2 ^ 62)<=n/\n < 2 ^ 62 then some ⟨itR 0 n.toNat,n.toNat⟩ else none
 | _=>none
def uC(wk:List Val->Option Wk)(fs:Sl->Hh->Res (List Val)):Sl->Hh->Res Wk:=fun δ h=>(fs δ h).bind fun xs h1=>ofO (wk xs) h1
theorem tm{p:Pm}{m:Rf->Addr}{h:Hh}{G H:Hp}{lo:Int}{n:Nat}:fy p (Itr lo n) m h G H (itR lo n):=fun i m' h' G' H' s _ w=>by
 unfold itR
 split
 .rename_i x hx;have hx:(if i < n then some (Val.int (lo + i)) else none)=some x:=Option.some.inj hx
  split at hx
  .cases hx
   exact⟨by assumption,fun u H2 y=>by obtain⟨e1,e2⟩:=y; subst e1; subst e2; exact⟨G',.refl,w,.int _⟩⟩
  .cases hx
 .rename_i hx;have hx:(if i < n then some (Val.int (lo + i)) else none)=none:=Option.some.inj hx
  split at hx
  .cases hx
  .show n<=i; omega
 .trivial
theorem qI{q:Pos}(hl:C.sc.names.lookup ("range" : Str)=some .globalImplicit)(hm:C.p.mg "range" = none)(ha:SA C [e] fs)(hs:∀ env,starEach [e] env=[(false,eval e env)]:=by intro _; rfl):SI C tg (.Call (.Name "range" q) [e] [] pos) (uC wkR fs):=by
 obtain⟨ta,pa,sa⟩:=ha;refine⟨fun W=>iRng1 (ta W),fun W X g=>pi_range1 (g.gl hl) (by rw [g.mg]; exact hm) (pa W X g) (hs _),fun W σ δ m h G H R en w e=>sa W σ δ m h G H _ en w (ao.bind e fun xs h1 m1 G1 us H1 s1 w1 r1 e1=>?_)⟩;obtain⟨k,hk,e2⟩:=endO e1;unfold wkR at hk
 split at hk
 .obtain⟨u,rfl,ru⟩:=gy r1
  cases ru
  split at hk
  .rename_i n hn
   cases hk
   exact⟨n,rfl,hn.1,hn.2,(ao.here (u:=(Itr 0 n.toNat,H1)) e2 w1 tm) rfl⟩
  .cases hk
 .cases hk
end
def forM(it:Itm)(g:Val->Sl->Option Sl)(body:Sl->Hh->aC):Nat->Nat->Sl->Hh->aC
 | 0,i,δ,h=>match it i h with
  | some none=>.nx δ h
  | _=>.err
 | n + 1,i,δ,h=>match it i h with
  | some none=>.nx δ h
  | some (some x)=>match g x δ with
   | some δ1=>match body δ1 h with
    | .nx δ2 h2=>forM it g body n (i + 1) δ2 h2
    | .ct δ2 h2=>forM it g body n (i + 1) δ2 h2
    | .bk δ2 h2=>.nx δ2 h2
    | .rt v h2=>.rt v h2
    | .exc c fs δ2 h2=>.exc c fs δ2 h2
    | .err=>.err
   | none=>.err
  | none=>.err
def i4(f:Sl->Hh->Res Wk)(g:Val->Sl->Option Sl)(body:Sl->Hh->aC):Sl->Hh->aC:=fun δ h=>(f δ h).st δ fun k h1=>forM k.it g body k.n 0 δ h1
section
variable{C:Ct}{tg iter c:Expr}{pos:Pos}{fw:Sl->Hh->Res Wk}{g:Val->Sl->Option Sl}{vs:List Nat}{body:List Stmt}{f:Sl->Hh->aC}{ft:Sl->Hh->Res Bool}
theorem iG(hi:SI C tg iter fw)(hg:SG C tg vs g)(hb:SSs C body f)(hs:∀ env x,foldedSetIterable iter env x=pure x:=by intro _ _; rfl):SS C (.For tg iter body [] pos) (i4 fw g f):=by
 obtain⟨ti,pi,si⟩:=hi;obtain⟨gt,pg,sg,_,_⟩:=hg;obtain⟨tb,pb,sb⟩:=hb;refine⟨fun W=>tFor (ti W) gt (tb W),fun W X gd=>ps_for gd.pass gd.calm (pi W X gd) (pg W X gd) (pb W X gd) (hs _),fun W σ δ m h G H E en w e=>si W σ δ m h G H _ en w (bF.ex en e fun k h1 m1 G1 J H1 s1 w1 r1 e1=>?_)⟩;obtain⟨J,HJ⟩:=J;rintro rfl;refine⟨fun i n σ H=>∃ δ' m' h' G',Stp m1 h1 G1 HJ m' h' G' H/\Wo C.p m' h' G' H/\En C.p m' h' G' σ δ'/\bF C.p m' h' G' H W E (forM k.it g f n i δ' h'),⟨k.n,δ,m1,h1,G1,.refl,w1,en.stp s1,e1⟩,?_⟩;rintro i n σ2 H2 ⟨δ2,m2,h2,G2,s2,w2,en2,e2⟩;have src:=r1 i m2 h2 G2 H2 s2.w s2.fz w2
 cases hit:k.it i h2 with
 | none=>cases n <;> (unfold forM at e2; rw [hit] at e2; exact e2.elim)
 | some o =>
  cases o with
  | none =>
   rw [hit] at src;refine .inl ⟨src,?_⟩
   cases n <;> (unfold forM at e2; rw [hit] at e2; exact e2.nxh w2 en2)
  | some x =>
   rw [hit] at src
   cases n with
   | zero=>unfold forM at e2; rw [hit] at e2; exact e2.elim
   | succ n =>
    unfold forM at e2;rw [hit] at e2;dsimp only at e2;refine .inr ⟨src.1,fun σ H=>∃ δ' m' h' G',Stp m1 h1 G1 HJ m' h' G' H/\Wo C.p m' h' G' H/\En C.p m' h' G' σ δ'/\bF C.p m' h' G' H W E (forM k.it g f n (i + 1) δ' h'),fun σ' H' z=>⟨n,Nat.lt_succ_self n,z⟩,fun u H3 y=>?_⟩;obtain⟨G3,s3,w3,r3⟩:=src.2 u H3 y;have s23:=s2.trans s3
    cases hg:g x δ2 with
    | none=>rw [hg] at e2; exact e2.elim
    | some δ3 =>
     rw [hg] at e2;dsimp only at e2;refine sg m2 h2 G3 H3 σ2 δ2 u x δ3 _ w3 (en2.stp s3) r3 hg fun σ3 en3=>sb W σ3 δ3 m2 h2 G3 H3 _ en3 w3 ?_;have e3:=bF.after s3 e2
     cases hb:f δ3 h2 with
     | err=>rw [hb] at e3; exact e3
     | nx δ4 h4=>rw [hb] at e3; exact fun m' G' σ' H' s' w' en'=>⟨δ4,m',h4,G',s23.trans s',w',en',bF.after s' e3⟩
     | ct δ4 h4=>rw [hb] at e3; exact fun m' G' σ' H' s' w' en'=>⟨δ4,m',h4,G',s23.trans s',w',en',bF.after s' e3⟩
     | bk δ4 h4=>rw [hb] at e3; exact fun m' G' σ' H' s' w' en'=>e3 m' G' σ' H' s' w' en'
     | rt v h4=>rw [hb] at e3; exact e3
     | exc c fs δ4 h4=>rw [hb] at e3; exact e3
end
end M
namespace M
open PySem PySem.Spec PyProof.Rows L2 B
def Ct.blk(C:Ct)(scope:Scope):Ct:={ C with sc:=relS scope C.sc,fn:=fun x=>scope.names.lookup x == some .cell,tp:=false }
def W0:WX:=fun _ _ _ _=>False
theorem du{C:Ct}{W:WX}{X:Cx}(g:Good C W X)(scope:Scope)(s:Shared)(H:Hp)(A:Addr)(cl:List (Str×Addr))(fp:List Addr):Good (C.blk scope) W0 (X.blk s H scope (compEnvC scope cl A X.env) fp) where
 prog:=g.prog
 w:=g.w
 K:=g.K
 mg:=g.mg
 base:=g.base
 N:=g.N
 nd:=g.nd
 sc:=by
  show relabel scope X.env=relS scope C.sc;rw [<- g.sc]; rfl
 fn:=rfl
 calm:=g.calm
 room:=g.room
 gd:=g.gd
 pass:=.never
 takes:=takes0
 cd:=g.cd
 ql:=g.ql
 top:=fun z=>Bool.noConfusion z
theorem dB{p:Pm}{m m1:Rf->Addr}{h h1:Hh}{G H G1 H1:Hp}{q:Addr}{o:HO}(s:Stp m h G H m1 h1 G1 H1)(n:H q=none)(w:Wo p m1 h1 G1 H1)(no:¬ Own m1 h1 q)(gn:G1 q=none):Stp m h G H m1 h1 G1 (upd H1 q o)/\Wo p m1 h1 G1 (upd H1 q o):=by
 refine⟨⟨s.gg,s.mm,fun b u e nb=>by rw [upd_ne (ne_of_none e n)]; exact s.fr b u e nb,s.out,fun b hb=>by rw [upd_ne (iW n hb)]; exact s.dom b hb,fun b o' u e=>by rw [upd_ne (ne_of_none e n)]; exact s.fz b o' u e⟩,⟨mX w.gh gn,fun r c e=>?_,w.inj,fun r hr=>?_,w.tb⟩⟩
 .obtain⟨h2,h3,u,h4,h5⟩:=w.cel r c e;have hb:m1 r≠q:=fun z=>no ⟨r,cm e,z⟩;exact⟨h2,h3,u,by rw [upd_ne hb]; exact h4,h5⟩
 .have hb:m1 r≠q:=fun z=>no ⟨r,hr,z⟩;rw [upd_ne hb]; exact w.dom r hr
theorem oF{p:Pm}{m m1:Rf->Addr}{h h1:Hh}{G H G1 H1:Hp}{q:Addr}{o:HO}(s:Stp m h G H m1 h1 G1 H1)(n:H q=none)(w:Wo p m1 h1 G1 H1)(no:¬ Own m1 h1 q)(gn:G1 q=none)(ho:H1 q=some o):Stp m h G H m1 h1 (upd G1 q o) H1/\Wo p m1 h1 (upd G1 q o) H1:=by
 have f:=pI.freeze w.gh gn ho;refine⟨⟨s.gg.trans f.1,s.mm,s.fr,fun b hb nb=>⟨(s.out b hb nb).1,fun g=>by rw [upd_ne (iW n hb)]; exact(s.out b hb nb).2 g⟩,s.dom,s.fz⟩,⟨f.2,fun r c e=>?_,w.inj,w.dom,w.tb⟩⟩;obtain⟨h2,h3,u,h4,h5⟩:=w.cel r c e;have hb:m1 r≠q:=fun z=>no ⟨r,cm e,z⟩;exact⟨by rw [upd_ne hb]; exact h2,h3,u,h4,h5.mono (fun _ h=>⟨h,rfl⟩) f.1⟩
theorem iu{p:Pm}{m m1:Rf->Addr}{h h1 h2:Hh}{G H G1 H1:Hp}{q:Addr}{o:HO}{r:Rf}{c:Cel}(s:Stp m h G H m1 h1 G1 H1)(n:H q=none)(w:Wo p m1 h1 G1 H1)(no:¬ Own m1 h1 q)(gn:G1 q=none)(ho:H1 q=some o)
  (hh:∀ r',h2.has r'↔h1.has r'\/r'=r) (hr:¬ h1.has r) (hg:∀ r',h1.has r'->h2.get r'=h1.get r') (hgr:h2.get r=some c) (hn:c.nl=true) (hc:dj p m1 h1.has G1 o c):Stp m h G H (upm m1 r q) h2 G1 H1/\Wo p (upm m1 r q) h2 G1 H1:=by
 have hm:∀ r',h1.has r'->h2.has r'/\upm m1 r q r'=m1 r':=fun r' h'=>⟨(hh r').mpr (.inl h'),by unfold upm; rw [if_neg (fun z:r'=r=>hr (by rw [<- z]; exact h'))]⟩;have hq:upm m1 r q r=q:=by unfold upm; rw [if_pos rfl]
 have hne:∀ r',h1.has r'->m1 r'≠q:=fun r' h' z=>no ⟨r',h',z⟩;refine⟨⟨s.gg,fun r' h'=>⟨(hm r' (s.mm r' h').1).1,(hm r' (s.mm r' h').1).2.trans (s.mm r' h').2⟩,s.fr,fun b hb nb=>⟨fun⟨r',h3,h4⟩=>?_,(s.out b hb nb).2⟩,s.dom,s.fz⟩,⟨w.gh,fun r' x hx=>?_,fun r1 r2 h3 h4 e=>?_,fun r' h'=>?_,fun k hk=>⟨(hm _ (w.tb k hk).1).1,(hm _ (w.tb k hk).1).2.trans (w.tb k hk).2⟩⟩⟩
 .rcases (hh r').mp h3 with h5 | rfl
  .rw [(hm r' h5).2] at h4; exact(s.out b hb nb).1 ⟨r',h5,h4⟩
  .rw [hq] at h4; exact hb (by rw [<- h4]; exact n)
 .rcases (hh r').mp (cm hx) with h5 | rfl
  .rw [(hm r' h5).2];rw [hg r' h5] at hx;obtain⟨h6,n1,u,h7,h8⟩:=w.cel r' x hx;exact⟨h6,n1,u,h7,h8.mono hm (Same.refl _)⟩
  .rw [hgr] at hx; cases hx;rw [hq];exact⟨gn,hn,o,ho,hc.mono hm (Same.refl _)⟩
 .rcases (hh r1).mp h3 with h3 | rfl
  .rcases (hh r2).mp h4 with h4 | rfl
   .rw [(hm r1 h3).2,(hm r2 h4).2] at e; exact w.inj _ _ h3 h4 e
   .rw [(hm r1 h3).2,hq] at e; exact absurd e (hne r1 h3)
  .rcases (hh r2).mp h4 with h4 | rfl
   .rw [(hm r2 h4).2,hq] at e; exact absurd e.symm (hne r2 h4)
   .rfl
 .rcases (hh r').mp h' with h5 | rfl
  .rw [(hm r' h5).2]; exact w.dom r' h5
  .rw [hq,ho]; simp
theorem ub{p:Pm}{m m1:Rf->Addr}{h h1:Hh}{G H G1 H1:Hp}{q:Addr}{vs:List V}{xs:List Val}{md:Md}{W:WX}{σ : L2.St}{Q:VK}(e:ao p (rV p) m h G H W σ Q (bQ md xs h1))(s:Stp m h G H m1 h1 G1 H1)(n:H q=none)(w:Wo p m1 h1 G1 H1)(no:¬ Own m1 h1 q)(gn:G1 q=none)
  (ho:H1 q=some (.lst vs)) (r:RvA p m1 h1.has G1 vs xs):Q (.ref q) H1:=by
 cases md with
 | dat =>
  have f:=oF s n w no gn ho;exact e m1 _ _ _ f.1 f.2 (.lst upd_same (r.mono (fun _ h=>⟨h,rfl⟩) (e6 gn)))
 | loc =>
  unfold bQ at e;dsimp only at e
  split at e
  .rename_i hn;have f:=iu (c:=.lst xs) s n w no gn ho (fun _=>cG) (Nat.lt_irrefl _) (fun _ h=>gK h) de hn (.lst r);have hq:upm m1 (.loc h1.loc.length) q (.loc h1.loc.length)=q:=by unfold upm; rw [if_pos rfl]
   have rr:Rv p (upm m1 (.loc h1.loc.length) q) (h1.cX (.lst xs)).has G1 (.ref (upm m1 (.loc h1.loc.length) q (.loc h1.loc.length))) (.ref (.loc h1.loc.length)):=.ref (cG.mpr (.inr rfl));rw [hq] at rr;exact e _ _ _ _ f.1 f.2 rr
  .exact e.elim
 | glo i =>
  unfold bQ at e;dsimp only at e
  split at e
  .rename_i hn;have f:=iu (r:=.glo i (h1.glo i).length) (h2:=h1.aY i (.lst xs)) (c:=.lst xs) s n w no gn ho (fun _=>cg) (Nat.lt_irrefl _) (fun _ h=>gL h) dg hn (.lst r);have hq:upm m1 (.glo i (h1.glo i).length) q (.glo i (h1.glo i).length)=q:=by unfold upm; rw [if_pos rfl]
   have rr:Rv p (upm m1 (.glo i (h1.glo i).length) q) (h1.aY i (.lst xs)).has G1 (.ref (upm m1 (.glo i (h1.glo i).length) q (.glo i (h1.glo i).length))) (.ref (.glo i (h1.glo i).length)):=.ref (cg.mpr (.inr rfl));rw [hq] at rr;exact e _ _ _ _ f.1 f.2 rr
  .exact e.elim
def lcM(it:Itm)(g:Val->Sl->Option Sl)(ft:Sl->Hh->Res Bool)(fe:Sl->Hh->Res Val)(δ0:Sl):Nat->Nat->Hh->Res (List Val)
 | 0,i,h=>match it i h with
  | some none=>.ok [] h
  | _=>.err
 | n + 1,i,h=>match it i h with
  | some none=>.ok [] h
  | some (some x)=>match g x δ0 with
   | some δ1=>match ft δ1 h with
    | .ok true h1=>match fe δ1 h1 with
     | .ok y h2=>(lcM it g ft fe δ0 n (i + 1) h2).bind fun ys h3=>.ok (y :: ys) h3
     | _=>.err
    | .ok false h1=>lcM it g ft fe δ0 n (i + 1) h1
    | _=>.err
   | none=>.err
  | none=>.err
def ju:Sl->Hh->Res Bool:=fun _ h=>.ok true h
def mLc(md:Md)(vs:List Nat)(fw:Sl->Hh->Res Wk)(g:Val->Sl->Option Sl)(ft:Sl->Hh->Res Bool)(fe:Sl->Hh->Res Val):Sl->Hh->Res Val:=fun δ h =>
 (fw δ h).bind fun k h1=>if k.n<=1000000 then(lcM k.it g ft fe (cU δ vs) k.n 0 h1).bind fun xs h2=>bQ md xs h2 else .err
def STs(C:Ct)(es:List Expr)(f:Sl->Hh->Res Bool):Prop:=∃ t:WX->TT,(∀ W X,Good C W X->PTs X es (t W))/\Snd C.p rE t f
section
variable{C:Ct}{elt tg iter c:Expr}{ifs:List Expr}{scope:Scope}{own:List (Str×Nat)}{pos:Pos}{fw:Sl->Hh->Res Wk}{g:Val->Sl->Option Sl}{ft:Sl->Hh->Res Bool}{fe fk:Sl->Hh->Res Val}
theorem cW:STs C [] ju:=⟨fun _=>tYes,fun _ _ _=>pts_nil,fun W σ δ m h G H Q en w e=>ao.here e w rfl⟩
theorem sZ(h:ST C c ft):STs C [c] ft:=by
 obtain⟨t,p1,s⟩:=h;exact⟨t,fun W X g=>pts_one (p1 W X g),s⟩
theorem qD(md:Md){ti:WX->TI}{gt:TG}{tt:WX->TT}{te:WX->TE}{vs:List Nat}(si:∀ W σ δ m h G H (R:It->Hp->Prop),En C.p m h G σ δ->Wo C.p m h G H->ao C.p (fun m h G (J:It×Hp) (k:Wk)=>fy C.p J.1 m h G J.2 k.it) m h G H W σ (fun J H'=>J.2=H'->R J.1 H') (fw δ h)->ti W σ H R)
  (sg:SndT C.p gt g) (og:GOnly gt vs) (mg:GMono gt) (stt:Snd C.p rE tt ft) (se:Snd C.p (rV C.p) te fe):Snd C.p (rV C.p) (fun W=>tLc (ti W) gt (tt W0) (te W0) vs) (mLc md vs fw g ft fe):=fun W σ δ m h G H Q en w e=>by
 refine si W σ δ m h G H _ en w (ao.bind e fun k h1 m1 G1 J H1 s1 w1 src e1=>?_);obtain⟨J,HJ⟩:=J;rintro rfl D hD
 split at e1
 .rename_i hk;have gD:=w1.gh.free hD;have no:=w1.fresh hD;have en1:=(en.stp s1).wipe vs;refine⟨fun i n H2=>∃ acc accV m' h' G',Stp m1 h1 G1 HJ m' h' G' H2/\Wo C.p m' h' G' H2/\H2 D=some (.lst accV)/\¬ Own m' h' D/\G' D=none/\RvA C.p m' h'.has G' accV acc/\acc.length + n<=1000000 /\
   ao C.p (rV C.p) m1 h1 G1 HJ W σ Q ((lcM k.it g ft fe (cU δ vs) n i h').bind fun ys h2=>bQ md (acc ++ ys) h2),⟨k.n,[],[],m1,h1,G1,(dB .refl hD w1 no gD).1,(dB .refl hD w1 no gD).2,upd_same,no,gD,.nil,by simpa using hk,e1⟩,?_⟩
  rintro i n H2 ⟨acc,accV,m2,h2,G2,s2,w2,eD,no2,gD2,ra,hl,e2⟩;have srci:=src i m2 h2 G2 H2 s2.w s2.fz w2
  cases hit:k.it i h2 with
  | none=>cases n <;> (unfold lcM at e2; rw [hit] at e2; exact e2.elim)
  | some o =>
   cases o with
   | none =>
    rw [hit] at srci;refine .inl ⟨srci,?_⟩;have e3:ao C.p (rV C.p) m1 h1 G1 HJ W σ Q (bQ md acc h2):=by
     cases n <;> (unfold lcM at e2; rw [hit] at e2; have e2:ao C.p (rV C.p) m1 h1 G1 HJ W σ Q (bQ md (acc ++ []) h2):=e2; rw [List.append_nil] at e2; exact e2)
    exact ub e3 s2 hD w2 no2 gD2 eD ra
   | some x =>
    rw [hit] at srci
    cases n with
    | zero=>unfold lcM at e2; rw [hit] at e2; exact e2.elim
    | succ n =>
     unfold lcM at e2;rw [hit] at e2;dsimp only at e2;refine .inr ⟨srci.1,fun H2=>∃ acc accV m' h' G',Stp m1 h1 G1 HJ m' h' G' H2/\Wo C.p m' h' G' H2/\H2 D=some (.lst accV)/\¬ Own m' h' D/\G' D=none/\RvA C.p m' h'.has G' accV acc/\acc.length + n<=1000000 /\
      ao C.p (rV C.p) m1 h1 G1 HJ W σ Q ((lcM k.it g ft fe (cU δ vs) n (i + 1) h').bind fun ys h2=>bQ md (acc ++ ys) h2),fun H' z=>⟨n,Nat.lt_succ_self n,z⟩,fun u H3 y=>?_⟩
     obtain⟨G3,s3,w3,r3⟩:=srci.2 u H3 y;have s23:=s2.trans s3;have eD3:=s3.fr D _ eD no2;have o3:=s3.out D (by rw [eD]; simp) no2
     cases hg:g x (cU δ vs) with
     | none=>rw [hg] at e2; exact e2.elim
     | some δ3 =>
      rw [hg] at e2;dsimp only at e2;have en3:En C.p m2 h2 G3 (L2.wipe σ vs) (cU δ vs):=en1.stp s23;refine mg _ _ _ _ _ (fun σ4 H4 z=>?_) (og _ _ _ _ (sg m2 h2 G3 H3 (L2.wipe σ vs) (cU δ vs) u x δ3 (fun σ4 H4=>En C.p m2 h2 G3 σ4 δ3/\H4=H3) w3 en3 r3 hg fun σ' en'=>⟨en',rfl⟩));obtain⟨⟨en4,rfl⟩,we⟩:=z;rw [show L2.wipe (L2.wipe σ vs) vs=L2.wipe σ vs by
       refine List.ext_getElem? fun k=>?_;rw [dU,dU,wipe_length]; split <;> rfl] at we
      refine⟨we,stt W0 σ4 δ3 m2 h2 G3 H4 _ en4 w3 ?_⟩
      cases hf:ft δ3 h2 with
      | err=>rw [hf] at e2; exact e2.elim
      | exc c fs h5=>rw [hf] at e2; exact e2.elim
      | ok b h5 =>
       intro m5 G5 b' H5 s5 w5 r5;have r5:b'=b:=r5;subst r5;rw [hf] at e2;have s25:=s23.trans s5;have eD5:=s5.fr D _ eD3 o3.1;have o5:=s5.out D (by rw [eD3]; simp) o3.1
       cases b'
       .rw [if_neg (by simp)];exact⟨acc,accV,m5,h5,G5,s25,w5,eD5,o5.1,o5.2 (o3.2 gD2),RvA.stp (s3.trans s5) ra,by omega,e2⟩
       .rw [if_pos rfl];refine se W0 σ4 δ3 m5 h5 G5 H5 _ (en4.stp s5) w5 ?_
        cases hx:fe δ3 h5 with
        | err=>dsimp only at e2; rw [hx] at e2; exact e2.elim
        | exc c fs h6=>dsimp only at e2; rw [hx] at e2; exact e2.elim
        | ok yv h6 =>
         intro m6 G6 yu H6 s6 w6 r6;dsimp only at e2;rw [hx] at e2;have s26:=s25.trans s6;have eD6:=s6.fr D _ eD5 o5.1;have o6:=s6.out D (by rw [eD5]; simp) o5.1;have gD6:=o6.2 (o5.2 (o3.2 gD2));have ra6:=RvA.stp ((s3.trans s5).trans s6) ra;have om:=dB (o:=.lst (accV ++ [yu])) s26 hD w6 o6.1 gD6;refine⟨accV,eD6,by rw [ra6.len]; exact eh (by omega),acc ++ [yv],accV ++ [yu],m6,h6,G6,om.1,om.2,upd_same,o6.1,gD6,ra6.app (.cons r6 .nil),by simp; omega,?_⟩;have e3:ao C.p (rV C.p) m1 h1 G1 HJ W σ Q (((lcM k.it g ft fe (cU δ vs) n (i + 1) h6).bind fun ys h3=>.ok (yv :: ys) h3).bind fun ys h2=>bQ md (acc ++ ys) h2):=e2
         cases hl:lcM k.it g ft fe (cU δ vs) n (i + 1) h6 with
         | err=>rw [hl] at e3; exact e3
         | exc c fs h7=>rw [hl] at e3; exact e3
         | ok ys h7 =>
          rw [hl] at e3;have e3:ao C.p (rV C.p) m1 h1 G1 HJ W σ Q (bQ md (acc ++ yv :: ys) h7):=e3;show ao C.p (rV C.p) m1 h1 G1 HJ W σ Q (bQ md ((acc ++ [yv]) ++ ys) h7);rw [List.append_assoc]; exact e3
 .exact e1.elim
theorem gS(md:Md)(own:List (Str×Nat))(hi:SI C tg iter fw)(ok:blkC C.N C.sc scope own=true)(hg:SG (C.blk scope) tg (own.map (·.2)) g)(ht:STs (C.blk scope) ifs ft)(he:SE (C.blk scope) elt fe)(hs:∀ env x,foldedSetIterable iter env x=pure x:=by intro _ _; rfl) :
  SE C (.ListComp elt [⟨tg,iter,ifs,0⟩] scope pos) (mLc md (own.map (·.2)) fw g ft fe):=by
 obtain⟨ti,pi,si⟩:=hi;obtain⟨gt,pg,sg,og,mg⟩:=hg;obtain⟨tt,pt,stt⟩:=ht;obtain⟨te,pe,se⟩:=he;exact⟨_,fun W X gd=>pe_lc gd.calm gd.nd (pi W X gd) (by rw [gd.N,gd.sc]; exact blkOk_by ok) (fun s H A cl fp=>pg W0 _ (du gd scope s H A cl fp)) (fun s H A cl fp=>pt W0 _ (du gd scope s H A cl fp)) (fun s H A cl fp=>pe W0 _ (du gd scope s H A cl fp)) (hs _),qD md si sg og mg stt se⟩
theorem qA(md:Md)(own:List (Str×Nat)){i:Nat}{y:Str}{py spos:Pos}(hy:C.N[i]?=some y)(hyl:C.sc.names.lookup y=some .local)(hk:C.sc.kind = .function)(hl:(py.line == pos.line)=true)(hany:(scope.names.any fun(n,k)=>n == y && (k == .local || k == .cell))=false)
  (hi:SI C tg iter fw) (ok:blkC C.N C.sc scope own=true) (hg:SG (C.blk scope) tg (own.map (·.2)) g) (ht:STs (C.blk scope) ifs ft) (he:SE (C.blk scope) elt fe) (hs:∀ env x,foldedSetIterable iter env x=pure x:=by intro _ _; rfl) :
  SS C (.Assign [.Name y py] (.ListComp elt [⟨tg,iter,ifs,0⟩] scope pos) spos) (aI (mLc md (own.map (·.2)) fw g ft fe) (tgN i)):=by
 obtain⟨ti,pi,si⟩:=hi;obtain⟨gt,pg,sg,og,mg⟩:=hg;obtain⟨tt,pt,stt⟩:=ht;obtain⟨te,pe,se⟩:=he;refine⟨_,fun W X gd=>ps_setLc gd.calm gd.nd (by rw [gd.N]; exact hy) (by rw [gd.sc]; exact hyl) (sw_true (by rw [gd.sc]; exact hk) (by rw [gd.sc]; exact hyl) hl hany) (pi W X gd) (by rw [gd.N,gd.sc]; exact blkOk_by ok) (fun s H A cl fp=>pg W0 _ (du gd scope s H A cl fp)) (fun s H A cl fp=>pt W0 _ (du gd scope s H A cl fp)) (fun s H A cl fp=>pe W0 _ (du gd scope s H A cl fp)) (hs _),
  oj (qD md si sg og mg stt se) fun m h G H σ δ u x δ' Q w en r e q=>by cases e; exact q _ (en.set i r)⟩
end
end M
namespace M
open PySem PySem.Spec PyProof.Rows L2 B
structure FnG(P:Program)(w:World)(K:PySem.W.Frag)(mg:Str->Option Value)(base:Heap)(CX:CXT)(k:Nat)(f:Addr)(fd:FuncData)(ps:List Str)(sp:Sp):Prop where
 len:∀ vs H Q E,sp vs H Q E->vs.length=ps.length
 run:∀ (A:Around) (outer:List Env) (s:Shared) (H:Hp) (args:Args) (us:List Value) (vs:List V) (Q:VK) (E:XK),Room k A->A.guards=some []->Env0 P w K mg base A outer s H->BindsTo s fd args (ps.zip us)->Vals vs us->sp vs H Q E->codeAny (model P w) A (.call (.ref f) args) (CR CX outer P w H s Q E) s
theorem r7{CX:CXT}{P:Program}{w:World}{K:PySem.W.Frag}{mg:Str->Option Value}{base:Heap}{x qual:Str}{params:Arguments}{body:List Stmt}{scope:Scope}{dvs:List V}{kws:List (Str×V)}{f:Addr}{fd:FuncData}{N ps:List Str}{k:Nat}{sp:Sp}
  (F:FunD K x qual params body scope dvs kws f fd) (S:FnScope N ps scope) (len:∀ vs H Q E,sp vs H Q E->vs.length=ps.length)
  (hbody:∀ (cdv:Value) (A:Around) (outer:List Env) (s:Shared) (H:Hp) (vs:List V) (Q:VK) (E:XK),(∀ fd',gs K f fd'->cdv=fd'.code)->Room k (A.deeper (envOfC qual scope s.heap.objs.size f cdv))->A.guards=some []->sp vs H Q E ->
   ∃ t,PSs (cxOf CX P w K mg base N qual scope f cdv A outer s H E) body t/\t { nx:=fun _ H'=>Q .non H',rt:=Q } (start N vs) H):FnG P w K mg base CX (k + 1) f fd ps sp:=by
 obtain⟨oc,od,dV,kV,doc,pm,an,cdv,ct,osl,rfl,lk,hcd,_,_⟩:=F.ex;refine⟨len,fun A outer s H args us vs Q E hr hgd e0 hbd r hsp=>?_⟩;have old:∀ b o,base.get? b=some o->s.heap.get? b=some o:=fun b o e=>(e0.bs b o e).1;have KX:K.In s.heap:=e0.mod.kin.keeps old;have kinds:∀ y∈ps.zip us,scope.names.lookup y.1=some .local\/(scope.names.lookup y.1=some .cell/\((cellsFrom (s.heap.objs.size + 1) scope.names []).lookup y.1).isSome=true):=by
  rintro⟨z,v⟩ hy;exact(S.par z (List.of_mem_zip hy).1).imp id fun q=>⟨q,PySem.W.cellsFrom_some _ _ _ (.inl q)⟩
 refine codeAny_call_function hr.depth (KX _ _ lk) rfl S.co S.gen rfl (PySem.W.codeRec_of KX hcd) (hbd _ _ _ _ (wpAny_newFunctionEnv_cells S.kind kinds fun env he s1 y=>?_))
 cases he
 refine⟨(e0.mod.nolimit.keeps old).keeps y.toInCall.keep,codeAny_func ?_⟩;obtain⟨t,ht,hq⟩:=hbody cdv A outer s H vs Q E (fun fd' ⟨_,_,_,z⟩=>by rw [lk] at z; cases z; rfl) (hr.deeper _) hgd hsp;refine wpAny_mono (ht.run [] s1 (start N vs) H _ (inv_start S hr.hd e0 (len _ _ _ _ hsp) r y) hq) (fun fl s' hs=>?_) fun _ _ z=>z
 cases fl with
 | brk=>obtain⟨_,_,_,z⟩:=hs; cases z
 | cont=>obtain⟨_,_,_,z⟩:=hs; cases z
 | next=>obtain⟨_,H',J,z⟩:=hs; exact⟨.non,H',J.os,J.bare,J.base,J.hok,rfl,z⟩
 | ret u=>obtain⟨v,_,H',J,rv,z⟩:=hs; exact⟨v,H',J.os,J.bare,J.base,J.hok,rv,z⟩
section
variable{X:Cx}{CX:CXT}{k:Nat}{f:Addr}{fd:FuncData}{ps:List Str}{sp:Sp}{dvs:List V}{ds:List Value}{E:L2.St->XK}{x:Str}{p pos:Pos}{e:Expr}{es:List Expr}{t:TA}
theorem nM{pins:List (Addr×Obj)}{σ : L2.St}{H:Hp}{s:Shared}{Q:VK}(hx:PassesAt CX X σ (E σ))(I:Inv X pins σ H s):∀ r s',CR CX X.stack X.prog X.w H s Q (E σ) r s'->(match r with | .ok (.ret v)=>EP X pins σ Q v s' | .ok _=>False | .error e=>X.xe e s')
 | .error e,s',h=>hx pins H s e s' I h
 | .ok (.ret _),_,h=>I.after h
 | .ok .next,_,h=>h
 | .ok .brk,_,h=>h
 | .ok .cont,_,h=>h
theorem oy{pins:List (Addr×Obj)}{σ : L2.St}{H:Hp}{s:Shared}{Q:VK}{us:List Value}{vs:List V}(F:FnG X.prog X.w X.K X.mg X.base CX k f fd ps sp)(hr:Room k X.A)(hgd:X.A.guards=some [])(hb:Binds X.K fd ps ds)(hd:Vals dvs ds)(hx:PassesAt CX X σ (E σ))
  (I:Inv X pins σ H s) (r:Vals vs us) (h:sp (vs ++ dvs) H Q (E σ)):wpAny (model X.prog X.w) X.A (call (.ref f) us) (EP X pins σ Q) X.xe s:=by
 have r2:=r.append hd;exact wpAny_call (codeAny_mono (F.run X.A X.stack s H ⟨us,[]⟩ _ _ Q (E σ) hr hgd I.env0 (hb s us I.kIn (r2.length.symm.trans (F.len _ _ _ _ h))) r2 h) (nM hx I))
theorem pe_callG(F:FnG X.prog X.w X.K X.mg X.base CX k f fd ps sp)(hr:Room k X.A)(hgd:X.A.guards=some [])(hg:Gl X x)(hm:X.mg x=some (.ref f))(hk:PySem.W.keepIn X.K (.ref f)=true)(hb:Binds X.K fd ps ds)(hd:Vals dvs ds)(hx:∀ σ,PassesAt CX X σ (E σ))(ha:PA X (e :: es) t)
  (hdb:(x == ("__debug__" : Str))=false) (he:starEach (e :: es) X.env=(false,eval e X.env) :: starEach es X.env) (hpl:(backTo pos (starEach es X.env)).any (·.1)=false):PE X (.Call (.Name x p) (e :: es) [] pos) (tCallSD sp dvs E t) :=
 ⟨fun pins s σ H Q I h=>wpAny_Call_Name_kw (ld_glob I hg hm (PySem.W.callWith_K (h₀:=X.base) I.ok.mod.kin hk (thn (ha.run pos pins s σ H _ I h) fun us s1 ⟨vs,H1,I1,r,q⟩=>⟨I1.kIn,oy F hr hgd hb hd (hx σ) I1 r q⟩) he hpl) hdb)⟩
end
abbrev Calls:=Nat->List Val->Hh->Res Val
structure Df where
 np:Nat
 nl:Nat
 body:Calls->Sl->Hh->aC
 ps:List Str
 kw:List (Str×Val):=[]
def Hh.cut(h:Hh)(n:Nat):Hh:={ h with loc:=h.loc.take n }
def bP(n:Nat)(v:Val)(h:Hh):Res Val:=if v.nl=true then .ok v (h.cut n) else match v with
 | .ref (.loc i)=>if i < n then .ok v (h.cut n) else match h.loc[i]? with
  | some (.lst xs)=>.ok (.lst xs) (h.cut n)
  | _=>.err
 | _=>.err
def finR(n:Nat)(r:aC):Res Val:=match r with
 | .nx _ h=>.ok .non (h.cut n)
 | .rt v h=>bP n v h
 | .exc c fs _ h=>if nlp fs=true then .exc c fs (h.cut n) else .err
 | _=>.err
def startM(d:Df)(xs:List Val):Sl:=xs.map some ++ List.replicate (d.nl - xs.length) none
def ar(T:Nat->Option Df):Nat->Calls
 | 0=>fun _ _ _=>.err
 | n + 1=>fun f xs h=>match T f with
  | some d=>if xs.length=d.np then finR h.loc.length (d.body (ar T n) (startM d xs) h) else .err
  | none=>.err
def WEx(E:XK):WX:=fun cls d _ H=>E cls d H
def spM(p:Pm)(np:Nat)(g:List Val->Hh->Res Val):Sp:=fun vs H Q E=>vs.length=np/\∃ m h G xs,Wo p m h G H/\RvA p m h.has G vs xs/\ao p (rV p) m h G H (WEx E) [] Q (g xs h)
section
variable{p:Pm}{m m1:Rf->Addr}{h h1:Hh}{G H G1 H1:Hp}
theorem uL{h:Hh}{n:Nat}{r:Rf}{c:Cel}(e:(h.cut n).get r=some c):h.get r=some c:=by
 cases r with
 | loc i =>
  have e:(h.loc.take n)[i]?=some c:=e;rw [List.getElem?_take] at e
  split at e
  .exact e
  .cases e
 | glo s i=>exact e
theorem fX{h:Hh}{n:Nat}{r:Rf}(e:(h.cut n).has r):h.has r:=by
 cases r with
 | loc i =>
  have e:i < (h.loc.take n).length:=e;rw [List.length_take] at e;show i < h.loc.length; omega
 | glo s i=>exact e
theorem f5{h:Hh}{n:Nat}:∀ s i,h.has (.glo s i)->(h.cut n).has (.glo s i):=fun _ _ h=>h
theorem kP(s:Stp m h G H m1 h1 G1 H1)(w:Wo p m1 h1 G1 H1):Stp m h G H m1 (h1.cut h.loc.length) G1 H1/\Wo p m1 (h1.cut h.loc.length) G1 H1:=by
 refine⟨⟨s.gg,fun r hr=>⟨?_,(s.mm r hr).2⟩,s.fr,fun b hb nb=>⟨fun⟨r,h2,h3⟩=>(s.out b hb nb).1 ⟨r,fX h2,h3⟩,(s.out b hb nb).2⟩,s.dom,s.fz⟩,⟨w.gh,fun r c e=>?_,fun r r' h2 h3=>w.inj r r' (fX h2) (fX h3),fun r h2=>w.dom r (fX h2),fun k hk=>⟨f5 _ _ (w.tb k hk).1,(w.tb k hk).2⟩⟩⟩
 .have h2:=(s.mm r hr).1
  cases r with
  | loc i =>
   have h3:i < h1.loc.length:=h2;have h4:i < h.loc.length:=hr;show i < (h1.loc.take h.loc.length).length;rw [List.length_take]; omega
  | glo s i=>exact h2
 .obtain⟨h2,h3,o,h4,h5⟩:=w.cel r c (uL e);exact⟨h2,h3,o,h4,h5.less f5 h3⟩
theorem pE{N:List Str}{vs:List V}{xs:List Val}{d:Df}(hN:N.length=d.nl)(r:RvA p m h.has G vs xs):En p m h G (L2.start N vs) (startM d xs):=by
 refine⟨by simp [L2.start,startM,r.len,hN],fun i x e=>?_⟩;unfold startM at e;unfold L2.start
 by_cases hi:i < xs.length
 .rw [List.getElem?_append_left (by simpa using hi),List.getElem?_map] at e
  cases hd:xs[i]? with
  | none=>rw [hd] at e; cases e
  | some d' =>
   rw [hd] at e; cases e;obtain⟨v,h1,h2⟩:=r.at hd;exact⟨v,by rw [List.getElem?_append_left (by rw [List.length_map,r.len]; exact hi),List.getElem?_map,h1]; rfl,h2⟩
 .rw [List.getElem?_append_right (by simpa using hi)] at e;obtain⟨_,h⟩:=List.getElem?_eq_some_iff.mp e;rw [List.getElem_replicate] at h; cases h
theorem sh{Q:VK}{E:XK}{r:aC}(e:ao p (rV p) m h G H (WEx E) [] Q (finR h.loc.length r)):bF p m h G H (WEx E) { nx:=fun _ H'=>Q .non H',rt:=Q } r:=by
 cases r with
 | err=>exact e
 | bk δ h'=>exact e.elim
 | ct δ h'=>exact e.elim
 | nx δ h'=>exact fun m' G' σ' H' s' w' en'=>e m' G' .non H' (kP s' w').1 (kP s' w').2 .non
 | rt v h' =>
  intro m' G' u H' s' w' r';have c:=kP s' w'
  change ao p (rV p) m h G H (WEx E) [] Q (bP h.loc.length v h') at e
  unfold bP at e
  split at e
  .rename_i hn;exact e m' G' u H' c.1 c.2 (r'.less f5 hn)
  .split at e
   .rename_i i _
    split at e
    .rename_i hi;refine e m' G' u H' c.1 c.2 ?_
     cases r' with
     | ref hh =>
      refine .ref ?_;have hh:i < h'.loc.length:=hh;show i < (h'.loc.take h.loc.length).length;rw [List.length_take]; omega
    .rename_i hi;have own:∀ b,H b≠none->¬ Own m h b->b≠m' (.loc i):=fun b hb nb z=>by
      cases r' with
      | ref hh=>exact(s'.out b hb nb).1 ⟨_,hh,z.symm⟩
     have key:∀ (o:HO) (c:Cel),h'.get (.loc i)=some c->H' (m' (.loc i))=some o->Stp m h G H m' (h'.cut h.loc.length) (upd G' (m' (.loc i)) o) H'/\Wo p m' (h'.cut h.loc.length) (upd G' (m' (.loc i)) o) H':=fun o cc hc ho=>by
      obtain⟨gn,_,_⟩:=w'.cel _ _ hc;have f:=pI.freeze w'.gh gn ho;have hne:∀ r,(h'.cut h.loc.length).has r->m' r≠m' (.loc i):=fun r hr z=>by
       have:=w'.inj _ _ (fX hr) (cm hc) z;subst this;have hr:i < (h'.loc.take h.loc.length).length:=hr;rw [List.length_take] at hr;omega
      refine⟨⟨s'.gg.trans f.1,fun r hr=>⟨(c.1.mm r hr).1,(c.1.mm r hr).2⟩,s'.fr,fun b hb nb=>⟨(c.1.out b hb nb).1,fun g=>by rw [upd_ne (own b hb nb)]; exact(s'.out b hb nb).2 g⟩,s'.dom,s'.fz⟩,⟨f.2,fun r x hx=>?_,c.2.inj,c.2.dom,c.2.tb⟩⟩;obtain⟨h2,h3,o2,h4,h5⟩:=c.2.cel r x hx;exact⟨by rw [upd_ne (hne r (cm hx))]; exact h2,h3,o2,h4,h5.mono (fun _ h=>⟨h,rfl⟩) f.1⟩
     split at e
     .rename_i xs hx;have hx:h'.get (.loc i)=some (.lst xs):=hx;obtain⟨gn,hn,o,ho,hc⟩:=w'.cel _ _ hx
      cases hc with
      | lst hc =>
       obtain⟨k1,k2⟩:=key _ _ hx ho
       cases r' with
       | ref hh=>exact e m' _ _ H' k1 k2 (.lst upd_same ((hc.less f5 hn).mono (fun _ h=>⟨h,rfl⟩) (e6 gn)))
     .exact e.elim
   .exact e.elim
 | exc c fs δ h' =>
  intro m' G' σ' H' cls d s' w' en' x';have cc:=kP s' w';have e:ao p (rV p) m h G H (WEx E) [] Q (if nlp fs=true then .exc c fs (h'.cut h.loc.length) else .err):=e
  split at e
  .rename_i hn;refine e m' G' H' cls d cc.1 cc.2 ⟨x'.1,x'.2.less f5 hn⟩
  .exact e.elim
end
theorem gs.eq{K:PySem.W.Frag}{a:Addr}{fd fd':FuncData}(h:gs K a fd)(h':gs K a fd'):fd=fd':=by
 obtain⟨oc,od,osl,e⟩:=h;obtain⟨oc',od',osl',e'⟩:=h';rw [e] at e'; cases e'; rfl
theorem kD{K:PySem.W.Frag}{x qual:Str}{params:Arguments}{body:List Stmt}{scope:Scope}{dvs:List V}{kws:List (Str×V)}{f:Addr}{fd:FuncData}(F:FunD K x qual params body scope dvs kws f fd):gs K f fd:=by
 obtain⟨oc,od,dV,kV,doc,pm,an,cdv,ct,osl,_,lk,_⟩:=F.ex;exact⟨oc,od,osl,lk⟩
def aH(p:Pm)(T:Nat->Option Df)(n:Nat):Prop:=∀ f d,T f=some d->∃ fd,FnG p.P p.w p.K p.mg p.base (L2.CX p.P p.w) (3 * n) (p.fa f) fd d.ps (spM p d.np (ar T n f))/\PySem.W.keepIn p.K (.ref (p.fa f))=true/\(d.kw=[]->Binds p.K fd d.ps [])/\gs p.K (p.fa f) fd
def ctx(p:Pm)(n f:Nat)(qual:Str)(st:Stmt)(N:List Str):Ct:=⟨p,3 * n + 2,defScope st,N,fun _=>true,p.fa f,qual ++ ".<locals>.",true⟩
structure sM(p:Pm)(T:Nat->Option Df)(f:Nat)(d:Df):Prop where
 ex:∃ (x qual:Str) (st:Stmt) (N:List Str) (fd:FuncData) (kws:List (Str×V)),FunD p.K x qual (defArgs st) (defBody st) (defScope st) [] kws (p.fa f) fd/\(d.kw=[]->Binds p.K fd d.ps [])/\FnScope N d.ps (defScope st)/\d.ps.length=d.np/\N.length=d.nl /\
  ∀ n,aH p T n->SSs (ctx p n f qual st N) (defBody st) (d.body (ar T n))
theorem callsOk{p:Pm}{T:Nat->Option Df}(h:∀ f d,T f=some d->sM p T f d):∀ n,aH p T n
 | 0=>fun f d e=>by
  obtain⟨x,qual,st,N,fd,kws,F,b,S,hp,hn,_⟩:=(h f d e).ex;refine⟨fd,⟨fun vs H Q E z=>by rw [hp]; exact z.1,fun A outer s H args us vs Q E hr _ e0 hb r z=>?_⟩,F.kp,b,kD F⟩;obtain⟨_,m,hh,G,xs,_,_,z⟩:=z;exact z.elim
 | n + 1=>fun f d e=>by
  obtain⟨x,qual,st,N,fd,kws,F,b,S,hp,hn,hb⟩:=(h f d e).ex;refine⟨fd,?_,F.kp,b,kD F⟩;show FnG _ _ _ _ _ _ (3 * n + 2 + 1) _ _ _ _;refine r7 F S (fun vs H Q E z=>by rw [hp]; exact z.1) fun cdv A outer s H vs Q E hcd hr hgd z=>?_;obtain⟨hl,m,hh,G,xs,w,r,z⟩:=z;obtain⟨t,ht,snd⟩:=hb n (callsOk h n);refine⟨t (WEx E),ht (WEx E) _ ⟨rfl,rfl,rfl,rfl,rfl,rfl,S.nd,rfl,rfl,rfl,hr,hgd,passes_of rfl,takes_of rfl rfl rfl rfl,hcd,rfl,fun _=>⟨rfl,rfl,rfl⟩⟩,?_⟩;refine snd (WEx E) _ (startM d xs) m hh G H _ (pE hn r) w (sh ?_);unfold ar at z;rw [e] at z;dsimp only at z
  split at z
  .exact z
  .exact z.elim
section
variable{C:Ct}{T:Nat->Option Df}{n:Nat}{f:Nat}{d:Df}{e:Expr}{es:List Expr}{x:Str}{pos q:Pos}{fs:Sl->Hh->Res (List Val)}
def aA(Γ : Calls)(f:Nat)(fs:Sl->Hh->Res (List Val)):Sl->Hh->Res Val:=fun δ h=>(fs δ h).bind fun xs h1=>Γ f xs h1
theorem jT{xs:List Val}{h:Hh}(hT:T f=some d)(hx:xs.length≠d.np):ar T n f xs h = .err:=by
 cases n with
 | zero=>rfl
 | succ n=>unfold ar; rw [hT]; dsimp only; rw [if_neg hx]
theorem tQ(hc:aH C.p T n)(hT:T f=some d)(hk0:d.kw=[])(hk:3 * n<=C.k)(hm:C.p.mg x=some (.ref (C.p.fa f)))(hl:C.sc.names.lookup x=some .globalImplicit)(ha:SA C (e :: es) fs)(hdb:(x == ("__debug__" : Str))=false:=by decide)
  (he:∀ env,starEach (e :: es) env=(false,eval e env) :: starEach es env:=by intro _; rfl) (hpl:∀ env,(backTo pos (starEach es env)).any (·.1)=false:=by intro _; rfl):SE C (.Call (.Name x q) (e :: es) [] pos) (aA (ar T n) f fs):=by
 obtain⟨t,pa,sa⟩:=ha;obtain⟨fd,F,kp,b,_⟩:=hc f d hT;refine⟨fun W=>tCallSD (spM C.p d.np (ar T n f)) [] (L2.WE W) (t W),fun W X g=>?_,fun W σ δ m h G H Q en w e=>sa W σ δ m h G H _ en w (ao.bind e fun xs h1 m1 G1 us H1 s1 w1 r1 e1=>?_)⟩
 .refine pe_callG (f:=C.p.fa f) (fd:=fd) (ps:=d.ps) (CX:=L2.CX X.prog X.w) ?_ (g.room.mono hk) g.gd (g.gl hl) (by rw [g.mg]; exact hm) (by rw [g.K]; exact kp) (by rw [g.K]; exact b hk0) .nil (fun σ=>passAt g.takes σ) (pa W X g) hdb (he _) (hpl _);rw [g.prog,g.w,g.K,g.mg,g.base]; exact F
 .show spM C.p d.np (ar T n f) (us ++ []) H1 Q _;rw [List.append_nil];have hl:xs.length=d.np:=by
   by_cases z:xs.length=d.np
   .exact z
   .rw [jT hT z] at e1; exact e1.elim
  refine⟨by rw [r1.len]; exact hl,m1,h1,G1,xs,w1,r1,?_⟩
  cases hr:ar T n f xs h1 with
  | err=>rw [hr] at e1; exact e1
  | ok v h'=>rw [hr] at e1; exact e1
  | exc c fs h'=>rw [hr] at e1; exact e1
end
def h0:Hh:=⟨fun _=>[],[]⟩
def h0T(qs:List Str):Hh:=⟨fun s=>if s=99 then qs.map fun q=>some (.tab q) else [],[]⟩
structure Tbl(n:Nat)(ta:Nat->Addr)(H:Hp):Prop where
 at_:∀ k,k < n->H (ta k)=some (.tbl #[])
 inj:∀ i j,i < n->j < n->ta i=ta j->i=j
theorem Tbl.nil{ta:Nat->Addr}{H:Hp}:Tbl 0 ta H:=⟨fun k hk=>absurd hk (Nat.not_lt_zero _),fun i j hi=>absurd hi (Nat.not_lt_zero _)⟩
theorem uJ:h0T []=h0:=by
 unfold h0T h0
 congr 1
 funext s
 split <;> rfl
def oh(K:PySem.W.Frag)(n:Nat)(ta:Nat->Addr):Sp:=fun vs H Q _=>∃ (a:Addr) (ns:List Int),vs=[.ref a]/\SqL K H a (ns.map V.int)/\ns.length<=63/\Tbl n ta H/\∀ H',Q (.bl true) H'
theorem law_fn{p:Pm}{T:Nat->Option Df}{n f:Nat}{d:Df}{qs:List Str}(hq:p.nt=qs.length)(hc:aH p T n)(hT:T f=some d)(hd:d.np=1)(hrun:∀ ns:List Int,ns.length<=63->∃ h',ar T n f [.scr ns] (h0T qs) = .ok (.bl true) h') :
  ∃ fd,FnG p.P p.w p.K p.mg p.base CX0 (3 * n) (p.fa f) fd d.ps (oh p.K p.nt p.ta)/\gs p.K (p.fa f) fd:=by
 obtain⟨fd,F,kp,b,lk⟩:=hc f d hT;have sp:∀ vs H Q E,oh p.K p.nt p.ta vs H Q E->spM p d.np (ar T n f) vs H Q E0:=fun vs H Q E ⟨a,ns,e1,hs,hl,ht,q⟩=>by
  subst e1;obtain⟨h',hr⟩:=hrun ns hl;have hg:∀ r,(h0T qs).has r->∃ k,r = .glo 99 k/\k < p.nt:=fun r hr=>by
   cases r with
   | loc i=>exact absurd (show i < 0 from hr) (Nat.not_lt_zero _)
   | glo s i =>
    have hr:i < (if s=99 then qs.map fun q=>some (Cel.tab q) else []).length:=hr
    by_cases e:s=99
    .subst e;rw [if_pos rfl,List.length_map] at hr;exact⟨i,rfl,by rw [hq]; exact hr⟩
    .rw [if_neg e] at hr; exact absurd hr (Nat.not_lt_zero _)
  refine⟨by rw [hd]; rfl,fun r=>match r with | .glo _ k=>p.ta k | .loc _=>0,h0T qs,fun b=>if b=a/\∀ k,k < p.nt->b≠p.ta k then H b else none,[.scr ns],⟨fun b o e=>?_,fun r c e=>?_,fun r r' e1 e2 e=>?_,fun r e=>?_,fun k hk=>⟨?_,rfl⟩⟩,.cons (.scr ?_) .nil,?_⟩
  .try dsimp only at e
   split at e
   .exact e
   .cases e
  .obtain⟨k,rfl,hk⟩:=hg r (cm e);refine⟨?_,?_,?_⟩
   .show(if p.ta k=a/\∀ k',k' < p.nt->p.ta k≠p.ta k' then H (p.ta k) else none)=none;rw [if_neg fun z=>z.2 k hk rfl]
   .have e:(match (if 99=99 then qs.map fun q=>some (Cel.tab q) else [])[k]? with | some c=>c | none=>none)=some c:=e;rw [if_pos rfl,List.getElem?_map] at e
    cases hqk:qs[k]? with
    | none=>rw [hqk] at e; cases e
    | some q=>rw [hqk] at e; cases e; rfl
   .have e:(match (if 99=99 then qs.map fun q=>some (Cel.tab q) else [])[k]? with | some c=>c | none=>none)=some c:=e;rw [if_pos rfl,List.getElem?_map] at e
    cases hqk:qs[k]? with
    | none=>rw [hqk] at e; cases e
    | some q =>
     rw [hqk] at e; cases e;exact⟨_,ht.at_ k hk,.tab True.intro fun pos cv z=>by simp [codeAmong] at z⟩
  .obtain⟨k,rfl,hk⟩:=hg r e1;obtain⟨k',rfl,hk'⟩:=hg r' e2;rw [ht.inj _ _ hk hk' e]
  .obtain⟨k,rfl,hk⟩:=hg r e;show H (p.ta k)≠none;rw [ht.at_ k hk]; intro z; cases z
  .show k < (if 99=99 then qs.map fun q=>some (Cel.tab q) else []).length;rw [if_pos rfl,List.length_map,<- hq]; exact hk
  .rcases hs with hs | hs
   .left
    have na:∀ (o:HO),H a=some o->(∀ ps,o≠.tbl ps)->∀ k,k < p.nt->a≠p.ta k:=fun o h1 h2 k hk z=>by
     rw [z,ht.at_ k hk] at h1;exact h2 _ (Option.some.inj h1).symm
    rcases hs with hs | ⟨o,hs⟩
    .left; dsimp only; rw [if_pos ⟨rfl,na _ hs fun _ z=>by cases z⟩]; exact hs
    .right; refine⟨o,?_⟩; dsimp only; rw [if_pos ⟨rfl,na _ hs fun _ z=>by cases z⟩]; exact hs
   .exact .inr hs
  .rw [hr];intro m' G' u H' s w r
   cases r
   exact q H'
 refine⟨fd,⟨fun vs H Q E z=>F.len vs H Q E0 (sp vs H Q E z),fun A outer s H args us vs Q E hr hgd e0 hb r z=>?_⟩,lk⟩;refine codeAny_mono (F.run A outer s H args us vs Q E0 hr hgd e0 hb r (sp vs H Q E z)) fun r s' hq=>?_
 cases r with
 | ok fl=>cases fl <;> exact hq
 | error e =>
  obtain⟨_,_,_,_,_,_,_,_,_,_,_,_,z⟩:=hq;exact z.elim
end M
namespace M
open PySem PySem.Spec PyProof.Rows L2 B
def uU(p:Pm)(r:V->List V->Hp->VK->Prop)(g:Hh->Val->List Val->Res Val):Prop:=∀ m h G H u us x xs Q W σ,Wo p m h G H->Rv p m h.has G u x->RvA p m h.has G us xs->ao p (rV p) m h G H W σ Q (g h x xs)->r u us H Q
def tyL(h:Hh)(x:Val):Bool:=(rdL h x).isSome
def tyS(_:Hh):Val->Bool
 | .str _=>true
 | _=>false
def tyD(h:Hh)(x:Val):Bool:=match x with
 | .ref r=>match h.get r with
  | some (.dct _)=>true
  | some (.dtt _)=>true
  | _=>false
 | _=>false
def TyOk(p:Pm)(T:String)(ty:Hh->Val->Bool):Prop:=∀ m h G H u x,Wo p m h G H->Rv p m h.has G u x->ty h x=true->tyV p.K T u H
def mBM(ty:Hh->Val->Bool)(g:Hh->Val->List Val->Res Val)(fo:Sl->Hh->Res Val)(fs:Sl->Hh->Res (List Val)):Sl->Hh->Res Val:=fun δ h=>(fo δ h).bind fun x h1=>if ty h1 x=true then(fs δ h1).bind fun xs h2=>g h2 x xs else .err
section
variable{p:Pm}
theorem ty_L:TyOk p "list" tyL:=fun m h G H u x w r t=>by
 obtain⟨xs,hx⟩:=Option.isSome_iff_exists.mp t;obtain⟨a,vs,rfl,h1,_⟩:=kn w r hx;exact .inl ⟨rfl,vs,h1⟩
theorem ty_S:TyOk p "str" tyS:=fun m h G H u x w r t=>by
 cases r <;> first | rfl | cases t
variable{C:Ct}{o e:Expr}{es:List Expr}{name:Str}{apos cpos:Pos}{Tn id:String}{ty:Hh->Val->Bool}{r:V->List V->Hp->VK->Prop}{g:Hh->Val->List Val->Res Val}{fo:Sl->Hh->Res Val}{fs:Sl->Hh->Res (List Val)}
theorem qO(pa:PlainAttrs Tn)(slot:Slot Tn name id)(hty:typeOf (.builtin id)=pure (.type "method_descriptor"))(tk:TyOk C.p Tn ty)(hm:∀ W X,Good C W X->MtR X id r)(s:uU C.p r g)(ho:SE C o fo)(ha:SA C (e :: es) fs)(hb:∀ env,attributeBase o name env (eval o env)=eval o env:=by intro _; rfl)
  (hfew:∀ env,((backTo cpos (starEach (e :: es) env)).all (fun x=>!x.1) && (backToKw cpos (keywordEach [] env)).all (fun x=>x.1.isSome)
   && decide ((e :: es).length + ([]:List Keyword).length + (if ([]:List Keyword).isEmpty then 0 else 1) < 30))=true:=by intro _; rfl)
  (hline:(apos.endLine == cpos.line)=true:=by rfl) (hs:∀ env,starEach (e :: es) env=(false,eval e env) :: starEach es env:=by intro _; rfl) (hpl:∀ env,(backTo cpos (starEach es env)).any (·.1)=false:=by intro _; rfl) :
  SE C (.Call (.Attribute o name apos) (e :: es) [] cpos) (mBM ty g fo fs):=by
 obtain⟨to,po,so⟩:=ho;obtain⟨ta,pa',sa⟩:=ha;refine⟨fun W=>tBM C.p.K Tn r (to W) (ta W),fun W X gd=>pe_bmK C.p.K pa slot hty (hm W X gd) (po W X gd) (pa' W X gd) gd.K (hb _) (hfew _) hline (hs _) (hpl _),fun W σ δ m h G H Q en w e=>so W σ δ m h G H _ en w (ao.bind e fun x h1 m1 G1 u H1 s1 w1 r1 e1=>?_)⟩
 split at e1
 .rename_i ht;exact⟨tk _ _ _ _ _ _ w1 r1 ht,sa W σ δ m1 h1 G1 H1 _ (en.stp s1) w1 (ao.bind e1 fun xs h2 m2 G2 us H2 s2 w2 r2 e2=>s m2 h2 G2 H2 u us x xs Q W σ w2 (Rv.stp s2 r1) r2 e2)⟩
 .exact e1.elim
def bV(h:Hh)(x:Val)(xs:List Val):Res Val:=match x,xs with
 | .ref r,[y]=>match h.get r with
  | some (.lst ys)=>if y.nl=true/\ys.length < 1000000 then .ok .non (h.set r (.lst (ys ++ [y]))) else .err
  | _=>.err
 | _,_=>.err
def lExtend(h:Hh)(x:Val)(xs:List Val):Res Val:=match x,xs with
 | .ref r,[y]=>match h.get r with
  | some (.lst ys)=>match rdM h y with
   | some zs=>if Val.nls zs=true/\ys.length + zs.length<=1000000 then .ok .non (h.set r (.lst (ys ++ zs))) else .err
   | none=>.err
  | _=>.err
 | _,_=>.err
theorem uv{xs ys:List Val}:Val.nls (xs ++ ys)=(Val.nls xs && Val.nls ys):=by rw [kz,kz,kz,List.all_append]
theorem pj:uU p rAppend bV:=fun m h G H u us x xs Q W σ w rx r e=>by
 unfold bV at e
 split at e
 .obtain⟨v,rfl,rv⟩:=gy r
  split at e
  .rename_i ys hc
   split at e
   .rename_i hcond;obtain⟨_,hn,o,h3,h4⟩:=w.cel _ _ hc
    cases rx
    cases h4 with
    | lst h4 =>
     refine⟨_,_,v,rfl,rfl,h3,by rw [h4.len]; exact eh hcond.2,?_⟩;have ww:=w.mut hc (c:=.lst (ys ++ [_])) (o:=.lst (_ ++ [v])) (by show Val.nls _=true; rw [uv,show Val.nls ys=true from hn]; show(true && (_ && true))=true; rw [hcond.1]; rfl) (.lst (h4.app (.cons rv .nil)));exact e.step ww.2 ww.1 .non
   .exact e.elim
  .exact e.elim
 .exact e.elim
theorem eI(ho:SE C o fo)(ha:SA C [e] fs)(hb:∀ env,attributeBase o "append" env (eval o env)=eval o env:=by intro _; rfl) (hfew:∀ env,((backTo cpos (starEach [e] env)).all (fun x=>!x.1) && (backToKw cpos (keywordEach [] env)).all (fun x=>x.1.isSome)
   && decide (([e]:List Expr).length + ([]:List Keyword).length + (if ([]:List Keyword).isEmpty then 0 else 1) < 30))=true:=by intro _; rfl)
  (hline:(apos.endLine == cpos.line)=true:=by rfl) (hs:∀ env,starEach [e] env=(false,eval e env) :: starEach [] env:=by intro _; rfl):SE C (.Call (.Attribute o "append" apos) [e] [] cpos) (mBM tyL bV fo fs) :=
 qO PySem.F.plainAttrs_list PySem.F.slot_list_append PySem.F.type_list_append ty_L (fun _ _ _=>mt_append) pj ho ha hb hfew hline hs
variable{ky df:Expr}{fk fd:Sl->Hh->Res Val}
def mDGet1(fo fk:Sl->Hh->Res Val):Sl->Hh->Res Val:=fun δ h=>(fo δ h).bind fun x h1=>if cy h1 x=true then(fk δ h1).bind fun y h2=>match eW h2 x y with
 | some (some v)=>.ok v h2
 | some none=>.ok .non h2
 | none=>.err else .err
def nu(fo fk fd:Sl->Hh->Res Val):Sl->Hh->Res Val:=fun δ h=>(fo δ h).bind fun x h1=>if cy h1 x=true then(fk δ h1).bind fun y h2=>(fd δ h2).bind fun z h3=>match eW h3 x y with
 | some (some v)=>.ok v h3
 | some none=>.ok z h3
 | none=>.err else .err
theorem qL(ho:SE C o fo)(hk:SE C ky fk)(hf:SE C df fd)(hM:∀ X,M2 X o "get" apos ky df cpos:=by intro _; constructor <;> rfl):SE C (.Call (.Attribute o "get" apos) [ky,df] [] cpos) (nu fo fk fd):=by
 obtain⟨to,po,so⟩:=ho;obtain⟨tk,pk,sk⟩:=hk;obtain⟨tf,pf,sf⟩:=hf;refine⟨fun W=>tDGet2 (to W) (tk W) (tf W),fun W X g=>pe_dget2 g.u1 (po W X g) (pk W X g) (pf W X g) (hM X),fun W σ δ m h G H Q en w e=>so W σ δ m h G H _ en w (ao.bind e fun x h1 m1 G1 u H1 s1 w1 r1 e1=>?_)⟩
 split at e1
 .rename_i ht;obtain⟨a,rfl,hd⟩:=rS w1 r1 ht;refine⟨a,rfl,hd,sk W σ δ m1 h1 G1 H1 _ (en.stp s1) w1 (ao.bind e1 fun y h2 m2 G2 v H2 s2 w2 r2 e2=>sf W σ δ m2 h2 G2 H2 _ (en.stp (s1.trans s2)) w2 (ao.bind e2 fun z h3 m3 G3 zv H3 s3 w3 r3 e3=>?_))⟩
  split at e3
  .rename_i v' hv;obtain⟨a',o',e4,g1,_,h3,h4⟩:=gk w3 (Rv.stp (s2.trans s3) r1) (Rv.stp s3 r2) hv
   cases e4
   obtain⟨z,rfl,rz⟩:=h3 _ rfl;exact⟨_,g1,ao.here e3 w3 rz⟩
  .rename_i hv;obtain⟨a',o',e4,g1,_,h3,h4⟩:=gk w3 (Rv.stp (s2.trans s3) r1) (Rv.stp s3 r2) hv
   cases e4
   have:=h4 rfl;subst this;exact⟨_,g1,ao.here e3 w3 r3⟩
  .exact e3.elim
 .exact e1.elim
def ep(h:Hh)(x:Val)(xs:List Val):Res Val:=match x,xs with
 | .str a,[y]=>match rdQ h y with
  | some ys=>match iF ys with
   | some zs=>if (zs.map (·.length)).sum + zs.length * a.length<=1000000 then .ok (.str (Txt.join a zs)) h else .err
   | none=>.err
  | none=>.err
 | _,_=>.err
def dc(h:Hh)(x:Val)(xs:List Val):Res Val:=match x,xs with
 | .str a,[.str b]=>if (b.length == 0)=false/\a.length + 2<=1000000 then .ok (.lst ((Txt.split a b).map Val.str)) h else .err
 | _,_=>.err
theorem fM{m:Rf->Addr}{hs:Rf->Prop}{G:Hp}:∀ {ns:List Str} {vs:List V},RvA p m hs G vs (ns.map Val.str)->vs=ns.map V.str
 | [],_,h=>by cases h; rfl
 | _ :: _,_,h=>by cases h with | cons h1 h2=>cases h1; rw [fM h2]; rfl
theorem iM{m:Rf->Addr}{hs:Rf->Prop}{G:Hp}:∀ {ns:List Str},RvA p m hs G (ns.map V.str) (ns.map Val.str)
 | []=>.nil
 | _ :: _=>.cons (.str _) iM
def rJoin(K:PySem.W.Frag):V->List V->Hp->VK->Prop:=fun x xs H Q=>∃ a p,∃ ys:List Str,x = .str a/\xs=[.ref p]/\(SqL K H p (ys.map V.str)\/SqT K H p (ys.map V.str))/\(ys.map (·.length)).sum + ys.length * a.length<=16777216/\Q (.str (Txt.join a ys)) H
theorem tA:uU p (rJoin p.K) ep:=fun m h G H u us x xs Q W σ w rx r e=>by
 unfold ep at e
 split at e
 .obtain⟨v,rfl,rv⟩:=gy r
  cases rx
  split at e
  .rename_i ys hy
   split at e
   .rename_i zs hz
    split at e
    .rename_i hl;obtain⟨a,vs,rfl,h1,h2⟩:=km w rv hy;have:=la hz;subst this;rw [fM h2] at h1;exact⟨_,a,zs,rfl,rfl,h1,by omega,ao.here e w (.str _)⟩
    .exact e.elim
   .exact e.elim
  .exact e.elim
 .exact e.elim
def rSplit:V->List V->Hp->VK->Prop:=fun x xs H Q=>∃ a b,x = .str a/\xs=[.str b]/\(b.length == 0)=false/\a.length + 2<=sizeLine/\rNewStrs (Txt.split a b) H Q
theorem qG:uU p rSplit dc:=fun m h G H u us x xs Q W σ w rx r e=>by
 unfold dc at e
 split at e
 .obtain⟨v,rfl,rv⟩:=gy r
  cases rx; cases rv
  split at e
  .rename_i hl;exact⟨_,_,rfl,rfl,hl.1,aK hl.2,fun q n=>ey e w n iM⟩
  .exact e.elim
 .exact e.elim
end
end M
namespace M
open PySem PySem.Spec PyProof.Rows L2 B
def newD(md:Md)(kvs:List (Key×Val))(h:Hh):Res Val:=match md with
 | .dat=>.ok (.dct kvs) h
 | .loc=>if nlp kvs=true then .ok (.ref (.loc h.loc.length)) (h.cX (.dct kvs)) else .err
 | .glo s=>if nlp kvs=true then .ok (.ref (.glo s (h.glo s).length)) (h.aY s (.dct kvs)) else .err
def QMd(md:Md)(Q:VK):VK:=match md with
 | .dat=>fun v H'=>∃ a u,v = .ref a/\H' a=some u/\Mut (some u)/\∀ od,Q v (upd H' a (.frz od u))
 | _=>Q
def tMd(md:Md)(t:TE):TE:=fun σ H Q=>t σ H (QMd md Q)
theorem pe_md{X:Cx}{e:Expr}{t:TE}(md:Md)(h:PE X e t):PE X e (tMd md t):=by
 cases md with
 | dat =>
  refine⟨fun pins s σ H Q I hw=>thn (h.run pins s σ H _ I hw) fun v s1 ⟨x,H1,I1,r,a,u,ex,ha,mu,q⟩=>?_⟩;obtain⟨od,I2⟩:=I1.lock ha mu;exact⟨x,_,I2,r,by have:=q od; rw [ex]; rw [ex] at this; exact this⟩
 | loc=>exact h
 | glo i=>exact h
theorem lE{p:Pm}{m m1:Rf->Addr}{h h1:Hh}{G H G1 H1:Hp}{q:Addr}{vs:List (Key×V)}{xs:List (Key×Val)}{md:Md}{W:WX}{σ : L2.St}{Q:VK}(e:ao p (rV p) m h G H W σ Q (newD md xs h1))(s:Stp m h G H m1 h1 G1 H1)(n:H q=none)(w:Wo p m1 h1 G1 H1)(no:¬ Own m1 h1 q)(gn:G1 q=none)
  (ho:H1 q=some (.dK vs)) (r:Rkv p m1 h1.has G1 vs xs):QMd md Q (.ref q) H1:=by
 cases md with
 | dat =>
  refine⟨q,_,rfl,ho,trivial,fun od=>?_⟩;have ff:=dB (o:=.frz od (.dK vs)) s n w no gn;have f:=oF ff.1 n ff.2 no gn upd_same;exact e m1 _ _ _ f.1 f.2 (.dct upd_same (.of (r.mono (fun _ h=>⟨h,rfl⟩) (e6 gn))))
 | loc =>
  unfold newD at e;dsimp only at e
  split at e
  .rename_i hn;have f:=iu (c:=.dct xs) s n w no gn ho (fun _=>cG) (Nat.lt_irrefl _) (fun _ h=>gK h) de hn (.dct r);have hq:upm m1 (.loc h1.loc.length) q (.loc h1.loc.length)=q:=by unfold upm; rw [if_pos rfl]
   have rr:Rv p (upm m1 (.loc h1.loc.length) q) (h1.cX (.dct xs)).has G1 (.ref (upm m1 (.loc h1.loc.length) q (.loc h1.loc.length))) (.ref (.loc h1.loc.length)):=.ref (cG.mpr (.inr rfl));rw [hq] at rr;exact e _ _ _ _ f.1 f.2 rr
  .exact e.elim
 | glo i =>
  unfold newD at e;dsimp only at e
  split at e
  .rename_i hn;have f:=iu (r:=.glo i (h1.glo i).length) (h2:=h1.aY i (.dct xs)) (c:=.dct xs) s n w no gn ho (fun _=>cg) (Nat.lt_irrefl _) (fun _ h=>gL h) dg hn (.dct r);have hq:upm m1 (.glo i (h1.glo i).length) q (.glo i (h1.glo i).length)=q:=by unfold upm; rw [if_pos rfl]
   have rr:Rv p (upm m1 (.glo i (h1.glo i).length) q) (h1.aY i (.dct xs)).has G1 (.ref (upm m1 (.glo i (h1.glo i).length) q (.glo i (h1.glo i).length))) (.ref (.glo i (h1.glo i).length)):=.ref (cg.mpr (.inr rfl));rw [hq] at rr;exact e _ _ _ _ f.1 f.2 rr
  .exact e.elim
def oL(md:Md):Sl->Hh->Res Val:=fun _ h=>newD md [] h
def rH:Sl->Hh->Res (List (Key×Val)):=fun _ h=>.ok [] h
def iZ(fk fv:Sl->Hh->Res Val)(fr:Sl->Hh->Res (List (Key×Val))):Sl->Hh->Res (List (Key×Val)):=fun δ h=>(fk δ h).bind fun x h1=>(fv δ h1).bind fun y h2=>(fr δ h2).bind fun ps h3=>match eN x with
 | some k=>.ok ((k,y) :: ps) h3
 | none=>.err
def oK(md:Md)(fr:Sl->Hh->Res (List (Key×Val))):Sl->Hh->Res Val:=fun δ h=>(fr δ h).bind fun kvs h1=>if kvs.length<=15 then newD md (iX [] kvs) h1 else .err
def rP(p:Pm):jw (List (Key×Val)) (List (V×V)):=fun m h G us kvs=>∃ ws:List (Key×V),us=ws.map (fun kv=>(kV kv.1,kv.2))/\Rkv p m h.has G ws kvs
def SP(C:Ct)(pos:Pos)(keys:List (Option Expr))(values:List Expr)(f:Sl->Hh->Res (List (Key×Val))):Prop:=∃ trs:WX->List (TE×TE),(∀ W X,Good C W X->PPs X pos keys values (trs W))/\Snd C.p (rP C.p) (fun W=>tPairs (trs W)) f
section
variable{C:Ct}{pos:Pos}{ks:List (Option Expr)}{vs:List Expr}{k v:Expr}{fk fv fa:Sl->Hh->Res Val}{fr:Sl->Hh->Res (List (Key×Val))}
theorem tO(md:Md):SE C (.Dict [] [] pos) (oL md):=⟨fun _=>tMd md tDNewK,fun _ _ _=>pe_md md pe_dnewK,fun W σ δ m h G H Q en w e=>fun q n=>by
 have no:=w.fresh n;have gn:=w.gh.free n;have om:=dB (o:=.dK []) .refl n w no gn;exact lE e om.1 n om.2 no gn upd_same .nil⟩
theorem sp_nil:SP C pos [] [] rH:=⟨fun _=>[],fun _ _ _=>pps_nil,fun W σ δ m h G H Q en w e=>ao.here e w ⟨[],rfl,.nil⟩⟩
theorem j8(hk:SE C k fk)(hv:SE C v fv)(hr:SP C pos ks vs fr):SP C pos (some k :: ks) (v :: vs) (iZ fk fv fr):=by
 obtain⟨ta,pa,sa⟩:=hk;obtain⟨tb,pb,sb⟩:=hv;obtain⟨tr,pr,sr⟩:=hr;refine⟨fun W=>(ta W,tb W) :: tr W,fun W X g=>pps_cons (pa W X g) (pb W X g) (pr W X g),fun W σ δ m h G H Q en w e=>sa W σ δ m h G H _ en w (ao.bind e fun x h1 m1 G1 u H1 s1 w1 r1 e1=>?_)⟩;refine sb W σ δ m1 h1 G1 H1 _ (en.stp s1) w1 (ao.bind e1 fun y h2 m2 G2 v H2 s2 w2 r2 e2=>?_);refine sr W σ δ m2 h2 G2 H2 _ (en.stp (s1.trans s2)) w2 (ao.bind e2 fun ps h3 m3 G3 us H3 s3 w3 r3 e3=>?_)
 split at e3
 .rename_i k hk;obtain⟨ws,rfl,r3⟩:=r3;obtain rfl:=iz r1 hk;exact ao.here e3 w3 ⟨(k,v) :: ws,rfl,.cons ⟨rfl,Rv.stp s3 r2⟩ r3⟩
 .exact e3.elim
theorem tP(md:Md)(h:SP C pos ks vs fr)(hall:ks.all (·.isSome)=true:=by rfl)(hl:ks.length=vs.length:=by rfl)(h0:ks≠[]:=by intro z; cases z)(h15:ks.length<=15:=by decide):SE C (.Dict ks vs pos) (oK md fr):=by
 obtain⟨tr,pr,sr⟩:=h;refine⟨fun W=>tMd md (tDisp (tr W)),fun W X g=>pe_md md (pe_disp (pr W X g) hall hl h0 h15),fun W σ δ m h G H Q en w e=>fun q n=>?_⟩;have no:=w.fresh n;have gn:=w.gh.free n;have om:=dB (o:=.dK []) .refl n w no gn;refine sr W σ δ m h G _ _ en om.2 ?_;unfold oK at e
 cases hr:fr δ h with
 | err=>rw [hr] at e; exact e
 | exc c fs h'=>rw [hr] at e; exact fun m' G' H' cls d s' w' x'=>e m' G' H' cls d (om.1.trans s') w' x'
 | ok kvs h1 =>
  rw [hr] at e;intro m1 G1 us H1 s1 w1 r1;obtain⟨ws,rfl,r1⟩:=r1;have e:ao C.p (rV C.p) m h G H W σ Q (if kvs.length<=15 then newD md (iX [] kvs) h1 else .err):=e
  split at e
  .rename_i hle;have eq:=s1.fr q _ upd_same no;have o1:=s1.out q (by rw [upd_same]; simp) no;refine⟨eq,ws,rfl,by rw [r1.length]; exact hle,?_⟩;have om2:=dB (o:=.dK (mergeK [] ws)) (om.1.trans s1) n w1 o1.1 (o1.2 gn);exact lE e om2.1 n om2.2 o1.1 (o1.2 gn) upd_same (jE r1 .nil)
  .exact e.elim
variable{tg e a b:Expr}{elts:List Expr}{kk:Nat}{tpos q:Pos}{fs:Sl->Hh->Res (List Val)}
def itE(it:Itm):Itm:=fun i h=>match it i h with
 | some (some x)=>some (some (.tup [.int i,x]))
 | r=>r
def wkL(h:Hh)(x:Val):Option Wk:=match x with
 | .ref r=>match h.get r with
  | some (.lst xs)=>some ⟨itC r,xs.length⟩
  | _=>none
 | x=>match rdL h x with
  | some xs=>some ⟨itD xs,xs.length⟩
  | none=>none
def wkE(h:Hh)(xs:List Val):Option Wk:=match xs with
 | [x]=>match wkL h x with
  | some k=>some ⟨itE k.it,k.n⟩
  | none=>none
 | _=>none
def jL(fs:Sl->Hh->Res (List Val)):Sl->Hh->Res Wk:=fun δ h=>(fs δ h).bind fun xs h1=>ofO (wkE h1 xs) h1
theorem qB{p:Pm}{m:Rf->Addr}{h:Hh}{G H:Hp}{a:Addr}{it:Itm}(s0:fy p (Itl p.K a) m h G H it):fy p (Ite p.K a) m h G H (itE it):=fun i m' h' G' H' s fz w=>by
 have q:=s0 i m' h' G' H' s fz w;unfold itE
 cases hi:it i h' with
 | none=>trivial
 | some o =>
  cases o with
  | none=>rw [hi] at q; exact q
  | some x =>
   rw [hi] at q;refine⟨q.1,fun u H2 y=>?_⟩;obtain⟨T,z,rfl,hT,rfl,hz⟩:=y;have gq:=q.1;obtain⟨xs,x',h1,h2⟩:=gq;have:x'=z:=by have:=hz xs h1; rw [h2] at this; cases this; rfl
   subst this;obtain⟨G2,s2,w2,r2⟩:=q.2 x' H' ⟨rfl,hz⟩;have ww:=w2.data (q:=T) (o:=.tup [.int (i:Nat),x']) hT;exact⟨_,s2.trans ww.2,ww.1,.tup (.inr ⟨upd_same,rfl⟩) (RvA.stp ww.2 (.cons (.int _) (.cons r2 .nil)))⟩
theorem sS{p:Pm}{m:Rf->Addr}{h:Hh}{G H:Hp}{u:V}{x:Val}{k:Wk}(w:Wo p m h G H)(r:Rv p m h.has G u x)(hk:wkL h x=some k):∃ a xs,u = .ref a/\SqL p.K H a xs/\fy p (Itl p.K a) m h G H k.it:=by
 unfold wkL at hk
 split at hk
 .split at hk
  .rename_i xs hc
   cases hk
   obtain⟨_,_,o,h3,h4⟩:=w.cel _ _ hc
   cases r with
   | ref hh=>cases h4 with | lst h4=>exact⟨_,_,rfl,SqL.of h3,lg hh⟩
  .cases hk
 .rename_i hne
  split at hk
  .rename_i xs hx
   cases hk
   cases r with
   | lst h3 h4=>cases hx; exact⟨_,_,rfl,SqL.of (w.gh _ _ h3),fG (fun H' s=>SqL.of (s _ _ h3)) h4⟩
   | scr h3=>cases hx; exact⟨_,_,rfl,lh w.gh h3,fG (fun H' s=>lh s h3) fN⟩
   | @ref r _=>exact(hne r rfl).elim
   | _=>cases hx
  .cases hk
theorem oo(hl:C.sc.names.lookup ("enumerate" : Str)=some .globalImplicit)(hm:C.p.mg "enumerate" = none)(ha:SA C [e] fs)(hs:∀ env,starEach [e] env=[(false,eval e env)]:=by intro _; rfl):SI C (.Tuple elts kk tpos) (.Call (.Name "enumerate" q) [e] [] pos) (jL fs):=by
 obtain⟨ta,pa,sa⟩:=ha;refine⟨fun W=>iEnum C.p.K (ta W),fun W X g=>by have:=pi_enum (pos:=pos) (tpos:=tpos) (elts:=elts) (kk:=kk) (p:=q) (g.gl hl) (by rw [g.mg]; exact hm) (pa W X g) (hs _); rw [g.K] at this; exact this,fun W σ δ m h G H R en w e=>sa W σ δ m h G H _ en w (ao.bind e fun xs h1 m1 G1 us H1 s1 w1 r1 e1=>?_)⟩;obtain⟨k,hk,e2⟩:=endO e1;unfold wkE at hk
 split at hk
 .obtain⟨u,rfl,ru⟩:=gy r1
  split at hk
  .rename_i k' hk'
   cases hk
   obtain⟨a,ys,rfl,h3,src⟩:=sS w1 ru hk';exact⟨a,ys,rfl,h3,(ao.here (u:=(Ite C.p.K a,H1)) e2 w1 (qB src)) rfl⟩
  .cases hk
 .cases hk
end
end M
namespace M
open PySem PySem.Spec PyProof.Rows L2 B
theorem bb_len:bootBuiltins "len" = some (.builtin "len"):=by decide +kernel
theorem bb_all:bootBuiltins "all" = some (.builtin "all"):=by decide +kernel
theorem bb_int:bootBuiltins "int" = some (.type "int"):=by decide +kernel
theorem bb_str:bootBuiltins "str" = some (.type "str"):=by decide +kernel
section
variable{C:Ct}{e a b o:Expr}{es:List Expr}{pos q apos:Pos}{fs:Sl->Hh->Res (List Val)}{fo:Sl->Hh->Res Val}
abbrev GN(C:Ct)(x:Str):Prop:=C.sc.names.lookup x=some .globalImplicit
theorem bT(hl:GN C "len")(hm:C.p.mg "len" = none)(ha:SA C [e] fs)(he:∀ env,starEach [e] env=(false,eval e env) :: starEach [] env:=by intro _; rfl):SE C (.Call (.Name "len" q) [e] [] pos) (mC dh fs):=se_cb (fun W X g=>cr_len C.p.K g.K) sc_len hl hm bb_len ha (he:=he)
theorem qP(hl:GN C "all")(hm:C.p.mg "all" = none)(ha:SA C [e] fs)(he:∀ env,starEach [e] env=(false,eval e env) :: starEach [] env:=by intro _; rfl):SE C (.Call (.Name "all" q) [e] [] pos) (mC nK fs):=se_cb (fun W X g=>uP C.p.K g.calm g.K) sc_all hl hm bb_all ha (he:=he)
theorem ip(hl:GN C "int")(hm:C.p.mg "int" = none)(ha:SA C [e] fs)(he:∀ env,starEach [e] env=(false,eval e env) :: starEach [] env:=by intro _; rfl):SE C (.Call (.Name "int" q) [e] [] pos) (mC hZ fs):=se_ct (fun W X g=>cr_int) sc_int hl hm bb_int ha (he:=he)
theorem ou(hl:GN C "str")(hm:C.p.mg "str" = none)(ha:SA C [e] fs)(he:∀ env,starEach [e] env=(false,eval e env) :: starEach [] env:=by intro _; rfl):SE C (.Call (.Name "str" q) [e] [] pos) (mC mG fs):=se_ct (fun W X g=>cr_str) sc_str hl hm bb_str ha (he:=he)
theorem dA(ho:SE C o fo)(ha:SA C [e] fs)(hb:∀ env,attributeBase o "join" env (eval o env)=eval o env:=by intro _; rfl) (hfew:∀ env,((backTo pos (starEach [e] env)).all (fun x=>!x.1) && (backToKw pos (keywordEach [] env)).all (fun x=>x.1.isSome)
   && decide (([e]:List Expr).length + ([]:List Keyword).length + (if ([]:List Keyword).isEmpty then 0 else 1) < 30))=true:=by intro _; rfl)
  (hline:(apos.endLine == pos.line)=true:=by rfl) (hs:∀ env,starEach [e] env=(false,eval e env) :: starEach [] env:=by intro _; rfl):SE C (.Call (.Attribute o "join" apos) [e] [] pos) (mBM tyS ep fo fs) :=
 qO PySem.F.plainAttrs_str PySem.F.slot_str_join PySem.F.type_str_join ty_S (fun W X g=>by rw [show rJoin C.p.K=rJoin X.K from by rw [g.K]]; exact mt_join) tA ho ha hb hfew hline hs
theorem dq(ho:SE C o fo)(ha:SA C [e] fs)(hb:∀ env,attributeBase o "split" env (eval o env)=eval o env:=by intro _; rfl) (hfew:∀ env,((backTo pos (starEach [e] env)).all (fun x=>!x.1) && (backToKw pos (keywordEach [] env)).all (fun x=>x.1.isSome)
   && decide (([e]:List Expr).length + ([]:List Keyword).length + (if ([]:List Keyword).isEmpty then 0 else 1) < 30))=true:=by intro _; rfl)
  (hline:(apos.endLine == pos.line)=true:=by rfl) (hs:∀ env,starEach [e] env=(false,eval e env) :: starEach [] env:=by intro _; rfl):SE C (.Call (.Attribute o "split" apos) [e] [] pos) (mBM tyS dc fo fs) :=
 qO PySem.F.plainAttrs_str PySem.F.slot_str_split PySem.F.type_str_split ty_S (fun W X g=>mt_split) qG ho ha hb hfew hline hs
end
def adr:Option Value->Addr
 | some (.ref a)=>a
 | _=>0
theorem aM{p:Pm}{T:Nat->Option Df}{f:Nat}{d:Df}{x:Str}{st:Stmt}{N:List Str}(hfa:p.fa f=adr (p.mg x))(F:bE p.K p.mg x st)(S:FnScope N d.ps (defScope st))(hp:d.ps.length=d.np)(hn:N.length=d.nl)
  (hb:∀ (kV doc pm:Value) (an:Option Addr) (cdv ct:Value) (us:List Value),us.length=d.ps.length->bindArgs (PySem.W.fnOf x x (defArgs st) (defBody st) (defScope st) .none kV doc pm an cdv ct) ⟨us,[]⟩=pure (d.ps.zip us))
  (h:∀ n,aH p T n->SSs (ctx p n f x st N) (defBody st) (d.body (ar T n))):sM p T f d:=by
 obtain⟨f',fd,F,hm⟩:=F.ex;have e:p.fa f=f':=by rw [hfa,hm]; rfl
 rw [<- e] at F;exact⟨x,x,st,N,fd,[],F,fun _=>F.bindsN hb,S,hp,hn,h⟩
end M
namespace M
open PySem PySem.Spec PyProof.Rows L2 B He
abbrev AlX:Type:=AlD×Bool
def obsX(fa:List Fa)(fn:List DefD)(xs:List (PySem.W.Frag->Bool))(K:PySem.W.Frag):AlX:=(obsD fa fn K,xs.all fun x=>x K)
def valX(fn:List DefD):AlX:=(He.valD fn,true)
def rp(n:Nat)(fa:List Fa)(fn:List DefD)(xs:List (PySem.W.Frag->Bool))(g:Addr->Option Obj):AlX:=obsX fa fn xs (frG g (asD g n))
def SaysX(fa:List Fa)(fn:List DefD)(xs:List (PySem.W.Frag->Bool))(K:PySem.W.Frag):Prop:=obsX fa fn xs K=valX fn
def hookX(n:Nat)(fa:List Fa)(fn:List DefD)(xs:List (PySem.W.Frag->Bool)):PySem.W.Hook where
 α:=AlX
 obs:=fun s=>rp n fa fn xs s.heap.get?
 val:=fun _=>valX fn
 says:=fun _ h=>∃ K:PySem.W.Frag,K.In h/\SaysX fa fn xs K
 of:=fun _ _ e=>⟨_,frG_in,e⟩
 keeps:=fun _ _ _ ⟨K,hK,c⟩ k=>⟨K,PySem.W.Frag.In.keeps hK k,c⟩
theorem rn{n:Nat}{fa:List Fa}{fn:List DefD}{xs:List (PySem.W.Frag->Bool)}{g:Addr->Option Obj}{s:Shared}(h:∀ a,g a=s.heap.get? a):rp n fa fn xs g=(hookX n fa fn xs).obs s:=by
 have e:g=s.heap.get?:=funext h;rw [e] <;> rfl
section
variable{fa:List Fa}{fn:List DefD}{xs:List (PySem.W.Frag->Bool)}{K:PySem.W.Frag}
theorem SaysX.d(c:SaysX fa fn xs K):SaysD fa fn K:=congrArg (fun z:AlX=>z.1) c
theorem SaysX.x(c:SaysX fa fn xs K)(i:Nat){f:PySem.W.Frag->Bool}(h:xs[i]?=some f:=by rfl):f K=true :=
 List.all_eq_true.mp (congrArg (fun z:AlX=>z.2) c) f (List.mem_of_getElem? h)
end
theorem i7{p:Pm}{x:Str}{i:Int}(h:∃ t,p.mg x=some (.int i t)):eX p x (.int i):=by
 obtain⟨t,h⟩:=h;exact⟨_,.int i,h,⟨t,rfl⟩,fun _ _ _=>.int i⟩
theorem rY{p:Pm}{x:Str}{i:Str}(h:∃ t,p.mg x=some (.str i t)):eX p x (.str i):=by
 obtain⟨t,h⟩:=h;exact⟨_,.str i,h,⟨t,rfl⟩,fun _ _ _=>.str i⟩
theorem rZ{p:Pm}{h:Heap}{x:Str}{ss:List Str}(X:p.K.In h)(Gn:h.Ns mainGlobals p.mg)(c:(Fa.glo x).ok p.K=true)(t:tupB p.K x (ss.map Dv.str)=true):eX p x (.kt (ss.map Val.str)):=by
 refine⟨_,.ref (ga p.K x),glo_ok X Gn c,rfl,fun m hs G=>.kt (fun H=>tupB_ok t H) ?_⟩;rw [List.map_map,show(Dv.v p.K ∘ Dv.str)=V.str from rfl];exact iM
theorem bh{K:PySem.W.Frag}{mg:Str->Option Value}{x:Str}{st:Stmt}(F:bE K mg x st):mg x=some (.ref (adr (mg x))):=by
 obtain⟨f,fd,_,hm⟩:=F.ex;rw [hm]; rfl
def nmX(l:List Str)(i:Nat):Str:=match l[i]? with
 | some x=>x
 | none=>⟨(List.replicate (i + 100) 97).toArray⟩
def uu(l:List Str):Bool:=decide l.Nodup && l.all fun x=>decide (x.cps.size < 100)
theorem uq{l:List Str}(h:uu l=true):∀ i j,nmX l i=nmX l j->i=j:=by
 unfold uu at h;rw [Bool.and_eq_true] at h;have h1:=of_decide_eq_true h.1;have h2:∀ x∈l,x.cps.size < 100:=fun x hx=>of_decide_eq_true (List.all_eq_true.mp h.2 x hx);intro i j e;unfold nmX at e
 cases hi:l[i]? with
 | some x =>
  rw [hi] at e
  cases hj:l[j]? with
  | some y =>
   rw [hj] at e;have e:x=y:=e;subst e;obtain⟨li,ei⟩:=List.getElem?_eq_some_iff.mp hi;obtain⟨lj,ej⟩:=List.getElem?_eq_some_iff.mp hj;exact(List.getElem_inj (h₀:=li) (h₁:=lj) h1).mp (ei.trans ej.symm)
  | none =>
   rw [hj] at e;have e:x=_:=e;have:=h2 x (List.mem_of_getElem? hi);rw [e] at this
   simp at this; omega
 | none =>
  rw [hi] at e
  cases hj:l[j]? with
  | some y =>
   rw [hj] at e;have e:_=y:=e;have:=h2 y (List.mem_of_getElem? hj);rw [<- e] at this
   simp at this; omega
  | none =>
   rw [hj] at e;have:=congrArg (fun s:Str=>s.cps.size) e
   simp at this; omega
end M
namespace M
open PySem PySem.Spec PyProof.Rows L2 B
structure wpR{α : Type}(r:Res α)(Q:α->Hh->Prop):Prop where
 of ::
 go:match r with
  | .ok a h=>Q a h
  | _=>False
structure Po where
 nx:Sl->Hh->Prop
 rt:Val->Hh->Prop:=fun _ _=>False
 bk:Sl->Hh->Prop:=fun _ _=>False
 ct:Sl->Hh->Prop:=fun _ _=>False
structure wpS(r:aC)(P:Po):Prop where
 of ::
 go:match r with
  | .nx δ h=>P.nx δ h
  | .rt v h=>P.rt v h
  | .bk δ h=>P.bk δ h
  | .ct δ h=>P.ct δ h
  | _=>False
section
variable{α β : Type}{r:Res α}{k:α->Hh->Res β}{Q Q':α->Hh->Prop}{QB:β->Hh->Prop}{δ : Sl}{h h1:Hh}{P:Po}
theorem wpR.bind(q:wpR r fun a h=>wpR (k a h) QB):wpR (r.bind k) QB:=by
 cases r with
 | ok a h=>exact q.go
 | err=>exact q.go.elim
 | exc c fs h=>exact q.go.elim
theorem wpR.mono(q:wpR r Q)(f:∀ a h,Q a h->Q' a h):wpR r Q':=by
 cases r with
 | ok a h=>exact⟨f _ _ q.go⟩
 | err=>exact q.go.elim
 | exc c fs h=>exact q.go.elim
theorem wpR.get(q:wpR r Q):∃ a h,r = .ok a h/\Q a h:=by
 cases r with
 | ok a h=>exact⟨a,h,rfl,q.go⟩
 | err=>exact q.go.elim
 | exc c fs h=>exact q.go.elim
theorem wpR.eq{a:α}(e:r = .ok a h)(q:Q a h):wpR r Q:=by rw [e]; exact⟨q⟩
theorem wpS.st{k:α->Hh->aC}(q:wpR r fun a h=>wpS (k a h) P):wpS (r.st δ k) P:=by
 cases r with
 | ok a h=>exact q.go
 | err=>exact q.go.elim
 | exc c fs h=>exact q.go.elim
theorem wpS.mono{s:aC}{P P':Po}(q:wpS s P)(f1:∀ δ h,P.nx δ h->P'.nx δ h)(f2:∀ v h,P.rt v h->P'.rt v h)(f3:∀ δ h,P.bk δ h->P'.bk δ h)(f4:∀ δ h,P.ct δ h->P'.ct δ h):wpS s P':=by
 cases s with
 | nx δ h=>exact⟨f1 _ _ q.go⟩
 | rt v h=>exact⟨f2 _ _ q.go⟩
 | bk δ h=>exact⟨f3 _ _ q.go⟩
 | ct δ h=>exact⟨f4 _ _ q.go⟩
 | err=>exact q.go.elim
 | exc c fs δ h=>exact q.go.elim
end
section
variable{δ δ':Sl}{h:Hh}{QV:Val->Hh->Prop}{QA:List Val->Hh->Prop}{QB:Bool->Hh->Prop}{P:Po}{fa fb fc fv fo:Sl->Hh->Res Val}{ft fu:Sl->Hh->Res Bool}{fs:Sl->Hh->Res (List Val)}{f g:Sl->Hh->aC}{i:Nat}{x v:Val}
theorem w_var(e:δ[i]?=some (some x))(q:QV x h):wpR (ai i δ h) QV:=by unfold ai; rw [e]; exact⟨q⟩
theorem w_K(q:QV x h):wpR (mK x δ h) QV:=⟨q⟩
theorem w_2{g:Hh->Val->Val->Res Val}(q:wpR (fa δ h) fun x h1=>wpR (fb δ h1) fun y h2=>wpR (g h2 x y) QV):wpR (m2 g fa fb δ h) QV:=.bind (q.mono fun _ _ q=>.bind q)
theorem w_1{g:Hh->Val->Res Val}(q:wpR (fa δ h) fun x h1=>wpR (g h1 x) QV):wpR (m1 g fa δ h) QV:=.bind q
theorem w_B(q:wpR (fa δ h) fun x h1=>wpR (asB x h1) QB):wpR (mB fa δ h) QB:=.bind q
theorem w_asB{b:Bool}(q:QB b h):wpR (asB (.bl b) h) QB:=⟨q⟩
theorem u2(q:wpR (fa δ h) fun x h1=>wpR (ofO (iD h1 x) h1) QB):wpR (fT fa δ h) QB:=.bind q
theorem p6(q:wpR (ft δ h) fun c h1=>if c=true then wpR (fu δ h1) QB else QB false h1):wpR (i5 ft fu δ h) QB:=.bind (q.mono fun c h1 q=>by cases c; exact⟨q⟩; (first | exact q | exact⟨q⟩ | exact q.go | exact⟨q.go⟩ | exact q.go.elim))
theorem u4(q:wpR (ft δ h) fun c h1=>if c=true then QB true h1 else wpR (fu δ h1) QB):wpR (gH ft fu δ h) QB:=.bind (q.mono fun c h1 q=>by cases c; (first | exact q | exact⟨q⟩ | exact q.go | exact⟨q.go⟩ | exact q.go.elim); exact⟨q⟩)
theorem pU(q:wpR (ft δ h) fun c h1=>QB (!c) h1):wpR (cY ft δ h) QB:=.bind (q.mono fun c h1 q=>⟨q⟩)
theorem p5(q:wpR (fa δ h) fun x h1=>∃ c,iD h1 x=some c/\if c=true then wpR (fb δ h1) QV else QV x h1):wpR (lZ fa fb δ h) QV:=.bind (q.mono fun x h1 ⟨c,e,q⟩=>by rw [e]; cases c <;> (first | exact q | exact⟨q⟩ | exact q.go | exact⟨q.go⟩ | exact q.go.elim))
theorem w_orV(q:wpR (fa δ h) fun x h1=>∃ c,iD h1 x=some c/\if c=true then QV x h1 else wpR (fb δ h1) QV):wpR (uD fa fb δ h) QV:=.bind (q.mono fun x h1 ⟨c,e,q⟩=>by rw [e]; cases c <;> (first | exact q | exact⟨q⟩ | exact q.go | exact⟨q.go⟩ | exact q.go.elim))
theorem pT(q:wpR (fa δ h) fun x h1=>∃ c,iD h1 x=some c/\QV (.bl (!c)) h1):wpR (rJ fa δ h) QV:=.bind (q.mono fun x h1 ⟨c,e,q⟩=>by rw [e]; (first | exact q | exact⟨q⟩ | exact q.go | exact⟨q.go⟩ | exact q.go.elim))
theorem w_if(q:wpR (ft δ h) fun c h1=>if c=true then wpR (fa δ h1) QV else wpR (fb δ h1) QV):wpR (mIf ft fa fb δ h) QV:=.bind (q.mono fun c h1 q=>by cases c <;> (first | exact q | exact⟨q⟩ | exact q.go | exact⟨q.go⟩ | exact q.go.elim))
theorem u7(q:QA [] h):wpR (av δ h) QA:=⟨q⟩
theorem pY(q:wpR (fa δ h) fun x h1=>wpR (fs δ h1) fun xs h2=>QA (x :: xs) h2):wpR (ae fa fs δ h) QA:=.bind (q.mono fun _ _ q=>.bind (q.mono fun _ _ q=>⟨q⟩))
theorem uZ(q:wpR (fs δ h) fun xs h1=>xs.length<=1000000/\QV (.tup xs) h1):wpR (fS fs δ h) QV:=.bind (q.mono fun xs h1 q=>by rw [if_pos q.1]; exact⟨q.2⟩)
theorem w_lst{md:Md}(q:wpR (fs δ h) fun xs h1=>xs.length<=1000000/\wpR (bQ md xs h1) QV):wpR (bb md fs δ h) QV:=.bind (q.mono fun xs h1 q=>by rw [if_pos q.1]; exact q.2)
theorem kU{xs:List Val}(q:QV (.lst xs) h):wpR (bQ .dat xs h) QV:=⟨q⟩
theorem pV{xs:List Val}(n:Val.nls xs=true)(q:QV (.ref (.loc h.loc.length)) (h.cX (.lst xs))):wpR (bQ .loc xs h) QV:=by unfold bQ; dsimp only; rw [if_pos n]; (first | exact q | exact⟨q⟩ | exact q.go | exact⟨q.go⟩ | exact q.go.elim)
theorem w_C{g:Hh->List Val->Res Val}(q:wpR (fs δ h) fun xs h1=>wpR (g h1 xs) QV):wpR (mC g fs δ h) QV:=.bind q
theorem pZ{Γ : Calls}{n:Nat}(q:wpR (fs δ h) fun xs h1=>wpR (Γ n xs h1) QV):wpR (aA Γ n fs δ h) QV:=.bind q
theorem w_ch{g g':Hh->Val->Val->Res Val}(q:wpR (fa δ h) fun x h1=>wpR (fb δ h1) fun y h2=>wpR (g h2 x y) fun z h3=>∃ b,z = .bl b/\if b=true then wpR (fc δ h3) fun w h4=>wpR (g' h4 y w) QV else QV (.bl false) h3):wpR (mCh g g' fa fb fc δ h) QV :=
 .bind (q.mono fun _ _ q=>.bind (q.mono fun _ _ q=>.bind (q.mono fun z h3 ⟨b,e,q⟩=>by subst e; cases b; (first | exact q | exact⟨q⟩ | exact q.go | exact⟨q.go⟩ | exact q.go.elim); exact .bind q)))
theorem w_bl{b:Bool}{R:Bool->Prop}(q:R b):∃ c,Val.bl b = .bl c/\R c:=⟨b,rfl,q⟩
theorem w_sl{fl fh:Sl->Hh->Res (Option Int)}(q:wpR (fa δ h) fun x h1=>wpR (fl δ h1) fun l h2=>wpR (fh δ h2) fun u h3=>wpR (lF h3 x l u) QV):wpR (mSl fa fl fh δ h) QV:=.bind (q.mono fun _ _ q=>.bind (q.mono fun _ _ q=>.bind q))
theorem u6{QO:Option Int->Hh->Prop}(q:QO none h):wpR (dS δ h) QO:=⟨q⟩
theorem w_P{QO:Option Int->Hh->Prop}(q:wpR (fa δ h) fun x h1=>wpR (asP x h1) QO):wpR (mP fa δ h) QO:=.bind q
theorem w_bm{ty:Hh->Val->Bool}{g:Hh->Val->List Val->Res Val}(q:wpR (fo δ h) fun x h1=>ty h1 x=true/\wpR (fs δ h1) fun xs h2=>wpR (g h2 x xs) QV):wpR (mBM ty g fo fs δ h) QV:=.bind (q.mono fun x h1 q=>by rw [if_pos q.1]; exact .bind q.2)
theorem jD(q:wpS (f δ h) { P with nx:=fun δ1 h1=>wpS (g δ1 h1) P }):wpS (az f g δ h) P:=by
 unfold az
 cases e:f δ h with
 | nx δ1 h1=>rw [e] at q; (first | exact q | exact⟨q⟩ | exact q.go | exact⟨q.go⟩ | exact q.go.elim)
 | rt v h1=>rw [e] at q; (first | exact q | exact⟨q⟩ | exact q.go | exact⟨q.go⟩ | exact q.go.elim)
 | bk δ1 h1=>rw [e] at q; (first | exact q | exact⟨q⟩ | exact q.go | exact⟨q.go⟩ | exact q.go.elim)
 | ct δ1 h1=>rw [e] at q; (first | exact q | exact⟨q⟩ | exact q.go | exact⟨q.go⟩ | exact q.go.elim)
 | err=>rw [e] at q; (first | exact q | exact⟨q⟩ | exact q.go | exact⟨q.go⟩ | exact q.go.elim)
 | exc c fs δ1 h1=>rw [e] at q; (first | exact q | exact⟨q⟩ | exact q.go | exact⟨q.go⟩ | exact q.go.elim)
theorem s_asg(q:wpR (fa δ h) fun x h1=>P.nx (δ.set i (some x)) h1):wpS (aI fa (tgN i) δ h) P:=.st (q.mono fun _ _ q=>⟨q⟩)
theorem s_drop(q:wpR (fa δ h) fun _ h1=>P.nx δ h1):wpS (jM fa δ h) P:=.st (q.mono fun _ _ q=>⟨q⟩)
theorem s_ret(q:wpR (fa δ h) P.rt):wpS (bg fa δ h) P:=.st (q.mono fun _ _ q=>⟨q⟩)
theorem qR(q:P.nx δ h):wpS (bw δ h) P:=⟨q⟩
theorem s_if(q:wpR (ft δ h) fun c h1=>if c=true then wpS (f δ h1) P else wpS (g δ h1) P):wpS (bU ft f g δ h) P:=.st (q.mono fun c h1 q=>by cases c <;> (first | exact q | exact⟨q⟩ | exact q.go | exact⟨q.go⟩ | exact q.go.elim))
theorem qQ{fi:Sl->Hh->Res Val}(q:wpR (fv δ h) fun z h1=>wpR (fo δ h1) fun x h2=>wpR (fi δ h2) fun y h3=>∃ h4,je h3 x y z=some h4/\P.nx δ h4):wpS (jK fo fi fv δ h) P:=.st (q.mono fun _ _ q=>.st (q.mono fun _ _ q=>.st (q.mono fun _ _ ⟨h4,e,q⟩=>by rw [e]; (first | exact q | exact⟨q⟩ | exact q.go | exact⟨q.go⟩ | exact q.go.elim))))
theorem s_par{i j:Nat}(q:wpR (fs δ h) fun xs h1=>∃ x y,xs=[x,y]/\P.nx ((δ.set i (some x)).set j (some y)) h1):wpS (mPar i j fs δ h) P:=.st (q.mono fun _ _ ⟨x,y,e,q⟩=>by subst e; (first | exact q | exact⟨q⟩ | exact q.go | exact⟨q.go⟩ | exact q.go.elim))
theorem dQ{T:Nat->Option Df}{n k:Nat}{d:Df}{xs:List Val}(hT:T k=some d)(hl:xs.length=d.np)(q:wpS (d.body (ar T n) (startM d xs) h) { nx:=fun _ h1=>QV .non (h1.cut h.loc.length),rt:=fun v h1=>wpR (bP h.loc.length v h1) QV }):wpR (ar T (n + 1) k xs h) QV:=by
 unfold ar;rw [hT];dsimp only;rw [if_pos hl]
 cases e:d.body (ar T n) (startM d xs) h with
 | nx δ1 h1=>rw [e] at q; (first | exact q | exact⟨q⟩ | exact q.go | exact⟨q.go⟩ | exact q.go.elim)
 | rt v h1=>rw [e] at q; (first | exact q | exact⟨q⟩ | exact q.go | exact⟨q.go⟩ | exact q.go.elim)
 | bk δ1 h1=>rw [e] at q; (first | (first | exact q | exact⟨q⟩ | exact q.go | exact⟨q.go⟩ | exact q.go.elim) | exact⟨q⟩ | exact q.go | exact⟨q.go⟩ | exact q.go.elim)
 | ct δ1 h1=>rw [e] at q; (first | (first | exact q | exact⟨q⟩ | exact q.go | exact⟨q.go⟩ | exact q.go.elim) | exact⟨q⟩ | exact q.go | exact⟨q.go⟩ | exact q.go.elim)
 | err=>rw [e] at q; (first | (first | exact q | exact⟨q⟩ | exact q.go | exact⟨q.go⟩ | exact q.go.elim) | exact⟨q⟩ | exact q.go | exact⟨q.go⟩ | exact q.go.elim)
 | exc c fs δ1 h1=>rw [e] at q; (first | (first | exact q | exact⟨q⟩ | exact q.go | exact⟨q.go⟩ | exact q.go.elim) | exact⟨q⟩ | exact q.go | exact⟨q.go⟩ | exact q.go.elim)
theorem sx:h.cut h.loc.length=h:=by unfold Hh.cut; rw [List.take_length]
theorem jW{n:Nat}(hv:v.nl=true)(q:QV v (h.cut n)):wpR (bP n v h) QV:=by unfold bP; rw [if_pos hv]; (first | exact q | exact⟨q⟩ | exact q.go | exact⟨q.go⟩ | exact q.go.elim)
theorem w_retF{n i:Nat}{xs:List Val}(hi:n<=i)(hx:h.loc[i]?=some (.lst xs))(q:QV (.lst xs) (h.cut n)):wpR (bP n (.ref (.loc i)) h) QV:=by
 unfold bP;rw [if_neg (by intro z; cases z)];dsimp only;rw [if_neg (by omega),hx]
 (first | exact q | exact⟨q⟩ | exact q.go | exact⟨q.go⟩ | exact q.go.elim)
theorem pC{A B:Prop}(a:A):if true=true then A else B:=by rw [if_pos rfl]; exact a
theorem pD{A B:Prop}(b:B):if false=true then A else B:=by rw [if_neg (by simp)]; exact b
theorem s_for{fw:Sl->Hh->Res Wk}{tg:Val->Sl->Option Sl} (q:wpR (fw δ h) fun k h1=>∃ I:Nat->Sl->Hh->Prop,I 0 δ h1 /\
  (∀ i δ h,i < k.n->I i δ h->∃ x δ1,k.it i h=some (some x)/\tg x δ = some δ1/\wpS (f δ1 h) { P with nx:=I (i + 1),ct:=I (i + 1),bk:=P.nx })/\(∀ δ h,I k.n δ h->k.it k.n h=some none/\P.nx δ h)):wpS (i4 fw tg f δ h) P:=by
 refine .st (q.mono fun k h1 ⟨I,i0,hs,hd⟩=>?_);have key:∀ n i δ h,i + n=k.n->I i δ h->wpS (forM k.it tg f n i δ h) P:=by
  intro n
  induction n with
  | zero =>
   intro i δ h hn hi;obtain rfl:i=k.n:=hn;obtain⟨e,q⟩:=hd δ h hi;unfold forM; rw [e]; (first | exact q | exact⟨q⟩ | exact q.go | exact⟨q.go⟩ | exact q.go.elim)
  | succ n ih =>
   intro i δ h hn hi;obtain⟨x,δ1,e1,e2,q⟩:=hs i δ h (by omega) hi;unfold forM;rw [e1];dsimp only;rw [e2];dsimp only
   cases e:f δ1 h with
   | nx δ2 h2=>rw [e] at q; exact ih (i + 1) δ2 h2 (by omega) q.go
   | ct δ2 h2=>rw [e] at q; exact ih (i + 1) δ2 h2 (by omega) q.go
   | bk δ2 h2=>rw [e] at q; (first | exact q | exact⟨q⟩ | exact q.go | exact⟨q.go⟩ | exact q.go.elim)
   | rt v h2=>rw [e] at q; (first | exact q | exact⟨q⟩ | exact q.go | exact⟨q.go⟩ | exact q.go.elim)
   | err=>rw [e] at q; (first | exact q | exact⟨q⟩ | exact q.go | exact⟨q.go⟩ | exact q.go.elim)
   | exc c fs δ2 h2=>rw [e] at q; (first | exact q | exact⟨q⟩ | exact q.go | exact⟨q.go⟩ | exact q.go.elim)
 exact key k.n 0 δ h1 (by omega) i0
theorem w_lc{md:Md}{vs:List Nat}{fw:Sl->Hh->Res Wk}{tg:Val->Sl->Option Sl}{fe:Sl->Hh->Res Val} (q:wpR (fw δ h) fun k h1=>k.n<=1000000/\∃ I:Nat->List Val->Hh->Prop,I 0 [] h1 /\
  (∀ i acc h,i < k.n->I i acc h->∃ x δ1,k.it i h=some (some x)/\tg x (cU δ vs)=some δ1/\wpR (ft δ1 h) fun b h2=>if b=true then wpR (fe δ1 h2) fun y h3=>I (i + 1) (acc ++ [y]) h3 else I (i + 1) acc h2) /\
  (∀ acc h,I k.n acc h->k.it k.n h=some none/\wpR (bQ md acc h) QV)):wpR (mLc md vs fw tg ft fe δ h) QV:=by
 refine .bind (q.mono fun k h1 ⟨hk,I,i0,hs,hd⟩=>?_);rw [if_pos hk];refine .bind ?_;have key:∀ n i acc h,i + n=k.n->I i acc h->wpR (lcM k.it tg ft fe (cU δ vs) n i h) fun ys h2=>wpR (bQ md (acc ++ ys) h2) QV:=by
  intro n
  induction n with
  | zero =>
   intro i acc h hn hi;obtain rfl:i=k.n:=hn;obtain⟨e,q⟩:=hd acc h hi;unfold lcM; rw [e];refine⟨?_⟩;show wpR (bQ md (acc ++ []) h) QV;rw [List.append_nil]; (first | exact q | exact⟨q⟩ | exact q.go | exact⟨q.go⟩ | exact q.go.elim)
  | succ n ih =>
   intro i acc h hn hi;obtain⟨x,δ1,e1,e2,q⟩:=hs i acc h (by omega) hi;unfold lcM;rw [e1];dsimp only;rw [e2];dsimp only
   cases e:ft δ1 h with
   | err=>rw [e] at q; (first | (first | exact q | exact⟨q⟩ | exact q.go | exact⟨q.go⟩ | exact q.go.elim) | exact⟨q⟩ | exact q.go | exact⟨q.go⟩ | exact q.go.elim)
   | exc c fs h2=>rw [e] at q; (first | (first | exact q | exact⟨q⟩ | exact q.go | exact⟨q.go⟩ | exact q.go.elim) | exact⟨q⟩ | exact q.go | exact⟨q.go⟩ | exact q.go.elim)
   | ok b h2 =>
    rw [e] at q
    cases b
    .exact ih (i + 1) acc h2 (by omega) q.go
    .have q:wpR (fe δ1 h2) fun y h3=>I (i + 1) (acc ++ [y]) h3:=q.go;dsimp only
     cases e3:fe δ1 h2 with
     | err=>rw [e3] at q; (first | (first | exact q | exact⟨q⟩ | exact q.go | exact⟨q.go⟩ | exact q.go.elim) | exact⟨q⟩ | exact q.go | exact⟨q.go⟩ | exact q.go.elim)
     | exc c fs h3=>rw [e3] at q; (first | (first | exact q | exact⟨q⟩ | exact q.go | exact⟨q.go⟩ | exact q.go.elim) | exact⟨q⟩ | exact q.go | exact⟨q.go⟩ | exact q.go.elim)
     | ok y h3 =>
      rw [e3] at q;refine .bind ((ih (i + 1) (acc ++ [y]) h3 (by omega) q.go).mono fun ys h4 q=>?_);refine⟨?_⟩;show wpR (bQ md (acc ++ y :: ys) h4) QV;rw [List.append_assoc] at q; (first | exact q | exact⟨q⟩ | exact q.go | exact⟨q.go⟩ | exact q.go.elim)
 have:=key k.n 0 [] h1 (by omega) i0;exact this
theorem uX(q:QB true h):wpR (ju δ h) QB:=⟨q⟩
theorem w_wk{QW:Wk->Hh->Prop}(q:wpR (fa δ h) fun x h1=>∃ k,iC h1 x=some k/\QW k h1):wpR (mWk fa δ h) QW:=.bind (q.mono fun x h1 ⟨k,e,q⟩=>by rw [e]; (first | exact q | exact⟨q⟩ | exact q.go | exact⟨q.go⟩ | exact q.go.elim))
theorem u3{QW:Wk->Hh->Prop}{wk:List Val->Option Wk}(q:wpR (fs δ h) fun xs h1=>∃ k,wk xs=some k/\QW k h1):wpR (uC wk fs δ h) QW:=.bind (q.mono fun x h1 ⟨k,e,q⟩=>by rw [e]; (first | exact q | exact⟨q⟩ | exact q.go | exact⟨q.go⟩ | exact q.go.elim))
theorem pW{QW:Wk->Hh->Prop}(q:wpR (fs δ h) fun xs h1=>∃ k,wkE h1 xs=some k/\QW k h1):wpR (jL fs δ h) QW:=.bind (q.mono fun x h1 ⟨k,e,q⟩=>by rw [e]; (first | exact q | exact⟨q⟩ | exact q.go | exact⟨q.go⟩ | exact q.go.elim))
theorem pQ{n:Int}{R:Wk->Prop}(hn:-(2 ^ 62)<=n/\n < 2 ^ 62)(q:R ⟨itR 0 n.toNat,n.toNat⟩):∃ k,wkR [.int n]=some k/\R k:=⟨_,(if_pos hn:wkR [.int n]=_),q⟩
theorem loopD{xs:List Val}{tg:Val->Sl->Option Sl}(I:Nat->Sl->Hh->Prop)(i0:I 0 δ h)(hs:∀ i δ h x,xs[i]?=some x->I i δ h->∃ δ1,tg x δ = some δ1/\wpS (f δ1 h) { P with nx:=I (i + 1),ct:=I (i + 1),bk:=P.nx })(hd:∀ δ h,I xs.length δ h->P.nx δ h) :
  ∃ I:Nat->Sl->Hh->Prop,I 0 δ h/\(∀ i δ h,i < (Wk.mk (itD xs) xs.length).n->I i δ h->∃ x δ1,(Wk.mk (itD xs) xs.length).it i h=some (some x)/\tg x δ = some δ1/\wpS (f δ1 h) { P with nx:=I (i + 1),ct:=I (i + 1),bk:=P.nx }) /\
   (∀ δ h,I (Wk.mk (itD xs) xs.length).n δ h->(Wk.mk (itD xs) xs.length).it (Wk.mk (itD xs) xs.length).n h=some none/\P.nx δ h) :=
 ⟨I,i0,fun i δ h hi ii=>by
  have hi:i < xs.length:=hi;obtain⟨δ1,e,q⟩:=hs i δ h xs[i] (by simp [hi]) ii;exact⟨xs[i],δ1,by simp [itD,hi],e,q⟩,fun δ h ii=>⟨by simp [itD],hd δ h ii⟩⟩
theorem loopR{lo:Int}{n:Nat}{tg:Val->Sl->Option Sl}(I:Nat->Sl->Hh->Prop)(i0:I 0 δ h)(hs:∀ (i:Nat) δ h,i < n->I i δ h->∃ δ1,tg (.int (lo + i)) δ = some δ1/\wpS (f δ1 h) { P with nx:=I (i + 1),ct:=I (i + 1),bk:=P.nx })(hd:∀ δ h,I n δ h->P.nx δ h) :
  ∃ I:Nat->Sl->Hh->Prop,I 0 δ h/\(∀ i δ h,i < (Wk.mk (itR lo n) n).n->I i δ h->∃ x δ1,(Wk.mk (itR lo n) n).it i h=some (some x)/\tg x δ = some δ1/\wpS (f δ1 h) { P with nx:=I (i + 1),ct:=I (i + 1),bk:=P.nx }) /\
   (∀ δ h,I (Wk.mk (itR lo n) n).n δ h->(Wk.mk (itR lo n) n).it (Wk.mk (itR lo n) n).n h=some none/\P.nx δ h) :=
 ⟨I,i0,fun i δ h hi ii=>by
  have hi:i < n:=hi;obtain⟨δ1,e,q⟩:=hs i δ h hi ii;exact⟨.int (lo + i),δ1,by simp [itR,hi],e,q⟩,fun δ h ii=>⟨by simp [itR],hd δ h ii⟩⟩
theorem iA{A B c:Prop}[Decidable c](h1:c->A)(h2:¬ c->B):if decide c=true then A else B:=by
 by_cases h:c
 .rw [decide_eq_true h]; exact pC (h1 h)
 .rw [decide_eq_false h]; exact pD (h2 h)
theorem ite_b{A B:Prop}{c:Bool}(h1:c=true->A)(h2:c=false->B):if c=true then A else B:=by
 cases c
 .exact pD (h2 rfl)
 .exact pC (h1 rfl)
theorem lL{a b:Int}(hm:isMul a b=true)(q:QV (.int (a * b)) h):wpR (bZ h (.int a) (.int b)) QV:=by unfold bZ; dsimp only; rw [if_pos hm]; (first | exact q | exact⟨q⟩ | exact q.go | exact⟨q.go⟩ | exact q.go.elim)
theorem oP{a b:Int}(h1:-(2 ^ 64) < a)(h2:a < 2 ^ 64):isMul a b=true:=decide_eq_true (.inl ⟨h1,h2⟩)
theorem fW{a b:Int}(h1:-(2 ^ 64) < b)(h2:b < 2 ^ 64):isMul a b=true:=decide_eq_true (.inr ⟨h1,h2⟩)
theorem o_mod{a b:Int}(hm:0 < b)(q:QV (.int (a % b)) h):wpR (cw h (.int a) (.int b)) QV:=by unfold cw; dsimp only; rw [if_pos hm]; (first | exact q | exact⟨q⟩ | exact q.go | exact⟨q.go⟩ | exact q.go.elim)
theorem o_div{a b:Int}(hm:0 < b/\b < 18446744073709551616)(q:QV (.int (a / b)) h):wpR (fR h (.int a) (.int b)) QV:=by unfold fR; dsimp only; rw [if_pos hm]; (first | exact q | exact⟨q⟩ | exact q.go | exact⟨q.go⟩ | exact q.go.elim)
theorem jG{a b:Int}(hm:0<=b/\(Builtin.Int.intBits a:Int) * b<=2 ^ 27)(q:QV (.int (a ^ b.toNat)) h):wpR (bj h (.int a) (.int b)) QV:=by unfold bj; dsimp only; rw [if_pos hm]; (first | exact q | exact⟨q⟩ | exact q.go | exact⟨q.go⟩ | exact q.go.elim)
theorem o_add{a b:Int}(q:QV (.int (a + b)) h):wpR (aJ h (.int a) (.int b)) QV:=⟨q⟩
theorem o_sub{a b:Int}(q:QV (.int (a - b)) h):wpR (fP h (.int a) (.int b)) QV:=⟨q⟩
theorem o_lt{a b:Int}(q:QV (.bl (decide (a < b))) h):wpR (rl h (.int a) (.int b)) QV:=⟨q⟩
theorem o_le{a b:Int}(q:QV (.bl (decide (a<=b))) h):wpR (jt h (.int a) (.int b)) QV:=⟨q⟩
theorem o_gt{a b:Int}(q:QV (.bl (decide (b < a))) h):wpR (lH h (.int a) (.int b)) QV:=⟨q⟩
theorem o_ge{a b:Int}(q:QV (.bl (decide (b<=a))) h):wpR (rm h (.int a) (.int b)) QV:=⟨q⟩
theorem o_eqI{a b:Int}(q:QV (.bl (decide (a=b))) h):wpR (hL h (.int a) (.int b)) QV:=⟨q⟩
theorem o_neI{a b:Int}(q:QV (.bl (!decide (a=b))) h):wpR (dR h (.int a) (.int b)) QV:=⟨q⟩
theorem o_eqS{a b:Str}(q:QV (.bl (decide (a=b))) h):wpR (hL h (.str a) (.str b)) QV:=⟨q⟩
theorem o_neS{a b:Str}(q:QV (.bl (!decide (a=b))) h):wpR (dR h (.str a) (.str b)) QV:=⟨q⟩
theorem o_is(q:QV (.bl (isNon x)) h):wpR (nk h x .non) QV:=⟨q⟩
theorem jH{xs:List Val}{j:Int}(e:atI xs j=some v)(q:QV v h):wpR (aq h (.lst xs) (.int j)) QV:=by
 show wpR (match atI xs j with | some v=>.ok v h | none=>.err) QV;rw [e]; (first | exact q | exact⟨q⟩ | exact q.go | exact⟨q.go⟩ | exact q.go.elim)
theorem lW{xs:List Val}{j:Int}(e:atI xs j=some v)(q:QV v h):wpR (aq h (.tup xs) (.int j)) QV:=by
 show wpR (match atI xs j with | some v=>.ok v h | none=>.err) QV;rw [e]; (first | exact q | exact⟨q⟩ | exact q.go | exact⟨q.go⟩ | exact q.go.elim)
theorem o_get{r:Rf}{kvs:List (Key×Val)}{s:Str}(hr:h.get r=some (.dct kvs))(e:aV kvs (.inr s)=some v)(q:QV v h):wpR (aq h (.ref r) (.str s)) QV:=by
 have hk:rdK h (.ref r)=some kvs:=ir hr;have hd:cy h (.ref r)=true:=by unfold cy; rw [hk]; rfl
 unfold aq;rw [if_pos hd];unfold iT eW;rw [hk];show wpR (match (eN (.str s)).map (aV kvs) with | some (some v)=>.ok v h | _=>.err) QV;show wpR (match some (aV kvs (.inr s)) with | some (some v)=>.ok v h | _=>.err) QV;rw [e]; (first | exact q | exact⟨q⟩ | exact q.go | exact⟨q.go⟩ | exact q.go.elim)
theorem o_put{r:Rf}{kvs:List (Key×Val)}{s:Str}{R:Hh->Prop}(hr:h.get r=some (.dct kvs))(hn:v.nl=true)(hl:kvs.length < 1000000)(q:R (h.set r (.dct (dt kvs (.inr s) v)))):∃ h4,je h (.ref r) (.str s) v=some h4/\R h4:=by
 refine⟨_,?_,q⟩;unfold je;dsimp only;rw [hr];dsimp only;show(if v.nl=true/\kvs.length < 1000000 then some _ else none)=_;rw [if_pos ⟨hn,hl⟩]
theorem rF{r:Rf}{ys:List Val}(hr:h.get r=some (.lst ys))(hn:v.nl=true)(hl:ys.length < 1000000)(q:QV .non (h.set r (.lst (ys ++ [v])))):wpR (bV h (.ref r) [v]) QV:=by
 unfold bV;dsimp only;rw [hr];dsimp only;rw [if_pos ⟨hn,hl⟩]; (first | exact q | exact⟨q⟩ | exact q.go | exact⟨q.go⟩ | exact q.go.elim)
theorem o_tyL{r:Rf}{ys:List Val}(hr:h.get r=some (.lst ys)):tyL h (.ref r)=true:=by
 have:rdL h (.ref r)=some ys:=by show(match h.get r with | some (.lst xs)=>some xs | _=>none)=_; rw [hr]
 unfold tyL; rw [this]; rfl
end
end M
namespace M
open PySem PySem.Spec PyProof.Rows L2 B
section
variable{r:Res Val}{rb:Res Bool}{ra:Res (List Val)}{ro:Res (Option Int)}{rw:Res Wk}{s:aC}{P:Po}{QV:Val->Hh->Prop}{QB:Bool->Hh->Prop}{QA:List Val->Hh->Prop}{QO:Option Int->Hh->Prop}{QW:Wk->Hh->Prop}
theorem kV(q:wpR r QV):wpR r QV:=q
theorem kT(q:wpR rb QB):wpR rb QB:=q
theorem kA(q:wpR ra QA):wpR ra QA:=q
theorem kO(q:wpR ro QO):wpR ro QO:=q
theorem kW(q:wpR rw QW):wpR rw QW:=q
theorem kS(q:wpS s P):wpS s P:=q
end
section
variable{QV:Val->Hh->Prop}{QB:Bool->Hh->Prop}{QA:List Val->Hh->Prop}{QO:Option Int->Hh->Prop}{P:Po}{δ : Sl}{h:Hh}{x y v:Val}
theorem u5{α : Type}{o:Option α}{a:α}{Q:α->Hh->Prop}(e:o=some a)(q:Q a h):wpR (ofO o h) Q:=by rw [e]; exact⟨q⟩
theorem p4{i:Int}(q:QO (some i) h):wpR (asP (.int i) h) QO:=⟨q⟩
theorem p_nx{a c d:Sl->Hh->Prop}{b:Val->Hh->Prop}(q:a δ h):(Po.mk a b c d).nx δ h:=q
theorem p_rt{a c d:Sl->Hh->Prop}{b:Val->Hh->Prop}(q:b v h):(Po.mk a b c d).rt v h:=q
theorem jY{r:Res Val}(R:Val->Hh->Prop)(q:wpR r R)(k:∀ v h,R v h->QV v h):wpR r QV:=q.mono k
theorem s_join{s:aC}(R:Sl->Hh->Prop)(q:wpS s { P with nx:=R })(k:∀ δ h,R δ h->P.nx δ h):wpS s P:=q.mono k (fun _ _ h=>h) (fun _ _ h=>h) (fun _ _ h=>h)
theorem s_keep{f:Sl->Hh->aC}(q:wpS (f δ h) { P with nx:=fun δ' h'=>δ' = δ/\h'=h })(k:P.nx δ h):wpS (f δ h) P:=q.mono (fun _ _ ⟨e1,e2⟩=>by rw [e1,e2]; exact k) (fun _ _ h=>h) (fun _ _ h=>h) (fun _ _ h=>h)
theorem kPnx(q:P.nx δ h):P.nx δ h:=q
theorem kPrt(q:P.rt v h):P.rt v h:=q
theorem el{ft:Sl->Hh->Res Bool}{f g:Sl->Hh->aC}{b:Bool}(t:wpR (ft δ h) fun c h'=>c=b/\h'=h)(q1:b=true->wpS (f δ h) P)(q2:b=false->wpS (g δ h) P):wpS (bU ft f g δ h) P:=s_if (t.mono fun c h' ⟨e1,e2⟩=>by
 subst e1 e2
 cases c
 .exact q2 rfl
 .exact q1 rfl)
theorem s_ifF{ft:Sl->Hh->Res Bool}{f g:Sl->Hh->aC}(t:wpR (ft δ h) fun c h'=>c=false/\wpS (g δ h') P):wpS (bU ft f g δ h) P:=s_if (t.mono fun c h' ⟨e1,q⟩=>by subst e1; exact q)
theorem kX{ft:Sl->Hh->Res Bool}{fa fb:Sl->Hh->Res Val}{b:Bool}(t:wpR (ft δ h) fun c h'=>c=b/\h'=h)(q1:b=true->wpR (fa δ h) QV)(q2:b=false->wpR (fb δ h) QV):wpR (mIf ft fa fb δ h) QV:=w_if (t.mono fun c h' ⟨e1,e2⟩=>by
 subst e1 e2
 cases c
 .exact q2 rfl
 .exact q1 rfl)
theorem if_nt{A B:Prop}(b:B):if (!true)=true then A else B:=b
theorem if_nf{A B:Prop}(a:A):if (!false)=true then A else B:=a
theorem w_xy{R:Val->Val->Prop}(q:R x y):∃ a b,[x,y]=[a,b]/\R a b:=⟨x,y,rfl,q⟩
theorem k_le{xs:List Val}{n:Nat}{A:Prop}(e:xs.length<=n)(a:A):xs.length<=n/\A:=⟨e,a⟩
theorem mi(q:wpR (aq h x y) QV):wpR (aq h x y) QV:=q
theorem oN(q:wpR (gV h x) QV):wpR (gV h x) QV:=q
theorem rO{xs:List Val}(q:wpR (dh h xs) QV):wpR (dh h xs) QV:=q
theorem oO{T:Ity}(q:wpR (dN T h x) QV):wpR (dN T h x) QV:=q
theorem oM(q:wpR (bj h x y) QV):wpR (bj h x y) QV:=q
theorem eS{xs:List Val}{i:Int}(h0:0<=i)(h1:i < xs.length)(q:∀ v,v∈xs->xs[i.toNat]?=some v->QV v h):wpR (aq h (.lst xs) (.int i)) QV:=by
 obtain⟨v,e,hv,hg⟩:=sF (xs:=xs) (i:=i) (by intro z; subst z; simp at h1; omega) h0 h1;exact jH e (q v hv hg)
theorem o_big(q:∀ b:Int,0 < b->QV (.int b) h):wpR (m2 bj (m2 bj (m2 bj (mK (.int 10)) (mK (.int 50))) (mK (.int 60))) (mK (.int 10)) δ h) QV :=
 w_2 (w_2 (w_2 (w_K (w_K (jG (by decide +kernel) (w_K (jG (by decide +kernel) (w_K (jG (by decide +kernel) (q _ (by decide +kernel)))))))))))
theorem oH(q:QV (.int 1000000) h):wpR (bj h (.int 10) (.int 6)) QV:=jG (by decide +kernel) q
theorem oG(q:QV (.int 1000000000) h):wpR (bj h (.int 10) (.int 9)) QV:=jG (by decide +kernel) q
theorem lK(q:QV (.int 1000000000000000000) h):wpR (bj h (.int 10) (.int 18)) QV:=jG (by decide +kernel) q
theorem any_ints{f:Int}:∀ {ds:List Int},((ds.map Val.int).any fun z=>eqM z (.int f))=decide (f∈ds)
 | []=>rfl
 | d :: ds=>by
  rw [List.map_cons,List.any_cons,any_ints (ds:=ds)];show((d == f) || decide (f∈ds))=_
  by_cases hd:d=f
  .subst hd; simp
  .have h1:(d == f)=false:=by simpa using hd
   rw [h1,Bool.false_or];have h2:¬ f=d:=fun z=>hd z.symm
   simp only [List.mem_cons,h2,false_or]
theorem jh{f:Str}:∀ {ds:List Str},((ds.map Val.str).any fun z=>eqM z (.str f))=decide (f∈ds)
 | []=>rfl
 | d :: ds=>by
  rw [List.map_cons,List.any_cons,jh (ds:=ds)];show((d == f) || decide (f∈ds))=_
  by_cases hd:d=f
  .subst hd; simp
  .have h1:(d == f)=false:=by simpa using hd
   rw [h1,Bool.false_or];have h2:¬ f=d:=fun z=>hd z.symm
   simp only [List.mem_cons,h2,false_or]
theorem all_ints{ds:List Int}:(ds.map Val.int).all cN=true:=by simp [cN]
theorem all_strs{ds:List Str}:(ds.map Val.str).all cN=true:=by simp [cN]
theorem nA{xs:List Val}{b:Bool}(neg:Bool)(hy:y = .lst xs\/y = .tup xs\/y = .kt xs)(f:cN x=true)(fa:xs.all cN=true)(e:(xs.any fun z=>eqM z x)=b):cx neg inU h x y = .ok (.bl (if neg=true then !b else b)) h:=by
 have hd:cy h y=false:=by rcases hy with rfl | rfl | rfl <;> rfl
 have hq:rdQ h y=some xs:=by rcases hy with rfl | rfl | rfl <;> rfl
 have hs:inS h x y=some b:=by
  rcases hy with rfl | rfl | rfl
  all_goals
   unfold inS;dsimp only;rw [hq];dsimp only;rw [f,fa,e]
   rfl
 unfold cx inU;rw [if_neg (by rw [hd]; simp),hs]
theorem o_inI{f:Int}{ds:List Int}(q:QV (.bl (decide (f∈ds))) h):wpR (gF h (.int f) (.lst (ds.map .int))) QV:=wpR.eq (nA false (.inl rfl) rfl all_ints any_ints) q
theorem o_inW{f:Str}{xs:List Val}(ds:List Str)(e:xs=ds.map .str)(hy:y = .lst xs\/y = .tup xs\/y = .kt xs)(q:QV (.bl (decide (f∈ds))) h):wpR (gF h (.str f) y) QV:=by subst e; exact wpR.eq (nA false hy rfl all_strs jh) q
theorem rB{f:Str}{xs:List Val}(ds:List Str)(e:xs=ds.map .str)(hy:y = .lst xs\/y = .tup xs\/y = .kt xs)(q:QV (.bl (!decide (f∈ds))) h):wpR (fQ h (.str f) y) QV:=by subst e; exact wpR.eq (nA true hy rfl all_strs jh) q
theorem o_getK{r:Rf}{kvs:List (Key×Val)}{k:Key}(hr:h.get r=some (.dct kvs))(ek:eN x=some k)(e:aV kvs k=some v)(q:QV v h):wpR (aq h (.ref r) x) QV:=by
 have hk:rdK h (.ref r)=some kvs:=ir hr;have hd:cy h (.ref r)=true:=by unfold cy; rw [hk]; rfl
 unfold aq;rw [if_pos hd];unfold iT eW;rw [hk];dsimp only;rw [ek];show wpR (match some (aV kvs k) with | some (some v)=>.ok v h | _=>.err) QV;rw [e]; exact⟨q⟩
theorem wk_ref{r:Rf}{xs:List Val}{R:Wk->Prop}(hr:h.get r=some (.lst xs))(q:R ⟨itC r,xs.length⟩):∃ k,iC h (.ref r)=some k/\R k:=by
 refine⟨_,?_,q⟩;unfold iC; dsimp only; rw [hr]
theorem dC{xs ys:List Val}(hl:xs.length + ys.length<=1000000)(q:QV (.lst (xs ++ ys)) h):wpR (aJ h (.lst xs) (.lst ys)) QV:=wpR.eq (if_pos hl:(if xs.length + ys.length<=1000000 then Res.ok (Val.lst (xs ++ ys)) h else .err)=_) q
theorem ku{a b:Str}(hl:a.length + b.length<=1000000)(q:QV (.str (a ++ b)) h):wpR (aJ h (.str a) (.str b)) QV:=wpR.eq (if_pos hl:(if a.length + b.length<=1000000 then Res.ok (Val.str (a ++ b)) h else .err)=_) q
theorem o_rep{xs:List Val}{k:Int}(hl:xs.length * k.toNat<=1000000)(k0:-(2 ^ 63)<=k)(k1:k < 2 ^ 63)(q:QV (.lst (List.replicate k.toNat xs).flatten) h):wpR (bZ h (.lst xs) (.int k)) QV :=
 wpR.eq (if_pos ⟨hl,k0,k1⟩:(if xs.length * k.toNat<=1000000/\-(2 ^ 63)<=k/\k < 2 ^ 63 then Res.ok (Val.lst (List.replicate k.toNat xs).flatten) h else .err)=_) q
theorem rq{xs:List Val}{b:Bool}(hl:xs.length<=1000000)(q:QV (.lst (if b=true then xs else [])) h):wpR (bZ h (.lst xs) (.int (if b=true then 1 else 0))) QV:=by
 cases b
 .exact o_rep (by simp) (by decide) (by decide) q
 .refine o_rep (by simpa using hl) (by decide) (by decide) ?_;have:(List.replicate (Int.toNat 1) xs).flatten=xs:=by simp [List.replicate]
  rw [show(if true=true then(1:Int) else 0)=1 from rfl,this]; exact q
theorem rC{b:Bool}(q:QV (.int (if b=true then 1 else 0)) h):wpR (hZ h [.bl b]) QV:=⟨q⟩
theorem rL{b:Bool}{R:Bool->Prop}(e:iD h x=some b)(q:R b):∃ c,iD h x=some c/\R c:=⟨b,e,q⟩
theorem rK{b:Wk}{R:Wk->Prop}(e:iC h x=some b)(q:R b):∃ c,iC h x=some c/\R c:=⟨b,e,q⟩
theorem k_wkE{b:Wk}{R:Wk->Prop}{xs:List Val}(e:wkE h xs=some b)(q:R b):∃ c,wkE h xs=some c/\R c:=⟨b,e,q⟩
theorem lV{a0:Val}{as:List Val}(q:QV a0 h):wpR (aq h (.lst (a0 :: as)) (.int 0)) QV:=jH (atI_nat (j:=0) rfl) q
theorem lQ{a0:Val}{as:List Val}(q:QV a0 h):wpR (aq h (.tup (a0 :: as)) (.int 0)) QV:=lW (atI_nat (j:=0) rfl) q
theorem lU{a0 a1:Val}{as:List Val}(q:QV a1 h):wpR (aq h (.lst (a0 :: a1 :: as)) (.int 1)) QV:=jH (atI_nat (j:=1) rfl) q
theorem lP{a0 a1:Val}{as:List Val}(q:QV a1 h):wpR (aq h (.tup (a0 :: a1 :: as)) (.int 1)) QV:=lW (atI_nat (j:=1) rfl) q
theorem lT{a0 a1 a2:Val}{as:List Val}(q:QV a2 h):wpR (aq h (.lst (a0 :: a1 :: a2 :: as)) (.int 2)) QV:=jH (atI_nat (j:=2) rfl) q
theorem lO{a0 a1 a2:Val}{as:List Val}(q:QV a2 h):wpR (aq h (.tup (a0 :: a1 :: a2 :: as)) (.int 2)) QV:=lW (atI_nat (j:=2) rfl) q
theorem lS{a0 a1 a2 a3:Val}{as:List Val}(q:QV a3 h):wpR (aq h (.lst (a0 :: a1 :: a2 :: a3 :: as)) (.int 3)) QV:=jH (atI_nat (j:=3) rfl) q
theorem lN{a0 a1 a2 a3:Val}{as:List Val}(q:QV a3 h):wpR (aq h (.tup (a0 :: a1 :: a2 :: a3 :: as)) (.int 3)) QV:=lW (atI_nat (j:=3) rfl) q
theorem lR{a0 a1 a2 a3 a4:Val}{as:List Val}(q:QV a4 h):wpR (aq h (.lst (a0 :: a1 :: a2 :: a3 :: a4 :: as)) (.int 4)) QV:=jH (atI_nat (j:=4) rfl) q
theorem lM{a0 a1 a2 a3 a4:Val}{as:List Val}(q:QV a4 h):wpR (aq h (.tup (a0 :: a1 :: a2 :: a3 :: a4 :: as)) (.int 4)) QV:=lW (atI_nat (j:=4) rfl) q
def tpk(c:Val)(s l:Int):List (Key×Val):=match c with
 | .tup [a,b]=>[(.inr "cells",a),(.inr "rests",b),(.inr "spot",.int s),(.inr "left",.int l)]
 | c=>[(.inr "cells",c),(.inr "spot",.int s),(.inr "left",.int l)]
theorem nY{c:Val}{s l:Int}:(tpk c s l).length < 1000000:=by unfold tpk; split <;> exact Nat.le_of_ble_eq_true rfl
theorem qe{c:Val}{s l:Int}:aV (tpk c s l) (.inr "left")=some (.int l):=by unfold tpk; split <;> rfl
theorem qb{c:Val}{s l:Int}:aV (tpk c s l) (.inr "spot")=some (.int s):=by unfold tpk; split <;> rfl
theorem qd{c:Val}{s l x:Int}:dt (tpk c s l) (.inr "left") (.int x)=tpk c s x:=by unfold tpk; split <;> rfl
theorem qc{c:Val}{s l x:Int}:dt (tpk c s l) (.inr "spot") (.int x)=tpk c x l:=by unfold tpk; split <;> rfl
def hT(c:Val)(s l:Int)(g:Nat->List (Option Cel))(L:List Cel):Hh:=⟨fun i=>if i=0 then [some (.dct (tpk c s l))] else g i,L⟩
abbrev T0:Val:=.ref (.glo 0 0)
variable{c:Val}{s l:Int}{g:Nat->List (Option Cel)}{L:List Cel}
theorem t_get:(hT c s l g L).get (.glo 0 0)=some (.dct (tpk c s l)):=rfl
theorem qo(q:QV (.int l) (hT c s l g L)):wpR (aq (hT c s l g L) T0 (.str "left")) QV:=o_get t_get qe q
theorem qm(q:QV (.int s) (hT c s l g L)):wpR (aq (hT c s l g L) T0 (.str "spot")) QV:=o_get t_get qb q
theorem mT{xs:List Val}(q:QV (.lst xs) (hT (.lst xs) s l g L)):wpR (aq (hT (.lst xs) s l g L) T0 (.str "cells")) QV:=wpR.eq rfl q
theorem t_set{s' l':Int}:(hT c s l g L).set (.glo 0 0) (.dct (tpk c s' l'))=hT c s' l' g L:=by
 unfold Hh.set hT upg;dsimp only
 congr 1
 funext i
 by_cases e:i=0
 .subst e; rfl
 .simp only [if_neg e]
theorem qi{x:Int}{R:Hh->Prop}(q:R (hT c s x g L)):∃ h4,je (hT c s l g L) T0 (.str "left") (.int x)=some h4/\R h4:=o_put (kvs:=tpk c s l) rfl rfl nY (by rw [qd,t_set]; exact q)
theorem qh{x:Int}{R:Hh->Prop}(q:R (hT c x l g L)):∃ h4,je (hT c s l g L) T0 (.str "spot") (.int x)=some h4/\R h4:=o_put (kvs:=tpk c s l) rfl rfl nY (by rw [qc,t_set]; exact q)
theorem pR(hv:v.nl=true)(q:QV v h):wpR (bP h.loc.length v h) QV:=jW hv (by rw [sx]; exact q)
theorem iB{c':Val}{s' l':Int}{M:List Cel}{g':Nat->List (Option Cel)}:(hT c' s' l' g' (L ++ M)).cut (hT c s l g L).loc.length=hT c' s' l' g' L:=by unfold Hh.cut hT; dsimp only; rw [List.take_left]
theorem rX{c':Val}{s' l':Int}{g':Nat->List (Option Cel)}:(hT c' s' l' g' L).cut (hT c s l g L).loc.length=hT c' s' l' g' L:=by unfold Hh.cut hT; dsimp only; rw [List.take_length]
theorem eY{c':Val}{s' l':Int}{g':Nat->List (Option Cel)}(hv:v.nl=true)(q:QV v (hT c' s' l' g' L)):wpR (bP (hT c s l g L).loc.length v (hT c' s' l' g' L)) QV:=jW hv (by rw [rX]; exact q)
theorem jX{c':Val}{s' l':Int}{M:List Cel}{g':Nat->List (Option Cel)}(hv:v.nl=true)(q:QV v (hT c' s' l' g' L)):wpR (bP (hT c s l g L).loc.length v (hT c' s' l' g' (L ++ M))) QV:=jW hv (by rw [iB]; exact q)
theorem nU{c':Val}{s' l':Int}{xs:List Val}{M:List Cel}{g':Nat->List (Option Cel)}(q:QV (.lst xs) (hT c' s' l' g' L)):wpR (bP (hT c s l g L).loc.length (.ref (.loc L.length)) (hT c' s' l' g' (L ++ .lst xs :: M))) QV :=
 w_retF (xs:=xs) (Nat.le_refl _) (by show(L ++ .lst xs :: M)[L.length]?=_; simp) (by rw [iB]; exact q)
theorem mR{xs:List Val}(n:Val.nls xs=true)(q:QV (.ref (.loc L.length)) (hT c s l g (L ++ [.lst xs]))):wpR (bQ .loc xs (hT c s l g L)) QV:=pV n q
theorem set_mid{α : Type}{M:List α}{x y:α}:∀ {L:List α},(L ++ x :: M).set L.length y=L ++ y :: M
 | []=>rfl
 | z :: L=>by show z :: (L ++ x :: M).set L.length y=_; rw [set_mid]; rfl
theorem jg{α : Type}{M:List α}{x:α}{L:List α}:(L ++ x :: M)[L.length]?=some x:=by simp
theorem t_tyL{ys:List Val}{M:List Cel}{R:Prop}(q:R):tyL (hT c s l g (L ++ .lst ys :: M)) (.ref (.loc L.length))=true/\R:=⟨o_tyL (ys:=ys) jg,q⟩
theorem jA{ys:List Val}{M:List Cel}(hn:v.nl=true)(hl:ys.length < 1000000)(q:QV .non (hT c s l g (L ++ .lst (ys ++ [v]) :: M))):wpR (bV (hT c s l g (L ++ .lst ys :: M)) (.ref (.loc L.length)) [v]) QV:=by
 refine rF (ys:=ys) jg hn hl ?_;have e:(hT c s l g (L ++ .lst ys :: M)).set (.loc L.length) (.lst (ys ++ [v]))=hT c s l g (L ++ .lst (ys ++ [v]) :: M):=by unfold Hh.set hT; dsimp only; rw [set_mid]
 rw [e]; exact q
theorem qk{kvs:List (Key×Val)}{M:List Cel}{k:Key}{R:Hh->Prop}(ek:eN x=some k)(hn:v.nl=true)(hl:kvs.length < 1000000)(q:R (hT c s l g (L ++ .dct (dt kvs k v) :: M))):∃ h4,je (hT c s l g (L ++ .dct kvs :: M)) (.ref (.loc L.length)) x v=some h4/\R h4:=by
 refine⟨_,?_,q⟩;unfold je;dsimp only;have:(hT c s l g (L ++ .dct kvs :: M)).get (.loc L.length)=some (.dct kvs):=jg;rw [this];dsimp only;rw [ek];dsimp only;rw [if_pos ⟨hn,hl⟩];have e:(hT c s l g (L ++ .dct kvs :: M)).set (.loc L.length) (.dct (dt kvs k v))=hT c s l g (L ++ .dct (dt kvs k v) :: M):=by unfold Hh.set hT; dsimp only; rw [set_mid]
 rw [e]
theorem mS(q:QV (.ref (.loc L.length)) (hT c s l g (L ++ [.dct []]))){δ : Sl}:wpR (oL .loc δ (hT c s l g L)) QV:=⟨q⟩
theorem gQ{α : Type}{md:Md}{vs:List Nat}{tg:Val->Sl->Option Sl}{fe:Sl->Hh->Res Val}{ft:Sl->Hh->Res Bool}{fw:Sl->Hh->Res Wk}(tv:α->Val)(ts:List α)(c:α->Bool)(g:α->Val)(hw:wpR (fw δ h) fun k h1=>k=⟨itD (ts.map tv),(ts.map tv).length⟩/\h1=h)(hl:ts.length<=1000000)
  (hs:∀ t∈ts,∃ δ1,tg (tv t) (cU δ vs)=some δ1/\wpR (ft δ1 h) fun b h2=>h2=h/\b=c t/\(c t=true->wpR (fe δ1 h) fun y h3=>h3=h/\y=g t)) (q:wpR (bQ md ((ts.filter c).map g) h) QV):wpR (mLc md vs fw tg ft fe δ h) QV:=by
 refine w_lc (hw.mono ?_);rintro k h1 ⟨rfl,rfl⟩;refine⟨by show(ts.map tv).length<=_; simpa using hl,fun i acc h2=>h2=h1/\acc=((ts.take i).filter c).map g,⟨rfl,by simp⟩,?_,?_⟩
 .rintro i acc h2 hi ⟨rfl,rfl⟩;have hi:i < ts.length:=by simpa using (show i < (ts.map tv).length from hi)
  obtain⟨δ1,e1,q1⟩:=hs ts[i] (List.getElem_mem hi);refine⟨tv ts[i],δ1,by simp [itD,hi],e1,q1.mono ?_⟩;rintro b h3 ⟨rfl,rfl,q2⟩;have et:ts.take (i + 1)=ts.take i ++ [ts[i]]:=by rw [List.take_succ,List.getElem?_eq_getElem hi]; rfl
  cases hc:c ts[i]
  .refine pD ⟨rfl,?_⟩;rw [et,List.filter_append,List.filter_cons_of_neg (by simp [hc])]; simp
  .refine pC ((q2 hc).mono ?_);rintro y h4 ⟨rfl,rfl⟩;refine⟨rfl,?_⟩;rw [et,List.filter_append,List.filter_cons_of_pos hc]; simp
 .rintro acc h2 ⟨rfl,rfl⟩;refine⟨by simp [itD],?_⟩;have:ts.take (Wk.n ⟨itD (ts.map tv),(ts.map tv).length⟩)=ts:=by show ts.take (ts.map tv).length=ts; simp
  rw [this]; exact q
theorem uY{n:Nat}{R:Wk->Prop}(hn:n<=1000000000)(q:R ⟨itR 0 n,n⟩):∃ k,wkR [.int n]=some k/\R k:=pQ (by omega) (by simpa using q)
theorem loopN{f:Sl->Hh->aC}{n:Nat}{tg:Val->Sl->Option Sl}{δ : Sl}{h:Hh}{P:Po}(I:Nat->Sl->Hh->Prop)(i0:I 0 δ h)(hs:∀ (i:Nat) δ h,i < n->I i δ h->∃ δ1,tg (.int i) δ = some δ1/\wpS (f δ1 h) { P with nx:=I (i + 1),ct:=I (i + 1),bk:=P.nx })(hd:∀ δ h,I n δ h->P.nx δ h) :
  ∃ I:Nat->Sl->Hh->Prop,I 0 δ h/\(∀ i δ h,i < (Wk.mk (itR 0 n) n).n->I i δ h->∃ x δ1,(Wk.mk (itR 0 n) n).it i h=some (some x)/\tg x δ = some δ1/\wpS (f δ1 h) { P with nx:=I (i + 1),ct:=I (i + 1),bk:=P.nx }) /\
   (∀ δ h,I (Wk.mk (itR 0 n) n).n δ h->(Wk.mk (itR 0 n) n).it (Wk.mk (itR 0 n) n).n h=some none/\P.nx δ h) :=
 loopR I i0 (fun i δ h hi ii=>by rw [Int.zero_add]; exact hs i δ h hi ii) hd
theorem loopE{α : Type}{tv:α->Val}{ts:List α}{f:Sl->Hh->aC}{tg:Val->Sl->Option Sl}{δ : Sl}{h:Hh}{P:Po}(I:Nat->Sl->Hh->Prop)(i0:I 0 δ h)(hs:∀ (i:Nat) δ h t,ts[i]?=some t->I i δ h->∃ δ1,tg (.tup [.int i,tv t]) δ = some δ1/\wpS (f δ1 h) { P with nx:=I (i + 1),ct:=I (i + 1),bk:=P.nx })(hd:∀ δ h,I ts.length δ h->P.nx δ h) :
  ∃ I:Nat->Sl->Hh->Prop,I 0 δ h/\(∀ i δ h,i < (Wk.mk (itE (itD (ts.map tv))) (ts.map tv).length).n->I i δ h->∃ x δ1,(Wk.mk (itE (itD (ts.map tv))) (ts.map tv).length).it i h=some (some x)/\tg x δ = some δ1/\wpS (f δ1 h) { P with nx:=I (i + 1),ct:=I (i + 1),bk:=P.nx }) /\
   (∀ δ h,I (Wk.mk (itE (itD (ts.map tv))) (ts.map tv).length).n δ h->(Wk.mk (itE (itD (ts.map tv))) (ts.map tv).length).it (Wk.mk (itE (itD (ts.map tv))) (ts.map tv).length).n h=some none/\P.nx δ h) :=
 ⟨I,i0,fun i δ h hi ii=>by
  have hi:i < ts.length:=by simpa using (show i < (ts.map tv).length from hi)
  obtain⟨δ1,e,q⟩:=hs i δ h ts[i] (by simp [hi]) ii;exact⟨_,δ1,by simp [itE,itD,hi],e,q⟩,fun δ h ii=>⟨by simp [itE,itD],hd δ h (by simpa using ii)⟩⟩
theorem kZ{κ : Type}[DecidableEq κ]{v:Val}{k k':κ}:∀ {kvs:List (κ×Val)},(kvs.any fun kv=>decide (kv.1=k))=false->aV (kvs ++ [(k,v)]) k'=if k'=k then some v else aV kvs k'
 | [],_=>by
  show(if k=k' then some v else none)=_
  by_cases e:k=k'
  .rw [if_pos e,if_pos e.symm]
  .rw [if_neg e,if_neg (fun z=>e z.symm)]; rfl
 | (q,x) :: r,hf=>by
  rw [List.any_cons,Bool.or_eq_false_iff] at hf;have hq:¬ q=k:=of_decide_eq_false hf.1;show(if q=k' then some x else aV (r ++ [(k,v)]) k')=if k'=k then some v else(if q=k' then some x else aV r k')
  rw [kZ hf.2]
  by_cases e:q=k'
  .subst e; rw [if_pos rfl,if_neg hq,if_pos rfl]
  .rw [if_neg e,if_neg e]
theorem kY{κ : Type}[DecidableEq κ]{v:Val}{k k':κ}:∀ {kvs:List (κ×Val)},aV (kvs.map fun kv=>if kv.1=k then(kv.1,v) else kv) k'=if k'=k then(aV kvs k).map (fun _=>v) else aV kvs k'
 | []=>by show none=_; split <;> rfl
 | (q,x) :: r=>by
  rw [List.map_cons];have ih:=kY (v:=v) (k:=k) (k':=k') (kvs:=r)
  by_cases e:q=k
  .subst e;rw [if_pos rfl];show(if q=k' then some v else aV (r.map _) k')=if k'=q then((if q=q then some x else aV r q)).map (fun _=>v) else(if q=k' then some x else aV r k')
   rw [ih,if_pos rfl]
   by_cases e2:q=k'
   .subst e2; rw [if_pos rfl,if_pos rfl]; rfl
   .rw [if_neg e2,if_neg (fun z=>e2 z.symm),if_neg (fun z=>e2 z.symm),if_neg e2]
  .rw [if_neg e];show(if q=k' then some x else aV (r.map _) k')=if k'=k then((if q=k then some x else aV r k)).map (fun _=>v) else(if q=k' then some x else aV r k')
   rw [ih,if_neg e]
   by_cases e2:q=k'
   .subst e2; rw [if_pos rfl,if_neg e,if_pos rfl]
   .rw [if_neg e2,if_neg e2]
theorem k9{κ : Type}[DecidableEq κ]{k:κ}:∀ {kvs:List (κ×Val)},(aV kvs k).isSome=(kvs.any fun kv=>decide (kv.1=k))
 | []=>rfl
 | (q,x) :: r=>by
  rw [List.any_cons,<- k9];show(if q=k then some x else aV r k).isSome=_
  by_cases e:q=k
  .rw [if_pos e,decide_eq_true e]; rfl
  .rw [if_neg e,decide_eq_false e]; rfl
theorem p8{κ : Type}[DecidableEq κ]{v:Val}{k k':κ}{kvs:List (κ×Val)}:aV (dt kvs k v) k'=if k'=k then some v else aV kvs k':=by
 unfold dt
 split
 .rename_i ha;rw [kY]
  by_cases e:k'=k
  .rw [if_pos e,if_pos e];have:=k9 (k:=k) (kvs:=kvs);rw [ha] at this
   cases hv:aV kvs k
   .rw [hv] at this; cases this
   .rfl
  .rw [if_neg e,if_neg e]
 .rename_i ha;exact kZ (Bool.eq_false_iff.mpr ha)
def Sv(n:Nat)(v:Val):Prop:=∃ d,v.toD=some d/\Shp n d
theorem gw{i:Int}{n:Nat}:Sv n (.int i):=⟨_,rfl,tJ⟩
theorem sv_non{n:Nat}:Sv n .non:=⟨_,rfl,tG⟩
theorem sv_str{x:Str}{n:Nat}(h:PyData.strOk x=true):Sv n (.str x):=⟨_,rfl,tF h⟩
theorem mW{n:Nat}:∀ {xs:List Val},(∀ x∈xs,Sv n x)->∃ ds,Val.gu xs=some ds/\∀ d∈ds,Shp n d
 | [],_=>⟨[],rfl,by simp⟩
 | x :: xs,h=>by
  obtain⟨d,e1,s1⟩:=h x (by simp);obtain⟨ds,e2,s2⟩:=mW fun y hy=>h y (List.mem_cons_of_mem _ hy);refine⟨d :: ds,?_,fun e he=>?_⟩
  .show(match x.toD,Val.gu xs with | some d,some ds=>some (d :: ds) | _,_=>none)=_;rw [e1,e2]
  .rcases List.mem_cons.mp he with rfl | he
   .exact s1
   .exact s2 _ he
theorem qx{n:Nat}{xs:List Val}(h:∀ x∈xs,Sv n x):Sv (n + 1) (.lst xs):=by
 obtain⟨ds,e,s⟩:=mW h;exact⟨.list ds,by show(Val.gu xs).map PyData.list=_; rw [e]; rfl,tH s⟩
theorem mU{n:Nat}{xs:List Val}(h:∀ x∈xs,Sv n x):Sv (n + 1) (.tup xs):=by
 obtain⟨ds,e,s⟩:=mW h;exact⟨.tuple ds,by show(Val.gu xs).map PyData.tuple=_; rw [e]; rfl,tE s⟩
theorem mV{n:Nat}:∀ x∈([]:List Val),Sv n x:=by simp
theorem dz{n:Nat}{x:Val}{xs:List Val}(a:Sv n x)(b:∀ y∈xs,Sv n y):∀ y∈x :: xs,Sv n y:=fun y hy=>by
 rcases List.mem_cons.mp hy with rfl | hy
 .exact a
 .exact b _ hy
theorem qw{α : Type}{n:Nat}{f:α->Val}{ts:List α}(h:∀ t∈ts,Sv n (f t)):∀ x∈ts.map f,Sv n x:=fun x hx=>by
 obtain⟨t,ht,rfl⟩:=List.mem_map.mp hx;exact h t ht
theorem Sv.mono{n m:Nat}{v:Val}(h:Sv n v)(l:n<=m):Sv m v:=by
 obtain⟨d,e,s⟩:=h;exact⟨d,e,s.mono l⟩
theorem sd{n:Nat}{v:Val}(hs:Sv n v)(hn:n<=64):eqO h v v=some true:=by
 obtain⟨d,e,s⟩:=hs;have hr:rdD h v=some d:=by unfold rdD; rw [e]
 cases v with
 | int i=>exact congrArg some (decide_eq_true rfl)
 | str i=>exact congrArg some (decide_eq_true rfl)
 | bl i=>exact congrArg some (decide_eq_true rfl)
 | _=>unfold eqO; dsimp only; rw [hr]; dsimp only; rw [s.ok hn,s.refl]; rfl
theorem iV{n:Nat}(hs:Sv n v)(q:QV (.bl false) h)(hn:n<=64:=by decide):wpR (dR h v v) QV:=by unfold dR; rw [sd hs hn]; exact⟨q⟩
theorem sY{i:Nat}{cl:Cel}(hi:i≠0):(hT c s l g L).aY i cl=hT c s l (upg g i (g i ++ [some cl])) L:=by
 unfold Hh.aY hT upg;dsimp only
 congr 1
 funext j
 by_cases e:j=i
 .subst e; rw [if_pos rfl,if_neg hi,if_neg hi,if_pos rfl]
 .rw [if_neg e]
  by_cases e0:j=0
  .rw [if_pos e0,if_pos e0]
  .rw [if_neg e0,if_neg e0,if_neg e]
theorem app_1{α : Type}{L M:List α}{x0:α}{y:α}:L ++ x0 :: y :: M=(L ++ [x0]) ++ y :: M:=by simp
theorem l0{α : Type}{L:List α}{x0:α}:(L ++ [x0]).length=L.length + 1:=by simp
theorem gp{α : Type}{L M:List α}{x0:α}{y:α}:(L ++ x0 :: y :: M)[L.length + 1]?=some y:=by
 have:=jg (L:=L ++ [x0]) (M:=M) (x:=y);rw [l0] at this;rw [app_1]; exact this
theorem j4{x0:Cel}{xs:List Val}(n:Val.nls xs=true)(q:QV (.ref (.loc (L.length + 1))) (hT c s l g (L ++ x0 :: .lst xs :: []))):wpR (bQ .loc xs (hT c s l g (L ++ [x0]))) QV:=by
 refine mR n ?_;rw [l0,List.append_assoc]; exact q
theorem n5{x0:Cel}(q:QV (.ref (.loc (L.length + 1))) (hT c s l g (L ++ x0 :: .dct [] :: []))){δ : Sl}:wpR (oL .loc δ (hT c s l g (L ++ [x0]))) QV:=by
 refine mS ?_;rw [l0,List.append_assoc]; exact q
theorem qg{x0:Cel}{ys:List Val}{M:List Cel}{R:Prop}(q:R):tyL (hT c s l g (L ++ x0 :: .lst ys :: M)) (.ref (.loc (L.length + 1)))=true/\R:=⟨o_tyL (ys:=ys) gp,q⟩
theorem qp{x0:Cel}{ys:List Val}{M:List Cel}(hn:v.nl=true)(hl:ys.length < 1000000)(q:QV .non (hT c s l g (L ++ x0 :: .lst (ys ++ [v]) :: M))):wpR (bV (hT c s l g (L ++ x0 :: .lst ys :: M)) (.ref (.loc (L.length + 1))) [v]) QV:=by
 rw [app_1] at q ⊢;rw [<- l0 (L:=L) (x0:=x0)];exact jA hn hl q
theorem qj{x0:Cel}{kvs:List (Key×Val)}{M:List Cel}{k:Key}{R:Hh->Prop}(ek:eN x=some k)(hn:v.nl=true)(hl:kvs.length < 1000000)(q:R (hT c s l g (L ++ x0 :: .dct (dt kvs k v) :: M))):∃ h4,je (hT c s l g (L ++ x0 :: .dct kvs :: M)) (.ref (.loc (L.length + 1))) x v=some h4/\R h4:=by
 rw [app_1] at q ⊢;rw [<- l0 (L:=L) (x0:=x0)];exact qk ek hn hl q
theorem lI{xs:List Val}{j:Int}(k:Nat)(e:j=k)(q:QV (.lst (xs.take k)) h):wpR (lF h (.lst xs) none (some j)) QV:=by
 subst e;refine wpR.eq (?_:_=Res.ok (Val.lst (xs.take k)) h) q;show Res.ok (Val.lst (gm xs none (some (k:Int)))) h=_;rw [jS]
theorem lJ{xs:List Val}{j:Int}(k:Nat)(e:j=k)(q:QV (.lst (xs.drop k)) h):wpR (lF h (.lst xs) (some j) none) QV:=by
 subst e;refine wpR.eq (?_:_=Res.ok (Val.lst (xs.drop k)) h) q;show Res.ok (Val.lst (gm xs (some (k:Int)) none)) h=_;rw [pF]
theorem iw{α : Type}{f:α->Val}(hf:∀ t,(f t).nl=true):∀ {ts:List α},Val.nls (ts.map f)=true
 | []=>rfl
 | t :: ts=>by show((f t).nl && Val.nls (ts.map f))=true; rw [hf,iw hf]; rfl
theorem nl_lst{α : Type}{f:α->Val}(hf:∀ t,(f t).nl=true){ts:List α}:(Val.lst (ts.map f)).nl=true:=iw hf
theorem log2_small{i:Int}(h0:-18446744073709551616 < i)(h1:i < 18446744073709551616):i.natAbs.log2 < 1920:=by
 by_cases e:i.natAbs=0
 .rw [e]; decide
 .exact(Nat.log2_lt e).mpr (Nat.lt_of_lt_of_le (show i.natAbs < 2 ^ 64 by omega) (Nat.pow_le_pow_right (by decide) (by decide)))
theorem gG{i:Int}(h0:-18446744073709551616 < i)(h1:i < 18446744073709551616)(q:QV (.str (toString i)) h):wpR (mG h [.int i]) QV:=wpR.eq (if_pos (log2_small h0 h1):(if i.natAbs.log2 < 1920 then Res.ok (Val.str (toString i)) h else .err)=_) q
theorem nq{a:Str}(q:QV (.str a) h):wpR (mG h [.str a]) QV:=⟨q⟩
theorem pS{Q:List (Key×Val)->Hh->Prop}{δ : Sl}(q:Q [] h):wpR (rH δ h) Q:=⟨q⟩
theorem nV{Q:List (Key×Val)->Hh->Prop}{δ : Sl}{fk fv:Sl->Hh->Res Val}{fr:Sl->Hh->Res (List (Key×Val))}(q:wpR (fk δ h) fun x h1=>wpR (fv δ h1) fun y h2=>wpR (fr δ h2) fun ps h3=>∃ k,eN x=some k/\Q ((k,y) :: ps) h3):wpR (iZ fk fv fr δ h) Q :=
 .bind (q.mono fun _ _ q=>.bind (q.mono fun _ _ q=>.bind (q.mono fun _ _ ⟨k,e,q⟩=>by rw [e]; exact⟨q⟩)))
theorem pX{md:Md}{δ : Sl}{fr:Sl->Hh->Res (List (Key×Val))}(q:wpR (fr δ h) fun kvs h1=>kvs.length<=15/\wpR (newD md (iX [] kvs) h1) QV):wpR (oK md fr δ h) QV:=.bind (q.mono fun kvs h1 q=>by rw [if_pos q.1]; exact q.2)
theorem kPp{r:Res (List (Key×Val))}{Q:List (Key×Val)->Hh->Prop}(q:wpR r Q):wpR r Q:=q
theorem rN{k:Key}{R:Key->Prop}(e:eN x=some k)(q:R k):∃ c,eN x=some c/\R c:=⟨k,e,q⟩
theorem rM{xs:List (Key×Val)}{n:Nat}{A:Prop}(e:xs.length<=n)(a:A):xs.length<=n/\A:=⟨e,a⟩
theorem sT{kvs:List (Key×Val)}{i:Nat}(n:nlp kvs=true)(q:QV (.ref (.glo i (h.glo i).length)) (h.aY i (.dct kvs))):wpR (newD (.glo i) kvs h) QV:=by unfold newD; dsimp only; rw [if_pos n]; exact⟨q⟩
theorem uk{ns:List Int}{j:Int}(k:Nat)(e:j=k)(q:QV (.lst ((ns.take k).map .int)) h):wpR (lF h (.scr ns) none (some j)) QV:=by
 subst e;refine wpR.eq (?_:_=Res.ok (Val.lst ((ns.take k).map .int)) h) q;show Res.ok (Val.lst (gm (ns.map Val.int) none (some (k:Int)))) h=_;rw [jS,List.map_take]
theorem tape0{v:Val}:h0.aY 0 (.dct (tpk v 0 0))=hT v 0 0 (fun _=>[]) []:=by
 unfold Hh.aY hT upg h0;dsimp only
 congr 1
end
end M
namespace M
open PySem PySem.Spec PyProof.Rows L2 B
abbrev SndI(p:Pm)(ti:WX->TI)(fw:Sl->Hh->Res Wk):Prop:=∀ W σ δ m h G H (R:It->Hp->Prop),En p m h G σ δ->Wo p m h G H->ao p (fun m h G (J:It×Hp) (k:Wk)=>fy p J.1 m h G J.2 k.it) m h G H W σ (fun J H'=>J.2=H'->R J.1 H') (fw δ h)->ti W σ H R
end M
namespace M
open PySem PySem.Spec PyProof.Rows L2 B
def jF(md:Md)(h:Hh)(x y:Val):Res Val:=match rdM h x,rdM h y with
 | some xs,some ys=>if xs.length + ys.length<=1000000 then bQ md (xs ++ ys) h else .err
 | _,_=>.err
section
variable{p:Pm}{C:Ct}{a b o ky:Expr}{pos p2 apos cpos:Pos}{fa fb fo fk:Sl->Hh->Res Val}{fl fh:Sl->Hh->Res (Option Int)}{lo hi:Option Expr}
theorem sr_cat(md:Md):cj p (qY p.K) (jF md):=fun m h G H u v x y Q W σ w rx ry e=>by
 unfold jF at e
 split at e
 .rename_i xs ys hx hy
  split at e
  .rename_i hl;obtain⟨a,vs,rfl,h1,h2⟩:=gz w rx hx;obtain⟨b,ws,rfl,h3,h4⟩:=gz w ry hy;exact .inr (.inr ⟨_,_,_,_,rfl,rfl,h1,h3,by rw [h2.len,h4.len]; exact aK hl,fun q n=>oV e w n (h2.app h4)⟩)
  .exact e.elim
 .exact e.elim
theorem se_cat(md:Md)(ha:SE C a fa)(hb:SE C b fb):SE C (.BinOp a .Add b pos) (m2 (jF md) fa fb):=gR (fun W X g=>rk C.p.K g.K) (sr_cat md) ha hb
end
end M
namespace M
open PySem PySem.Spec PyProof.Rows L2 B
section
variable{QV:Val->Hh->Prop}{δ : Sl}{h:Hh}{x y v:Val}{c:Val}{s l:Int}{g:Nat->List (Option Cel)}{L:List Cel}{r:Rf}
theorem fY{i:Nat}:(hT c s l g L).get (.loc i)=L[i]?:=rfl
theorem sU{fo fk fd:Sl->Hh->Res Val}(q:wpR (fo δ h) fun x h1=>cy h1 x=true/\wpR (fk δ h1) fun y h2=>wpR (fd δ h2) fun z h3=>∃ r kvs k,x = .ref r/\h3.get r=some (.dct kvs)/\eN y=some k/\QV ((aV kvs k).getD z) h3):wpR (nu fo fk fd δ h) QV:=by
 refine .bind (q.mono fun x h1 ⟨hd,q⟩=>?_);rw [if_pos hd];refine .bind (q.mono fun y h2 q=>.bind (q.mono fun z h3 ⟨r,kvs,k,e,e1,e2,qq⟩=>?_));subst e;have hk:rdK h3 (.ref r)=some kvs:=ir e1;have hl:eW h3 (.ref r) y=some (aV kvs k):=by unfold eW; rw [hk]; dsimp only; rw [e2]; rfl
 rw [hl]
 cases hv:aV kvs k with
 | none=>rw [hv] at qq; exact⟨qq⟩
 | some v=>rw [hv] at qq; exact⟨qq⟩
theorem pB{kvs:List (Key×Val)}(hr:h.get r=some (.dct kvs)):cy h (.ref r)=true:=by
 have hk:rdK h (.ref r)=some kvs:=ir hr;unfold cy; rw [hk]; rfl
end
end M
namespace M
open PySem PySem.Spec PyProof.Rows L2 B
abbrev chS(c:Nat):Str:=⟨#[c]⟩
section
variable{QV:Val->Hh->Prop}{δ : Sl}{h:Hh}{x v:Val}{z:Str}{r:Rf}
theorem o_ixS{i:Int}(hz:z.length<=1000000)(h0:0<=i)(h1:i < z.cps.toList.length)(q:∀ c,c∈z.cps.toList->QV (.str (chS c)) h):wpR (aq h (.str z) (.int i)) QV:=by
 obtain⟨c,e,hc,_⟩:=sF (xs:=z.cps.toList) (i:=i) (by intro e; rw [e] at h1; simp at h1; omega) h0 h1;refine wpR.eq (?_:_=Res.ok (Val.str (chS c)) h) (q c hc);show(if z.length<=1000000 then(match atI z.cps.toList i with | some c=>Res.ok (Val.str ⟨#[c]⟩) h | none=>.err) else .err)=_;rw [if_pos hz,e]
theorem gW{lo hi:Option Int}(hz:z.length<=1000000)(q:QV (.str (cutS z lo hi)) h):wpR (lF h (.str z) lo hi) QV:=by
 refine wpR.eq (?_:_=Res.ok (Val.str (cutS z lo hi)) h) q;show(if z.length<=1000000 then Res.ok (Val.str (cutS z lo hi)) h else .err)=_;rw [if_pos hz]
theorem pM{R:Wk->Prop}(q:R ⟨itD (z.cps.toList.map fun c=>Val.str (chS c)),(z.cps.toList.map fun c=>Val.str (chS c)).length⟩):∃ k,iC h (.str z)=some k/\R k:=by
 rw [List.length_map] at q;exact⟨_,rfl,q⟩
theorem fj{ps:List Str}{a:Str}(hl:(ps.map (·.length)).sum + ps.length * a.length<=1000000)(q:QV (.str (Txt.join a ps)) h):wpR (ep h (.str a) [.lst (ps.map Val.str)]) QV:=by
 refine wpR.eq (?_:_=Res.ok (Val.str (Txt.join a ps)) h) q;show(match iF (ps.map Val.str) with | some zs=>if (List.map (fun z:Str=>z.length) zs).sum + zs.length * a.length<=1000000 then Res.ok (Val.str (Txt.join a zs)) h else .err | none=>.err)=_;rw [jB];dsimp only;rw [if_pos hl]
theorem eJ{a b:Str}(hb:(b.length == 0)=false)(ha:a.length + 2<=1000000)(q:QV (.lst ((Txt.split a b).map Val.str)) h):wpR (dc h (.str a) [.str b]) QV:=by
 refine wpR.eq (?_:_=Res.ok (Val.lst ((Txt.split a b).map Val.str)) h) q;show(if (b.length == 0)=false/\a.length + 2<=1000000 then Res.ok (Val.lst ((Txt.split a b).map Val.str)) h else .err)=_;rw [if_pos ⟨hb,ha⟩]
theorem in_ref{xs:List Val}{b:Bool}(neg:Bool)(hr:h.get r=some (.lst xs))(f:cN x=true)(fa:xs.all cN=true)(e:(xs.any fun z=>eqM z x)=b):cx neg inU h x (.ref r) = .ok (.bl (if neg=true then !b else b)) h:=by
 have hd:cy h (.ref r)=false:=by unfold cy rdK tY; dsimp only; rw [hr]; rfl
 have hq:rdQ h (.ref r)=some xs:=by show(match h.get r with | some (.lst xs)=>some xs | _=>none)=_; rw [hr]
 have hs:inS h x (.ref r)=some b:=by
  unfold inS;dsimp only;rw [hq];dsimp only;rw [f,fa,e]
  rfl
 unfold cx inU;rw [if_neg (by rw [hd]; simp),hs]
theorem w_lcC{α : Type}{md:Md}{vs:List Nat}{tg:Val->Sl->Option Sl}{fe:Sl->Hh->Res Val}{ft:Sl->Hh->Res Bool}{fw:Sl->Hh->Res Wk}(tv:α->Val)(ts:List α)(c:α->Bool)(g:α->Val){h':Hh}(hw:wpR (fw δ h) fun k h1=>∃ r,k=⟨itC r,ts.length⟩/\h1=h'/\h'.get r=some (.lst (ts.map tv)))(hl:ts.length<=1000000)
  (hs:∀ t∈ts,∃ δ1,tg (tv t) (cU δ vs)=some δ1/\wpR (ft δ1 h') fun b h2=>h2=h'/\b=c t/\(c t=true->wpR (fe δ1 h') fun y h3=>h3=h'/\y=g t)) (q:wpR (bQ md ((ts.filter c).map g) h') QV):wpR (mLc md vs fw tg ft fe δ h) QV:=by
 refine w_lc (hw.mono ?_);rintro k h1 ⟨r,rfl,rfl,hr⟩;refine⟨hl,fun i acc h2=>h2=h1/\acc=((ts.take i).filter c).map g,⟨rfl,by simp⟩,?_,?_⟩
 .rintro i acc h2 hi ⟨rfl,rfl⟩;have hi:i < ts.length:=hi;obtain⟨δ1,e1,q1⟩:=hs ts[i] (List.getElem_mem hi);refine⟨tv ts[i],δ1,by show(match h2.get r with | some (.lst xs)=>some xs[i]? | _=>none)=_; rw [hr]; simp [hi],e1,q1.mono ?_⟩;rintro b h3 ⟨rfl,rfl,q2⟩;have et:ts.take (i + 1)=ts.take i ++ [ts[i]]:=by rw [List.take_succ,List.getElem?_eq_getElem hi]; rfl
  cases hc:c ts[i]
  .refine pD ⟨rfl,?_⟩;rw [et,List.filter_append,List.filter_cons_of_neg (by simp [hc])]; simp
  .refine pC ((q2 hc).mono ?_);rintro y h4 ⟨rfl,rfl⟩;refine⟨rfl,?_⟩;rw [et,List.filter_append,List.filter_cons_of_pos hc]; simp
 .rintro acc h2 ⟨rfl,rfl⟩;refine⟨by show(match h2.get r with | some (.lst xs)=>some xs[ts.length]? | _=>none)=_; rw [hr]; simp,?_⟩;have:ts.take (Wk.n ⟨itC r,ts.length⟩)=ts:=List.take_length;rw [this]; exact q
end
end M
namespace M
open PySem PySem.Spec PyProof.Rows L2 B
theorem pA{P:Program}{w:World}{K:PySem.W.Frag}{mg mb:Str->Option Value}{CX:CXT}{k:Nat}{fa a:Addr}{fd:FuncData}{x:Str}{sp:Sp}{s₁ : Shared}{vs:List Value}{ns:List Int}(KX:K.In s₁.heap)(hns:s₁.heap.Ns mainGlobals mg)(hb:s₁.heap.Ns builtinsNs mb)
  (hbb:∀ x:Str,x≠"__name__"->mb x=bootBuiltins x) (hlim:s₁.heap.NoLimit) (hg:s₁.gens = #[]) (ha:s₁.heap.get? a=some { cls:=.type "list",data:=.seq vs.toArray }) (hi:IntsAre vs ns) (hl:ns.length<=sizeLine) (hr:Room k callerA)
  (F:∀ base:Heap,K.In base->base.Ns mainGlobals mg->FnG P w K mg base CX k fa fd [x] sp) (hbind:∀ (s:Shared) (u:Value),BindsTo s fd ⟨[u],[]⟩ [(x,u)]) (hsp:∀ H:Hp,Only H->SqL K H a (ns.map V.int)->sp [.ref a] H (fun v _=>v = .bl true) fun _ _ _=>False)
  (hCX:∀ H e s',CX [] H s₁ (fun _ _ _=>False) e s'->False):codeAny (model P w) callerA (.call (.ref fa) ⟨[.ref a],[]⟩) (fun r s'=>r = .ok (.ret (.bool true))/\OldK s₁.heap s'.heap/\s'.os=s₁.os/\AllBare s'.gens) s₁:=by
 have rv:=vals_ints hi;have go:∀ H:Hp,Only H->SqL K H a (ns.map V.int)->HOk P w H s₁.heap->(∀ b u,H b=some u->b=a/\K.lookup a=none)->codeAny (model P w) callerA (.call (.ref fa) ⟨[.ref a],[]⟩) (fun r s'=>r = .ok (.ret (.bool true))/\OldK s₁.heap s'.heap/\s'.os=s₁.os/\AllBare s'.gens) s₁:=by
  intro H hO hS hok hA;have dic:∀ {b:Addr} {o:Obj} {es:Array DictEntry} {n:Nat},s₁.heap.get? b=some o->o.data = .dict es n->(hidT s₁.heap H).get? b=some o:=fun {b o es n} e d=>hidT_get e (by
   rcases hq:H b with _ | u
   .rfl
   .obtain⟨rfl,_⟩:=hA b u hq;rw [ha] at e
    cases e
    cases (show Data.seq vs.toArray _=Data.dict es n from d))
  have nsB:∀ {b:Addr} {m:Str->Option Value},s₁.heap.Ns b m->(hidT s₁.heap H).Ns b m:=fun⟨o,es,n,e,d,r⟩=>⟨o,es,n,dic e d,d,r⟩;have inB:K.In (hidT s₁.heap H):=fun b o e=>hidT_get (KX b o e) (by
   rcases hq:H b with _ | u
   .rfl
   .obtain⟨rfl,z⟩:=hA b u hq;rw [z] at e; cases e)
  obtain⟨mc,c1,c2⟩:=hlim;have e0:Env0 P w K mg (hidT s₁.heap H) callerA [] s₁ H:=⟨rfl,⟨inB,nsB hns,⟨mb,nsB hb,hbb⟩,⟨mc,nsB c1,c2⟩⟩,fun b o e=>of_hidT e,Nat.le_of_eq (hidT_size _ _),trivial,fun b z=>(List.not_mem_nil z).elim,hok,.of_eq hg⟩;have run:=(F _ inB (nsB hns)).run callerA [] s₁ H ⟨[.ref a],[]⟩ [.ref a] [.ref a] _ _ hr rfl e0 (hbind s₁ (.ref a)) (.cons rfl .nil) (hsp H hO hS);refine codeAny_mono run fun r s' h=>?_
  match r,h with
  | .error e,h=>exact(hCX H e s' h).elim
  | .ok .next,h=>exact h.elim
  | .ok .brk,h=>exact h.elim
  | .ok .cont,h=>exact h.elim
  | .ok (.ret u),⟨v,H',os,bare,un,hok',r',q⟩ =>
   have q':v = .bl true:=q;subst q';have r2:u=Value.bool true:=r';subst r2;refine⟨rfl,OldK.of_keep fun b o e=>?_,os,bare⟩;rcases hO b with z | ⟨ob,xs,z⟩
   .exact un.keep b o e z (fun z=>(List.not_mem_nil (show b∈([]:List Addr) from z)).elim) (by simp)
   .have e1:=(hok b _ z).1;rw [e] at e1
    cases e1
    exact(hok' b _ (un.frzs b _ _ z)).1
 rcases hk:K.lookup a with _ | o
 .have at_a:∀ (b:Addr) (u:HO),(if b=a then some (HO.frz { cls:=.type "list",data:=.seq vs.toArray } (.lst (ns.map V.int))) else none)=some u->b=a/\u=HO.frz { cls:=.type "list",data:=.seq vs.toArray } (.lst (ns.map V.int)):=fun b u e=>by
   by_cases hba:b=a
   .rw [if_pos hba] at e; exact⟨hba,(Option.some.inj e).symm⟩
   .rw [if_neg hba] at e; cases e
  refine go (fun b=>if b=a then some (.frz { cls:=.type "list",data:=.seq vs.toArray } (.lst (ns.map V.int))) else none) (fun b=>?_) (.inl (.inr ⟨_,if_pos rfl⟩)) (fun b u e=>?_) fun b u e=>⟨(at_a b u e).1,hk⟩
  .by_cases hba:b=a
   .right; exact⟨_,_,if_pos hba⟩
   .left; exact if_neg hba
  .obtain⟨rfl,rfl⟩:=at_a b u e;exact⟨ha,by rw [List.length_map]; exact hl,vs,_,rv,ha⟩
 .have e:=KX a o hk;rw [ha] at e
  cases e
  exact go (fun _=>none) (fun _=>.inl rfl) (.inr ⟨_,vs.toArray,_,hk,rfl,rfl,rfl,by rw [List.size_toArray,hi.length]; exact hl,by simpa using rv⟩) (fun b u z=>nomatch (show(none:Option HO)=some u from z)) fun b u z=>nomatch (show(none:Option HO)=some u from z)
theorem pP{l:PySem.W.OpenLaw}{n k:Nat}{q:Program}{loose:List Str}{XP:(Str->Option Value)->Heap->Prop}{YP:World->Heap->Prop}{d:DefRec}{CX:CXT}{x:Str}(hn:l.most=some n)(hn2:n<=sizeLine)(hdf:d.params.defaults=[])(hr:Room k callerA)
  (F:∀ (w:World) (mg:Str->Option Value) (fa:Addr) (h:Heap),YP w h->h.Ns mainGlobals mg->mg d.name=some (.ref fa)->∃ (K:PySem.W.Frag) (fd:FuncData) (sp:Sp),K.In h/\(∀ (s:Shared) (u:Value),BindsTo s fd ⟨[u],[]⟩ [(x,u)]) /\
    (∀ (H:Hp) (a:Addr) (ns:List Int),ns.length<=n->Only H->SqL K H a (ns.map V.int)->sp [.ref a] H (fun v _=>v = .bl true) fun _ _ _=>False)/\∀ base:Heap,K.In base->base.Ns mainGlobals mg->FnG l.prog w K mg base CX k fa fd [x] sp)
  (hCX:∀ (H:Hp) (s:Shared) (e:Value) (s':Shared),CX [] H s (fun _ _ _=>False) e s'->False):PySem.W.WalkO q loose XP YP l.row.toRowW d [] (fun f vs=>PySem.call f vs) :=
 Att.attach_call hn hdf fun w s₀ s₁ mg mb fa o pm cd doc a vs ns G Y ho hd hcd hmg hobj hints hlen hg =>
  let ⟨K,fd,sp,KX,hbd,hsp,hF⟩:=F w mg fa _ Y G.T.g hmg
  pA KX G.T.g G.T.b G.T.builtins G.T.nolimit hg hobj hints (Nat.le_trans hlen hn2) hr hF hbd (fun H hO hS=>hsp H a ns hlen hO hS) fun H e s'=>hCX H s₁ e s'
end M
namespace M
open PySem PySem.Spec PyProof.Rows L2 B
def faC(K:PySem.W.Frag)(mg:Str->Option Value)(names:List (Str×Option Str))(k:Nat):Addr:=match names.getD k ("",none) with
 | (x,none)=>adr (mg x)
 | (x,some m)=>He.ma K (He.ga K x) m
def e8(P:Program)(w:World)(K:PySem.W.Frag)(mg:Str->Option Value)(base:Heap)(names:List (Str×Option Str))(cls flds:List Str)(h:uu flds=true):Pm:=⟨P,w,K,mg,base,nmX flds,uq h,fun c=>He.ga K (cls.getD c ""),faC K mg names,flds.length,0,fun _=>0,fun _=>0⟩
theorem bindsM{K:PySem.W.Frag}{x qual:Str}{st:Stmt}{kws:List (Str×V)}{f:Addr}{fd:FuncData}{ps:List Str}(F:FunD K x qual (defArgs st) (defBody st) (defScope st) [] kws f fd)
  (hb:∀ (kV doc pm:Value) (an:Option Addr) (cdv ct:Value) (us:List Value),us.length=ps.length->bindArgs (PySem.W.fnOf x qual (defArgs st) (defBody st) (defScope st) .none kV doc pm an cdv ct) ⟨us,[]⟩=pure (ps.zip us)):Binds K fd ps []:=F.bindsN hb
end M
namespace M
open PySem PySem.Spec PyProof.Rows L2 B
abbrev GG:=Nat->List (Option Cel)
def gat(g:GG)(i j:Nat):Option Cel:=match (g i)[j]? with
 | some c=>c
 | none=>none
def jO(g:GG)(i:Nat)(c:Cel):GG:=upg g i (g i ++ [some c])
section
variable{g:GG}{i j i' j':Nat}{c c':Cel}
theorem f6:gat (jO g i c) i (g i).length=some c:=by
 unfold gat jO upg;rw [if_pos rfl]; simp
end
section
variable{QV:Val->Hh->Prop}{P:Po}{δ : Sl}{c:Val}{s l:Int}{g:GG}{L:List Cel}{i j k f:Nat}{cl:Cel}{fs:List (Nat×Val)}{v x y:Val}{kvs:List (Key×Val)}{xs:List Val}
theorem uI(hi:i≠0):(hT c s l g L).get (.glo i j)=gat g i j:=by
 unfold Hh.get hT gat;dsimp only;rw [if_neg hi]; first | done | rfl
theorem oR(e:gat g i j=some cl)(hi:i≠0:=by decide):(hT c s l g L).get (.glo i j)=some cl:=by rw [uI hi]; exact e
theorem rW(hi:i≠0:=by decide):(hT c s l g L).aY i cl=hT c s l (jO g i cl) L:=sY hi
end
end M
namespace M
open PySem PySem.Spec PyProof.Rows L2 B
def rMulS:R2:=fun x y H Q=>∃ (z:Str) (k:Int),x = .str z/\y = .int k/\z.length<=16/\-(2 ^ 63:Int)<=k/\k<=1000000/\Q (.str (Txt.mul z k)) H
theorem ug{X:Cx}:OpR X (binaryOp .Mult) rMulS:=by
 intro pins s σ H x y v u Q I rx ry h;obtain⟨z,k,rfl,rfl,h1,h2,h3,q⟩:=h;obtain⟨t,rfl⟩:=rx;obtain⟨t',rfl⟩:=ry;exact SB.mul (mulOk_of 16 1048576 (by omega) (by omega) h2 (by decide) (by decide)) fun t2 k2=>⟨.str (Txt.mul z k),H,I.tok _,⟨_,rfl⟩,q⟩
def iS(h:Hh)(x y:Val):Res Val:=match x,y with
 | .str z,.int k=>if z.length<=16/\-(2 ^ 63:Int)<=k/\k<=1000000 then .ok (.str (Txt.mul z k)) h else .err
 | _,_=>.err
theorem tn{p:Pm}:cj p rMulS iS:=fun m h G H u v x y Q W σ w rx ry e=>by
 unfold iS at e
 split at e
 .cases rx; cases ry
  split at e
  .rename_i hc; exact⟨_,_,rfl,rfl,hc.1,hc.2.1,hc.2.2,ao.here e w (.str _)⟩
  .exact e.elim
 .exact e.elim
section
variable{C:Ct}{a b:Expr}{pos:Pos}{fa fb:Sl->Hh->Res Val}
theorem tN(ha:SE C a fa)(hb:SE C b fb):SE C (.BinOp a .Mult b pos) (m2 iS fa fb):=gR (fun W X g=>ug) tn ha hb
theorem o_mulS{h:Hh}{z:Str}{k:Int}{QV:Val->Hh->Prop}(h1:z.length<=16)(h2:0<=k/\k<=1000000)(q:QV (.str (Txt.mul z k)) h):wpR (iS h (.str z) (.int k)) QV:=wpR.eq (if_pos ⟨h1,by omega,h2.2⟩:(if z.length<=16/\-(2 ^ 63:Int)<=k/\k<=1000000 then Res.ok (Val.str (Txt.mul z k)) h else .err)=_) q
end
end M
namespace M
open PySem PySem.Spec PyProof.Rows L2 B He
abbrev AlL:Type:=M.AlX×List (Option (List (Option (Str×Int))))
end M
namespace M
open PySem PySem.Spec PyProof.Rows L2 B
def fm(Γ : Calls)(ok:List Nat)(i:Nat)(fs:Sl->Hh->Res (List Val)):Sl->Hh->Res Val:=fun δ h=>match δ[i]? with
 | some (some (.fn f))=>if f∈ok then(fs δ h).bind fun xs h1=>Γ f xs h1 else .err
 | _=>.err
section
variable{C:Ct}{T:Nat->Option Df}{n i:Nat}{ok:List Nat}{x:Str}{e:Expr}{es:List Expr}{q pos:Pos}{fs:Sl->Hh->Res (List Val)}
def tCallV(p:Pm)(T:Nat->Option Df)(n:Nat)(ok:List Nat)(i:Nat)(E:L2.St->XK)(t:TA):TE:=fun σ H Q=>∃ f d,f∈ok/\T f=some d/\σ[i]?=some (some (.ref (p.fa f)))/\t σ H fun vs H1=>spM p d.np (ar T n f) vs H1 Q (E σ)
theorem qN(hc:aH C.p T n)(hok:∀ f∈ok,∃ d,T f=some d/\d.kw=[])(hk:3 * n<=C.k)(hN:C.N[i]?=some x)(hv:Vis C.sc x)(ha:SA C (e :: es) fs)(hd:(x == ("__debug__" : Str))=false:=by decide)(hcd:(x == ("__classdict__" : Str))=false:=by decide)
  (he:∀ env,starEach (e :: es) env=(false,eval e env) :: starEach es env:=by intro _; rfl) (hpl:∀ env,(backTo pos (starEach es env)).any (·.1)=false:=by intro _; rfl):SE C (.Call (.Name x q) (e :: es) [] pos) (fm (ar T n) ok i fs):=by
 obtain⟨t,pa,sa⟩:=ha;refine⟨fun W=>tCallV C.p T n ok i (L2.WE W) (t W),fun W X g=>⟨fun pins s σ H Q I ⟨f,d,hf,hT,hs,ht⟩=>?_⟩,fun W σ δ m h G H Q en w e=>?_⟩
 .obtain⟨d',hT',hkw⟩:=hok f hf;rw [hT] at hT'
  cases hT'
  obtain⟨fd,F,kp,b,_⟩:=hc f d hT;have hv':Vis X.env.scope x:=by rw [g.sc]; exact hv
  refine wpAny_Call_Name_kw (thn ((pe_var (pos:=q) (by rw [g.N]; exact hN) hv' hd hcd).run pins s σ H (fun v H1=>v = .ref (C.p.fa f)/\H1=H) I ⟨_,hs,rfl,rfl⟩) fun u s1 ⟨v,H1,I1,r1,q1⟩=>?_);obtain⟨rfl,rfl⟩:=q1
  cases r1
  refine PySem.W.callWith_K (h₀:=X.base) I.ok.mod.kin (by rw [g.K]; exact kp) (thn ((pa W X g).run pos pins s1 σ _ _ I1 ht) fun us s2 ⟨vs,H2,I2,r,q⟩=>⟨I2.kIn,?_⟩) (he _) (hpl _);have F':FnG X.prog X.w X.K X.mg X.base (L2.CX X.prog X.w) (3 * n) (C.p.fa f) fd d.ps (spM C.p d.np (ar T n f)):=by rw [g.prog,g.w,g.K,g.mg,g.base]; exact F
  exact oy (dvs:=[]) F' (g.room.mono hk) g.gd (by rw [g.K]; exact b hkw) .nil (passAt g.takes σ) I2 r (by rw [List.append_nil]; exact q)
 .unfold fm at e
  split at e
  .rename_i f hi
   split at e
   .rename_i hf;obtain⟨d,hT,hkw⟩:=hok f hf;obtain⟨v,hs,rv⟩:=en.get i _ hi
    cases rv
    refine⟨f,d,hf,hT,hs,sa W σ δ m h G H _ en w (ao.bind e fun xs h1 m1 G1 us H1 s1 w1 r1 e1=>?_)⟩;have hl:xs.length=d.np:=by
     by_cases z:xs.length=d.np
     .exact z
     .rw [jT hT z] at e1; exact e1.elim
    refine⟨by rw [r1.len]; exact hl,m1,h1,G1,xs,w1,r1,?_⟩
    cases hr:ar T n f xs h1 with
    | err=>rw [hr] at e1; exact e1
    | ok v h'=>rw [hr] at e1; exact e1
    | exc c fs h'=>rw [hr] at e1; exact e1
   .exact e.elim
  .exact e.elim
end
end M
namespace L2
open PySem PySem.Spec PyProof.Rows
abbrev dx2(kx vx t0 i0 t1 i1:Expr)(f0 f1:List Expr)(sc:Scope)(ps:Pos):Expr:=.DictComp kx vx [⟨t0,i0,f0,0⟩,⟨t1,i1,f1,0⟩] sc ps
section
variable{P:Program}{w:World}{A:Around}{R:Result->Shared->Prop}{kx vx t0 i0 t1 i1:Expr}{f0 f1:List Expr}{sc:Scope}{ps:Pos}{it acc:Value}{D:Addr}{en:Env}
abbrev nb(P:Program)(w:World)(A:Around)(en:Env)(R:Result->Shared->Prop):Value->Shared->Prop:=notedBy (model P w) A en fun e s'=>R (.error e) s'
abbrev tests(en:Env)(fs:List Expr):Sem Bool:=forIn fs true fun c r=>if r=true then do let ok <- isTrue c en (eval c en); pure (ForInStep.yield ok) else pure (ForInStep.yield r)
end
section
variable{X:Cx}
abbrev AllB(X:Cx)(sc:Scope)(F:Cx->Prop):Prop:=∀ (s:Shared) (H:Hp) (C:Addr) (cl:List (Str×Addr)) (fp:List Addr),F (X.blk s H sc (compEnvC sc cl C X.env) fp)
end
end L2
namespace M
open PySem PySem.Spec PyProof.Rows L2 B
section
variable{QV:Val->Hh->Prop}{δ : Sl}{h:Hh}{md:Md}{vs vs1:List Nat}{fw fw1:Sl->Hh->Res Wk}{tg tg1:Val->Sl->Option Sl}{fe:Sl->Hh->Res Val}{ft ft1:Sl->Hh->Res Bool}
theorem sV{Γ : Calls}{ok:List Nat}{i f:Nat}{fs:Sl->Hh->Res (List Val)}(e:δ[i]?=some (some (.fn f)))(hf:f∈ok)(q:wpR (fs δ h) fun xs h1=>wpR (Γ f xs h1) QV):wpR (fm Γ ok i fs δ h) QV:=by
 unfold fm;rw [e];dsimp only;rw [if_pos (by simpa using hf)];exact .bind q
theorem nW{fa fb:Sl->Hh->Res Val}(t:wpR (ft δ h) fun c h'=>c=true/\h'=h)(q:wpR (fa δ h) QV):wpR (mIf ft fa fb δ h) QV:=kX t (fun _=>q) fun e=>by cases e
theorem w_ifN{fa fb:Sl->Hh->Res Val}(t:wpR (ft δ h) fun c h'=>c=false/\h'=h)(q:wpR (fb δ h) QV):wpR (mIf ft fa fb δ h) QV:=kX t (fun e=>by cases e) fun _=>q
theorem lx{f g:Sl->Hh->aC}{P:Po}(t:wpR (ft δ h) fun c h'=>c=true/\h'=h)(q:wpS (f δ h) P):wpS (bU ft f g δ h) P:=el t (fun _=>q) fun e=>by cases e
theorem fL{f g:Sl->Hh->aC}{P:Po}(t:wpR (ft δ h) fun c h'=>c=false/\h'=h)(q:wpS (g δ h) P):wpS (bU ft f g δ h) P:=el t (fun e=>by cases e) fun _=>q
end
end M
namespace M
open PySem PySem.Spec PyProof.Rows L2 B He
section
variable{C:Ct}{x:Str}{pos q:Pos}{a b e:Expr}{es:List Expr}{fa fb:Sl->Hh->Res Val}{vs:List Nat}{T:Nat->Option Df}{n f:Nat}{d:Df}{fs:Sl->Hh->Res (List Val)}
theorem va(i:Nat)(hN:C.N[i]?=some x)(hv:C.sc.names.lookup x=some .local)(hd:(x == ("__debug__" : Str))=false:=by decide)(hcd:(x == ("__classdict__" : Str))=false:=by decide):SE C (.Name x pos) (ai i):=mY hN (.inl hv) hd hcd
theorem vb(i:Nat)(hN:C.N[i]?=some x)(hv:C.sc.names.lookup x=some .cell)(hd:(x == ("__debug__" : Str))=false:=by decide)(hcd:(x == ("__classdict__" : Str))=false:=by decide):SE C (.Name x pos) (ai i):=mY hN (.inr (.inl hv)) hd hcd
theorem vc(i:Nat)(hN:C.N[i]?=some x)(hv:Vis C.sc x:=by first | exact .inl rfl | exact .inr (.inl rfl) | exact .inr (.inr rfl))(hd:(x == ("__debug__" : Str))=false:=by decide)(hcd:(x == ("__classdict__" : Str))=false:=by decide):SE C (.Name x pos) (ai i):=mY hN hv hd hcd
theorem na(i:Nat)(hN:C.N[i]?=some x)(hl:C.sc.names.lookup x=some .local)(hi:i∈vs:=by decide):SG C (.Name x pos) vs (tgN i):=tL hN (.inl hl) hi
theorem sb(ha:SE C a fa)(hb:SE C b fb)(hs:PlainIx b:=by exact fun _ _=>rfl):SE C (.Subscript a b pos) (m2 aq fa fb):=tM hs ha hb
theorem cl(hc:aH C.p T n)(hT:T f=some d)(hm:C.p.mg x=some (.ref (C.p.fa f)))(ha:SA C (e :: es) fs)(hk0:d.kw=[]:=by rfl)(hk:3 * n<=C.k:=by exact Nat.le_add_right _ _)(hl:C.sc.names.lookup x=some .globalImplicit:=by rfl)(hdb:(x == ("__debug__" : Str))=false:=by decide)
  (he:∀ env,starEach (e :: es) env=(false,eval e env) :: starEach es env:=by intro _; rfl) (hpl:∀ env,(backTo pos (starEach es env)).any (·.1)=false:=by intro _; rfl):SE C (.Call (.Name x q) (e :: es) [] pos) (aA (ar T n) f fs):=tQ hc hT hk0 hk hm hl ha hdb he hpl
end
end M
namespace M
open PySem PySem.Spec PyProof.Rows L2 B
theorem oS{p:Pm}{x:Str}{f:Nat}(h:p.mg x=some (.ref (p.fa f))):eX p x (.fn f):=⟨_,.ref (p.fa f),h,rfl,fun _ _ _=>.fn f⟩
end M
namespace M
open PySem PySem.Spec PyProof.Rows L2 B
def FG:Str:="0123456789"
def bo(z:Str):Str:=if decide (cutS z none (some 1)=("-" : Str))=true then cutS z (some 1) none else z
def allF(f:Str):Bool:=(f.cps.toList.map fun c=>decide (c∈FG.cps.toList)).all id
def hY(z:Str):Bool:=decide (bo z=("" : Str)) || (decide (10 < (bo z).length) || !allF (bo z))
def gI(z:Str):Bool:=decide (chS ((bo z).cps.toList.headD 0)=("0" : Str)) && !decide (z=("0" : Str))
def aG(z:Str):Option Int:=if hY z=true then none else if gI z=true then none else PySem.intText? z
def onI:Option Int->Val
 | some i=>.int i
 | none=>.non
theorem r8{c:Nat}:c∈FG.cps.toList↔48<=c/\c<=57:=by
 have e:FG.cps.toList=[48,49,50,51,52,53,54,55,56,57]:=by decide +kernel
 rw [e]
 simp only [List.mem_cons,List.not_mem_nil,or_false]
 omega
theorem ji{f:Str}:allF f=true↔NumText.AllDigits f.cps.toList:=by
 unfold allF;rw [List.all_map,List.all_eq_true]
 constructor
 .intro h c hc;exact r8.mp (of_decide_eq_true (h c hc))
 .intro h c hc;exact decide_eq_true (r8.mpr (h c hc))
theorem str_len{z:Str}:z.cps.toList.length=z.length:=Array.length_toList
theorem n7{a b:Str}(h:a.cps.toList=b.cps.toList):a=b:=by
 obtain⟨a⟩:=a;obtain⟨b⟩:=b;have:a=b:=Array.toList_inj.mp h;rw [this]
theorem str_ne{z:Str}(h:z≠("" : Str)):z.cps.toList≠[]:=fun e=>h (n7 e)
theorem oW{z:Str}:(cutS z none (some 1)).cps.toList=z.cps.toList.take 1:=by
 show(z.cps.toList.drop (HT.sIx z.length 0 none)).take (HT.sIx z.length z.length (some ((1:Nat):Int)) - HT.sIx z.length 0 none)=_;rw [HT.sIx_none,HT.sIx_nat,List.drop_zero,Nat.sub_zero,<- str_len]
 cases z.cps.toList with
 | nil=>rfl
 | cons a b =>
  have e:min 1 (a :: b).length=1:=by rw [List.length_cons]; omega
  rw [e]
theorem gN{z:Str}:(cutS z (some 1) none).cps.toList=z.cps.toList.drop 1:=by
 show(z.cps.toList.drop (HT.sIx z.length 0 (some ((1:Nat):Int)))).take (HT.sIx z.length z.length none - HT.sIx z.length 0 (some ((1:Nat):Int)))=_;rw [HT.sIx_none,HT.sIx_nat,<- str_len]
 cases z.cps.toList with
 | nil=>rfl
 | cons a b =>
  have e:min 1 (a :: b).length=1:=by rw [List.length_cons]; omega
  rw [e];show b.take (b.length + 1 - 1)=b;rw [Nat.add_sub_cancel,List.take_length]
theorem jJ{z:Str}(h:cutS z none (some 1)=("-" : Str)):z.cps.toList=45 :: (cutS z (some 1) none).cps.toList:=by
 have e:=oW (z:=z);rw [h] at e;rw [gN];have e2:(Str.ofString "-").cps.toList=[45]:=by decide +kernel
 rw [e2] at e
 cases hz:z.cps.toList with
 | nil=>rw [hz] at e; cases e
 | cons a b =>
  rw [hz] at e;have e:[45]=[a]:=e
  injection e with e
  rw [<- e]; rfl
theorem mx{z:Str}:(bo z).length<=z.length:=by
 unfold bo
 split
 .rw [<- str_len,gN,List.length_drop,str_len]; omega
 .exact Nat.le_refl _
theorem lX{z:Str}(h:hY z=false):(∃ n,PySem.intText? z=some n)/\z.length<=640/\0 < (bo z).cps.toList.length:=by
 unfold hY at h;obtain⟨h1,h2⟩:=Bool.or_eq_false_iff.mp h;obtain⟨h2,h3⟩:=Bool.or_eq_false_iff.mp h2;have h1:=str_ne (of_decide_eq_false h1);have h2:(bo z).length<=10:=by have:=of_decide_eq_false h2; omega
 have h3:=ji.mp (by simpa using h3);have h0:0 < (bo z).cps.toList.length:=List.length_pos_iff.mpr h1;unfold bo at *
 by_cases hm:cutS z none (some 1)=("-" : Str)
 .rw [if_pos (decide_eq_true hm)] at *;have e:=jJ hm;have hl:z.length<=11:=by
   rw [<- str_len,e,List.length_cons,str_len]; omega
  exact⟨⟨_,PySem.intText_neg e h3 h1 (by omega)⟩,by omega,h0⟩
 .rw [if_neg (by rw [decide_eq_false hm]; decide)] at *;exact⟨⟨_,PySem.intText_digits h3 h1 (by omega)⟩,by omega,h0⟩
theorem jI:∀ n:Nat,(TL.numL n).headD 0=48->n=0:=by
 intro n
 induction n using Nat.strongRecOn with
 | _ n ih =>
  by_cases h:n < 10
  .rw [TL.numL_lt h];intro e;have:48 + n=48:=e;omega
  .rw [TL.numL_step (by omega)];intro e;have hne:=TL.numL_ne (n / 10)
   cases hx:TL.numL (n / 10) with
   | nil=>exact absurd hx hne
   | cons a b =>
    rw [hx] at e;have e:a=48:=e;have:=ih (n / 10) (by omega) (by rw [hx]; exact e);omega
theorem fB{m:Nat}:(Str.ofString (toString ((m:Nat):Int))).cps.toList=TL.numL m:=TL.tl_num m
theorem iU(s:String):(Str.ofString s).cps.toList=s.toList.map Char.toNat:=by
 first
 | exact(by rw [PySem.Str.ofString_eq_toList])
 | (rw [PySem.Str.ofString_eq_toList]; simp)
theorem ie{m:Nat}:(Str.ofString (toString (-((m + 1:Nat):Int)))).cps.toList=45 :: TL.numL (m + 1):=by
 have e:toString (-((m + 1:Nat):Int)) = "-" ++ toString ((m + 1:Nat):Int):=rfl;have h:(Str.ofString (toString ((m + 1:Nat):Int))).cps.toList=TL.numL (m + 1):=fB;rw [iU] at h;rw [e,iU,String.toList_append,List.map_append,h]
 rfl
theorem lY{z:Str}{n:Int}(h1:hY z=false)(h2:gI z=false)(h3:PySem.intText? z=some n):aG z=some n:=by
 unfold aG;rw [if_neg (by rw [h1]; decide),if_neg (by rw [h2]; decide),h3]
theorem sC{c d:Nat}(h:chS c=chS d):c=d:=by
 have e:=congrArg (fun z:Str=>z.cps.toList) h;have e:[c]=[d]:=e
 injection e
theorem dE{i:Int}(h:-1000000000<=i/\i<=1000000000):aG (Str.ofString (toString i))=some i:=by
 have hz0:("0" : Str)=chS 48:=by decide +kernel
 have hlen:∀ m:Nat,m<=1000000000->(TL.numL m).length<=10:=fun m hm=>TL.numL_len (k:=10) (by decide) (Nat.lt_of_le_of_lt hm (by decide))
 by_cases h0:0<=i
 .obtain⟨m,rfl⟩:=Int.eq_ofNat_of_zero_le h0;have ez:=fB (m:=m);generalize hz:Str.ofString (toString ((m:Nat):Int))=z at *;have hl:=hlen m (by omega);have hd:NumText.AllDigits z.cps.toList:=by rw [ez]; exact TL.numL_digits m
  have hne:z.cps.toList≠[]:=by rw [ez]; exact TL.numL_ne m
  have hf:bo z=z:=by
   unfold bo;rw [if_neg];intro e;have e:=jJ (of_decide_eq_true e);have:=hd 45 (by rw [e]; exact List.mem_cons_self);omega
  have hb:hY z=false:=by
   unfold hY;rw [hf,ji.mpr hd,decide_eq_false (show ¬ 10 < z.length by rw [<- str_len,ez]; omega),decide_eq_false (fun e:z=("" : Str)=>hne (by rw [e]; decide +kernel))]
   rfl
  have hl2:gI z=false:=by
   unfold gI;rw [hf]
   by_cases e:chS (z.cps.toList.headD 0)=("0" : Str)
   .rw [hz0] at e;have e:=sC e;rw [ez] at e;have hm:=jI m e;subst hm;have:z=("0" : Str):=by rw [<- hz]; decide +kernel
    rw [this]; decide +kernel
   .rw [decide_eq_false e]; rfl
  refine lY hb hl2 ?_;rw [PySem.intText_digits hd hne (by rw [<- str_len,ez]; omega),ez,TL.numL_val]
 .obtain⟨m,rfl⟩:∃ m:Nat,i = -((m + 1:Nat):Int):=⟨(-i).toNat - 1,by omega⟩;have ez:=ie (m:=m);generalize hz:Str.ofString (toString (-((m + 1:Nat):Int)))=z at *;have hl:=hlen (m + 1) (by omega);have hc:cutS z none (some 1)=("-" : Str):=n7 (by rw [oW,ez]; show [45]=_; decide +kernel);have hf:(bo z).cps.toList=TL.numL (m + 1):=by
   unfold bo;rw [if_pos (decide_eq_true hc),gN,ez]; rfl
  have hd:NumText.AllDigits (bo z).cps.toList:=by rw [hf]; exact TL.numL_digits _
  have hne:(bo z).cps.toList≠[]:=by rw [hf]; exact TL.numL_ne _
  have hb:hY z=false:=by
   unfold hY;rw [ji.mpr hd,decide_eq_false (show ¬ 10 < (bo z).length by rw [<- str_len,hf]; omega),decide_eq_false (fun e:bo z=("" : Str)=>hne (by rw [e]; decide +kernel))]
   rfl
  have hl2:gI z=false:=by
   unfold gI
   by_cases e:chS ((bo z).cps.toList.headD 0)=("0" : Str)
   .rw [hz0] at e;have e:=sC e;rw [hf] at e;exact absurd (jI _ e) (by omega)
   .rw [decide_eq_false e]; rfl
  refine lY hb hl2 ?_;rw [PySem.intText_neg ez (TL.numL_digits _) (TL.numL_ne _) (by rw [<- str_len,ez,List.length_cons]; omega),TL.numL_val]
end M
namespace M
open PySem PySem.Spec PyProof.Rows L2 B
abbrev kerr:List Value:=[.type "KeyError",.type "LookupError",.type "Exception",.type "BaseException",.type "object"]
abbrev verr:List Value:=[.type "ValueError",.type "Exception",.type "BaseException",.type "object"]
abbrev ierr:List Value:=[.type "IndexError",.type "LookupError",.type "Exception",.type "BaseException",.type "object"]
structure NB(B own newId initId:String)(bm:List Value):Prop where
 ends:newId.endsWith ".__new__" = true
 owner:newId.dropRight 8=own
 entry:entryFor table newId=some Builtin.«BaseException.__new__»
 quiet:newId.startsWith "lifetime." = false
 split:splitId newId=some (own,"__new__")
 kind:builtinKind newId=some .builtinFn
 row:Manifest.signature? newId=some ⟨.any,own,own,.cls,[⟨"args",.varPos,false⟩,⟨"kwargs",.varKw,false⟩]⟩
 star:(own != "*")=true
 canon:Manifest.canonical newId=Manifest.canonical "BaseException.__new__"
 hasO:bm.contains (.type own)=true
 hasX:bm.contains (.type "BaseException")=true
 noA:bm.contains (.type "AttributeError")=false
 noN:bm.contains (.type "NameError")=false
 init:Slot B "__init__" initId
 iEntry:entryFor table initId=some Builtin.«BaseException.__init__»
 iSplit:splitId initId=some (B,"__init__")
 iKind:builtinKind initId=some .slot
 iRow:Manifest.signature? initId=some ⟨.positional,"*",B,.self,[⟨"args",.varPos,false⟩]⟩
 hasB:bm.contains (.type B)=true
 iStar:(B != "*")=true
 st:StoreFacts B bm "object.__setattr__" "object"
 ty:typeOf (.type B)=pure (.type "type")
 bt:bootBuiltins B=some (.type B)
 stub:Manifest.isStub B=false
 hnd:PySem.W.handedIn (.builtin initId)=true
theorem g9:StoreFacts "KeyError" kerr "object.__setattr__" "object" :=
 ⟨by kernel_rfl,.of (owner:="object") (n:="__setattr__") (by rw [typeLookup_type,builtinLookup_eq_fast]; kernel_rfl) (by decide +kernel) (by decide +kernel) (by decide +kernel) (by first | exact .inl (by decide +kernel) | exact .inr (by decide +kernel)) (by rw [isSubtype_type]; kernel_rfl),PySem.F.entry_object_sa,by decide +kernel,by decide +kernel,by decide +kernel,(fun a b c=>by unfold argsOk; kernel_rfl),fun self=>by kernel_rfl⟩
theorem nbK:NB "KeyError" "LookupError" "LookupError.__new__" "KeyError.__init__" kerr :=
 have F:=PySem.F.excBase_LookupError
 ⟨F.ends,F.owner,F.entry,F.quiet,F.newSplit,F.newKind,F.newRow,F.noStar,F.canon,by decide +kernel,by decide +kernel,by decide +kernel,by decide +kernel,
  .of (owner:="KeyError") (n:="__init__") (by rw [typeLookup_type,builtinLookup_eq_fast]; kernel_rfl) (by decide +kernel) (by decide +kernel) (by decide +kernel) (by first | exact .inl (by decide +kernel) | exact .inr (by decide +kernel)) (by rw [isSubtype_type]; kernel_rfl),
  (entryFor_alias (id':="BaseException.__init__") (by rw [fastTable_eq_tree]; kernel_rfl) (by first | rfl | decide +kernel) (by decide +kernel) (by rw [fastTable_eq_tree]; kernel_rfl)),by kernel_rfl,by kernel_rfl,by kernel_rfl,by decide +kernel,by decide +kernel,g9,by kernel_rfl,by kernel_rfl,by decide +kernel,by decide +kernel⟩
theorem nbV:NB "ValueError" "ValueError" "ValueError.__new__" "ValueError.__init__" verr :=
 have F:=PySem.F.excBase_ValueError
 ⟨F.ends,F.owner,F.entry,F.quiet,F.newSplit,F.newKind,F.newRow,F.noStar,F.canon,F.hasB,F.hasBase,F.noAttr,F.noName,F.init,F.initEntry,F.initSplit,F.initKind,F.initRow,F.hasB,F.noStar,PySem.F.store_ValueError,by kernel_rfl,by kernel_rfl,by decide +kernel,by decide +kernel⟩
theorem nbI:NB "IndexError" "IndexError" "IndexError.__new__" "IndexError.__init__" ierr :=
 have F:=PySem.F.excBase_IndexError
 ⟨F.ends,F.owner,F.entry,F.quiet,F.newSplit,F.newKind,F.newRow,F.noStar,F.canon,F.hasB,F.hasBase,F.noAttr,F.noName,F.init,F.initEntry,F.initSplit,F.initKind,F.initRow,F.hasB,F.noStar,PySem.F.store_IndexError,by kernel_rfl,by kernel_rfl,by decide +kernel,by decide +kernel⟩
section
variable{prog:Program}{w:World}{A:Around}{E:Value->Shared->Prop}{R:Result->Shared->Prop}{h:Heap}{g:Array GenState}{d:Drawn}{t:Nat}{os:OsState}{K:PySem.W.Frag}
variable{nm q:Str}{C N:Addr}{bs bm:List Value}{hdct:Bool}{sn:List Str}{sub:List Value}{ab:Bool}{col:Option Bool}{dd:Option Addr}{k0 k1 k2 k3 k5:Option Value}{B own newId initId:String}
theorem rG{M:Model}(F:NB B own newId initId bm){rest:List Value}{Q:Unit->Shared->Prop}(hC:h.get? C=some (excClassObj nm q C N bs bm hdct sn sub ab col dd k0 k1 k2 k3 k5 newId))(hq:Q () ⟨h,g,d,t,os⟩):wpAny M A (checkBuiltinCall newId ⟨.ref C :: rest,[]⟩) Q E ⟨h,g,d,t,os⟩:=by
 have hcont:(Value.ref C :: bm).contains (.type own)=true:=by rw [List.contains_cons,F.hasO,Bool.or_true]
 have z:=F.star
 simp only [checkBuiltinCall,F.kind,F.split,F.row]
 repeat (first | (refine wpAny_loadPart_at hC ?_) | (refine wpAny_isSubtype_exc hC ?_; rw [hcont]) | (refine wpAny_staticBase_exc hC ?_) | (refine wpAny_madeBy_exc hC ?_) | (simp only [bne_self_eq_false,Bool.false_eq_true,if_false]) | wp_step)
 exact hq
theorem nb_new(F:NB B own newId initId bm){rest:List Value}(hC:h.get? C=some (excClassObj nm q C N bs bm hdct sn sub ab col dd k0 k1 k2 k3 k5 newId))
  (hq:R (.ok (.ret (.ref (h.objs.size + 1)))) ⟨(h.push (PySem.W.kdv_tup rest)).push (HandSPX.excO C h.objs.size),g,d,t,os⟩) (hz:rest.length<=sizeLine):codeAny (model prog w) A (.builtin newId ⟨.ref C :: rest,[]⟩) R ⟨h,g,d,t,os⟩:=by
 have z:=F.ends;have c1:(Value.ref C :: bm).contains (.type own)=true:=by rw [List.contains_cons,F.hasO,Bool.or_true]
 have c2:(Value.ref C :: bm).contains (.type "AttributeError")=false:=by rw [List.contains_cons,F.noA]; rfl
 have c3:(Value.ref C :: bm).contains (.type "NameError")=false:=by rw [List.contains_cons,F.noN]; rfl
 refine codeAny_builtinAt F.entry ?_;unfold Builtin.«BaseException.__new__»;refine PySem.wpAt_bind ?_;show PySem.wpAt _ _ _ (stack >>= _) _ _ _;refine PySem.wpAt_bind (PySem.wpAt_stack fun p below=>PySem.wpAt_of_wpAny ?_)
 wp_walk
 refine PySem.wpAt_of_wpAny ?_;rw [F.owner]
 repeat (first | (with_reducible refine wpAny_madeHere_exc F.canon hC ?_) | (with_reducible refine wpAny_loadPart_at hC ?_) | (with_reducible refine wpAny_isSubtype_exc hC ?_; first | rw [c1] | rw [c2] | rw [c3]) | wp_step)
 show R _ _;rw [Heap.size_push];exact hq
theorem uy(F:NB B own newId initId bm){rest:List Value}{fI:Addr}{Q:Fin->Shared->Prop}(hC:h.get? C=some (excClassObj nm q C N bs bm hdct sn sub ab col dd k0 k1 k2 k3 k5 newId))
  (hi:PySem.W.Looks (model prog w) h (typeLookup (.ref C) "__init__") (some (.ref fI))) (hb:∀ self,PySem.W.Looks (model prog w) h (bindSpecial (.ref fI) self) (.ref fI,[self])) (hz:rest.length<=sizeLine)
  (hq:codeAny (model prog w) A (.call (.ref fI) ⟨.ref (h.objs.size + 1) :: rest,[]⟩) (fun r s'=>match r with | .ok (.ret v)=>v = .none/\Q (.done (.ret (.ref (h.objs.size + 1)))) s' | .ok _=>False | .error e=>E e s') ⟨(h.push (PySem.W.kdv_tup rest)).push (HandSPX.excO C h.objs.size),g,d,t,os⟩) :
  wpAny (model prog w) A (Builtin.«type.__call__» ⟨.ref C :: rest,[]⟩) Q E ⟨h,g,d,t,os⟩:=by
 repeat (first | (with_reducible refine wpAny_loadPart_at hC ?_) | (with_reducible refine wpAny_madeBy_exc hC ?_) | wp_step)
 refine codeAny_call_builtin_code (Code.quiet_builtin _ F.quiet) (rG F hC (nb_new F hC ?_ hz));show wpAny _ _ _ _ _ _;have k:∀ b o,h.get? b=some o->((h.push (PySem.W.kdv_tup rest)).push (HandSPX.excO C h.objs.size)).get? b=some o:=fun b o e=>Heap.get?_push_of_some _ (Heap.get?_push_of_some _ e);have hC1:=k _ _ hC;have hg:((h.push (PySem.W.kdv_tup rest)).push (HandSPX.excO C h.objs.size)).get? (h.objs.size + 1)=some (HandSPX.excO C h.objs.size):=by heap_get
 have cc:(Value.ref C :: bm).contains (.ref C)=true:=by simp
 have i1:=hi.keeps k;have b1:=(hb (.ref (h.objs.size + 1))).keeps k;unfold isInstance
 repeat (first | (with_reducible refine wpAny_loadPart_at hg ?_) | (with_reducible refine wpAny_isSubtype_exc hC1 ?_; rw [cc]) | wp_step)
 show wpAny _ _ (typeLookup (.ref C) _) _ _ _;refine i1.at (wpAny_holding (wpAny_bind (b1.at (wpAny_bind (wpAny_call (codeAny_mono hq fun r s' z=>?_))))));rcases r with e | (v | _ | _ | _) <;> first | exact z | exact z.elim | skip
 obtain⟨rfl,z⟩:=z
 first | exact wpAny_pure (wpAny_pure z) | (wp_walk; exact z)
theorem uA(F:NB B own newId initId bm){rest:List Value}{fI:Addr}(hC:h.get? C=some (excClassObj nm q C N bs bm hdct sn sub ab col dd k0 k1 k2 k3 k5 newId))
  (hi:PySem.W.Looks (model prog w) h (typeLookup (.ref C) "__init__") (some (.ref fI))) (hb:∀ self,PySem.W.Looks (model prog w) h (bindSpecial (.ref fI) self) (.ref fI,[self])) (hz:rest.length<=sizeLine)
  (hq:codeAny (model prog w) (A.under (.builtin "type.__call__" ⟨.ref C :: rest,[]⟩)) (.call (.ref fI) ⟨.ref (h.objs.size + 1) :: rest,[]⟩) (PySem.W.InitBack (h.objs.size + 1) R) ⟨(h.push (PySem.W.kdv_tup rest)).push (HandSPX.excO C h.objs.size),g,d,t,os⟩) :
  codeAny (model prog w) A (.call (.ref C) ⟨rest,[]⟩) R ⟨h,g,d,t,os⟩:=by
 have f1:=tc_lookup;have f2:=tc_bind (.ref C);have hT:(⟨h,g,d,t,os⟩:Shared).TypeIs (.ref C) "type":=⟨_,hC,rfl⟩;refine codeAny_of_tree ?_;show wpAny _ _ (callAny (.ref C) _) _ _ _
 repeat (any_goals (first | assumption | (with_reducible refine wpAny_loadPart_at hC ?_) | wp_step))
 refine⟨rfl,codeAny_call_builtin_at (Code.quiet_builtin _ (by decide +kernel)) entry_typeCall (wpAny_check_type_call_sub hC (uy F hC hi hb hz (codeAny_mono hq fun r s' z=>?_)))⟩;rcases r with e | (v | _ | _ | _) <;> exact z
theorem uz(F:NB B own newId initId bm){e t0:Addr}{rest:List Value}(hC:h.get? C=some (excClassObj nm q C N bs bm hdct sn sub ab col dd k0 k1 k2 k3 k5 newId))(he:h.get? e=some (HandSPX.excO C t0))(hz:rest.length<=sizeLine)
  (hq:∀ h' t1,(∀ b o,b≠e->h.get? b=some o->h'.get? b=some o)->h'.get? e=some (HandSPX.excO C t1)->R (.ok (.ret .none)) ⟨h',g,d,t,os⟩):codeAny (model prog w) A (.call (.builtin initId) ⟨.ref e :: rest,[]⟩) R ⟨h,g,d,t,os⟩:=by
 have cB:(Value.ref C :: bm).contains (.type B)=true:=by rw [List.contains_cons,F.hasB,Bool.or_true]
 have z:=F.iStar;refine codeAny_call_builtin F.init.plain F.iEntry ?_
 simp only [checkBuiltinCall,F.iKind,F.iSplit,F.iRow]
 repeat (first | (with_reducible refine wpAny_loadPart_at he ?_) | (with_reducible refine wpAny_loadPart_at hC ?_) | (with_reducible refine wpAny_isSubtype_exc hC ?_; rw [cB]) | wp_step)
 refine wpAny_onRaise ?_;rw [show ∀ (a b:String) (n:Nat),Bind.check ⟨.positional,"*",B,.self,[⟨"args",.varPos,false⟩]⟩ a b n (List.map (fun x=>x.fst) ({ pos:=Value.ref e :: rest }:Args).kw)=pure () from fun a b n=>check_star_args _ _ _ _ _ _];refine wpAny_pure ?_
 wp_walk
 refine hq _ h.objs.size (fun b o hb ho=>?_) ?_
 .exact(Heap.get?_update_other _ _ (Ne.symm hb)).trans (Heap.get?_push_of_some _ ho)
 .rw [Heap.get?_update_self _ (Heap.get?_push_of_some _ he) rfl]; rfl
open Builtin Builtin.ObjectAttr in
theorem nb_put(F:NB B own newId initId bm){name:Str}{tk:Tok}{v:Value}{x:Addr}{fv:Array Value}(X:K.In h)(hx:h.get? x=some { cls:=.ref C,data:=.fields fv })(ov:PySem.W.excOver K C bm=true)(hh:PySem.W.hasDictIn K C=true)(ht:PySem.W.takerIn K C name=some none)
  (hq:∀ h' tk' dx,(∀ b o,b≠x->h.get? b=some o->h'.get? b=some o)->h.objs.size<=dx->dx≠x->h'.get? x=some { cls:=.ref C,dict:=some dx,data:=.fields fv }->h'.Ns1 dx (fun y=>if y=name then some v else none)->R (.ok (.ret .none)) ⟨h',g,d,tk',os⟩) :
  codeAny (model prog w) A (.call (.builtin "object.__setattr__") ⟨[.ref x,.str name tk,v],[]⟩) R ⟨h,g,d,t,os⟩:=by
 have xs:x≠h.objs.size:=Nat.ne_of_lt (Heap.lt_size hx);refine PySem.W.osa_openX (od:=none) F.st X ⟨hx,rfl,rfl,trivial⟩ ov ht fun b=>?_;obtain⟨cd,hc,hd⟩:=PySem.W.any_some hh;have L:=PySem.W.looks_clsIn (M:=model prog w) X hc;show wpAny _ _ (storeInOwnDict (.ref x) (.ref C) (.str name tk) name v b) _ _ _;obtain⟨nm,bs,mro,ns,qn,hd',sn,sb,ab,col,del⟩:=cd;dsimp only at hd;subst hd;unfold storeInOwnDict ownDictForStores
 repeat (first | (with_reducible refine HandSPX.store_in_new ?_ ?_) | (with_reducible refine wpAny_loadPart_at hx ?_) | (with_reducible refine L.at ?_) | wp_step)
 .exact⟨_,#[],_,(Heap.get?_update_ne _ _ _ _ xs.symm).trans (Heap.get?_push_at rfl rfl),rfl,fun e he=>absurd he (by simp),fun _=>rfl⟩
 .intro h' tk' hn' hs;have hx1:(h.push { cls:=.type "dict",data:=.dict #[] }).get? x=some { cls:=.ref C,data:=.fields fv }:=Heap.get?_push_of_some _ hx;refine hq h' tk' h.objs.size (fun b o hb ho=>?_) (Nat.le_refl _) xs.symm ?_ hn'
  .exact(hs.2 b (Nat.ne_of_lt (Heap.lt_size ho))).trans ((Heap.get?_update_ne _ _ _ _ hb).trans (Heap.get?_push_of_some _ ho))
  .exact(hs.2 x xs).trans (Heap.get?_update_self _ hx1 rfl)
end
def sN(K:PySem.W.Frag)(C:Addr)(bm:List Value)(newId:String):Bool:=match K.lookup C with
 | some ⟨.type "type",_,.cls cd,sl⟩=>cd.mro == .ref C :: bm && (cd.hasDict && (!cd.hasDel && (match sl.toList with
  | [_,_,_,_,some (.builtin n),_]=>n == newId
  | _=>false)))
 | _=>false
theorem uV{K:PySem.W.Frag}{h:Heap}{C:Addr}{bm:List Value}{newId:String}(X:K.In h)(z:sN K C bm newId=true):∃ nm qn N bs sn sub ab col dd k0 k1 k2 k3 k5,h.get? C=some (excClassObj nm qn C N bs bm true sn sub ab col dd k0 k1 k2 k3 k5 newId):=by
 unfold sN at z
 split at z
 .rename_i dd cd sl ho;obtain⟨z1,y1⟩:=Bool.and_eq_true_iff.mp z;obtain⟨z2,y2⟩:=Bool.and_eq_true_iff.mp y1;obtain⟨z3,y3⟩:=Bool.and_eq_true_iff.mp y2
  split at y3
  .rename_i k0 k1 k2 k3 n k5 hs;obtain⟨nm,bs,mro,ns,qn,hd,sn,sub,ab,col,del⟩:=cd;obtain rfl:mro = .ref C :: bm:=beq_iff_eq.mp z1;obtain rfl:n=newId:=beq_iff_eq.mp y3;have w2:hd=true:=z2;have w3:(!del)=true:=z3;rw [Bool.not_eq_true'] at w3;subst w2 w3;have e:sl = #[k0,k1,k2,k3,some (.builtin n),k5]:=by
    obtain⟨l⟩:=sl
    simp only at hs
    rw [hs]
   subst e;exact⟨nm,qn,ns,bs,sn,sub,ab,col,dd,k0,k1,k2,k3,k5,X _ _ ho⟩
  .cases y3
 .cases z
structure Xc(K:PySem.W.Frag)(C fI:Addr)(B own newId initId:String)(bm:List Value):Prop where
 nb:NB B own newId initId bm
 inn:sN K C bm newId=true
 ov:PySem.W.excOver K C bm=true
 hd:PySem.W.hasDictIn K C=true
 sa:PySem.W.findIn K (.ref C) "__setattr__" = some (some (.builtin "object.__setattr__"))
 ini:PySem.W.findIn K (.ref C) "__init__" = some (some (.ref fI))
 tI:PySem.W.typeIn K (.ref fI)=some (.type "function")
 kC:PySem.W.keepIn K (.ref C)=true
 exC:PySem.W.subIn K (.ref C) (.type "BaseException")=some true
 tyC:PySem.W.typeIn K (.ref C)=some (.type "type")
 vB:PySem.W.findCls K (.type B) (.type "type") "__init__" = some (.val (.builtin initId))
def tBini(C:Addr)(ta:TA):TE:=fun σ H Q=>ta σ H fun vs H1=>∃ (a:Addr) (ws:List V),vs = .ref a :: ws/\ws.length<=1000/\H1 a=some (exo a C none)/\Q .non H1
def tXput(C:Addr)(f:Str)(to te:TE):L2.TS:=fun D σ H=>te σ H fun y H1=>to σ H1 fun x H2=>∃ a:Addr,x = .ref a/\H2 a=some (exo a C none)/\∀ dx,H2 dx=none->dx≠a->D.nx σ (upd (upd H2 dx (exd dx [(f,y)])) a (exo a C (some dx)))
section
variable{X:Cx}{C fI:Addr}{B own newId initId:String}{bm:List Value}{o e:Expr}{es:List Expr}{to te:TE}{ta:TA}{f x:Str}{p p' p1 p2 pos:Pos}
theorem ua{pl:Sem Bool}(T:Xc X.K C fI B own newId initId bm)(hg:Gl X x)(hm:X.mg x=none)(hv:bootBuiltins x=some (.type B))(hn:x≠"__name__")(hdb:(x == ("__debug__" : Str))=false)(ha:PA X (e :: es) ta)
  (hc:eval (.Call (.Attribute (.Name x p1) "__init__" p2) (e :: es) [] pos) X.env=(do let ov <- eval (.Name x p1) X.env; standAt p2.atName; let (f,first) <- holding [ov] (getMethod ov "__init__" pl); callWith pos f first (backTo pos (starEach (e :: es) X.env)) (backToKw pos (keywordEach [] X.env))))
  (he:starEach (e :: es) X.env=(false,eval e X.env) :: starEach es X.env) (hpl:(backTo pos (starEach es X.env)).any (·.1)=false):PE X (.Call (.Attribute (.Name x p1) "__init__" p2) (e :: es) [] pos) (tBini C ta):=by
 refine⟨fun pins s σ H Q I h=>PySem.W.methodCall_KW (ld_blt I hg hm hv ?_ hn hdb) hc⟩;obtain⟨m,fr⟩:=I.fr;refine PySem.W.method_type fr I.ok.mod.kin T.nb.ty T.nb.stub T.vB T.nb.hnd ?_;show wpAny _ _ (callWith pos (Value.builtin initId) [] (backTo pos (starEach (e :: es) X.env)) []) _ _ _;refine PyProof.Rows.callWith_method1 (thn (ha.run pos pins _ σ H _ (I.tok _) h) fun us s1 ⟨vs,H1,I1,r1,a,ws,ev,hl,ea,q⟩=>?_) he hpl;subst ev
 cases r1 with
 | @cons _ u0 _ ur ra rw' =>
  obtain rfl:u0=Value.ref a:=ra;obtain⟨nm,qn,N,bs,sn,sub,ab,col,dd,k0,k1,k2,k3,k5,hC⟩:=uV I1.kIn T.inn;obtain⟨t1,ho⟩:=exo_at I1.hok ea;obtain⟨hp,g,d,t,os⟩:=s1;refine wpAny_call (uz T.nb hC ho (by rw [<- Paired.length rw',sizeLine_eq]; omega) fun h' t2 k hx=>?_);have J:=I1.write (t':=t) (x:=a) (e:=a) (o:=exo a C none) (by rw [ea]; exact True.intro) (.inl rfl) k ⟨_,hx⟩ (exo_ok hx);have eu:upd H1 a (exo a C none)=H1:=by
   funext b
   by_cases hb:b=a
   .rw [hb,upd_same,ea]
   .rw [upd_ne hb]
  rw [eu] at J;exact⟨.non,H1,J,rfl,q⟩
theorem t4(T:Xc X.K C fI B own newId initId bm)(hf:PySem.W.takerIn X.K C f=some none)(ho:PE X o to)(he:PE X e te)(hs:swapsWith e (some (.Attribute o f p')) pos.line X.env=pure false):PS X (.Assign [.Attribute o f p'] e pos) (tXput C f to te):=by
 refine⟨fun pins s σ H D I h=>plainObj_wpAny_Assign_Attribute (thn (he.run pins s σ H _ I h) fun v s1 ⟨y,H1,I1,r1,q1⟩=>thn (ho.run pins s1 σ H1 _ I1 q1) fun u s2 ⟨x,H2,I2,r2,a,ex,ea,q⟩=>?_) hs⟩;subst ex;obtain rfl:u=Value.ref a:=r2;obtain⟨t1,hoa⟩:=exo_at I2.hok ea;obtain⟨hp,g,d,t,os⟩:=s2;refine PySem.W.set_plain I2.kIn (ox:={ cls:=.ref C,dict:=none,data:=.fields #[.ref t1,.none,.none,.none,.bool false,.none] }) (od:=none) ⟨hoa,rfl,rfl,trivial⟩ T.sa ?_;refine nb_put T.nb I2.kIn hoa T.ov T.hd hf fun h' tk' dx k dn dne hx hn=>?_;have hnd:H2 dx=none:=I2.hok.fresh dn;have nd:∀ {b:Addr} {o:Obj},hp.get? b=some o->b≠dx:=fun q=>Nat.ne_of_lt (Nat.lt_of_lt_of_le (Heap.lt_size q) dn);have na:∀ {b:Addr},H2 b=none->b≠a:=fun n z=>by rw [z,ea] at n; cases n
 have keep:∀ {b:Addr} {o:HO},H2 b=some o->(o≠exo a C none)->upd (upd H2 dx (exd dx [(f,y)])) a (exo a C (some dx)) b=some o:=fun {b o} q hne=>by
  rw [upd_ne fun z=>hne (by rw [z,ea] at q; exact(Option.some.inj q).symm),upd_ne (ne_of_none q hnd)]; exact q
 refine⟨σ,_,I2.un (t':=tk') ⟨fun b o q n _ _=>k b o (na n) q,fun b o q n _ _=>⟨o.slots,k b o (na n) q⟩,fun b o q n _=>by rw [upd_ne (na n),upd_ne (nd q)]; exact n,fun b o q _=>?_,fun b xs q=>keep q fun z=>exo_tup z.symm,fun b o v q=>keep q fun z=>exo_frz z.symm,fun b ps q=>⟨#[],(keep q fun z=>exo_tbl z.symm).trans (by simp)⟩⟩ (fun b o q=>?_),q dx hnd dne⟩
 .by_cases hb:b=a
  .exact⟨_,by rw [hb]; exact hx⟩
  .exact⟨o,k b o hb q⟩
 .by_cases hb:b=a
  .subst hb;rw [upd_same] at q; cases q;exact exo_ok hx
  .rw [upd_ne hb] at q
   by_cases hd:b=dx
   .subst hd;rw [upd_same] at q; cases q;exact exd_ok hn (relO_put (fs:=[]) r1 fun g=>True.intro)
   .rw [upd_ne hd] at q;exact(I2.hok b o q).stay (fun c v hc z=>k c v (hc.elim (fun e=>by rw [e]; exact hb) fun e=>at_ne ea e exo_own) z) (fun c hc=>keep hc fun z=>exo_own z.symm) fun c xs hc=>keep hc fun z=>exo_tup z.symm
end
def spX0(C:Addr):Sp:=fun vs H Q _=>∃ e:Addr,vs=[.ref e]/\H e=some (exo e C none)/\Q .non H
def spX1(C:Addr)(f:Str):Sp:=fun vs H Q _=>∃ (e:Addr) (v:V),vs=[.ref e,v]/\H e=some (exo e C none)/\∀ dx,H dx=none->dx≠e->Q .non (upd (upd H dx (exd dx [(f,v)])) e (exo e C (some dx)))
def tMkX1(C:Addr)(f:Str)(ta:TA):L2.St->Hp->XK->Prop:=fun σ H Q=>ta σ H fun vs H1=>∃ v,vs=[v]/\∀ d,H1 d=none->Q (.ref C) (some d) (upd H1 d (.xd [(f,v)]))
section
variable{X:Cx}{C fI:Addr}{B own newId initId:String}{bm:List Value}{e:Expr}{ta:TA}{f x:Str}{p pos:Pos}{k:Nat}{fd:FuncData}{ps:List Str}
theorem sO{pins:List (Addr×Obj)}{σ : L2.St}{H:Hp}{hp:Heap}{g:Array GenState}{d:Drawn}{tk:Nat}{os:OsState}{us:List Value}{vs:List V}{sp:Sp}{Q:Value->Shared->Prop}{Q2:VK}{h5:XK}(T:Xc X.K C fI B own newId initId bm)(F1:FnG X.prog X.w X.K X.mg X.base CX0 k fI fd ps sp)(hr:Room (k + 1) X.A)(hgd:X.A.guards=some [])(hb:Binds X.K fd ps [])
  (I:Inv X pins σ H ⟨hp,g,d,tk,os⟩) (r:Vals vs us) (hz:us.length<=sizeLine) (hq:sp (.ref (hp.objs.size + 1) :: vs) (upd H (hp.objs.size + 1) (exo (hp.objs.size + 1) C none)) Q2 h5)
  (q:∀ (v:V) (H2:Hp) (s2:Shared),s2.os=os->AllBare s2.gens->Un (frs X.stack) [] (upd H (hp.objs.size + 1) (exo (hp.objs.size + 1) C none)) H2 ((hp.push (PySem.W.kdv_tup us)).push (HandSPX.excO C hp.objs.size)) s2.heap->HOk X.prog X.w H2 s2.heap->Q2 v H2->v = .non/\Q (.ref (hp.objs.size + 1)) s2) :
  wpAny (model X.prog X.w) X.A (call (.ref C) us) Q X.xe ⟨hp,g,d,tk,os⟩:=by
 obtain⟨nm,qn,N,bs,sn,sub,ab,col,dd,k0,k1,k2,k3,k5,hC⟩:=uV I.kIn T.inn;have kk:∀ b o,hp.get? b=some o->((hp.push (PySem.W.kdv_tup us)).push (HandSPX.excO C hp.objs.size)).get? b=some o:=fun b o e=>Heap.get?_push_of_some _ (Heap.get?_push_of_some _ e);have hg:((hp.push (PySem.W.kdv_tup us)).push (HandSPX.excO C hp.objs.size)).get? (hp.objs.size + 1)=some (HandSPX.excO C hp.objs.size):=by heap_get
 have I2:Inv X pins σ (upd H (hp.objs.size + 1) (exo (hp.objs.size + 1) C none)) ⟨(hp.push (PySem.W.kdv_tup us)).push (HandSPX.excO C hp.objs.size),g,d,tk,os⟩:=I.laid (t':=tk) kk (Nat.le_succ _) (exo_ok hg);have r2:Vals (V.ref (hp.objs.size + 1) :: vs) (Value.ref (hp.objs.size + 1) :: us):=.cons rfl r;have hl:(Value.ref (hp.objs.size + 1) :: us ++ []).length=ps.length:=by rw [List.append_nil,<- r2.length]; exact F1.len _ _ _ _ hq
 have hbd:=hb ⟨(hp.push (PySem.W.kdv_tup us)).push (HandSPX.excO C hp.objs.size),g,d,tk,os⟩ (Value.ref (hp.objs.size + 1) :: us) I2.kIn hl;rw [List.append_nil] at hbd;refine wpAny_call (uA T.nb hC (PySem.W.looks_findIn I.kIn T.ini) (fun self=>PySem.W.bind_fn I.kIn self T.tI) hz (codeAny_mono (F1.run _ X.stack _ _ ⟨_,[]⟩ _ _ _ _ (hr.make C us []) hgd (I2.env0.make C us []) hbd r2 hq) fun r s' hq'=>?_))
 cases r with
 | error er=>exact hq'.elim
 | ok fl =>
  cases fl with
  | ret u =>
   obtain⟨v,H2,os2,bare2,un2,hok2,rv,z⟩:=hq';obtain⟨ev,q2⟩:=q v H2 s' os2 bare2 un2 hok2 z;subst ev;exact⟨rv,q2⟩
  | next=>exact False.elim hq'
  | brk=>exact False.elim hq'
  | cont=>exact False.elim hq'
theorem pmk_x1(T:Xc X.K C fI B own newId initId bm)(F1:FnG X.prog X.w X.K X.mg X.base CX0 k fI fd ps (spX1 C f))(hr:Room (k + 1) X.A)(hgd:X.A.guards=some [])(hb:Binds X.K fd ps [])(hg:Gl X x)(hm:X.mg x=some (.ref C))(ha:PA X [e] ta)
  (hdb:(x == ("__debug__" : Str))=false) (he:starEach (e :: []) X.env=(false,eval e X.env) :: starEach [] X.env) (hpl:(backTo pos (starEach [] X.env)).any (·.1)=false):PMk X (.Call (.Name x p) [e] [] pos) (tMkX1 C f ta):=by
 intro pins s σ H Q I h;refine wpAny_Call_Name_kw (ld_glob I hg hm ?_ hdb);refine PySem.W.callWith_K (h₀:=X.base) I.ok.mod.kin T.kC (thn (ha.run pos pins s σ H _ I h) fun us s1 ⟨vs,H1,I1,r1,v,ev,q1⟩=>⟨I1.kIn,?_⟩) he hpl;subst ev;show wpAny _ _ (call (.ref C) us) _ _ _;obtain⟨hp,g,dr,tk,os⟩:=s1;have hsz:hp.objs.size<=hp.objs.size + 1:=Nat.le_succ _;have hn:H1 (hp.objs.size + 1)=none:=I1.hok.fresh hsz;have hz:us.length<=sizeLine:=by rw [<- Paired.length r1]; show 1<=_; rw [sizeLine_eq]; decide
 refine sO (Q2:=fun u H2=>u = .non/\∃ dx,upd H1 (hp.objs.size + 1) (exo (hp.objs.size + 1) C none) dx=none/\dx≠hp.objs.size + 1/\H2=upd (upd (upd H1 (hp.objs.size + 1) (exo (hp.objs.size + 1) C none)) dx (exd dx [(f,v)])) (hp.objs.size + 1) (exo (hp.objs.size + 1) C (some dx))) (h5:=fun _ _ _=>False) T F1 hr hgd hb I1 r1 hz ⟨_,_,rfl,upd_same,fun dx a1 a2=>⟨rfl,dx,a1,a2,rfl⟩⟩ fun u H2 s2 os2 bare2 un2 hok2 z=>?_;obtain⟨rfl,dx,a1,a2,eH⟩:=z;rw [upd_ne a2] at a1;have kk:∀ b o,hp.get? b=some o->((hp.push (PySem.W.kdv_tup us)).push (HandSPX.excO C hp.objs.size)).get? b=some o:=fun b o e=>Heap.get?_push_of_some _ (Heap.get?_push_of_some _ e);have e3:upd (del H2 (hp.objs.size + 1)) dx (.xd [(f,v)])=upd H1 dx (.xd [(f,v)]):=by
  funext b
  by_cases h1:b=dx
  .rw [h1,upd_same,upd_same]
  .rw [upd_ne h1,upd_ne h1]
   by_cases h2:b=hp.objs.size + 1
   .rw [h2,del_same,hn]
   .rw [del_ne h2,eH,upd_ne h2,upd_ne h1,upd_ne h2]
 obtain⟨h2,g2,d2,t2,os'⟩:=s2;exact⟨rfl,mk_end (raises_own T.exC T.tyC) I1 hsz kk un2 hok2 os2 bare2 (by rw [eH]; exact upd_same) (by rw [eH,upd_ne a2]; exact upd_same) a1 (by rw [e3]; exact q1 dx a1)⟩
end
end M
namespace M
open PySem PySem.Spec PyProof.Rows L2 B
def fU(c f:Nat)(fs:Sl->Hh->Res (List Val)):Sl->Hh->aC:=fun δ h=>(fs δ h).st δ fun xs h1=>match xs with
 | [x]=>.exc c [(f,x)] δ h1
 | _=>.err
structure XcOk(p:Pm)(x:Str)(c:Nat)(fo:Option Nat):Prop where
 ex:∃ (fI:Addr) (fd:FuncData) (ps:List Str) (B own newId initId:String) (bm:List Value),Xc p.K (p.ca c) fI B own newId initId bm/\FnG p.P p.w p.K p.mg p.base CX0 1 fI fd ps (match fo with
  | none=>spX0 (p.ca c)
  | some f=>spX1 (p.ca c) (p.nm f))/\Binds p.K fd ps []
 mg:p.mg x=some (.ref (p.ca c))
 fl:∀ f,fo=some f->f < p.nf
section
variable{C:Ct}{x:Str}{c f:Nat}{e:Expr}{q pos pos2:Pos}{fs:Sl->Hh->Res (List Val)}
theorem jC(hX:XcOk C.p x c (some f))(hk:2<=C.k)(hl:C.sc.names.lookup x=some .globalImplicit)(ha:SA C [e] fs)(hdb:(x == ("__debug__" : Str))=false:=by decide)
  (he:∀ env,starEach (e :: []) env=(false,eval e env) :: starEach [] env:=by intro _; rfl) (hpl:∀ env,(backTo pos (starEach [] env)).any (·.1)=false:=by intro _; rfl):SS C (.Raise (some (.Call (.Name x q) [e] [] pos)) none pos2) (fU c f fs):=by
 obtain⟨ta,pa,sa⟩:=ha;obtain⟨fI,fd,ps,B,own,newId,initId,bm,T,F1,hb⟩:=hX.ex;refine⟨fun W _ σ H=>tMkX1 (C.p.ca c) (C.p.nm f) (ta W) σ H fun cls d H'=>W cls d σ H',fun W X g=>?_,fun W σ δ m h G H E en w e=>sa W σ δ m h G H _ en w (bF.ex en e fun xs h1 m1 G1 us H1 s1 w1 r1 e1=>?_)⟩
 .refine ps_raise g.calm g.takes (pmk_x1 (k:=1) (fI:=fI) (fd:=fd) (ps:=ps) (B:=B) (own:=own) (newId:=newId) (initId:=initId) (bm:=bm) ?_ ?_ (g.room.mono hk) g.gd (by rw [g.K]; exact hb) (g.gl hl) (by rw [g.mg]; exact hX.mg) (pa W X g) hdb (he _) (hpl _))
  .rw [g.K]; exact T
  .rw [g.prog,g.w,g.K,g.mg,g.base]; exact F1
 .split at e1
  .rename_i y
   cases r1 with
   | @cons v _ _ _ r r0 =>
    cases r0
    refine⟨_,rfl,fun d hd=>?_⟩;have ww:=w1.data (o:=.xd [(C.p.nm f,v)]) hd;exact e1 m1 _ σ _ _ _ ww.2 ww.1 (en.stp (s1.trans ww.2)) ⟨rfl,.inr ⟨d,_,rfl,upd_same,.cons ⟨rfl,Rv.stp ww.2 r⟩ .nil,fun q hq=>by
     cases List.mem_singleton.mp hq
     exact hX.fl f rfl⟩⟩
  .exact e1.elim
end
end M
namespace M
open PySem PySem.Spec PyProof.Rows L2 B
section
variable{X:Cx}{pins:List (Addr×Obj)}{σ : L2.St}{H:Hp}{s:Shared}
theorem sR{a C:Addr}{oe:Obj}{vs:Array Value}{d:Option Addr}(I:Inv X pins σ H s)(ha:s.heap.get? a=some oe)(hc:oe.cls = .ref C)(hd:oe.dict=d)(hv:oe.data = .fields vs)(na:H a=none)(nL:a≠X.env.locals)(n0:X.s_0.heap.get? a=none)(np:∀ p∈X.pn ++ pins,p.1≠a):Inv X pins σ (upd H a (xco a C d)) s:=by
 have st:∀ {b:Addr} {o:HO},H b=some o->upd H a (xco a C d) b=some o:=fun q=>(upd_ne (ne_of_none q na)).trans q;refine⟨I.ok,I.os,I.bare,⟨I.base.keep,I.base.slot,fun b o q n hx=>?_,I.base.there,fun b xs q=>st (I.base.tups b xs q),fun b o u q=>st (I.base.frzs b o u q),fun b ps q=>(I.base.tbls b ps q).imp fun m z=>st z⟩,I.loc,I.cell,(upd_ne (Ne.symm nL)).trans I.free,fun x c q=>?_,fun p hp=>?_,fun b o q=>?_,I.len⟩
 .exact(upd_ne fun z=>by rw [z,n0] at q; cases q).trans (I.base.free b o q n hx)
 .refine(upd_ne fun z=>?_).trans (I.freeC x c q);obtain⟨v,o,h1,h2⟩:=I.cell x c q;rw [z,ha] at h1
  cases h1
  rw [hv] at h2; cases h2
 .obtain⟨h1,h2,h3⟩:=I.pin p hp;exact⟨h1,(upd_ne (np p hp)).trans h2,h3⟩
 .by_cases hb:b=a
  .subst hb;rw [upd_same] at q
   cases q
   exact⟨⟨oe,vs,ha,hc,hd,hv⟩,⟨oe,ha⟩,fun h1 h2 ⟨oe',vs',z1,z2⟩ k=>⟨oe',vs',k _ z1,z2⟩⟩
  .rw [upd_ne hb] at q;exact(I.hok b o q).stay (fun c u hc r=>r) (fun c hc=>st hc) fun c xs hc=>st hc
end
def p7(K:PySem.W.Frag)(c:Value)(i j:Nat)(Wout:WX)(D:Ends):WX:=fun cls d σ H =>
 ∃ b,PySem.W.exmOne K cls c=some b/\(b=true->∃ C:Addr,cls = .ref C/\∀ a,H a=none->D.nx (((σ.set i (some (.ref a))).set j (some (.ref a))).set i none) (upd H a (xco a C d)))/\(b=false->Wout cls d σ H)
section
variable{X:Cx}{x n y:Str}{c:Value}{i j:Nat}{body:List Stmt}{np pos pos' p1 p2 p3:Pos}{tb:WX->L2.TS}{Wout:WX}
theorem t5(hs:X.stack=X.env :: X.outer)(hf:X.env.frame=some X.env.locals)(hex:X.ex=[])(hN:X.N.Nodup)(hi:X.N[i]?=some n)(hln:X.env.kindOf n=some .local)(hj:X.N[j]?=some y)(hly:X.env.kindOf y=some .local)(hc:Names X x c)(tk:Takes X Wout)
  (hd1:(n == ("__debug__" : Str))=false) (hd2:(n == ("__classdict__" : Str))=false) (hsw:swapsWith (.Name n p2) (some (.Name y p1)) p3.line X.env=pure false)
  (hb:∀ (W:WX) (pn:List (Addr×Obj)) (xe:Value->Shared->Prop),Takes (X.tr pn xe) W->PassesOwn (model X.prog X.w) X.A X.env xe->PSs (X.tr pn xe) body (tb W)) :
  PS X (.Try body [.ExceptHandler (some (.Name x np)) (some n) [.Assign [.Name y p1] (.Name n p2) p3] pos'] [] [] pos) (fun D σ H=>tb (p7 X.K c i j Wout D) D σ H):=by
 refine⟨fun pins s σ H D I h=>?_⟩;have ok:=I.ok;have hfr:X.A.frames=some (X.env :: X.outer):=by rw [ok.frames,hs]
 refine wpAny_Try_except (wpAny_mono ((hb (p7 X.K c i j Wout D) (X.pn ++ pins) (fun e s1=>wpAny (model X.prog X.w) X.A (noteFrame e X.env) (fun _ s2=>wpAny (model X.prog X.w) X.A (setFlight e none) (fun _ s3 =>
  wpAny (model X.prog X.w) X.A (handleBy e X.env [.ExceptHandler (some (.Name x np)) (some n) [.Assign [.Name y p1] (.Name n p2) p3] pos']) (L2.SP X pins D) X.xe s3) X.xe s2) X.xe s1) (fun u s' xx=>?_) PassesOwn.looking).run [] s σ H D (I.toTry _) h) (fun f s1 hsp=>?_) (fun e s1 he=>he))
 .obtain⟨a,B,sI,pins',σ',H',cls,d,rfl,J',nb,up,sky,na,os,ag,b,hb1,hyes,hno⟩:=xx;have J:Inv X pins σ' H' sI:=J'.ofTry ok;have sky':Sky B (X.env :: X.outer) a (Zc cls d) X.env.locals s'.heap:=by rw [<- hs]; exact sky
  show wpAny (model X.prog X.w) X.A (noteFrame (.ref a) X.env) _ _ _;refine Sky.land Zc.steady hfr hf sky' fun h3 fl3 up3=>?_;have J3:Inv X pins σ' H' { s' with heap:=h3 }:=J.landed nb fl3.1 (up.trans up3) os ag;obtain⟨oe3,vs3,he3,hz3,hd3⟩:=fl3.there;have nfr:a ∉ frs (X.env :: X.outer):=fun hm=>by
   obtain⟨_,o',e',hnf⟩:=fl3.2.2.1.mem hm;rw [he3] at e'; cases e';exact hnf _ hd3
  have nL:a≠X.env.locals:=fun z=>nfr (List.mem_filterMap.mpr ⟨X.env,List.mem_cons_self,by rw [hf,z]⟩);have nF:a ∉ X.fs:=fun hm=>by
   obtain⟨e,he,q⟩:=List.mem_filterMap.mp hm;exact nfr (List.mem_filterMap.mpr ⟨e,List.mem_cons_of_mem _ he,q⟩)
  have nI:sI.heap.get? a=none:=by
   cases q:sI.heap.get? a with
   | none=>rfl
   | some o =>
    have z:=nb a o q (by rw [hs]; exact nfr);rw [fl3.2.1] at z; cases z
  have n0:X.s_0.heap.get? a=none:=by
   cases q:X.s_0.heap.get? a with
   | none=>rfl
   | some o =>
    obtain⟨o',z⟩:=J.base.there a o q (by rw [hex]; intro z; cases z);rw [nI] at z; cases z
  have np9:∀ p∈X.pn ++ pins,p.1≠a:=fun p hp z=>by
   have q:=(J.pin p hp).1;rw [z,nI] at q; cases q
  have S3:=J3.suite he3 hd3 na nL nF;refine wpAny_handleBy_cons (codeAny_handlers_test ?_) (by intro q; cases q);have LT:PySem.W.Looks (model X.prog X.w) h3 (typeOf (.ref a)) cls:=fun A Q E s k q=>wpAny_typeOf_ref (k _ _ he3) (by rw [hz3.1]; exact q);have LM:=PySem.W.exm_one (M:=model X.prog X.w) (J3.kIn) LT hb1;have test:∀ {Q:Value->Shared->Prop} {E:Value->Shared->Prop},Q c { s' with heap:=h3 }->wpAny (model X.prog X.w) (X.A.mark (some (.ref a))) (eval (.Name x np) X.env) Q E { s' with heap:=h3 }:=fun {Q E} q=>by
   obtain⟨hg,hdbg,hm | ⟨hm,hv,hnn⟩⟩:=hc
   .exact ld_glob (X:=X.suite a ((a,oe3) :: (X.pn ++ pins))) S3 hg hm q hdbg
   .exact ld_blt (X:=X.suite a ((a,oe3) :: (X.pn ++ pins))) S3 hg hm hv q hnn hdbg
  refine test (LM.here ?_)
  cases b with
  | true =>
   obtain⟨C,ecl,hy2⟩:=hyes rfl;subst ecl;refine codeAny_handlers_suite_as (HandSPX.lands_againZ fl3 fun h4 fl4 up4=>?_);have J4:Inv X pins σ' H' { s' with heap:=h4 }:=J.landed nb fl4.1 ((up.trans up3).trans up4) os ag;obtain⟨oe4,vs4,he4,hz4,hd4⟩:=fl4.there;have S4:=J4.suite he4 hd4 na nL nF;refine store_ok (X:=X.suite a ((a,oe4) :: (X.pn ++ pins))) (v:=.ref a) S4 hN hi (.inl hln) rfl (fun s5 S5=>?_) (.inr hln);have hlen:i < σ'.length:=by rw [J.len]; exact(List.getElem?_eq_some_iff.mp hi).1
   refine wpAny_mono ((pss_one (ps_set (X:=X.suite a ((a,oe4) :: (X.pn ++ pins))) (i:=j) hN hj (.inl hly) (pe_var (X:=X.suite a ((a,oe4) :: (X.pn ++ pins))) (i:=i) hi (.inl hln) hd1 hd2) hsw (.inr hly))).run [] s5 _ H' { nx:=fun σ6 H6=>σ6=(σ'.set i (some (.ref a))).set j (some (.ref a))/\H6=H',rt:=fun _ _=>False } S5 ⟨.ref a,List.getElem?_set_self hlen,rfl,rfl⟩) (fun f s6 hsp=>?_) (fun _ _ z=>False.elim z)
   cases f with
   | next =>
    obtain⟨σ6,H6,S6,rfl,rfl⟩:=hsp;obtain⟨ha6,_⟩:=S6.pin (a,oe4) (List.mem_append_left _ List.mem_cons_self);exact gone_ok (sR (S6.unsuite ok) ha6 hz4.1 hz4.2 hd4 na nL n0 np9) hN hi hln fun s7 J7=>⟨_,_,J7,hy2 a na⟩
   | brk =>
    obtain⟨_,_,_,q6⟩:=hsp;exact q6.elim
   | cont =>
    obtain⟨_,_,_,q6⟩:=hsp;exact q6.elim
   | ret u =>
    obtain⟨_,_,_,_,_,q6⟩:=hsp;exact q6.elim
  | false =>
   show wpAny _ X.A (handleBy (.ref a) X.env []) _ _ _;refine wpAny_handleBy_nil ?_;obtain⟨k1,k2,k3,oe,vs,T,oT,ts',he,hz,hd,h1,hr⟩:=id fl3;unfold PySem.passOn;refine wpAny_bind (wpAny_field he hd h1 ?_);rw [if_neg (show ¬ ((Value.ref T == Value.none)=true) from by simp)];have fin:wpAny (model X.prog X.w) X.A (setFlight (.ref a) X.env.frame) (fun _ s4=>wpAny (model X.prog X.w) X.A (throw (.ref a):Sem Flow) (L2.SP X pins D) X.xe s4) X.xe { s' with heap:=h3 }:=by
    rw [hf];exact HandSPX.setFlight_upZ fl3 fun h4 hh4 up4=>wpAny_throw (tk _ _ ⟨a,B,sI,pins,σ',H',cls,d,rfl,J,nb,(up.trans up3).trans up4,.inr (.inr (by rw [hs]; exact hh4)),na,os,ag,hno rfl⟩)
   first | exact wpAny_bind (wpAny_pure (wpAny_bind fin)) | exact wpAny_bind fin
 .cases f with
  | next =>
   obtain⟨σ',H',J',q⟩:=hsp;exact wpAny_execs_nil ⟨σ',H',J'.ofTry ok,q⟩
  | brk =>
   obtain⟨σ',H',J',q⟩:=hsp;exact⟨σ',H',J'.ofTry ok,q⟩
  | cont =>
   obtain⟨σ',H',J',q⟩:=hsp;exact⟨σ',H',J'.ofTry ok,q⟩
  | ret u =>
   obtain⟨v,σ',H',J',r,q⟩:=hsp;exact⟨v,σ',H',J'.ofTry ok,r,q⟩
end
end M
namespace M
open PySem PySem.Spec PyProof.Rows L2 B
theorem pJ{P:Program}{w:World}{H:Hp}{h:Heap}{b a C:Addr}{d:Option Addr}(x:ObjOk P w H h b (xco a C d)):∃ oe vs,h.get? b=some oe/\oe.cls = .ref C/\oe.dict=d/\oe.data = .fields vs:=by
 have x':(∃ oe vs,h.get? a=some oe/\oe.cls = .ref C/\oe.dict=d/\oe.data = .fields vs)/\(∃ o,h.get? b=some o)/\∀ h1 h2:Heap,(∃ oe vs,h1.get? a=some oe/\oe.cls = .ref C/\oe.dict=d/\oe.data = .fields vs)->(∀ o,h1.get? b=some o->h2.get? b=some o)->∃ oe vs,h2.get? a=some oe/\oe.cls = .ref C/\oe.dict=d/\oe.data = .fields vs:=x;obtain⟨z,_,k⟩:=x'
 by_cases e:a=b
 .subst e; exact z
 .obtain⟨G,g1,g2⟩:=restrict h fun c=>decide (c=b);obtain⟨oe,vs,q,_⟩:=k h G z fun o q=>(g1 b (by simp)).trans q;rw [g2 a (by simpa using e)] at q
  cases q
def XfOk(p:Pm)(c f:Nat):Prop:=XfC p.K (p.ca c)/\PySem.W.findIn p.K (.ref (p.ca c)) (p.nm f)=some none
def tXfK(K:PySem.W.Frag)(n:Str)(te:TE):TE:=fun σ H Q=>te σ H fun x H1=>∃ (a a' C dd:Addr) (fs:List (Str×V)) (v:V),x = .ref a/\H1 a=some (xco a' C (some dd))/\XfC K C/\PySem.W.findIn K (.ref C) n=some none/\H1 dd=some (.xd fs)/\fs.lookup n=some v/\Q v H1
theorem pe_xfK{X:Cx}{e:Expr}{te:TE}{pos:Pos}{n:Str}(he:PE X e te)(hb:attributeBase e n X.env (eval e X.env)=eval e X.env):PE X (.Attribute e n pos) (tXfK X.K n te):=by
 refine⟨fun pins s σ H Q I h=>attr_of hb (thn (he.run pins s σ H _ I h) fun u s1 hh=>?_)⟩;obtain⟨x,H1,I1,rx,a,a',C,dd,fs,v,ex,ea,T,hno,ed,l,q⟩:=hh;subst ex;obtain rfl:u=Value.ref a:=rx;obtain⟨oe,vs,ha,hc,hd,hv⟩:=pJ (I1.hok a _ ea);have hx:ObjOk X.prog X.w H1 s1.heap dd (.xd fs):=I1.hok dd _ ed;obtain⟨mA,hns,hr⟩:=hx;obtain⟨od,ho,hl⟩:=lookIn_ns hns;obtain⟨u,hu,ru⟩:=RelO.some_of (v:=v) (o:=mA n) (by rw [<- l]; exact hr n);have J:PySem.W.InstAt s1.heap a oe C (some od):=⟨ha,hc,by unfold PySem.W.notCls; rw [hv] <;> rfl,by rw [hd]; exact ho⟩;exact HandSPX.exc_get I1.kIn J T.ga T.gg T.exC (PySem.W.findObj_own T.hdC hno rfl (by rw [hl,hu])) (handed_of ru) ⟨v,H1,I1.tok _,ru,q⟩
def pz(cs:List Nat)(f:Nat):Hh->Val->Res Val:=fun h x=>match x with
 | .ref r=>match h.get r with
  | some (.exc c [(g,y)])=>if c∈cs/\g=f then .ok y h else .err
  | _=>.err
 | _=>.err
theorem ot{C:Ct}{o:Expr}{fa:Sl->Hh->Res Val}{f:Nat}{n:Str}{pos:Pos}(cs:List Nat)(hn:C.p.nm f=n)(hx:∀ c∈cs,XfOk C.p c f)(ha:SE C o fa)(hb:∀ env,attributeBase o n env (eval o env)=eval o env:=by intro _; rfl):SE C (.Attribute o n pos) (m1 (pz cs f) fa):=by
 obtain⟨ta,pa,sa⟩:=ha;subst hn;refine⟨fun W=>tXfK C.p.K (C.p.nm f) (ta W),fun W X g=>by rw [<- g.K]; exact pe_xfK (pa W X g) (hb _),fun W σ δ m h G H Q en w e=>sa W σ δ m h G H _ en w (ao.bind e fun x h1 m1 G1 u H1 s1 w1 r1 e1=>?_)⟩;unfold pz at e1
 split at e1
 .split at e1
  .rename_i c g y hg
   split at e1
   .rename_i hcg;obtain⟨hc,rfl⟩:=hcg;obtain⟨_,_,o',h3,h4⟩:=w1.cel _ _ hg
    cases r1
    cases h4 with
    | exc h5 =>
     rcases h5 with ⟨z,_⟩ | ⟨dd,vs,rfl,h6,h7,_⟩
     .cases z
     .obtain⟨x1,x2⟩:=hx c hc
      cases h7 with
      | @cons v _ vs' _ hv hr =>
       obtain⟨v1,v2⟩:=v;obtain⟨z1,z2⟩:=hv;have z1:v1=C.p.nm g:=z1;subst z1;exact⟨_,_,_,dd,_,v2,rfl,h3,x1,x2,w1.gh _ _ h6,by simp [List.lookup],ao.here e1 w1 z2⟩
   .exact e1.elim
  .exact e1.elim
 .exact e1.elim
structure sH(K:PySem.W.Frag)(C:Addr):Prop where
 cl:(PySem.W.clsIn K C).isSome=true
 ga:PySem.W.findIn K (.ref C) "__getattribute__" = some (some (.builtin "BaseException.__getattribute__"))
 gg:PySem.W.findIn K (.ref C) "__getattr__" = some none
 ex:PySem.W.subIn K (.ref C) (.type "BaseException")=some true
 ha:PySem.W.findIn K (.ref C) "__class__" = some (some (.builtin "object.__class__"))
 hn:PySem.W.specialIn K (.builtin "object.__class__") "__get__" = some (some (.builtin "getset_descriptor.__get__"))
 ht:PySem.W.takesIn K (.builtin "object.__class__")=some true
 hm:PySem.W.mroIn K C (.type "object")=some true
def rIsX(K:PySem.W.Frag):List V->Hp->VK->Prop:=fun xs H Q=>∃ (a a' C:Addr) (d:Option Addr) (c:V) (cv:Value) (b:Bool),xs=[.ref a,c]/\H a=some (xco a' C d)/\sH K C/\(d.isSome=true->∃ dd fs,d=some dd/\H dd=some (.xd fs))/\(∀ u,RelV c u->u=cv)/\PySem.W.kitOne K (.ref C) cv=some b/\Q (.bl b) H
theorem sD{X:Cx}:CallR X (.builtin "isinstance") (rIsX X.K):=by
 intro pins s σ H xs us Q I r h;obtain⟨a,a',C,d,c,cv,b,rfl,ea,T,hd,hcv,e,q⟩:=h
 cases r with
 | cons rx rr =>
  cases rr with
  | cons rt rr =>
   cases rr
   cases rx
   have ec:=hcv _ rt;subst ec;obtain⟨oe,vs,ha,hc,hdd,hv⟩:=pJ (I.hok a _ ea);have nc:PySem.W.notCls oe=true:=by unfold PySem.W.notCls; rw [hv] <;> rfl
   cases d with
   | none=>exact PySem.W.kia_one (PySem.W.kitx_exc (od:=none) T.cl T.ga T.gg T.ex T.ha T.hn T.ht T.hm) I.kIn ⟨ha,hc,nc,by rw [hdd]; trivial⟩ e (fun z=>nomatch z) fun tk=>⟨.bl b,H,I.kept (t':=tk) fun _ _ z=>z,rfl,q⟩
   | some dx =>
    obtain⟨dd,fs,z,ed⟩:=hd rfl
    cases z
    have hx:ObjOk X.prog X.w H s.heap dx (.xd fs):=I.hok dx _ ed;obtain⟨mA,hns,hr⟩:=hx;obtain⟨od,ho,hl⟩:=lookIn_ns hns;exact PySem.W.kia_one (PySem.W.kitx_exc (od:=some od) T.cl T.ga T.gg T.ex T.ha T.hn T.ht T.hm) I.kIn ⟨ha,hc,nc,by rw [hdd]; exact ho⟩ e (fun z=>nomatch z) fun tk=>⟨.bl b,H,I.kept (t':=tk) fun _ _ z=>z,rfl,q⟩
theorem pG{X:Cx}(K:PySem.W.Frag)(h:X.K=K):CallR X (.builtin "isinstance") (rIsX K):=by subst h; exact sD
end M
namespace M
open PySem PySem.Spec PyProof.Rows L2 B
def iY(tbl:List (Nat×Bool))(i j s:Nat)(f:Sl->Hh->aC):Sl->Hh->aC:=fun δ h=>match f δ h with
 | .exc c fs δ' h'=>match tbl.lookup c with
  | some true=>if nlp fs=true then .nx ((δ'.set j (some (.ref (.glo s (h'.glo s).length)))).set i none) (h'.aY s (.exc c fs)) else .err
  | some false=>.exc c fs δ' h'
  | none=>.err
 | r=>r
theorem kE{α β : Type}[BEq α][LawfulBEq α]{k:α}{v:β}:∀ {l:List (α×β)},l.lookup k=some v->(k,v)∈l
 | [],h=>by cases h
 | (a,b) :: l,h=>by
  unfold List.lookup at h
  split at h
  .rename_i e
   cases h
   rw [eq_of_beq e]; exact List.mem_cons_self
  .exact List.mem_cons_of_mem _ (kE h)
theorem uK{C:Ct}{W W':WX}{X:Cx}(g:Good C W X){pn:List (Addr×Obj)}{xe:Value->Shared->Prop}(tk:Takes (X.tr pn xe) W')(ps:PassesOwn (model X.prog X.w) X.A X.env xe):Good C W' (X.tr pn xe) :=
 ⟨g.prog,g.w,g.K,g.mg,g.base,g.N,g.nd,g.sc,g.fn,g.calm,g.room,g.gd,ps,tk,g.cd,g.ql,g.top⟩
section
variable{C:Ct}{x n y:Str}{c0 i j:Nat}{body:List Stmt}{f g:Sl->Hh->aC}{np pos pos' p1 p2 p3:Pos}{tbl:List (Nat×Bool)}{st:Stmt}
theorem th(s:Nat)(ht:C.tp=true)(hi:C.N[i]?=some n)(hj:C.N[j]?=some y)(hln:C.sc.names.lookup n=some .local)(hly:C.sc.names.lookup y=some .local)(hg:C.sc.names.lookup x=some .globalImplicit)(hm:C.p.mg x=some (.ref (C.p.ca c0)))
  (hx:∀ c b,(c,b)∈tbl->PySem.W.exmOne C.p.K (.ref (C.p.ca c)) (.ref (C.p.ca c0))=some b) (hb:SSs C body f) (hd:(x == ("__debug__" : Str))=false:=by decide) (hd1:(n == ("__debug__" : Str))=false:=by decide) (hd2:(n == ("__classdict__" : Str))=false:=by decide)
  (hsw:∀ env:Env,env.scope=C.sc->swapsWith (.Name n p2) (some (.Name y p1)) p3.line env=pure false:=by intro _ _; rfl) :
  SS C (.Try body [.ExceptHandler (some (.Name x np)) (some n) [.Assign [.Name y p1] (.Name n p2) p3] pos'] [] [] pos) (iY tbl i j s f):=by
 obtain⟨tb,pb,sb⟩:=hb;refine⟨fun W D σ H=>tb (p7 C.p.K (.ref (C.p.ca c0)) i j W D) D σ H,fun W X g=>?_,fun W σ δ m h G H E en w e=>sb _ σ δ m h G H E en w ?_⟩
 .obtain⟨h1,h2,h3⟩:=g.top ht;rw [<- g.K];exact t5 h1 h2 h3 g.nd (by rw [g.N]; exact hi) (by show X.env.scope.names.lookup n=_; rw [g.sc]; exact hln) (by rw [g.N]; exact hj) (by show X.env.scope.names.lookup y=_; rw [g.sc]; exact hly) ⟨g.gl hg,hd,.inl (by rw [g.mg]; exact hm)⟩ g.takes hd1 hd2 (hsw _ g.sc) fun W' pn xe tk ps=>pb W' _ (uK g tk ps)
 .unfold iY at e
  cases hr:f δ h with
  | err=>rw [hr] at e; exact e
  | nx δ' h'=>rw [hr] at e; exact e
  | rt v h'=>rw [hr] at e; exact e
  | bk δ' h'=>rw [hr] at e; exact e
  | ct δ' h'=>rw [hr] at e; exact e
  | exc c fs δ' h' =>
   rw [hr] at e;intro m' G' σ' H' cls d s' w' en' x';obtain⟨rfl,xf⟩:=x';dsimp only at e
   split at e
   .rename_i hl
    split at e
    .rename_i hn;refine⟨true,hx _ _ (kE hl),fun _=>⟨_,rfl,fun a ha=>?_⟩,fun z=>nomatch z⟩;have ww:=w'.cellG (s:=s) (c:=.exc c fs) (o:=xco a (C.p.ca c) d) ha hn (.exc xf);refine e _ _ _ _ (s'.trans ww.2) ww.1 ⟨by simp [en'.len],fun k z hk=>?_⟩;have en2:=en'.stp ww.2
     by_cases ki:k=i
     .subst ki;rw [List.getElem?_set_self'] at hk
      cases q:(δ'.set j (some (.ref (.glo s (h'.glo s).length))))[k]? with
      | none=>rw [q] at hk; cases hk
      | some o=>rw [q] at hk; cases hk
     .rw [List.getElem?_set_ne (Ne.symm ki)] at hk ⊢
      by_cases kj:k=j
      .subst kj;have hl:k < δ'.length:=by
        rw [List.getElem?_set_self'] at hk
        cases q:δ'[k]? with
        | none=>rw [q] at hk; cases hk
        | some o=>exact(List.getElem?_eq_some_iff.mp q).1
       rw [List.getElem?_set_self hl] at hk
       cases hk
       have hr:Rv C.p (upm m' (.glo s (h'.glo s).length) a) (h'.aY s (.exc c fs)).has G' (.ref (upm m' (.glo s (h'.glo s).length) a (.glo s (h'.glo s).length))) (.ref (.glo s (h'.glo s).length)):=.ref (cg.mpr (.inr rfl));have eq:upm m' (.glo s (h'.glo s).length) a (.glo s (h'.glo s).length)=a:=by unfold upm; rw [if_pos rfl]
       rw [eq] at hr;exact⟨_,List.getElem?_set_self (by rw [List.length_set,en'.len]; exact hl),hr⟩
      .rw [List.getElem?_set_ne (Ne.symm kj)] at hk ⊢;rw [List.getElem?_set_ne (Ne.symm ki)];exact en2.get k z hk
    .exact e.elim
   .rename_i hl;exact⟨false,hx _ _ (kE hl),(fun z=>nomatch z),fun _=>e _ _ _ _ _ _ s' w' en' ⟨rfl,xf⟩⟩
   .exact e.elim
end
def lG(tbl:List (Nat×Bool)):Hh->Val->Res Val:=fun h x=>match x with
 | .ref r=>match h.get r with
  | some (.exc c _)=>match tbl.lookup c with
   | some b=>.ok (.bl b) h
   | none=>.err
  | _=>.err
 | _=>.err
theorem se_isX{C:Ct}{e:Expr}{pos q q2:Pos}{fa:Sl->Hh->Res Val}{x:Str}{T:String}(tbl:List (Nat×Bool))(hx:∀ c b,(c,b)∈tbl->sH C.p.K (C.p.ca c)/\PySem.W.kitOne C.p.K (.ref (C.p.ca c)) (.type T)=some b)(hT:bootBuiltins x=some (.type T))(hl:C.sc.names.lookup ("isinstance" : Str)=some .globalImplicit)(hm:C.p.mg "isinstance" = none)(hl2:C.sc.names.lookup x=some .globalImplicit)(hm2:C.p.mg x=none)(ha:SE C e fa)
  (hn:x≠"__name__":=by decide) (hd:(x == ("__debug__" : Str))=false:=by decide) (he:∀ env,starEach (e :: [.Name x q2]) env=(false,eval e env) :: starEach [.Name x q2] env:=by intro _; rfl):SE C (.Call (.Name "isinstance" q) [e,.Name x q2] [] pos) (m1 (lG tbl) fa):=by
 obtain⟨ta,pa,sa⟩:=ha;refine⟨fun W=>tCB (rIsX C.p.K) (tCons (ta W) (tCons (tC (.ty T)) tNil)),fun W X g=>pe_callB (pG C.p.K g.K) (g.gl hl) (by rw [g.mg]; exact hm) sE (pa_cons (pa W X g) (pa_cons (pe_bltn (v:=.ty T) (u:=.type T) (g.gl hl2) (by rw [g.mg]; exact hm2) hT rfl hn hd) pa_nil rfl) (he _)) (by decide) (by decide) (he _) rfl,
  fun W σ δ m h G H Q en w e=>sa W σ δ m h G H _ en w (ao.bind e fun x h1 m1 G1 u H1 s1 w1 r1 e1=>?_)⟩
 unfold lG at e1
 split at e1
 .split at e1
  .rename_i c fs hg
   split at e1
   .rename_i b hb;obtain⟨_,_,o',h3,h4⟩:=w1.cel _ _ hg
    cases r1
    cases h4 with
    | exc h5 =>
     obtain⟨x1,x2⟩:=hx _ _ (kE hb);exact⟨_,_,_,_,.ty T,.type T,b,rfl,h3,x1,fun z=>by
      rcases h5 with ⟨_,z'⟩ | ⟨dd,vs,z',h6,_⟩
      .rw [z'] at z; cases z
      .exact⟨dd,vs,z',w1.gh _ _ h6⟩,fun u hu=>hu,x2,ao.here e1 w1 (.bl b)⟩
   .exact e1.elim
  .exact e1.elim
 .exact e1.elim
end M
namespace M
open PySem PySem.Spec PyProof.Rows L2 B He
structure XmOk(p:Pm)(x:Str)(c0:Nat)(tbl:List (Nat×Bool)):Prop where
 mg:p.mg x=some (.ref (p.ca c0))
 ex:∀ c b,(c,b)∈tbl->PySem.W.exmOne p.K (.ref (p.ca c)) (.ref (p.ca c0))=some b
def xbm(k:Nat):List Value:=if k=0 then verr else if k=1 then kerr else ierr
def xbn(k:Nat):String:=if k=0 then "ValueError" else if k=1 then "KeyError" else "IndexError"
def xbo(k:Nat):String:=if k=0 then "ValueError" else if k=1 then "LookupError" else "IndexError"
def xbw(k:Nat):String:=if k=0 then "ValueError.__new__" else if k=1 then "LookupError.__new__" else "IndexError.__new__"
def xbi(k:Nat):String:=if k=0 then "ValueError.__init__" else if k=1 then "KeyError.__init__" else "IndexError.__init__"
theorem xb_nb(k:Nat):NB (xbn k) (xbo k) (xbw k) (xbi k) (xbm k):=by
 unfold xbn xbo xbw xbi xbm
 by_cases h:k=0
 .simp only [h,if_true]; exact nbV
 .by_cases h1:k=1
  .subst h1; exact nbK
  .simp only [if_neg h,if_neg h1]; exact nbI
def isV(o:Option PySem.W.CFound)(n:String):Bool:=match o with
 | some (.val (.builtin m))=>m == n
 | _=>false
theorem isV_ok{o:Option PySem.W.CFound}{n:String}(h:isV o n=true):o=some (.val (.builtin n)):=by
 unfold isV at h
 split at h
 .rw [eq_of_beq h]
 .cases h
def xkB(x:Str)(k:Nat)(K:PySem.W.Frag):Bool :=
 sN K (ga K x) (xbm k) (xbw k) && (PySem.W.excOver K (ga K x) (xbm k) && (PySem.W.hasDictIn K (ga K x) && (He.eqO (PySem.W.findIn K (.ref (ga K x)) "__setattr__") (some (some (.builtin "object.__setattr__"))) && (He.eqO (PySem.W.findIn K (.ref (ga K x)) "__init__") (some (some (.ref (ma K (ga K x) "__init__")))) && (decide (PySem.W.typeIn K (.ref (ma K (ga K x) "__init__"))=some (.type "function")) && (PySem.W.keepIn K (.ref (ga K x)) &&
 (decide (PySem.W.subIn K (.ref (ga K x)) (.type "BaseException")=some true) && (decide (PySem.W.typeIn K (.ref (ga K x))=some (.type "type")) && (isV (PySem.W.findCls K (.type (xbn k)) (.type "type") "__init__") (xbi k) && (He.eqO (PySem.W.findIn K (.ref (ga K x)) "__getattribute__") (some (some (.builtin "BaseException.__getattribute__"))) && (He.eqO (PySem.W.findIn K (.ref (ga K x)) "__getattr__") (some none) && ((PySem.W.clsIn K (ga K x)).isSome && (He.eqO (PySem.W.findIn K (.ref (ga K x)) "__class__") (some (some (.builtin "object.__class__"))) &&
 (He.eqO (PySem.W.specialIn K (.builtin "object.__class__") "__get__") (some (some (.builtin "getset_descriptor.__get__"))) && (decide (PySem.W.takesIn K (.builtin "object.__class__")=some true) && decide (PySem.W.mroIn K (ga K x) (.type "object")=some true))))))))))))))))
theorem xkB_ok{x:Str}{k:Nat}{K:PySem.W.Frag}(h:xkB x k K=true):Xc K (ga K x) (ma K (ga K x) "__init__") (xbn k) (xbo k) (xbw k) (xbi k) (xbm k)/\XfC K (ga K x)/\sH K (ga K x):=by
 obtain⟨a1,h⟩:=Bool.and_eq_true_iff.mp h;obtain⟨a2,h⟩:=Bool.and_eq_true_iff.mp h;obtain⟨a3,h⟩:=Bool.and_eq_true_iff.mp h;obtain⟨a4,h⟩:=Bool.and_eq_true_iff.mp h;obtain⟨a5,h⟩:=Bool.and_eq_true_iff.mp h;obtain⟨a6,h⟩:=Bool.and_eq_true_iff.mp h;obtain⟨a7,h⟩:=Bool.and_eq_true_iff.mp h;obtain⟨a8,h⟩:=Bool.and_eq_true_iff.mp h;obtain⟨a9,h⟩:=Bool.and_eq_true_iff.mp h;obtain⟨b1,h⟩:=Bool.and_eq_true_iff.mp h;obtain⟨b2,h⟩:=Bool.and_eq_true_iff.mp h;obtain⟨b3,h⟩:=Bool.and_eq_true_iff.mp h;obtain⟨b4,h⟩:=Bool.and_eq_true_iff.mp h;obtain⟨b5,h⟩:=Bool.and_eq_true_iff.mp h;obtain⟨b6,h⟩:=Bool.and_eq_true_iff.mp h;obtain⟨b7,b8⟩:=Bool.and_eq_true_iff.mp h;exact⟨⟨xb_nb k,a1,a2,a3,He.eqO_ok a4,He.eqO_ok a5,of_decide_eq_true a6,a7,of_decide_eq_true a8,of_decide_eq_true a9,isV_ok b1⟩,⟨He.eqO_ok b2,He.eqO_ok b3,of_decide_eq_true a8,a3⟩,⟨b4,He.eqO_ok b2,He.eqO_ok b3,of_decide_eq_true a8,He.eqO_ok b5,He.eqO_ok b6,of_decide_eq_true b7,of_decide_eq_true b8⟩⟩
def xfB(x f:Str)(K:PySem.W.Frag):Bool:=He.eqO (PySem.W.findIn K (.ref (ga K x)) f) (some none)
theorem xfB_ok{x f:Str}{K:PySem.W.Frag}(h:xfB x f K=true):PySem.W.findIn K (.ref (ga K x)) f=some none/\PySem.W.takerIn K (ga K x) f=some none:=by
 have e:=He.eqO_ok h;refine⟨e,?_⟩;unfold PySem.W.takerIn;rw [e]; rfl
def xmB(x:Str)(l:List (Str×Bool))(K:PySem.W.Frag):Bool:=l.all fun q=>decide (PySem.W.exmOne K (.ref (ga K q.1)) (.ref (ga K x))=some q.2)
theorem xmB_ok{x:Str}{l:List (Str×Bool)}{K:PySem.W.Frag}(h:xmB x l K=true){y:Str}{b:Bool}(hm:(y,b)∈l):PySem.W.exmOne K (.ref (ga K y)) (.ref (ga K x))=some b:=of_decide_eq_true (List.all_eq_true.mp h _ hm)
def xiB(T:String)(l:List (Str×Bool))(K:PySem.W.Frag):Bool:=l.all fun q=>decide (PySem.W.kitOne K (.ref (ga K q.1)) (.type T)=some q.2)
theorem xiB_ok{T:String}{l:List (Str×Bool)}{K:PySem.W.Frag}(h:xiB T l K=true){y:Str}{b:Bool}(hm:(y,b)∈l):PySem.W.kitOne K (.ref (ga K y)) (.type T)=some b:=of_decide_eq_true (List.all_eq_true.mp h _ hm)
section
variable{p:Pm}{C fI:Addr}{fd:FuncData}{qual:Str}{st:Stmt}{B own newId initId:String}{bm:List Value}{Bn a msg f:Str}{q1 q2 q3 q4 q5 q6 q7 q8 q9 q0:Pos}{k:Nat}
theorem x_ini1{pl:Env->Sem Bool}(F:FunD p.K "__init__" qual (defArgs st) (defBody st) (defScope st) [] [] fI fd)(S:FnScope ["self",a] ["self",a] (defScope st))(T:Xc p.K C fI B own newId initId bm)(hbd:defBody st=[.Expr (.Call (.Attribute (.Name Bn q1) "__init__" q2) [.Name "self" q3,.Constant (.str msg) k q4] [] q5) q6,.Assign [.Attribute (.Name "self" q7) f q8] (.Name a q9) q0])
  (hc:∀ env,eval (.Call (.Attribute (.Name Bn q1) "__init__" q2) [.Name "self" q3,.Constant (.str msg) k q4] [] q5) env=(do let ov <- eval (.Name Bn q1) env; standAt q2.atName; let (f,first) <- holding [ov] (getMethod ov "__init__" (pl env)); callWith q5 f first (backTo q5 (starEach [.Name "self" q3,.Constant (.str msg) k q4] env)) (backToKw q5 (keywordEach [] env)))) (hl:(defScope st).names.lookup Bn=some .globalImplicit) (h0:(defScope st).names.lookup ("self" : Str)=some .local) (h1:(defScope st).names.lookup a=some .local) (hm:p.mg Bn=none) (hv:bootBuiltins Bn=some (.type B)) (hf:PySem.W.takerIn p.K C f=some none) (hn:Bn≠"__name__") (hd:(Bn == ("__debug__" : Str))=false) (hd1:(a == ("__debug__" : Str))=false) (hd2:(a == ("__classdict__" : Str))=false) :
  FnG p.P p.w p.K p.mg p.base CX0 1 fI fd ["self",a] (spX1 C f):=by
 refine r7 F S (fun vs H Q E ⟨e,v,h,_⟩=>by rw [h]; rfl) fun cdv A outer s H vs Q E hcd hr hgd hsp=>?_;rw [hbd];obtain⟨e,v,rfl,he,hq⟩:=hsp;have p0:PE (cxOf CX0 p.P p.w p.K p.mg p.base ["self",a] qual (defScope st) fI cdv A outer s H E) (.Name "self" q3) (tVar 0):=pe_var rfl (.inl h0);have p0':PE (cxOf CX0 p.P p.w p.K p.mg p.base ["self",a] qual (defScope st) fI cdv A outer s H E) (.Name "self" q7) (tVar 0):=pe_var rfl (.inl h0);have p1:PE (cxOf CX0 p.P p.w p.K p.mg p.base ["self",a] qual (defScope st) fI cdv A outer s H E) (.Name a q9) (tVar 1):=pe_var rfl (.inl h1) hd1 hd2;refine⟨_,pss_cons (ps_expr (ua T hl hm hv hn hd (pa_cons p0 (pa_cons pe_str pa_nil rfl) rfl) (hc _) rfl rfl) rfl) (pss_one (t4 T hf p0' p1 rfl)),?_⟩;exact⟨.ref e,rfl,e,[_],rfl,Nat.le_of_ble_eq_true rfl,he,v,rfl,.ref e,rfl,e,rfl,he,fun dx hx hne=>hq dx hx hne⟩
end
end M
namespace M
open PySem PySem.Spec PyProof.Rows L2 B
abbrev XQ:=Nat->List (Nat×Val)->Hh->Prop
structure xpR{α : Type}(r:Res α)(Q:XQ):Prop where
 of ::
 go:match r with
  | .exc c fs h=>Q c fs h
  | _=>False
structure xpS(r:aC)(Q:Nat->List (Nat×Val)->Sl->Hh->Prop):Prop where
 of ::
 go:match r with
  | .exc c fs δ h=>Q c fs δ h
  | _=>False
section
variable{α β : Type}{r:Res α}{k:α->Hh->Res β}{Q:XQ}{QS:Nat->List (Nat×Val)->Sl->Hh->Prop}{δ : Sl}{h:Hh}{P:Po}{fo fv:Sl->Hh->Res Val}{ft:Sl->Hh->Res Bool}{fs:Sl->Hh->Res (List Val)}{f g:Sl->Hh->aC}
theorem xpR.get(q:xpR r Q):∃ c fs h,r = .exc c fs h/\Q c fs h:=by
 cases r with
 | ok a h=>exact q.go.elim
 | err=>exact q.go.elim
 | exc c fs h=>exact⟨c,fs,h,rfl,q.go⟩
theorem xpS.get{s:aC}(q:xpS s QS):∃ c fs δ h,s = .exc c fs δ h/\QS c fs δ h:=by
 cases s with
 | exc c fs δ h=>exact⟨c,fs,δ,h,rfl,q.go⟩
 | _=>exact q.go.elim
theorem xpR.mono{Q':XQ}(q:xpR r Q)(w:∀ c fs h,Q c fs h->Q' c fs h):xpR r Q':=by
 obtain⟨c,fs,h,e,q⟩:=q.get;rw [e]; exact⟨w _ _ _ q⟩
theorem xpR.bind(q:wpR r fun a h=>xpR (k a h) Q):xpR (r.bind k) Q:=by
 obtain⟨a,h,e,q⟩:=q.get;rw [e]; exact q
theorem xpR.bindX(q:xpR r Q):xpR (r.bind k) Q:=by
 obtain⟨c,fs,h,e,q⟩:=q.get;rw [e]; exact⟨q⟩
theorem pK(q:wpS (f δ h) { nx:=fun δ1 h1=>xpS (g δ1 h1) QS }):xpS (az f g δ h) QS:=by
 unfold az
 cases e:f δ h with
 | nx δ1 h1=>rw [e] at q; exact q.go
 | rt v h1=>rw [e] at q; exact q.go.elim
 | bk δ1 h1=>rw [e] at q; exact q.go.elim
 | ct δ1 h1=>rw [e] at q; exact q.go.elim
 | err=>rw [e] at q; exact q.go.elim
 | exc c fs δ1 h1=>rw [e] at q; exact q.go.elim
theorem jV(q:xpS (f δ h) QS):xpS (az f g δ h) QS:=by
 obtain⟨c,fs,δ1,h1,e,q⟩:=q.get;unfold az;rw [e]; exact⟨q⟩
theorem x_if(q:wpR (ft δ h) fun c h1=>if c=true then xpS (f δ h1) QS else xpS (g δ h1) QS):xpS (bU ft f g δ h) QS:=by
 obtain⟨a,h1,e,q⟩:=q.get;unfold bU;rw [e]
 cases a
 .exact q
 .exact q
theorem kR{c f:Nat}(q:wpR (fs δ h) fun xs h1=>∃ x,xs=[x]/\QS c [(f,x)] δ h1):xpS (fU c f fs δ h) QS:=by
 obtain⟨a,h1,e,x,rfl,q⟩:=q.get;unfold fU;rw [e]; exact⟨q⟩
theorem uW{g:Val->Sl->Option Sl}(q:xpR (fo δ h) fun c fs h1=>QS c fs δ h1):xpS (aI fo g δ h) QS:=by
 obtain⟨c,fs,h1,e,q⟩:=q.get;unfold aI;rw [e]; exact⟨q⟩
theorem x_fn{T:Nat->Option Df}{n k:Nat}{d:Df}{xs:List Val}(hT:T k=some d)(hl:xs.length=d.np)(q:xpS (d.body (ar T n) (startM d xs) h) fun c fs _ h1=>nlp fs=true/\Q c fs (h1.cut h.loc.length)):xpR (ar T (n + 1) k xs h) Q:=by
 obtain⟨c,fs,δ1,h1,e,q1,q2⟩:=q.get;unfold ar;rw [hT];dsimp only;rw [if_pos hl,e];unfold finR;dsimp only;rw [if_pos q1];exact⟨q2⟩
theorem x_call{Γ : Calls}{k:Nat}(q:wpR (fs δ h) fun xs h1=>xpR (Γ k xs h1) Q):xpR (aA Γ k fs δ h) Q:=.bind q
theorem tR{tbl:List (Nat×Bool)}{i j s:Nat}(q:wpS (f δ h) P):wpS (iY tbl i j s f δ h) P:=by
 unfold iY
 cases e:f δ h with
 | err=>rw [e] at q; exact q.go.elim
 | exc c fs δ1 h1=>rw [e] at q; exact q.go.elim
 | nx δ1 h1=>rw [e] at q; exact q
 | rt v h1=>rw [e] at q; exact q
 | bk δ1 h1=>rw [e] at q; exact q
 | ct δ1 h1=>rw [e] at q; exact q
theorem ow{tbl:List (Nat×Bool)}{i j s:Nat}(q:xpS (f δ h) fun c fs δ1 h1=>tbl.lookup c=some true/\nlp fs=true/\P.nx ((δ1.set j (some (.ref (.glo s (h1.glo s).length)))).set i none) (h1.aY s (.exc c fs))):wpS (iY tbl i j s f δ h) P:=by
 obtain⟨c,fs,δ1,h1,e,q1,q2,q3⟩:=q.get;unfold iY;rw [e];dsimp only;rw [q1];dsimp only;rw [if_pos q2];exact⟨q3⟩
end
section
variable{QV:Val->Hh->Prop}{c:Val}{s l:Int}{g:GG}{L:List Cel}{i j k:Nat}{x:Val}
theorem ml{fs:List (Nat×Val)}(hi:i≠0:=by decide):(hT c s l g L).aY i (.exc k fs)=hT c s l (jO g i (.exc k fs)) L:=rW hi
theorem uj{cs:List Nat}{f:Nat}(e:gat g i j=some (.exc k [(f,x)]))(hc:k∈cs)(q:QV x (hT c s l g L))(hi:i≠0:=by decide):wpR (pz cs f (hT c s l g L) (.ref (.glo i j))) QV:=by
 unfold pz;dsimp only;rw [oR e hi];dsimp only;rw [if_pos ⟨hc,rfl⟩];exact⟨q⟩
theorem o_isX{tbl:List (Nat×Bool)}{b:Bool}{fs:List (Nat×Val)}(e:gat g i j=some (.exc k fs))(hb:tbl.lookup k=some b)(q:QV (.bl b) (hT c s l g L))(hi:i≠0:=by decide):wpR (lG tbl (hT c s l g L) (.ref (.glo i j))) QV:=by
 unfold lG;dsimp only;rw [oR e hi];dsimp only;rw [hb];exact⟨q⟩
end
end M
namespace M
open PySem PySem.Spec PyProof.Rows L2 B
theorem x_for{fw:Sl->Hh->Res Wk}{tg:Val->Sl->Option Sl}{f:Sl->Hh->aC}{δ : Sl}{h:Hh}{QS:Nat->List (Nat×Val)->Sl->Hh->Prop}{j:Nat} (q:wpR (fw δ h) fun k h1=>∃ I:Nat->Sl->Hh->Prop,I 0 δ h1/\j < k.n /\
  (∀ i δ h,i < j->I i δ h->∃ x δ1,k.it i h=some (some x)/\tg x δ = some δ1/\wpS (f δ1 h) { nx:=I (i + 1) })/\(∀ δ h,I j δ h->∃ x δ1,k.it j h=some (some x)/\tg x δ = some δ1/\xpS (f δ1 h) QS)):xpS (i4 fw tg f δ h) QS:=by
 obtain⟨k,h1,e,I,i0,hj,hs,hd⟩:=q.get;have key:∀ m i n δ h,i + m=j->i + n=k.n->I i δ h->xpS (forM k.it tg f n i δ h) QS:=by
  intro m
  induction m with
  | zero =>
   intro i n δ h hm hn hi;obtain rfl:i=j:=hm;obtain⟨x,δ1,e1,e2,q⟩:=hd δ h hi;obtain⟨n',rfl⟩:∃ n',n=n' + 1:=⟨n - 1,by omega⟩;obtain⟨c,fs,δ2,h2,e3,q⟩:=q.get;unfold forM;rw [e1];dsimp only;rw [e2];dsimp only;rw [e3];exact⟨q⟩
  | succ m ih =>
   intro i n δ h hm hn hi;obtain⟨x,δ1,e1,e2,q⟩:=hs i δ h (by omega) hi;obtain⟨n',rfl⟩:∃ n',n=n' + 1:=⟨n - 1,by omega⟩;unfold forM;rw [e1];dsimp only;rw [e2];dsimp only
   cases e:f δ1 h with
   | nx δ2 h2 =>
    rw [e] at q;exact ih (i + 1) n' δ2 h2 (by omega) (by omega) q.go
   | rt v h1=>rw [e] at q; exact q.go.elim
   | bk δ1 h1=>rw [e] at q; exact q.go.elim
   | ct δ1 h1=>rw [e] at q; exact q.go.elim
   | err=>rw [e] at q; exact q.go.elim
   | exc c fs δ1 h1=>rw [e] at q; exact q.go.elim
 unfold i4;rw [e];exact key j 0 k.n δ h1 (by omega) (by omega) i0
end M
namespace K10
open PySem PySem.Spec PyProof.Rows L2 B M
def dw(i:Nat):Stmt:=PySem.Challenge.pw_strokeguess_k10_touches_as_texts.main.body.getD i (.Pass ⟨0,0,0,0⟩)
def topM(i j:Nat):Stmt:=match dw i with
 | .ClassDef _ _ _ b _ _ _ _ _ _ _=>b.getD j (.Pass ⟨0,0,0,0⟩)
 | s=>s
abbrev aT:Stmt:=topM 1 0
abbrev aZ:Stmt:=dw 26
abbrev bu:Stmt:=dw 21
abbrev aF:Stmt:=dw 25
abbrev aR:Stmt:=dw 23
abbrev aQ:Stmt:=dw 24
abbrev bN:Stmt:=dw 27
abbrev br:Stmt:=dw 20
abbrev aO:Stmt:=dw 22
abbrev cb:Stmt:=dw 14
abbrev bL:Stmt:=dw 3
abbrev bq:Stmt:=dw 8
abbrev bM:Stmt:=dw 9
abbrev aX:Stmt:=dw 13
abbrev bK:Stmt:=dw 17
abbrev aS:Stmt:=dw 18
abbrev bp:Stmt:=dw 15
abbrev aN:Stmt:=dw 16
abbrev gT:Stmt:=dw 28
end K10
namespace K10
open PySem PySem.Spec PyProof.Rows L2 B M
open He
def jv:He.DefD:=⟨("_law_asked",none),"_law_asked","_law_asked",defArgs aZ,defBody aZ,defScope aZ,[],[]⟩
def kN:He.DefD:=⟨("_law_draw",none),"_law_draw","_law_draw",defArgs bu,defBody bu,defScope bu,[],[]⟩
def gi:He.DefD:=⟨("_law_bent_text",none),"_law_bent_text","_law_bent_text",defArgs aF,defBody aF,defScope aF,[],[]⟩
def i8:He.DefD:=⟨("_law_number",none),"_law_number","_law_number",defArgs aR,defBody aR,defScope aR,[],[]⟩
def gM:He.DefD:=⟨("_law_touch_in",none),"_law_touch_in","_law_touch_in",defArgs aQ,defBody aQ,defScope aQ,[],[]⟩
def mF:He.DefD:=⟨("_law_due",none),"_law_due","_law_due",defArgs bN,defBody bN,defScope bN,[],[]⟩
def kM:He.DefD:=⟨("_law_tape",none),"_law_tape","_law_tape",defArgs br,defBody br,defScope br,[],[]⟩
def hW:He.DefD:=⟨("_law_touches",none),"_law_touches","_law_touches",defArgs aO,defBody aO,defScope aO,[],[]⟩
def nE:He.DefD:=⟨("rows_in",none),"rows_in","rows_in",defArgs cb,defBody cb,defScope cb,[],[]⟩
def mD:He.DefD:=⟨("is_whole",none),"is_whole","is_whole",defArgs bL,defBody bL,defScope bL,[],[]⟩
def kL:He.DefD:=⟨("is_moment",none),"is_moment","is_moment",defArgs bq,defBody bq,defScope bq,[],[]⟩
def mE:He.DefD:=⟨("is_touch",none),"is_touch","is_touch",defArgs bM,defBody bM,defScope bM,[],[]⟩
def kK:He.DefD:=⟨("number_in",none),"number_in","number_in",defArgs aX,defBody aX,defScope aX,[],[]⟩
def mz:He.DefD:=⟨("touch_in",none),"touch_in","touch_in",defArgs bK,defBody bK,defScope bK,[],[]⟩
def hV:He.DefD:=⟨("read_touches",none),"read_touches","read_touches",defArgs aS,defBody aS,defScope aS,[],[]⟩
def my:He.DefD:=⟨("words_of",none),"words_of","words_of",defArgs bp,defBody bp,defScope bp,[],[]⟩
def hU:He.DefD:=⟨("show_touches",none),"show_touches","show_touches",defArgs aN,defBody aN,defScope aN,[],[]⟩
def sm:He.DefD:=⟨("law",none),"law","law",defArgs gT,defBody gT,defScope gT,[],[]⟩
def cP:He.DefD:=⟨("NoText",some "__init__"),"__init__","NoText.__init__",defArgs aT,defBody aT,defScope aT,[],[]⟩
def fn0:List He.DefD:=[jv,kN,gi,i8,gM,mF,kM,hW,nE,mD,kL,mE,kK,mz,hV,my,hU,sm,cP]
def fn:List He.DefD:=fn0
def fldT0:List PySem.Str:=["scene","forms","spots","number","way","touches","spot","contest","labelled","part","wish","kind","label","strokes","state","since","why","taps","machine_at","is_lifted","due","counted","claimed","begun_with","told_at","is_over","parts","beside","heeds","slop"]
def fldT1:List PySem.Str:=["gap","guessing","shelves","hopes","time","touched","claims","rows","contests","seen","time_told","held","ears","away","deeds","reader","watchers","name","box","ear","shelf","wishes","within","about","names","named","states","wanted","machine","other"]
def fldT2:List PySem.Str:=["wants","best","lines","row"]
def eO:List PySem.Str:=fldT0 ++ fldT1 ++ fldT2
def fa0:List He.Fa:=[.glo "_law_asked",.glo "_law_draw",.glo "_law_bent_text",.glo "_law_number",.glo "_law_touch_in",.glo "_law_due",.glo "_law_tape",.glo "_law_touches",.glo "rows_in",.glo "is_whole",.glo "is_moment",.glo "is_touch",.glo "number_in",.glo "touch_in",.glo "read_touches",.glo "words_of",.glo "show_touches",.glo "law",.int "LAST_MOMENT" 1000000000,.int "FAR" 10000,.int "MOST_FIGURES" 10,.str "FIGURES" "0123456789",.free "isinstance",.free "bool",.free "ValueError",.free "len",.free "int",.free "all",.free "enumerate",.free "str"]
def fa1:List He.Fa:=[.free "range",.free "tuple",.glo "WORDS",.glo "NoText"]
def fa:List He.Fa:=fa0 ++ fa1
def xs0:List (PySem.W.Frag->Bool):=[(fun K=>He.tupB K "WORDS" (((["down","move","up","lost"]:List PySem.Str)).map He.Dv.str)),(xkB "NoText" 0),(xfB "NoText" "row"),(xmB "NoText" [("NoText",true)]),(xiB "ValueError" [("NoText",true)])]
def xs:List (PySem.W.Frag->Bool):=xs0
def loose0:List PySem.Str:=["NoText","is_whole","FAR","LAST_MOMENT","WORDS","is_moment","is_touch","FIGURES","MOST_FIGURES","number_in","rows_in","words_of","show_touches","touch_in","read_touches","_law_tape","_law_draw","_law_touches","_law_number","_law_touch_in","_law_bent_text","_law_asked","_law_due"]
def loose:List PySem.Str:=loose0
abbrev R:PySem.W.OpenRow:=PySem.W.OpenLaw.row PySem.Challenge.rw_strokeguess_k10_touches_as_texts
abbrev hk:PySem.W.Hook:=M.hookX 5 fa fn xs
def ob(s:PySem.W.SharedT):M.AlX:=M.rp 5 fa fn xs (HandSHeadRun.getT s)
theorem ob_eq(s:PySem.W.SharedT):ob s=hk.obs s.abs:=M.rn (HandSHeadRun.getT_eq s)
set_option maxHeartbeats 0 in
theorem run(w:World):HandSHeadRun.RunEq R (PySem.W.view R.prog [28]) hk ob 10000 loose w:=by
 intro os
 kernel_rfl
end K10
section
open PySem PySem.W PySem.Calls PyProof.Rows
set_option maxRecDepth 100000 in
set_option maxHeartbeats 0 in
theorem K10.pre(hc:WalkO (view (OpenLaw.row PySem.Challenge.rw_strokeguess_k10_touches_as_texts).prog [28]) K10.loose (XL (view (OpenLaw.row PySem.Challenge.rw_strokeguess_k10_touches_as_texts).prog [28]) []) K10.hk.says (OpenLaw.row PySem.Challenge.rw_strokeguess_k10_touches_as_texts).toRowW (HandSHeadRun.topDef (OpenLaw.row PySem.Challenge.rw_strokeguess_k10_touches_as_texts).prog 28) [] fun f vs=>PySem.call f vs):PySem.Challenge.rw_strokeguess_k10_touches_as_texts.Holds:=by
 w_on; o_law
 refine HandSHeadRun.head_any (r:=OpenLaw.row PySem.Challenge.rw_strokeguess_k10_touches_as_texts) (q:=view (OpenLaw.row PySem.Challenge.rw_strokeguess_k10_touches_as_texts).prog [28]) (H:=K10.hk) (ob:=K10.ob) (M:=10000) (loose:=K10.loose) (d:=HandSHeadRun.topDef (OpenLaw.row PySem.Challenge.rw_strokeguess_k10_touches_as_texts).prog 28) (kwd:=[]) K10.ob_eq
  (by kernel_rfl) (fun s=>by kernel_rfl) K10.run (by kernel_rfl) (by kernel_rfl) (by kernel_rfl) (by rfl) (by first | assumption | decide +kernel) (by decide +kernel) ⟨rfl,rfl,rfl,rfl,rfl,by decide +kernel⟩ ?hw ?hc
 case hw=>w_witness2
 case hc=>exact hc
end
namespace K10
open PySem PySem.Spec PyProof.Rows L2 B M
def bY(Γ : Calls):Sl->Hh->aC :=
  (az (aI (mK .non) (tgN 2))
  (az (aI (mK .non) (tgN 3))
  (az (iY [(10,true)] 4 3 95 (aI (fm Γ [14] 0 (ae (ai 1) av)) (tgN 2)))
  (az (bU (mB (m2 nk (ai 3) (mK .non))) (bg (ai 2)) bw)
  (bg (mIf (i5 (fT (m1 (lG [(10,true)]) (ai 3))) (cY (fT (m1 (dN .bool) (m1 (pz [10] 63) (ai 3)))))) (fS (ae (m1 (pz [10] 63) (ai 3)) av)) (mK (.str "odd"))))))))
def gj:Df:=⟨2,5,bY,["_law_asked_here","_law_text"],[]⟩
def c7(Γ : Calls):Sl->Hh->aC :=
  (az (bU (mB (m2 lH (m2 aq (ai 0) (mK (.str "left"))) (mK (.int 0)))) (az (aI (m2 cw (m2 aq (ai 0) (mK (.str "left"))) (ai 1)) (tgN 2))
  (az (jK (ai 0) (mK (.str "left")) (m2 fR (m2 aq (ai 0) (mK (.str "left"))) (ai 1)))
  (bg (ai 2)))) bw)
  (az (aI (m2 aq (ai 0) (mK (.str "spot"))) (tgN 3))
  (az (jK (ai 0) (mK (.str "spot")) (m2 aJ (ai 3) (mK (.int 1))))
  (az (aI (uD (m2 aq (ai 0) (mK (.str "cells"))) (bb .dat (ae (mK (.int 0)) av))) (tgN 4))
  (az (aI (m2 aq (ai 4) (m2 cw (ai 3) (mC dh (ae (ai 4) av)))) (tgN 5))
  (az (bU (i5 (mB (m2 rm (ai 5) (m2 bj (mK (.int 10)) (mK (.int 18))))) (mB (m2 rl (ai 3) (mC dh (ae (ai 4) av))))) (az (aI (m2 cw (m2 fP (ai 5) (m2 bj (mK (.int 10)) (mK (.int 18)))) (m2 bj (m2 bj (m2 bj (mK (.int 10)) (mK (.int 50))) (mK (.int 60))) (mK (.int 10)))) (tgN 6))
  (az (jK (ai 0) (mK (.str "left")) (m2 fR (ai 6) (ai 1)))
  (bg (m2 cw (ai 6) (ai 1))))) bw)
  (az (aI (bb .dat (ae (mK (.int 2147483647)) (ae (mK (.int 2147483629)) (ae (mK (.int 2147483587)) (ae (mK (.int 2147483579)) (ae (mK (.int 2147483563)) (ae (mK (.int 2147483549)) (ae (mK (.int 2147483543)) av)))))))) (tgN 7))
  (az (aI (m2 aq (ai 7) (m2 cw (ai 3) (mK (.int 7)))) (tgN 8))
  (az (aI (m2 cw (m2 aJ (m2 aJ (m2 aJ (m2 bZ (m2 cw (ai 5) (ai 8)) (mK (.int 48271))) (m2 bZ (m2 bZ (mK (.int 7919)) (ai 3)) (ai 3))) (m2 bZ (mK (.int 69621)) (ai 3))) (mK (.int 1))) (ai 8)) (tgN 9))
  (az (aI (m2 cw (m2 bZ (ai 9) (m2 aJ (ai 9) (mK (.int 16807)))) (m2 aq (ai 7) (m2 cw (m2 aJ (ai 3) (mK (.int 3))) (mK (.int 7))))) (tgN 9))
  (az (aI (m2 fR (m2 cw (m2 bZ (ai 9) (ai 9)) (ai 8)) (mK (.int 64))) (tgN 2))
  (az (bU (mB (m2 lH (ai 1) (m2 bj (mK (.int 10)) (mK (.int 6))))) (aI (m2 aJ (m2 cw (ai 2) (m2 bj (mK (.int 10)) (mK (.int 6)))) (m2 bZ (m2 bj (mK (.int 10)) (mK (.int 6))) (aA Γ 1 (ae (ai 0) (ae (m2 aJ (m2 fR (ai 1) (m2 bj (mK (.int 10)) (mK (.int 6)))) (mK (.int 1))) av))))) (tgN 2)) bw)
  (bg (m2 cw (ai 2) (ai 1)))))))))))))))
def g5:Df:=⟨2,10,c7,["_law_tape_here","_law_many"],[]⟩
def bz(Γ : Calls):Sl->Hh->aC :=
  (az (aI (mBM tyS dc (ai 1) (ae (mK (.str "\n")) av)) (tgN 3))
  (az (aI (aA Γ 1 (ae (ai 0) (ae (mC dh (ae (ai 3) av)) av))) (tgN 4))
  (az (aI (mBM tyS dc (m2 aq (ai 3) (ai 4)) (ae (mK (.str " ")) av)) (tgN 5))
  (az (aI (aA Γ 1 (ae (ai 0) (ae (mC dh (ae (ai 5) av)) av))) (tgN 6))
  (az (aI (m2 aq (ai 2) (aA Γ 1 (ae (ai 0) (ae (mC dh (ae (ai 2) av)) av)))) (tgN 7))
  (az (aI (mK (.str "abcdefghijklmnopqrstuvwxyzABCDEFGHIJKLMNOPQRSTUVWXYZ0123456789!#$&'()*+,-./:;<=>?\x40[]^_{|}~ \n")) (tgN 8))
  (az (aI (m2 aq (ai 8) (aA Γ 1 (ae (ai 0) (ae (mC dh (ae (ai 8) av)) av)))) (tgN 9))
  (az (aI (aA Γ 1 (ae (ai 0) (ae (m2 aJ (mC dh (ae (ai 1) av)) (mK (.int 1))) av))) (tgN 10))
  (az (aI (bb .loc (ae (bb .dat (ae (mBM tyS ep (mK (.str " ")) (ae (m2 aJ (m2 aJ (mSl (ai 5) dS (mP (ai 6))) (bb .dat (ae (ai 7) av))) (mSl (ai 5) (mP (m2 aJ (ai 6) (mK (.int 1)))) dS)) av)) av)) (ae (bb .dat av) (ae (bb .dat (ae (m2 aq (ai 3) (ai 4)) (ae (m2 aq (ai 3) (ai 4)) av))) av)))) (tgN 11))
  (az (aI (m2 (jF .loc) (ai 11) (bb .dat (ae (bb .dat (ae (m2 aq (ai 3) (aA Γ 1 (ae (ai 0) (ae (mC dh (ae (ai 3) av)) av)))) av)) (ae (bb .dat (ae (mBM tyS ep (mK (.str " ")) (ae (m2 aJ (m2 aJ (mSl (ai 5) dS (mP (ai 6))) (bb .dat (ae (ai 7) av))) (mSl (ai 5) (mP (ai 6)) dS)) av)) av)) av)))) (tgN 11))
  (az (jM (mBM tyL bV (ai 11) (ae (bb .dat (ae (m2 aq (ai 3) (ai 4)) (ae (m2 aq (ai 3) (aA Γ 1 (ae (ai 0) (ae (mC dh (ae (ai 3) av)) av)))) av))) av)))
  (az (aI (m2 aJ (mLc .dat [14] (mWk (ai 11)) (tgN 14) ju (m2 aJ (m2 aJ (mSl (ai 3) dS (mP (ai 4))) (ai 14)) (mSl (ai 3) (mP (m2 aJ (ai 4) (mK (.int 1)))) dS))) (bb .dat (ae (m2 aJ (ai 3) (bb .dat (ae (mK (.str "")) av))) (ae (mSl (ai 3) dS (mP (ai 4))) (ae (m2 aJ (bb .dat (ae (mK (.str "")) av)) (ai 3)) av))))) (tgN 12))
  (az (aI (mLc .dat [14] (mWk (ai 12)) (tgN 14) ju (mBM tyS ep (mK (.str "\n")) (ae (ai 14) av))) (tgN 13))
  (az (aI (m2 aJ (ai 13) (bb .dat (ae (m2 aJ (m2 aJ (mSl (ai 1) dS (mP (ai 10))) (ai 9)) (mSl (ai 1) (mP (ai 10)) dS)) (ae (m2 aJ (m2 aJ (mSl (ai 1) dS (mP (ai 10))) (ai 9)) (mSl (ai 1) (mP (m2 aJ (ai 10) (mK (.int 1)))) dS)) av)))) (tgN 13))
  (bg (m2 aq (ai 13) (aA Γ 1 (ae (ai 0) (ae (mK (.int 11)) av)))))))))))))))))))
def dv:Df:=⟨3,15,bz,["_law_tape_here","_law_text","_law_some"],[]⟩
def cn(Γ : Calls):Sl->Hh->aC :=
  (az (aI (mIf (mB (m2 hL (mSl (ai 0) dS (mP (mK (.int 1)))) (mK (.str "-")))) (mSl (ai 0) (mP (mK (.int 1))) dS) (ai 0)) (tgN 3))
  (az (bU (gH (mB (m2 hL (ai 3) (mK (.str "")))) (gH (mB (m2 lH (mC dh (ae (ai 3) av)) (mK (.int 10)))) (cY (fT (mC nK (ae (mLc .dat [4] (mWk (ai 3)) (tgN 4) ju (m2 gF (ai 4) (mK (.str "0123456789")))) av)))))) (bg (mK .non)) bw)
  (az (bU (gH (i5 (mB (m2 hL (m2 aq (ai 3) (mK (.int 0))) (mK (.str "0")))) (mB (m2 dR (ai 0) (mK (.str "0"))))) (cY (mB (mCh jt jt (ai 1) (mC hZ (ae (ai 0) av)) (ai 2))))) (bg (mK .non)) bw)
  (bg (mC hZ (ae (ai 0) av))))))
def eV:Df:=⟨3,5,cn,["_law_word","_law_least","_law_most"],[]⟩
def bH(Γ : Calls):Sl->Hh->aC :=
  (az (aI (mBM tyS dc (ai 0) (ae (mK (.str " ")) av)) (tgN 1))
  (az (bU (gH (mB (m2 dR (mC dh (ae (ai 1) av)) (mK (.int 5)))) (mB (m2 fQ (m2 aq (ai 1) (mK (.int 2))) (fS (ae (mK (.str "down")) (ae (mK (.str "move")) (ae (mK (.str "up")) (ae (mK (.str "lost")) av)))))))) (bg (mK .non)) bw)
  (az (aI (bb .dat (ae (aA Γ 3 (ae (m2 aq (ai 1) (mK (.int 0))) (ae (mK (.int 0)) (ae (m2 bj (mK (.int 10)) (mK (.int 9))) av)))) (ae (aA Γ 3 (ae (m2 aq (ai 1) (mK (.int 1))) (ae (mK (.int 0)) (ae (mK (.int 9)) av)))) av))) (tgN 2))
  (az (aI (m2 aJ (ai 2) (bb .dat (ae (aA Γ 3 (ae (m2 aq (ai 1) (mK (.int 3))) (ae (m1 gV (mK (.int 10000))) (ae (mK (.int 10000)) av)))) (ae (aA Γ 3 (ae (m2 aq (ai 1) (mK (.int 4))) (ae (m1 gV (mK (.int 10000))) (ae (mK (.int 10000)) av)))) av)))) (tgN 2))
  (az (bU (mB (m2 gF (mK .non) (ai 2))) (bg (mK .non)) bw)
  (bg (fS (ae (m2 aq (ai 2) (mK (.int 0))) (ae (m2 aq (ai 2) (mK (.int 1))) (ae (m2 aq (ai 1) (mK (.int 2))) (ae (m2 aq (ai 2) (mK (.int 2))) (ae (m2 aq (ai 2) (mK (.int 3))) av))))))))))))
def dO:Df:=⟨1,3,bH,["_law_row"],[]⟩
def cO(Γ : Calls):Sl->Hh->aC :=
  (az (bU (cY (fT (m1 (dN .str) (ai 0)))) (bg (fS (ae (mK (.int 0)) av))) bw)
  (az (aI (bb .loc av) (tgN 1))
  (az (i4 (jL (ae (mIf (mB (m2 dR (ai 0) (mK (.str "")))) (mBM tyS dc (ai 0) (ae (mK (.str "\n")) av)) (bb .dat av)) av)) (tgT (dZ (tgN 2) (dZ (tgN 3) jz))) (az (aI (aA Γ 4 (ae (ai 3) av)) (tgN 4))
  (az (bU (mB (m2 nk (ai 4) (mK .non))) (bg (fS (ae (ai 2) av))) bw)
  (jM (mBM tyL bV (ai 1) (ae (ai 4) av))))))
  (bg (ai 1)))))
def jd:Df:=⟨1,5,cO,["_law_text"],[]⟩
def c6(Γ : Calls):Sl->Hh->aC :=
  (bg (oK (.glo 0) (iZ (mK (.str "cells")) (mSl (ai 0) dS (mP (mK (.int 63)))) (iZ (mK (.str "spot")) (mK (.int 0)) (iZ (mK (.str "left")) (mK (.int 0)) rH)))))
def g4:Df:=⟨1,1,c6,["_law_script"],[]⟩
def bX(Γ : Calls):Sl->Hh->aC :=
  (az (aI (bb .dat av) (tgN 3))
  (az (aI (m2 bZ (aA Γ 1 (ae (ai 0) (ae (mK (.int 2)) av))) (aA Γ 1 (ae (ai 0) (ae (mK (.int 100)) av)))) (tgN 4))
  (az (aI (bb .loc av) (tgN 5))
  (az (aI (oL .loc) (tgN 6))
  (az (i4 (uC wkR (ae (ai 1) av)) (tgN 7) (az (aI (m2 aJ (ai 4) (m2 aq (bb .dat (ae (mK (.int 0)) (ae (mK (.int 0)) (ae (mK (.int 5)) (ae (mK (.int 10)) (ae (mK (.int 90)) (ae (mK (.int 100)) (ae (mK (.int 299)) (ae (mK (.int 300)) (ae (mK (.int 301)) (ae (mK (.int 500)) (ae (aA Γ 1 (ae (ai 0) (ae (mK (.int 700)) av))) av)))))))))))) (aA Γ 1 (ae (ai 0) (ae (mK (.int 11)) av))))) (tgN 4))
  (az (aI (m2 aq (bb .dat (ae (mK (.int 0)) (ae (mK (.int 0)) (ae (mK (.int 1)) (ae (aA Γ 1 (ae (ai 0) (ae (mK (.int 4)) av))) av))))) (aA Γ 1 (ae (ai 0) (ae (mK (.int 4)) av)))) (tgN 8))
  (az (aI (mIf (mB (m2 gF (ai 8) (ai 3))) (m2 aq (bb .dat (ae (mK (.str "move")) (ae (mK (.str "up")) (ae (mK (.str "up")) (ae (mK (.str "move")) (ae (mK (.str "move")) (ae (mK (.str "lost")) av))))))) (aA Γ 1 (ae (ai 0) (ae (mK (.int 6)) av)))) (mK (.str "down"))) (tgN 9))
  (az (aI (nu (ai 6) (ai 8) (fS (ae (aA Γ 1 (ae (ai 0) (ae (ai 2) av))) (ae (aA Γ 1 (ae (ai 0) (ae (ai 2) av))) av)))) (tgN 10))
  (az (aI (m2 aq (bb .dat (ae (mK (.int 0)) (ae (mK (.int 0)) (ae (mK (.int 3)) (ae (mK (.int 18)) (ae (mK (.int 19)) (ae (mK (.int 40)) av))))))) (aA Γ 1 (ae (ai 0) (ae (mK (.int 6)) av)))) (tgN 11))
  (az (mPar 12 13 (ae (m2 aJ (m2 aq (ai 10) (mK (.int 0))) (m2 bZ (ai 11) (m2 fP (aA Γ 1 (ae (ai 0) (ae (mK (.int 3)) av))) (mK (.int 1))))) (ae (m2 aJ (m2 aq (ai 10) (mK (.int 1))) (m2 bZ (ai 11) (m2 fP (aA Γ 1 (ae (ai 0) (ae (mK (.int 3)) av))) (mK (.int 1))))) av)))
  (az (jK (ai 6) (ai 8) (fS (ae (ai 12) (ae (ai 13) av))))
  (az (jM (mBM tyL bV (ai 5) (ae (fS (ae (ai 4) (ae (ai 8) (ae (ai 9) (ae (ai 12) (ae (ai 13) av)))))) av)))
  (aI (m2 aJ (mLc .dat [14] (mWk (ai 3)) (tgN 14) (mB (m2 dR (ai 14) (ai 8))) (ai 14)) (m2 bZ (bb .dat (ae (ai 8) av)) (mC hZ (ae (m2 gF (ai 9) (fS (ae (mK (.str "down")) (ae (mK (.str "move")) av)))) av)))) (tgN 3)))))))))))
  (bg (ai 5)))))))
def eB:Df:=⟨3,15,bX,["_law_tape_here","_law_many","_law_wide"],[]⟩
def cH(Γ : Calls):Sl->Hh->aC :=
  (az (bU (cY (fT (m1 (dN .str) (ai 0)))) (fU 10 63 (ae (mK (.int 0)) av)) bw)
  (bg (mIf (mB (m2 dR (ai 0) (mK (.str "")))) (mBM tyS dc (ai 0) (ae (mK (.str "\n")) av)) (bb .dat av))))
def jR:Df:=⟨1,1,cH,["text"],[]⟩
def dJ(Γ : Calls):Sl->Hh->aC :=
  (bg (lZ (m1 (dN .int) (ai 0)) (lZ (rJ (m1 (dN .bool) (ai 0))) (mCh jt jt (ai 1) (ai 0) (ai 2)))))
def jb:Df:=⟨3,3,dJ,["thing","least","most"],[]⟩
def c5(Γ : Calls):Sl->Hh->aC :=
  (bg (aA Γ 9 (ae (ai 0) (ae (mK (.int 0)) (ae (mK (.int 1000000000)) av)))))
def gZ:Df:=⟨1,1,c5,["thing"],[]⟩
def dM(Γ : Calls):Sl->Hh->aC :=
  (az (bU (gH (cY (fT (m1 (dN .tuple) (ai 0)))) (mB (m2 dR (mC dh (ae (ai 0) av)) (mK (.int 5))))) (bg (mK (.bl false))) bw)
  (az (bU (gH (cY (fT (aA Γ 10 (ae (m2 aq (ai 0) (mK (.int 0))) av)))) (cY (fT (aA Γ 9 (ae (m2 aq (ai 0) (mK (.int 1))) (ae (mK (.int 0)) (ae (mK (.int 9)) av))))))) (bg (mK (.bl false))) bw)
  (az (bU (gH (cY (fT (m1 (dN .str) (m2 aq (ai 0) (mK (.int 2)))))) (mB (m2 fQ (m2 aq (ai 0) (mK (.int 2))) (mK (.kt [(.str "down"),(.str "move"),(.str "up"),(.str "lost")]))))) (bg (mK (.bl false))) bw)
  (bg (lZ (aA Γ 9 (ae (m2 aq (ai 0) (mK (.int 3))) (ae (m2 fP (mK (.int 0)) (mK (.int 10000))) (ae (mK (.int 10000)) av)))) (aA Γ 9 (ae (m2 aq (ai 0) (mK (.int 4))) (ae (m2 fP (mK (.int 0)) (mK (.int 10000))) (ae (mK (.int 10000)) av)))))))))
def jc:Df:=⟨1,1,dM,["thing"],[]⟩
def c4(Γ : Calls):Sl->Hh->aC :=
  (az (aI (mIf (mB (m2 hL (mSl (ai 0) dS (mP (mK (.int 1)))) (mK (.str "-")))) (mSl (ai 0) (mP (mK (.int 1))) dS) (ai 0)) (tgN 1))
  (az (bU (gH (mB (m2 hL (ai 1) (mK (.str "")))) (gH (mB (m2 lH (mC dh (ae (ai 1) av)) (mK (.int 10)))) (cY (fT (mC nK (ae (mLc .dat [2] (mWk (ai 1)) (tgN 2) ju (m2 gF (ai 2) (mK (.str "0123456789")))) av)))))) (bg (mK .non)) bw)
  (az (bU (i5 (mB (m2 hL (m2 aq (ai 1) (mK (.int 0))) (mK (.str "0")))) (mB (m2 dR (ai 0) (mK (.str "0"))))) (bg (mK .non)) bw)
  (bg (mC hZ (ae (ai 0) av))))))
def gY:Df:=⟨1,3,c4,["word"],[]⟩
def dI(Γ : Calls):Sl->Hh->aC :=
  (az (aI (mBM tyS dc (ai 0) (ae (mK (.str " ")) av)) (tgN 1))
  (az (bU (mB (m2 dR (mC dh (ae (ai 1) av)) (mK (.int 5)))) (bg (mK .non)) bw)
  (az (aI (fS (ae (aA Γ 12 (ae (m2 aq (ai 1) (mK (.int 0))) av)) (ae (aA Γ 12 (ae (m2 aq (ai 1) (mK (.int 1))) av)) (ae (m2 aq (ai 1) (mK (.int 2))) (ae (aA Γ 12 (ae (m2 aq (ai 1) (mK (.int 3))) av)) (ae (aA Γ 12 (ae (m2 aq (ai 1) (mK (.int 4))) av)) av)))))) (tgN 2))
  (bg (mIf (fT (aA Γ 11 (ae (ai 2) av))) (ai 2) (mK .non))))))
def ja:Df:=⟨1,3,dI,["row"],[]⟩
def aP(Γ : Calls):Sl->Hh->aC :=
  (az (aI (bb .loc av) (tgN 1))
  (az (i4 (jL (ae (aA Γ 8 (ae (ai 0) av)) av)) (tgT (dZ (tgN 2) (dZ (tgN 3) jz))) (az (aI (aA Γ 13 (ae (ai 3) av)) (tgN 4))
  (az (bU (mB (m2 nk (ai 4) (mK .non))) (fU 10 63 (ae (ai 2) av)) bw)
  (jM (mBM tyL bV (ai 1) (ae (ai 4) av))))))
  (bg (ai 1))))
def cQ:Df:=⟨1,5,aP,["text"],[]⟩
def dH(Γ : Calls):Sl->Hh->aC :=
  (bg (mBM tyS ep (mK (.str " ")) (ae (mLc .dat [1] (mWk (ai 0)) (tgN 1) ju (mC mG (ae (ai 1) av))) av)))
def i9:Df:=⟨1,2,dH,["things"],[]⟩
def bW(Γ : Calls):Sl->Hh->aC :=
  (bg (mBM tyS ep (mK (.str "\n")) (ae (mLc .dat [1] (mWk (ai 0)) (tgN 1) ju (aA Γ 15 (ae (ai 1) av))) av)))
def eA:Df:=⟨1,2,bW,["touches"],[]⟩
def oU(Γ : Calls):Sl->Hh->aC :=
  (az (aI (aA Γ 6 (ae (ai 0) av)) (tgN 1))
  (az (aI (bb .dat (ae (mK (.str "down")) (ae (mK (.str "Up")) (ae (mK (.str "lost")) (ae (mK (.str "0")) (ae (mK (.str "-1")) (ae (mK (.str "-0")) (ae (mK (.str "00")) (ae (mK (.str "9")) (ae (mK (.str "10")) (ae (mK (.str "1000000000")) (ae (mK (.str "1000000001")) (ae (mK (.str "10000")) (ae (mK (.str "10001")) av)))))))))))))) (tgN 2))
  (az (aI (m2 aJ (ai 2) (bb .dat (ae (mK (.str "-10000")) (ae (mK (.str "-10001")) (ae (mK (.str "")) (ae (m2 iS (mK (.str "1")) (mK (.int 4400))) (ae (mK (.str "+1")) (ae (mK (.str "1.0")) (ae (mK (.str "move")) av))))))))) (tgN 2))
  (az (i4 (uC wkR (ae (mK (.int 5)) av)) (tgN 3) (az (aI (aA Γ 7 (ae (ai 1) (ae (m2 aq (bb .dat (ae (mK (.int 0)) (ae (mK (.int 3)) (ae (mK (.int 12)) (ae (mK (.int 110)) (ae (mK (.int 5)) av)))))) (ai 3)) (ae (mK (.int 300)) av)))) (tgN 4))
  (az (bU (mB (m2 hL (ai 3) (mK (.int 4)))) (aI (m2 aJ (m2 aJ (bb .dat (ae (fS (ae (m2 bj (mK (.int 10)) (mK (.int 9))) (ae (mK (.int 9)) (ae (mK (.str "lost")) (ae (m1 gV (mK (.int 10000))) (ae (mK (.int 10000)) av)))))) av)) (ai 4)) (bb .dat (ae (fS (ae (mK (.int 0)) (ae (mK (.int 0)) (ae (mK (.str "up")) (ae (mK (.int 10000)) (ae (m1 gV (mK (.int 10000))) av)))))) av))) (tgN 4)) bw)
  (az (aI (mBM tyS ep (mK (.str "\n")) (ae (mLc .dat [9] (mWk (ai 4)) (tgN 9) ju (mBM tyS ep (mK (.str " ")) (ae (mLc .dat [10] (mWk (ai 9)) (tgN 10) ju (mC mG (ae (ai 10) av))) av))) av)) (tgN 5))
  (az (bU (gH (mB (m2 dR (aA Γ 16 (ae (ai 4) av)) (ai 5))) (mB (m2 dR (aA Γ 0 (ae (mK (.fn 14)) (ae (ai 5) av))) (ai 4)))) (bg (mK (.bl false))) bw)
  (az (aI (aA Γ 2 (ae (ai 1) (ae (ai 5) (ae (ai 2) av)))) (tgN 6))
  (az (aI (m2 aq (bb .dat (ae (mK .non) (ae (mK (.int 7)) (ae (mK (.bl true)) (ae (ai 4) (ae (mK (.str "")) av)))))) (aA Γ 1 (ae (ai 1) (ae (mK (.int 5)) av)))) (tgN 7))
  (i4 (mWk (bb .dat (ae (ai 6) (ae (aA Γ 2 (ae (ai 1) (ae (ai 6) (ae (ai 2) av)))) (ae (ai 7) av))))) (tgN 8) (bU (mB (m2 dR (aA Γ 0 (ae (mK (.fn 14)) (ae (ai 8) av))) (aA Γ 5 (ae (ai 8) av)))) (bg (mK (.bl false))) bw)))))))))
  (bg (mK (.bl true)))))))
def sv:Df:=⟨1,11,oU,["_law_script"],[]⟩
def tabL:List Df:=[gj,g5,dv,eV,dO,jd,g4,eB,jR,jb,gZ,jc,gY,ja,cQ,i9,eA,sv]
def qf:Nat->Option Df:=fun f=>tabL[f]?
noncomputable def tab:Nat->Option Df:=Classical.choose (⟨qf,rfl⟩:∃ T,T=qf)
theorem aW:tab=qf:=Classical.choose_spec (⟨qf,rfl⟩:∃ T,T=qf)
theorem cJ:tab 0=some gj:=by rw [aW]; rfl
theorem eU{n:Nat}{h:Hh}{QV:Val->Hh->Prop}{v0 v1:Val}(q:wpS (bY (ar tab n) [some v0,some v1,none,none,none] h) { nx:=fun _ h1=>QV .non (h1.cut h.loc.length),rt:=fun v h1=>wpR (bP h.loc.length v h1) QV }):wpR (ar tab (n + 1) 0 [v0,v1] h) QV:=dQ cJ rfl q
theorem aw:tab 1=some g5:=by rw [aW]; rfl
theorem kJ{n:Nat}{h:Hh}{QV:Val->Hh->Prop}{v0 v1:Val}(q:wpS (c7 (ar tab n) [some v0,some v1,none,none,none,none,none,none,none,none] h) { nx:=fun _ h1=>QV .non (h1.cut h.loc.length),rt:=fun v h1=>wpR (bP h.loc.length v h1) QV }):wpR (ar tab (n + 1) 1 [v0,v1] h) QV:=dQ aw rfl q
theorem bI:tab 2=some dv:=by rw [aW]; rfl
theorem fZ{n:Nat}{h:Hh}{QV:Val->Hh->Prop}{v0 v1 v2:Val}(q:wpS (bz (ar tab n) [some v0,some v1,some v2,none,none,none,none,none,none,none,none,none,none,none,none] h) { nx:=fun _ h1=>QV .non (h1.cut h.loc.length),rt:=fun v h1=>wpR (bP h.loc.length v h1) QV }):wpR (ar tab (n + 1) 2 [v0,v1,v2] h) QV:=dQ bI rfl q
theorem bf:tab 3=some eV:=by rw [aW]; rfl
theorem i6{n:Nat}{h:Hh}{QV:Val->Hh->Prop}{v0 v1 v2:Val}(q:wpS (cn (ar tab n) [some v0,some v1,some v2,none,none] h) { nx:=fun _ h1=>QV .non (h1.cut h.loc.length),rt:=fun v h1=>wpR (bP h.loc.length v h1) QV }):wpR (ar tab (n + 1) 3 [v0,v1,v2] h) QV:=dQ bf rfl q
theorem cV:tab 4=some dO:=by rw [aW]; rfl
theorem gJ{n:Nat}{h:Hh}{QV:Val->Hh->Prop}{v0:Val}(q:wpS (bH (ar tab n) [some v0,none,none] h) { nx:=fun _ h1=>QV .non (h1.cut h.loc.length),rt:=fun v h1=>wpR (bP h.loc.length v h1) QV }):wpR (ar tab (n + 1) 4 [v0] h) QV:=dQ cV rfl q
theorem fF:tab 5=some jd:=by rw [aW]; rfl
theorem gX{n:Nat}{h:Hh}{QV:Val->Hh->Prop}{v0:Val}(q:wpS (cO (ar tab n) [some v0,none,none,none,none] h) { nx:=fun _ h1=>QV .non (h1.cut h.loc.length),rt:=fun v h1=>wpR (bP h.loc.length v h1) QV }):wpR (ar tab (n + 1) 5 [v0] h) QV:=dQ fF rfl q
theorem eQ:tab 6=some g4:=by rw [aW]; rfl
theorem kI{n:Nat}{h:Hh}{QV:Val->Hh->Prop}{v0:Val}(q:wpS (c6 (ar tab n) [some v0] h) { nx:=fun _ h1=>QV .non (h1.cut h.loc.length),rt:=fun v h1=>wpR (bP h.loc.length v h1) QV }):wpR (ar tab (n + 1) 6 [v0] h) QV:=dQ eQ rfl q
theorem dm:tab 7=some eB:=by rw [aW]; rfl
theorem hR{n:Nat}{h:Hh}{QV:Val->Hh->Prop}{v0 v1 v2:Val}(q:wpS (bX (ar tab n) [some v0,some v1,some v2,none,none,none,none,none,none,none,none,none,none,none,none] h) { nx:=fun _ h1=>QV .non (h1.cut h.loc.length),rt:=fun v h1=>wpR (bP h.loc.length v h1) QV }):wpR (ar tab (n + 1) 7 [v0,v1,v2] h) QV:=dQ dm rfl q
theorem ee:tab 8=some jR:=by rw [aW]; rfl
theorem nB{n:Nat}{h:Hh}{QV:Val->Hh->Prop}{v0:Val}(q:wpS (cH (ar tab n) [some v0] h) { nx:=fun _ h1=>QV .non (h1.cut h.loc.length),rt:=fun v h1=>wpR (bP h.loc.length v h1) QV }):wpR (ar tab (n + 1) 8 [v0] h) QV:=dQ ee rfl q
theorem bR:tab 9=some jb:=by rw [aW]; rfl
theorem mr{n:Nat}{h:Hh}{QV:Val->Hh->Prop}{v0 v1 v2:Val}(q:wpS (dJ (ar tab n) [some v0,some v1,some v2] h) { nx:=fun _ h1=>QV .non (h1.cut h.loc.length),rt:=fun v h1=>wpR (bP h.loc.length v h1) QV }):wpR (ar tab (n + 1) 9 [v0,v1,v2] h) QV:=dQ bR rfl q
theorem eP:tab 10=some gZ:=by rw [aW]; rfl
theorem kH{n:Nat}{h:Hh}{QV:Val->Hh->Prop}{v0:Val}(q:wpS (c5 (ar tab n) [some v0] h) { nx:=fun _ h1=>QV .non (h1.cut h.loc.length),rt:=fun v h1=>wpR (bP h.loc.length v h1) QV }):wpR (ar tab (n + 1) 10 [v0] h) QV:=dQ eP rfl q
theorem fE:tab 11=some jc:=by rw [aW]; rfl
theorem mv{n:Nat}{h:Hh}{QV:Val->Hh->Prop}{v0:Val}(q:wpS (dM (ar tab n) [some v0] h) { nx:=fun _ h1=>QV .non (h1.cut h.loc.length),rt:=fun v h1=>wpR (bP h.loc.length v h1) QV }):wpR (ar tab (n + 1) 11 [v0] h) QV:=dQ fE rfl q
theorem bB:tab 12=some gY:=by rw [aW]; rfl
theorem kG{n:Nat}{h:Hh}{QV:Val->Hh->Prop}{v0:Val}(q:wpS (c4 (ar tab n) [some v0,none,none] h) { nx:=fun _ h1=>QV .non (h1.cut h.loc.length),rt:=fun v h1=>wpR (bP h.loc.length v h1) QV }):wpR (ar tab (n + 1) 12 [v0] h) QV:=dQ bB rfl q
theorem fD:tab 13=some ja:=by rw [aW]; rfl
theorem mq{n:Nat}{h:Hh}{QV:Val->Hh->Prop}{v0:Val}(q:wpS (dI (ar tab n) [some v0,none,none] h) { nx:=fun _ h1=>QV .non (h1.cut h.loc.length),rt:=fun v h1=>wpR (bP h.loc.length v h1) QV }):wpR (ar tab (n + 1) 13 [v0] h) QV:=dQ fD rfl q
theorem bx:tab 14=some cQ:=by rw [aW]; rfl
theorem hQ{n:Nat}{h:Hh}{QV:Val->Hh->Prop}{v0:Val}(q:wpS (aP (ar tab n) [some v0,none,none,none,none] h) { nx:=fun _ h1=>QV .non (h1.cut h.loc.length),rt:=fun v h1=>wpR (bP h.loc.length v h1) QV }):wpR (ar tab (n + 1) 14 [v0] h) QV:=dQ bx rfl q
theorem fC:tab 15=some i9:=by rw [aW]; rfl
theorem mn{n:Nat}{h:Hh}{QV:Val->Hh->Prop}{v0:Val}(q:wpS (dH (ar tab n) [some v0,none] h) { nx:=fun _ h1=>QV .non (h1.cut h.loc.length),rt:=fun v h1=>wpR (bP h.loc.length v h1) QV }):wpR (ar tab (n + 1) 15 [v0] h) QV:=dQ fC rfl q
theorem dk:tab 16=some eA:=by rw [aW]; rfl
theorem hP{n:Nat}{h:Hh}{QV:Val->Hh->Prop}{v0:Val}(q:wpS (bW (ar tab n) [some v0,none] h) { nx:=fun _ h1=>QV .non (h1.cut h.loc.length),rt:=fun v h1=>wpR (bP h.loc.length v h1) QV }):wpR (ar tab (n + 1) 16 [v0] h) QV:=dQ dk rfl q
theorem n4:tab 17=some sv:=by rw [aW]; rfl
theorem go_law{n:Nat}{h:Hh}{QV:Val->Hh->Prop}{v0:Val}(q:wpS (oU (ar tab n) [some v0,none,none,none,none,none,none,none,none,none,none] h) { nx:=fun _ h1=>QV .non (h1.cut h.loc.length),rt:=fun v h1=>wpR (bP h.loc.length v h1) QV }):wpR (ar tab (n + 1) 17 [v0] h) QV:=dQ n4 rfl q
end K10
namespace K10
open PySem PySem.Spec PyProof.Rows L2 B M
local macro_rules | `(tactic| walk_at "w") => `(tactic| repeat (first
  | ((with_reducible apply M.kV); first
    | ((with_reducible apply M.w_var); (· exact rfl))
    | with_reducible apply M.w_K
    | ((with_reducible apply M.o_big); intro b hb)
    | with_reducible apply M.w_2
    | with_reducible apply M.w_1
    | with_reducible apply M.w_C
    | with_reducible apply M.pZ
    | with_reducible apply M.uZ
    | with_reducible apply M.w_lst
    | with_reducible apply M.w_if
    | with_reducible apply M.p5
    | with_reducible apply M.pT
    | with_reducible apply M.w_ch
    | with_reducible apply M.w_sl
    | with_reducible apply M.pX
    | with_reducible apply M.w_newDdat
    | with_reducible apply M.w_bm
    | with_reducible apply M.w_bm0
    | with_reducible apply M.w_make
    | with_reducible apply M.w_makeD
    | with_reducible apply M.kU
    | with_reducible apply M.o_slAll
    | ((with_reducible apply M.gG); (· omega); (· omega))
    | with_reducible apply M.nq
    | with_reducible apply M.o_listD
    | with_reducible apply M.o_listT
    | ((with_reducible apply M.lI); (· first | exact rfl | omega))
    | ((with_reducible apply M.lJ); (· first | exact rfl | omega))
    | ((with_reducible apply M.o_slTakeT); (· first | exact rfl | omega))
    | ((with_reducible apply M.o_slDropT); (· first | exact rfl | omega))
    | with_reducible apply M.o_add
    | with_reducible apply M.o_sub
    | with_reducible apply M.rC
    | ((with_reducible apply M.rq); (· first | omega | (simp only [List.length_map, List.length_append, List.length_cons, List.length_nil]; omega)))
    | ((with_reducible apply M.dC); (· first | omega | (simp only [List.length_map, List.length_append, List.length_cons, List.length_nil]; omega)))
    | ((with_reducible apply M.o_addT); (· first | omega | (simp only [List.length_map, List.length_append, List.length_cons, List.length_nil]; omega)))
    | with_reducible apply M.o_inI
    | with_reducible apply M.o_ninI
    | with_reducible apply M.o_lt
    | with_reducible apply M.o_le
    | with_reducible apply M.o_gt
    | with_reducible apply M.o_ge
    | with_reducible apply M.o_eqI
    | with_reducible apply M.o_neI
    | with_reducible apply M.o_eqS
    | with_reducible apply M.o_neS
    | with_reducible apply M.o_is
    | with_reducible apply M.o_isn
    | ((with_reducible apply M.lL); (· first | exact oP (by omega) (by omega) | exact fW (by omega) (by omega)))
    | ((with_reducible apply M.o_mod); (· first | omega | (simp only [List.length_map]; omega)))
    | ((with_reducible apply M.o_div); (· omega))
    | ((with_reducible apply M.oM); first | with_reducible apply M.o_p10_1 | with_reducible apply M.o_p10_2 | with_reducible apply M.o_p10_3 | with_reducible apply M.o_p10_4 | with_reducible apply M.o_p10_5 | with_reducible apply M.oH | with_reducible apply M.o_p10_7 | with_reducible apply M.o_p10_8 | with_reducible apply M.oG | with_reducible apply M.o_p10_10 | with_reducible apply M.o_p10_12 | with_reducible apply M.o_p10_15 | with_reducible apply M.lK | with_reducible apply M.o_p10_20 | with_reducible apply M.o_p10_24 | with_reducible apply M.o_p10_27 | with_reducible apply M.o_p10_30 | with_reducible apply M.o_p2_10 | with_reducible apply M.o_p2_20 | with_reducible apply M.o_p2_30 | with_reducible apply M.o_p2_31 | with_reducible apply M.o_p2_32 | with_reducible apply M.o_p2_60 | with_reducible apply M.o_p2_61 | with_reducible apply M.o_p2_62 | with_reducible apply M.o_p2_63 | with_reducible apply M.o_p2_64)
    | ((with_reducible apply M.mi); first | with_reducible apply M.qo | with_reducible apply M.qm | with_reducible apply M.mT | with_reducible apply M.t_getC2 | with_reducible apply M.t_getR | with_reducible apply M.lV | with_reducible apply M.lQ | with_reducible apply M.o_ixkt0 | with_reducible apply M.lU | with_reducible apply M.lP | with_reducible apply M.o_ixkt1 | with_reducible apply M.lT | with_reducible apply M.lO | with_reducible apply M.o_ixkt2 | with_reducible apply M.lS | with_reducible apply M.lN | with_reducible apply M.o_ixkt3 | with_reducible apply M.lR | with_reducible apply M.lM | with_reducible apply M.o_ixkt4 | with_reducible apply M.o_ixlst5 | with_reducible apply M.o_ixtup5 | with_reducible apply M.o_ixkt5 | with_reducible apply M.o_ixlst6 | with_reducible apply M.o_ixtup6 | with_reducible apply M.o_ixkt6 | with_reducible apply M.o_ixlst7 | with_reducible apply M.o_ixtup7 | with_reducible apply M.o_ixkt7)
    | ((first | with_reducible apply M.k_opSub | with_reducible apply M.k_opEq | with_reducible apply M.k_opNe | with_reducible apply M.k_opLt | with_reducible apply M.k_opLe | with_reducible apply M.k_opGt | with_reducible apply M.k_opGe | with_reducible apply M.oN | with_reducible apply M.k_opRev | with_reducible apply M.rO | with_reducible apply M.k_bAbs | with_reducible apply M.k_bMax2 | with_reducible apply M.k_bMin2 | with_reducible apply M.k_bMaxL | with_reducible apply M.k_bMinL | with_reducible apply M.k_bSum | with_reducible apply M.k_bAll | with_reducible apply M.k_bAny | with_reducible apply M.k_bTuple | with_reducible apply M.k_bBool | with_reducible apply M.oO | with_reducible apply M.k_opFld); refine wpR.eq rfl ?_)
    | ((with_reducible apply M.t_newL3); (· exact rfl))
    | with_reducible apply M.t_newD3
    | ((with_reducible apply M.t_newL2); (· exact rfl))
    | with_reducible apply M.t_newD2
    | ((with_reducible apply M.j4); (· exact rfl))
    | with_reducible apply M.n5
    | ((with_reducible apply M.mR); (· exact rfl))
    | with_reducible apply M.mS
    | ((with_reducible apply M.qp); (· first | exact rfl | assumption); (· first | omega | (simp only [List.length_map, List.length_append, List.length_cons, List.length_nil]; omega)))
    | ((with_reducible apply M.t_app2); (· first | exact rfl | assumption); (· first | omega | (simp only [List.length_map, List.length_append, List.length_cons, List.length_nil]; omega)))
    | ((with_reducible apply M.t_app3); (· first | exact rfl | assumption); (· first | omega | (simp only [List.length_map, List.length_append, List.length_cons, List.length_nil]; omega)))
    | ((with_reducible apply M.jA); (· first | exact rfl | assumption); (· first | omega | (simp only [List.length_map, List.length_append, List.length_cons, List.length_nil]; omega)))
    | ((with_reducible apply M.pR); (· exact rfl))
    | ((with_reducible apply M.eY); (· exact rfl))
    | ((with_reducible apply M.jX); (· exact rfl))
    | with_reducible apply M.nU)
  | ((with_reducible apply M.kS); first
    | with_reducible apply M.jD
    | with_reducible apply M.s_asg
    | with_reducible apply M.s_ret
    | with_reducible apply M.s_if
    | with_reducible apply M.qR
    | with_reducible apply M.s_drop
    | with_reducible apply M.s_retN
    | with_reducible apply M.s_brk
    | with_reducible apply M.s_cnt
    | with_reducible apply M.qQ
    | with_reducible apply M.s_fld
    | with_reducible apply M.s_par
    | with_reducible apply M.s_for
    | with_reducible apply M.s_asgT
    | with_reducible apply M.s_asgX
    | with_reducible apply M.st_n
    | with_reducible apply M.st_s
    | with_reducible apply M.st_nil)
  | ((with_reducible apply M.kA); first
    | with_reducible apply M.pY
    | with_reducible apply M.u7)
  | ((with_reducible apply M.kT); first
    | with_reducible apply M.w_B
    | with_reducible apply M.w_asB
    | with_reducible apply M.u2
    | with_reducible apply M.p6
    | with_reducible apply M.u4
    | with_reducible apply M.pU
    | with_reducible apply M.uX
    | ((with_reducible apply M.u5); (· exact rfl)))
  | ((with_reducible apply M.kO); first
    | with_reducible apply M.u6
    | with_reducible apply M.w_P
    | with_reducible apply M.p4
    | with_reducible apply M.w_asPn)
  | ((with_reducible apply M.kPp); first
    | with_reducible apply M.nV
    | with_reducible apply M.pS)
  | ((with_reducible apply M.kW); first
    | with_reducible apply M.w_wk
    | with_reducible apply M.u3
    | with_reducible apply M.pW)
  | with_reducible apply M.pC
  | with_reducible apply M.pD
  | with_reducible apply M.if_nt
  | with_reducible apply M.if_nf
  | ((with_reducible apply M.kPnx); (with_reducible refine M.p_nx ?_))
  | ((with_reducible apply M.kPrt); (with_reducible refine M.p_rt ?_))
  | ((with_reducible apply M.kPbk); (with_reducible refine M.p_bk ?_))
  | ((with_reducible apply M.kPct); (with_reducible refine M.p_ct ?_))
  | with_reducible apply M.qi
  | with_reducible apply M.qg
  | ((with_reducible apply M.qj); (· exact rfl); (· first | exact rfl | assumption); (· first | omega | (simp only [List.length_map, List.length_append, List.length_cons, List.length_nil]; omega)))
  | with_reducible apply M.t_tyL2
  | ((with_reducible apply M.t_put2); (· exact rfl); (· first | exact rfl | assumption); (· first | omega | (simp only [List.length_map, List.length_append, List.length_cons, List.length_nil]; omega)))
  | with_reducible apply M.t_tyL3
  | ((with_reducible apply M.t_put3); (· exact rfl); (· first | exact rfl | assumption); (· first | omega | (simp only [List.length_map, List.length_append, List.length_cons, List.length_nil]; omega)))
  | with_reducible apply M.t_tyL
  | ((with_reducible apply M.qk); (· exact rfl); (· first | exact rfl | assumption); (· first | omega | (simp only [List.length_map, List.length_append, List.length_cons, List.length_nil]; omega)))
  | with_reducible apply M.qh
  | with_reducible apply M.w_bl
  | with_reducible apply M.w_xy
  | ((with_reducible apply M.rL); (· exact rfl))
  | with_reducible apply M.pM
  | ((with_reducible apply M.rK); (· exact rfl))
  | ((with_reducible apply M.k_wkE); (· exact rfl))
  | ((with_reducible apply M.k_tgT); (· exact rfl))
  | ((with_reducible apply M.k_tgN); (· exact rfl))
  | ((with_reducible apply M.k_rdT); (· exact rfl))
  | ((with_reducible apply M.k_tgL); (· exact rfl))
  | ((with_reducible apply M.rN); (· exact rfl))
  | ((with_reducible apply M.rM); (· exact Nat.le_of_ble_eq_true rfl))
  | ((with_reducible apply M.uY); (· first | omega | (simp only [List.length_map, List.length_append, List.length_cons, List.length_nil]; omega)))
  | ((with_reducible apply M.pQ); (· omega))
  | ((with_reducible apply M.k_le); (· exact Nat.le_of_ble_eq_true rfl))))
local macro_rules | `(tactic| walk_at "v") => `(tactic| repeat (first
  | ((with_reducible apply M.kV); first
    | ((with_reducible apply M.w_var); (· exact rfl))
    | with_reducible apply M.w_K
    | ((with_reducible apply M.o_big); intro b hb)
    | with_reducible apply M.w_2
    | with_reducible apply M.w_1
    | with_reducible apply M.w_C
    | with_reducible apply M.pZ
    | with_reducible apply M.uZ
    | with_reducible apply M.w_lst
    | with_reducible apply M.p5
    | with_reducible apply M.pT
    | with_reducible apply M.w_ch
    | with_reducible apply M.w_sl
    | with_reducible apply M.pX
    | with_reducible apply M.w_newDdat
    | with_reducible apply M.w_bm
    | with_reducible apply M.w_bm0
    | with_reducible apply M.w_make
    | with_reducible apply M.w_makeD
    | with_reducible apply M.kU
    | with_reducible apply M.o_slAll
    | ((with_reducible apply M.gG); (· omega); (· omega))
    | with_reducible apply M.nq
    | with_reducible apply M.o_listD
    | with_reducible apply M.o_listT
    | ((with_reducible apply M.lI); (· first | exact rfl | omega))
    | ((with_reducible apply M.lJ); (· first | exact rfl | omega))
    | ((with_reducible apply M.o_slTakeT); (· first | exact rfl | omega))
    | ((with_reducible apply M.o_slDropT); (· first | exact rfl | omega))
    | with_reducible apply M.o_add
    | with_reducible apply M.o_sub
    | with_reducible apply M.rC
    | ((with_reducible apply M.rq); (· first | omega | (simp only [List.length_map, List.length_append, List.length_cons, List.length_nil]; omega)))
    | ((with_reducible apply M.dC); (· first | omega | (simp only [List.length_map, List.length_append, List.length_cons, List.length_nil]; omega)))
    | ((with_reducible apply M.o_addT); (· first | omega | (simp only [List.length_map, List.length_append, List.length_cons, List.length_nil]; omega)))
    | with_reducible apply M.o_inI
    | with_reducible apply M.o_ninI
    | with_reducible apply M.o_lt
    | with_reducible apply M.o_le
    | with_reducible apply M.o_gt
    | with_reducible apply M.o_ge
    | with_reducible apply M.o_eqI
    | with_reducible apply M.o_neI
    | with_reducible apply M.o_eqS
    | with_reducible apply M.o_neS
    | with_reducible apply M.o_is
    | with_reducible apply M.o_isn
    | ((with_reducible apply M.lL); (· first | exact oP (by omega) (by omega) | exact fW (by omega) (by omega)))
    | ((with_reducible apply M.o_mod); (· first | omega | (simp only [List.length_map]; omega)))
    | ((with_reducible apply M.o_div); (· omega))
    | ((with_reducible apply M.oM); first | with_reducible apply M.o_p10_1 | with_reducible apply M.o_p10_2 | with_reducible apply M.o_p10_3 | with_reducible apply M.o_p10_4 | with_reducible apply M.o_p10_5 | with_reducible apply M.oH | with_reducible apply M.o_p10_7 | with_reducible apply M.o_p10_8 | with_reducible apply M.oG | with_reducible apply M.o_p10_10 | with_reducible apply M.o_p10_12 | with_reducible apply M.o_p10_15 | with_reducible apply M.lK | with_reducible apply M.o_p10_20 | with_reducible apply M.o_p10_24 | with_reducible apply M.o_p10_27 | with_reducible apply M.o_p10_30 | with_reducible apply M.o_p2_10 | with_reducible apply M.o_p2_20 | with_reducible apply M.o_p2_30 | with_reducible apply M.o_p2_31 | with_reducible apply M.o_p2_32 | with_reducible apply M.o_p2_60 | with_reducible apply M.o_p2_61 | with_reducible apply M.o_p2_62 | with_reducible apply M.o_p2_63 | with_reducible apply M.o_p2_64)
    | ((with_reducible apply M.mi); first | with_reducible apply M.qo | with_reducible apply M.qm | with_reducible apply M.mT | with_reducible apply M.t_getC2 | with_reducible apply M.t_getR | with_reducible apply M.lV | with_reducible apply M.lQ | with_reducible apply M.o_ixkt0 | with_reducible apply M.lU | with_reducible apply M.lP | with_reducible apply M.o_ixkt1 | with_reducible apply M.lT | with_reducible apply M.lO | with_reducible apply M.o_ixkt2 | with_reducible apply M.lS | with_reducible apply M.lN | with_reducible apply M.o_ixkt3 | with_reducible apply M.lR | with_reducible apply M.lM | with_reducible apply M.o_ixkt4 | with_reducible apply M.o_ixlst5 | with_reducible apply M.o_ixtup5 | with_reducible apply M.o_ixkt5 | with_reducible apply M.o_ixlst6 | with_reducible apply M.o_ixtup6 | with_reducible apply M.o_ixkt6 | with_reducible apply M.o_ixlst7 | with_reducible apply M.o_ixtup7 | with_reducible apply M.o_ixkt7)
    | ((first | with_reducible apply M.k_opSub | with_reducible apply M.k_opEq | with_reducible apply M.k_opNe | with_reducible apply M.k_opLt | with_reducible apply M.k_opLe | with_reducible apply M.k_opGt | with_reducible apply M.k_opGe | with_reducible apply M.oN | with_reducible apply M.k_opRev | with_reducible apply M.rO | with_reducible apply M.k_bAbs | with_reducible apply M.k_bMax2 | with_reducible apply M.k_bMin2 | with_reducible apply M.k_bMaxL | with_reducible apply M.k_bMinL | with_reducible apply M.k_bSum | with_reducible apply M.k_bAll | with_reducible apply M.k_bAny | with_reducible apply M.k_bTuple | with_reducible apply M.k_bBool | with_reducible apply M.oO | with_reducible apply M.k_opFld); refine wpR.eq rfl ?_)
    | ((with_reducible apply M.t_newL3); (· exact rfl))
    | with_reducible apply M.t_newD3
    | ((with_reducible apply M.t_newL2); (· exact rfl))
    | with_reducible apply M.t_newD2
    | ((with_reducible apply M.j4); (· exact rfl))
    | with_reducible apply M.n5
    | ((with_reducible apply M.mR); (· exact rfl))
    | with_reducible apply M.mS
    | ((with_reducible apply M.qp); (· first | exact rfl | assumption); (· first | omega | (simp only [List.length_map, List.length_append, List.length_cons, List.length_nil]; omega)))
    | ((with_reducible apply M.t_app2); (· first | exact rfl | assumption); (· first | omega | (simp only [List.length_map, List.length_append, List.length_cons, List.length_nil]; omega)))
    | ((with_reducible apply M.t_app3); (· first | exact rfl | assumption); (· first | omega | (simp only [List.length_map, List.length_append, List.length_cons, List.length_nil]; omega)))
    | ((with_reducible apply M.jA); (· first | exact rfl | assumption); (· first | omega | (simp only [List.length_map, List.length_append, List.length_cons, List.length_nil]; omega)))
    | ((with_reducible apply M.pR); (· exact rfl))
    | ((with_reducible apply M.eY); (· exact rfl))
    | ((with_reducible apply M.jX); (· exact rfl))
    | with_reducible apply M.nU)
  | ((with_reducible apply M.kS); first
    | with_reducible apply M.jD
    | with_reducible apply M.s_asg
    | with_reducible apply M.s_ret
    | with_reducible apply M.qR
    | with_reducible apply M.s_drop
    | with_reducible apply M.s_retN
    | with_reducible apply M.s_brk
    | with_reducible apply M.s_cnt
    | with_reducible apply M.qQ
    | with_reducible apply M.s_fld
    | with_reducible apply M.s_par
    | with_reducible apply M.s_for
    | with_reducible apply M.s_asgT
    | with_reducible apply M.s_asgX
    | with_reducible apply M.st_n
    | with_reducible apply M.st_s
    | with_reducible apply M.st_nil)
  | ((with_reducible apply M.kA); first
    | with_reducible apply M.pY
    | with_reducible apply M.u7)
  | ((with_reducible apply M.kT); first
    | with_reducible apply M.w_B
    | with_reducible apply M.w_asB
    | with_reducible apply M.u2
    | with_reducible apply M.p6
    | with_reducible apply M.u4
    | with_reducible apply M.pU
    | with_reducible apply M.uX
    | ((with_reducible apply M.u5); (· exact rfl)))
  | ((with_reducible apply M.kO); first
    | with_reducible apply M.u6
    | with_reducible apply M.w_P
    | with_reducible apply M.p4
    | with_reducible apply M.w_asPn)
  | ((with_reducible apply M.kPp); first
    | with_reducible apply M.nV
    | with_reducible apply M.pS)
  | ((with_reducible apply M.kW); first
    | with_reducible apply M.w_wk
    | with_reducible apply M.u3
    | with_reducible apply M.pW)
  | with_reducible apply M.pC
  | with_reducible apply M.pD
  | with_reducible apply M.if_nt
  | with_reducible apply M.if_nf
  | ((with_reducible apply M.kPnx); (with_reducible refine M.p_nx ?_))
  | ((with_reducible apply M.kPrt); (with_reducible refine M.p_rt ?_))
  | ((with_reducible apply M.kPbk); (with_reducible refine M.p_bk ?_))
  | ((with_reducible apply M.kPct); (with_reducible refine M.p_ct ?_))
  | with_reducible apply M.qi
  | with_reducible apply M.qg
  | ((with_reducible apply M.qj); (· exact rfl); (· first | exact rfl | assumption); (· first | omega | (simp only [List.length_map, List.length_append, List.length_cons, List.length_nil]; omega)))
  | with_reducible apply M.t_tyL2
  | ((with_reducible apply M.t_put2); (· exact rfl); (· first | exact rfl | assumption); (· first | omega | (simp only [List.length_map, List.length_append, List.length_cons, List.length_nil]; omega)))
  | with_reducible apply M.t_tyL3
  | ((with_reducible apply M.t_put3); (· exact rfl); (· first | exact rfl | assumption); (· first | omega | (simp only [List.length_map, List.length_append, List.length_cons, List.length_nil]; omega)))
  | with_reducible apply M.t_tyL
  | ((with_reducible apply M.qk); (· exact rfl); (· first | exact rfl | assumption); (· first | omega | (simp only [List.length_map, List.length_append, List.length_cons, List.length_nil]; omega)))
  | with_reducible apply M.qh
  | with_reducible apply M.w_bl
  | with_reducible apply M.w_xy
  | ((with_reducible apply M.rL); (· exact rfl))
  | with_reducible apply M.pM
  | ((with_reducible apply M.rK); (· exact rfl))
  | ((with_reducible apply M.k_wkE); (· exact rfl))
  | ((with_reducible apply M.k_tgT); (· exact rfl))
  | ((with_reducible apply M.k_tgN); (· exact rfl))
  | ((with_reducible apply M.k_rdT); (· exact rfl))
  | ((with_reducible apply M.k_tgL); (· exact rfl))
  | ((with_reducible apply M.rN); (· exact rfl))
  | ((with_reducible apply M.rM); (· exact Nat.le_of_ble_eq_true rfl))
  | ((with_reducible apply M.uY); (· first | omega | (simp only [List.length_map, List.length_append, List.length_cons, List.length_nil]; omega)))
  | ((with_reducible apply M.pQ); (· omega))
  | ((with_reducible apply M.k_le); (· exact Nat.le_of_ble_eq_true rfl))))
section
variable{QV:Val->Hh->Prop}{cs:List Int}{s l many:Int}{g:Nat->List (Option Cel)}{L:List Cel}{n:Nat}
abbrev cel(cs:List Int):Val:=.lst (cs.map .int)
theorem uN(q:∀ cs',cs'≠[]->QV (cel cs') (hT (cel cs) s l g L)){δ : Sl}(h0:δ[0]?=some (some T0)):wpR (uD (m2 aq (ai 0) (mK (.str "cells"))) (bb .dat (ae (mK (.int 0)) av)) δ (hT (cel cs) s l g L)) QV:=by
 refine w_orV (w_2 (w_var h0 (w_K (mT ⟨_,rfl,?_⟩))));refine ite_b (fun hc=>q cs (by rintro rfl; cases hc)) (fun _=>?_);walk_at"w";exact q [0] (by simp)
abbrev primes:List Val:=[.int 2147483647,.int 2147483629,.int 2147483587,.int 2147483579,.int 2147483563,.int 2147483549,.int 2147483543]
theorem lD{i:Int}{h:Hh}(q:∀ p,0 < p->p < 2147483648->QV (.int p) h)(h0:0<=i)(h1:i < 7):wpR (aq h (.lst primes) (.int i)) QV:=by
 refine eS h0 h1 fun v hv _=>?_
 simp only [List.mem_cons,List.not_mem_nil,or_false] at hv
 rcases hv with rfl | rfl | rfl | rfl | rfl | rfl | rfl <;> exact q _ (by decide) (by decide)
theorem cel_at{i:Int}{h:Hh}(q:∀ x,QV (.int x) h)(h0:0<=i)(h1:i < cs.length):wpR (aq h (cel cs) (.int i)) QV:=by
 refine eS h0 (by simpa using h1) fun v hv _=>?_;obtain⟨x,_,rfl⟩:=List.mem_map.mp hv;exact q x
theorem bD(hs0:0<=s)(hs:s < 1000000000000)(hm:0 < many)(hM:many<=1000000)(q:∀ r s' l',0<=r->r < many->s<=s'->s'<=s + 1->QV (.int r) (hT (cel cs) s' l' g L)):wpR (ar tab (n + 1) 1 [T0,.int many] (hT (cel cs) s l g L)) QV:=by
 refine kJ ?_;unfold c7;walk_at"w";refine iA (fun hl=>?_) (fun hl=>?_)
 .walk_at"w";exact q _ _ _ (Int.emod_nonneg _ (by omega)) (Int.emod_lt_of_pos _ hm) (by omega) (by omega)
 walk_at"w";refine uN (fun cs' hc=>?_) rfl;have hn:0 < (cs'.length:Int):=by have:=List.length_pos_iff.mpr hc; omega
 walk_at"w";refine cel_at (fun x=>?_) (by simp only [List.length_map]; exact Int.emod_nonneg _ (by omega)) (by simp only [List.length_map]; exact Int.emod_lt_of_pos _ hn);walk_at"v";refine s_keep (s_if ?_) ?_
 .walk_at"w";refine iA (fun hx=>?_) (fun hx=>?_)
  .walk_at"w";refine iA (fun hx=>?_) (fun hx=>?_)
   .walk_at"w";exact q _ _ _ (Int.emod_nonneg _ (by omega)) (Int.emod_lt_of_pos _ hm) (by omega) (by omega)
   .walk_at"w";exact⟨rfl,rfl⟩
  .walk_at"w";exact⟨rfl,rfl⟩
 walk_at"w";refine lD (fun p p0 p1=>?_) (by omega) (by omega);walk_at"w";generalize x % p * 48271 + 7919 * s * s + 69621 * s + 1=z;have z0:=Int.emod_nonneg z (b:=p) (by omega);have z1:=Int.emod_lt_of_pos z p0;generalize z % p=r at *;walk_at"w";refine lD (fun p2 p20 p21=>?_) (by omega) (by omega);walk_at"w";generalize r * (r + 16807)=z;have z0:=Int.emod_nonneg z (b:=p2) (by omega);have z1:=Int.emod_lt_of_pos z p20;generalize z % p2=r at *;walk_at"w";refine iA (fun hx=>absurd hx (by omega)) (fun hx=>?_);walk_at"w";exact q _ _ _ (Int.emod_nonneg _ (by omega)) (Int.emod_lt_of_pos _ hm) (by omega) (by omega)
end
section
variable{QV:Val->Hh->Prop}{c0:Val}{s l:Int}{g:GG}{L:List Cel}{n:Nat}{z:Str}{h:Hh}
theorem rD{c:Nat}{y:Str}(q:QV (.bl (decide (c∈y.cps.toList))) h):wpR (gF h (.str (chS c)) (.str y)) QV:=wpR.eq (rfl:gF h (.str (chS c)) (.str y)=Res.ok (Val.bl (decide (c∈y.cps.toList))) h) q
theorem oI{α : Type}{f:α->Bool}{ts:List α}(q:QV (.bl ((ts.map f).all id)) h):wpR (nK h [.lst (ts.map fun t=>Val.bl (f t))]) QV:=by
 have hb:∀ ts:List α,nJ (ts.map fun t=>Val.bl (f t))=some (ts.map f):=fun ts=>by
  induction ts with
  | nil=>rfl
  | cons t ts ih=>rw [List.map_cons,List.map_cons]; unfold nJ; rw [ih]; rfl
 have e:nK h [.lst (ts.map fun t=>Val.bl (f t))] = .ok (.bl ((ts.map f).all id)) h:=by
  unfold nK ic;show(match nJ (ts.map fun t=>Val.bl (f t)) with | some ns=>_ | none=>_)=_;rw [hb]
 rw [e]; exact⟨q⟩
theorem kr(hz:z.length<=1000000)(q:QV (.int (z.length:Nat)) h):wpR (dh h [.str z]) QV:=by
 first
 | exact o_lenS hz q
 | (unfold dh; dsimp only; rw [if_pos hz]; exact⟨q⟩)
 | exact⟨q⟩
theorem o_ix0(hz:z.length<=1000000)(h1:0 < z.cps.toList.length)(q:QV (.str (chS (z.cps.toList.headD 0))) h):wpR (aq h (.str z) (.int 0)) QV:=by
 have e0:atI z.cps.toList 0=some (z.cps.toList.headD 0):=by
  cases hz:z.cps.toList with
  | nil=>rw [hz] at h1; exact absurd h1 (by decide)
  | cons a b =>
   unfold atI ixN;rw [if_pos (by decide)]
   first
   | rfl
   | (rw [if_pos (by simp)]; rfl)
 refine wpR.eq (?_:_=Res.ok (Val.str (chS (z.cps.toList.headD 0))) h) q;show(if z.length<=1000000 then(match atI z.cps.toList 0 with | some c=>Res.ok (Val.str ⟨#[c]⟩) h | none=>.err) else .err)=_;rw [if_pos hz,e0]
theorem nr{n:Int}(e:PySem.intText? z=some n)(hl:z.length<=640)(q:QV (.int n) h):wpR (hZ h [.str z]) QV:=by
 have e2:hZ h [.str z] = .ok (.int n) h:=by
  unfold hZ;dsimp only;rw [e];dsimp only;rw [if_pos hl]
 rw [e2]; exact⟨q⟩
theorem cF(hz:z.length<=100000)(q:QV (onI (aG z)) (hT c0 s l g L)):wpR (ar tab (n + 1) 12 [.str z] (hT c0 s l g L)) QV:=by
 refine kG ?_;unfold c4;refine jD ?_;refine s_asg ?_;refine jY (fun v h=>v = .str (bo z)/\h=hT c0 s l g L) ?_ ?_
 .refine kX (b:=decide (cutS z none (some 1)=("-" : Str))) ?_ (fun e=>?_) (fun e=>?_)
  .walk_at"v";refine gW (by omega) ?_;walk_at"v";exact⟨rfl,rfl⟩
  .walk_at"v";refine gW (by omega) ?_;unfold bo;rw [if_pos e];exact⟨rfl,rfl⟩
  .walk_at"v";unfold bo;rw [if_neg (by rw [e]; decide)];exact⟨rfl,rfl⟩
 rintro _ _ ⟨rfl,rfl⟩;have hfl:(bo z).length<=100000:=by
  exact Nat.le_trans mx hz
 walk_at"v";unfold aG at q;refine el (b:=hY z) ?_ (fun e=>?_) (fun e=>?_)
 .unfold hY;walk_at"v"
  by_cases e1:bo z=("" : Str)
  .rw [if_pos (decide_eq_true e1)];exact⟨by rw [decide_eq_true e1]; rfl,rfl⟩
  .rw [if_neg (by rw [decide_eq_false e1]; decide)];walk_at"v";rw [decide_eq_false e1,Bool.false_or];refine kr (by omega) ?_;walk_at"v"
   by_cases e2:10 < (bo z).length
   .rw [if_pos (decide_eq_true (by omega))];exact⟨by rw [decide_eq_true e2]; rfl,rfl⟩
   .rw [if_neg (fun z9=>e2 (by have:=of_decide_eq_true z9; omega))];rw [decide_eq_false e2,Bool.false_or];walk_at"v";refine gQ (fun c=>Val.str (chS c)) (bo z).cps.toList (fun _=>true) (fun c=>.bl (decide (c∈FG.cps.toList))) ?_ (by rw [str_len]; omega) ?_ ?_
    .walk_at"v";exact⟨rfl,rfl⟩
    .intro c hc;refine⟨_,rfl,?_⟩;walk_at"v";refine⟨rfl,rfl,fun _=>?_⟩;walk_at"v";exact rD ⟨rfl,rfl⟩
    rw [List.filter_eq_self.mpr fun _ _=>rfl];walk_at"v";refine oI ?_;walk_at"v";exact⟨rfl,rfl⟩
 .rw [if_pos e] at q;walk_at"v";exact q
 .rw [if_neg (by rw [e]; decide)] at q;obtain⟨⟨n9,hn9⟩,hl,h0⟩:=lX e;walk_at"v";refine el (b:=gI z) ?_ (fun e=>?_) (fun e=>?_)
  .unfold gI;walk_at"v";refine o_ix0 (by omega) h0 ?_;walk_at"v"
   by_cases e1:chS ((bo z).cps.toList.headD 0)=("0" : Str)
   .rw [if_pos (decide_eq_true e1),decide_eq_true e1,Bool.true_and];walk_at"v";exact⟨rfl,rfl⟩
   .rw [if_neg (by rw [decide_eq_false e1]; decide)];exact⟨by rw [decide_eq_false e1,Bool.false_and],rfl⟩
  .rw [if_pos e] at q;walk_at"v";exact q
  .rw [if_neg (by rw [e]; decide),hn9] at q;walk_at"v";refine nr hn9 hl ?_;walk_at"v";exact q
theorem dF{lo hi:Int}(hz:z.length<=100000)(q:QV (onI ((aG z).filter fun i=>decide (lo<=i/\i<=hi))) (hT c0 s l g L)):wpR (ar tab (n + 1) 3 [.str z,.int lo,.int hi] (hT c0 s l g L)) QV:=by
 refine i6 ?_;unfold cn;refine jD ?_;refine s_asg ?_;refine jY (fun v h=>v = .str (bo z)/\h=hT c0 s l g L) ?_ ?_
 .refine kX (b:=decide (cutS z none (some 1)=("-" : Str))) ?_ (fun e=>?_) (fun e=>?_)
  .walk_at"v";refine gW (by omega) ?_;walk_at"v";exact⟨rfl,rfl⟩
  .walk_at"v";refine gW (by omega) ?_;unfold bo;rw [if_pos e];exact⟨rfl,rfl⟩
  .walk_at"v";unfold bo;rw [if_neg (by rw [e]; decide)];exact⟨rfl,rfl⟩
 rintro _ _ ⟨rfl,rfl⟩;have hfl:(bo z).length<=100000:=by
  exact Nat.le_trans mx hz
 walk_at"v";unfold aG at q;refine el (b:=hY z) ?_ (fun e=>?_) (fun e=>?_)
 .unfold hY;walk_at"v"
  by_cases e1:bo z=("" : Str)
  .rw [if_pos (decide_eq_true e1)];exact⟨by rw [decide_eq_true e1]; rfl,rfl⟩
  .rw [if_neg (by rw [decide_eq_false e1]; decide)];walk_at"v";rw [decide_eq_false e1,Bool.false_or];refine kr (by omega) ?_;walk_at"v"
   by_cases e2:10 < (bo z).length
   .rw [if_pos (decide_eq_true (by omega))];exact⟨by rw [decide_eq_true e2]; rfl,rfl⟩
   .rw [if_neg (fun z9=>e2 (by have:=of_decide_eq_true z9; omega))];rw [decide_eq_false e2,Bool.false_or];walk_at"v";refine gQ (fun c=>Val.str (chS c)) (bo z).cps.toList (fun _=>true) (fun c=>.bl (decide (c∈FG.cps.toList))) ?_ (by rw [str_len]; omega) ?_ ?_
    .walk_at"v";exact⟨rfl,rfl⟩
    .intro c hc;refine⟨_,rfl,?_⟩;walk_at"v";refine⟨rfl,rfl,fun _=>?_⟩;walk_at"v";exact rD ⟨rfl,rfl⟩
    rw [List.filter_eq_self.mpr fun _ _=>rfl];walk_at"v";refine oI ?_;walk_at"v";exact⟨rfl,rfl⟩
 .rw [if_pos e] at q;walk_at"v";exact q
 .rw [if_neg (by rw [e]; decide)] at q;obtain⟨⟨n9,hn9⟩,hl,h0⟩:=lX e;walk_at"v";refine el (b:=(gI z || !decide (lo<=n9/\n9<=hi))) ?_ (fun e=>?_) (fun e=>?_)
  .unfold gI;walk_at"v";refine o_ix0 (by omega) h0 ?_;walk_at"v";have tl:wpR (cY (mB (mCh jt jt (ai 1) (mC hZ (ae (ai 0) av)) (ai 2))) [some (.str z),some (.int lo),some (.int hi),some (.str (bo z)),none] (hT c0 s l g L)) fun c h'=>c = !decide (lo<=n9/\n9<=hi)/\h'=hT c0 s l g L:=by
    walk_at"v";refine nr hn9 hl ?_;walk_at"v"
    by_cases h1:lo<=n9
    .rw [if_pos (decide_eq_true h1)];walk_at"v"
     by_cases h2:n9<=hi
     .rw [decide_eq_true h2,decide_eq_true (show lo<=n9/\n9<=hi from⟨h1,h2⟩)];exact⟨rfl,rfl⟩
     .rw [decide_eq_false h2,decide_eq_false (fun z=>h2 z.2)];exact⟨rfl,rfl⟩
    .rw [if_neg (by rw [decide_eq_false h1]; decide),decide_eq_false (fun z=>h1 z.1)];walk_at"v";exact⟨rfl,rfl⟩
   by_cases e1:chS ((bo z).cps.toList.headD 0)=("0" : Str)
   .rw [if_pos (decide_eq_true e1),decide_eq_true e1,Bool.true_and];walk_at"v"
    by_cases e2:z=("0" : Str)
    .rw [if_neg (by rw [decide_eq_true e2]; decide),decide_eq_true e2];exact tl
    .rw [if_pos (by rw [decide_eq_false e2]; rfl),decide_eq_false e2];exact⟨rfl,rfl⟩
   .rw [if_neg (by rw [decide_eq_false e1]; decide),decide_eq_false e1,Bool.false_and,Bool.false_or];exact tl
  .have e3:((if gI z=true then none else PySem.intText? z).filter fun i=>decide (lo<=i/\i<=hi))=none:=by
    rw [hn9]
    cases hw:gI z with
    | true=>rfl
    | false =>
     rw [hw,Bool.false_or] at e;rw [if_neg (by decide)];have e:decide (lo<=n9/\n9<=hi)=false:=Bool.not_eq_true' _ |>.mp e
     show(if decide (lo<=n9/\n9<=hi)=true then some n9 else none)=none;rw [e]; rfl
   rw [e3] at q;walk_at"v";exact q
  .obtain⟨ew,er⟩:=Bool.or_eq_false_iff.mp e;have er:decide (lo<=n9/\n9<=hi)=true:=Bool.not_eq_false' _ |>.mp er
   have e3:((if gI z=true then none else PySem.intText? z).filter fun i=>decide (lo<=i/\i<=hi))=some n9:=by
    rw [hn9,ew,if_neg (by decide)];show(if decide (lo<=n9/\n9<=hi)=true then some n9 else none)=_;rw [er]; rfl
   rw [e3] at q;walk_at"v";refine nr hn9 hl ?_;walk_at"v";exact q
end
def cq:List Str:=["down","move","up","lost"]
def inB(lo hi:Int)(o:Option Int):Option Int:=o.filter fun i=>decide (lo<=i/\i<=hi)
abbrev Tq:=Int×Int×Str×Int×Int
def tqV(t:Tq):Val:=.tup [.int t.1,.int t.2.1,.str t.2.2.1,.int t.2.2.2.1,.int t.2.2.2.2]
def onT:Option Tq->Val
 | some t=>tqV t
 | none=>.non
def mQ:List Str->Option Tq
 | [a,b,w,c,d]=>if decide (w∈cq)=true then(match inB 0 1000000000 (aG a),inB 0 9 (aG b),inB (-10000) 10000 (aG c),inB (-10000) 10000 (aG d) with
  | some x,some f,some y,some z=>some (x,f,w,y,z)
  | _,_,_,_=>none) else none
 | _=>none
def cI(row:Str):Option Tq:=mQ (Txt.split row " ")
section
variable{QV:Val->Hh->Prop}{c0:Val}{s l:Int}{g:GG}{L:List Cel}{n:Nat}{h:Hh}
theorem cZ{o:Option Int}{lo hi:Int}(q:QV (.bl (inB lo hi o).isSome) (hT c0 s l g L)):wpR (ar tab (n + 1) 9 [onI o,.int lo,.int hi] (hT c0 s l g L)) QV:=by
 refine mr ?_;unfold dJ
 cases o with
 | none =>
  unfold onI;walk_at"v";exact q
 | some i =>
  unfold onI;have e:(inB lo hi (some i)).isSome=decide (lo<=i/\i<=hi):=by
   unfold inB;show(if decide (lo<=i/\i<=hi)=true then some i else none).isSome=_
   split <;> rename_i h9
   .exact h9.symm
   .exact(Bool.not_eq_true _ |>.mp h9).symm
  rw [e] at q;walk_at"v"
  by_cases h1:lo<=i
  .rw [if_pos (decide_eq_true h1)];walk_at"v"
   by_cases h2:i<=hi
   .rw [decide_eq_true h2];rw [decide_eq_true (show lo<=i/\i<=hi from⟨h1,h2⟩)] at q;exact q
   .rw [decide_eq_false h2];rw [decide_eq_false (fun z=>h2 z.2)] at q;exact q
  .rw [if_neg (by rw [decide_eq_false h1]; decide)];rw [decide_eq_false (fun z=>h1 z.1)] at q;walk_at"v";exact q
theorem mj{A B C D:Option Int}{w:Str}(q:QV (.bl ((inB 0 1000000000 A).isSome && ((inB 0 9 B).isSome && (decide (w∈cq) && ((inB (-10000) 10000 C).isSome && (inB (-10000) 10000 D).isSome))))) (hT c0 s l g L)):wpR (ar tab (n + 3) 11 [.tup [onI A,onI B,.str w,onI C,onI D]] (hT c0 s l g L)) QV:=by
 refine mv ?_;unfold dM;walk_at"v";refine fL (by walk_at"v"; exact⟨rfl,rfl⟩) ?_;walk_at"v";refine el (b:=!((inB 0 1000000000 A).isSome && (inB 0 9 B).isSome)) ?_ (fun e=>?_) (fun e=>?_)
 .walk_at"v";refine kH ?_;unfold c5;walk_at"v";refine cZ ?_;walk_at"v"
  cases (inB 0 1000000000 A).isSome with
  | false =>
   walk_at"v";exact⟨rfl,rfl⟩
  | true =>
   walk_at"v";refine cZ ?_;walk_at"v";exact⟨rfl,rfl⟩
 .have e2:((inB 0 1000000000 A).isSome && ((inB 0 9 B).isSome && (decide (w∈cq) && ((inB (-10000) 10000 C).isSome && (inB (-10000) 10000 D).isSome))))=false:=by
   have e:=Bool.not_eq_true' _ |>.mp e
   rw [<- Bool.and_assoc,e,Bool.false_and]
  rw [e2] at q;walk_at"v";exact q
 .have e:=Bool.not_eq_false' _ |>.mp e
  rw [<- Bool.and_assoc,e,Bool.true_and] at q;walk_at"v";refine el (b:=!decide (w∈cq)) ?_ (fun e=>?_) (fun e=>?_)
  .walk_at"v";refine rB cq rfl (.inr (.inr rfl)) ?_;walk_at"v";exact⟨rfl,rfl⟩
  .have e:=Bool.not_eq_true' _ |>.mp e
   rw [e,Bool.false_and] at q;walk_at"v";exact q
  .have e:=Bool.not_eq_false' _ |>.mp e
   rw [e,Bool.true_and] at q;walk_at"v";rw [show(0:Int) - 10000 = -10000 from rfl];refine cZ ?_;walk_at"v"
   cases hC:(inB (-10000) 10000 C).isSome with
   | false =>
    rw [hC,Bool.false_and] at q;walk_at"v";exact q
   | true =>
    rw [hC,Bool.true_and] at q;walk_at"v";rw [show(0:Int) - 10000 = -10000 from rfl];refine cZ ?_;walk_at"v";exact q
theorem fV:∀ {parts:List Str} {y p:Str},p∈parts->p.length<=(Str.join y parts).length
 | [],_,_,h=>by cases h
 | [a],y,p,h=>by
  rw [List.mem_singleton.mp h];exact Nat.le_refl _
 | a :: b :: ps,y,p,h=>by
  have e:Str.join y (a :: b :: ps)=a ++ y ++ Str.join y (b :: ps):=rfl;have hl:(a ++ y ++ Str.join y (b :: ps)).length=a.length + y.length + (Str.join y (b :: ps)).length:=by
   rw [TL.len_tl,TL.tl_append,TL.tl_append,List.length_append,List.length_append,<- TL.len_tl,<- TL.len_tl,<- TL.len_tl]
  rw [e,hl];rcases List.mem_cons.mp h with rfl | h
  .omega
  .have:=fV (y:=y) h;omega
theorem split_len{z y p:Str}(h:p∈Txt.split z y):p.length<=z.length:=by
 have e:=fV (y:=y) h;rw [PySem.StrLaws.join_split] at e;exact e
theorem dX{row:Str}(hr:row.length<=90000)(q:QV (onT (cI row)) (hT c0 s l g L)):wpR (ar tab (n + 4) 13 [.str row] (hT c0 s l g L)) QV:=by
 refine mq ?_;unfold dI;walk_at"v";refine⟨rfl,?_⟩;walk_at"v";refine eJ (a:=row) (b:=" ") (by decide +kernel) (by omega) ?_;unfold cI at q;have hls:∀ p∈Txt.split row " ",p.length<=100000:=fun p hp=>by have:=split_len hp; omega
 generalize Txt.split row " " = ws at *;walk_at"v"
 by_cases h5:ws.length=5
 .obtain⟨a,b,w,c,d,rfl⟩:∃ a b w c d,ws=[a,b,w,c,d]:=by
   match ws,h5 with
   | [a,b,w,c,d],_=>exact⟨a,b,w,c,d,rfl⟩
  rw [show([a,b,w,c,d].map Val.str)=[Val.str a,.str b,.str w,.str c,.str d] from rfl];refine fL (by walk_at"v"; exact⟨rfl,rfl⟩) ?_;walk_at"v";refine cF (hls a (by simp)) ?_;walk_at"v";refine cF (hls b (by simp)) ?_;walk_at"v";refine cF (hls c (by simp)) ?_;walk_at"v";refine cF (hls d (by simp)) ?_;walk_at"v";refine w_if ?_;walk_at"v";refine mj ?_;walk_at"v";have inB_v:∀ {lo hi:Int} {o:Option Int} {x:Int},inB lo hi o=some x->o=some x:=fun {lo hi o x} h=>(Option.filter_eq_some_iff.mp h).1;have eT:mQ [a,b,w,c,d]=(if decide (w∈cq)=true then(match inB 0 1000000000 (aG a),inB 0 9 (aG b),inB (-10000) 10000 (aG c),inB (-10000) 10000 (aG d) with
   | some x,some f,some y,some z=>some (x,f,w,y,z)
   | _,_,_,_=>none) else none):=rfl
  rw [eT] at q
  by_cases hw:w∈cq
  .rw [decide_eq_true hw] at q ⊢;rw [if_pos rfl] at q
   cases hA:inB 0 1000000000 (aG a) with
   | none=>rw [hA] at q; rw [if_neg (by simp)]; walk_at"v"; exact q
   | some x =>
    cases hB:inB 0 9 (aG b) with
    | none=>rw [hA,hB] at q; rw [if_neg (by simp)]; walk_at"v"; exact q
    | some f =>
     cases hC:inB (-10000) 10000 (aG c) with
     | none=>rw [hA,hB,hC] at q; rw [if_neg (by simp)]; walk_at"v"; exact q
     | some y =>
      cases hD:inB (-10000) 10000 (aG d) with
      | none=>rw [hA,hB,hC,hD] at q; rw [if_neg (by simp)]; walk_at"v"; exact q
      | some z =>
       rw [hA,hB,hC,hD] at q;rw [inB_v hA,inB_v hB,inB_v hC,inB_v hD,if_pos (by rfl)];walk_at"v"
       first
       | exact eY rfl q
       | exact q
  .rw [decide_eq_false hw] at q ⊢;rw [if_neg (by decide)] at q;rw [if_neg (by simp)];walk_at"v";exact q
 .refine lx ?_ ?_
  .walk_at"v";rw [List.length_map];refine⟨?_,rfl⟩;have:¬ ((ws.length:Int)=5):=by omega
   simp [this]
  have e:mQ ws=none:=by
   match ws,h5 with
   | [],_=>rfl
   | [_],_=>rfl
   | [_,_],_=>rfl
   | [_,_,_],_=>rfl
   | [_,_,_,_],_=>rfl
   | [_,_,_,_,_],h=>exact absurd rfl h
   | _ :: _ :: _ :: _ :: _ :: _ :: _,_=>rfl
  rw [e] at q;walk_at"v";exact q
end
section
variable{QV:Val->Hh->Prop}{c0:Val}{s l:Int}{g:GG}{L:List Cel}{n:Nat}{h:Hh}
theorem um{A B C D:Option Int}(q:QV (.bl (!(A.isSome && (B.isSome && (C.isSome && D.isSome))))) h):wpR (gF h .non (.lst [onI A,onI B,onI C,onI D])) QV:=by
 cases A <;> cases B <;> cases C <;> cases D <;> exact⟨q⟩
theorem kB{row:Str}(hr:row.length<=90000)(q:QV (onT (cI row)) (hT c0 s l g L)):wpR (ar tab (n + 3) 4 [.str row] (hT c0 s l g L)) QV:=by
 refine gJ ?_;unfold bH;walk_at"v";refine⟨rfl,?_⟩;walk_at"v";refine eJ (a:=row) (b:=" ") (by decide +kernel) (by omega) ?_;unfold cI at q;have hls:∀ p∈Txt.split row " ",p.length<=100000:=fun p hp=>by have:=split_len hp; omega
 generalize Txt.split row " " = ws at *;walk_at"v"
 by_cases h5:ws.length=5
 .obtain⟨a,b,w,c,d,rfl⟩:∃ a b w c d,ws=[a,b,w,c,d]:=by
   match ws,h5 with
   | [a,b,w,c,d],_=>exact⟨a,b,w,c,d,rfl⟩
  rw [show([a,b,w,c,d].map Val.str)=[Val.str a,.str b,.str w,.str c,.str d] from rfl];have eT:mQ [a,b,w,c,d]=(if decide (w∈cq)=true then(match inB 0 1000000000 (aG a),inB 0 9 (aG b),inB (-10000) 10000 (aG c),inB (-10000) 10000 (aG d) with
   | some x,some f,some y,some z=>some (x,f,w,y,z)
   | _,_,_,_=>none) else none):=rfl
  rw [eT] at q;refine el (b:=!decide (w∈cq)) ?_ (fun e=>?_) (fun e=>?_)
  .walk_at"v";rw [if_neg (by simp)];walk_at"v";refine rB cq rfl (.inr (.inl rfl)) ?_;walk_at"v";exact⟨rfl,rfl⟩
  .have e:=Bool.not_eq_true' _ |>.mp e
   rw [if_neg (by rw [e]; decide)] at q;walk_at"v";exact q
  have e:=Bool.not_eq_false' _ |>.mp e
  rw [if_pos e] at q;walk_at"v";refine dF (hls a (by simp)) ?_;walk_at"v";refine dF (hls b (by simp)) ?_;walk_at"v";refine dF (hls c (by simp)) ?_;walk_at"v";refine dF (hls d (by simp)) ?_;walk_at"v";refine el (b:=!((inB 0 1000000000 (aG a)).isSome && ((inB 0 9 (aG b)).isSome && ((inB (-10000) 10000 (aG c)).isSome && (inB (-10000) 10000 (aG d)).isSome)))) ?_ (fun e=>?_) (fun e=>?_)
  .walk_at"v";refine um ?_;walk_at"v";exact⟨rfl,rfl⟩
  .have e:=Bool.not_eq_true' _ |>.mp e
   have e9:(match inB 0 1000000000 (aG a),inB 0 9 (aG b),inB (-10000) 10000 (aG c),inB (-10000) 10000 (aG d) with
    | some x,some f,some y,some z=>some (x,f,w,y,z)
    | _,_,_,_=>(none:Option Tq))=none:=by
    cases hA:inB 0 1000000000 (aG a) with
    | none=>rfl
    | some x =>
     cases hB:inB 0 9 (aG b) with
     | none=>rfl
     | some f =>
      cases hC:inB (-10000) 10000 (aG c) with
      | none=>rfl
      | some y =>
       cases hD:inB (-10000) 10000 (aG d) with
       | none=>rfl
       | some z=>rw [hA,hB,hC,hD] at e; cases e
   rw [e9] at q;walk_at"v";exact q
  .have e:=Bool.not_eq_false' _ |>.mp e
   obtain⟨e1,e⟩:=Bool.and_eq_true_iff.mp e;obtain⟨e2,e⟩:=Bool.and_eq_true_iff.mp e;obtain⟨e3,e4⟩:=Bool.and_eq_true_iff.mp e;obtain⟨x,hA⟩:=Option.isSome_iff_exists.mp e1;obtain⟨f,hB⟩:=Option.isSome_iff_exists.mp e2;obtain⟨y,hC⟩:=Option.isSome_iff_exists.mp e3;obtain⟨z,hD⟩:=Option.isSome_iff_exists.mp e4;rw [hA,hB,hC,hD] at q;have gA:(aG a).filter (fun i=>decide (0<=i/\i<=1000000000))=some x:=hA;have gB:(aG b).filter (fun i=>decide (0<=i/\i<=9))=some f:=hB;have gC:(aG c).filter (fun i=>decide (-10000<=i/\i<=10000))=some y:=hC;have gD:(aG d).filter (fun i=>decide (-10000<=i/\i<=10000))=some z:=hD;rw [gA,gB,gC,gD];rw [show([onI (some x),onI (some f)] ++ [onI (some y),onI (some z)])=[Val.int x,.int f,.int y,.int z] from rfl];walk_at"v"
   first
   | exact eY rfl q
   | exact q
 .refine lx ?_ ?_
  .walk_at"v";rw [List.length_map,if_pos (by have h59:¬ ((ws.length:Int)=5):=(by omega); simp [h59])];exact⟨rfl,rfl⟩
  have e:mQ ws=none:=by
   match ws,h5 with
   | [],_=>rfl
   | [_],_=>rfl
   | [_,_],_=>rfl
   | [_,_,_],_=>rfl
   | [_,_,_,_],_=>rfl
   | [_,_,_,_,_],h=>exact absurd rfl h
   | _ :: _ :: _ :: _ :: _ :: _ :: _,_=>rfl
  rw [e] at q;walk_at"v";exact q
end
def rowsOf(z:Str):List Str:=if decide (z=("" : Str))=true then [] else Txt.split z "\n"
def RdN(rows:List Str):Option Nat->Prop
 | some j=>∃ r,rows[j]?=some r/\cI r=none/\∀ i r',i < j->rows[i]?=some r'->(cI r').isSome=true
 | none=>∀ r∈rows,(cI r).isSome=true
theorem qU:∀ rows:List Str,∃ o,RdN rows o
 | []=>⟨none,fun r h=>by cases h⟩
 | r :: rs=>by
  cases hr:cI r with
  | none=>exact⟨some 0,r,rfl,hr,fun i _ h=>absurd h (by omega)⟩
  | some t =>
   obtain⟨o,ho⟩:=qU rs
   cases o with
   | none=>exact⟨none,fun x hx=>(List.mem_cons.mp hx).elim (fun z=>by rw [z,hr]; rfl) (ho x)⟩
   | some j =>
    obtain⟨y,h1,h2,h3⟩:=ho;refine⟨some (j + 1),y,by simpa using h1,h2,fun i x hi hx=>?_⟩
    cases i with
    | zero =>
     have:r=x:=by simpa using hx
     rw [<- this,hr]; rfl
    | succ i=>exact h3 i x (by omega) (by simpa using hx)
def rdV(rows:List Str):List Val:=rows.map fun r=>onT (cI r)
theorem onT_nl{o:Option Tq}:(onT o).nl=true:=by cases o <;> rfl
section
variable{QV:Val->Hh->Prop}{c0:Val}{s l:Int}{g:GG}{L:List Cel}{n:Nat}{h:Hh}
theorem iN{z:Str}(hz:z.length<=90000):∀ r∈rowsOf z,r.length<=90000:=fun r hr=>by
 unfold rowsOf at hr
 split at hr
 .cases hr
 .have:=split_len hr; omega
theorem iO{z:Str}(hz:z.length<=90000)(q:QV (.lst ((rowsOf z).map .str)) (hT c0 s l g L)):wpR (ar tab (n + 1) 8 [.str z] (hT c0 s l g L)) QV:=by
 refine nB ?_;unfold cH;refine jD ?_;refine fL (by walk_at"v"; exact⟨rfl,rfl⟩) ?_;walk_at"v";unfold rowsOf at q
 by_cases e:z=("" : Str)
 .rw [if_pos (decide_eq_true e)] at q;refine w_ifN (by walk_at"v"; exact⟨by rw [decide_eq_true e]; rfl,rfl⟩) ?_;walk_at"v";exact q
 .rw [if_neg (by rw [decide_eq_false e]; decide)] at q;refine nW (by walk_at"v"; exact⟨by rw [decide_eq_false e]; rfl,rfl⟩) ?_;walk_at"v";refine⟨rfl,?_⟩;walk_at"v";refine eJ (a:=z) (b:="\n") (by decide +kernel) (by omega) ?_;exact eY (iw fun _=>rfl) q
theorem tT{z:Str}(hz:z.length<=90000)(hl:(rowsOf z).length<=100000)(ho:RdN (rowsOf z) none)(q:QV (.lst (rdV (rowsOf z))) (hT c0 s l g L)):wpR (ar tab (n + 5) 14 [.str z] (hT c0 s l g L)) QV:=by
 have hrl:=iN hz;refine hQ ?_;unfold aP;walk_at"v";refine iO hz ?_;walk_at"v";refine loopE (ts:=rowsOf z) (tv:=Val.str) (fun i δ h=>∃ (o2 o3 o4:Option Val),δ = [some (.str z),some (.ref (.loc L.length)),o2,o3,o4]/\h=hT c0 s l g (L ++ [.lst (rdV ((rowsOf z).take i))])) ?_ ?_ ?_
 .exact⟨_,_,_,rfl,rfl⟩
 .rintro i δ h r hr ⟨o2,o3,o4,rfl,rfl⟩;have hi:i < (rowsOf z).length:=(List.getElem?_eq_some_iff.mp hr).1;have hrm:=List.mem_of_getElem? hr;obtain⟨t,ht⟩:=Option.isSome_iff_exists.mp (ho r hrm);refine⟨_,rfl,?_⟩;walk_at"v";refine dX (hrl r hrm) ?_;rw [ht];have eo:onT (some t) = .tup [.int t.1,.int t.2.1,.str t.2.2.1,.int t.2.2.2.1,.int t.2.2.2.2]:=rfl;rw [eo];walk_at"v";refine fL (by walk_at"v"; exact⟨rfl,rfl⟩) ?_;walk_at"v";refine jA (M:=[]) rfl (by unfold rdV; rw [List.length_map,List.length_take]; omega) ?_;walk_at"v";have et:(rowsOf z).take (i + 1)=(rowsOf z).take i ++ [r]:=by rw [List.take_succ,hr]; rfl
  refine⟨_,_,_,rfl,?_⟩;rw [et];unfold rdV;rw [List.map_append,List.map_cons,ht]
  rfl
 .rintro δ h ⟨o2,o3,o4,rfl,rfl⟩;rw [List.take_length];walk_at"v";exact q
theorem read_x{z:Str}{j:Nat}(hz:z.length<=90000)(hl:(rowsOf z).length<=100000)(ho:RdN (rowsOf z) (some j)):xpR (ar tab (n + 5) 14 [.str z] (hT c0 s l g L)) fun k fs h1=>k=10/\fs=[(63,.int (j:Nat))]/\h1=hT c0 s l g L:=by
 have hrl:=iN hz;obtain⟨r9,hr9,hn9,hlt9⟩:=ho;have hj:j < (rowsOf z).length:=(List.getElem?_eq_some_iff.mp hr9).1;refine x_fn bx rfl ?_;show xpS (aP (ar tab (n + 4)) [some (.str z),none,none,none,none] (hT c0 s l g L)) _;unfold aP;refine pK ?_;walk_at"v";refine jV ?_;refine x_for (j:=j) ?_;walk_at"v";refine iO hz ?_;walk_at"v";refine⟨fun i δ h=>∃ (o2 o3 o4:Option Val),δ = [some (.str z),some (.ref (.loc L.length)),o2,o3,o4]/\h=hT c0 s l g (L ++ [.lst (rdV ((rowsOf z).take i))]),⟨_,_,_,rfl,rfl⟩,by rw [List.length_map]; exact hj,?_,?_⟩
 .rintro i δ h hi ⟨o2,o3,o4,rfl,rfl⟩;have hil:i < (rowsOf z).length:=by omega
  have hr:(rowsOf z)[i]?=some (rowsOf z)[i]:=List.getElem?_eq_getElem hil;generalize (rowsOf z)[i]=r at hr;have hrm:=List.mem_of_getElem? hr;obtain⟨t,ht⟩:=Option.isSome_iff_exists.mp (hlt9 i r hi hr);refine⟨.tup [.int (i:Nat),.str r],_,?_,rfl,?_⟩
  .simp [itE,itD,hr]
  walk_at"v";refine dX (hrl r hrm) ?_;rw [ht];have eo:onT (some t) = .tup [.int t.1,.int t.2.1,.str t.2.2.1,.int t.2.2.2.1,.int t.2.2.2.2]:=rfl;rw [eo];walk_at"v";refine fL (by walk_at"v"; exact⟨rfl,rfl⟩) ?_;walk_at"v";refine jA (M:=[]) rfl (by unfold rdV; rw [List.length_map,List.length_take]; omega) ?_;walk_at"v";have et:(rowsOf z).take (i + 1)=(rowsOf z).take i ++ [r]:=by rw [List.take_succ,hr]; rfl
  refine⟨_,_,_,rfl,?_⟩;rw [et];unfold rdV;rw [List.map_append,List.map_cons,ht]
  rfl
 .rintro δ h ⟨o2,o3,o4,rfl,rfl⟩;have hrm:=List.mem_of_getElem? hr9;refine⟨.tup [.int (j:Nat),.str r9],_,?_,rfl,?_⟩
  .simp [itE,itD,hr9]
  refine pK ?_;walk_at"v";refine dX (hrl r9 hrm) ?_;rw [hn9];have eo:onT none = .non:=rfl;rw [eo];walk_at"v";refine jV ?_;refine x_if ?_;walk_at"v";refine kR ?_;walk_at"v";exact⟨_,rfl,rfl,rfl,rfl,iB⟩
end
def uM(rows:List Str):Option Nat->Val
 | some j=>.tup [.int (j:Nat)]
 | none=>.lst (rdV rows)
section
variable{QV:Val->Hh->Prop}{c0:Val}{s l:Int}{g:GG}{L:List Cel}{n:Nat}{h:Hh}
theorem rdV_nl{rows:List Str}:Val.nls (rdV rows)=true:=iw fun _=>onT_nl
theorem due_ok{z:Str}{o:Option Nat}(hz:z.length<=90000)(hl:(rowsOf z).length<=100000)(ho:RdN (rowsOf z) o)(q:QV (uM (rowsOf z) o) (hT c0 s l g L)):wpR (ar tab (n + 4) 5 [.str z] (hT c0 s l g L)) QV:=by
 have hrl:=iN hz;refine gX ?_;unfold cO;walk_at"v";refine fL (by walk_at"v"; exact⟨rfl,rfl⟩) ?_;walk_at"v";refine jY (fun v h=>v = .lst ((rowsOf z).map .str)/\h=hT c0 s l g (L ++ [.lst []])) ?_ ?_
 .unfold rowsOf
  by_cases e:z=("" : Str)
  .rw [if_pos (decide_eq_true e)];refine w_ifN (by walk_at"v"; exact⟨by rw [decide_eq_true e]; rfl,rfl⟩) ?_;walk_at"v";exact⟨rfl,rfl⟩
  .rw [if_neg (by rw [decide_eq_false e]; decide)];refine nW (by walk_at"v"; exact⟨by rw [decide_eq_false e]; rfl,rfl⟩) ?_;walk_at"v";refine⟨rfl,?_⟩;walk_at"v";refine eJ (a:=z) (b:="\n") (by decide +kernel) (by omega) ?_;exact⟨rfl,rfl⟩
 rintro _ _ ⟨rfl,rfl⟩;walk_at"v";refine loopE (ts:=rowsOf z) (tv:=Val.str) (fun i δ h=>∃ (o2 o3 o4:Option Val),δ = [some (.str z),some (.ref (.loc L.length)),o2,o3,o4]/\h=hT c0 s l g (L ++ [.lst (rdV ((rowsOf z).take i))])/\∀ j,o=some j->i<=j) ?_ ?_ ?_
 .exact⟨_,_,_,rfl,rfl,fun _ _=>Nat.zero_le _⟩
 .rintro i δ h r hr ⟨o2,o3,o4,rfl,rfl,hij⟩;have hi:i < (rowsOf z).length:=(List.getElem?_eq_some_iff.mp hr).1;have hrm:=List.mem_of_getElem? hr;refine⟨_,rfl,?_⟩;walk_at"v";refine kB (hrl r hrm) ?_
  cases ht:cI r with
  | none =>
   have hoj:o=some i:=by
    cases o with
    | none=>have:=ho r hrm; rw [ht] at this; cases this
    | some j =>
     have hle:=hij j rfl
     by_cases e:i=j
     .rw [e]
     .obtain⟨r9,_,_,h3⟩:=ho;have:=h3 i r (by omega) hr;rw [ht] at this; cases this
   rw [hoj] at q;have eo:onT none = .non:=rfl;rw [eo];walk_at"v";refine lx (by walk_at"v"; exact⟨rfl,rfl⟩) ?_;walk_at"v";exact q
  | some t =>
   have eo:onT (some t) = .tup [.int t.1,.int t.2.1,.str t.2.2.1,.int t.2.2.2.1,.int t.2.2.2.2]:=rfl;rw [eo];walk_at"v";refine fL (by walk_at"v"; exact⟨rfl,rfl⟩) ?_;walk_at"v";refine jA (M:=[]) rfl (by unfold rdV; rw [List.length_map,List.length_take]; omega) ?_;walk_at"v";have et:(rowsOf z).take (i + 1)=(rowsOf z).take i ++ [r]:=by rw [List.take_succ,hr]; rfl
   refine⟨_,_,_,rfl,?_,fun j hj=>?_⟩
   .rw [et];unfold rdV;rw [List.map_append,List.map_cons,ht]
    rfl
   .have hle:=hij j hj;subst hj;obtain⟨r9,h1,h2,_⟩:=ho;have hne:i≠j:=fun z9=>by
     subst z9;rw [hr] at h1;have:=Option.some.inj h1;rw [this,h2] at ht; cases ht
    omega
 .rintro δ h ⟨o2,o3,o4,rfl,rfl,hij⟩;rw [List.take_length];have hon:o=none:=by
   cases o with
   | none=>rfl
   | some j =>
    have hle:=hij j rfl;obtain⟨r9,h1,_⟩:=ho;have:=(List.getElem?_eq_some_iff.mp h1).1;omega
  rw [hon] at q;walk_at"v";exact q
end
section
variable{QV:Val->Hh->Prop}{c0:Val}{s l:Int}{g:GG}{L:List Cel}{n:Nat}{h:Hh}
theorem nT{Γ : Calls}{ok:List Nat}{i f:Nat}{fs:Sl->Hh->Res (List Val)}{δ : Sl}{h:Hh}{Q:XQ}(e:δ[i]?=some (some (.fn f)))(hf:f∈ok)(q:wpR (fs δ h) fun xs h1=>xpR (Γ f xs h1) Q):xpR (fm Γ ok i fs δ h) Q:=by
 unfold fm;rw [e];dsimp only;rw [if_pos hf];exact .bind q
theorem mH{z:Str}{o:Option Nat}(hz:z.length<=90000)(hl:(rowsOf z).length<=100000)(ho:RdN (rowsOf z) o)(q:∀ g',QV (uM (rowsOf z) o) (hT c0 s l g' L)):wpR (ar tab (n + 6) 0 [.fn 14,.str z] (hT c0 s l g L)) QV:=by
 refine eU ?_;unfold bY;walk_at"v"
 cases o with
 | none =>
  refine tR ?_;walk_at"v";refine sV rfl (by simp) ?_;walk_at"v";refine tT hz hl ho ?_;walk_at"v";refine lx (by walk_at"v"; exact⟨rfl,rfl⟩) ?_;walk_at"v";exact eY (v:=.lst (rdV (rowsOf z))) rdV_nl (q g)
 | some j =>
  refine ow ?_;refine uW ?_;refine nT rfl (by simp) ?_;walk_at"v";refine(read_x hz hl ho).mono ?_;rintro k fs h1 ⟨rfl,rfl,rfl⟩;refine⟨rfl,rfl,?_⟩;rw [ml];have e1:gat (jO g 95 (.exc 10 [(63,.int (j:Nat))])) 95 ((hT c0 s l g L).glo 95).length=some (.exc 10 [(63,.int (j:Nat))]):=f6;walk_at"v";refine fL (by walk_at"v"; exact⟨rfl,rfl⟩) ?_;walk_at"v";refine nW ?_ ?_
  .walk_at"v";refine o_isX e1 rfl ?_;walk_at"v";refine uj e1 (by simp) ?_;walk_at"v";exact⟨rfl,rfl⟩
  walk_at"v";refine uj e1 (by simp) ?_;walk_at"v";exact q _
theorem x_forX{fw:Sl->Hh->Res Wk}{tg:Val->Sl->Option Sl}{f:Sl->Hh->aC}{δ : Sl}{h:Hh}{QS:Nat->List (Nat×Val)->Sl->Hh->Prop}(q:xpR (fw δ h) fun c fs h1=>QS c fs δ h1):xpS (i4 fw tg f δ h) QS:=by
 obtain⟨c,fs,h1,e,q⟩:=q.get;unfold i4;rw [e];exact⟨q⟩
theorem sP{fs:Sl->Hh->Res (List Val)}{δ : Sl}{h:Hh}{Q:XQ}(q:xpR (fs δ h) Q):xpR (jL fs δ h) Q:=by
 unfold jL;exact .bindX q
theorem sQ{fo:Sl->Hh->Res Val}{fs:Sl->Hh->Res (List Val)}{δ : Sl}{h:Hh}{Q:XQ}(q:xpR (fo δ h) Q):xpR (ae fo fs δ h) Q:=by
 unfold ae;exact .bindX q
def sJ(x:Val):Prop:=x = .non\/(∃ i,x = .int i)\/(∃ b,x = .bl b)\/∃ xs,x = .lst xs
theorem rows_x{x:Val}(hx:sJ x):xpR (ar tab (n + 1) 8 [x] (hT c0 s l g L)) fun k fs h1=>k=10/\fs=[(63,.int (0:Nat))]/\h1=hT c0 s l g L:=by
 refine x_fn ee rfl ?_;show xpS (cH (ar tab n) [some x] (hT c0 s l g L)) _;unfold cH;refine jV ?_;refine x_if ?_;rcases hx with rfl | ⟨i,rfl⟩ | ⟨b,rfl⟩ | ⟨xs,rfl⟩
 all_goals
  walk_at"v";refine kR ?_;walk_at"v";exact⟨_,rfl,rfl,rfl,rfl,rX⟩
theorem tS{x:Val}(hx:sJ x):xpR (ar tab (n + 5) 14 [x] (hT c0 s l g L)) fun k fs h1=>k=10/\fs=[(63,.int (0:Nat))]/\h1=hT c0 s l g L:=by
 refine x_fn bx rfl ?_;show xpS (aP (ar tab (n + 4)) [some x,none,none,none,none] (hT c0 s l g L)) _;unfold aP;refine pK ?_;walk_at"v";refine jV ?_;refine x_forX ?_;refine sP ?_;refine sQ ?_;refine x_call ?_;walk_at"v";refine(rows_x (n:=n + 3) hx).mono ?_;rintro k fs h1 ⟨rfl,rfl,rfl⟩;exact⟨rfl,rfl,rfl,iB⟩
theorem uT{x:Val}(hx:sJ x)(q:∀ g',QV (.tup [.int (0:Nat)]) (hT c0 s l g' L)):wpR (ar tab (n + 6) 0 [.fn 14,x] (hT c0 s l g L)) QV:=by
 refine eU ?_;unfold bY;walk_at"v";refine ow ?_;refine uW ?_;refine nT rfl (by simp) ?_;walk_at"v";refine(tS hx).mono ?_;rintro k fs h1 ⟨rfl,rfl,rfl⟩;refine⟨rfl,rfl,?_⟩;rw [ml];have e1:gat (jO g 95 (.exc 10 [(63,.int (0:Nat))])) 95 ((hT c0 s l g L).glo 95).length=some (.exc 10 [(63,.int (0:Nat))]):=f6;walk_at"v";refine fL (by walk_at"v"; exact⟨rfl,rfl⟩) ?_;walk_at"v";refine nW ?_ ?_
 .walk_at"v";refine o_isX e1 rfl ?_;walk_at"v";refine uj e1 (by simp) ?_;walk_at"v";exact⟨rfl,rfl⟩
 walk_at"v";refine uj e1 (by simp) ?_;walk_at"v";exact q _
theorem due_x{x:Val}(hx:sJ x)(q:QV (.tup [.int (0:Nat)]) (hT c0 s l g L)):wpR (ar tab (n + 4) 5 [x] (hT c0 s l g L)) QV:=by
 refine gX ?_;unfold cO;refine jD ?_;rcases hx with rfl | ⟨i,rfl⟩ | ⟨b,rfl⟩ | ⟨xs,rfl⟩
 all_goals
  refine lx (by walk_at"v"; exact⟨rfl,rfl⟩) ?_;walk_at"v";exact q
end
section
variable{QV:Val->Hh->Prop}{cs:List Int}{s l:Int}{g:GG}{L:List Cel}{n:Nat}
def dW(t:Tq):Prop:=(0<=t.1/\t.1<=1000000000)/\(0<=t.2.1/\t.2.1<=9)/\t.2.2.1∈cq/\(-10000<=t.2.2.2.1/\t.2.2.2.1<=10000)/\-10000<=t.2.2.2.2/\t.2.2.2.2<=10000
theorem mO{m:Nat}(hm:m<=110)(hs:0<=s/\s < 900000000000)
  (q:∀ (ts:List Tq) s' l',(∀ t∈ts,dW t)->ts.length=m->s<=s'/\s'<=s + 3000->QV (.lst (ts.map tqV)) (hT (cel cs) s' l' g L)) :
  wpR (ar tab (n + 2) 7 [T0,.int m,.int 300] (hT (cel cs) s l g L)) QV:=by
 refine hR ?_;unfold bX;walk_at"v";refine bD hs.1 (by omega) (by omega) (by omega) fun r0 s1 l1 r00 r01 h10 h11=>?_;walk_at"v";refine bD (by omega) (by omega) (by omega) (by omega) fun r1 s2 l2 r10 r11 h20 h21=>?_;walk_at"v"
 try refine lL (fW (by omega) (by omega)) ?_
 try walk_at"v"
 have hm0:0<=r0 * r1/\r0 * r1<=100:=by
  have:r0=0\/r0=1:=by omega
  rcases this with rfl | rfl <;> omega
 generalize r0 * r1=m0 at *;refine loopN (n:=m) (fun i δ h=>∃ (mo:Int) (dn:List Int) (ts:List Tq) (kvs:List (Key×Val)) (s6 l6:Int) (o7 o8 o9 o10 o11 o12 o13:Option Val),δ = [some T0,some (.int m),some (.int 300),some (.lst (dn.map .int)),some (.int mo),some (.ref (.loc L.length)),some (.ref (.loc (L.length + 1))),o7,o8,o9,o10,o11,o12,o13,none]/\h=hT (cel cs) s6 l6 g (L ++ [.lst (ts.map tqV),.dct kvs])/\(0<=mo/\mo<=100 + 700 * i)/\dn.length<=i/\kvs.length<=i/\(∀ t∈ts,dW t)/\ts.length=i/\(∀ f,aV kvs (.inl f)=none\/∃ x y:Int,aV kvs (.inl f)=some (.tup [.int x,.int y])/\(-(300 + 40 * (i:Int))<=x/\x<=300 + 40 * i)/\-(300 + 40 * (i:Int))<=y/\y<=300 + 40 * i)/\s2<=s6/\s6<=s2 + 20 * i) ?_ ?_ ?_
 .exact⟨m0,[],[],[],s2,l2,_,_,_,_,_,_,_,rfl,rfl,by omega,Nat.le_refl _,Nat.le_refl _,fun t ht=>(by cases ht),rfl,fun f=>.inl rfl,by omega,by omega⟩
 .rintro i δ h hi ⟨mo,dn,ts,kvs,s6,l6,o7,o8,o9,o10,o11,o12,o13,rfl,rfl,k1,k2,k3,k4,k5,k6,k7,k8⟩;refine⟨_,rfl,?_⟩;walk_at"v";refine bD (by omega) (by omega) (by omega) (by omega) fun d0 s7 l7 a0 a1 a2 a3=>?_;walk_at"v";refine bD (by omega) (by omega) (by omega) (by omega) fun d1 s8 l8 b0 b1 b2 b3=>?_;refine eS b0 b1 fun v hv _=>?_;obtain⟨dd,rfl,hdd⟩:∃ dd:Int,v = .int dd/\0<=dd/\dd<=700:=by
   simp only [List.mem_cons,List.not_mem_nil,or_false] at hv
   rcases hv with rfl | rfl | rfl | rfl | rfl | rfl | rfl | rfl | rfl | rfl | rfl <;> exact⟨_,rfl,by omega⟩
  walk_at"v";refine bD (by omega) (by omega) (by omega) (by omega) fun d2 s9 l9 c0 c1 c2 c3=>?_;walk_at"v";refine bD (by omega) (by omega) (by omega) (by omega) fun d3 s10 l10 e0 e1 e2 e3=>?_;refine eS e0 e1 fun v hv _=>?_;obtain⟨f,rfl,hf⟩:∃ f:Int,v = .int f/\0<=f/\f<=9:=by
   simp only [List.mem_cons,List.not_mem_nil,or_false] at hv
   rcases hv with rfl | rfl | rfl | rfl <;> exact⟨_,rfl,by omega⟩
  walk_at"v";refine jY (fun v h=>∃ (w:Str) (s11 l11:Int),v = .str w/\w∈cq/\s10<=s11/\s11<=s10 + 1/\h=hT (cel cs) s11 l11 g (L ++ [.lst (ts.map tqV),.dct kvs])) ?_ ?_
  .refine kX (b:=decide (f∈dn)) ?_ (fun e=>?_) (fun e=>?_)
   .walk_at"v";exact⟨rfl,rfl⟩
   .walk_at"v";refine bD (by omega) (by omega) (by omega) (by omega) fun d4 s11 l11 g0 g1 g2 g3=>?_;refine eS g0 g1 fun v hv _=>?_;obtain⟨w,rfl,hw⟩:∃ w:Str,v = .str w/\w∈cq:=by
     simp only [List.mem_cons,List.not_mem_nil,or_false] at hv
     rcases hv with rfl | rfl | rfl | rfl | rfl | rfl <;> exact⟨_,rfl,by unfold cq; simp⟩
    exact⟨w,s11,l11,rfl,hw,by omega,by omega,rfl⟩
   .walk_at"v";exact⟨"down",s10,l10,rfl,by unfold cq; simp,by omega,by omega,rfl⟩
  rintro _ _ ⟨w,s11,l11,rfl,hw,q1,q2,rfl⟩;walk_at"v";refine sU ?_;walk_at"v";refine⟨pB (fY.trans gp),?_⟩;walk_at"v";refine bD (by omega) (by omega) (by omega) (by omega) fun d5 s12 l12 i0 i1 i2 i3=>?_;walk_at"v";refine bD (by omega) (by omega) (by omega) (by omega) fun d6 s13 l13 j0 j1 j2 j3=>?_;walk_at"v";refine⟨_,_,.inl f,rfl,fY.trans gp,rfl,?_⟩;obtain⟨nx,ny,hn,hb1,hb2⟩:∃ nx ny:Int,(aV kvs (.inl f)).getD (.tup [.int d5,.int d6]) = .tup [.int nx,.int ny]/\(-(300 + 40 * (i:Int))<=nx/\nx<=300 + 40 * i)/\-(300 + 40 * (i:Int))<=ny/\ny<=300 + 40 * i:=by
   rcases k6 f with h9 | ⟨x,y,h9,hx,hy⟩
   .exact⟨d5,d6,by rw [h9]; rfl,by omega,by omega⟩
   .exact⟨x,y,by rw [h9]; rfl,hx,hy⟩
  rw [hn];walk_at"v";refine bD (by omega) (by omega) (by omega) (by omega) fun d7 s14 l14 m0' m1 m2 m3=>?_;refine eS m0' m1 fun v hv _=>?_;obtain⟨st,rfl,hst⟩:∃ st:Int,v = .int st/\(st=0\/st=3\/st=18\/st=19\/st=40):=by
   simp only [List.mem_cons,List.not_mem_nil,or_false] at hv
   rcases hv with rfl | rfl | rfl | rfl | rfl | rfl <;> exact⟨_,rfl,by omega⟩
  walk_at"v";refine bD (by omega) (by omega) (by omega) (by omega) fun d8 s15 l15 n0 n1 n2 n3=>?_;walk_at"v";have hp1:-40<=st * (d8 - 1)/\st * (d8 - 1)<=40:=by
   have:d8=0\/d8=1\/d8=2:=by omega
   rcases this with rfl | rfl | rfl <;> omega
  try refine lL (fW (by omega) (by omega)) ?_
  try walk_at"v"
  refine bD (by omega) (by omega) (by omega) (by omega) fun d9 s16 l16 p0 p1 p2 p3=>?_;walk_at"v";have hp2:-40<=st * (d9 - 1)/\st * (d9 - 1)<=40:=by
   have:d9=0\/d9=1\/d9=2:=by omega
   rcases this with rfl | rfl | rfl <;> omega
  try refine lL (fW (by omega) (by omega)) ?_
  try walk_at"v"
  generalize st * (d8 - 1)=z1 at *;generalize st * (d9 - 1)=z2 at *;refine gQ Val.int dn (fun y=>!decide (y=f)) Val.int ?_ (by omega) ?_ ?_
  .walk_at"v";exact⟨rfl,rfl⟩
  .intro y _;refine⟨_,rfl,?_⟩;walk_at"v";refine⟨rfl,rfl,fun _=>?_⟩;walk_at"v";exact⟨rfl,rfl⟩
  walk_at"v";refine o_inW ["down","move"] rfl (.inr (.inl rfl)) ?_;walk_at"v";obtain⟨E2,eE2,hE2l⟩:∃ E:List Int,(if decide (w∈(["down","move"]:List Str))=true then [Val.int f] else [])=E.map .int/\E.length<=1:=by
   split
   .exact⟨[f],rfl,Nat.le_refl _⟩
   .exact⟨[],rfl,Nat.zero_le _⟩
  rw [eE2];have hfl:=List.length_filter_le (fun y=>!decide (y=f)) dn;refine dC (by simp only [List.length_map]; omega) ?_;rw [<- List.map_append];walk_at"v";have hpl:=qZ kvs (.inl f) (.tup [.int (nx + z1),.int (ny + z2)]);refine⟨mo + dd,dn.filter (fun y=>!decide (y=f)) ++ E2,ts ++ [(mo + dd,f,w,nx + z1,ny + z2)],dt kvs (.inl f) (.tup [.int (nx + z1),.int (ny + z2)]),s16,l16,_,_,_,_,_,_,_,rfl,by rw [List.map_append]; rfl,by omega,by rw [List.length_append]; omega,by omega,?_,by rw [List.length_append,k5]; rfl,?_,by omega,by omega⟩
  .intro t ht;rcases List.mem_append.mp ht with ht | ht
   .exact k4 t ht
   .rw [List.mem_singleton.mp ht];exact⟨by dsimp only; omega,by dsimp only; omega,hw,by dsimp only; omega,by dsimp only; omega,by dsimp only; omega⟩
  .intro f9;rw [p8]
   by_cases e9:f9=f
   .subst e9;rw [if_pos rfl];exact .inr ⟨_,_,rfl,by omega,by omega⟩
   .rw [if_neg (fun z=>e9 (by injection z))];rcases k6 f9 with h9 | ⟨x,y,h9,hx,hy⟩
    .exact .inl h9
    .exact .inr ⟨x,y,h9,by omega,by omega⟩
 .rintro δ h ⟨mo,dn,ts,kvs,s6,l6,o7,o8,o9,o10,o11,o12,o13,rfl,rfl,k1,k2,k3,k4,k5,k6,k7,k8⟩;walk_at"v";exact q ts s6 l6 k4 k5 (by omega)
end
def tw(t:Tq):List Str:=[Str.ofString (toString t.1),Str.ofString (toString t.2.1),t.2.2.1,Str.ofString (toString t.2.2.2.1),Str.ofString (toString t.2.2.2.2)]
def cC(t:Tq):Str:=Txt.join " " (tw t)
def eL(ts:List Tq):Str:=Txt.join "\n" (ts.map cC)
theorem num_sg{i:Int}{c:Nat}(h:c∈(Str.ofString (toString i)).cps.toList):c=45\/(48<=c/\c<=57):=by
 by_cases h0:0<=i
 .obtain⟨m,rfl⟩:=Int.eq_ofNat_of_zero_le h0;rw [fB] at h;exact .inr (TL.numL_digits m c h)
 .obtain⟨m,rfl⟩:∃ m:Nat,i = -((m + 1:Nat):Int):=⟨(-i).toNat - 1,by omega⟩;rw [ie] at h;rcases List.mem_cons.mp h with h | h
  .exact .inl h
  .exact .inr (TL.numL_digits _ c h)
theorem num_ne{i:Int}:0 < (Str.ofString (toString i)).length:=by
 rw [<- str_len]
 by_cases h0:0<=i
 .obtain⟨m,rfl⟩:=Int.eq_ofNat_of_zero_le h0;rw [fB];exact List.length_pos_iff.mpr (TL.numL_ne m)
 .obtain⟨m,rfl⟩:∃ m:Nat,i = -((m + 1:Nat):Int):=⟨(-i).toNat - 1,by omega⟩;rw [ie];exact Nat.succ_pos _
theorem num_ln{i:Int}(h:-1000000000<=i/\i<=1000000000):(Str.ofString (toString i)).length<=11:=by
 have hlen:∀ m:Nat,m<=1000000000->(TL.numL m).length<=10:=fun m hm=>TL.numL_len (k:=10) (by decide) (Nat.lt_of_le_of_lt hm (by decide));rw [<- str_len]
 by_cases h0:0<=i
 .obtain⟨m,rfl⟩:=Int.eq_ofNat_of_zero_le h0;rw [fB];have:=hlen m (by omega);omega
 .obtain⟨m,rfl⟩:∃ m:Nat,i = -((m + 1:Nat):Int):=⟨(-i).toNat - 1,by omega⟩;rw [ie,List.length_cons];have:=hlen (m + 1) (by omega);omega
theorem pO{w:Str}(h:w∈cq):(∀ c∈w.cps.toList,97<=c/\c<=122)/\w.length<=4:=by
 have e:∀ w∈cq,(w.cps.toList.all fun c=>decide (97<=c/\c<=122))=true/\w.length<=4:=by
  unfold cq
  simp only [List.forall_mem_cons]
  refine⟨?_,?_,?_,?_,fun w h=>by cases h⟩ <;> exact⟨by decide +kernel,by decide +kernel⟩
 obtain⟨h1,h2⟩:=e w h;exact⟨fun c hc=>of_decide_eq_true (List.all_eq_true.mp h1 c hc),h2⟩
theorem nX{t:Tq}(h:dW t):∀ w∈tw t,(∀ c∈w.cps.toList,33<=c)/\w.length<=11:=by
 obtain⟨h1,h2,h3,h4,h5,h6⟩:=h;have hn:∀ i:Int,-1000000000<=i/\i<=1000000000->(∀ c∈(Str.ofString (toString i)).cps.toList,33<=c)/\(Str.ofString (toString i)).length<=11:=fun i hi=>⟨fun c hc=>by rcases num_sg hc with h | h <;> omega,num_ln hi⟩;intro w hw
 simp only [tw,List.mem_cons,List.not_mem_nil,or_false] at hw
 rcases hw with rfl | rfl | rfl | rfl | rfl
 .exact hn _ (by omega)
 .exact hn _ (by omega)
 .exact⟨fun c hc=>by have:=(pO h3).1 c hc; omega,by have:=(pO h3).2; omega⟩
 .exact hn _ (by omega)
 .exact hn _ (by omega)
theorem nZ{t:Tq}(h:dW t):cI (cC t)=some t:=by
 have hs:=nX h;unfold cI cC;rw [TL.split_join (s:=32) (S:=[]) (by decide +kernel) (by decide +kernel) (by simp [tw]) (fun p hp hc=>by have:=(hs p hp).1 32 hc; omega)];obtain⟨m,f,w,x,y⟩:=t;obtain⟨h1,h2,h3,h4,h5,h6⟩:=h;dsimp only at h1 h2 h3 h4 h5 h6;have hb:∀ {lo hi i:Int},lo<=i/\i<=hi->inB lo hi (some i)=some i:=fun {lo hi i} hi9=>by
  unfold inB;show(if decide (lo<=i/\i<=hi)=true then some i else none)=_;rw [if_pos (decide_eq_true hi9)]
 show(if decide (w∈cq)=true then(match inB 0 1000000000 (aG (Str.ofString (toString m))),inB 0 9 (aG (Str.ofString (toString f))),inB (-10000) 10000 (aG (Str.ofString (toString x))),inB (-10000) 10000 (aG (Str.ofString (toString y))) with
  | some x,some f,some y,some z=>some (x,f,w,y,z)
  | _,_,_,_=>none) else none)=_
 rw [if_pos (decide_eq_true h3),dE (by omega),dE (by omega),dE (by omega),dE (by omega),hb h1,hb h2,hb h4,hb ⟨h5,h6⟩]
theorem uF:∀ {parts:List Str} {y:Str} {c:Nat},c∈(Txt.join y parts).cps.toList->c∈y.cps.toList\/∃ p∈parts,c∈p.cps.toList:=by
 intro parts y c h;rw [TL.join_eq] at h
 revert h
 induction parts with
 | nil=>intro h; exact absurd h (by show ¬ c∈([]:List Nat); simp)
 | cons a ps ih =>
  intro h
  cases ps with
  | nil=>exact .inr ⟨a,by simp,h⟩
  | cons b r =>
   have e:Str.join y (a :: b :: r)=a ++ y ++ Str.join y (b :: r):=rfl;rw [e] at h;have h:c∈TL.tl (a ++ y ++ Str.join y (b :: r)):=h;rw [TL.tl_append,TL.tl_append] at h;rcases List.mem_append.mp h with h | h
   .rcases List.mem_append.mp h with h | h
    .exact .inr ⟨a,by simp,h⟩
    .exact .inl h
   .rcases ih h with h | ⟨p,hp,h⟩
    .exact .inl h
    .exact .inr ⟨p,List.mem_cons_of_mem _ hp,h⟩
theorem row_sg{t:Tq}(h:dW t):∀ c∈(cC t).cps.toList,32<=c:=fun c hc=>by
 rcases uF hc with hc | ⟨p,hp,hc⟩
 .have e:(Str.ofString " ").cps.toList=[32]:=by decide +kernel
  rw [e] at hc;rw [List.mem_singleton.mp hc]; decide
 .have:=(nX h p hp).1 c hc;omega
theorem kl{t:Tq}(h:dW t):0 < (cC t).length/\(cC t).length<=60:=by
 constructor
 .have h1:(Str.ofString (toString t.1)).length<=(cC t).length:=by
   unfold cC;rw [TL.join_eq];exact fV (by simp [tw])
  have:=@num_ne t.1;omega
 .unfold cC;rw [TL.join_eq];refine Nat.le_trans (PySem.StrLaws.join_length_le _ _) ?_;have hl:=fun w hw=>(nX h w hw).2;unfold tw at hl ⊢
  simp only [List.forall_mem_cons] at hl
  obtain⟨a1,a2,a3,a4,a5,_⟩:=hl;have e:(Str.ofString " ").length=1:=by decide +kernel
  simp only [List.map_cons,List.map_nil,List.sum_cons,List.sum_nil,List.length_cons,List.length_nil,e]
  omega
theorem qS{ts:List Tq}(h:∀ t∈ts,dW t):rowsOf (eL ts)=ts.map cC:=by
 unfold rowsOf
 cases ts with
 | nil=>rfl
 | cons t r =>
  have hne:eL (t :: r)≠("" : Str):=fun e=>by
   have h1:(cC t).length<=(eL (t :: r)).length:=by
    unfold eL;rw [TL.join_eq];exact fV (by simp)
   have h2:=(kl (h t (by simp))).1;rw [e] at h1;have e0:(Str.ofString "").length=0:=by decide +kernel
   omega
  rw [if_neg (by rw [decide_eq_false hne]; decide)];unfold eL;exact TL.split_join (s:=10) (S:=[]) (by decide +kernel) (by decide +kernel) (by simp) fun p hp hc=>by
   obtain⟨x,hx,rfl⟩:=List.mem_map.mp hp;have:=row_sg (h x hx) 10 hc;omega
theorem tU{ts:List Tq}(h:∀ t∈ts,dW t):RdN (rowsOf (eL ts)) none/\rdV (rowsOf (eL ts))=ts.map tqV:=by
 rw [qS h]
 constructor
 .intro r hr;obtain⟨t,ht,rfl⟩:=List.mem_map.mp hr;rw [nZ (h t ht)]; rfl
 .unfold rdV;rw [List.map_map];refine List.map_congr_left fun t ht=>?_;show onT (cI (cC t))=_;rw [nZ (h t ht)]; rfl
theorem sW{ts:List Tq}(h:∀ t∈ts,dW t)(hl:ts.length<=112):(eL ts).length<=7000:=by
 unfold eL;rw [TL.join_eq];refine Nat.le_trans (PySem.StrLaws.join_length_le _ _) ?_;have e:(Str.ofString "\n").length=1:=by decide +kernel
 have key:∀ ts:List Tq,(∀ t∈ts,dW t)->((ts.map cC).map (·.length)).sum<=60 * ts.length:=fun ts=>by
  induction ts with
  | nil=>intro _; exact Nat.le_refl _
  | cons t r ih =>
   intro h;have h1:=(kl (h t (by simp))).2;have h2:=ih fun x hx=>h x (List.mem_cons_of_mem _ hx)
   simp only [List.map_cons,List.sum_cons,List.length_cons]
   omega
 have:=key ts h;rw [e,List.length_map];omega
section
variable{QV:Val->Hh->Prop}{cs:List Int}{s l:Int}{g:GG}{L:List Cel}{n:Nat}
def twv(t:Tq):List (Val×Str):=[(.int t.1,Str.ofString (toString t.1)),(.int t.2.1,Str.ofString (toString t.2.1)),(.str t.2.2.1,t.2.2.1),(.int t.2.2.2.1,Str.ofString (toString t.2.2.2.1)),(.int t.2.2.2.2,Str.ofString (toString t.2.2.2.2))]
theorem p9{t:Tq}(ht:dW t){h:Hh}:∀ a∈twv t,wpR (mG h [a.1]) fun y h3=>h3=h/\y = .str a.2:=by
 obtain⟨h1,h2,h3,h4,h5,h6⟩:=ht;unfold twv
 simp only [List.forall_mem_cons]
 refine⟨?_,?_,?_,?_,?_,fun w h=>by cases h⟩
 .exact gG (by omega) (by omega) ⟨rfl,rfl⟩
 .exact gG (by omega) (by omega) ⟨rfl,rfl⟩
 .exact nq ⟨rfl,rfl⟩
 .exact gG (by omega) (by omega) ⟨rfl,rfl⟩
 .exact gG (by omega) (by omega) ⟨rfl,rfl⟩
theorem twv_w{t:Tq}:(twv t).map (fun a=>Val.str a.2)=(tw t).map Val.str:=rfl
theorem qa{t:Tq}(ht:dW t):((tw t).map (·.length)).sum + (tw t).length * (Str.ofString " ").length<=1000000:=by
 have hl:=fun w hw=>(nX ht w hw).2;unfold tw at hl ⊢
 simp only [List.forall_mem_cons] at hl
 obtain⟨a1,a2,a3,a4,a5,_⟩:=hl;have e:(Str.ofString " ").length=1:=by decide +kernel
 simp only [List.map_cons,List.map_nil,List.sum_cons,List.sum_nil,List.length_cons,List.length_nil,e]
 omega
theorem ly{ts:List Tq}(ht:∀ t∈ts,dW t)(hl:ts.length<=112):((ts.map cC).map (·.length)).sum + (ts.map cC).length * (Str.ofString "\n").length<=1000000:=by
 have e:(Str.ofString "\n").length=1:=by decide +kernel
 rw [e,List.length_map];have:∀ ts:List Tq,(∀ t∈ts,dW t)->((ts.map cC).map (·.length)).sum<=60 * ts.length:=by
  intro ts
  induction ts with
  | nil=>intro _; simp
  | cons a r ih =>
   intro h;have h1:=ih fun t ht=>h t (List.mem_cons_of_mem _ ht);have h2:=(kl (h a (by simp))).2
   simp only [List.map_cons,List.sum_cons,List.length_cons]
   omega
 have:=this ts ht;omega
theorem pL{t:Tq}(ht:dW t)(q:QV (.str (cC t)) (hT (cel cs) s l g L)):wpR (ar tab (n + 1) 15 [tqV t] (hT (cel cs) s l g L)) QV:=by
 refine mn ?_;unfold dH tqV;walk_at"v";refine⟨rfl,?_⟩;walk_at"v";refine gQ (fun a:Val×Str=>a.1) (twv t) (fun _=>true) (fun a=>.str a.2) ?_ (by simp [twv]) ?_ ?_
 .walk_at"v";exact⟨rfl,rfl⟩
 .intro a ha;refine⟨_,rfl,?_⟩;walk_at"v";refine⟨rfl,rfl,fun _=>?_⟩;walk_at"v";exact p9 ht a ha
 rw [List.filter_eq_self.mpr fun _ _=>rfl,twv_w];walk_at"v";refine fj (qa ht) ?_;walk_at"v";exact q
theorem tK{ts:List Tq}(ht:∀ t∈ts,dW t)(hl:ts.length<=112)(q:QV (.str (eL ts)) (hT (cel cs) s l g L)):wpR (ar tab (n + 2) 16 [.lst (ts.map tqV)] (hT (cel cs) s l g L)) QV:=by
 refine hP ?_;unfold bW;walk_at"v";refine⟨rfl,?_⟩;walk_at"v";refine gQ tqV ts (fun _=>true) (fun t=>.str (cC t)) ?_ (by omega) ?_ ?_
 .walk_at"v";exact⟨rfl,rfl⟩
 .intro a ha;refine⟨_,rfl,?_⟩;walk_at"v";refine⟨rfl,rfl,fun _=>?_⟩;walk_at"v";refine pL (ht a ha) ?_;exact⟨rfl,rfl⟩
 rw [List.filter_eq_self.mpr fun _ _=>rfl];walk_at"v";rw [show(ts.map fun t=>Val.str (cC t))=(ts.map cC).map Val.str by rw [List.map_map]; rfl];refine fj (ly ht hl) ?_;walk_at"v";exact q
end
def sz(ps:List Str):Nat:=(ps.map (·.length)).sum + ps.length
theorem gv:sz []=0:=rfl
theorem bS{a:Str}{r:List Str}:sz (a :: r)=a.length + 1 + sz r:=by
 unfold sz
 simp only [List.map_cons,List.sum_cons,List.length_cons]
 omega
theorem e5:∀ {a b:List Str},sz (a ++ b)=sz a + sz b
 | [],b=>by rw [List.nil_append,gv,Nat.zero_add]
 | x :: r,b=>by rw [List.cons_append,bS,bS,e5]; omega
theorem qt{ps:List Str}(k:Nat):sz (ps.take k) + sz (ps.drop k)=sz ps:=by
 rw [<- e5,List.take_append_drop]
theorem sz_dr:∀ {ps:List Str} {k:Nat},sz (ps.drop (k + 1))<=sz (ps.drop k)
 | [],k=>by simp
 | a :: r,0=>by
  rw [List.drop_zero,show(a :: r).drop (0 + 1)=r from rfl,bS];omega
 | a :: r,k + 1=>by
  rw [List.drop_succ_cons,List.drop_succ_cons];exact sz_dr
theorem j6{ps:List Str}:ps.length<=sz ps:=by unfold sz; omega
theorem eZ:∀ {ps:List Str} {p:Str},p∈ps->p.length + 1<=sz ps
 | [],_,h=>by cases h
 | a :: r,p,h=>by
  rw [bS];rcases List.mem_cons.mp h with rfl | h
  .omega
  .have:=eZ h;omega
theorem n6:∀ {ps:List Str} {y:Str},y.length=1->sz ps<=(Str.join y ps).length + 1
 | [],_,_=>by rw [gv]; omega
 | [a],y,hy=>by
  rw [bS,gv];exact Nat.le_refl _
 | a :: b :: ps,y,hy=>by
  have e:Str.join y (a :: b :: ps)=a ++ y ++ Str.join y (b :: ps):=rfl;have hl:(a ++ y ++ Str.join y (b :: ps)).length=a.length + y.length + (Str.join y (b :: ps)).length:=by
   rw [TL.len_tl,TL.tl_append,TL.tl_append,List.length_append,List.length_append,<- TL.len_tl,<- TL.len_tl,<- TL.len_tl]
  have:=n6 (ps:=b :: ps) hy;rw [bS,e,hl];omega
theorem iE{z y:Str}(hy:y.length=1):sz (Txt.split z y)<=z.length + 1:=by
 have e:=n6 (ps:=Txt.split z y) hy;rw [PySem.StrLaws.join_split] at e;exact e
theorem kF{ps:List Str}{y:Str}(hy:y.length=1):(Txt.join y ps).length<=sz ps:=by
 rw [TL.join_eq];have:=PySem.StrLaws.join_length_le y ps;unfold sz;rw [hy] at this;omega
theorem nl1:(Str.ofString "\n").length=1:=by decide +kernel
theorem bl1:(Str.ofString " ").length=1:=by decide +kernel
theorem qu{ps one:List Str}{k:Nat}:sz (ps.take k ++ one ++ ps.drop (k + 1))<=sz ps + sz one:=by
 rw [e5,e5];have:=qt (ps:=ps) k;have:=sz_dr (ps:=ps) (k:=k);omega
theorem sz_ins{ps one:List Str}{k:Nat}:sz (ps.take k ++ one ++ ps.drop k)=sz ps + sz one:=by
 rw [e5,e5];have:=qt (ps:=ps) k;omega
theorem pq{z:Str}:sz (rowsOf z)<=z.length + 1:=by
 unfold rowsOf
 split
 .rw [gv]; omega
 .exact iE nl1
section
variable{QV:Val->Hh->Prop}{cs:List Int}{s l:Int}{g:GG}{L:List Cel}{n:Nat}
theorem uo{md:Md}{h:Hh}{r:Rf}{xs ys:List Val}(hr:h.get r=some (.lst xs))(hl:xs.length + ys.length<=1000000)(q:wpR (bQ md (xs ++ ys) h) QV):wpR (jF md h (.ref r) (.lst ys)) QV:=by
 have:rdM h (.ref r)=some xs:=by show(match h.get r with | some (.lst xs)=>some xs | _=>none)=_; rw [hr]
 unfold jF;rw [this];show wpR (if xs.length + ys.length<=1000000 then bQ md (xs ++ ys) h else .err) QV;rw [if_pos hl]; exact q
theorem fx{ps:List Str}{i:Int}{h:Hh}(h0:0<=i)(h1:i < ps.length)(q:∀ p∈ps,QV (.str p) h):wpR (aq h (.lst (ps.map Val.str)) (.int i)) QV:=by
 refine eS h0 (by simpa using h1) fun v hv _=>?_;obtain⟨p,hp,rfl⟩:=List.mem_map.mp hv;exact q p hp
theorem split_pos{z y:Str}:0 < (Txt.split z y).length:=by
 unfold Txt.split
 split
 .exact Nat.le_refl 1
 .split
  .exact Nat.le_refl 1
  .simp [PySem.Builtin.Str.partsBetween]
theorem eK{a b:Str}:(a ++ b).length=a.length + b.length:=Array.size_append
theorem cut_le{z:Str}{lo hi:Option Int}:(cutS z lo hi).length<=z.length:=by
 rw [<- str_len,show(cutS z lo hi).cps.toList=(z.cps.toList.drop (HT.sIx z.length 0 lo)).take (HT.sIx z.length z.length hi - HT.sIx z.length 0 lo) from rfl,List.length_take,List.length_drop,str_len];omega
theorem mp3{a b:List Str}{k j:Nat}:List.take k (List.map Val.str a) ++ List.map Val.str b ++ List.drop j (List.map Val.str a)=(a.take k ++ b ++ a.drop j).map Val.str:=by
 rw [List.map_append,List.map_append,List.map_take,List.map_drop]
theorem sumJ{ps:List Str}{y:Str}(hy:y.length=1)(h:sz ps<=1000000):(ps.map (·.length)).sum + ps.length * y.length<=1000000:=by
 unfold sz at h;rw [hy];omega
theorem ph{z:Str}{ws:List Str}{B:Nat}(hz:z.length<=B)(hB:B<=28000)(hw0:0 < ws.length)(hw1:ws.length<=1000)(hw:∀ w∈ws,w.length<=4400)(hs:0<=s/\s < 900000000000)
  (q:∀ (z':Str) s' l',z'.length<=3 * B + 5000->s<=s'/\s'<=s + 10->QV (.str z') (hT (cel cs) s' l' g L)) :
  wpR (ar tab (n + 2) 2 [T0,.str z,.lst (ws.map .str)] (hT (cel cs) s l g L)) QV:=by
 refine fZ ?_;unfold bz;walk_at"v";refine⟨rfl,?_⟩;walk_at"v";refine eJ (a:=z) (b:="\n") (by decide +kernel) (by omega) ?_;have hrs:=iE (z:=z) nl1;have hr0:=split_pos (z:=z) (y:="\n");generalize Txt.split z "\n" = rows at *;have hrl:=@j6 rows;walk_at"v";rw [List.length_map];refine bD hs.1 (by omega) (by omega) (by omega) fun a s1 l1 a0 a1 a2 a3=>?_;walk_at"v";refine fx a0 a1 fun row hrow=>?_;have hrw:=eZ hrow;walk_at"v";refine⟨rfl,?_⟩;walk_at"v";refine eJ (a:=row) (b:=" ") (by decide +kernel) (by omega) ?_;have hws:=iE (z:=row) bl1;have hw9:=split_pos (z:=row) (y:=" ");generalize Txt.split row " " = wds at *;have hwl:=@j6 wds;walk_at"v";rw [List.length_map];refine bD (by omega) (by omega) (by omega) (by omega) fun b s2 l2 b0 b1 b2 b3=>?_;walk_at"v";rw [List.length_map];refine bD (by omega) (by omega) (by omega) (by omega) fun c s3 l3 c0 c1 c2 c3=>?_;walk_at"v";refine fx c0 c1 fun w hwm=>?_;have hw2:=hw w hwm;walk_at"v";have hsg:(Str.ofString "abcdefghijklmnopqrstuvwxyzABCDEFGHIJKLMNOPQRSTUVWXYZ0123456789!#$&'()*+,-./:;<=>?\x40[]^_{|}~ \n").length=92:=by decide +kernel
 generalize Str.ofString "abcdefghijklmnopqrstuvwxyzABCDEFGHIJKLMNOPQRSTUVWXYZ0123456789!#$&'()*+,-./:;<=>?\x40[]^_{|}~ \n" = sg at *;refine bD (by omega) (by omega) (by omega) (by omega) fun d s4 l4 d0 d1 d2 d3=>?_;refine o_ixS (by omega) d0 (by rw [str_len]; omega) fun c9 _=>?_;have hc9:(chS c9).length=1:=rfl;generalize chS c9=sign at *;walk_at"v";refine kr (by omega) ?_;walk_at"v";refine bD (by omega) (by omega) (by omega) (by omega) fun e s5 l5 e0 e1 e2 e3=>?_;obtain⟨ak,rfl⟩:=Int.eq_ofNat_of_zero_le a0;obtain⟨bk,rfl⟩:=Int.eq_ofNat_of_zero_le b0;walk_at"v";refine⟨rfl,?_⟩;walk_at"v";refine dC (by simp only [List.length_take,List.length_map,List.length_cons,List.length_nil]; omega) ?_;walk_at"v";refine dC (by simp only [List.length_append,List.length_drop,List.length_take,List.length_map,List.length_cons,List.length_nil]; omega) ?_;walk_at"v";have hs1:=qu (ps:=wds) (one:=[w]) (k:=bk);rw [show sz [w]=w.length + 1 from bS] at hs1;rw [show List.take bk (List.map Val.str wds) ++ [Val.str w] ++ List.drop (bk + 1) (List.map Val.str wds)=_ from mp3 (b:=[w])];refine fj (sumJ bl1 (by omega)) ?_;have hj1:=kF (ps:=wds.take bk ++ [w] ++ wds.drop (bk + 1)) bl1;generalize Txt.join " " (wds.take bk ++ [w] ++ wds.drop (bk + 1))=j1 at *;walk_at"v";refine fx a0 a1 fun ra hra=>?_;have hra9:=eZ hra;walk_at"v";refine fx a0 a1 fun rb hrb=>?_;have hrb9:=eZ hrb;walk_at"v";rw [List.length_map];refine bD (by omega) (by omega) (by omega) (by omega) fun f s6 l6 f0 f1 f2 f3=>?_;walk_at"v";refine fx f0 f1 fun rc hrc=>?_;have hrc9:=eZ hrc;walk_at"v";refine⟨rfl,?_⟩;walk_at"v";refine dC (by simp only [List.length_append,List.length_drop,List.length_take,List.length_map,List.length_cons,List.length_nil]; omega) ?_;walk_at"v";refine dC (by simp only [List.length_append,List.length_drop,List.length_take,List.length_map,List.length_cons,List.length_nil]; omega) ?_;walk_at"v";have hs2:=sz_ins (ps:=wds) (one:=[w]) (k:=bk);rw [show sz [w]=w.length + 1 from bS] at hs2;rw [show List.take bk (List.map Val.str wds) ++ [Val.str w] ++ List.drop bk (List.map Val.str wds)=_ from mp3 (b:=[w])];refine fj (sumJ bl1 (by omega)) ?_;have hj2:=kF (ps:=wds.take bk ++ [w] ++ wds.drop bk) bl1;generalize Txt.join " " (wds.take bk ++ [w] ++ wds.drop bk)=j2 at *;walk_at"v";refine uo (fY.trans jg) (by simp) ?_;refine j4 rfl ?_;walk_at"v";refine fx a0 a1 fun rd hrd=>?_;have hrd9:=eZ hrd;walk_at"v";rw [List.length_map];refine bD (by omega) (by omega) (by omega) (by omega) fun f2 s7 l7 g0 g1 g2 g3=>?_;walk_at"v";refine fx g0 g1 fun re hre=>?_;have hre9:=eZ hre;walk_at"v";have hone:∀ ps∈[[j1],[],[ra,rb],[rc],[j2],[rd,re]],sz ps<=2 * B + 4410:=by
  simp only [List.forall_mem_cons,bS,gv]
  refine⟨by omega,by omega,by omega,by omega,by omega,by omega,fun w h=>by cases h⟩
 have hput:∀ ps:List Str,sz ps<=2 * B + 4410->sz (rows.take ak ++ ps ++ rows.drop (ak + 1))<=3 * B + 4411:=fun ps h=>by
  have:=qu (ps:=rows) (one:=ps) (k:=ak);omega
 refine w_lcC (fun ps:List Str=>.lst (ps.map .str)) [[j1],[],[ra,rb],[rc],[j2],[rd,re]] (fun _=>true) (fun ps=>.lst ((rows.take ak ++ ps ++ rows.drop (ak + 1)).map .str)) (h':=hT (cel cs) s7 l7 g (L ++ [.lst [.lst [.str j1],.lst [],.lst [.str ra,.str rb]],.lst [.lst [.str j1],.lst [],.lst [.str ra,.str rb],.lst [.str rc],.lst [.str j2],.lst [.str rd,.str re]]])) ?_ (by simp) ?_ ?_
 .walk_at"v";exact wk_ref (fY.trans gp) ⟨_,rfl,rfl,fY.trans gp⟩
 .intro ps hps;have h9:=@j6 ps;have h8:=hone ps hps;refine⟨_,rfl,?_⟩;walk_at"v";refine⟨rfl,rfl,fun _=>?_⟩;walk_at"v";refine dC (by simp only [List.length_append,List.length_drop,List.length_take,List.length_map,List.length_cons,List.length_nil]; omega) ?_;walk_at"v";refine dC (by simp only [List.length_append,List.length_drop,List.length_take,List.length_map,List.length_cons,List.length_nil]; omega) ?_;refine⟨rfl,?_⟩;rw [mp3]
 rw [List.filter_eq_self.mpr fun _ _=>rfl];walk_at"v";have hall:∀ ps∈[[j1],[],[ra,rb],[rc],[j2],[rd,re]].map (fun ps=>rows.take ak ++ ps ++ rows.drop (ak + 1)) ++ [rows ++ [Str.ofString ""],rows.take ak,Str.ofString "" :: rows],sz ps<=3 * B + 4412:=by
  intro ps hps;rcases List.mem_append.mp hps with h | h
  .obtain⟨p,hp,rfl⟩:=List.mem_map.mp h;exact Nat.le_succ_of_le (hput p (hone p hp))
  .have e0:(Str.ofString "").length=0:=by decide +kernel
   have:=qt (ps:=rows) ak
   simp only [List.mem_cons,List.not_mem_nil,or_false] at h
   rcases h with rfl | rfl | rfl
   .rw [e5,bS,gv,e0]; omega
   .omega
   .rw [bS,e0]; omega
 refine gQ (fun ps:List Str=>.lst (ps.map .str)) ([[j1],[],[ra,rb],[rc],[j2],[rd,re]].map (fun ps=>rows.take ak ++ ps ++ rows.drop (ak + 1)) ++ [rows ++ [Str.ofString ""],rows.take ak,Str.ofString "" :: rows]) (fun _=>true) (fun ps=>.str (Txt.join "\n" ps)) ?_ (by simp) ?_ ?_
 .walk_at"v";refine⟨?_,rfl⟩
  simp only [List.map_append,List.map_cons,List.map_nil,List.map_take,List.map_drop,List.cons_append,List.nil_append]
 .intro ps hps;have h8:=hall ps hps;refine⟨_,rfl,?_⟩;walk_at"v";refine⟨rfl,rfl,fun _=>?_⟩;walk_at"v";refine⟨rfl,?_⟩;walk_at"v";refine fj (sumJ nl1 (by omega)) ?_;exact⟨rfl,rfl⟩
 rw [List.filter_eq_self.mpr fun _ _=>rfl];walk_at"v";have c1:=fun(lo hi:Option Int)=>cut_le (z:=z) (lo:=lo) (hi:=hi);refine gW (by omega) ?_;walk_at"v";refine ku (by have:=c1 none (some e); omega) ?_;walk_at"v";refine gW (by omega) ?_;walk_at"v";refine ku (by have:=c1 none (some e); have:=c1 (some e) none; rw [eK]; omega) ?_;walk_at"v";refine gW (by omega) ?_;walk_at"v";refine ku (by have:=c1 none (some e); omega) ?_;walk_at"v";refine gW (by omega) ?_;walk_at"v";refine ku (by have:=c1 none (some e); have:=c1 (some (e + 1)) none; rw [eK]; omega) ?_;walk_at"v";refine bD (by omega) (by omega) (by omega) (by omega) fun v s8 l8 v0 v1 v2 v3=>?_;refine eS v0 (by simp; omega) fun y hy _=>?_;obtain⟨z',rfl,hz'⟩:∃ z':Str,y = .str z'/\z'.length<=3 * B + 5000:=by
  rcases List.mem_append.mp hy with h | h
  .obtain⟨ps,hps,rfl⟩:=List.mem_map.mp h;have h1:=hall ps hps;have h2:=kF (ps:=ps) nl1;exact⟨_,rfl,by omega⟩
  .simp only [List.mem_cons,List.not_mem_nil,or_false] at h
   have h1:=c1 none (some e);have h2:=c1 (some e) none;have h3:=c1 (some (e + 1)) none;rcases h with rfl | rfl
   .exact⟨_,rfl,by rw [eK,eK]; omega⟩
   .exact⟨_,rfl,by rw [eK,eK]; omega⟩
 exact jX rfl (q z' s8 l8 hz' (by omega))
end
section
variable{QV:Val->Hh->Prop}{c0:Val}{cs:List Int}{s l:Int}{g:GG}{L:List Cel}{n:Nat}{h:Hh}
theorem sX{ns:List Int}(q:QV T0 (hT (cel (ns.take 63)) 0 0 (fun _=>[]) [])):wpR (ar tab (n + 1) 6 [.scr ns] h0) QV:=by
 refine kI ?_;unfold c6;walk_at"v";refine uk 63 rfl ?_;walk_at"v";have e:iX [] [((.inr "cells" : Key),cel (ns.take 63)),(.inr "spot",.int 0),(.inr "left",.int 0)]=tpk (cel (ns.take 63)) 0 0:=rfl;rw [e];have hn:nlp (tpk (cel (ns.take 63)) 0 0)=true:=by
  show((cel (ns.take 63)).nl && (true && (true && true)))=true;rw [nl_lst fun _=>rfl]; rfl
 refine sT hn ?_;rw [tape0];exact eY (c:=cel []) (s:=0) (l:=0) (g:=fun _=>[]) (L:=[]) rfl q
theorem sv_tq{t:Tq}(h:t.2.2.1∈cq):Sv 1 (tqV t):=by
 have hs:PyData.strOk t.2.2.1=true:=by
  unfold cq at h
  simp only [List.mem_cons,List.not_mem_nil,or_false] at h
  rcases h with h | h | h | h <;> rw [h] <;> decide +kernel
 exact mU (dz gw (dz gw (dz (sv_str hs) (dz gw (dz gw mV)))))
theorem tchW_w{ws:List Str}{t:Tq}(h:mQ ws=some t):t.2.2.1∈cq:=by
 unfold mQ at h
 split at h
 .split at h
  .rename_i hw
   split at h
   .injection h with h
    rw [<- h];exact of_decide_eq_true hw
   .cases h
  .cases h
 .cases h
theorem sv_onT{r:Str}:Sv 1 (onT (cI r)):=by
 cases e:cI r with
 | none=>exact sv_non
 | some t=>exact sv_tq (tchW_w e)
theorem sv_due{rows:List Str}{o:Option Nat}:Sv 2 (uM rows o):=by
 cases o with
 | none=>exact qx (qw fun r _=>sv_onT)
 | some j=>exact(mU (dz gw mV)).mono (by decide:1<=2)
def Thg(x:Val):Prop:=sJ x\/∃ z:Str,x = .str z/\z.length<=90000
theorem kh{z:Str}(hz:z.length<=90000):(rowsOf z).length<=100000:=by
 have h1:=@j6 (rowsOf z);have h2:=@pq z;omega
theorem jP:∀ {n:Nat} {a c:Array Nat},((List.replicate n c).foldl (· ++ ·) a).size=a.size + n * c.size
 | 0,a,c=>by simp
 | n + 1,a,c=>by
  rw [List.replicate_succ,List.foldl_cons,jP,Array.size_append,Nat.succ_mul];omega
theorem mul_le{z:Str}{k:Nat}(hk:1<=k):(Txt.mul z (k:Int)).length<=k * z.length:=by
 unfold Txt.mul
 split
 .exact Nat.zero_le _
 .split
  .exact Nat.le_mul_of_pos_left _ hk
  .show((List.replicate ((k:Int)).toNat z.cps).foldl (· ++ ·) #[]).size<=_;rw [jP,Int.toNat_natCast];exact Nat.le_of_eq (Nat.zero_add _)
theorem hrun:∀ ns:List Int,ns.length<=63->∃ h',ar tab 40 17 [.scr ns] h0 = .ok (.bl true) h':=by
 intro ns _
 suffices h:wpR (ar tab 40 17 [.scr ns] h0) fun v _=>v = .bl true by
  obtain⟨v,h',e,rfl⟩:=h.get;exact⟨h',e⟩
 refine go_law ?_;unfold oU;walk_at"v";refine sX ?_;walk_at"v";generalize ns.take 63=cs;refine o_mulS (by decide +kernel) (by decide) ?_;have hm1:(Txt.mul (Str.ofString "1") 4400).length<=4400:=by
  have h1:=mul_le (z:=Str.ofString "1") (k:=4400) (by decide);have e:(Str.ofString "1").length=1:=by decide +kernel
  rw [e] at h1;exact h1
 generalize Txt.mul (Str.ofString "1") 4400=ones at *;walk_at"v";obtain⟨ws,hws,hw0,hw1,hw⟩:∃ ws:List Str,([Val.str (Str.ofString "down"),Val.str (Str.ofString "Up"),Val.str (Str.ofString "lost"),Val.str (Str.ofString "0"),Val.str (Str.ofString "-1"),Val.str (Str.ofString "-0"),Val.str (Str.ofString "00"),Val.str (Str.ofString "9"),Val.str (Str.ofString "10"),Val.str (Str.ofString "1000000000"),Val.str (Str.ofString "1000000001"),Val.str (Str.ofString "10000"),Val.str (Str.ofString "10001")] ++ [Val.str (Str.ofString "-10000"),Val.str (Str.ofString "-10001"),Val.str (Str.ofString ""),Val.str ones,Val.str (Str.ofString "+1"),Val.str (Str.ofString "1.0"),Val.str (Str.ofString "move")])=ws.map Val.str/\0 < ws.length/\ws.length<=1000/\∀ w∈ws,w.length<=4400:=by
  refine⟨["down","Up","lost","0","-1","-0","00","9","10","1000000000","1000000001","10000","10001","-10000","-10001","",ones,"+1","1.0","move"],rfl,Nat.succ_pos _,Nat.le_of_ble_eq_true rfl,?_⟩
  simp only [List.forall_mem_cons]
  refine⟨?_,?_,?_,?_,?_,?_,?_,?_,?_,?_,?_,?_,?_,?_,?_,?_,?_,?_,?_,?_,fun w h=>by cases h⟩ <;> first | exact hm1 | decide +kernel
 rw [hws];refine loopN (fun i δ h=>∃ (s l:Int) (g:GG) (o3 o4 o5 o6 o7 o8 o9 o10:Option Val),δ = [some (.scr ns),some T0,some (.lst (ws.map .str)),o3,o4,o5,o6,o7,o8,o9,o10]/\h=hT (cel cs) s l g []/\0<=s/\s<=3100 * i) ?_ ?_ ?_
 .exact⟨0,0,_,_,_,_,_,_,_,_,_,rfl,rfl,by omega,by omega⟩
 .rintro i δ h hi ⟨s,l,g,o3,o4,o5,o6,o7,o8,o9,o10,rfl,rfl,s0,s1⟩;have hi:i < 5:=hi;refine⟨_,rfl,?_⟩;walk_at"v";refine eS (by omega) (by simp; omega) fun v hv _=>?_;obtain⟨m,rfl,hm⟩:∃ m:Nat,v = .int m/\m<=110:=by
   simp only [List.mem_cons,List.not_mem_nil,or_false] at hv
   rcases hv with rfl | rfl | rfl | rfl | rfl
   .exact⟨0,rfl,by decide⟩
   .exact⟨3,rfl,by decide⟩
   .exact⟨12,rfl,by decide⟩
   .exact⟨110,rfl,by decide⟩
   .exact⟨5,rfl,by decide⟩
  walk_at"v";refine mO hm ⟨s0,by omega⟩ fun ts s1 l1 hts hl hs1=>?_;walk_at"v";refine s_join (fun δ1 h1=>∃ us:List Tq,(∀ t∈us,dW t)/\us.length<=112/\h1=hT (cel cs) s1 l1 g []/\δ1=[some (.scr ns),some T0,some (.lst (ws.map .str)),some (.int (i:Nat)),some (.lst (us.map tqV)),o5,o6,o7,o8,o9,o10]) ?_ ?_
  .refine el (b:=decide (i=4)) (by walk_at"v"; exact⟨Bool.eq_iff_iff.mpr (by rw [decide_eq_true_iff,decide_eq_true_iff]; omega),rfl⟩) (fun e=>?_) (fun e=>?_)
   .walk_at"v";refine⟨((1000000000,9,"lost",-10000,10000):Tq) :: ts ++ [((0,0,"up",10000,-10000):Tq)],?_,by simp; omega,rfl,?_⟩
    .have k1:(Str.ofString "lost")∈cq:=by unfold cq; simp
     have k2:(Str.ofString "up")∈cq:=by unfold cq; simp
     intro t ht;rcases List.mem_append.mp ht with ht | ht
     .rcases List.mem_cons.mp ht with rfl | ht
      .exact⟨⟨by decide,by decide⟩,⟨by decide,by decide⟩,k1,⟨by decide,by decide⟩,by decide,by decide⟩
      .exact hts t ht
     .rw [List.mem_singleton.mp ht];exact⟨⟨by decide,by decide⟩,⟨by decide,by decide⟩,k2,⟨by decide,by decide⟩,by decide,by decide⟩
    .rw [List.map_append]
     rfl
   .exact⟨ts,hts,by omega,rfl,rfl⟩
  rintro δ1 h1 ⟨us,hus,hul,rfl,rfl⟩;walk_at"v";refine⟨rfl,?_⟩;walk_at"v";refine gQ tqV us (fun _=>true) (fun t=>.str (cC t)) ?_ (by omega) ?_ ?_
  .walk_at"v";exact⟨rfl,rfl⟩
  .intro a ha;refine⟨_,rfl,?_⟩;walk_at"v";refine⟨rfl,rfl,fun _=>?_⟩;walk_at"v";refine⟨rfl,?_⟩;walk_at"v";refine gQ (fun a:Val×Str=>a.1) (twv a) (fun _=>true) (fun a=>.str a.2) ?_ (by simp [twv]) ?_ ?_
   .walk_at"v";exact⟨rfl,rfl⟩
   .intro b hb;refine⟨_,rfl,?_⟩;walk_at"v";refine⟨rfl,rfl,fun _=>?_⟩;walk_at"v";exact p9 (hus a ha) b hb
   rw [List.filter_eq_self.mpr fun _ _=>rfl,twv_w];walk_at"v";refine fj (qa (hus a ha)) ?_;exact⟨rfl,rfl⟩
  rw [List.filter_eq_self.mpr fun _ _=>rfl];walk_at"v";rw [show(us.map fun t=>Val.str (cC t))=(us.map cC).map Val.str by rw [List.map_map]; rfl];refine fj (ly hus hul) ?_;show wpS _ _;walk_at"v";have hx:=tU hus;have hy:=sW hus hul;have hz:=kh (z:=eL us) (by omega);have hv:Sv 2 (.lst (us.map tqV)):=qx (qw fun t ht=>sv_tq (hus t ht).2.2.1);refine s_ifF ?_;walk_at"v";refine tK hus hul ?_;walk_at"v";rw [if_neg (by rw [show eL us=Txt.join (Str.ofString "\n") (List.map cC us) from rfl,decide_eq_true rfl]; decide)];walk_at"v";refine mH (z:=eL us) (o:=none) (by omega) hz hx.1 fun g2=>?_;rw [show uM (rowsOf (eL us)) none = .lst (us.map tqV) by show Val.lst (rdV (rowsOf (eL us)))=_; rw [hx.2]];walk_at"v";refine iV hv ?_;walk_at"v";refine⟨rfl,?_⟩;walk_at"v";have hy':(Txt.join (Str.ofString "\n") (us.map cC)).length<=7000:=hy;refine ph hy' (by decide) hw0 hw1 hw ⟨by omega,by omega⟩ fun z1 s2 l2 hz1 hs2=>?_;walk_at"v";refine bD (by omega) (by omega) (by omega) (by omega) fun v s3 l3 v0 v1 v2 v3=>?_;refine eS v0 (by simp; omega) fun od hod _=>?_;have ho:Thg od:=by
   simp only [List.mem_cons,List.not_mem_nil,or_false] at hod
   rcases hod with rfl | rfl | rfl | rfl | rfl
   .exact .inl (.inl rfl)
   .exact .inl (.inr (.inl ⟨_,rfl⟩))
   .exact .inl (.inr (.inr (.inl ⟨_,rfl⟩)))
   .exact .inl (.inr (.inr (.inr ⟨_,rfl⟩)))
   .exact .inr ⟨_,rfl,by decide +kernel⟩
  walk_at"v";refine ph (B:=26000) (by omega) (by decide) hw0 hw1 hw ⟨by omega,by omega⟩ fun z2 s4 l4 hz2 hs4=>?_;walk_at"v";refine loopD (fun j δ h=>∃ (g:GG) (o8 o9 o10:Option Val),δ = [some (.scr ns),some T0,some (.lst (ws.map .str)),some (.int (i:Nat)),some (.lst (us.map tqV)),some (.str (eL us)),some (.str z1),some od,o8,o9,o10]/\h=hT (cel cs) s4 l4 g []) ?_ ?_ ?_
  .exact⟨_,_,_,_,rfl,rfl⟩
  .rintro j δ h x hx ⟨g,o8,o9,o10,rfl,rfl⟩;have kx:Thg x:=by
    have hx:=List.mem_of_getElem? hx
    simp only [List.mem_cons,List.not_mem_nil,or_false] at hx
    rcases hx with rfl | rfl | rfl
    .exact .inr ⟨_,rfl,by omega⟩
    .exact .inr ⟨_,rfl,by omega⟩
    .exact ho
   refine⟨_,rfl,?_⟩;walk_at"v";refine s_ifF ?_;walk_at"v";rcases kx with kx | ⟨z,rfl,kx⟩
   .refine uT kx fun g2=>?_;walk_at"v";refine due_x kx ?_;refine iV (n:=1) (mU (dz gw mV)) ?_;walk_at"v";exact⟨rfl,_,_,_,_,rfl,rfl⟩
   .obtain⟨o,ho⟩:=qU (rowsOf z);refine mH kx (kh kx) ho fun g2=>?_;walk_at"v";refine due_ok kx (kh kx) ho ?_;refine iV sv_due ?_;walk_at"v";exact⟨rfl,_,_,_,_,rfl,rfl⟩
  .rintro δ h ⟨g,o8,o9,o10,rfl,rfl⟩;walk_at"v";exact⟨s4,l4,_,_,_,_,_,_,_,_,_,rfl,rfl,by omega,by omega⟩
 .rintro δ h ⟨s,l,g,o3,o4,o5,o6,o7,o8,o9,o10,rfl,rfl,s0,s1⟩;walk_at"v";exact jW rfl rfl
end
end K10
namespace K10
open PySem PySem.Spec PyProof.Rows L2 B M
structure Txt(p:Pm):Prop where
 n_scene:p.nm 0 = "scene"/\0 < p.nf
 n_forms:p.nm 1 = "forms"/\1 < p.nf
 n_spots:p.nm 2 = "spots"/\2 < p.nf
 n_number:p.nm 3 = "number"/\3 < p.nf
 n_way:p.nm 4 = "way"/\4 < p.nf
 n_touches:p.nm 5 = "touches"/\5 < p.nf
 n_spot:p.nm 6 = "spot"/\6 < p.nf
 n_contest:p.nm 7 = "contest"/\7 < p.nf
 n_labelled:p.nm 8 = "labelled"/\8 < p.nf
 n_part:p.nm 9 = "part"/\9 < p.nf
 n_wish:p.nm 10 = "wish"/\10 < p.nf
 n_kind:p.nm 11 = "kind"/\11 < p.nf
 n_label:p.nm 12 = "label"/\12 < p.nf
 n_strokes:p.nm 13 = "strokes"/\13 < p.nf
 n_state:p.nm 14 = "state"/\14 < p.nf
 n_since:p.nm 15 = "since"/\15 < p.nf
 n_why:p.nm 16 = "why"/\16 < p.nf
 n_taps:p.nm 17 = "taps"/\17 < p.nf
 n_machine_at:p.nm 18 = "machine_at"/\18 < p.nf
 n_is_lifted:p.nm 19 = "is_lifted"/\19 < p.nf
 n_due:p.nm 20 = "due"/\20 < p.nf
 n_counted:p.nm 21 = "counted"/\21 < p.nf
 n_claimed:p.nm 22 = "claimed"/\22 < p.nf
 n_begun_with:p.nm 23 = "begun_with"/\23 < p.nf
 n_told_at:p.nm 24 = "told_at"/\24 < p.nf
 n_is_over:p.nm 25 = "is_over"/\25 < p.nf
 n_parts:p.nm 26 = "parts"/\26 < p.nf
 n_beside:p.nm 27 = "beside"/\27 < p.nf
 n_heeds:p.nm 28 = "heeds"/\28 < p.nf
 n_slop:p.nm 29 = "slop"/\29 < p.nf
 n_gap:p.nm 30 = "gap"/\30 < p.nf
 n_guessing:p.nm 31 = "guessing"/\31 < p.nf
 n_shelves:p.nm 32 = "shelves"/\32 < p.nf
 n_hopes:p.nm 33 = "hopes"/\33 < p.nf
 n_time:p.nm 34 = "time"/\34 < p.nf
 n_touched:p.nm 35 = "touched"/\35 < p.nf
 n_claims:p.nm 36 = "claims"/\36 < p.nf
 n_rows:p.nm 37 = "rows"/\37 < p.nf
 n_contests:p.nm 38 = "contests"/\38 < p.nf
 n_seen:p.nm 39 = "seen"/\39 < p.nf
 n_time_told:p.nm 40 = "time_told"/\40 < p.nf
 n_held:p.nm 41 = "held"/\41 < p.nf
 n_ears:p.nm 42 = "ears"/\42 < p.nf
 n_away:p.nm 43 = "away"/\43 < p.nf
 n_deeds:p.nm 44 = "deeds"/\44 < p.nf
 n_reader:p.nm 45 = "reader"/\45 < p.nf
 n_watchers:p.nm 46 = "watchers"/\46 < p.nf
 n_name:p.nm 47 = "name"/\47 < p.nf
 n_box:p.nm 48 = "box"/\48 < p.nf
 n_ear:p.nm 49 = "ear"/\49 < p.nf
 n_shelf:p.nm 50 = "shelf"/\50 < p.nf
 n_wishes:p.nm 51 = "wishes"/\51 < p.nf
 n_within:p.nm 52 = "within"/\52 < p.nf
 n_about:p.nm 53 = "about"/\53 < p.nf
 n_names:p.nm 54 = "names"/\54 < p.nf
 n_named:p.nm 55 = "named"/\55 < p.nf
 n_states:p.nm 56 = "states"/\56 < p.nf
 n_wanted:p.nm 57 = "wanted"/\57 < p.nf
 n_machine:p.nm 58 = "machine"/\58 < p.nf
 n_other:p.nm 59 = "other"/\59 < p.nf
 n_wants:p.nm 60 = "wants"/\60 < p.nf
 n_best:p.nm 61 = "best"/\61 < p.nf
 n_lines:p.nm 62 = "lines"/\62 < p.nf
 n_row:p.nm 63 = "row"/\63 < p.nf
 xc_NoText:XcOk p "NoText" 10 (some 63)
 xm_NoText:XmOk p "NoText" 10 [(10,true)]
 xf_row:∀ c∈[10],XfOk p c 63
 xi_ValueError:∀ c b,(c,b)∈[(10,true)]->sH p.K (p.ca c)/\PySem.W.kitOne p.K (.ref (p.ca c)) (.type "ValueError")=some b
 m__law_asked:p.mg "_law_asked" = some (.ref (p.fa 0))
 m__law_draw:p.mg "_law_draw" = some (.ref (p.fa 1))
 m__law_bent_text:p.mg "_law_bent_text" = some (.ref (p.fa 2))
 m__law_number:p.mg "_law_number" = some (.ref (p.fa 3))
 m__law_touch_in:p.mg "_law_touch_in" = some (.ref (p.fa 4))
 m__law_due:p.mg "_law_due" = some (.ref (p.fa 5))
 m__law_tape:p.mg "_law_tape" = some (.ref (p.fa 6))
 m__law_touches:p.mg "_law_touches" = some (.ref (p.fa 7))
 m_rows_in:p.mg "rows_in" = some (.ref (p.fa 8))
 m_is_whole:p.mg "is_whole" = some (.ref (p.fa 9))
 m_is_moment:p.mg "is_moment" = some (.ref (p.fa 10))
 m_is_touch:p.mg "is_touch" = some (.ref (p.fa 11))
 m_number_in:p.mg "number_in" = some (.ref (p.fa 12))
 m_touch_in:p.mg "touch_in" = some (.ref (p.fa 13))
 m_read_touches:p.mg "read_touches" = some (.ref (p.fa 14))
 m_words_of:p.mg "words_of" = some (.ref (p.fa 15))
 m_show_touches:p.mg "show_touches" = some (.ref (p.fa 16))
 m_law:p.mg "law" = some (.ref (p.fa 17))
 b_isinstance:p.mg "isinstance" = none
 b_bool:p.mg "bool" = none
 b_ValueError:p.mg "ValueError" = none
 b_len:p.mg "len" = none
 b_int:p.mg "int" = none
 b_all:p.mg "all" = none
 b_enumerate:p.mg "enumerate" = none
 b_str:p.mg "str" = none
 b_range:p.mg "range" = none
 b_tuple:p.mg "tuple" = none
 g_LAST_MOMENT:eX p "LAST_MOMENT" (.int 1000000000)
 g_FAR:eX p "FAR" (.int 10000)
 g_WORDS:eX p "WORDS" (.kt [(.str "down"),(.str "move"),(.str "up"),(.str "lost")])
 g_FIGURES:eX p "FIGURES" (.str "0123456789")
 g_MOST_FIGURES:eX p "MOST_FIGURES" (.int 10)
abbrev gr:List Str:=["_law_asked_here","_law_text","_law_found","_law_caught","e"]
abbrev kQ:List Str:=["_law_asked_here","_law_text"]
theorem jr:FnScope gr kQ (defScope aZ):=⟨rfl,rfl,rfl,by decide +kernel,rfl,by decide +kernel,by decide +kernel⟩
theorem kq{p:Pm}{n:Nat}(X:Txt p)(hc:aH p tab n):SSs (ctx p n 0 "_law_asked" aZ gr) (defBody aZ) (bY (ar tab n)) :=
  (aj (ax (i:=2) rfl (.inl rfl) bJ)
  (aj (ax (i:=3) rfl (.inl rfl) bJ)
  (aj (th (i:=4) (j:=3) (c0:=10) (tbl:=[(10,true)]) 95 rfl rfl rfl rfl rfl rfl X.xm_NoText.mg X.xm_NoText.ex (ay (ax (i:=2) rfl (.inl rfl) (qN (i:=0) hc (fun f hq=>(by rcases List.mem_cons.mp hq with rfl | hq; exact⟨cQ,bx,rfl⟩; exact nomatch hq)) (Nat.le_add_right _ _) rfl (.inl rfl) (aa (va 1 rfl rfl) ah)))))
  (aj (bC (b9 sA (va 3 rfl rfl) bJ) (ay (aD (va 2 rfl rfl))) aU)
  (ay (aD (iJ (bG (j7 (cK (se_isX (x:="ValueError") (T:="ValueError") [(10,true)] X.xi_ValueError (by kernel_rfl) (by rfl) X.b_isinstance (by rfl) X.b_ValueError (va 3 rfl rfl))) (ij (c8 (cK (e7 .bool rfl (by rfl) X.b_isinstance (by rfl) X.b_bool (ot [10] X.n_row.1 X.xf_row (va 3 rfl rfl)))))))) (cz (aa (ot [10] X.n_row.1 X.xf_row (va 3 rfl rfl)) ah)) au)))))))
abbrev g8:List Str:=["_law_tape_here","_law_many","_law_found","_law_spot","_law_cells","_law_cell","_law_great","_law_primes","_law_prime","_law_seed"]
abbrev mM:List Str:=["_law_tape_here","_law_many"]
theorem kg:FnScope g8 mM (defScope bu):=⟨rfl,rfl,rfl,by decide +kernel,rfl,by decide +kernel,by decide +kernel⟩
theorem lC{p:Pm}{n:Nat}(X:Txt p)(hc:aH p tab n):SSs (ctx p n 1 "_law_draw" bu g8) (defBody bu) (c7 (ar tab n)) :=
  (aj (bC (b9 oY (sb (va 0 rfl rfl) au) af) (aj (ax (i:=2) rfl (.inl rfl) (cA (sb (va 0 rfl rfl) au) (va 1 rfl rfl)))
  (aj (il (va 0 rfl rfl) au (iq (sb (va 0 rfl rfl) au) (va 1 rfl rfl)))
  (ay (aD (va 2 rfl rfl))))) aU)
  (aj (ax (i:=3) rfl (.inl rfl) (sb (va 0 rfl rfl) au))
  (aj (il (va 0 rfl rfl) au (aE (va 3 rfl rfl) af))
  (aj (ax (i:=4) rfl (.inl rfl) (se_or (sb (va 0 rfl rfl) au) (mZ (aB .dat (aa af ah)))))
  (aj (ax (i:=5) rfl (.inl rfl) (sb (va 4 rfl rfl) (cA (va 3 rfl rfl) (bT (by rfl) X.b_len (aa (va 4 rfl rfl) ah)))))
  (aj (bC (bG (j7 (b9 cs_ge (va 5 rfl rfl) (cL af af)) (ij (b9 cs_lt (va 3 rfl rfl) (bT (by rfl) X.b_len (aa (va 4 rfl rfl) ah)))))) (aj (ax (i:=6) rfl (.inl rfl) (cA (iI (va 5 rfl rfl) (cL af af)) (cL (cL (cL af af) af) af)))
  (aj (il (va 0 rfl rfl) au (iq (va 6 rfl rfl) (va 1 rfl rfl)))
  (ay (aD (cA (va 6 rfl rfl) (va 1 rfl rfl)))))) aU)
  (aj (ax (i:=7) rfl (.inl rfl) (aB .dat (aa af (aa af (aa af (aa af (aa af (aa af (aa af ah)))))))))
  (aj (ax (i:=8) rfl (.inl rfl) (sb (va 7 rfl rfl) (cA (va 3 rfl rfl) af)))
  (aj (ax (i:=9) rfl (.inl rfl) (cA (aE (aE (aE (cM (cA (va 5 rfl rfl) (va 8 rfl rfl)) af) (cM (cM af (va 3 rfl rfl)) (va 3 rfl rfl))) (cM af (va 3 rfl rfl))) af) (va 8 rfl rfl)))
  (aj (ax (i:=9) rfl (.inl rfl) (cA (cM (va 9 rfl rfl) (aE (va 9 rfl rfl) af)) (sb (va 7 rfl rfl) (cA (aE (va 3 rfl rfl) af) af))))
  (aj (ax (i:=2) rfl (.inl rfl) (iq (cA (cM (va 9 rfl rfl) (va 9 rfl rfl)) (va 8 rfl rfl)) af))
  (aj (bC (b9 oY (va 1 rfl rfl) (cL af af)) (ay (ax (i:=2) rfl (.inl rfl) (aE (cA (va 2 rfl rfl) (cL af af)) (cM (cL af af) (cl hc aw X.m__law_draw (aa (va 0 rfl rfl) (aa (aE (iq (va 1 rfl rfl) (cL af af)) af) ah))))))) aU)
  (ay (aD (cA (va 2 rfl rfl) (va 1 rfl rfl))))))))))))))))
abbrev bA:List Str:=["_law_tape_here","_law_text","_law_some","_law_rows","_law_at","_law_words","_law_spot","_law_word","_law_signs","_law_sign","_law_place","_law_more","_law_lists","_law_texts","_law_one"]
abbrev gO:List Str:=["_law_tape_here","_law_text","_law_some"]
theorem fK:FnScope bA gO (defScope aF):=⟨rfl,rfl,rfl,by decide +kernel,rfl,by decide +kernel,by decide +kernel⟩
theorem gE{p:Pm}{n:Nat}(X:Txt p)(hc:aH p tab n):SSs (ctx p n 2 "_law_bent_text" aF bA) (defBody aF) (bz (ar tab n)) :=
  (aj (ax (i:=3) rfl (.inr ⟨rfl,rfl⟩) (dq (va 1 rfl rfl) (aa au ah)))
  (aj (ax (i:=4) rfl (.inr ⟨rfl,rfl⟩) (cl hc aw X.m__law_draw (aa (va 0 rfl rfl) (aa (bT (by rfl) X.b_len (aa (vb 3 rfl rfl) ah)) ah))))
  (aj (ax (i:=5) rfl (.inl rfl) (dq (sb (vb 3 rfl rfl) (vb 4 rfl rfl)) (aa au ah)))
  (aj (ax (i:=6) rfl (.inl rfl) (cl hc aw X.m__law_draw (aa (va 0 rfl rfl) (aa (bT (by rfl) X.b_len (aa (va 5 rfl rfl) ah)) ah))))
  (aj (ax (i:=7) rfl (.inl rfl) (sb (va 2 rfl rfl) (cl hc aw X.m__law_draw (aa (va 0 rfl rfl) (aa (bT (by rfl) X.b_len (aa (va 2 rfl rfl) ah)) ah)))))
  (aj (ax (i:=8) rfl (.inl rfl) au)
  (aj (ax (i:=9) rfl (.inl rfl) (sb (va 8 rfl rfl) (cl hc aw X.m__law_draw (aa (va 0 rfl rfl) (aa (bT (by rfl) X.b_len (aa (va 8 rfl rfl) ah)) ah)))))
  (aj (ax (i:=10) rfl (.inl rfl) (cl hc aw X.m__law_draw (aa (va 0 rfl rfl) (aa (aE (bT (by rfl) X.b_len (aa (va 1 rfl rfl) ah)) af) ah))))
  (aj (ax (i:=11) rfl (.inl rfl) (aB .loc (aa (aB .dat (aa (dA au (aa (aE (aE (cE (va 5 rfl rfl) cD (eM (va 6 rfl rfl))) (aB .dat (aa (va 7 rfl rfl) ah))) (cE (va 5 rfl rfl) (eM (aE (va 6 rfl rfl) af)) cD)) ah)) ah)) (aa (aB .dat ah) (aa (aB .dat (aa (sb (vb 3 rfl rfl) (vb 4 rfl rfl)) (aa (sb (vb 3 rfl rfl) (vb 4 rfl rfl)) ah))) ah)))))
  (aj (ax (i:=11) rfl (.inl rfl) (se_cat .loc (va 11 rfl rfl) (aB .dat (aa (aB .dat (aa (sb (vb 3 rfl rfl) (cl hc aw X.m__law_draw (aa (va 0 rfl rfl) (aa (bT (by rfl) X.b_len (aa (vb 3 rfl rfl) ah)) ah)))) ah)) (aa (aB .dat (aa (dA au (aa (aE (aE (cE (va 5 rfl rfl) cD (eM (va 6 rfl rfl))) (aB .dat (aa (va 7 rfl rfl) ah))) (cE (va 5 rfl rfl) (eM (va 6 rfl rfl)) cD)) ah)) ah)) ah)))))
  (aj (ik (eI (va 11 rfl rfl) (aa (aB .dat (aa (sb (vb 3 rfl rfl) (vb 4 rfl rfl)) (aa (sb (vb 3 rfl rfl) (cl hc aw X.m__law_draw (aa (va 0 rfl rfl) (aa (bT (by rfl) X.b_len (aa (vb 3 rfl rfl) ah)) ah)))) ah))) ah)))
  (aj (ax (i:=12) rfl (.inl rfl) (aE (gS .dat [("_law_one",14)] (da (va 11 rfl rfl)) (show blkC bA (defScope aF) _ _=true by decide +kernel) (na 14 rfl rfl) cW (aE (aE (cE (vc 3 rfl) cD (eM (vc 4 rfl))) (vc 14 rfl)) (cE (vc 3 rfl) (eM (aE (vc 4 rfl) af)) cD))) (aB .dat (aa (aE (vb 3 rfl rfl) (aB .dat (aa au ah))) (aa (cE (vb 3 rfl rfl) cD (eM (vb 4 rfl rfl))) (aa (aE (aB .dat (aa au ah)) (vb 3 rfl rfl)) ah))))))
  (aj (qA (i:=13) .dat [("_law_one",14)] rfl rfl rfl rfl (by decide +kernel) (da (va 12 rfl rfl)) (show blkC bA (defScope aF) _ _=true by decide +kernel) (na 14 rfl rfl) cW (dA au (aa (vc 14 rfl) ah)))
  (aj (ax (i:=13) rfl (.inl rfl) (aE (va 13 rfl rfl) (aB .dat (aa (aE (aE (cE (va 1 rfl rfl) cD (eM (va 10 rfl rfl))) (va 9 rfl rfl)) (cE (va 1 rfl rfl) (eM (va 10 rfl rfl)) cD)) (aa (aE (aE (cE (va 1 rfl rfl) cD (eM (va 10 rfl rfl))) (va 9 rfl rfl)) (cE (va 1 rfl rfl) (eM (aE (va 10 rfl rfl) af)) cD)) ah)))))
  (ay (aD (sb (va 13 rfl rfl) (cl hc aw X.m__law_draw (aa (va 0 rfl rfl) (aa af ah))))))))))))))))))))
abbrev di:List Str:=["_law_word","_law_least","_law_most","_law_figures","_law_sign"]
abbrev jx:List Str:=["_law_word","_law_least","_law_most"]
theorem iL:FnScope di jx (defScope aR):=⟨rfl,rfl,rfl,by decide +kernel,rfl,by decide +kernel,by decide +kernel⟩
theorem js{p:Pm}{n:Nat}(X:Txt p)(hc:aH p tab n):SSs (ctx p n 3 "_law_number" aR di) (defBody aR) (cn (ar tab n)) :=
  (aj (ax (i:=3) rfl (.inl rfl) (iJ (b9 jf (cE (va 0 rfl rfl) cD (eM af)) au) (cE (va 0 rfl rfl) (eM af) cD) (va 0 rfl rfl)))
  (aj (bC (bG (eR (b9 jf (va 3 rfl rfl) au) (eR (b9 oY (bT (by rfl) X.b_len (aa (va 3 rfl rfl) ah)) af) (eg (c8 (cK (qP (by rfl) X.b_all (aa (gS .dat [("_law_sign",4)] (da (va 3 rfl rfl)) (show blkC di (defScope aR) _ _=true by decide +kernel) (na 4 rfl rfl) cW (qK (vc 4 rfl) au)) ah)))))))) (ay (aD bJ)) aU)
  (aj (bC (bG (eR (bG (j7 (b9 jf (sb (va 3 rfl rfl) af) au) (ij (b9 eC (va 0 rfl rfl) au)))) (eg (c8 (st_ch oX oX (va 1 rfl rfl) (ip (by rfl) X.b_int (aa (va 0 rfl rfl) ah)) (va 2 rfl rfl)))))) (ay (aD bJ)) aU)
  (ay (aD (ip (by rfl) X.b_int (aa (va 0 rfl rfl) ah)))))))
abbrev dP:List Str:=["_law_row","_law_words","_law_numbers"]
abbrev ia:List Str:=["_law_row"]
theorem gx:FnScope dP ia (defScope aQ):=⟨rfl,rfl,rfl,by decide +kernel,rfl,by decide +kernel,by decide +kernel⟩
theorem hJ{p:Pm}{n:Nat}(X:Txt p)(hc:aH p tab n):SSs (ctx p n 4 "_law_touch_in" aQ dP) (defBody aQ) (bH (ar tab n)) :=
  (aj (ax (i:=1) rfl (.inl rfl) (dq (va 0 rfl rfl) (aa au ah)))
  (aj (bC (bG (eR (b9 eC (bT (by rfl) X.b_len (aa (va 1 rfl rfl) ah)) af) (eg (qy (sb (va 1 rfl rfl) af) (cz (aa au (aa au (aa au (aa au ah))))))))) (ay (aD bJ)) aU)
  (aj (ax (i:=2) rfl (.inl rfl) (aB .dat (aa (cl hc bf X.m__law_number (aa (sb (va 1 rfl rfl) af) (aa af (aa (cL af af) ah)))) (aa (cl hc bf X.m__law_number (aa (sb (va 1 rfl rfl) af) (aa af (aa af ah)))) ah))))
  (aj (ax (i:=2) rfl (.inl rfl) (aE (va 2 rfl rfl) (aB .dat (aa (cl hc bf X.m__law_number (aa (sb (va 1 rfl rfl) af) (aa (kc af) (aa af ah)))) (aa (cl hc bf X.m__law_number (aa (sb (va 1 rfl rfl) af) (aa (kc af) (aa af ah)))) ah)))))
  (aj (bC (st_in bJ (va 2 rfl rfl)) (ay (aD bJ)) aU)
  (ay (aD (cz (aa (sb (va 2 rfl rfl) af) (aa (sb (va 2 rfl rfl) af) (aa (sb (va 1 rfl rfl) af) (aa (sb (va 2 rfl rfl) af) (aa (sb (va 2 rfl rfl) af) ah)))))))))))))
abbrev jq:List Str:=["_law_text","_law_found","_law_at","_law_row","_law_touch"]
abbrev nS:List Str:=["_law_text"]
theorem lu:FnScope jq nS (defScope bN):=⟨rfl,rfl,rfl,by decide +kernel,rfl,by decide +kernel,by decide +kernel⟩
theorem nj{p:Pm}{n:Nat}(X:Txt p)(hc:aH p tab n):SSs (ctx p n 5 "_law_due" bN jq) (defBody bN) (cO (ar tab n)) :=
  (aj (bC (c8 (cK (e7 .str rfl (by rfl) X.b_isinstance (by rfl) X.b_str (va 0 rfl rfl)))) (ay (aD (cz (aa af ah)))) aU)
  (aj (ax (i:=1) rfl (.inl rfl) (aB .loc ah))
  (aj (iG (vs:=[2,3]) (oo (by rfl) X.b_enumerate (aa (iJ (b9 eC (va 0 rfl rfl) au) (dq (va 0 rfl rfl) (aa au ah)) (aB .dat ah)) ah)) (qJ (n:=2) (fJ (na 2 rfl rfl) (fJ (na 3 rfl rfl) oq)) (dy (dy jy))) (aj (ax (i:=4) rfl (.inl rfl) (cl hc cV X.m__law_touch_in (aa (va 3 rfl rfl) ah)))
  (aj (bC (b9 sA (va 4 rfl rfl) bJ) (ay (aD (cz (aa (va 2 rfl rfl) ah)))) aU)
  (ay (ik (eI (va 1 rfl rfl) (aa (va 4 rfl rfl) ah)))))))
  (ay (aD (va 1 rfl rfl))))))
abbrev g7:List Str:=["_law_script"]
abbrev mL:List Str:=["_law_script"]
theorem kf:FnScope g7 mL (defScope br):=⟨rfl,rfl,rfl,by decide +kernel,rfl,by decide +kernel,by decide +kernel⟩
theorem lB{p:Pm}{n:Nat}(X:Txt p)(hc:aH p tab n):SSs (ctx p n 6 "_law_tape" br g7) (defBody br) (c6 (ar tab n)) :=
  (ay (aD (tP (.glo 0) (j8 au (cE (va 0 rfl rfl) cD (eM af)) (j8 au af (j8 au af sp_nil))))))
abbrev cS:List Str:=["_law_tape_here","_law_many","_law_wide","_law_down","_law_moment","_law_found","_law_places","_law_k","_law_finger","_law_word","_law_near","_law_step","_law_x","_law_y","_law_one"]
abbrev jl:List Str:=["_law_tape_here","_law_many","_law_wide"]
theorem hI:FnScope cS jl (defScope aO):=⟨rfl,rfl,rfl,by decide +kernel,rfl,by decide +kernel,by decide +kernel⟩
theorem iR{p:Pm}{n:Nat}(X:Txt p)(hc:aH p tab n):SSs (ctx p n 7 "_law_touches" aO cS) (defBody aO) (bX (ar tab n)) :=
  (aj (ax (i:=3) rfl (.inl rfl) (aB .dat ah))
  (aj (ax (i:=4) rfl (.inl rfl) (cM (cl hc aw X.m__law_draw (aa (va 0 rfl rfl) (aa af ah))) (cl hc aw X.m__law_draw (aa (va 0 rfl rfl) (aa af ah)))))
  (aj (ax (i:=5) rfl (.inl rfl) (aB .loc ah))
  (aj (ax (i:=6) rfl (.inl rfl) (tO .loc))
  (aj (iG (vs:=[7]) (qI (by rfl) X.b_range (aa (va 1 rfl rfl) ah)) (na 7 rfl rfl) (aj (ax (i:=4) rfl (.inl rfl) (aE (va 4 rfl rfl) (sb (aB .dat (aa af (aa af (aa af (aa af (aa af (aa af (aa af (aa af (aa af (aa af (aa (cl hc aw X.m__law_draw (aa (va 0 rfl rfl) (aa af ah))) ah)))))))))))) (cl hc aw X.m__law_draw (aa (va 0 rfl rfl) (aa af ah))))))
  (aj (ax (i:=8) rfl (.inr ⟨rfl,rfl⟩) (sb (aB .dat (aa af (aa af (aa af (aa (cl hc aw X.m__law_draw (aa (va 0 rfl rfl) (aa af ah))) ah))))) (cl hc aw X.m__law_draw (aa (va 0 rfl rfl) (aa af ah)))))
  (aj (ax (i:=9) rfl (.inl rfl) (iJ (st_in (vb 8 rfl rfl) (va 3 rfl rfl)) (sb (aB .dat (aa au (aa au (aa au (aa au (aa au (aa au ah))))))) (cl hc aw X.m__law_draw (aa (va 0 rfl rfl) (aa af ah)))) au))
  (aj (ax (i:=10) rfl (.inl rfl) (qL (va 6 rfl rfl) (vb 8 rfl rfl) (cz (aa (cl hc aw X.m__law_draw (aa (va 0 rfl rfl) (aa (va 2 rfl rfl) ah))) (aa (cl hc aw X.m__law_draw (aa (va 0 rfl rfl) (aa (va 2 rfl rfl) ah))) ah)))))
  (aj (ax (i:=11) rfl (.inl rfl) (sb (aB .dat (aa af (aa af (aa af (aa af (aa af (aa af ah))))))) (cl hc aw X.m__law_draw (aa (va 0 rfl rfl) (aa af ah)))))
  (aj (ss_par (i:=12) (j:=13) rfl rfl (by decide) rfl rfl (aa (aE (sb (va 10 rfl rfl) af) (cM (va 11 rfl rfl) (iI (cl hc aw X.m__law_draw (aa (va 0 rfl rfl) (aa af ah))) af))) (aa (aE (sb (va 10 rfl rfl) af) (cM (va 11 rfl rfl) (iI (cl hc aw X.m__law_draw (aa (va 0 rfl rfl) (aa af ah))) af))) ah)) (by intro env h; cases env; cases h; rfl))
  (aj (il (va 6 rfl rfl) (vb 8 rfl rfl) (cz (aa (va 12 rfl rfl) (aa (va 13 rfl rfl) ah))))
  (aj (ik (eI (va 5 rfl rfl) (aa (cz (aa (va 4 rfl rfl) (aa (vb 8 rfl rfl) (aa (va 9 rfl rfl) (aa (va 12 rfl rfl) (aa (va 13 rfl rfl) ah)))))) ah)))
  (ay (ax (i:=3) rfl (.inl rfl) (aE (gS .dat [("_law_one",14)] (da (va 3 rfl rfl)) (show blkC cS (defScope aO) _ _=true by decide +kernel) (na 14 rfl rfl) (sZ (b9 eC (vc 14 rfl) (vc 8 rfl))) (vc 14 rfl)) (cM (aB .dat (aa (vb 8 rfl rfl) ah)) (ip (by rfl) X.b_int (aa (qK (va 9 rfl rfl) (cz (aa au (aa au ah)))) ah)))))))))))))))
  (ay (aD (va 5 rfl rfl))))))))
abbrev jU:List Str:=["text"]
abbrev pH:List Str:=["text"]
theorem m8:FnScope jU pH (defScope cb):=⟨rfl,rfl,rfl,by decide +kernel,rfl,by decide +kernel,by decide +kernel⟩
theorem pw{p:Pm}{n:Nat}(X:Txt p)(hc:aH p tab n):SSs (ctx p n 8 "rows_in" cb jU) (defBody cb) (cH (ar tab n)) :=
  (aj (bC (c8 (cK (e7 .str rfl (by rfl) X.b_isinstance (by rfl) X.b_str (va 0 rfl rfl)))) (ay (jC X.xc_NoText (Nat.le_add_left _ _) rfl (aa af ah))) aU)
  (ay (aD (iJ (b9 eC (va 0 rfl rfl) au) (dq (va 0 rfl rfl) (aa au ah)) (aB .dat ah)))))
abbrev jn:List Str:=["thing","least","most"]
abbrev nQ:List Str:=["thing","least","most"]
theorem lq:FnScope jn nQ (defScope bL):=⟨rfl,rfl,rfl,by decide +kernel,rfl,by decide +kernel,by decide +kernel⟩
theorem nh{p:Pm}{n:Nat}(X:Txt p)(hc:aH p tab n):SSs (ctx p n 9 "is_whole" bL jn) (defBody bL) (dJ (ar tab n)) :=
  (ay (aD (m7 (e7 .int rfl (by rfl) X.b_isinstance (by rfl) X.b_int (va 0 rfl rfl)) (m7 (se_not (e7 .bool rfl (by rfl) X.b_isinstance (by rfl) X.b_bool (va 0 rfl rfl))) (mZ (se_ch oX oX (va 1 rfl rfl) (va 0 rfl rfl) (va 2 rfl rfl)))))))
abbrev g6:List Str:=["thing"]
abbrev mJ:List Str:=["thing"]
theorem ke:FnScope g6 mJ (defScope bq):=⟨rfl,rfl,rfl,by decide +kernel,rfl,by decide +kernel,by decide +kernel⟩
theorem lA{p:Pm}{n:Nat}(X:Txt p)(hc:aH p tab n):SSs (ctx p n 10 "is_moment" bq g6) (defBody bq) (c5 (ar tab n)) :=
  (ay (aD (cl hc bR X.m_is_whole (aa (va 0 rfl rfl) (aa af (aa (ck X.g_LAST_MOMENT (by rfl)) ah))))))
abbrev jo:List Str:=["thing"]
abbrev nR:List Str:=["thing"]
theorem lr:FnScope jo nR (defScope bM):=⟨rfl,rfl,rfl,by decide +kernel,rfl,by decide +kernel,by decide +kernel⟩
theorem ni{p:Pm}{n:Nat}(X:Txt p)(hc:aH p tab n):SSs (ctx p n 11 "is_touch" bM jo) (defBody bM) (dM (ar tab n)) :=
  (aj (bC (bG (eR (c8 (cK (e7 .tuple rfl (by rfl) X.b_isinstance (by rfl) X.b_tuple (va 0 rfl rfl)))) (eg (b9 eC (bT (by rfl) X.b_len (aa (va 0 rfl rfl) ah)) af)))) (ay (aD iK)) aU)
  (aj (bC (bG (eR (c8 (cK (cl hc eP X.m_is_moment (aa (sb (va 0 rfl rfl) af) ah)))) (eg (c8 (cK (cl hc bR X.m_is_whole (aa (sb (va 0 rfl rfl) af) (aa af (aa af ah))))))))) (ay (aD iK)) aU)
  (aj (bC (bG (eR (c8 (cK (e7 .str rfl (by rfl) X.b_isinstance (by rfl) X.b_str (sb (va 0 rfl rfl) af)))) (eg (qy (sb (va 0 rfl rfl) af) (ck X.g_WORDS (by rfl)))))) (ay (aD iK)) aU)
  (ay (aD (m7 (cl hc bR X.m_is_whole (aa (sb (va 0 rfl rfl) af) (aa (iI af (ck X.g_FAR (by rfl))) (aa (ck X.g_FAR (by rfl)) ah)))) (mZ (cl hc bR X.m_is_whole (aa (sb (va 0 rfl rfl) af) (aa (iI af (ck X.g_FAR (by rfl))) (aa (ck X.g_FAR (by rfl)) ah)))))))))))
abbrev eF:List Str:=["word","figures","sign"]
abbrev mI:List Str:=["word"]
theorem kd:FnScope eF mI (defScope aX):=⟨rfl,rfl,rfl,by decide +kernel,rfl,by decide +kernel,by decide +kernel⟩
theorem lz{p:Pm}{n:Nat}(X:Txt p)(hc:aH p tab n):SSs (ctx p n 12 "number_in" aX eF) (defBody aX) (c4 (ar tab n)) :=
  (aj (ax (i:=1) rfl (.inl rfl) (iJ (b9 jf (cE (va 0 rfl rfl) cD (eM af)) au) (cE (va 0 rfl rfl) (eM af) cD) (va 0 rfl rfl)))
  (aj (bC (bG (eR (b9 jf (va 1 rfl rfl) au) (eR (b9 oY (bT (by rfl) X.b_len (aa (va 1 rfl rfl) ah)) (ck X.g_MOST_FIGURES (by rfl))) (eg (c8 (cK (qP (by rfl) X.b_all (aa (gS .dat [("sign",2)] (da (va 1 rfl rfl)) (show blkC eF (defScope aX) _ _=true by decide +kernel) (na 2 rfl rfl) cW (qK (vc 2 rfl) (ck X.g_FIGURES (by rfl)))) ah)))))))) (ay (aD bJ)) aU)
  (aj (bC (bG (j7 (b9 jf (sb (va 1 rfl rfl) af) au) (ij (b9 eC (va 0 rfl rfl) au)))) (ay (aD bJ)) aU)
  (ay (aD (ip (by rfl) X.b_int (aa (va 0 rfl rfl) ah)))))))
abbrev jm:List Str:=["row","words","found"]
abbrev nP:List Str:=["row"]
theorem lp:FnScope jm nP (defScope bK):=⟨rfl,rfl,rfl,by decide +kernel,rfl,by decide +kernel,by decide +kernel⟩
theorem ng{p:Pm}{n:Nat}(X:Txt p)(hc:aH p tab n):SSs (ctx p n 13 "touch_in" bK jm) (defBody bK) (dI (ar tab n)) :=
  (aj (ax (i:=1) rfl (.inl rfl) (dq (va 0 rfl rfl) (aa au ah)))
  (aj (bC (b9 eC (bT (by rfl) X.b_len (aa (va 1 rfl rfl) ah)) af) (ay (aD bJ)) aU)
  (aj (ax (i:=2) rfl (.inl rfl) (cz (aa (cl hc bB X.m_number_in (aa (sb (va 1 rfl rfl) af) ah)) (aa (cl hc bB X.m_number_in (aa (sb (va 1 rfl rfl) af) ah)) (aa (sb (va 1 rfl rfl) af) (aa (cl hc bB X.m_number_in (aa (sb (va 1 rfl rfl) af) ah)) (aa (cl hc bB X.m_number_in (aa (sb (va 1 rfl rfl) af) ah)) ah)))))))
  (ay (aD (iJ (cK (cl hc fE X.m_is_touch (aa (va 2 rfl rfl) ah))) (va 2 rfl rfl) bJ))))))
abbrev eE:List Str:=["text","found","at","row","touch"]
abbrev jk:List Str:=["text"]
theorem hH:FnScope eE jk (defScope aS):=⟨rfl,rfl,rfl,by decide +kernel,rfl,by decide +kernel,by decide +kernel⟩
theorem iQ{p:Pm}{n:Nat}(X:Txt p)(hc:aH p tab n):SSs (ctx p n 14 "read_touches" aS eE) (defBody aS) (aP (ar tab n)) :=
  (aj (ax (i:=1) rfl (.inl rfl) (aB .loc ah))
  (aj (iG (vs:=[2,3]) (oo (by rfl) X.b_enumerate (aa (cl hc ee X.m_rows_in (aa (va 0 rfl rfl) ah)) ah)) (qJ (n:=2) (fJ (na 2 rfl rfl) (fJ (na 3 rfl rfl) oq)) (dy (dy jy))) (aj (ax (i:=4) rfl (.inl rfl) (cl hc fD X.m_touch_in (aa (va 3 rfl rfl) ah)))
  (aj (bC (b9 sA (va 4 rfl rfl) bJ) (ay (jC X.xc_NoText (Nat.le_add_left _ _) rfl (aa (va 2 rfl rfl) ah))) aU)
  (ay (ik (eI (va 1 rfl rfl) (aa (va 4 rfl rfl) ah)))))))
  (ay (aD (va 1 rfl rfl)))))
abbrev fA:List Str:=["things","thing"]
abbrev nO:List Str:=["things"]
theorem ll:FnScope fA nO (defScope bp):=⟨rfl,rfl,rfl,by decide +kernel,rfl,by decide +kernel,by decide +kernel⟩
theorem m9{p:Pm}{n:Nat}(X:Txt p)(hc:aH p tab n):SSs (ctx p n 15 "words_of" bp fA) (defBody bp) (dH (ar tab n)) :=
  (ay (aD (dA au (aa (gS .dat [("thing",1)] (da (va 0 rfl rfl)) (show blkC fA (defScope bp) _ _=true by decide +kernel) (na 1 rfl rfl) cW (ou (by rfl) X.b_str (aa (vc 1 rfl) ah))) ah))))
abbrev cR:List Str:=["touches","touch"]
abbrev jj:List Str:=["touches"]
theorem hE:FnScope cR jj (defScope aN):=⟨rfl,rfl,rfl,by decide +kernel,rfl,by decide +kernel,by decide +kernel⟩
theorem iP{p:Pm}{n:Nat}(X:Txt p)(hc:aH p tab n):SSs (ctx p n 16 "show_touches" aN cR) (defBody aN) (bW (ar tab n)) :=
  (ay (aD (dA au (aa (gS .dat [("touch",1)] (da (va 0 rfl rfl)) (show blkC cR (defScope aN) _ _=true by decide +kernel) (na 1 rfl rfl) cW (cl hc fC X.m_words_of (aa (vc 1 rfl) ah))) ah))))
abbrev sL:List Str:=["_law_script","_law_tape_here","_law_some","_law_turn","_law_touches_here","_law_text","_law_bent","_law_odd","_law_one","_law_touch","_law_thing"]
abbrev P_law:List Str:=["_law_script"]
theorem sc_law:FnScope sL P_law (defScope gT):=⟨rfl,rfl,rfl,by decide +kernel,rfl,by decide +kernel,by decide +kernel⟩
theorem r_law{p:Pm}{n:Nat}(X:Txt p)(hc:aH p tab n):SSs (ctx p n 17 "law" gT sL) (defBody gT) (oU (ar tab n)) :=
  (aj (ax (i:=1) rfl (.inl rfl) (cl hc eQ X.m__law_tape (aa (va 0 rfl rfl) ah)))
  (aj (ax (i:=2) rfl (.inl rfl) (aB .dat (aa au (aa au (aa au (aa au (aa au (aa au (aa au (aa au (aa au (aa au (aa au (aa au (aa au ah)))))))))))))))
  (aj (ax (i:=2) rfl (.inl rfl) (aE (va 2 rfl rfl) (aB .dat (aa au (aa au (aa au (aa (tN au af) (aa au (aa au (aa au ah))))))))))
  (aj (iG (vs:=[3]) (qI (by rfl) X.b_range (aa af ah)) (na 3 rfl rfl) (aj (ax (i:=4) rfl (.inl rfl) (cl hc dm X.m__law_touches (aa (va 1 rfl rfl) (aa (sb (aB .dat (aa af (aa af (aa af (aa af (aa af ah)))))) (va 3 rfl rfl)) (aa af ah)))))
  (aj (bC (b9 jf (va 3 rfl rfl) af) (ay (ax (i:=4) rfl (.inl rfl) (aE (aE (aB .dat (aa (cz (aa (cL af af) (aa af (aa au (aa (kc af) (aa af ah)))))) ah)) (va 4 rfl rfl)) (aB .dat (aa (cz (aa af (aa af (aa au (aa af (aa (kc af) ah)))))) ah))))) aU)
  (aj (ax (i:=5) rfl (.inl rfl) (dA au (aa (gS .dat [("_law_touch",9)] (da (va 4 rfl rfl)) (show blkC sL (defScope gT) _ _=true by decide +kernel) (na 9 rfl rfl) cW (dA au (aa (gS .dat [("_law_thing",10)] (da (vc 9 rfl)) (by rfl) (na 10 rfl rfl) cW (ou (by rfl) X.b_str (aa (vc 10 rfl) ah))) ah))) ah)))
  (aj (bC (bG (eR (b9 eC (cl hc dk X.m_show_touches (aa (va 4 rfl rfl) ah)) (va 5 rfl rfl)) (eg (b9 eC (cl hc cJ X.m__law_asked (aa (ck (oS X.m_read_touches) (by rfl)) (aa (va 5 rfl rfl) ah))) (va 4 rfl rfl))))) (ay (aD iK)) aU)
  (aj (ax (i:=6) rfl (.inl rfl) (cl hc bI X.m__law_bent_text (aa (va 1 rfl rfl) (aa (va 5 rfl rfl) (aa (va 2 rfl rfl) ah)))))
  (aj (ax (i:=7) rfl (.inl rfl) (sb (aB .dat (aa bJ (aa af (aa iK (aa (va 4 rfl rfl) (aa au ah)))))) (cl hc aw X.m__law_draw (aa (va 1 rfl rfl) (aa af ah)))))
  (ay (iG (vs:=[8]) (da (aB .dat (aa (va 6 rfl rfl) (aa (cl hc bI X.m__law_bent_text (aa (va 1 rfl rfl) (aa (va 6 rfl rfl) (aa (va 2 rfl rfl) ah)))) (aa (va 7 rfl rfl) ah))))) (na 8 rfl rfl) (ay (bC (b9 eC (cl hc cJ X.m__law_asked (aa (ck (oS X.m_read_touches) (by rfl)) (aa (va 8 rfl rfl) ah))) (cl hc fF X.m__law_due (aa (va 8 rfl rfl) ah))) (ay (aD iK)) aU)))))))))))
  (ay (aD iK))))))
end K10
namespace K10
open PySem PySem.Spec PyProof.Rows L2 B M He
def uB:List (PySem.Str×Option PySem.Str):=[("_law_asked",none),("_law_draw",none),("_law_bent_text",none),("_law_number",none),("_law_touch_in",none),("_law_due",none),("_law_tape",none),("_law_touches",none),("rows_in",none),("is_whole",none),("is_moment",none),("is_touch",none),("number_in",none),("touch_in",none),("read_touches",none),("words_of",none),("show_touches",none),("law",none)]
def bO:List (PySem.Str×Option PySem.Str):=uB
def fq:List PySem.Str:=["Shelves","Stroke","Hope","Contests","Reader","Desk","Growing","SceneReader","Walk","NoTouch","NoText","Late","IsDown","NotDown","NoHope","NoPart","NoWatch","NoCount"]
theorem bc:uu eO=true:=by decide +kernel
set_option maxHeartbeats 0 in
theorem facts{P:Program}{w:World}{K:PySem.W.Frag}{h:Heap}{mg:Str->Option Value}{f:Addr}(X:K.In h)(G:h.Ns mainGlobals mg)(hfa:mg ("law" : Str)=some (.ref f))(c:M.SaysX fa fn xs K) :
  ∃ fd:FuncData,(∀ (s:Shared) (v:Value),BindsTo s fd ⟨[v],[]⟩ [("_law_script",v)])/\∀ base:Heap,K.In base->base.Ns mainGlobals mg->FnG P w K mg base CX0 120 f fd ["_law_script"] (oh K 0 fun _=>0):=by
 have F__law_asked:bE K mg "_law_asked" aZ:=aL X G c.d 0 0 rfl rfl;have F__law_draw:bE K mg "_law_draw" bu:=aL X G c.d 1 1 rfl rfl;have F__law_bent_text:bE K mg "_law_bent_text" aF:=aL X G c.d 2 2 rfl rfl;have F__law_number:bE K mg "_law_number" aR:=aL X G c.d 3 3 rfl rfl;have F__law_touch_in:bE K mg "_law_touch_in" aQ:=aL X G c.d 4 4 rfl rfl;have F__law_due:bE K mg "_law_due" bN:=aL X G c.d 5 5 rfl rfl;have F__law_tape:bE K mg "_law_tape" br:=aL X G c.d 6 6 rfl rfl;have F__law_touches:bE K mg "_law_touches" aO:=aL X G c.d 7 7 rfl rfl;have F_rows_in:bE K mg "rows_in" cb:=aL X G c.d 8 8 rfl rfl;have F_is_whole:bE K mg "is_whole" bL:=aL X G c.d 9 9 rfl rfl;have F_is_moment:bE K mg "is_moment" bq:=aL X G c.d 10 10 rfl rfl;have F_is_touch:bE K mg "is_touch" bM:=aL X G c.d 11 11 rfl rfl;have F_number_in:bE K mg "number_in" aX:=aL X G c.d 12 12 rfl rfl;have F_touch_in:bE K mg "touch_in" bK:=aL X G c.d 13 13 rfl rfl;have F_read_touches:bE K mg "read_touches" aS:=aL X G c.d 14 14 rfl rfl;have F_words_of:bE K mg "words_of" bp:=aL X G c.d 15 15 rfl rfl;have F_show_touches:bE K mg "show_touches" aN:=aL X G c.d 16 16 rfl rfl;have F_law:bE K mg "law" gT:=aL X G c.d 17 17 rfl rfl;obtain⟨fd,F⟩:=c.d.def_ 17 (d:=sm) rfl;have e:=hfa.symm.trans (He.glo_ok X G (c.d.fact 17 (f:=.glo "law") rfl))
 cases e
 have b:=FunD.bindsA (ps:=["_law_script"]) F fun _ _ _ _ _ _ us hl=>match us,hl with | [_],_=>rfl
 refine⟨fd,fun s v=>b s [v] rfl,fun base hb hG=>?_⟩;have XK_NoText:=xkB_ok (c.x 1 (f:=_) rfl);have XF_NoText:=xfB_ok (c.x 2 rfl);obtain⟨fdx_NoText,FX_NoText⟩:=c.d.def_ 18 (d:=cP) rfl;have XC_NoText:XcOk (e8 P w K mg base bO fq eO bc) "NoText" 10 (some 63):=⟨⟨_,fdx_NoText,["self","row"],_,_,_,_,_,XK_NoText.1,x_ini1 (p:=(e8 P w K mg base bO fq eO bc)) (st:=aT) FX_NoText ⟨rfl,rfl,rfl,by decide +kernel,rfl,by decide +kernel,by decide +kernel⟩ XK_NoText.1 rfl (fun _=>rfl) rfl rfl rfl (He.free_ok X G (c.d.fact 24 (f:=.free "ValueError") rfl)) (by kernel_rfl) XF_NoText.2 (by decide) (by decide) (by decide) (by decide),(bindsM (st:=aT) FX_NoText fun _ _ _ _ _ _ us hl=>match us,hl with | [_,_],_=>rfl)⟩,He.glo_ok X G (c.d.fact 33 (f:=.glo "NoText") rfl),fun f hf=>by cases hf; exact Nat.le_of_ble_eq_true rfl⟩;have XM_NoText:XmOk (e8 P w K mg base bO fq eO bc) "NoText" 10 [(10,true)]:=⟨He.glo_ok X G (c.d.fact 33 (f:=.glo "NoText") rfl),by
  intro c_ b_ hq;rcases List.mem_cons.mp hq with e | hq
  .cases e; exact xmB_ok (c.x 3 rfl) (y:="NoText") (List.mem_of_getElem? (i:=0) rfl)
  exact nomatch hq⟩
 have XR_row:∀ c∈[10],XfOk (e8 P w K mg base bO fq eO bc) c 63:=by
  intro c_ hq;rcases List.mem_cons.mp hq with e | hq
  .cases e; exact⟨XK_NoText.2.1,XF_NoText.1⟩
  exact nomatch hq
 have XI_ValueError:∀ c b,(c,b)∈[(10,true)]->sH K (((e8 P w K mg base bO fq eO bc)).ca c)/\PySem.W.kitOne K (.ref (((e8 P w K mg base bO fq eO bc)).ca c)) (.type "ValueError")=some b:=by
  intro c_ b_ hq;rcases List.mem_cons.mp hq with e | hq
  .cases e; exact⟨XK_NoText.2.2,xiB_ok (c.x 4 rfl) (y:="NoText") (List.mem_of_getElem? (i:=0) rfl)⟩
  exact nomatch hq
 have Tx:Txt (e8 P w K mg base bO fq eO bc):={ n_scene:=⟨rfl,Nat.le_of_ble_eq_true rfl⟩,n_forms:=⟨rfl,Nat.le_of_ble_eq_true rfl⟩,n_spots:=⟨rfl,Nat.le_of_ble_eq_true rfl⟩,n_number:=⟨rfl,Nat.le_of_ble_eq_true rfl⟩,n_way:=⟨rfl,Nat.le_of_ble_eq_true rfl⟩,n_touches:=⟨rfl,Nat.le_of_ble_eq_true rfl⟩,n_spot:=⟨rfl,Nat.le_of_ble_eq_true rfl⟩,n_contest:=⟨rfl,Nat.le_of_ble_eq_true rfl⟩,n_labelled:=⟨rfl,Nat.le_of_ble_eq_true rfl⟩,n_part:=⟨rfl,Nat.le_of_ble_eq_true rfl⟩,n_wish:=⟨rfl,Nat.le_of_ble_eq_true rfl⟩,n_kind:=⟨rfl,Nat.le_of_ble_eq_true rfl⟩,n_label:=⟨rfl,Nat.le_of_ble_eq_true rfl⟩,n_strokes:=⟨rfl,Nat.le_of_ble_eq_true rfl⟩,n_state:=⟨rfl,Nat.le_of_ble_eq_true rfl⟩,n_since:=⟨rfl,Nat.le_of_ble_eq_true rfl⟩,n_why:=⟨rfl,Nat.le_of_ble_eq_true rfl⟩,n_taps:=⟨rfl,Nat.le_of_ble_eq_true rfl⟩,n_machine_at:=⟨rfl,Nat.le_of_ble_eq_true rfl⟩,n_is_lifted:=⟨rfl,Nat.le_of_ble_eq_true rfl⟩,n_due:=⟨rfl,Nat.le_of_ble_eq_true rfl⟩,n_counted:=⟨rfl,Nat.le_of_ble_eq_true rfl⟩,n_claimed:=⟨rfl,Nat.le_of_ble_eq_true rfl⟩,n_begun_with:=⟨rfl,Nat.le_of_ble_eq_true rfl⟩,n_told_at:=⟨rfl,Nat.le_of_ble_eq_true rfl⟩,n_is_over:=⟨rfl,Nat.le_of_ble_eq_true rfl⟩,n_parts:=⟨rfl,Nat.le_of_ble_eq_true rfl⟩,n_beside:=⟨rfl,Nat.le_of_ble_eq_true rfl⟩,n_heeds:=⟨rfl,Nat.le_of_ble_eq_true rfl⟩,n_slop:=⟨rfl,Nat.le_of_ble_eq_true rfl⟩,n_gap:=⟨rfl,Nat.le_of_ble_eq_true rfl⟩,n_guessing:=⟨rfl,Nat.le_of_ble_eq_true rfl⟩,n_shelves:=⟨rfl,Nat.le_of_ble_eq_true rfl⟩,n_hopes:=⟨rfl,Nat.le_of_ble_eq_true rfl⟩,n_time:=⟨rfl,Nat.le_of_ble_eq_true rfl⟩,n_touched:=⟨rfl,Nat.le_of_ble_eq_true rfl⟩,n_claims:=⟨rfl,Nat.le_of_ble_eq_true rfl⟩,n_rows:=⟨rfl,Nat.le_of_ble_eq_true rfl⟩,n_contests:=⟨rfl,Nat.le_of_ble_eq_true rfl⟩,n_seen:=⟨rfl,Nat.le_of_ble_eq_true rfl⟩,n_time_told:=⟨rfl,Nat.le_of_ble_eq_true rfl⟩,n_held:=⟨rfl,Nat.le_of_ble_eq_true rfl⟩,n_ears:=⟨rfl,Nat.le_of_ble_eq_true rfl⟩,n_away:=⟨rfl,Nat.le_of_ble_eq_true rfl⟩,n_deeds:=⟨rfl,Nat.le_of_ble_eq_true rfl⟩,n_reader:=⟨rfl,Nat.le_of_ble_eq_true rfl⟩,n_watchers:=⟨rfl,Nat.le_of_ble_eq_true rfl⟩,n_name:=⟨rfl,Nat.le_of_ble_eq_true rfl⟩,n_box:=⟨rfl,Nat.le_of_ble_eq_true rfl⟩,n_ear:=⟨rfl,Nat.le_of_ble_eq_true rfl⟩,n_shelf:=⟨rfl,Nat.le_of_ble_eq_true rfl⟩,n_wishes:=⟨rfl,Nat.le_of_ble_eq_true rfl⟩,n_within:=⟨rfl,Nat.le_of_ble_eq_true rfl⟩,n_about:=⟨rfl,Nat.le_of_ble_eq_true rfl⟩,n_names:=⟨rfl,Nat.le_of_ble_eq_true rfl⟩,n_named:=⟨rfl,Nat.le_of_ble_eq_true rfl⟩,n_states:=⟨rfl,Nat.le_of_ble_eq_true rfl⟩,n_wanted:=⟨rfl,Nat.le_of_ble_eq_true rfl⟩,n_machine:=⟨rfl,Nat.le_of_ble_eq_true rfl⟩,n_other:=⟨rfl,Nat.le_of_ble_eq_true rfl⟩,n_wants:=⟨rfl,Nat.le_of_ble_eq_true rfl⟩,n_best:=⟨rfl,Nat.le_of_ble_eq_true rfl⟩,n_lines:=⟨rfl,Nat.le_of_ble_eq_true rfl⟩,n_row:=⟨rfl,Nat.le_of_ble_eq_true rfl⟩,xc_NoText:=XC_NoText,xm_NoText:=XM_NoText,xf_row:=XR_row,xi_ValueError:=XI_ValueError,m__law_asked:=bh F__law_asked,m__law_draw:=bh F__law_draw,m__law_bent_text:=bh F__law_bent_text,m__law_number:=bh F__law_number,m__law_touch_in:=bh F__law_touch_in,m__law_due:=bh F__law_due,m__law_tape:=bh F__law_tape,m__law_touches:=bh F__law_touches,m_rows_in:=bh F_rows_in,m_is_whole:=bh F_is_whole,m_is_moment:=bh F_is_moment,m_is_touch:=bh F_is_touch,m_number_in:=bh F_number_in,m_touch_in:=bh F_touch_in,m_read_touches:=bh F_read_touches,m_words_of:=bh F_words_of,m_show_touches:=bh F_show_touches,m_law:=bh F_law,b_isinstance:=He.free_ok X G (c.d.fact 22 (f:=.free "isinstance") rfl),b_bool:=He.free_ok X G (c.d.fact 23 (f:=.free "bool") rfl),b_ValueError:=He.free_ok X G (c.d.fact 24 (f:=.free "ValueError") rfl),b_len:=He.free_ok X G (c.d.fact 25 (f:=.free "len") rfl),b_int:=He.free_ok X G (c.d.fact 26 (f:=.free "int") rfl),b_all:=He.free_ok X G (c.d.fact 27 (f:=.free "all") rfl),b_enumerate:=He.free_ok X G (c.d.fact 28 (f:=.free "enumerate") rfl),b_str:=He.free_ok X G (c.d.fact 29 (f:=.free "str") rfl),b_range:=He.free_ok X G (c.d.fact 30 (f:=.free "range") rfl),b_tuple:=He.free_ok X G (c.d.fact 31 (f:=.free "tuple") rfl),g_LAST_MOMENT:=i7 (p:=(e8 P w K mg base bO fq eO bc)) (He.int_ok X G (c.d.fact 18 (f:=.int "LAST_MOMENT" 1000000000) rfl)),g_FAR:=i7 (p:=(e8 P w K mg base bO fq eO bc)) (He.int_ok X G (c.d.fact 19 (f:=.int "FAR" 10000) rfl)),g_MOST_FIGURES:=i7 (p:=(e8 P w K mg base bO fq eO bc)) (He.int_ok X G (c.d.fact 20 (f:=.int "MOST_FIGURES" 10) rfl)),g_FIGURES:=rY (p:=(e8 P w K mg base bO fq eO bc)) (He.str_ok X G (c.d.fact 21 (f:=.str "FIGURES" "0123456789") rfl)),g_WORDS:=rZ (p:=(e8 P w K mg base bO fq eO bc)) X G (c.d.fact 32 (f:=.glo "WORDS") rfl) (c.x 0 rfl) };have ok:∀ f d,tab f=some d->sM (e8 P w K mg base bO fq eO bc) tab f d:=by
  intro f d e;have hl:f < 18:=(List.getElem?_eq_some_iff.mp (show tabL[f]?=some d by rw [aW] at e; exact e)).1;rw [aW] at e
  match f,hl,e with
  | 0,_,e=>cases e; exact aM (x:="_law_asked") rfl F__law_asked jr rfl rfl (fun _ _ _ _ _ _ us hl=>match us,hl with | [_,_],_=>rfl) (fun n hc=>kq Tx hc)
  | 1,_,e=>cases e; exact aM (x:="_law_draw") rfl F__law_draw kg rfl rfl (fun _ _ _ _ _ _ us hl=>match us,hl with | [_,_],_=>rfl) (fun n hc=>lC Tx hc)
  | 2,_,e=>cases e; exact aM (x:="_law_bent_text") rfl F__law_bent_text fK rfl rfl (fun _ _ _ _ _ _ us hl=>match us,hl with | [_,_,_],_=>rfl) (fun n hc=>gE Tx hc)
  | 3,_,e=>cases e; exact aM (x:="_law_number") rfl F__law_number iL rfl rfl (fun _ _ _ _ _ _ us hl=>match us,hl with | [_,_,_],_=>rfl) (fun n hc=>js Tx hc)
  | 4,_,e=>cases e; exact aM (x:="_law_touch_in") rfl F__law_touch_in gx rfl rfl (fun _ _ _ _ _ _ us hl=>match us,hl with | [_],_=>rfl) (fun n hc=>hJ Tx hc)
  | 5,_,e=>cases e; exact aM (x:="_law_due") rfl F__law_due lu rfl rfl (fun _ _ _ _ _ _ us hl=>match us,hl with | [_],_=>rfl) (fun n hc=>nj Tx hc)
  | 6,_,e=>cases e; exact aM (x:="_law_tape") rfl F__law_tape kf rfl rfl (fun _ _ _ _ _ _ us hl=>match us,hl with | [_],_=>rfl) (fun n hc=>lB Tx hc)
  | 7,_,e=>cases e; exact aM (x:="_law_touches") rfl F__law_touches hI rfl rfl (fun _ _ _ _ _ _ us hl=>match us,hl with | [_,_,_],_=>rfl) (fun n hc=>iR Tx hc)
  | 8,_,e=>cases e; exact aM (x:="rows_in") rfl F_rows_in m8 rfl rfl (fun _ _ _ _ _ _ us hl=>match us,hl with | [_],_=>rfl) (fun n hc=>pw Tx hc)
  | 9,_,e=>cases e; exact aM (x:="is_whole") rfl F_is_whole lq rfl rfl (fun _ _ _ _ _ _ us hl=>match us,hl with | [_,_,_],_=>rfl) (fun n hc=>nh Tx hc)
  | 10,_,e=>cases e; exact aM (x:="is_moment") rfl F_is_moment ke rfl rfl (fun _ _ _ _ _ _ us hl=>match us,hl with | [_],_=>rfl) (fun n hc=>lA Tx hc)
  | 11,_,e=>cases e; exact aM (x:="is_touch") rfl F_is_touch lr rfl rfl (fun _ _ _ _ _ _ us hl=>match us,hl with | [_],_=>rfl) (fun n hc=>ni Tx hc)
  | 12,_,e=>cases e; exact aM (x:="number_in") rfl F_number_in kd rfl rfl (fun _ _ _ _ _ _ us hl=>match us,hl with | [_],_=>rfl) (fun n hc=>lz Tx hc)
  | 13,_,e=>cases e; exact aM (x:="touch_in") rfl F_touch_in lp rfl rfl (fun _ _ _ _ _ _ us hl=>match us,hl with | [_],_=>rfl) (fun n hc=>ng Tx hc)
  | 14,_,e=>cases e; exact aM (x:="read_touches") rfl F_read_touches hH rfl rfl (fun _ _ _ _ _ _ us hl=>match us,hl with | [_],_=>rfl) (fun n hc=>iQ Tx hc)
  | 15,_,e=>cases e; exact aM (x:="words_of") rfl F_words_of ll rfl rfl (fun _ _ _ _ _ _ us hl=>match us,hl with | [_],_=>rfl) (fun n hc=>m9 Tx hc)
  | 16,_,e=>cases e; exact aM (x:="show_touches") rfl F_show_touches hE rfl rfl (fun _ _ _ _ _ _ us hl=>match us,hl with | [_],_=>rfl) (fun n hc=>iP Tx hc)
  | 17,_,e=>cases e; exact aM (x:="law") rfl F_law sc_law rfl rfl (fun _ _ _ _ _ _ us hl=>match us,hl with | [_],_=>rfl) (fun n hc=>r_law Tx hc)
 obtain⟨fd2,F2,lk2⟩:=law_fn (p:=(e8 P w K mg base bO fq eO bc)) (qs:=[]) rfl (callsOk ok 40) (f:=17) (d:=sv) n4 rfl (by rw [uJ]; exact hrun);have ea:(e8 P w K mg base bO fq eO bc).fa 17=He.ga K "law":=by show adr (mg "law")=_; rw [He.glo_ok X G (c.d.fact 17 (f:=.glo "law") rfl)]; rfl
 rw [ea] at F2 lk2;have ef:=gs.eq (kD F) lk2;subst ef;exact F2
end K10
open PySem PySem.W PySem.Calls PyProof.Rows
set_option maxRecDepth 100000 in
set_option maxHeartbeats 0 in
theorem PySem.Challenge.cw_strokeguess_k10_touches_as_texts_holds : PySem.Challenge.rw_strokeguess_k10_touches_as_texts.Holds := by
 refine K10.pre ?_;refine M.pP (l:=PySem.Challenge.rw_strokeguess_k10_touches_as_texts) (n:=63) (k:=120) (x:="_law_script") (CX:=L2.CX0) rfl (by decide) (by kernel_rfl) ⟨rfl,by decide,by decide⟩ ?F (fun _ _ _ _ z=>z);intro w mg fa h Y G hmg0;obtain⟨K,KX,c⟩:=Y;have hmg:mg ("law" : PySem.Str)=some (.ref fa):=by
  have e:(HandSHeadRun.topDef (OpenLaw.row PySem.Challenge.rw_strokeguess_k10_touches_as_texts).prog 28).name=("law" : PySem.Str):=by kernel_rfl
  rw [<- e];exact hmg0
 obtain⟨fd,hb,hF⟩:=K10.facts (P:=(PySem.Challenge.rw_strokeguess_k10_touches_as_texts).prog) (w:=w) KX G hmg c;exact⟨K,fd,M.oh K 0 (fun _=>0),KX,hb,fun H a ns hl _ hS=>⟨a,ns,rfl,hS,hl,M.Tbl.nil,fun _=>rfl⟩,hF⟩
