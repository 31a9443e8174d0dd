import PyProof.Rows.All
import Wide.All
import OpenK.AllK
import Wide.FinOn
import HandS.ForMost
import HandS.IsInst
import HandS.Flow
import HandS.WideBits
import HandS.Defaults
import HandS.MakeKw
import HandS.Exc
import HandS.ExcOwn
import HandS.TryOnly
import HandS.WordsExc
import HandS.Lambda
import HandS.Deep
import HandS.WordsDict
import HandS.Small
import HandS.Conv
import HandS.Text
import KE.KxIndex
import HandS.Codes
import KE.SortData
import HandS.ExcInit
import HandS.ClsMeth
import HandS.ExcField
import HandS.ExcIs
import HandS.TryMany
import KE.KExcIs
import HandS.Replace
import KE.DataMinMax
import PyProof.Claim2Refuses
import KE.KEqDict
import KE.KDictSum
import HandS.Sort
import PyProof.Rows.SeqMore
import KE.KIndexOf
import HandS.SetKeys
import HandS.More
import PyProof.Rows.SortStr
import KE.KStateDown
import HandS.Head0
import HandS.Head1
import HandS.Head2
import HandS.HeadEnd
import HandS.HeadHook1
import HandS.HeadHook2
import KE.GoesMore
import KE.GoesEnum
import HandS.TupAny
import HandS.SetFor
import HandS.SortInts
import HandS.Zip
import HandS.Strs
import PyProof.DictMoreH
import HandS.TupSets
import KE.KDictDisplayH
import KE.KDictWalk
import KE.KDictPairs
import HandS.DictTup
import HandS.TupLen
import HandS.ExcValue
import KE.KDictList
import HandS.MakeKwOnly
import HandS.Style
import PyProof.SumWalkG
import PyProof.ListOps
import KE.KDictZip
import HandS.EndBits
import HandS.EndTab
import HandS.EndOwn
import PySem.Challenge.RW_tornshelf_k14_tables_refused
set_option Elab.async false
set_option linter.all false
set_option maxRecDepth 100000
set_option maxHeartbeats 4000000
namespace Z
open PySem L2
def isDT:HO→Bool
 | .dT _=>true
 | .frz _ u=>isDT u
 | _=>false
def okA (G:Hp) (a:Addr):HO→Prop
 | .ins _ dx _=>G dx=some (.own a)
 | .frz _ u=>okA G a u
 | _=>True
def kept:HO→Bool
 | .tup _=>true
 | .frz _ _=>true
 | .tbl _=>true
 | _=>false
/-- from H on, H' was reached; G, a part of H', is all that is still told -/
structure Gc (H H' G:Hp):Prop where
 sub:∀a o,G a=some o→H' a=some o
 ok:∀a o,G a=some o→okA G a o∨(H a=some o∧∀b,H b=some (.own a)→G b=some (.own a))
 keep:∀b o,H b=some o→kept o=true→G b=some o
 dt:(∀a o,G a=some o→isDT o=false)∨∀b xs,H' b=some (.tup xs)→G b=some (.tup xs)
section
variable {P:Program} {w:World} {H H' G:Hp} {h:Heap} {a:Addr} {o:HO}
theorem j6m (x:ObjOk P w H h a o) (k:∀b,H b=some (.own a)→G b=some (.own a)):okA G a o:=by
 induction o with
 | ins C dx fs=>exact k _ x.1
 | frz ob u ih=>exact ih x.2
 | _=>trivial
end
section
variable {H H' G H1:Hp} {p q:Addr} {o:HO}
def j4c:HO→Bool
 | .ins _ _ _=>false
 | .frz _ _=>false
 | .dT _=>false
 | _=>true
theorem z7q {G:Hp} {a:Addr} {o:HO} (h:j4c o=true):okA G a o:=by
 cases o<;>first|trivial|cases h
theorem z5a {o:HO} (h:j4c o=true):isDT o=false:=by
 cases o<;>first|rfl|cases h
theorem j3d {G:Hp} {a p:Addr} {o u:HO} (e:H' p=some o) (sub:∀a o,G a=some o→H' a=some o) (k:okA G a u):okA (upd G p o) a u:=by
 induction u with
 | ins C dx fs =>
  show upd G p o dx=_
  by_cases q:dx=p
  ·subst q
   have e2:H' dx=some (.own a):=sub _ _ k
   rw[e] at e2
   rw[upd_same,e2]
  ·rw[upd_ne q]
   exact k
 | frz ob u ih=>exact ih k
 | _=>trivial
theorem z1j {G:Hp} {p b:Addr} {o u:HO} (e:H' p=some o) (h:H' b=some u) (k:G b=some u):upd G p o b=some u:=by
 by_cases q:b=p
 ·subst q
  rw[upd_same,←e,h]
 ·rw[upd_ne q]
  exact k
/-- one more thing is told -/
theorem Gc.put (g:Gc H H' G) (e:H' p=some o) (f:j4c o=true:=by rfl):Gc H H' (upd G p o) where
 sub:=fun a u h=>by
  by_cases q:a=p
  ·subst q;rw[upd_same] at h;cases h;exact e
  ·rw[upd_ne q] at h;exact g.sub a u h
 ok:=fun a u h=>by
  by_cases q:a=p
  ·subst q;rw[upd_same] at h;cases h;exact .inl (z7q f)
  ·rw[upd_ne q] at h
   rcases g.ok a u h with k|⟨k1,k2⟩
   ·exact .inl (j3d e g.sub k)
   ·exact .inr ⟨k1,fun b hb=>z1j e (g.sub _ _ (k2 b hb)) (k2 b hb)⟩
 keep:=fun b u h k=>z1j e (g.sub _ _ (g.keep b u h k)) (g.keep b u h k)
 dt:=by
  rcases g.dt with d|d
  ·refine .inl fun a u h=>?_
   by_cases q:a=p
   ·subst q;rw[upd_same] at h;cases h;exact z5a f
   ·rw[upd_ne q] at h;exact d a u h
  ·exact .inr fun b xs h=>z1j e h (d b xs h)
theorem q1a {a:Addr}:upd H p o a=none↔a≠p∧H a=none:=by
 unfold upd
 by_cases e:a=p
 ·simp[e]
 ·simp[e]
end
section
variable {X:Cx}
theorem OpR.or {f:Value→Value→Sem Value} {r r':R2} (a:OpR X f r) (b:OpR X f r'):OpR X f (fun x y H Q=>r x y H Q∨r' x y H Q) :=
 fun pins s σ H x y v u Q I rx ry h=>h.elim (fun h=>a pins s σ H x y v u Q I rx ry h) fun h=>b pins s σ H x y v u Q I rx ry h
theorem CallR.or {f:Value} {r r':List V→Hp→VK→Prop} (a:CallR X f r) (b:CallR X f r'):CallR X f (fun x H Q=>r x H Q∨r' x H Q) :=
 fun pins s σ H xs us Q I rx h=>h.elim (fun h=>a pins s σ H xs us Q I rx h) fun h=>b pins s σ H xs us Q I rx h
/-- list + list, both to be read -/
def j7u (K:PySem.W.Frag):R2:=fun x y H Q=>∃l b xs zs,x = .ref l∧y = .ref b∧SqL K H l xs∧SqL K H b zs∧xs.length+zs.length≤sizeLine∧∀p,H p=none→Q (.ref p) (upd H p (.lst (xs++zs)))
def j6g (K:PySem.W.Frag):R2:=fun x y H Q=>(rI0 (fun i j=>.int (i+j)) x y H Q∨∃i j,x = .str i∧y = .str j∧i.length+j.length≤sizeLine∧Q (.str (i++j)) H)∨j7u K x y H Q
theorem j3y:OpR X (binaryOp .Add) (j7u X.K):=by
 intro pins s σ H x y v u Q I rx ry h
 obtain⟨l,b,xs,zs,rfl,rfl,hH,hB,hz,q⟩:=h
 cases rx
 cases ry
 obtain⟨its,r,pl,z⟩:=I.list hH
 obtain⟨its2,r2,pl2,z2⟩:=I.list hB
 have l1:=r.length
 have l2:=r2.length
 obtain⟨⟨cls,dd,data,sl⟩,ho,hc,n,hd⟩:=pl.isList
 obtain⟨⟨cls2,dd2,data2,sl2⟩,ho2,hc2,n2,hd2⟩:=pl2.isList
 simp only at hc hd hc2 hd2
 subst hc hd hc2 hd2
 have e:its.toArray++its2.toArray=(its++its2).toArray:=by simp
 refine concat_meets ⟨_,ho,rfl⟩ ⟨_,ho2,rfl⟩ noFill_list_add seq_list_add PySem.F.slot_list_add PySem.F.entry_list_add (PySem.F.args_list_add_2 _ _) (PyProof.Rows.list_addW l b its.toArray its2.toArray n n2 dd dd2 sl sl2 (by simp only[List.size_toArray];omega)) ⟨ho,ho2,?_⟩
 rw[e]
 exact⟨.ref _,_,I.lnew (t':=s.toks) (r.append r2) (by rw[List.length_append];omega),rfl,q _ I.fresh⟩
theorem q0w {K:PySem.W.Frag} (hK:X.K=K):OpR X (binaryOp .Add) (j6g K):=by subst hK;exact OpR.or (OpR.or op_add op_add_str) j3y
def j9f:R2:=fun x y H Q=>rI CMul (fun i j=>.int (i*j)) x y H Q∨rRep x y H Q
theorem q2j:OpR X (binaryOp .Mult) j9f:=OpR.or op_mul op_rep
def rEqZ (K:PySem.W.Frag):R2:=fun x y H Q=>rEq x y H Q∨rEqD K x y H Q
def rNeZ (K:PySem.W.Frag):R2:=fun x y H Q=>rNe x y H Q∨rNeD K x y H Q
theorem q5i {K:PySem.W.Frag} (hK:X.K=K) (hu:X.A.units+64<cLine):OpR X (compareOp .Eq) (rEqZ K):=by subst hK;exact OpR.or op_eq (op_eqD hu)
theorem z0o {K:PySem.W.Frag} (hK:X.K=K) (hu:X.A.units+64<cLine):OpR X (compareOp .NotEq) (rNeZ K):=by subst hK;exact OpR.or op_ne (op_neD hu)
end
section
variable {X:Cx}
/-- len of a text, a list, a tuple -/
def j8p (K:PySem.W.Frag):List V→Hp→VK→Prop:=fun xs H Q=>∃x n,xs=[x]∧LenV K x H n∧Q (.int n) H
theorem z5u {K:PySem.W.Frag} (hK:X.K=K):CallR X (.builtin "len") (j8p K):=by subst hK;exact call_len
def rSlZ (K:PySem.W.Frag):V→Option Int→Option Int→Hp→VK→Prop:=fun x lo hi H Q=>rSlL K x lo hi H Q∨rSlS x lo hi H Q
theorem sl_Z {K:PySem.W.Frag} (hK:X.K=K):SlR X (rSlZ K):=by subst hK;exact SlR.or sl_list sl_str
def j0r (K:PySem.W.Frag) (ta:TE):TT:=fun σ H Q=>ta σ H fun x H'=>∃k,TruV K x H' k∧Q k H'
theorem q2g {K:PySem.W.Frag} {a:Expr} {ta:TE} (hK:X.K=K) (ha:PE X a ta) (he:∀whole,isTrue a X.env whole=(do let v ←whole;standAt a.pos;holding [v] (truthy v))):PT X a (j0r K ta):=by subst hK;exact pt_truth ha he
theorem q5d {K:PySem.W.Frag} (hK:X.K=K):CallR X (.builtin "isinstance") (rIsi K):=by subst hK;exact call_isi
def j4j (K:PySem.W.Frag):List V→Hp→VK→Prop:=fun xs H Q=>∃p ys,xs=[.ref p]∧(SqL K H p ys∨SqT K H p ys)∧∀l,H l=none→Q (.ref l) (upd H l (.lst ys))
theorem q6p {K:PySem.W.Frag} (hK:X.K=K) (hc:X.calm=true):CallR X (.builtin "sum") (rSum K):=by subst hK;exact cr_sum hc
theorem z6c {K:PySem.W.Frag} (hK:X.K=K) (hc:X.calm=true):CallR X (.builtin "all") (rAll K):=by subst hK;exact cr_all hc
theorem j1g {K:PySem.W.Frag} (hK:X.K=K) (hc:X.calm=true):CallR X (.builtin "max") (rMax K):=by subst hK;exact cr_max hc
theorem q7m {K:PySem.W.Frag} {tg l:Expr} {tl:TE} (hK:X.K=K) (hl:PE X l tl):PI X tg l (iList K tl):=by subst hK;exact pi_list hl
theorem z4r {K:PySem.W.Frag} {tg l:Expr} {tl:TE} (hK:X.K=K) (hl:PE X l tl):PI X tg l (iTup K tl):=by subst hK;exact pi_tup hl
theorem q7l {K:PySem.W.Frag} {e:Expr} {ta:TA} {p pos tpos:Pos} {elts:List Expr} {kk:Nat} (hK:X.K=K) (hg:Gl X "enumerate") (hm:X.mg "enumerate" = none) (ha:PA X [e] ta) (hs:starEach [e] X.env=[(false,eval e X.env)]:=by rfl) :
  PI X (.Tuple elts kk tpos) (.Call (.Name "enumerate" p) [e] [] pos) (iEnum K ta):=by subst hK;exact pi_enum hg hm ha hs
theorem j3i {K:PySem.W.Frag} {e e2:Expr} {ta:TA} {p pos tpos:Pos} {elts:List Expr} {kk:Nat} (hK:X.K=K) (hg:Gl X "zip") (hm:X.mg "zip" = none) (ha:PA X [e,e2] ta)
  (hs:starEach [e,e2] X.env=(false,eval e X.env)::starEach [e2] X.env:=by rfl) (hpl:(backTo pos (starEach [e2] X.env)).any (·.1)=false:=by rfl) :
  PI X (.Tuple elts kk tpos) (.Call (.Name "zip" p) [e,e2] [] pos) (iZip K ta):=by subst hK;exact pi_zip hg hm ha hs hpl
theorem q4y {K:PySem.W.Frag} {es:List Expr} {k:Nat} {t:TGs} {n:Nat} {pos:Pos} (hK:X.K=K) (hc:X.calm=true) (h:PGs X es t)
  (hn:(assignEach es X.env).length=n:=by rfl) (hst:(assignEach es X.env).findIdx? (·.1)=none:=by rfl):PG X (.Tuple es k pos) (gTup K n t):=by subst hK;exact pg_tup hc h hn hst
theorem q7d {K:PySem.W.Frag} {o e:Expr} {es:List Expr} {to:TE} {t:TA} {name:Str} {apos cpos:Pos} {T id:String} {r:V→List V→Hp→VK→Prop} (hK:X.K=K) (pa:PlainAttrs T) (slot:Slot T name id) (hty:typeOf (.builtin id)=pure (.type "method_descriptor")) (hm:MtR X id r) (ho:PE X o to) (ha:PA X (e::es) t)
  (hbase:attributeBase o name X.env (eval o X.env)=eval o X.env:=by rfl)
  (hfew:((backTo cpos (starEach (e::es) X.env)).all (fun x=>!x.1)&&(backToKw cpos (keywordEach [] X.env)).all (fun x=>x.1.isSome)
   && decide ((e::es).length+([]:List Keyword).length+(if([]:List Keyword).isEmpty then 0 else 1)<30))=true:=by rfl)
  (hline:(apos.endLine==cpos.line)=true:=by rfl) (hs:starEach (e::es) X.env=(false,eval e X.env)::starEach es X.env:=by rfl) (hplain:(backTo cpos (starEach es X.env)).any (·.1)=false:=by rfl) :
  PE X (.Call (.Attribute o name apos) (e::es) [] cpos) (tBM K T r to t):=by subst hK;exact pe_bm pa slot hty hm ho ha hbase hfew hline hs hplain
def z2i (sp:Sp) (E:XK) (t:TA):TE:=fun σ H Q=>t σ H fun vs H1=>sp vs H1 Q E
variable {CX:CXT} {k:Nat} {f C:Addr} {fd:FuncData} {ps:List Str} {sp:Sp} {E:XK} {x m:Str} {p pos apos:Pos} {e o:Expr} {es:List Expr} {ta:TE} {t:TA}
theorem z8p:tCall sp [] E t=z2i sp E t:=by
 funext σ H Q
 show t σ H (fun vs H1=>sp (vs++[]) H1 Q E)=t σ H fun vs H1=>sp vs H1 Q E
 simp only[List.append_nil]
theorem q1f (F:FnOk X.prog X.w X.K X.mg X.base CX k f fd ps sp) (hr:Room k X.A) (hg:Gl X x) (hm:X.mg x=some (.ref f)) (hk:PySem.W.keepIn X.K (.ref f)=true) (hb:Binds X.K fd ps []) (hx:Passes CX X E)
  (ha:PA X (e::es) t) (hdb:(x==("__debug__" : Str))=false:=by decide) (he:starEach (e::es) X.env=(false,eval e X.env)::starEach es X.env:=by rfl) (hpl:(backTo pos (starEach es X.env)).any (·.1)=false:=by rfl) :
  PE X (.Call (.Name x p) (e::es) [] pos) (z2i sp E t):=by
 rw[←z8p]
 exact pe_call F hr hg hm hk hb .nil hx ha hdb he hpl
end
section
variable {K:PySem.W.Frag} {σ:St} {H:Hp} {nx bk ct:St→Hp→Prop} {rt:VK} {t u:TS} {te ta tb tc:TE} {tt uu:TT} {Q:VK} {QB:Bool→Hp→Prop} {QA:List V→Hp→Prop} {QO:Option Int→Hp→Prop} {v:V} {i:Nat} {b:Bool} {tr:TA}
theorem z_int {Qi:Int→Prop} {i:Int} (h:Qi i):∃j,V.int i = .int j∧Qi j:=⟨i,rfl,h⟩
theorem z_if {p A B:Prop} [Decidable p] (h1:p→A) (h2:¬p→B):if decide p=true then A else B:=by
 by_cases h:p
 ·rw[if_pos (decide_eq_true h)];exact h1 h
 ·rw[if_neg (by rw[decide_eq_false h];exact Bool.false_ne_true)];exact h2 h
theorem z_iT {A B:Prop} (h:A):if true=true then A else B:=by rw[if_pos rfl];exact h
theorem z_iF {A B:Prop} (h:B):if false=true then A else B:=by rw[if_neg Bool.false_ne_true];exact h
theorem j7f {A B:Prop} (h:A):if(!false)=true then A else B:=h
theorem j3b {A B:Prop} (h:B):if(!true)=true then A else B:=by
 rw[if_neg (by decide)];exact h
end
structure Rt (X:Cx) (H:Hp):Prop where
 keep:∀b o,X.H_0 b=some o→kept o=true→∃u,H b=some u∧kept u=true∧(∀xs,o = .tup xs→u=o)∧(∀ob u',o = .frz ob u'→u=o)∧∀ps,o = .tbl ps→∃more,u = .tbl (ps++more)
 cl:∀a o (G:Hp),H a=some o→(∀b,H b=some (.own a)→G b=some (.own a))→okA G a o
section
variable {X:Cx}
theorem Rt.of {pins:List (Addr×Obj)} {σ:List (Option V)} {H:Hp} {s:Shared} (I:Inv X pins σ H s):Rt X H where
 keep:=fun b o e k=>by
  cases o with
  | tup xs=>exact⟨_,I.base.tups b xs e,rfl,fun _ _=>rfl,fun _ _ _=>rfl,fun _ q=>nomatch q⟩
  | frz ob u=>exact⟨_,I.base.frzs b ob u e,rfl,fun _ _=>rfl,fun _ _ _=>rfl,fun _ q=>nomatch q⟩
  | tbl ps =>
   obtain⟨more,q⟩:=I.base.tbls b ps e
   exact⟨_,q,rfl,fun _ z=>(nomatch z),fun _ _ z=>(nomatch z),fun _ z=>by cases z;exact⟨more,rfl⟩⟩
  | _=>cases k
 cl:=fun a o G e k=>j6m (I.hok a o e) k
end
section
variable {K:PySem.W.Frag} {σ:St} {H:Hp} {Q:VK} {R:Hp→Prop}
theorem w1l {x:V} {n m:String} {b:Bool} (ty:TyX K H x (.type n)) (e:PySem.W.kitOne K (.type n) (.type m)=some b) (h:Q (.bl b) H):rIsi K [x,.ty m] H Q:=⟨x,.ty m,_,_,b,rfl,.ty m,ty,e,h⟩
end
section
variable {K:PySem.W.Frag} {H:Hp} {Q:VK}
theorem q7y:∀ns:List Int,PyData.canLayAll0 (ns.map PyData.int)=true
 | []=>rfl
 | n::ns=>by
  show(PyData.canLay0 (.int n)&&PyData.canLayAll0 (ns.map PyData.int))=true
  rw[q7y ns]<;>rfl
theorem q9b:∀ns:List Int,PyData.depthAll (ns.map PyData.int)=0
 | []=>rfl
 | n::ns=>by
  show max (PyData.depth (.int n)) (PyData.depthAll (ns.map PyData.int))=0
  rw[q9b ns]<;>rfl
theorem z1h (ns:List Int):SeqAt.shaped (.list (ns.map PyData.int))=true:=by
 unfold SeqAt.shaped
 rw[show PyData.canLay0 (.list (ns.map PyData.int))=true from q7y ns]
 rw[show PyData.depth (.list (ns.map PyData.int))=1 from by show PyData.depthAll _+1=1;rw[q9b]]<;>rfl
theorem q7z:∀ns ms:List Int,PyData.eqvAll (ns.map PyData.int) (ms.map PyData.int)=decide (ns=ms)
 | [],[]=>rfl
 | [],m::ms=>rfl
 | n::ns,[]=>rfl
 | n::ns,m::ms=>by
  show(n==m&&PyData.eqvAll (ns.map PyData.int) (ms.map PyData.int))=_
  rw[q7z ns ms]
  by_cases h:n=m
  ·subst h;simp
  ·simp[h]
theorem z8m (ns ms:List Int):PyData.eqv (.list (ns.map PyData.int)) (.list (ms.map PyData.int))=decide (ns=ms):=q7z ns ms
end
section
variable {K:PySem.W.Frag} {H H1 H':Hp} {p q a:Addr} {o u:HO} {xs:List V}
/-- what stood stands, no tuple is new -/
structure Sx (H H1:Hp):Prop where
 same:Same H H1
 nt:∀b xs,H1 b=some (.tup xs)→H b=some (.tup xs)
end
section
variable {K:PySem.W.Frag} {σ:St} {H:Hp} {Q:VK} {R A B:Prop} {p a:Addr} {xs ys:List V} {y:V}
theorem w0o {α:Type} [DecidableEq α] {x:α} (h:A):if decide (x=x)=true then A else B:=by rw[if_pos (decide_eq_true rfl)];exact h
theorem j7s {α:Type} [DecidableEq α] {x:α} (h:B):if(!decide (x=x))=true then A else B:=by rw[decide_eq_true (rfl:x=x)];exact j3b h
theorem j7t {c:Prop} [Decidable c] (hc:c) (h:A):if decide c=true then A else B:=by rw[if_pos (decide_eq_true hc)];exact h
theorem j9m {c:Prop} [Decidable c] (hc:¬c) (h:B):if decide c=true then A else B:=by rw[if_neg (by rw[decide_eq_false hc];exact Bool.false_ne_true)];exact h
theorem j5h {c:Prop} [Decidable c] (hc:c) (h:B):if(!decide c)=true then A else B:=by rw[decide_eq_true hc];exact j3b h
theorem j5e {c:Prop} [Decidable c] (hc:¬c) (h:A):if(!decide c)=true then A else B:=by rw[decide_eq_false hc];exact j7f h
theorem z_list (hp:SqL K H p ys) (h:∀l,H l=none→Q (.ref l) (upd H l (.lst ys))):j4j K [.ref p] H Q:=⟨p,ys,rfl,.inl hp,h⟩
end
section
variable {K:PySem.W.Frag} {H:Hp} {Q:VK} {n:Nat}
def j1b:List V→Hp→VK→Prop:=fun xs H Q=>∃i j,xs=[.int i,.int j]∧Q (.int (if j<i then j else i)) H
def j1f:List V→Hp→VK→Prop:=fun xs H Q=>∃i j,xs=[.int i,.int j]∧Q (.int (if j > i then j else i)) H
theorem z3q {X:Cx} (hc:X.calm=true):CallR X (.builtin "min") j1b:=call_min2 hc
theorem z4b {X:Cx} (hc:X.calm=true):CallR X (.builtin "max") j1f:=call_max2 hc
theorem j9q {i j:Int} (h:Q (.int (min i j)) H):j1b [.int i,.int j] H Q:=⟨i,j,rfl,by
 have e:(if j<i then j else i)=min i j:=by
  by_cases l:j<i
  ·rw[if_pos l];omega
  ·rw[if_neg l];omega
 rw[e];exact h⟩
theorem j6s {i j:Int} (h:Q (.int (max i j)) H):j1f [.int i,.int j] H Q:=⟨i,j,rfl,by
 have e:(if j > i then j else i)=max i j:=by
  by_cases l:j > i
  ·rw[if_pos l];omega
  ·rw[if_neg l];omega
 rw[e];exact h⟩
end
section
variable {X:Cx} {K:PySem.W.Frag} {H:Hp} {Q:VK}
theorem j0v:OpR X (compareOp .IsNot) (fun x y H Q=>∃b c,x = .bl b∧y = .bl c∧Q (.bl (!(b==c))) H):=by
 intro pins s σ H x y v u Q I rx ry h
 obtain⟨b,c,rfl,rfl,q⟩:=h
 cases rx
 cases ry
 cases b<;>cases c<;>exact PySem.wpAny_pure (fin_bl I q rfl)
def j8n:R2:=fun x y H Q=>(y = .non∧Q (.bl (!decide (x = .non))) H)∨∃b c,x = .bl b∧y = .bl c∧Q (.bl (!(b==c))) H
theorem j4b:OpR X (compareOp .IsNot) j8n:=op_notN.or j0v
end
section
variable {K:PySem.W.Frag} {σ:St} {H:Hp} {Q:St→Hp→Prop} {QV:VK} {a:Addr} {xs:List V} {v:V} {n:Nat} {t:TG} {u:TGs}
theorem z_all {bs:List Bool} (ha:SqL K H a (bs.map V.bl)) (h:QV (.bl (bs.all id)) H):rAll K [.ref a] H QV:=⟨a,bs,rfl,ha,h⟩
end
/-- a raise of an own class: the way out -/
def z6u (C:Addr) (W:WX):TS:=fun _ σ H=>W (.ref C) none σ H
theorem q6c {X:Cx} {W:WX} {C:Addr} {bmB:List Value} {B newId initId:String} {x m:Str} {j:Nat} {p p2 pos pos':Pos} (hc:X.calm=true) (tk:Takes X W) (F:ExcBaseFacts B newId initId bmB) (q:PySem.W.excIn X.K C bmB newId=true) (gC:X.mg x=some (.ref C)) (kC:PySem.W.keepIn X.K (.ref C)=true) (r:Raises X (.ref C)) (hg:Gl X x)
  (hdb:(x==("__debug__" : Str))=false:=by decide):PS X (.Raise (some (.Call (.Name x p) [.Constant (.str m) j p2] [] pos)) none pos') (z6u C W):=ps_raise hc tk (pmk_own F q gC kC r hg hdb)
/-- which class an except clause takes -/
theorem q8v {K:PySem.W.Frag} {R S:Addr} {b:Bool} (h2:PySem.W.isClsIn K S=true) (h3:PySem.W.typeIn K (.ref S)=some (.type "type")) (hb:PySem.W.subIn K (.ref S) (.type "BaseException")=some true) (h4:PySem.W.subIn K (.ref R) (.ref S)=some b) :
  PySem.W.exmOne K (.ref R) (.ref S)=some b:=by
 have e1:(PySem.W.subIn K (.ref S) (.type "BaseException")==some true)=true:=by rw[hb]<;>rfl
 have e2:((PySem.W.clsIn K S).isSome&&PySem.W.typeIn K (.ref S)==some (.type "type"))=true:=by
  have h2':(PySem.W.clsIn K S).isSome=true:=h2
  rw[h2',h3]<;>rfl
 show(if(PySem.W.subIn K (.ref S) (.type "BaseException")==some true)=true then(if((PySem.W.clsIn K S).isSome&&PySem.W.typeIn K (.ref S)==some (.type "type"))=true then PySem.W.subIn K (.ref R) (.ref S) else none) else none)=some b
 rw[if_pos e1,if_pos e2]
 exact h4
end Z
namespace Y
open PySem L2 Z
/-- data -/
inductive D where
 | non|bl (b:Bool)|int (i:Int)|str (x:Str)
 | tup (l:List D)|ctp (l:List D)|lst (l:List D)|clst (l:List D)
 | dK (l:List (Key×D))|dT (l:List (List Key×D))
 | cid (k:Nat)|ty (n:String)
/-- the classes' places; in a suite: the exception's place, class and dict -/
structure Ct where
 c:Nat→Addr
 xa:Option (Addr×Addr×Option Addr)
 lk:Option Addr
instance:CoeFun Ct (fun _=>Nat→Addr):=⟨Ct.c⟩
/-- what may be changed -/
inductive Cn where
 | lst (l:List D)|dK (l:List (Key×D))|dT (l:List (List Key×D))|obj (c:Nat) (fs:List (Str×D))|lkK (l:List (Key×D))|lkT (l:List (List Key×D))|tb (k:Nat) (q:Str)
structure Exn where
 cls:Nat
 fs:List (Str×D)
inductive Ent where
 | fz (d:D)|ow (c:Cn)|xn (x:Exn)
structure Stt where
 env:List (Option Ent)
 M:List Cn
inductive AI where
 | val (d:D)|slot (i:Nat)|new (c:Cn)
inductive Ro (α:Type) where
 | ok (a:α) (s:Stt)|er (x:Exn) (s:Stt)|no
abbrev Mo (α:Type):=Stt→Ro α
def Ro.bind {α β:Type} (r:Ro α) (f:α→Mo β):Ro β :=
 match r with
 | .ok a s=>f a s
 | .er x s=>.er x s
 | .no=>.no
inductive Rs where
 | nx (s:Stt)|rt (a:AI) (s:Stt)|bk (s:Stt)|ct (s:Stt)|er (x:Exn) (s:Stt)|no
abbrev Ms:=Stt→Rs
/-- a def: what it hands back (a value, or a thing made anew), the objects behind it -/
inductive Fr where
 | ok (a:AI) (M:List Cn)|er (x:Exn) (M:List Cn)|no
abbrev Mf:=List D→List Cn→Fr
def Cn.toD:Cn→D
 | .lst l=>.lst l
 | .dK l=>.dK l
 | .dT l=>.dT l
 | .obj _ _=>.non
 | .lkK _=>.non
 | .lkT _=>.non
 | .tb _ _=>.non
def Cn.isC:Cn→Bool
 | .obj _ _=>false
 | .lkK _=>false
 | .lkT _=>false
 | .tb _ _=>false
 | _=>true
mutual
inductive Rp (K:PySem.W.Frag) (G:Hp) (α:Nat→Addr) (n:Nat):V→D→Prop
 | non:Rp K G α n .non .non
 | bl (b:Bool):Rp K G α n (.bl b) (.bl b)
 | int (i:Int):Rp K G α n (.int i) (.int i)
 | str (x:Str):Rp K G α n (.str x) (.str x)
 | tup {a:Addr} {vs:List V} {l:List D}:G a=some (.tup vs)→RpL K G α n vs l→Rp K G α n (.ref a) (.tup l)
 | ctp {a:Addr} {vs:List V} {l:List D}:SqT K G a vs→RpL K G α n vs l→Rp K G α n (.ref a) (.ctp l)
 | lst {a:Addr} {vs:List V} {l:List D}:G a=some (.lst vs)→RpL K G α n vs l→Rp K G α n (.ref a) (.lst l)
 | clst {a:Addr} {vs:List V} {l:List D}:SqL K G a vs→RpL K G α n vs l→Rp K G α n (.ref a) (.clst l)
 | dK {a:Addr} {kvs:List (Key×V)} {l:List (Key×D)}:G a=some (.dK kvs)→kvs.map Prod.fst=l.map Prod.fst→RpL K G α n (kvs.map Prod.snd) (l.map Prod.snd)→Rp K G α n (.ref a) (.dK l)
 | dT {a:Addr} {kvs:List (List Key×V)} {l:List (List Key×D)}:G a=some (.dT kvs)→kvs.map Prod.fst=l.map Prod.fst→RpL K G α n (kvs.map Prod.snd) (l.map Prod.snd)→Rp K G α n (.ref a) (.dT l)
 | cid {k:Nat}:k<n→Rp K G α n (.ref (α k)) (.cid k)
 | ty (m:String):Rp K G α n (.ty m) (.ty m)
inductive RpL (K:PySem.W.Frag) (G:Hp) (α:Nat→Addr) (n:Nat):List V→List D→Prop
 | nil:RpL K G α n [] []
 | cons {v:V} {vs:List V} {d:D} {l:List D}:Rp K G α n v d→RpL K G α n vs l→RpL K G α n (v::vs) (d::l)
end
theorem j1t {G G':Hp} {a:Addr} {u:HO} (s:Same G G') (h:Rd G a u):Rd G' a u:=by
 rcases h with h|⟨o,h⟩
 ·exact .inl (s _ _ h)
 ·exact .inr ⟨o,s _ _ h⟩
theorem q7w {K:PySem.W.Frag} {G G':Hp} {a:Addr} {xs:List V} (s:Same G G') (h:SqT K G a xs):SqT K G' a xs:=by
 rcases h with h|h
 ·exact .inl (j1t s h)
 ·exact .inr h
section
variable {K:PySem.W.Frag} {G G':Hp} {α α':Nat→Addr} {n n':Nat}
mutual
theorem Rp.mono (s:Same G G') (ha:∀k,k<n→α' k=α k) (hn:n≤n'):∀{v:V} {d:D},Rp K G α n v d→Rp K G' α' n' v d
 | _,_,.non=>.non
 | _,_,.bl b=>.bl b
 | _,_,.int i=>.int i
 | _,_,.str x=>.str x
 | _,_,.ty x=>.ty x
 | _,_,.tup h r=>.tup (s _ _ h) (RpL.mono s ha hn r)
 | _,_,.ctp h r=>.ctp (q7w s h) (RpL.mono s ha hn r)
 | _,_,.lst h r=>.lst (s _ _ h) (RpL.mono s ha hn r)
 | _,_,.clst h r=>.clst (s.seq h) (RpL.mono s ha hn r)
 | _,_,.dK h e r=>.dK (s _ _ h) e (RpL.mono s ha hn r)
 | _,_,.dT h e r=>.dT (s _ _ h) e (RpL.mono s ha hn r)
 | _,_,.cid (k:=k) h=>by
  have e:=ha k h
  rw[←e]
  exact .cid (Nat.lt_of_lt_of_le h hn)
theorem RpL.mono (s:Same G G') (ha:∀k,k<n→α' k=α k) (hn:n≤n'):∀{vs:List V} {l:List D},RpL K G α n vs l→RpL K G' α' n' vs l
 | _,_,.nil=>.nil
 | _,_,.cons h r=>.cons (Rp.mono s ha hn h) (RpL.mono s ha hn r)
end
theorem RpL.length:∀{vs:List V} {l:List D},RpL K G α n vs l→vs.length=l.length
 | _,_,.nil=>rfl
 | _,_,.cons _ r=>by rw[List.length_cons,List.length_cons,RpL.length r]
theorem RpL.append:∀{vs us:List V} {l m:List D},RpL K G α n vs l→RpL K G α n us m→RpL K G α n (vs++us) (l++m)
 | _,_,_,_,.nil,h=>h
 | _,_,_,_,.cons a r,h=>.cons a (r.append h)
theorem RpL.get:∀{vs:List V} {l:List D} {i:Nat} {d:D},RpL K G α n vs l→l[i]? = some d→∃v,vs[i]? = some v∧Rp K G α n v d
 | _,_,_,_,.nil,e=>by simp at e
 | _,_,0,_,.cons a _,e=>⟨_,rfl,by simp at e;subst e;exact a⟩
 | _,_,i+1,d,.cons _ r,e=>by
  obtain⟨v,h1,h2⟩:=RpL.get (i:=i) (d:=d) r (by simpa using e)
  exact⟨v,by simpa using h1,h2⟩
theorem RpL.get':∀{vs:List V} {l:List D} {i:Nat} {v:V},RpL K G α n vs l→vs[i]? = some v→∃d,l[i]? = some d∧Rp K G α n v d
 | _,_,_,_,.nil,e=>by simp at e
 | _,_,0,_,.cons a _,e=>⟨_,rfl,by simp at e;subst e;exact a⟩
 | _,_,i+1,v,.cons _ r,e=>by
  obtain⟨d,h1,h2⟩:=RpL.get' (i:=i) (v:=v) r (by simpa using e)
  exact⟨d,by simpa using h1,h2⟩
theorem RpL.set {v:V} {d:D} (h:Rp K G α n v d):∀{vs:List V} {l:List D} (i:Nat),RpL K G α n vs l→RpL K G α n (vs.set i v) (l.set i d)
 | _,_,_,.nil=>.nil
 | _,_,0,.cons _ r=>.cons h r
 | _,_,i+1,.cons a r=>.cons a (RpL.set h i r)
theorem RpL.take:∀{vs:List V} {l:List D} (i:Nat),RpL K G α n vs l→RpL K G α n (vs.take i) (l.take i)
 | _,_,0,_=>.nil
 | _,_,_+1,.nil=>.nil
 | _,_,i+1,.cons a r=>.cons a (r.take i)
theorem RpL.drop:∀{vs:List V} {l:List D} (i:Nat),RpL K G α n vs l→RpL K G α n (vs.drop i) (l.drop i)
 | _,_,0,h=>h
 | _,_,_+1,.nil=>.nil
 | _,_,i+1,.cons _ r=>r.drop i
end
def w0f:Option HO→Option HO
 | some (.frz _ (.dK k))=>some (.dK k)
 | some (.frz _ (.dT k))=>some (.dT k)
 | x=>x
/-- b: the dict that is locked, if any -/
def U (b:Option Addr) (H:Hp):Hp:=fun a=>if b=some a then w0f (H a) else H a
section
variable {K:PySem.W.Frag} {b:Option Addr} {H:Hp} {a p:Addr} {o:HO} {vs:List V}
theorem U0:U none H=H:=by funext a;unfold U;rw[if_neg (by simp)]
theorem z9m {H':Hp} (h:H' a=H a):U b H' a=U b H a:=by unfold U;rw[h]
theorem j0c (h:H a=none):U b H a=none:=by unfold U;rw[h];split<;>rfl
theorem U_ne (h:a≠p):U b (upd H p o) a=U b H a:=z9m (upd_ne h)
theorem uL (h:H a=some (.lst vs)):U b H a=some (.lst vs):=by unfold U;rw[h];split<;>rfl
theorem uP (h:H a=some (.tup vs)):U b H a=some (.tup vs):=by unfold U;rw[h];split<;>rfl
theorem uK {k:List (Key×V)} (h:H a=some (.dK k)):U b H a=some (.dK k):=by unfold U;rw[h];split<;>rfl
theorem uT {k:List (List Key×V)} (h:H a=some (.dT k)):U b H a=some (.dT k):=by unfold U;rw[h];split<;>rfl
theorem uX {k:List (Str×V)} (h:H a=some (.xd k)):U b H a=some (.xd k):=by unfold U;rw[h];split<;>rfl
theorem q4w (b:Option Addr) (H:Hp) (a:Addr):U b H a=H a∨(∃o k,H a=some (.frz o (.dK k))∧U b H a=some (.dK k))∨∃o k,H a=some (.frz o (.dT k))∧U b H a=some (.dT k):=by
 unfold U
 split
 ·unfold w0f
  split
  ·rename_i o k h;exact .inr (.inl ⟨o,k,h,rfl⟩)
  ·rename_i o k h;exact .inr (.inr ⟨o,k,h,rfl⟩)
  ·exact .inl rfl
 ·exact .inl rfl
theorem uL' (h:U b H a=some (.lst vs)):H a=some (.lst vs):=by
 rcases q4w b H a with e|⟨o,k,_,e⟩|⟨o,k,_,e⟩
 ·rw[e] at h;exact h
 ·rw[e] at h;cases h
 ·rw[e] at h;cases h
theorem uP' (h:U b H a=some (.tup vs)):H a=some (.tup vs):=by
 rcases q4w b H a with e|⟨o,k,_,e⟩|⟨o,k,_,e⟩
 ·rw[e] at h;exact h
 ·rw[e] at h;cases h
 ·rw[e] at h;cases h
theorem uX' {k:List (Str×V)} (h:U b H a=some (.xd k)):H a=some (.xd k):=by
 rcases q4w b H a with e|⟨o,k,_,e⟩|⟨o,k,_,e⟩
 ·rw[e] at h;exact h
 ·rw[e] at h;cases h
 ·rw[e] at h;cases h
theorem uF' {o:Obj} {u:HO} (h:U b H a=some (.frz o u)):H a=some (.frz o u):=by
 rcases q4w b H a with e|⟨o,k,_,e⟩|⟨o,k,_,e⟩
 ·rw[e] at h;exact h
 ·rw[e] at h;cases h
 ·rw[e] at h;cases h
theorem uK' {k:List (Key×V)} (h:U b H a=some (.dK k)):Rd H a (.dK k):=by
 rcases q4w b H a with e|⟨o,k',q,e⟩|⟨o,k',q,e⟩
 ·rw[e] at h;exact .inl h
 ·rw[e] at h;cases h;exact .inr ⟨o,q⟩
 ·rw[e] at h;cases h
theorem uT' {k:List (List Key×V)} (h:U b H a=some (.dT k)):Rd H a (.dT k):=by
 rcases q4w b H a with e|⟨o,k',q,e⟩|⟨o,k',q,e⟩
 ·rw[e] at h;exact .inl h
 ·rw[e] at h;cases h
 ·rw[e] at h;cases h;exact .inr ⟨o,q⟩
theorem j9x {H':Hp} {u:HO} (k:∀o,H a=some o→H' a=some o) (h:U b H a=some u):U b H' a=some u:=by
 cases q:H a with
 | none=>rw[j0c q] at h;cases h
 | some o =>
  have e:U b H' a=U b H a:=z9m (by rw[k o q,q])
  rw[e];exact h
theorem uSqL (h:SqL K (U b H) a vs):SqL K H a vs:=by
 rcases h with(h|⟨o,h⟩)|h
 ·exact .inl (.inl (uL' h))
 ·exact .inl (.inr ⟨o,uF' h⟩)
 ·exact .inr h
theorem uSqT (h:SqT K (U b H) a vs):SqT K H a vs:=by
 rcases h with(h|⟨o,h⟩)|h
 ·exact .inl (.inl (uP' h))
 ·exact .inl (.inr ⟨o,uF' h⟩)
 ·exact .inr h
end
inductive Lab where
 | id (k:Nat)|slot (i:Nat)
 deriving DecidableEq
structure Sh where
 G:Hp
 α:Nat→Addr
 lab:Addr→Option Lab
def CnOk (K:PySem.W.Frag) (ct:Ct) (S:Sh) (n:Nat) (H:Hp) (p:Addr):Cn→Prop
 | .lst l=>∃vs,H p=some (.lst vs)∧RpL K S.G S.α n vs l
 | .dK l=>∃kvs,H p=some (.dK kvs)∧kvs.map Prod.fst=l.map Prod.fst∧RpL K S.G S.α n (kvs.map Prod.snd) (l.map Prod.snd)
 | .dT l=>∃kvs,H p=some (.dT kvs)∧kvs.map Prod.fst=l.map Prod.fst∧RpL K S.G S.α n (kvs.map Prod.snd) (l.map Prod.snd)
 | .obj c fs=>∃dx fvs,H p=some (.ins (ct c) dx fvs)∧fvs.map Prod.fst=fs.map Prod.fst∧RpL K S.G S.α n (fvs.map Prod.snd) (fs.map Prod.snd)
 | .lkK l=>∃kvs,(∃od,H p=some (.frz od (.dK kvs)))∧kvs.map Prod.fst=l.map Prod.fst∧RpL K S.G S.α n (kvs.map Prod.snd) (l.map Prod.snd)
 | .lkT l=>∃kvs,(∃od,H p=some (.frz od (.dT kvs)))∧kvs.map Prod.fst=l.map Prod.fst∧RpL K S.G S.α n (kvs.map Prod.snd) (l.map Prod.snd)
 | .tb k q=>p=ct k∧∃ps:Array Value,H p=some (.tbl ps)∧PySem.TriplesOk ps.toList∧∀(pos:PySem.Pos) (cv:Value),PySem.codeAmong pos ps.toList=some cv→∃c,cv = .ref c∧S.G c=some (LamX.CodeO c q)
def XOk (K:PySem.W.Frag) (S:Sh) (n:Nat) (H:Hp) (x:Exn) (dd:Option Addr):Prop :=
 (x.fs=[]∧dd=none)∨∃d fvs,dd=some d∧S.G d=some (.xd fvs)∧fvs.map Prod.fst=x.fs.map Prod.fst∧RpL K S.G S.α n (fvs.map Prod.snd) (x.fs.map Prod.snd)
theorem XOk.mono {K:PySem.W.Frag} {S S':Sh} {n n':Nat} {H H':Hp} {x:Exn} {dd:Option Addr} (g:Same S.G S'.G) (al:∀k,k<n→S'.α k=S.α k) (hn:n≤n') (h:XOk K S n H x dd):XOk K S' n' H' x dd:=by
 rcases h with h|⟨d,fvs,e,h1,h2,h3⟩
 ·exact .inl h
 ·exact .inr ⟨d,fvs,e,g _ _ h1,h2,h3.mono g al hn⟩
def z4g (K:PySem.W.Frag) (ct:Ct) (H0:Hp) (S:Sh) (n:Nat) (σ:St) (H:Hp) (i:Nat):Ent→Prop
 | .fz d=>∃v,σ[i]? = some (some v)∧Rp K S.G S.α n v d
 | .ow c=>∃p,σ[i]? = some (some (.ref p))∧H0 p=none∧S.lab p=some (.slot i)∧c.isC=true∧CnOk K ct S n H p c
 | .xn x=>∃a d,ct.xa=some (a,ct x.cls,d)∧σ[i]? = some (some (.ref a))∧XOk K S n H x d
theorem q2m {K:PySem.W.Frag} {ct:Ct} {H0:Hp} {S S':Sh} {n n':Nat} {σ σ':St} {H H':Hp} {i:Nat} {x:Exn} (g:Same S.G S'.G) (al:∀k,k<n→S'.α k=S.α k) (hn:n≤n') (hs:σ'[i]? = σ[i]?) (h:z4g K ct H0 S n σ H i (.xn x)):z4g K ct H0 S' n' σ' H' i (.xn x):=by
 obtain⟨a,d,h1,h2,h3⟩:=h
 exact⟨a,d,h1,hs.trans h2,h3.mono g al hn⟩
/-- no tuple -/
def NT (o:HO):Prop:=∀vs,o≠.tup vs
structure Rel (K:PySem.W.Frag) (ct:Ct) (H0:Hp) (S:Sh) (s:Stt) (σ:St) (H:Hp):Prop where
 sub:Same S.G (U ct.lk H)
 lg:∀a l,S.lab a=some l→S.G a=none∧∃o,H a=some o∧NT o
 dom:∀a,H a=none→H0 a=none
 len:σ.length=s.env.length
 slot:∀i e,s.env[i]? = some (some e)→z4g K ct H0 S s.M.length σ H i e
 ids:∀k c,s.M[k]? = some c→S.lab (S.α k)=some (.id k)∧CnOk K ct S s.M.length H (S.α k) c
structure Stp (S:Sh) (n:Nat) (H:Hp) (S':Sh) (n':Nat) (H':Hp):Prop where
 g:Same S.G S'.G
 le:n≤n'
 al:∀k,k<n→S'.α k=S.α k
 fr:∀a o,H a=some o→S.lab a=none→H' a=some o∧S'.lab a=none
 gn:∀a o,S'.G a=some o→S.G a=some o∨H a=none∨(∃l,S.lab a=some l)∨∃vs,H a=some (.tup vs)
 dom:∀a,H' a=none→H a=none
 fz:∀a od u,H a=some (.frz od u)→H' a=some (.frz od u)
section
variable {S S' S'':Sh} {n n' n'':Nat} {H H' H'':Hp}
theorem Stp.refl:Stp S n H S n H:=⟨fun _ _ e=>e,Nat.le_refl _,fun _ _=>rfl,fun _ _ h l=>⟨h,l⟩,fun _ _ h=>.inl h,fun _ h=>h,fun _ _ _ h=>h⟩
theorem Stp.trans (a:Stp S n H S' n' H') (b:Stp S' n' H' S'' n'' H''):Stp S n H S'' n'' H'' where
 g:=fun x o e=>b.g x o (a.g x o e)
 le:=Nat.le_trans a.le b.le
 al:=fun k hk=>(b.al k (Nat.lt_of_lt_of_le hk a.le)).trans (a.al k hk)
 fr:=fun x o h l=>by
  obtain⟨h1,l1⟩:=a.fr x o h l
  exact b.fr x o h1 l1
 gn:=fun x o e=>by
  rcases b.gn x o e with h|h|⟨l,h⟩|⟨vs,h⟩
  ·exact a.gn x o h
  ·exact .inr (.inl (a.dom x h))
  ·cases q:H x with
   | none=>exact .inr (.inl rfl)
   | some u =>
    cases ql:S.lab x with
    | none =>
     have:=(a.fr x u q ql).2
     rw[this] at h;cases h
    | some l'=>exact .inr (.inr (.inl ⟨l',rfl⟩))
  ·cases q:H x with
   | none=>exact .inr (.inl rfl)
   | some u =>
    cases ql:S.lab x with
    | none =>
     have:=(a.fr x u q ql).1
     rw[this] at h;cases h
     exact .inr (.inr (.inr ⟨vs,rfl⟩))
    | some l'=>exact .inr (.inr (.inl ⟨l',rfl⟩))
 dom:=fun x h=>a.dom x (b.dom x h)
 fz:=fun x od u h=>b.fz x od u (a.fz x od u h)
theorem Rp.step {K:PySem.W.Frag} {v:V} {d:D} (t:Stp S n H S' n' H') (h:Rp K S.G S.α n v d):Rp K S'.G S'.α n' v d:=h.mono t.g t.al t.le
theorem RpL.step {K:PySem.W.Frag} {v:List V} {d:List D} (t:Stp S n H S' n' H') (h:RpL K S.G S.α n v d):RpL K S'.G S'.α n' v d:=h.mono t.g t.al t.le
end
theorem CnOk.mono {K:PySem.W.Frag} {ct:Ct} {S S':Sh} {n n':Nat} {H H':Hp} {p:Addr} {c:Cn} (g:Same S.G S'.G) (al:∀k,k<n→S'.α k=S.α k) (hn:n≤n') (e:∀o,H p=some o→H' p=some o) (h:CnOk K ct S n H p c):CnOk K ct S' n' H' p c:=by
 cases c with
 | lst l=>obtain⟨vs,h1,h2⟩:=h;exact⟨vs,e _ h1,h2.mono g al hn⟩
 | dK l=>obtain⟨vs,h1,h3,h2⟩:=h;exact⟨vs,e _ h1,h3,h2.mono g al hn⟩
 | dT l=>obtain⟨vs,h1,h3,h2⟩:=h;exact⟨vs,e _ h1,h3,h2.mono g al hn⟩
 | obj c fs=>obtain⟨dx,vs,h1,h3,h2⟩:=h;exact⟨dx,vs,e _ h1,h3,h2.mono g al hn⟩
 | lkK l=>obtain⟨vs,⟨od,h1⟩,h3,h2⟩:=h;exact⟨vs,⟨od,e _ h1⟩,h3,h2.mono g al hn⟩
 | lkT l=>obtain⟨vs,⟨od,h1⟩,h3,h2⟩:=h;exact⟨vs,⟨od,e _ h1⟩,h3,h2.mono g al hn⟩
 | tb k q=>obtain⟨h0,ps,h1,h2,h3⟩:=h;exact⟨h0,ps,e _ h1,h2,fun pos cv z=>by obtain⟨c,z1,z2⟩:=h3 pos cv z;exact⟨c,z1,g _ _ z2⟩⟩
/-- a dict that is locked while it is walked -/
def Cn.lkd:Cn→Bool
 | .lkK _=>true
 | .lkT _=>true
 | _=>false
def NF (o:HO):Prop:=∀od u,o≠.frz od u
theorem CnOk.nf {K:PySem.W.Frag} {ct:Ct} {S:Sh} {n:Nat} {H:Hp} {p:Addr} {c:Cn} (h:CnOk K ct S n H p c) (hc:c.lkd=false) {o:HO} (e:H p=some o):NF o:=fun od u z=>by
 subst z
 cases c with
 | lst l=>obtain⟨us,h1,_⟩:=h;rw[h1] at e;cases e
 | dK l=>obtain⟨us,h1,_⟩:=h;rw[h1] at e;cases e
 | dT l=>obtain⟨us,h1,_⟩:=h;rw[h1] at e;cases e
 | obj c fs=>obtain⟨_,us,h1,_⟩:=h;rw[h1] at e;cases e
 | lkK l=>cases hc
 | lkT l=>cases hc
 | tb k q=>obtain⟨_,us,h1,_⟩:=h;rw[h1] at e;cases e
theorem CnOk.nt {K:PySem.W.Frag} {ct:Ct} {S:Sh} {n:Nat} {H:Hp} {p:Addr} {c:Cn} (h:CnOk K ct S n H p c) {o:HO} (e:H p=some o):NT o:=fun vs z=>by
 subst z
 cases c with
 | lst l=>obtain⟨us,h1,_⟩:=h;rw[h1] at e;cases e
 | dK l=>obtain⟨us,h1,_⟩:=h;rw[h1] at e;cases e
 | dT l=>obtain⟨us,h1,_⟩:=h;rw[h1] at e;cases e
 | obj c fs=>obtain⟨_,us,h1,_⟩:=h;rw[h1] at e;cases e
 | lkK l=>obtain⟨us,⟨od,h1⟩,_⟩:=h;rw[h1] at e;cases e
 | lkT l=>obtain⟨us,⟨od,h1⟩,_⟩:=h;rw[h1] at e;cases e
 | tb k q=>obtain⟨_,us,h1,_⟩:=h;rw[h1] at e;cases e
theorem CnOk.some {K:PySem.W.Frag} {ct:Ct} {S:Sh} {n:Nat} {H:Hp} {p:Addr} {c:Cn} (h:CnOk K ct S n H p c):∃o,H p=some o:=by
 cases c with
 | lst l=>obtain⟨vs,h1,_⟩:=h;exact⟨_,h1⟩
 | dK l=>obtain⟨vs,h1,_⟩:=h;exact⟨_,h1⟩
 | dT l=>obtain⟨vs,h1,_⟩:=h;exact⟨_,h1⟩
 | obj c fs=>obtain⟨_,vs,h1,_⟩:=h;exact⟨_,h1⟩
 | lkK l=>obtain⟨vs,⟨od,h1⟩,_⟩:=h;exact⟨_,h1⟩
 | lkT l=>obtain⟨vs,⟨od,h1⟩,_⟩:=h;exact⟨_,h1⟩
 | tb k q=>obtain⟨_,vs,h1,_⟩:=h;exact⟨_,h1⟩
section
variable {K:PySem.W.Frag} {ct:Ct} {H0:Hp} {S S':Sh} {s s':Stt} {σ:St} {H H':Hp} {p:Addr} {o:HO}
theorem Rel.labN (r:Rel K ct H0 S s σ H) {a:Addr} (h:H a=none):S.lab a=none:=by
 cases q:S.lab a with
 | none=>rfl
 | some l=>obtain⟨_,o,e,_⟩:=r.lg a l q;rw[e] at h;cases h
theorem Rel.gN (r:Rel K ct H0 S s σ H) {a:Addr} (h:H a=none):S.G a=none:=by
 cases q:S.G a with
 | none=>rfl
 | some l=>have:=r.sub a l q;rw[j0c h] at this;cases this
/-- a new thing that nobody has yet -/
theorem Rel.new (r:Rel K ct H0 S s σ H) (hp:H p=none):Rel K ct H0 S s σ (upd H p o):=by
 have ne:∀{a:Addr} {u:HO},H a=some u→upd H p o a=some u:=fun {a u} e=>by rw[upd_ne (ne_of_none e hp)];exact e
 have cn:∀{a:Addr} {c:Cn},CnOk K ct S s.M.length H a c→CnOk K ct S s.M.length (upd H p o) a c:=fun {a c} h=>h.mono (fun _ _ e=>e) (fun _ _=>rfl) (Nat.le_refl _) (fun _ e=>ne e)
 refine⟨fun a u e=>by rw[U_ne (fun z=>by subst z;rw[r.gN hp] at e;cases e)];exact r.sub a u e,fun a l e=>?_,fun a e=>?_,r.len,fun i e h=>?_,fun k c h=>?_⟩
 ·obtain⟨h1,u,h2,h3⟩:=r.lg a l e
  exact⟨h1,u,ne h2,h3⟩
 ·exact r.dom a (q1a.mp e).2
 ·have q:=r.slot i e h
  cases e with
  | fz d=>exact q
  | xn x=>exact q2m (fun _ _ e=>e) (fun _ _=>rfl) (Nat.le_refl _) rfl q
  | ow c =>
   obtain⟨a,h1,h2,h3,h4,h5⟩:=q
   exact⟨a,h1,h2,h3,h4,cn h5⟩
 ·obtain⟨h1,h2⟩:=r.ids k c h
  exact⟨h1,cn h2⟩
theorem Stp.new (r:Rel K ct H0 S s σ H) (hp:H p=none) {n:Nat}:Stp S n H S n (upd H p o) where
 g:=fun _ _ e=>e
 le:=Nat.le_refl _
 al:=fun _ _=>rfl
 fr:=fun a u h l=>⟨by rw[upd_ne (ne_of_none h hp)];exact h,l⟩
 gn:=fun _ _ e=>.inl e
 dom:=fun a e=>(q1a.mp e).2
 fz:=fun a od u h=>by rw[upd_ne (ne_of_none h hp)];exact h
def Sh.frz (S:Sh) (p:Addr) (o:HO):Sh:=⟨upd S.G p o,S.α,S.lab⟩
/-- what nobody has is frozen -/
theorem Rel.frz (r:Rel K ct H0 S s σ H) (hp:U ct.lk H p=some o) (hl:S.lab p=none) (hg:S.G p=none):Rel K ct H0 (S.frz p o) s σ H:=by
 have sg:Same S.G (S.frz p o).G:=fun a u e=>by show upd S.G p o a=_;rw[upd_ne (ne_of_none e hg)];exact e
 have cn:∀{a:Addr} {c:Cn},CnOk K ct S s.M.length H a c→CnOk K ct (S.frz p o) s.M.length H a c:=fun {a c} h=>h.mono sg (fun _ _=>rfl) (Nat.le_refl _) (fun _ e=>e)
 refine⟨fun a u e=>?_,fun a l e=>?_,r.dom,r.len,fun i e h=>?_,fun k c h=>?_⟩
 ·have e:upd S.G p o a=some u:=e
  by_cases q:a=p
  ·subst q;rw[upd_same] at e;cases e;exact hp
  ·rw[upd_ne q] at e;exact r.sub a u e
 ·have e1:S.lab a=some l:=e
  obtain⟨h1,h2⟩:=r.lg a l e1
  refine⟨?_,h2⟩
  show upd S.G p o a=none
  rw[upd_ne (fun z=>by subst z;rw[e1] at hl;cases hl)]
  exact h1
 ·have q:=r.slot i e h
  cases e with
  | fz d=>obtain⟨v,h1,h2⟩:=q;exact⟨v,h1,h2.mono sg (fun _ _=>rfl) (Nat.le_refl _)⟩
  | xn x=>exact q2m sg (fun _ _=>rfl) (Nat.le_refl _) rfl q
  | ow c =>
   obtain⟨a,h1,h2,h3,h4,h5⟩:=q
   exact⟨a,h1,h2,h3,h4,cn h5⟩
 ·obtain⟨h1,h2⟩:=r.ids k c h
  exact⟨h1,cn h2⟩
theorem Stp.frz {n:Nat} (hg:S.G p=none) (hs:H p=none∨∃l,S.lab p=some l) (hd:∀a,H' a=none→H a=none) (fr:∀a u,H a=some u→S.lab a=none→H' a=some u) (hz:∀a od u,H a=some (.frz od u)→H' a=some (.frz od u)):Stp S n H (S.frz p o) n H' where
 g:=fun a u e=>by show upd S.G p o a=_;rw[upd_ne (ne_of_none e hg)];exact e
 le:=Nat.le_refl _
 al:=fun _ _=>rfl
 fr:=fun a u h l=>⟨fr a u h l,l⟩
 gn:=fun a u e=>by
  have e:upd S.G p o a=some u:=e
  by_cases q:a=p
  ·subst q
   rcases hs with hs|hs
   ·exact .inr (.inl hs)
   ·exact .inr (.inr (.inl hs))
  ·rw[upd_ne q] at e;exact .inl e
 fz:=hz
 dom:=hd
end
end Y
namespace Y
open PySem L2 Z
def ItOk (K:PySem.W.Frag) (ct:Ct) (Hs:Hp) (S:Sh) (s:Stt) (σ:St) (H:Hp) (v:V):AI→Prop
 | .val d=>Rp K S.G S.α s.M.length v d
 | .slot i=>σ[i]? = some (some v)
 | .new c=>∃p,v = .ref p∧Hs p=none∧S.lab p=none∧S.G p=none∧c.isC=true∧CnOk K ct S s.M.length H p c
/-- how a result is told: the heap ahead, the state behind, the thing, its data -/
abbrev RR (β α:Type):=Hp→Sh→Stt→St→Hp→β→α→Prop
section
variable {K:PySem.W.Frag} {ct:Ct} {H0:Hp} {W:WX}
def Pst (K:PySem.W.Frag) (ct:Ct) (H0:Hp) {β α:Type} (R:RR β α) (W:WX) (S:Sh) (s:Stt) (σ:St) (H:Hp) (Q:β→Hp→Prop):Ro α→Prop
 | .ok a s'=>∀S' b H',Stp S s.M.length H S' s'.M.length H'→Rel K ct H0 S' s' σ H'→R H S' s' σ H' b a→Q b H'
 | .er x s'=>∀S' H' dd,Stp S s.M.length H S' s'.M.length H'→Rel K ct H0 S' s' σ H'→XOk K S' s'.M.length H' x dd→W (.ref (ct x.cls)) dd σ H'
 | .no=>False
def Jd (K:PySem.W.Frag) (ct:Ct) (H0:Hp) {β α:Type} (R:RR β α) (W:WX) (t:St→Hp→(β→Hp→Prop)→Prop) (m:Mo α):Prop :=
 ∀S s σ H Q,Rel K ct H0 S s σ H→Pst K ct H0 R W S s σ H Q (m s)→t σ H Q
/-- a result that is told by an earlier heap, too -/
def Bck {β α:Type} (R:RR β α):Prop:=∀H1 H S s σ H' b a,(∀x,H1 x=none→H x=none)→R H1 S s σ H' b a→R H S s σ H' b a
def RI (K:PySem.W.Frag) (ct:Ct):RR V AI:=fun H S s σ H' v a=>ItOk K ct H S s σ H' v a
def RV (K:PySem.W.Frag):RR V D:=fun _ S s _ _ v d=>Rp K S.G S.α s.M.length v d
def RVL (K:PySem.W.Frag):RR (List V) (List D):=fun _ S s _ _ v d=>RpL K S.G S.α s.M.length v d
def RB:RR Bool Bool:=fun _ _ _ _ _ b a=>b=a
def RO:RR (Option Int) (Option Int):=fun _ _ _ _ _ b a=>b=a
theorem bI:Bck (RI K ct):=fun H1 H S s σ H' v a k h=>by
 cases a with
 | val d=>exact h
 | slot i=>exact h
 | new c=>obtain⟨p,e,h1,h2⟩:=h;exact⟨p,e,k _ h1,h2⟩
theorem bVL:Bck (RVL K):=fun _ _ _ _ _ _ _ _ _ h=>h
theorem bB:Bck RB:=fun _ _ _ _ _ _ _ _ _ h=>h
theorem bO:Bck RO:=fun _ _ _ _ _ _ _ _ _ h=>h
variable {β α γ δ:Type} {R:RR β α} {R':RR γ δ} {S S1:Sh} {s s1:Stt} {σ:St} {H H1:Hp}
theorem Pst.from {Q:β→Hp→Prop} {r:Ro α} (b:Bck R) (h:Pst K ct H0 R W S s σ H Q r) (t:Stp S s.M.length H S1 s1.M.length H1):Pst K ct H0 R W S1 s1 σ H1 Q r:=by
 cases r with
 | ok a s'=>exact fun S' b' H' st rel q=>h S' b' H' (t.trans st) rel (b _ _ _ _ _ _ _ _ t.dom q)
 | er x s'=>exact fun S' H' dd st rel q=>h S' H' dd (t.trans st) rel q
 | no=>exact h
theorem Pst.bind {Q:γ→Hp→Prop} {Q1:β→Hp→Prop} {r:Ro α} {f:α→Mo δ} (b:Bck R') (h:Pst K ct H0 R' W S s σ H Q (r.bind f))
  (k:∀S1 s1 H1 x a,Stp S s.M.length H S1 s1.M.length H1→Rel K ct H0 S1 s1 σ H1→R H S1 s1 σ H1 x a→Pst K ct H0 R' W S1 s1 σ H1 Q (f a s1)→Q1 x H1):Pst K ct H0 R W S s σ H Q1 r:=by
 cases r with
 | ok a s'=>exact fun S' x H' st rel q=>k S' s' H' x a st rel q (Pst.from b h st)
 | er x s'=>exact h
 | no=>exact h
theorem ItOk.step {Hs:Hp} {v:V} {a:AI} (t:Stp S s.M.length H S1 s1.M.length H1) (h:ItOk K ct Hs S s σ H v a):ItOk K ct Hs S1 s1 σ H1 v a:=by
 cases a with
 | val d=>exact Rp.step t h
 | slot i=>exact h
 | new c =>
  obtain⟨p,e,h1,h2,h3,h4,h5⟩:=h
  obtain⟨o,ho⟩:=h5.some
  obtain⟨k1,k2⟩:=t.fr p o ho h2
  refine⟨p,e,h1,k2,?_,h4,h5.mono t.g t.al t.le fun u hu=>(t.fr p u hu h2).1⟩
  cases q:S1.G p with
  | none=>rfl
  | some u =>
   rcases t.gn p u q with z|z|⟨l,z⟩|⟨us,z⟩
   ·rw[h3] at z;cases z
   ·rw[ho] at z;cases z
   ·rw[h2] at z;cases z
   ·exact absurd rfl (h5.nt z us)
def Cn.aL:Cn→Option (List D)
 | .lst l=>some l
 | _=>none
def Cn.aK:Cn→Option (List (Key×D))
 | .dK l=>some l
 | .lkK l=>some l
 | _=>none
def Cn.aT:Cn→Option (List (List Key×D))
 | .dT l=>some l
 | .lkT l=>some l
 | _=>none
def q4g (M:List Cn):D→Option (List D)
 | .lst l=>some l
 | .clst l=>some l
 | .cid k=>M[k]?.bind Cn.aL
 | _=>none
def q9j:D→Option (List D)
 | .tup l=>some l
 | .ctp l=>some l
 | _=>none
def z6n (M:List Cn):D→Option (List (Key×D))
 | .dK l=>some l
 | .cid k=>M[k]?.bind Cn.aK
 | _=>none
def z1r (M:List Cn):D→Option (List (List Key×D))
 | .dT l=>some l
 | .cid k=>M[k]?.bind Cn.aT
 | _=>none
def Ent.toD:Ent→D
 | .fz d=>d
 | .ow c=>c.toD
 | .xn _=>.non
def Ent.nox:Ent→Option Ent
 | .xn _=>none
 | e=>some e
def q2s (s:Stt) (i:Nat):Option Ent:=((s.env[i]?).getD none).bind Ent.nox
theorem w0i {o:Option Ent} {x:Exn} (h:o.bind Ent.nox=some (.xn x)):False:=by
 cases o with
 | none=>cases h
 | some e=>cases e<;>cases h
theorem q5j {s:Stt} {i:Nat} {x:Exn} (h:q2s s i=some (.xn x)):False:=w0i h
theorem q1t {s:Stt} {i:Nat} {e:Ent} (h:q2s s i=some e):s.env[i]? = some (some e):=by
 unfold q2s at h
 cases q:s.env[i]? with
 | none=>rw[q] at h;cases h
 | some z =>
  rw[q] at h
  cases z with
  | none=>cases h
  | some z=>cases z<;>cases h<;>rfl
/-- an item as data, what it has now -/
def look (s:Stt):AI→Option D
 | .val d=>some d
 | .new c=>some c.toD
 | .slot i=>(q2s s i).map Ent.toD
def q1v (s:Stt) (a:AI):Option (List D):=(look s a).bind (q4g s.M)
def z0v (s:Stt) (a:AI):Option (List D):=(look s a).bind q9j
def q3b (s:Stt) (a:AI):Option (List (Key×D)):=(look s a).bind (z6n s.M)
def q3x (s:Stt) (a:AI):Option (List (List Key×D)):=(look s a).bind (z1r s.M)
/-- data as the whole heap shows it -/
theorem CnOk.rp {p:Addr} {c:Cn} (r:Rel K ct H0 S s σ H) (hc:c.isC=true) (h:CnOk K ct S s.M.length H p c):Rp K (U ct.lk H) S.α s.M.length (.ref p) c.toD:=by
 cases c with
 | lst l=>obtain⟨vs,h1,h2⟩:=h;exact .lst (uL h1) (h2.mono r.sub (fun _ _=>rfl) (Nat.le_refl _))
 | dK l=>obtain⟨vs,h1,h3,h2⟩:=h;exact .dK (uK h1) h3 (h2.mono r.sub (fun _ _=>rfl) (Nat.le_refl _))
 | dT l=>obtain⟨vs,h1,h3,h2⟩:=h;exact .dT (uT h1) h3 (h2.mono r.sub (fun _ _=>rfl) (Nat.le_refl _))
 | obj c fs=>cases hc
 | lkK l=>cases hc
 | lkT l=>cases hc
 | tb _ _=>cases hc
theorem q6t {Hs:Hp} {v:V} {a:AI} {d:D} (r:Rel K ct H0 S s σ H) (i:ItOk K ct Hs S s σ H v a) (e:look s a=some d):Rp K (U ct.lk H) S.α s.M.length v d:=by
 cases a with
 | val d'=>cases e;exact Rp.mono r.sub (fun _ _=>rfl) (Nat.le_refl _) i
 | new c =>
  cases e
  obtain⟨p,rfl,_,_,_,hc,h5⟩:=i
  exact h5.rp r hc
 | slot j =>
  obtain⟨en,q0,rfl⟩:=Option.map_eq_some_iff.mp e
  have q:=q1t q0
  have hh:=r.slot j en q
  have hi:σ[j]? = some (some v):=i
  cases en with
  | fz d' =>
   obtain⟨v',h1,h2⟩:=hh
   rw[hi] at h1;cases h1
   exact h2.mono r.sub (fun _ _=>rfl) (Nat.le_refl _)
  | xn x=>exact(q5j q0).elim
  | ow c =>
   obtain⟨p,h1,_,_,hc,h5⟩:=hh
   rw[hi] at h1;cases h1
   exact h5.rp r hc
/-- the parts of what an item shows are frozen -/
theorem q2f {Hs:Hp} {v:V} {a:AI} {l:List D} (r:Rel K ct H0 S s σ H) (i:ItOk K ct Hs S s σ H v a) (e:q1v s a=some l):∃p vs,v = .ref p∧SqL K H p vs∧RpL K S.G S.α s.M.length vs l:=by
 have cidc:∀{k:Nat} {u:V},Rp K S.G S.α s.M.length u (.cid k)→q4g s.M (.cid k)=some l→∃p vs,u = .ref p∧SqL K H p vs∧RpL K S.G S.α s.M.length vs l:=fun {k u} h e=>by
  cases h
  obtain⟨c,q,e1⟩:=Option.bind_eq_some_iff.mp (show s.M[k]?.bind Cn.aL=some l from e)
  cases c with
  | lst l' =>
   cases e1
   obtain⟨vs,h1,h2⟩:=(r.ids k _ q).2
   exact⟨_,vs,rfl,.of h1,h2⟩
  | _=>cases e1
 have frz:∀{u:V} {d:D},Rp K S.G S.α s.M.length u d→q4g s.M d=some l→∃p vs,u = .ref p∧SqL K H p vs∧RpL K S.G S.α s.M.length vs l:=fun {u d} h e=>by
  cases d with
  | lst l'=>cases e;cases h with|lst h1 h2=>exact⟨_,_,rfl,(.of (uL' (r.sub _ _ h1))),h2⟩
  | clst l'=>cases e;cases h with|clst h1 h2=>exact⟨_,_,rfl,uSqL (r.sub.seq h1),h2⟩
  | cid k=>exact cidc h e
  | _=>cases e
 have own:∀{p:Addr} {c:Cn},CnOk K ct S s.M.length H p c→c.isC=true→q4g s.M c.toD=some l→∃q vs,V.ref p = .ref q∧SqL K H q vs∧RpL K S.G S.α s.M.length vs l:=fun {p c} h hc e=>by
  cases c with
  | lst l'=>cases e;obtain⟨vs,h1,h2⟩:=h;exact⟨p,vs,rfl,.of h1,h2⟩
  | dK l'=>cases e
  | dT l'=>cases e
  | obj _ _=>cases e
  | lkK l=>cases e
  | lkT l=>cases e
  | tb _ _=>cases e
 unfold q1v at e
 cases a with
 | val d=>exact frz i e
 | new c =>
  obtain⟨p,rfl,_,_,_,hc,h5⟩:=i
  exact own h5 hc e
 | slot j =>
  obtain⟨d,q0,e⟩:=Option.bind_eq_some_iff.mp e
  obtain⟨en,q1,rfl⟩:=Option.map_eq_some_iff.mp q0
  have q:=q1t q1
  have hi:σ[j]? = some (some v):=i
  have hh:=r.slot j en q
  cases en with
  | fz d =>
   obtain⟨v',h1,h2⟩:=hh
   rw[hi] at h1;cases h1
   exact frz h2 e
  | xn x=>exact(q5j q1).elim
  | ow c =>
   obtain⟨p,h1,_,_,hc,h5⟩:=hh
   rw[hi] at h1;cases h1
   exact own h5 hc e
theorem z2v {Hs:Hp} {v:V} {a:AI} {l:List D} (r:Rel K ct H0 S s σ H) (i:ItOk K ct Hs S s σ H v a) (e:z0v s a=some l):∃p vs,v = .ref p∧SqT K H p vs∧RpL K S.G S.α s.M.length vs l:=by
 have frz:∀{u:V} {d:D},Rp K S.G S.α s.M.length u d→q9j d=some l→∃p vs,u = .ref p∧SqT K H p vs∧RpL K S.G S.α s.M.length vs l:=fun {u d} h e=>by
  cases d with
  | tup l'=>cases e;cases h with|tup h1 h2=>exact⟨_,_,rfl,.of (uP' (r.sub _ _ h1)),h2⟩
  | ctp l'=>cases e;cases h with|ctp h1 h2=>exact⟨_,_,rfl,uSqT (q7w r.sub h1),h2⟩
  | _=>cases e
 unfold z0v at e
 cases a with
 | val d=>exact frz i e
 | new c=>cases c<;>cases e
 | slot j =>
  obtain⟨d,q0,e⟩:=Option.bind_eq_some_iff.mp e
  obtain⟨en,q1,rfl⟩:=Option.map_eq_some_iff.mp q0
  have q:=q1t q1
  have hi:σ[j]? = some (some v):=i
  have hh:=r.slot j en q
  cases en with
  | fz d =>
   obtain⟨v',h1,h2⟩:=hh
   rw[hi] at h1;cases h1
   exact frz h2 e
  | xn x=>exact(q5j q1).elim
  | ow c=>cases c<;>cases e
def Sh.frzL (S:Sh) (p:Addr) (o:HO):Sh:=⟨upd S.G p o,S.α,fun a=>if a=p then none else S.lab a⟩
def toV:AI→Mo D:=fun a s=>match a with
 | .val d=>.ok d s
 | .new c=>.ok c.toD s
 | .slot i=>match q2s s i with
  | some (.ow c)=>.ok c.toD ⟨s.env.set i (some (.fz c.toD)),s.M⟩
  | some (.fz d)=>.ok d s
  | _=>.no
theorem z9j {p:Addr} {c:Cn} {n:Nat} {Hx:Hp} (hg:S.G p=none) (hc:c.isC=true) (h:CnOk K ct S n Hx p c):∃o,U ct.lk Hx p=some o∧Rp K (upd S.G p o) S.α n (.ref p) c.toD:=by
 have sg:∀o,Same S.G (upd S.G p o):=fun o a u e=>by rw[upd_ne (ne_of_none e hg)];exact e
 cases c with
 | lst l=>obtain⟨vs,h1,h2⟩:=h;exact⟨_,uL h1,.lst upd_same (h2.mono (sg _) (fun _ _=>rfl) (Nat.le_refl _))⟩
 | dK l=>obtain⟨vs,h1,h3,h2⟩:=h;exact⟨_,uK h1,.dK upd_same h3 (h2.mono (sg _) (fun _ _=>rfl) (Nat.le_refl _))⟩
 | dT l=>obtain⟨vs,h1,h3,h2⟩:=h;exact⟨_,uT h1,.dT upd_same h3 (h2.mono (sg _) (fun _ _=>rfl) (Nat.le_refl _))⟩
 | obj c fs=>cases hc
 | lkK l=>cases hc
 | lkT l=>cases hc
 | tb _ _=>cases hc
theorem Stp.frzNew {S':Sh} {n n':Nat} {H':Hp} {p:Addr} {o:HO} (t:Stp S n H S' n' H') (hp:H p=none) (hg:S'.G p=none):Stp S n H (S'.frz p o) n' H' where
 g:=fun a u e=>by show upd S'.G p o a=_;rw[upd_ne (ne_of_none (t.g a u e) hg)];exact t.g a u e
 le:=t.le
 al:=t.al
 fr:=t.fr
 gn:=fun a u e=>by
  have e1:upd S'.G p o a=some u:=e
  by_cases q:a=p
  ·subst q;exact .inr (.inl hp)
  ·rw[upd_ne q] at e1;exact t.gn a u e1
 fz:=t.fz
 dom:=t.dom
theorem z2e {i:Nat} {c:Cn} (r:Rel K ct H0 S s σ H) (e:s.env[i]? = some (some (.ow c))):∃S' v,σ[i]? = some (some v)∧Stp S s.M.length H S' s.M.length H∧Rel K ct H0 S' ⟨s.env.set i (some (.fz c.toD)),s.M⟩ σ H∧Rp K S'.G S'.α s.M.length v c.toD:=by
 obtain⟨p,h1,h2,h3,h4,h5⟩:=r.slot i _ e
 have hg:=(r.lg p _ h3).1
 obtain⟨o,ho,hr⟩:=z9j hg h4 h5
 have sg:Same S.G (upd S.G p o):=fun a u e=>by rw[upd_ne (ne_of_none e hg)];exact e
 have cn:∀{a:Addr} {c:Cn},CnOk K ct S s.M.length H a c→CnOk K ct (S.frzL p o) s.M.length H a c:=fun {a c} h=>h.mono sg (fun _ _=>rfl) (Nat.le_refl _) (fun _ e=>e)
 have labne:∀{a:Addr} {l:Lab},S.lab a=some l→l≠.slot i→(S.frzL p o).lab a=some l:=fun {a l} h ne=>by
  show(if a=p then none else S.lab a)=_
  rw[if_neg (fun z=>by subst z;rw[h3] at h;cases h;exact ne rfl)]
  exact h
 refine⟨S.frzL p o,.ref p,h1,⟨sg,Nat.le_refl _,fun _ _=>rfl,fun a u h l=>⟨h,?_⟩,fun a u q=>?_,fun _ h=>h,fun _ _ _ h=>h⟩,⟨fun a u q=>?_,fun a l q=>?_,r.dom,?_,fun j en q=>?_,fun k c' q=>?_⟩,hr⟩
 ·show(if a=p then none else S.lab a)=none
  split
  ·rfl
  ·exact l
 ·have q1:upd S.G p o a=some u:=q
  by_cases z:a=p
  ·subst z;exact .inr (.inr (.inl ⟨_,h3⟩))
  ·rw[upd_ne z] at q1;exact .inl q1
 ·have q1:upd S.G p o a=some u:=q
  by_cases z:a=p
  ·subst z;rw[upd_same] at q1;cases q1;exact ho
  ·rw[upd_ne z] at q1;exact r.sub a u q1
 ·have q1:(if a=p then none else S.lab a)=some l:=q
  by_cases z:a=p
  ·rw[if_pos z] at q1;cases q1
  ·rw[if_neg z] at q1
   obtain⟨k1,k2⟩:=r.lg a l q1
   refine⟨?_,k2⟩
   show upd S.G p o a=none
   rw[upd_ne z];exact k1
 ·show σ.length=(s.env.set i _).length
  rw[List.length_set];exact r.len
 ·have q1:(s.env.set i (some (.fz c.toD)))[j]? = some (some en):=q
  by_cases z:i=j
  ·subst z
   have hlt:i<s.env.length:=(List.getElem?_eq_some_iff.mp e).1
   rw[List.getElem?_set_self hlt] at q1
   cases q1
   exact⟨_,h1,hr⟩
  ·rw[List.getElem?_set_ne z] at q1
   have hh:=r.slot j en q1
   cases en with
   | fz d=>obtain⟨v,k1,k2⟩:=hh;exact⟨v,k1,k2.mono sg (fun _ _=>rfl) (Nat.le_refl _)⟩
   | xn x=>exact q2m sg (fun _ _=>rfl) (Nat.le_refl _) rfl hh
   | ow c' =>
    obtain⟨a,k1,k2,k3,k4,k5⟩:=hh
    exact⟨a,k1,k2,labne k3 (fun w=>by cases w;exact z rfl),k4,cn k5⟩
 ·obtain⟨k1,k2⟩:=r.ids k c' q
  exact⟨labne k1 (fun w=>by cases w),cn k2⟩
abbrev Ei (K:PySem.W.Frag) (ct:Ct) (H0:Hp) (W:WX) (t:TE) (m:Mo AI):Prop:=Jd K ct H0 (RI K ct) W t m
abbrev Ev (K:PySem.W.Frag) (ct:Ct) (H0:Hp) (W:WX) (t:TE) (m:Mo D):Prop:=Jd K ct H0 (RV K) W t m
abbrev EvL (K:PySem.W.Frag) (ct:Ct) (H0:Hp) (W:WX) (t:TA) (m:Mo (List D)):Prop:=Jd K ct H0 (RVL K) W t m
abbrev Et (K:PySem.W.Frag) (ct:Ct) (H0:Hp) (W:WX) (t:TT) (m:Mo Bool):Prop:=Jd K ct H0 RB W t m
abbrev Eo (K:PySem.W.Frag) (ct:Ct) (H0:Hp) (W:WX) (t:TO) (m:Mo (Option Int)):Prop:=Jd K ct H0 RO W t m
def mV (m:Mo AI):Mo D:=fun s=>(m s).bind toV
theorem q4k {t:TE} {m:Mo AI} (h:Ei K ct H0 W t m):Ev K ct H0 W t (mV m):=fun S s σ H Q rel p=>h S s σ H Q rel (by
 unfold mV at p
 cases q:m s with
 | no=>rw[q] at p;exact p
 | er x s'=>rw[q] at p;exact p
 | ok a s' =>
  rw[q] at p
  have p:Pst K ct H0 (RV K) W S s σ H Q (toV a s'):=p
  intro S' v H' st rel' it
  cases a with
  | val d=>exact p S' v H' st rel' it
  | new c =>
   obtain⟨pp,rfl,h1,h2,h3,h4,h5⟩:=it
   obtain⟨o,ho,hr⟩:=z9j h3 h4 h5
   exact p (S'.frz pp o) _ H' (st.frzNew h1 h3) (rel'.frz ho h2 h3) hr
  | slot i =>
   have hi:σ[i]? = some (some v):=it
   have p:Pst K ct H0 (RV K) W S s σ H Q (match q2s s' i with|some (.ow c)=>.ok c.toD ⟨s'.env.set i (some (.fz c.toD)),s'.M⟩|some (.fz d)=>.ok d s'|_=>.no):=p
   cases qe:q2s s' i with
   | none=>rw[qe] at p;exact False.elim p
   | some en =>
    rw[qe] at p
    cases en with
    | fz d =>
     obtain⟨v',k1,k2⟩:=rel'.slot i _ (q1t qe)
     rw[hi] at k1;cases k1
     exact p S' v H' st rel' k2
    | xn x=>exact False.elim p
    | ow c =>
     obtain⟨S2,v',k1,st2,rel2,k2⟩:=z2e rel' (q1t qe)
     rw[hi] at k1;cases k1
     exact p S2 v H' (st.trans st2) rel2 k2)
def mI (m:Mo D):Mo AI:=fun s=>(m s).bind fun d s'=>.ok (.val d) s'
theorem z1g {t:TE} {m:Mo D} (h:Ev K ct H0 W t m):Ei K ct H0 W t (mI m):=fun S s σ H Q rel p=>h S s σ H Q rel (by
 unfold mI at p
 cases q:m s with
 | no=>rw[q] at p;exact p
 | er x s'=>rw[q] at p;exact p
 | ok a s'=>rw[q] at p;exact p)
def q0d (i:Nat):Mo AI:=fun s=>match q2s s i with
 | some (.fz d)=>.ok (.val d) s
 | some (.ow _)=>.ok (.slot i) s
 | _=>.no
theorem q0b {i:Nat}:Ei K ct H0 W (tVar i) (q0d i):=fun S s σ H Q rel p=>by
 unfold q0d at p
 cases q:q2s s i with
 | none=>rw[q] at p;exact False.elim p
 | some en =>
  rw[q] at p
  cases en with
  | fz d =>
   obtain⟨v,h1,h2⟩:=rel.slot i _ (q1t q)
   exact⟨v,h1,p S v H .refl rel h2⟩
  | xn x=>exact False.elim p
  | ow c =>
   obtain⟨a,h1,_⟩:=rel.slot i _ (q1t q)
   exact⟨_,h1,p S _ H .refl rel h1⟩
def mC (d:D):Mo AI:=fun s=>.ok (.val d) s
/-- what stands for data whatever the heap -/
def CR (K:PySem.W.Frag) (v:V) (d:D):Prop:=∀G α n,Rp K G α n v d
theorem ei_c {v:V} {d:D} (h:CR K v d):Ei K ct H0 W (tC v) (mC d):=fun S s σ H Q rel p=>p S v H .refl rel (h _ _ _)
theorem q0c {i:Int}:CR K (.int i) (.int i):=fun _ _ _=>.int i
theorem q3i {b:Bool}:CR K (.bl b) (.bl b):=fun _ _ _=>.bl b
theorem q8i {x:Str}:CR K (.str x) (.str x):=fun _ _ _=>.str x
theorem q8t:CR K .non .non:=fun _ _ _=>.non
/-- an operator of two items -/
def J2 (K:PySem.W.Frag) (ct:Ct) (H0:Hp) (r:R2) (f:Stt→AI→AI→Ro AI):Prop:=∀W S s σ H Hs Hs' x y a b Q,Rel K ct H0 S s σ H→ItOk K ct Hs S s σ H x a→ItOk K ct Hs' S s σ H y b→Pst K ct H0 (RI K ct) W S s σ H Q (f s a b)→r x y H Q
def J1 (K:PySem.W.Frag) (ct:Ct) (H0:Hp) (r:V→Hp→VK→Prop) (f:Stt→AI→Ro AI):Prop:=∀W S s σ H Hs x a Q,Rel K ct H0 S s σ H→ItOk K ct Hs S s σ H x a→Pst K ct H0 (RI K ct) W S s σ H Q (f s a)→r x H Q
def mOp (f:Stt→AI→AI→Ro AI) (m1 m2:Mo AI):Mo AI:=fun s=>(m1 s).bind fun a s1=>(m2 s1).bind fun b s2=>f s2 a b
def mUn (f:Stt→AI→Ro AI) (m1:Mo AI):Mo AI:=fun s=>(m1 s).bind fun a s1=>f s1 a
theorem q0i {r:R2} {f:Stt→AI→AI→Ro AI} {ta tb:TE} {m1 m2:Mo AI} (ho:J2 K ct H0 r f) (h1:Ei K ct H0 W ta m1) (h2:Ei K ct H0 W tb m2):Ei K ct H0 W (tOp r ta tb) (mOp f m1 m2):=fun S s σ H Q rel p =>
 h1 S s σ H _ rel (Pst.bind bI p fun S1 s1 H1 x a st1 rel1 i1 p1=>h2 S1 s1 σ H1 _ rel1 (Pst.bind bI p1 fun S2 s2 H2 y b st2 rel2 i2 p2=>ho W S2 s2 σ H2 _ _ x y a b Q rel2 (i1.step st2) i2 p2))
theorem j8c {r:V→Hp→VK→Prop} {f:Stt→AI→Ro AI} {ta:TE} {m1:Mo AI} (ho:J1 K ct H0 r f) (h1:Ei K ct H0 W ta m1):Ei K ct H0 W (tUn r ta) (mUn f m1):=fun S s σ H Q rel p =>
 h1 S s σ H _ rel (Pst.bind bI p fun S1 s1 H1 x a st1 rel1 i1 p1=>ho W S1 s1 σ H1 _ x a Q rel1 i1 p1)
end
end Y
namespace Y
open PySem L2 Z
section
variable {K:PySem.W.Frag} {ct:Ct} {H0:Hp} {W:WX} {S:Sh} {s:Stt} {σ:St} {H:Hp} {Q:VK}
theorem Pst.val {d:D} {v:V} (p:Pst K ct H0 (RI K ct) W S s σ H Q (.ok (.val d) s)) (rel:Rel K ct H0 S s σ H) (h:Rp K S.G S.α s.M.length v d):Q v H:=p S v H .refl rel h
theorem Pst.newC {c:Cn} {q:Addr} {o:HO} (p:Pst K ct H0 (RI K ct) W S s σ H Q (.ok (.new c) s)) (rel:Rel K ct H0 S s σ H) (hp:H q=none) (hc:c.isC=true) (h:CnOk K ct S s.M.length (upd H q o) q c):Q (.ref q) (upd H q o) :=
 p S _ _ (Stp.new rel hp) (rel.new hp) ⟨q,rfl,hp,rel.labN hp,rel.gN hp,hc,h⟩
theorem Pst.newL {l:List D} {vs:List V} {q:Addr} (p:Pst K ct H0 (RI K ct) W S s σ H Q (.ok (.new (.lst l)) s)) (rel:Rel K ct H0 S s σ H) (hp:H q=none) (h:RpL K S.G S.α s.M.length vs l):Q (.ref q) (upd H q (.lst vs)) :=
 p.newC rel hp rfl ⟨vs,upd_same,h⟩
theorem Pst.newT {l:List D} {vs:List V} {q:Addr} (p:Pst K ct H0 (RI K ct) W S s σ H Q (.ok (.val (.tup l)) s)) (rel:Rel K ct H0 S s σ H) (hp:H q=none) (h:RpL K S.G S.α s.M.length vs l):Q (.ref q) (upd H q (.tup vs)):=by
 have hg:=rel.gN hp
 refine p (S.frz q (.tup vs)) _ _ ((Stp.new rel hp).frzNew hp hg) ((rel.new hp).frz (uP upd_same) (rel.labN hp) hg) ?_
 exact .tup upd_same (h.mono (fun a u e=>by show upd S.G q _ a=_;rw[upd_ne (ne_of_none e hg)];exact e) (fun _ _=>rfl) (Nat.le_refl _))
end
def fI0 (g:Int→Int→D):Stt→AI→AI→Ro AI:=fun s a b=>match a,b with
 | .val (.int i),.val (.int j)=>.ok (.val (g i j)) s
 | _,_=>.no
open Classical in
noncomputable def fI (C:Int→Int→Prop) (g:Int→Int→D):Stt→AI→AI→Ro AI:=fun s a b=>match a,b with
 | .val (.int i),.val (.int j)=>if C i j then .ok (.val (g i j)) s else .no
 | _,_=>.no
def fAdd:Stt→AI→AI→Ro AI:=fun s a b=>match a,b with
 | .val (.int i),.val (.int j)=>.ok (.val (.int (i+j))) s
 | .val (.str x),.val (.str y)=>if x.length+y.length≤sizeLine then .ok (.val (.str (x++y))) s else .no
 | a,b=>match q1v s a,q1v s b with
  | some l,some l'=>if l.length+l'.length≤sizeLine then .ok (.new (.lst (l++l'))) s else .no
  | _,_=>.no
/-- a list that is tracked -/
def z9g (M:List Cn):D→Option (List D)
 | .lst l=>some l
 | .cid k=>M[k]?.bind Cn.aL
 | _=>none
def z7r (s:Stt) (a:AI):Option (List D):=(look s a).bind (z9g s.M)
def CMuL (n:Nat) (j:Int):Prop:=-(2^63)≤j∧j<2^63∧n*j.toNat≤sizeLine
open Classical in
noncomputable def fMul:Stt→AI→AI→Ro AI:=fun s a b=>match a,b with
 | .val (.int i),.val (.int j)=>if CMul i j then .ok (.val (.int (i*j))) s else .no
 | a,.val (.int j)=>match z7r s a with
  | some l=>if CMuL l.length j then .ok (.new (.lst (List.replicate j.toNat l).flatten)) s else .no
  | none=>.no
 | _,_=>.no
mutual
def D.py:D→Option PyData
 | .non=>some .none
 | .bl b=>some (.bool b)
 | .int i=>some (.int i)
 | .str x=>some (.str x)
 | .tup l=>(D.pyL l).map .tuple
 | .ctp l=>(D.pyL l).map .tuple
 | .lst l=>(D.pyL l).map .list
 | .clst l=>(D.pyL l).map .list
 | _=>none
def D.pyL:List D→Option (List PyData)
 | []=>some []
 | d::l=>d.py.bind fun x=>(D.pyL l).map (x::·)
end
def Cn.dat:Cn→Option D
 | .obj _ _=>none
 | .lkK _=>none
 | .lkT _=>none
 | .tb _ _=>none
 | c=>some c.toD
def j9l (M:List Cn):D→Option D
 | .cid k=>M[k]?.bind Cn.dat
 | d=>some d
def pyOf (s:Stt) (a:AI):Option PyData:=((look s a).bind (j9l s.M)).bind D.py
def eqOf (s:Stt) (a b:AI):Option Bool:=(pyOf s a).bind fun x=>(pyOf s b).bind fun y=>if SeqAt.shaped x&&SeqAt.shaped y then some (x.eqv y) else none
def fEq:Stt→AI→AI→Ro AI:=fun s a b=>match eqOf s a b with
 | some k=>.ok (.val (.bl k)) s
 | none=>.no
def fNe:Stt→AI→AI→Ro AI:=fun s a b=>match eqOf s a b with
 | some k=>.ok (.val (.bl (!k))) s
 | none=>.no
def D.isN:D→Bool
 | .non=>true
 | _=>false
def isOf (s:Stt) (a b:AI):Option Bool:=match a,b with
 | .val (.bl x),.val (.bl y)=>some (x==y)
 | a,.val .non=>(look s a).map D.isN
 | _,_=>none
def fIs:Stt→AI→AI→Ro AI:=fun s a b=>match isOf s a b with
 | some k=>.ok (.val (.bl k)) s
 | none=>.no
def fIsn:Stt→AI→AI→Ro AI:=fun s a b=>match isOf s a b with
 | some k=>.ok (.val (.bl (!k))) s
 | none=>.no
def fIx:Stt→AI→AI→Ro AI:=fun s a b=>match b with
 | .val (.int i)=>match a with
  | .val (.str z)=>if z.length≤sizeLine then(match atI z.cps.toList i with
   | some c=>.ok (.val (.str ⟨#[c]⟩)) s
   | none=>.no) else .no
  | a=>match q1v s a with
   | some l=>(match atI l i with
    | some d=>.ok (.val d) s
    | none=>.no)
   | none=>(match z0v s a with
    | some l=>(match atI l i with
     | some d=>.ok (.val d) s
     | none=>.no)
    | none=>.no)
 | _=>.no
section
variable {K:PySem.W.Frag} {ct:Ct} {H0:Hp} {G:Hp} {α:Nat→Addr} {n:Nat}
mutual
theorem j2j:∀{d:D} {v:V} {x:PyData},Rp K G α n v d→d.py=some x→Dp K G v x
 | .non,_,_,.non,e=>by cases e;exact .non
 | .bl b,_,_,.bl _,e=>by cases e;exact .bl b
 | .int i,_,_,.int _,e=>by cases e;exact .int i
 | .str y,_,_,.str _,e=>by cases e;exact .str y
 | .tup l,_,_,.tup h r,e=>by
  obtain⟨xs,q,rfl⟩:=Option.map_eq_some_iff.mp (show(D.pyL l).map PyData.tuple=some _ from e)
  exact .tup (.of h) (rpL_dp r q)
 | .ctp l,_,_,.ctp h r,e=>by
  obtain⟨xs,q,rfl⟩:=Option.map_eq_some_iff.mp (show(D.pyL l).map PyData.tuple=some _ from e)
  exact .tup h (rpL_dp r q)
 | .lst l,_,_,.lst h r,e=>by
  obtain⟨xs,q,rfl⟩:=Option.map_eq_some_iff.mp (show(D.pyL l).map PyData.list=some _ from e)
  exact .lst (.of h) (rpL_dp r q)
 | .clst l,_,_,.clst h r,e=>by
  obtain⟨xs,q,rfl⟩:=Option.map_eq_some_iff.mp (show(D.pyL l).map PyData.list=some _ from e)
  exact .lst h (rpL_dp r q)
 | .dK _,_,_,_,e=>by cases e
 | .dT _,_,_,_,e=>by cases e
 | .cid _,_,_,_,e=>by cases e
 | .ty _,_,_,_,e=>by cases e
theorem rpL_dp:∀{l:List D} {vs:List V} {xs:List PyData},RpL K G α n vs l→D.pyL l=some xs→DpAll K G vs xs
 | [],_,_,.nil,e=>by cases e;exact .nil
 | d::l,_,_,.cons h r,e=>by
  obtain⟨x,q,e1⟩:=Option.bind_eq_some_iff.mp (show(d.py.bind fun x=>(D.pyL l).map (x::·))=some _ from e)
  obtain⟨ys,q2,rfl⟩:=Option.map_eq_some_iff.mp e1
  exact .cons (j2j h q) (rpL_dp r q2)
end
mutual
theorem uDp {b:Option Addr} {H:Hp}:∀{v:V} {x:PyData},Dp K (U b H) v x→Dp K H v x
 | _,_,.non=>.non
 | _,_,.bl b=>.bl b
 | _,_,.int i=>.int i
 | _,_,.str y=>.str y
 | _,_,.lst h r=>.lst (uSqL h) (uDpL r)
 | _,_,.tup h r=>.tup (uSqT h) (uDpL r)
theorem uDpL {b:Option Addr} {H:Hp}:∀{vs:List V} {xs:List PyData},DpAll K (U b H) vs xs→DpAll K H vs xs
 | _,_,.nil=>.nil
 | _,_,.cons h r=>.cons (uDp h) (uDpL r)
end
variable {W:WX} {S:Sh} {s:Stt} {σ:St} {H:Hp} {Q:VK}
theorem z7v {v:V} {d e:D} (rel:Rel K ct H0 S s σ H) (h:Rp K (U ct.lk H) S.α s.M.length v d) (q:j9l s.M d=some e):Rp K (U ct.lk H) S.α s.M.length v e:=by
 cases d with
 | cid k =>
  obtain⟨c,hc,e1⟩:=Option.bind_eq_some_iff.mp (show s.M[k]?.bind Cn.dat=some e from q)
  cases h
  have hh:=(rel.ids k c hc).2
  cases c with
  | obj _ _=>cases e1
  | lkK l=>cases e1
  | lkT l=>cases e1
  | tb _ _=>cases e1
  | lst l=>cases e1;exact hh.rp rel rfl
  | dK l=>cases e1;exact hh.rp rel rfl
  | dT l=>cases e1;exact hh.rp rel rfl
 | _=>cases q;exact h
theorem q9x {Hs:Hp} {v:V} {a:AI} {x:PyData} (rel:Rel K ct H0 S s σ H) (i:ItOk K ct Hs S s σ H v a) (e:pyOf s a=some x):Dp K H v x:=by
 obtain⟨d,e1,e2⟩:=Option.bind_eq_some_iff.mp e
 obtain⟨d0,e0,e1⟩:=Option.bind_eq_some_iff.mp e1
 exact uDp (j2j (z7v rel (q6t rel i e0) e1) e2)
theorem z5p {Hs Hs':Hp} {v w:V} {a b:AI} {k:Bool} (rel:Rel K ct H0 S s σ H) (i:ItOk K ct Hs S s σ H v a) (j:ItOk K ct Hs' S s σ H w b) (e:eqOf s a b=some k) :
  ∃x y,Dp K H v x∧Dp K H w y∧SeqAt.shaped x=true∧SeqAt.shaped y=true∧x.eqv y=k:=by
 obtain⟨x,e1,e⟩:=Option.bind_eq_some_iff.mp e
 obtain⟨y,e2,e⟩:=Option.bind_eq_some_iff.mp e
 split at e
 ·rename_i h
  rw[Bool.and_eq_true] at h
  cases e
  exact⟨x,y,q9x rel i e1,q9x rel j e2,h.1,h.2,rfl⟩
 ·cases e
theorem z8s {Hs:Hp} {v:V} {a:AI} {l:List D} (r:Rel K ct H0 S s σ H) (i:ItOk K ct Hs S s σ H v a) (e:z7r s a=some l):∃p vs,v = .ref p∧H p=some (.lst vs)∧RpL K S.G S.α s.M.length vs l:=by
 have cidc:∀{k:Nat} {u:V},Rp K S.G S.α s.M.length u (.cid k)→z9g s.M (.cid k)=some l→∃p vs,u = .ref p∧H p=some (.lst vs)∧RpL K S.G S.α s.M.length vs l:=fun {k u} h e=>by
  cases h
  obtain⟨c,q,e1⟩:=Option.bind_eq_some_iff.mp (show s.M[k]?.bind Cn.aL=some l from e)
  cases c with
  | lst l' =>
   cases e1
   obtain⟨vs,h1,h2⟩:=(r.ids k _ q).2
   exact⟨_,vs,rfl,h1,h2⟩
  | _=>cases e1
 have frz:∀{u:V} {d:D},Rp K S.G S.α s.M.length u d→z9g s.M d=some l→∃p vs,u = .ref p∧H p=some (.lst vs)∧RpL K S.G S.α s.M.length vs l:=fun {u d} h e=>by
  cases d with
  | lst l'=>cases e;cases h with|lst h1 h2=>exact⟨_,_,rfl,uL' (r.sub _ _ h1),h2⟩
  | cid k=>exact cidc h e
  | _=>cases e
 have own:∀{p:Addr} {c:Cn},CnOk K ct S s.M.length H p c→z9g s.M c.toD=some l→∃q vs,V.ref p = .ref q∧H q=some (.lst vs)∧RpL K S.G S.α s.M.length vs l:=fun {p c} h e=>by
  cases c with
  | lst l'=>cases e;obtain⟨vs,h1,h2⟩:=h;exact⟨p,vs,rfl,h1,h2⟩
  | dK l'=>cases e
  | dT l'=>cases e
  | obj _ _=>cases e
  | lkK l=>cases e
  | lkT l=>cases e
  | tb _ _=>cases e
 unfold z7r at e
 cases a with
 | val d=>exact frz i e
 | new c =>
  obtain⟨p,rfl,_,_,_,hc,h5⟩:=i
  exact own h5 e
 | slot j =>
  obtain⟨d,q0,e⟩:=Option.bind_eq_some_iff.mp e
  obtain⟨en,q1,rfl⟩:=Option.map_eq_some_iff.mp q0
  have q:=q1t q1
  have hi:σ[j]? = some (some v):=i
  have hh:=r.slot j en q
  cases en with
  | fz d =>
   obtain⟨v',h1,h2⟩:=hh
   rw[hi] at h1;cases h1
   exact frz h2 e
  | xn x=>exact(q5j q1).elim
  | ow c =>
   obtain⟨p,h1,_,_,hc,h5⟩:=hh
   rw[hi] at h1;cases h1
   exact own h5 e
theorem q2c {v:V} {i:Int} (h:Rp K G α n v (.int i)):v = .int i:=by cases h;rfl
theorem q7c {v:V} {x:Str} (h:Rp K G α n v (.str x)):v = .str x:=by cases h;rfl
theorem q8n {v:V} {x:Bool} (h:Rp K G α n v (.bl x)):v = .bl x:=by cases h;rfl
theorem j_I0 {gV:Int→Int→V} {g:Int→Int→D} (hg:∀i j,CR K (gV i j) (g i j)):J2 K ct H0 (rI0 gV) (fI0 g):=fun W S s σ H Hs Hs' x y a b Q rel ia ib p=>by
 unfold fI0 at p
 split at p
 ·rename_i i j
  cases q2c ia;cases q2c ib
  exact⟨i,j,rfl,rfl,p.val rel (hg _ _ _ _ _)⟩
 ·exact False.elim p
theorem j_I {C:Int→Int→Prop} {gV:Int→Int→V} {g:Int→Int→D} (hg:∀i j,CR K (gV i j) (g i j)):J2 K ct H0 (rI C gV) (fI C g):=fun W S s σ H Hs Hs' x y a b Q rel ia ib p=>by
 unfold fI at p
 split at p
 ·rename_i i j
  cases q2c ia;cases q2c ib
  split at p
  ·rename_i hc
   exact⟨i,j,rfl,rfl,hc,p.val rel (hg _ _ _ _ _)⟩
  ·exact False.elim p
 ·exact False.elim p
theorem q2x:J2 K ct H0 (j6g K) fAdd:=fun W S s σ H Hs Hs' x y a b Q rel ia ib p=>by
 unfold fAdd at p
 split at p
 ·rename_i i j
  cases q2c ia;cases q2c ib
  exact .inl (.inl ⟨i,j,rfl,rfl,p.val rel (.int _)⟩)
 ·rename_i i j
  cases q7c ia;cases q7c ib
  split at p
  ·rename_i hc
   exact .inl (.inr ⟨i,j,rfl,rfl,hc,p.val rel (.str _)⟩)
  ·exact False.elim p
 ·split at p
  ·rename_i l l' e1 e2
   split at p
   ·rename_i hc
    obtain⟨p1,vs,rfl,h1,r1⟩:=q2f rel ia e1
    obtain⟨p2,us,rfl,h2,r2⟩:=q2f rel ib e2
    refine .inr ⟨p1,p2,vs,us,rfl,rfl,h1,h2,by rw[r1.length,r2.length];exact hc,fun q hq=>p.newL rel hq (r1.append r2)⟩
   ·exact False.elim p
  ·exact False.elim p
theorem z5j {vs:List V} {l:List D} (h:RpL K G α n vs l):∀k:Nat,RpL K G α n (List.replicate k vs).flatten (List.replicate k l).flatten
 | 0=>.nil
 | k+1=>by rw[List.replicate_succ,List.replicate_succ,List.flatten_cons,List.flatten_cons];exact h.append (z5j h k)
theorem q5a:J2 K ct H0 j9f fMul:=fun W S s σ H Hs Hs' x y a b Q rel ia ib p=>by
 unfold fMul at p
 split at p
 ·rename_i i j
  cases q2c ia;cases q2c ib
  split at p
  ·rename_i hc
   exact .inl ⟨i,j,rfl,rfl,hc,p.val rel (.int _)⟩
  ·exact False.elim p
 ·rename_i a' j _
  cases q2c ib
  split at p
  ·rename_i l e1
   split at p
   ·rename_i hc
    obtain⟨p1,vs,rfl,h1,r1⟩:=z8s rel ia e1
    exact .inr ⟨p1,j,vs,rfl,rfl,h1,hc.1,hc.2.1,by rw[r1.length];exact hc.2.2,fun q hq=>p.newL rel hq (z5j r1 _)⟩
   ·exact False.elim p
  ·exact False.elim p
 ·exact False.elim p
theorem j_eq:J2 K ct H0 (rEqZ K) fEq:=fun W S s σ H Hs Hs' x y a b Q rel ia ib p=>by
 unfold fEq at p
 split at p
 ·rename_i k e
  obtain⟨d,f,h1,h2,h3,h4,rfl⟩:=z5p rel ia ib e
  exact .inr ⟨d,f,h1,h2,h3,h4,p.val rel (.bl _)⟩
 ·exact False.elim p
theorem j_ne:J2 K ct H0 (rNeZ K) fNe:=fun W S s σ H Hs Hs' x y a b Q rel ia ib p=>by
 unfold fNe at p
 split at p
 ·rename_i k e
  obtain⟨d,f,h1,h2,h3,h4,rfl⟩:=z5p rel ia ib e
  exact .inr ⟨d,f,h1,h2,h3,h4,p.val rel (.bl _)⟩
 ·exact False.elim p
theorem j8k {v:V} {d:D} (h:Rp K G α n v d):decide (v = .non)=d.isN:=by cases h<;>rfl
theorem w1z:J2 K ct H0 j8n fIsn:=fun W S s σ H Hs Hs' x y a b Q rel ia ib p=>by
 unfold fIsn at p
 split at p
 ·rename_i k e
  unfold isOf at e
  split at e
  ·rename_i b1 b2
   cases q8n ia;cases q8n ib;cases e
   exact .inr ⟨b1,b2,rfl,rfl,p.val rel (.bl _)⟩
  ·rename_i a' _
   obtain⟨d,e1,rfl⟩:=Option.map_eq_some_iff.mp e
   have ib':Rp K S.G S.α s.M.length y .non:=ib
   cases ib'
   refine .inl ⟨rfl,?_⟩
   rw[j8k (q6t rel ia e1)]
   exact p.val rel (.bl _)
  ·cases e
 ·exact False.elim p
theorem z9o {vs:List V} {l:List D} {i:Int} {d:D} (r:RpL K G α n vs l) (e:atI l i=some d):∃v,atI vs i=some v∧Rp K G α n v d:=by
 unfold atI at e ⊢
 obtain⟨j,e1,e2⟩:=Option.bind_eq_some_iff.mp e
 obtain⟨v,h1,h2⟩:=r.get e2
 exact⟨v,by rw[r.length,e1];exact h1,h2⟩
theorem j_ix:J2 K ct H0 (rIx K) fIx:=fun W S s σ H Hs Hs' x y a b Q rel ia ib p=>by
 unfold fIx at p
 split at p
 ·rename_i i
  cases q2c ib
  split at p
  ·rename_i z
   cases q7c ia
   split at p
   ·rename_i hz
    split at p
    ·rename_i c e
     exact .inr (.inr ⟨z,i,c,rfl,rfl,hz,e,p.val rel (.str _)⟩)
    ·exact False.elim p
   ·exact False.elim p
  ·split at p
   ·rename_i l e
    split at p
    ·rename_i d e2
     obtain⟨q,vs,rfl,h1,r1⟩:=q2f rel ia e
     obtain⟨v,h2,h3⟩:=z9o r1 e2
     exact .inl ⟨q,vs,i,v,rfl,rfl,h1,h2,p.val rel h3⟩
    ·exact False.elim p
   ·split at p
    ·rename_i l e
     split at p
     ·rename_i d e2
      obtain⟨q,vs,rfl,h1,r1⟩:=z2v rel ia e
      obtain⟨v,h2,h3⟩:=z9o r1 e2
      exact .inr (.inl ⟨q,vs,i,v,rfl,rfl,h1,h2,p.val rel h3⟩)
     ·exact False.elim p
    ·exact False.elim p
 ·exact False.elim p
end
end Y
namespace Y
open PySem L2 Z
section
variable {X:Cx}
def rDIx:R2:=fun x y H Q=>∃a v,x = .ref a∧DGet H a y (some v)∧Q v H
theorem j2w (hu:X.A.units+1<cLine):IxR X rDIx:=by
 intro value slice pins s σ H x y v u Q I rx ry h hs
 obtain⟨a,r,rfl,g,q⟩:=h
 obtain rfl:v=Value.ref a:=rx
 exact PyProof.Rows.tail_any (dict_typeIs I g) PySem.F.slot_dict_getitem.lookup (d_getItem hu I g ry fun w' s3 I3 rw'=>⟨r,H,I3,rw',q⟩) hs
def rIxY (K:PySem.W.Frag):R2:=fun x y H Q=>rIx K x y H Q∨rDIx x y H Q
theorem ix_Y {K:PySem.W.Frag} (hK:X.K=K) (hu:X.A.units+1<cLine):IxR X (rIxY K):=by subst hK;exact ix_seq.or (j2w hu)
def rDIn (k:Bool→Bool):R2:=fun y x H Q=>∃a o,x = .ref a∧DGet H a y o∧Q (.bl (k o.isSome)) H
theorem j9t (hu:X.A.units+1<cLine):OpR X (compareOp .In) (rDIn id):=by
 intro pins s σ H y x v u Q I ry rx h
 obtain⟨a,o,rfl,g,q⟩:=h
 obtain rfl:u=Value.ref a:=rx
 exact d_in hu I g ry fun s3 I3=>⟨.bl o.isSome,H,I3,rfl,q⟩
theorem j1h (hu:X.A.units+1<cLine):OpR X (compareOp .NotIn) (rDIn not):=by
 intro pins s σ H y x v u Q I ry rx h
 obtain⟨a,o,rfl,g,q⟩:=h
 obtain rfl:u=Value.ref a:=rx
 exact d_notIn hu I g ry fun s3 I3=>⟨.bl (!o.isSome),H,I3,rfl,q⟩
def rSIn (k:Bool→Bool):R2:=fun x y H Q=>∃i j,x = .str i∧y = .str j∧Q (.bl (k (!(Builtin.Str.occurrences j i 0 j.length 1).isEmpty))) H
/-- in, not in: of a list, a tuple of flat things, a text, a dict -/
def rInY (K:PySem.W.Frag):R2:=fun x y H Q=>((rInD K x y H Q∨rIn K false x y H Q)∨rSIn id x y H Q)∨rDIn id x y H Q
def j4s (K:PySem.W.Frag):R2:=fun x y H Q=>((rNotInD K x y H Q∨rIn K true x y H Q)∨rSIn not x y H Q)∨rDIn not x y H Q
theorem j7r {K:PySem.W.Frag} (hK:X.K=K) (hu:X.A.units+65<cLine):OpR X (compareOp .In) (rInY K):=by
 subst hK;exact L2.OpR.or (L2.OpR.or (L2.OpR.or (op_inD hu) op_in_seq) op_in_str) (j9t (by omega))
theorem z4s {K:PySem.W.Frag} (hK:X.K=K) (hu:X.A.units+65<cLine):OpR X (compareOp .NotIn) (j4s K):=by
 subst hK;exact L2.OpR.or (L2.OpR.or (L2.OpR.or (op_notInD hu) op_notIn_seq) op_notin_str) (j1h (by omega))
/-- len of a dict, too -/
def j2r (K:PySem.W.Frag):List V→Hp→VK→Prop:=fun xs H Q=>j8p K xs H Q∨∃a kvs,xs=[V.ref a]∧Rd H a (.dK kvs)∧Q (.int kvs.length) H
theorem z6x:CallR X (.builtin "len") (fun xs H Q=>∃a kvs,xs=[V.ref a]∧Rd H a (.dK kvs)∧Q (.int kvs.length) H):=by
 intro pins s σ H xs us Q I r h
 obtain⟨a,kvs,rfl,ha,q⟩:=h
 obtain⟨u,rfl,ru⟩:=vals1 r
 cases ru
 exact d_len I ha fun t s' I'=>⟨.int kvs.length,H,I',⟨t,rfl⟩,q⟩
theorem q0t {K:PySem.W.Frag} (hK:X.K=K):CallR X (.builtin "len") (j2r K):=L2.CallR.or (z5u hK) z6x
end
section
variable {κ β γ:Type} [DecidableEq κ]
def vl (l:List (κ×β)) (k:κ):Option β:=(l.find? fun p=>decide (p.1=k)).map (·.2)
def pu (l:List (κ×β)) (k:κ) (v:β):List (κ×β):=if(l.any fun p=>decide (p.1=k))=true then l.map (fun p=>if p.1=k then(p.1,v) else p) else l++[(k,v)]
def dr (l:List (κ×β)) (k:κ):List (κ×β):=l.filter fun p=>decide (p.1≠k)
end
section
variable {K:PySem.W.Frag} {G:Hp} {α:Nat→Addr} {n:Nat} {κ:Type} [DecidableEq κ]
inductive RpK (K:PySem.W.Frag) (G:Hp) (α:Nat→Addr) (n:Nat) {κ:Type}:List (κ×V)→List (κ×D)→Prop
 | nil:RpK K G α n [] []
 | cons {k:κ} {v:V} {d:D} {kvs:List (κ×V)} {l:List (κ×D)}:Rp K G α n v d→RpK K G α n kvs l→RpK K G α n ((k,v)::kvs) ((k,d)::l)
theorem RpK.of {κ:Type}:∀{kvs:List (κ×V)} {l:List (κ×D)},kvs.map Prod.fst=l.map Prod.fst→RpL K G α n (kvs.map Prod.snd) (l.map Prod.snd)→RpK K G α n kvs l
 | [],[],_,_=>.nil
 | [],_::_,e,_=>by simp at e
 | _::_,[],e,_=>by simp at e
 | (k,v)::r,(k',d)::r',e,h=>by
  simp only[List.map_cons] at e h
  injection e with e1 e2
  have e1:k=k':=e1
  subst e1
  cases h with
  | cons a b=>exact .cons a (RpK.of e2 b)
theorem RpK.keys {κ:Type}:∀{kvs:List (κ×V)} {l:List (κ×D)},RpK K G α n kvs l→kvs.map Prod.fst=l.map Prod.fst
 | _,_,.nil=>rfl
 | _,_,.cons _ r=>by rw[List.map_cons,List.map_cons,r.keys]
theorem RpK.vals {κ:Type}:∀{kvs:List (κ×V)} {l:List (κ×D)},RpK K G α n kvs l→RpL K G α n (kvs.map Prod.snd) (l.map Prod.snd)
 | _,_,.nil=>.nil
 | _,_,.cons a r=>.cons a r.vals
theorem RpK.len {κ:Type} {kvs:List (κ×V)} {l:List (κ×D)} (h:RpK K G α n kvs l):kvs.length=l.length:=by
 have:=congrArg List.length h.keys
 simpa using this
theorem RpK.get {k:κ}:∀{kvs:List (κ×V)} {l:List (κ×D)},RpK K G α n kvs l→(vl l k=none∧valV kvs k=none)∨∃v d,vl l k=some d∧valV kvs k=some v∧Rp K G α n v d
 | _,_,.nil=>.inl ⟨rfl,rfl⟩
 | _,_,.cons (k:=k') (v:=v) (d:=d) (kvs:=kvs) (l:=l) a r=>by
  by_cases e:k'=k
  ·refine .inr ⟨v,d,?_,?_,a⟩
   ·unfold vl;rw[List.find?_cons,decide_eq_true (show(k',d).1=k from e)];rfl
   ·exact valV_pos e
  ·have h1:vl ((k',d)::l) k=vl l k:=by unfold vl;rw[List.find?_cons,decide_eq_false (show ¬(k',d).1=k from e)]
   rw[h1,valV_neg (p:=(k',v)) e]
   exact r.get
theorem RpK.append {κ:Type}:∀{kvs kvs':List (κ×V)} {l l':List (κ×D)},RpK K G α n kvs l→RpK K G α n kvs' l'→RpK K G α n (kvs++kvs') (l++l')
 | _,_,_,_,.nil,h=>h
 | _,_,_,_,.cons a r,h=>.cons a (r.append h)
theorem RpK.any {k:κ}:∀{kvs:List (κ×V)} {l:List (κ×D)},RpK K G α n kvs l→(kvs.any fun p=>decide (p.1=k))=l.any fun p=>decide (p.1=k)
 | _,_,.nil=>rfl
 | _,_,.cons _ r=>by rw[List.any_cons,List.any_cons,r.any]
theorem RpK.put {k:κ} {v:V} {d:D} {kvs:List (κ×V)} {l:List (κ×D)} (h:RpK K G α n kvs l) (hv:Rp K G α n v d):RpK K G α n (putK kvs k v) (pu l k d):=by
 have mp:∀{kvs:List (κ×V)} {l:List (κ×D)},RpK K G α n kvs l→RpK K G α n (kvs.map fun kv=>if kv.1=k then(kv.1,v) else kv) (l.map fun p=>if p.1=k then(p.1,d) else p):=by
  intro kvs l h
  induction h with
  | nil=>exact .nil
  | @cons k' v' d' kvs l a r ih =>
   rw[List.map_cons,List.map_cons]
   by_cases e:k'=k
   ·rw[if_pos (show(k',v').1=k from e),if_pos (show(k',d').1=k from e)];exact .cons hv ih
   ·rw[if_neg (show ¬(k',v').1=k from e),if_neg (show ¬(k',d').1=k from e)];exact .cons a ih
 unfold putK pu
 rw[h.any]
 split
 ·exact mp h
 ·exact h.append (.cons hv .nil)
theorem RpK.drop {k:κ}:∀{kvs:List (κ×V)} {l:List (κ×D)},RpK K G α n kvs l→RpK K G α n (dropK kvs k) (dr l k)
 | _,_,.nil=>.nil
 | _,_,.cons (k:=k') (v:=v) (d:=d) (kvs:=kvs) (l:=l) a r=>by
  unfold dropK dr
  rw[List.filter_cons,List.filter_cons]
  by_cases e:k'=k
  ·rw[if_neg (by simp[e]),if_neg (by simp[e])];exact r.drop
  ·rw[if_pos (by simp[e]),if_pos (by simp[e])];exact .cons a r.drop
theorem RpK.mono {κ:Type} {G':Hp} {α':Nat→Addr} {n':Nat} {kvs:List (κ×V)} {l:List (κ×D)} (s:Same G G') (ha:∀k,k<n→α' k=α k) (hn:n≤n') (h:RpK K G α n kvs l):RpK K G' α' n' kvs l:=RpK.of h.keys (h.vals.mono s ha hn)
end
section
variable {K:PySem.W.Frag} {ct:Ct} {H0:Hp} {W:WX}
def truD (M:List Cn):D→Option Bool
 | .non=>some false
 | .bl b=>some b
 | .int i=>some (!decide (i=0))
 | .str x=>if x.length≤sizeLine then some (!decide ((x.length:Int)=0)) else none
 | .tup l=>some (!l.isEmpty)
 | .ctp l=>some (!l.isEmpty)
 | .lst l=>some (!l.isEmpty)
 | .clst l=>some (!l.isEmpty)
 | .cid k=>M[k]?.bind fun c=>match c with
  | .lst l=>some (!l.isEmpty)
  | .dK l=>some (!l.isEmpty)
  | _=>none
 | _=>none
def mTru (m:Mo AI):Mo Bool:=fun s=>(m s).bind fun a s1=>match(look s1 a).bind (truD s1.M) with
 | some b=>.ok b s1
 | none=>.no
theorem q6o {α β:Type} {l:List α} {m:List β} (h:l.length=m.length):(!l.isEmpty) = !m.isEmpty:=by
 cases l<;>cases m<;>first|rfl|(simp at h)
theorem j9e {S:Sh} {s:Stt} {σ:St} {H:Hp} {v:V} {d:D} {b:Bool} (rel:Rel K ct H0 S s σ H) (r:Rp K (U ct.lk H) S.α s.M.length v d) (e:truD s.M d=some b):TruV K v H b:=by
 cases r with
 | non=>cases e;rfl
 | bl b=>cases e;rfl
 | int i =>
  cases e
  show(!decide (i=0))=(i != 0)
  by_cases q:i=0<;>simp[q]
 | str x =>
  have e1:(if x.length≤sizeLine then some (!decide ((x.length:Int)=0)) else none)=some b:=e
  by_cases h:x.length≤sizeLine
  ·rw[if_pos h] at e1
   cases e1
   refine⟨h,?_⟩
   by_cases q:(x.length:Int)=0
   ·rw[decide_eq_true q,q];rfl
   ·rw[decide_eq_false q];exact(bne_iff_ne.mpr q).symm
  ·rw[if_neg h] at e1;cases e1
 | tup h r=>cases e;exact .inr (.inl ⟨_,.of (uP' h),(q6o r.length).symm⟩)
 | ctp h r=>cases e;exact .inr (.inl ⟨_,uSqT h,(q6o r.length).symm⟩)
 | lst h r=>cases e;exact .inl ⟨_,.of (uL' h),(q6o r.length).symm⟩
 | clst h r=>cases e;exact .inl ⟨_,uSqL h,(q6o r.length).symm⟩
 | dK h e1 r=>cases e
 | dT h e1 r=>cases e
 | ty m=>cases e
 | @cid k h =>
  obtain⟨c,q,e1⟩:=Option.bind_eq_some_iff.mp e
  have hh:=(rel.ids k c q).2
  cases c with
  | lst l=>cases e1;obtain⟨vs,h1,h2⟩:=hh;exact .inl ⟨_,.of h1,(q6o h2.length).symm⟩
  | dK l=>cases e1;obtain⟨vs,h1,h3,h2⟩:=hh;exact .inr (.inr ⟨_,h1,(q6o (RpK.of h3 h2).len).symm⟩)
  | dT l=>cases e1
  | obj c fs=>cases e1
  | lkK l=>cases e1
  | lkT l=>cases e1
  | tb _ _=>cases e1
theorem q5h {ta:TE} {m:Mo AI} (h:Ei K ct H0 W ta m):Et K ct H0 W (j0r K ta) (mTru m):=fun S s σ H Q rel p =>
  h S s σ H _ rel (Pst.bind bB p fun S1 s1 H1 x a st1 rel1 i1 p1=>by
    split at p1
    · rename_i b e
      obtain⟨d,e1,e2⟩:=Option.bind_eq_some_iff.mp e
      exact⟨b,j9e rel1 (q6t rel1 i1 e1) e2,p1 S1 b H1 .refl rel1 rfl⟩
    · exact False.elim p1)
/-- a truth value -/
def blOf:AI→Option Bool
 | .val (.bl b)=>some b
 | _=>none
def mBl (m:Mo AI):Mo Bool:=fun s=>(m s).bind fun a s1=>match blOf a with
 | some b=>.ok b s1
 | none=>.no
theorem q6m {a:AI} {b:Bool} (e:blOf a=some b):a = .val (.bl b):=by
 unfold blOf at e
 split at e
 ·cases e;rfl
 ·cases e
theorem q1x {ta:TE} {m:Mo AI} (h:Ei K ct H0 W ta m):Et K ct H0 W (tTest ta) (mBl m):=fun S s σ H Q rel p =>
  h S s σ H _ rel (Pst.bind bB p fun S1 s1 H1 x a st1 rel1 i1 p1=>by
    split at p1
    · rename_i b e
      cases q6m e
      cases q8n i1
      exact⟨b,rfl,p1 S1 b H1 .refl rel1 rfl⟩
    · exact False.elim p1)
def mAnd (m1 m2:Mo Bool):Mo Bool:=fun s=>(m1 s).bind fun c s1=>if c=true then m2 s1 else .ok false s1
def mOr (m1 m2:Mo Bool):Mo Bool:=fun s=>(m1 s).bind fun c s1=>if c=true then .ok true s1 else m2 s1
def mNot (m1:Mo Bool):Mo Bool:=fun s=>(m1 s).bind fun c s1=>.ok (!c) s1
theorem z0e {t u:TT} {m1 m2:Mo Bool} (h1:Et K ct H0 W t m1) (h2:Et K ct H0 W u m2):Et K ct H0 W (tAnd t u) (mAnd m1 m2):=fun S s σ H Q rel p =>
 h1 S s σ H _ rel (Pst.bind bB p fun S1 s1 H1 x a st1 rel1 i1 p1=>by
  cases(show x=a from i1)
  cases x with
  | true=>rw[if_pos rfl] at p1 ⊢;exact h2 S1 s1 σ H1 Q rel1 p1
  | false=>rw[if_neg Bool.false_ne_true] at p1 ⊢;exact p1 S1 false H1 .refl rel1 rfl)
theorem z3y {t u:TT} {m1 m2:Mo Bool} (h1:Et K ct H0 W t m1) (h2:Et K ct H0 W u m2):Et K ct H0 W (tOr t u) (mOr m1 m2):=fun S s σ H Q rel p =>
 h1 S s σ H _ rel (Pst.bind bB p fun S1 s1 H1 x a st1 rel1 i1 p1=>by
  cases(show x=a from i1)
  cases x with
  | true=>rw[if_pos rfl] at p1 ⊢;exact p1 S1 true H1 .refl rel1 rfl
  | false=>rw[if_neg Bool.false_ne_true] at p1 ⊢;exact h2 S1 s1 σ H1 Q rel1 p1)
theorem q4t {t:TT} {m1:Mo Bool} (h1:Et K ct H0 W t m1):Et K ct H0 W (tNot t) (mNot m1):=fun S s σ H Q rel p =>
 h1 S s σ H _ rel (Pst.bind bB p fun S1 s1 H1 x a st1 rel1 i1 p1=>by
  cases(show x=a from i1)
  exact p1 S1 (!x) H1 .refl rel1 rfl)
/-- and, or, not as values, of truth values -/
def z3i (m1 m2:Mo AI):Mo AI:=fun s=>(m1 s).bind fun a s1=>match blOf a with
 | some true=>m2 s1
 | some false=>.ok (.val (.bl false)) s1
 | none=>.no
def mOrV (m1 m2:Mo AI):Mo AI:=fun s=>(m1 s).bind fun a s1=>match blOf a with
 | some true=>.ok (.val (.bl true)) s1
 | some false=>m2 s1
 | none=>.no
def j1r (m1:Mo AI):Mo AI:=fun s=>(m1 s).bind fun a s1=>match blOf a with
 | some b=>.ok (.val (.bl (!b))) s1
 | none=>.no
theorem q9s {ta tb:TE} {m1 m2:Mo AI} (h1:Ei K ct H0 W ta m1) (h2:Ei K ct H0 W tb m2):Ei K ct H0 W (tAndV ta tb) (z3i m1 m2):=fun S s σ H Q rel p =>
 h1 S s σ H _ rel (Pst.bind bI p fun S1 s1 H1 x a st1 rel1 i1 p1=>by
  split at p1
  ·rename_i e;cases q6m e;cases q8n i1
   exact⟨true,rfl,by rw[if_pos rfl];exact h2 S1 s1 σ H1 Q rel1 p1⟩
  ·rename_i e;cases q6m e;cases q8n i1
   exact⟨false,rfl,by rw[if_neg Bool.false_ne_true];exact p1.val rel1 (.bl _)⟩
  ·exact False.elim p1)
theorem j2a {ta:TE} {m1:Mo AI} (h1:Ei K ct H0 W ta m1):Ei K ct H0 W (tNotV ta) (j1r m1):=fun S s σ H Q rel p =>
 h1 S s σ H _ rel (Pst.bind bI p fun S1 s1 H1 x a st1 rel1 i1 p1=>by
  split at p1
  ·rename_i b e;cases q6m e;cases q8n i1
   exact⟨b,rfl,p1.val rel1 (.bl _)⟩
  ·exact False.elim p1)
def mIf {α:Type} (c:Mo Bool) (m1 m2:Mo α):Mo α:=fun s=>(c s).bind fun b s1=>if b=true then m1 s1 else m2 s1
/-- a < b < c: nothing is changed in between -/
def z2x (f f':Stt→AI→AI→Ro AI) (m1 m2 m3:Mo AI):Mo AI:=fun s=>(m1 s).bind fun a s1=>(m2 s1).bind fun b s2=>(f s2 a b).bind fun z s3=>match blOf z with
 | some true=>(m3 s3).bind fun c s4=>f' s4 b c
 | some false=>.ok (.val (.bl false)) s3
 | none=>.no
theorem z2r {r r':R2} {f f':Stt→AI→AI→Ro AI} {ta tb tc:TE} {m1 m2 m3:Mo AI} (ho:J2 K ct H0 r f) (ho':J2 K ct H0 r' f') (h1:Ei K ct H0 W ta m1) (h2:Ei K ct H0 W tb m2) (h3:Ei K ct H0 W tc m3):Ei K ct H0 W (tChain r r' ta tb tc) (z2x f f' m1 m2 m3):=fun S s σ H Q rel p =>
 h1 S s σ H _ rel (Pst.bind bI p fun S1 s1 H1 x a st1 rel1 i1 p1=>h2 S1 s1 σ H1 _ rel1 (Pst.bind bI p1 fun S2 s2 H2 y b st2 rel2 i2 p2 =>
  ho W S2 s2 σ H2 _ _ x y a b _ rel2 (i1.step st2) i2 (Pst.bind bI p2 fun S3 s3 H3 z c st3 rel3 i3 p3=>by
   split at p3
   ·rename_i e;cases q6m e;cases q8n i3
    exact⟨true,rfl,by rw[if_pos rfl];exact h3 S3 s3 σ H3 _ rel3 (Pst.bind bI p3 fun S4 s4 H4 z' c' st4 rel4 i4 p4=>ho' W S4 s4 σ H4 _ _ y z' b c' Q rel4 ((i2.step st3).step st4) i4 p4)⟩
   ·rename_i e;cases q6m e;cases q8n i3
    exact⟨false,rfl,by rw[if_neg Bool.false_ne_true];exact p3.val rel3 (.bl _)⟩
   ·exact False.elim p3)))
end
end Y
namespace Y
open PySem L2 Z
section
variable {K:PySem.W.Frag} {ct:Ct} {H0:Hp} {W:WX}
inductive AsOk (K:PySem.W.Frag) (ct:Ct) (Hs:Hp) (S:Sh) (s:Stt) (σ:St) (H:Hp):List V→List AI→Prop
 | nil:AsOk K ct Hs S s σ H [] []
 | cons {v:V} {a:AI} {vs:List V} {as:List AI}:ItOk K ct Hs S s σ H v a→AsOk K ct Hs S s σ H vs as→AsOk K ct Hs S s σ H (v::vs) (a::as)
def RA (K:PySem.W.Frag) (ct:Ct):RR (List V) (List AI):=fun H S s σ H' v a=>AsOk K ct H S s σ H' v a
theorem bA:Bck (RA K ct):=fun H1 H S s σ H' v a k h=>by
 induction (show AsOk K ct H1 S s σ H' v a from h) with
 | nil=>exact AsOk.nil
 | cons i _ ih=>exact AsOk.cons (bI _ _ _ _ _ _ _ _ k i) (ih ‹_›)
abbrev EaL (K:PySem.W.Frag) (ct:Ct) (H0:Hp) (W:WX) (t:TA) (m:Mo (List AI)):Prop:=Jd K ct H0 (RA K ct) W t m
def aNil:Mo (List AI):=fun s=>.ok [] s
def q0y (m:Mo AI) (r:Mo (List AI)):Mo (List AI):=fun s=>(m s).bind fun a s1=>(r s1).bind fun as s2=>.ok (a::as) s2
theorem q0r:EaL K ct H0 W tNil aNil:=fun S s σ H Q rel p=>p S [] H .refl rel .nil
theorem q0j {ta:TE} {tr:TA} {m:Mo AI} {r:Mo (List AI)} (h1:Ei K ct H0 W ta m) (h2:EaL K ct H0 W tr r):EaL K ct H0 W (tCons ta tr) (q0y m r):=fun S s σ H Q rel p =>
 h1 S s σ H _ rel (by
  unfold q0y at p
  cases q:m s with
  | no=>rw[q] at p;exact p
  | er x s'=>rw[q] at p;exact p
  | ok a s1 =>
   rw[q] at p
   have p:Pst K ct H0 (RA K ct) W S s σ H Q ((r s1).bind fun as s2=>.ok (a::as) s2):=p
   intro S1 v H1 st1 rel1 i1
   refine h2 S1 s1 σ H1 _ rel1 ?_
   cases q2:r s1 with
   | no=>rw[q2] at p;exact p
   | er x s'=>rw[q2] at p;exact fun S' H' dd st rel q=>p S' H' dd (st1.trans st) rel q
   | ok as s2 =>
    rw[q2] at p
    exact fun S2 vs H2 st2 rel2 i2=>p S2 (v::vs) H2 (st1.trans st2) rel2 (.cons (i1.step st2) (bA _ _ _ _ _ _ _ _ st1.dom i2)))
def vNil:Mo (List D):=fun s=>.ok [] s
def q0f (m:Mo AI) (r:Mo (List D)):Mo (List D):=fun s=>(mV m s).bind fun a s1=>(r s1).bind fun as s2=>.ok (a::as) s2
theorem q0h:EvL K ct H0 W tNil vNil:=fun S s σ H Q rel p=>p S [] H .refl rel .nil
theorem q0a {ta:TE} {tr:TA} {m:Mo AI} {r:Mo (List D)} (h1:Ei K ct H0 W ta m) (h2:EvL K ct H0 W tr r):EvL K ct H0 W (tCons ta tr) (q0f m r):=fun S s σ H Q rel p =>
 q4k h1 S s σ H _ rel (Pst.bind bVL p fun S1 s1 H1 x a st1 rel1 i1 p1=>h2 S1 s1 σ H1 _ rel1 (Pst.bind bVL p1 fun S2 s2 H2 y b st2 rel2 i2 p2=>p2 S2 (x::y) H2 .refl rel2 (.cons (Rp.step st2 i1) i2)))
def mLst (m:Mo (List D)):Mo AI:=fun s=>(m s).bind fun l s1=>if l.length≤sizeLine then .ok (.new (.lst l)) s1 else .no
def mTup (m:Mo (List D)):Mo AI:=fun s=>(m s).bind fun l s1=>if l.length≤sizeLine then .ok (.val (.tup l)) s1 else .no
theorem q1b {t:TA} {m:Mo (List D)} (h:EvL K ct H0 W t m):Ei K ct H0 W (tLst t) (mLst m):=fun S s σ H Q rel p =>
  h S s σ H _ rel (Pst.bind bI p fun S1 s1 H1 x a st1 rel1 i1 p1=>by
    split at p1
    · rename_i hz
      exact⟨by rw[RpL.length i1];exact hz,fun q hq=>p1.newL rel1 hq i1⟩
    · exact False.elim p1)
theorem q4z {t:TA} {m:Mo (List D)} (h:EvL K ct H0 W t m):Ei K ct H0 W (tTup t) (mTup m):=fun S s σ H Q rel p =>
  h S s σ H _ rel (Pst.bind bI p fun S1 s1 H1 x a st1 rel1 i1 p1=>by
    split at p1
    · rename_i hz
      exact⟨by rw[RpL.length i1];exact hz,fun q hq=>p1.newT rel1 hq i1⟩
    · exact False.elim p1)
def oNo:Mo (Option Int):=fun s=>.ok none s
def oSm (m:Mo AI):Mo (Option Int):=fun s=>(m s).bind fun a s1=>match a with
 | .val (.int i)=>.ok (some i) s1
 | _=>.no
theorem j7m:Eo K ct H0 W tNoPart oNo:=fun S s σ H Q rel p=>p S none H .refl rel rfl
theorem j9b {t:TE} {m:Mo AI} (h:Ei K ct H0 W t m):Eo K ct H0 W (tPart t) (oSm m):=fun S s σ H Q rel p =>
  h S s σ H _ rel (Pst.bind bO p fun S1 s1 H1 x a st1 rel1 i1 p1=>by
    split at p1
    · rename_i i
      cases q2c i1
      exact⟨i,rfl,p1 S1 (some i) H1 .refl rel1 rfl⟩
    · exact False.elim p1)
def cutL {β:Type} (xs:List β) (lo hi:Option Int):List β:=(xs.drop (HT.sIx xs.length 0 lo)).take (HT.sIx xs.length xs.length hi-HT.sIx xs.length 0 lo)
def fSl (s:Stt) (a:AI) (lo hi:Option Int):Ro AI:=match a with
 | .val (.str x)=>if x.length≤sizeLine then .ok (.val (.str (cutS x lo hi))) s else .no
 | a=>match q1v s a with
  | some l=>.ok (.new (.lst (cutL l lo hi))) s
  | none=>.no
def mSl (m:Mo AI) (ml mh:Mo (Option Int)):Mo AI:=fun s=>(m s).bind fun a s1=>(ml s1).bind fun l s2=>(mh s2).bind fun h s3=>fSl s3 a l h
theorem j5q {te:TE} {tl th:TO} {m:Mo AI} {ml mh:Mo (Option Int)} (h1:Ei K ct H0 W te m) (h2:Eo K ct H0 W tl ml) (h3:Eo K ct H0 W th mh):Ei K ct H0 W (tSl (rSlZ K) te tl th) (mSl m ml mh):=fun S s σ H Q rel p =>
 h1 S s σ H _ rel (Pst.bind bI p fun S1 s1 H1 x a st1 rel1 i1 p1=>h2 S1 s1 σ H1 _ rel1 (Pst.bind bI p1 fun S2 s2 H2 lo lo' st2 rel2 i2 p2=>h3 S2 s2 σ H2 _ rel2 (Pst.bind bI p2 fun S3 s3 H3 hi hi' st3 rel3 i3 p3=>by
  cases(show lo=lo' from i2);cases(show hi=hi' from i3)
  have i1':=(i1.step st2).step st3
  unfold fSl at p3
  split at p3
  ·rename_i z
   cases q7c i1'
   split at p3
   ·rename_i hz
    exact .inr ⟨z,rfl,hz,p3.val rel3 (.str _)⟩
   ·exact False.elim p3
  ·split at p3
   ·rename_i l e
    obtain⟨q,vs,rfl,k1,k2⟩:=q2f rel3 i1' e
    refine .inl ⟨q,vs,rfl,k1,fun r hr=>p3.newL rel3 hr ?_⟩
    show RpL _ _ _ _ ((vs.drop (HT.sIx vs.length 0 lo)).take (HT.sIx vs.length vs.length hi-HT.sIx vs.length 0 lo)) _
    rw[k2.length]
    exact(k2.drop _).take _
   ·exact False.elim p3)))
def JB (K:PySem.W.Frag) (ct:Ct) (H0:Hp) (r:List V→Hp→VK→Prop) (f:Stt→List AI→Ro AI):Prop:=∀W S s σ H Hs vs as Q,Rel K ct H0 S s σ H→AsOk K ct Hs S s σ H vs as→Pst K ct H0 (RI K ct) W S s σ H Q (f s as)→r vs H Q
def mCB (f:Stt→List AI→Ro AI) (m:Mo (List AI)):Mo AI:=fun s=>(m s).bind fun as s1=>f s1 as
theorem q1z {r:List V→Hp→VK→Prop} {f:Stt→List AI→Ro AI} {t:TA} {m:Mo (List AI)} (hr:JB K ct H0 r f) (h:EaL K ct H0 W t m):Ei K ct H0 W (tCB r t) (mCB f m):=fun S s σ H Q rel p =>
 h S s σ H _ rel (Pst.bind bI p fun S1 s1 H1 x a st1 rel1 i1 p1=>hr W S1 s1 σ H1 _ x a Q rel1 i1 p1)
def lenD (M:List Cn):D→Option Nat
 | .str x=>if x.length≤sizeLine then some x.length else none
 | .tup l=>some l.length
 | .ctp l=>some l.length
 | .lst l=>some l.length
 | .clst l=>some l.length
 | .dK l=>some l.length
 | .cid k=>M[k]?.bind fun c=>match c with
  | .lst l=>some l.length
  | .dK l=>some l.length
  | .lkK l=>some l.length
  | _=>none
 | _=>none
def fLen (s:Stt) (as:List AI):Ro AI:=match as with
 | [a]=>match(look s a).bind (lenD s.M) with
  | some n=>.ok (.val (.int (n:Int))) s
  | none=>.no
 | _=>.no
theorem as1 {Hs:Hp} {S:Sh} {s:Stt} {σ:St} {H:Hp} {vs:List V} {a:AI} (h:AsOk K ct Hs S s σ H vs [a]):∃v,vs=[v]∧ItOk K ct Hs S s σ H v a:=by
 cases h with|cons i r=>cases r;exact⟨_,rfl,i⟩
theorem as2 {Hs:Hp} {S:Sh} {s:Stt} {σ:St} {H:Hp} {vs:List V} {a b:AI} (h:AsOk K ct Hs S s σ H vs [a,b]):∃v w,vs=[v,w]∧ItOk K ct Hs S s σ H v a∧ItOk K ct Hs S s σ H w b:=by
 cases h with|cons i r=>cases r with|cons j r=>cases r;exact⟨_,_,rfl,i,j⟩
theorem j6i {S:Sh} {s:Stt} {σ:St} {H:Hp} {v:V} {d:D} {n:Nat} {Q:VK} (rel:Rel K ct H0 S s σ H) (r:Rp K (U ct.lk H) S.α s.M.length v d) (e:lenD s.M d=some n) (q:Q (.int n) H):j2r K [v] H Q:=by
 cases r with
 | str x =>
  have e1:(if x.length≤sizeLine then some x.length else none)=some n:=e
  by_cases h:x.length≤sizeLine
  ·rw[if_pos h] at e1
   cases e1
   exact .inl ⟨_,_,rfl,⟨h,rfl⟩,q⟩
  ·rw[if_neg h] at e1;cases e1
 | tup h r=>cases e;exact .inl ⟨_,_,rfl,.inr ⟨_,.of (uP' h),r.length.symm⟩,q⟩
 | ctp h r=>cases e;exact .inl ⟨_,_,rfl,.inr ⟨_,uSqT h,r.length.symm⟩,q⟩
 | lst h r=>cases e;exact .inl ⟨_,_,rfl,.inl ⟨_,.of (uL' h),r.length.symm⟩,q⟩
 | clst h r=>cases e;exact .inl ⟨_,_,rfl,.inl ⟨_,uSqL h,r.length.symm⟩,q⟩
 | dK h e1 r=>cases e;exact .inr ⟨_,_,rfl,uK' h,by rw[(RpK.of e1 r).len];exact q⟩
 | non=>cases e
 | bl _=>cases e
 | int _=>cases e
 | dT h e1 r=>cases e
 | ty m=>cases e
 | @cid k h =>
  obtain⟨c,qc,e1⟩:=Option.bind_eq_some_iff.mp e
  have hh:=(rel.ids k c qc).2
  cases c with
  | lst l=>cases e1;obtain⟨vs,h1,h2⟩:=hh;exact .inl ⟨_,_,rfl,.inl ⟨_,.of h1,h2.length.symm⟩,q⟩
  | dK l=>cases e1;obtain⟨vs,h1,h3,h2⟩:=hh;exact .inr ⟨_,_,rfl,.inl h1,by rw[(RpK.of h3 h2).len];exact q⟩
  | dT l=>cases e1
  | obj c fs=>cases e1
  | lkK l=>cases e1;obtain⟨vs,⟨od,h1⟩,h3,h2⟩:=hh;exact .inr ⟨_,_,rfl,.inr ⟨od,h1⟩,by rw[(RpK.of h3 h2).len];exact q⟩
  | lkT l=>cases e1
  | tb _ _=>cases e1
theorem q2r:JB K ct H0 (j2r K) fLen:=fun W S s σ H Hs vs as Q rel ia p=>by
 unfold fLen at p
 split at p
 ·rename_i a
  obtain⟨v,rfl,i⟩:=as1 ia
  split at p
  ·rename_i n e
   obtain⟨d,e1,e2⟩:=Option.bind_eq_some_iff.mp e
   exact j6i rel (q6t rel i e1) e2 (p.val rel (.int _))
  ·exact False.elim p
 ·exact False.elim p
/-- a list of whole numbers, of truth values -/
def q6k:List D→Option (List Int)
 | []=>some []
 | .int i::l=>(q6k l).map (i::·)
 | _::_=>none
def blsD:List D→Option (List Bool)
 | []=>some []
 | .bl i::l=>(blsD l).map (i::·)
 | _::_=>none
section
variable {G:Hp} {α:Nat→Addr} {n:Nat}
theorem z1e:∀{l:List D} {vs:List V} {ns:List Int},RpL K G α n vs l→q6k l=some ns→vs=ns.map V.int
 | [],_,_,.nil,e=>by cases e;rfl
 | .int i::l,_,ns,.cons h r,e=>by
  obtain⟨ms,q,rfl⟩:=Option.map_eq_some_iff.mp (show(q6k l).map (i::·)=some ns from e)
  rw[q2c h,z1e r q];rfl
 | .non::_,_,_,_,e=>by cases e
 | .bl _::_,_,_,_,e=>by cases e
 | .str _::_,_,_,_,e=>by cases e
 | .tup _::_,_,_,_,e=>by cases e
 | .ctp _::_,_,_,_,e=>by cases e
 | .lst _::_,_,_,_,e=>by cases e
 | .clst _::_,_,_,_,e=>by cases e
 | .dK _::_,_,_,_,e=>by cases e
 | .dT _::_,_,_,_,e=>by cases e
 | .cid _::_,_,_,_,e=>by cases e
 | .ty _::_,_,_,_,e=>by cases e
theorem j0d:∀{l:List D} {vs:List V} {ns:List Bool},RpL K G α n vs l→blsD l=some ns→vs=ns.map V.bl
 | [],_,_,.nil,e=>by cases e;rfl
 | .bl i::l,_,ns,.cons h r,e=>by
  obtain⟨ms,q,rfl⟩:=Option.map_eq_some_iff.mp (show(blsD l).map (i::·)=some ns from e)
  rw[q8n h,j0d r q];rfl
 | .non::_,_,_,_,e=>by cases e
 | .int _::_,_,_,_,e=>by cases e
 | .str _::_,_,_,_,e=>by cases e
 | .tup _::_,_,_,_,e=>by cases e
 | .ctp _::_,_,_,_,e=>by cases e
 | .lst _::_,_,_,_,e=>by cases e
 | .clst _::_,_,_,_,e=>by cases e
 | .dK _::_,_,_,_,e=>by cases e
 | .dT _::_,_,_,_,e=>by cases e
 | .cid _::_,_,_,_,e=>by cases e
 | .ty _::_,_,_,_,e=>by cases e
end
/-- a builtin of one list of whole numbers, of truth values -/
def q6u (g:List Int→Option D) (s:Stt) (as:List AI):Ro AI:=match as with
 | [a]=>match((q1v s a).bind q6k).bind g with
  | some d=>.ok (.val d) s
  | none=>.no
 | _=>.no
def fBls (g:List Bool→D) (s:Stt) (as:List AI):Ro AI:=match as with
 | [a]=>match(q1v s a).bind blsD with
  | some bs=>.ok (.val (g bs)) s
  | none=>.no
 | _=>.no
def gSum (ns:List Int):Option D:=some (.int ns.sum)
def gMax:List Int→Option D
 | []=>none
 | n::ns=>some (.int (ns.foldl max n))
theorem z2h {g:List Int→Option D} {S:Sh} {s:Stt} {σ:St} {H Hs:Hp} {vs:List V} {as:List AI} {Q:VK} (rel:Rel K ct H0 S s σ H) (ia:AsOk K ct Hs S s σ H vs as) (p:Pst K ct H0 (RI K ct) W S s σ H Q (q6u g s as)) :
  ∃q ns d,vs=[.ref q]∧SqL K H q (ns.map V.int)∧g ns=some d∧Pst K ct H0 (RI K ct) W S s σ H Q (.ok (.val d) s):=by
 unfold q6u at p
 split at p
 ·rename_i a
  obtain⟨v,rfl,i⟩:=as1 ia
  split at p
  ·rename_i d e
   obtain⟨ns,e1,e2⟩:=Option.bind_eq_some_iff.mp e
   obtain⟨l,e0,e1⟩:=Option.bind_eq_some_iff.mp e1
   obtain⟨q,us,rfl,k1,k2⟩:=q2f rel i e0
   rw[z1e k2 e1] at k1
   exact⟨q,ns,d,rfl,k1,e2,p⟩
  ·exact False.elim p
 ·exact False.elim p
theorem q8y:JB K ct H0 (rSum K) (q6u gSum):=fun W S s σ H Hs vs as Q rel ia p=>by
 obtain⟨q,ns,d,rfl,h,e,p⟩:=z2h rel ia p
 cases e
 exact⟨q,ns,rfl,h,p.val rel (.int _)⟩
theorem z8l (n:Int) (ns:List Int):ns.foldl max n∈n::ns∧∀y∈n::ns,y≤ns.foldl max n:=by
 induction ns generalizing n with
 | nil=>exact⟨by simp,fun y hy=>by simp at hy;rw[hy];exact Int.le_refl _⟩
 | cons m ms ih =>
  obtain⟨h1,h2⟩:=ih (max n m)
  have hm:=h2 (max n m) (by simp)
  refine⟨?_,fun y hy=>?_⟩
  ·show ms.foldl max (max n m)∈_
   rcases List.mem_cons.mp h1 with e|e
   ·rw[e]
    by_cases l:n≤m
    ·rw[Int.max_eq_right l];simp
    ·rw[Int.max_eq_left (by omega)];simp
   ·simp[e]
  ·show y≤ms.foldl max (max n m)
   rcases List.mem_cons.mp hy with rfl|hy
   ·omega
   ·rcases List.mem_cons.mp hy with rfl|hy
    ·omega
    ·exact h2 y (by simp[hy])
theorem j7i:JB K ct H0 (rMax K) (q6u gMax):=fun W S s σ H Hs vs as Q rel ia p=>by
 obtain⟨q,ns,d,rfl,h,e,p⟩:=z2h rel ia p
 cases ns with
 | nil=>cases e
 | cons n ns =>
  cases e
  refine⟨q,n::ns,rfl,h,by simp,fun m hm k=>?_⟩
  have h2:=z8l n ns
  have e:m=ns.foldl max n:=by have:=k _ h2.1;have:=h2.2 m hm;omega
  rw[e];exact p.val rel (.int _)
theorem j3t {g:List Bool→D} {S:Sh} {s:Stt} {σ:St} {H Hs:Hp} {vs:List V} {as:List AI} {Q:VK} (rel:Rel K ct H0 S s σ H) (ia:AsOk K ct Hs S s σ H vs as) (p:Pst K ct H0 (RI K ct) W S s σ H Q (fBls g s as)) :
  ∃q bs,vs=[.ref q]∧SqL K H q (bs.map V.bl)∧Pst K ct H0 (RI K ct) W S s σ H Q (.ok (.val (g bs)) s):=by
 unfold fBls at p
 split at p
 ·rename_i a
  obtain⟨v,rfl,i⟩:=as1 ia
  split at p
  ·rename_i bs e
   obtain⟨l,e0,e1⟩:=Option.bind_eq_some_iff.mp e
   obtain⟨q,us,rfl,k1,k2⟩:=q2f rel i e0
   rw[j0d k2 e1] at k1
   exact⟨q,bs,rfl,k1,p⟩
  ·exact False.elim p
 ·exact False.elim p
theorem z9u:JB K ct H0 (rAll K) (fBls fun bs=>.bl (bs.all id)):=fun W S s σ H Hs vs as Q rel ia p=>by
 obtain⟨q,ns,rfl,h,p⟩:=j3t rel ia p
 exact⟨q,ns,rfl,h,p.val rel (.bl _)⟩
def fI2 (g:Int→Int→Int) (s:Stt) (as:List AI):Ro AI:=match as with
 | [.val (.int i),.val (.int j)]=>.ok (.val (.int (g i j))) s
 | _=>.no
theorem j2m:JB K ct H0 j1b (fI2 min):=fun W S s σ H Hs vs as Q rel ia p=>by
 unfold fI2 at p
 split at p
 ·rename_i i j
  obtain⟨v,w,rfl,h1,h2⟩:=as2 ia
  cases q2c h1;cases q2c h2
  exact j9q (p.val rel (.int _))
 ·exact False.elim p
theorem j2p:JB K ct H0 j1f (fI2 max):=fun W S s σ H Hs vs as Q rel ia p=>by
 unfold fI2 at p
 split at p
 ·rename_i i j
  obtain⟨v,w,rfl,h1,h2⟩:=as2 ia
  cases q2c h1;cases q2c h2
  exact j6s (p.val rel (.int _))
 ·exact False.elim p
/-- list(x) -/
def j4a (s:Stt) (as:List AI):Ro AI:=match as with
 | [a]=>match q1v s a with
  | some l=>.ok (.new (.lst l)) s
  | none=>match z0v s a with
   | some l=>.ok (.new (.lst l)) s
   | none=>.no
 | _=>.no
/-- isinstance -/
def z9i (M:List Cn):D→Option String
 | .non=>some "NoneType"
 | .bl _=>some "bool"
 | .int _=>some "int"
 | .str _=>some "str"
 | .tup _=>some "tuple"
 | .lst _=>some "list"
 | .dK _=>some "dict"
 | .cid k=>M[k]?.bind fun c=>match c with
  | .lst _=>some "list"
  | .dK _=>some "dict"
  | _=>none
 | _=>none
def fIsi (s:Stt) (as:List AI):Ro AI:=match as with
 | [a,.val (.ty m)]=>match((look s a).bind (z9i s.M)).bind fun n=>kitB n m with
  | some b=>.ok (.val (.bl b)) s
  | none=>.no
 | _=>.no
theorem j0u {S:Sh} {s:Stt} {σ:St} {H:Hp} {v:V} {d:D} {n:String} (rel:Rel K ct H0 S s σ H) (r:Rp K (U ct.lk H) S.α s.M.length v d) (e:z9i s.M d=some n):TyX K H v (.type n):=by
 cases r with
 | non=>cases e;exact .base .non
 | bl b=>cases e;exact .base (.bl b)
 | int i=>cases e;exact .base (.int i)
 | str x=>cases e;exact .base (.str x)
 | tup h r=>cases e;exact .base (.tup (uP' h))
 | lst h r=>cases e;exact .base (.lst (uL' h))
 | dK h e1 r =>
  cases e
  rcases uK' h with h|⟨o,h⟩
  ·exact .base (.dK h)
  ·exact .fDict h
 | ctp h r=>cases e
 | clst h r=>cases e
 | dT h e1 r=>cases e
 | ty m=>cases e
 | @cid k h =>
  obtain⟨c,qc,e1⟩:=Option.bind_eq_some_iff.mp e
  have hh:=(rel.ids k c qc).2
  cases c with
  | lst l=>cases e1;obtain⟨vs,h1,h2⟩:=hh;exact .base (.lst h1)
  | dK l=>cases e1;obtain⟨vs,h1,h3,h2⟩:=hh;exact .base (.dK h1)
  | dT l=>cases e1
  | obj c fs=>cases e1
  | lkK l=>cases e1
  | lkT l=>cases e1
  | tb _ _=>cases e1
theorem z0x:JB K ct H0 (rIsi K) fIsi:=fun W S s σ H Hs vs as Q rel ia p=>by
 unfold fIsi at p
 split at p
 ·rename_i a m
  obtain⟨v,w,rfl,h1,h2⟩:=as2 ia
  split at p
  ·rename_i b e
   obtain⟨n,e1,e2⟩:=Option.bind_eq_some_iff.mp e
   obtain⟨d,e0,e1⟩:=Option.bind_eq_some_iff.mp e1
   have h2':Rp K S.G S.α s.M.length w (.ty m):=h2
   cases h2'
   exact w1l (j0u rel (q6t rel h1 e0) e1) (kit_ty e2) (p.val rel (.bl _))
  ·exact False.elim p
 ·exact False.elim p
end
theorem q9a:kitB "int" "int" = some true:=by decide +kernel
theorem q7q:kitB "int" "bool" = some false:=by decide +kernel
section
variable {K:PySem.W.Frag} {ct:Ct} {H0:Hp} {W:WX}
def inOf (s:Stt) (a b:AI):Option Bool:=match a,b with
 | .val (.str i),.val (.str j)=>some (!(Builtin.Str.occurrences j i 0 j.length 1).isEmpty)
 | a,b=>match q3b s b with
  | some l=>match a with
   | .val (.int i)=>some (vl l (.inl i)).isSome
   | .val (.str x)=>some (vl l (.inr x)).isSome
   | _=>none
  | none=>match pyOf s a,pyOf s b with
   | some d,some (.list ds)=>if SeqAt.shaped d&&SeqAt.shaped (.list ds) then some (ds.any fun z=>PyData.eqv z d) else none
   | _,_=>none
def fIn:Stt→AI→AI→Ro AI:=fun s a b=>match inOf s a b with
 | some k=>.ok (.val (.bl k)) s
 | none=>.no
def fNin:Stt→AI→AI→Ro AI:=fun s a b=>match inOf s a b with
 | some k=>.ok (.val (.bl (!k))) s
 | none=>.no
theorem q4q {S:Sh} {s:Stt} {σ:St} {H Hs:Hp} {v:V} {a:AI} {l:List (Key×D)} (r:Rel K ct H0 S s σ H) (i:ItOk K ct Hs S s σ H v a) (e:q3b s a=some l):∃p kvs,v = .ref p∧Rd H p (.dK kvs)∧RpK K S.G S.α s.M.length kvs l:=by
 have frz:∀{u:V} {d:D},Rp K S.G S.α s.M.length u d→z6n s.M d=some l→∃p kvs,u = .ref p∧Rd H p (.dK kvs)∧RpK K S.G S.α s.M.length kvs l:=fun {u d} h e=>by
  cases d with
  | dK l'=>cases e;cases h with|dK h1 h3 h2=>exact⟨_,_,rfl,uK' (r.sub _ _ h1),.of h3 h2⟩
  | cid k =>
   cases h
   obtain⟨c,q,e1⟩:=Option.bind_eq_some_iff.mp (show s.M[k]?.bind Cn.aK=some l from e)
   cases c with
   | dK l' =>
    cases e1
    obtain⟨vs,h1,h3,h2⟩:=(r.ids k _ q).2
    exact⟨_,vs,rfl,.inl h1,.of h3 h2⟩
   | lkK l' =>
    cases e1
    obtain⟨vs,⟨od,h1⟩,h3,h2⟩:=(r.ids k _ q).2
    exact⟨_,vs,rfl,.inr ⟨od,h1⟩,.of h3 h2⟩
   | _=>cases e1
  | _=>cases e
 have own:∀{p:Addr} {c:Cn},CnOk K ct S s.M.length H p c→z6n s.M c.toD=some l→∃q kvs,V.ref p = .ref q∧Rd H q (.dK kvs)∧RpK K S.G S.α s.M.length kvs l:=fun {p c} h e=>by
  cases c with
  | dK l'=>cases e;obtain⟨vs,h1,h3,h2⟩:=h;exact⟨p,vs,rfl,.inl h1,.of h3 h2⟩
  | lst l'=>cases e
  | dT l'=>cases e
  | obj _ _=>cases e
  | lkK l=>cases e
  | lkT l=>cases e
  | tb _ _=>cases e
 unfold q3b at e
 cases a with
 | val d=>exact frz i e
 | new c =>
  obtain⟨p,rfl,_,_,_,hc,h5⟩:=i
  exact own h5 e
 | slot j =>
  obtain⟨d,q0,e⟩:=Option.bind_eq_some_iff.mp e
  obtain⟨en,q1,rfl⟩:=Option.map_eq_some_iff.mp q0
  have q:=q1t q1
  have hi:σ[j]? = some (some v):=i
  have hh:=r.slot j en q
  cases en with
  | fz d =>
   obtain⟨v',h1,h2⟩:=hh
   rw[hi] at h1;cases h1
   exact frz h2 e
  | xn x=>exact(q5j q1).elim
  | ow c =>
   obtain⟨p,h1,_,_,hc,h5⟩:=hh
   rw[hi] at h1;cases h1
   exact own h5 e
theorem q8c {S:Sh} {n:Nat} {H:Hp} {p:Addr} {kvs:List (Key×V)} {l:List (Key×D)} {k:Key} (h:Rd H p (.dK kvs)) (r:RpK K S.G S.α n kvs l) :
  (vl l k=none∧DGet H p (kV k) none)∨∃v d,vl l k=some d∧DGet H p (kV k) (some v)∧Rp K S.G S.α n v d:=by
 have g:DGet H p (kV k) (valV kvs k):=.inl ⟨kvs,k,h,rfl,rfl⟩
 rcases r.get (k:=k) with⟨h1,h2⟩|⟨v,d,h1,h2,h3⟩
 ·rw[h2] at g;exact .inl ⟨h1,g⟩
 ·rw[h2] at g;exact .inr ⟨v,d,h1,g,h3⟩
theorem j5a {S:Sh} {s:Stt} {σ:St} {H Hs Hs':Hp} {v w:V} {a b:AI} {k:Bool} {Q:VK} (g:Bool→Bool) (rel:Rel K ct H0 S s σ H) (i:ItOk K ct Hs S s σ H v a) (j:ItOk K ct Hs' S s σ H w b) (e:inOf s a b=some k) (q:Q (.bl (g k)) H) :
  (∃d ds,Dp K H v d∧Dp K H w (.list ds)∧SeqAt.shaped d=true∧SeqAt.shaped (.list ds)=true∧Q (.bl (g (ds.any fun z=>PyData.eqv z d))) H)∨rSIn g v w H Q∨rDIn g v w H Q:=by
 unfold inOf at e
 split at e
 ·rename_i x y
  cases q7c i;cases q7c j;cases e
  exact .inr (.inl ⟨x,y,rfl,rfl,q⟩)
 ·split at e
  ·rename_i l e1
   obtain⟨p,kvs,rfl,h1,h2⟩:=q4q rel j e1
   split at e
   ·rename_i x _
    cases q2c i;cases e
    rcases q8c (k:=Sum.inl x) h1 h2 with⟨h3,h4⟩|⟨v,d,h3,h4,h5⟩
    ·rw[h3] at q;exact .inr (.inr ⟨p,_,rfl,h4,q⟩)
    ·rw[h3] at q;exact .inr (.inr ⟨p,_,rfl,h4,q⟩)
   ·rename_i x _
    cases q7c i;cases e
    rcases q8c (k:=Sum.inr x) h1 h2 with⟨h3,h4⟩|⟨v,d,h3,h4,h5⟩
    ·rw[h3] at q;exact .inr (.inr ⟨p,_,rfl,h4,q⟩)
    ·rw[h3] at q;exact .inr (.inr ⟨p,_,rfl,h4,q⟩)
   ·cases e
  ·split at e
   ·rename_i d ds e1 e2
    split at e
    ·rename_i h
     rw[Bool.and_eq_true] at h
     cases e
     exact .inl ⟨d,ds,q9x rel i e1,q9x rel j e2,h.1,h.2,q⟩
    ·cases e
   ·cases e
theorem j_in:J2 K ct H0 (rInY K) fIn:=fun W S s σ H Hs Hs' x y a b Q rel ia ib p=>by
 unfold fIn at p
 split at p
 ·rename_i k e
  rcases j5a id rel ia ib e (p.val rel (.bl _)) with h|h|h
  ·exact .inl (.inl (.inl h))
  ·exact .inl (.inr h)
  ·exact .inr h
 ·exact False.elim p
theorem j6w:J2 K ct H0 (j4s K) fNin:=fun W S s σ H Hs Hs' x y a b Q rel ia ib p=>by
 unfold fNin at p
 split at p
 ·rename_i k e
  rcases j5a not rel ia ib e (p.val rel (.bl _)) with h|h|h
  ·exact .inl (.inl (.inl h))
  ·exact .inl (.inr h)
  ·exact .inr h
 ·exact False.elim p
/-- an item of a dict, too -/
def fIxY:Stt→AI→AI→Ro AI:=fun s a b=>match q3b s a with
 | some l=>match b with
  | .val (.int i)=>match vl l (.inl i) with
   | some d=>.ok (.val d) s
   | none=>.no
  | .val (.str x)=>match vl l (.inr x) with
   | some d=>.ok (.val d) s
   | none=>.no
  | _=>.no
 | none=>fIx s a b
theorem q5c:J2 K ct H0 (rIxY K) fIxY:=fun W S s σ H Hs Hs' x y a b Q rel ia ib p=>by
 unfold fIxY at p
 split at p
 ·rename_i l e1
  obtain⟨q,kvs,rfl,h1,h2⟩:=q4q rel ia e1
  split at p
  ·rename_i i
   cases q2c ib
   split at p
   ·rename_i d e
    rcases q8c (k:=Sum.inl i) h1 h2 with⟨h3,h4⟩|⟨v,d',h3,h4,h5⟩
    ·rw[h3] at e;cases e
    ·rw[h3] at e;cases e
     exact .inr ⟨q,v,rfl,h4,p.val rel h5⟩
   ·exact False.elim p
  ·rename_i i
   cases q7c ib
   split at p
   ·rename_i d e
    rcases q8c (k:=Sum.inr i) h1 h2 with⟨h3,h4⟩|⟨v,d',h3,h4,h5⟩
    ·rw[h3] at e;cases e
    ·rw[h3] at e;cases e
     exact .inr ⟨q,v,rfl,h4,p.val rel h5⟩
   ·exact False.elim p
  ·exact False.elim p
 ·exact .inl (j_ix W S s σ H Hs Hs' x y a b Q rel ia ib p)
end
end Y
namespace Y
open PySem L2 Z
section
variable {K:PySem.W.Frag} {ct:Ct} {H0:Hp} {W:WX} {S:Sh} {s:Stt} {σ:St} {H:Hp}
def Ent.own:Ent→Option Cn
 | .ow c=>some c
 | .fz _=>none
 | .xn _=>none
def getC (s:Stt):AI→Option Cn
 | .slot i=>(q2s s i).bind Ent.own
 | .val (.cid k)=>s.M[k]?
 | _=>none
def setC (s:Stt) (a:AI) (c:Cn):Stt:=match a with
 | .slot i=>⟨s.env.set i (some (.ow c)),s.M⟩
 | .val (.cid k)=>⟨s.env,s.M.set k c⟩
 | _=>s
theorem z2t {a:AI} {c:Cn}:(setC s a c).M.length=s.M.length:=by
 unfold setC
 split
 ·rfl
 ·exact List.length_set
 ·rfl
theorem z0f {Hs:Hp} {v:V} {a:AI} {c:Cn} (r:Rel K ct H0 S s σ H) (i:ItOk K ct Hs S s σ H v a) (e:getC s a=some c) (hlk:c.lkd=false:=by rfl) :
    ∃ p,v = .ref p∧CnOk K ct S s.M.length H p c∧∀o c',(c.isC=true→c'.isC=true)→CnOk K ct S s.M.length (upd H p o) p c' →
      Rel K ct H0 S (setC s a c') σ (upd H p o)∧Stp S s.M.length H S (setC s a c').M.length (upd H p o):=by
  have gen:∀(p:Addr) (l:Lab),S.lab p=some l→(∀u,H p=some u→NF u)→∀o:HO,NT o →
      (Same S.G (U ct.lk (upd H p o)))∧(∀a l,S.lab a=some l→S.G a=none∧∃u,upd H p o a=some u∧NT u)∧(∀a,upd H p o a=none→H0 a=none) ∧
      (∀{a:Addr} {c:Cn} {l':Lab},S.lab a=some l'→l'≠l→CnOk K ct S s.M.length H a c→CnOk K ct S s.M.length (upd H p o) a c)∧Stp S s.M.length H S s.M.length (upd H p o):=by
    intro p l hl hnf o hnt
    obtain⟨hg,u0,hu0⟩:=r.lg p l hl
    refine⟨fun a u q=>?_,fun a l' q=>?_,fun a q=>r.dom a (q1a.mp q).2,fun {a c l'} q ne h=>?_,⟨fun _ _ q=>q,Nat.le_refl _,fun _ _=>rfl,fun a u q ql=>⟨?_,ql⟩,fun _ _ q=>.inl q,fun a q=>(q1a.mp q).2,fun a od u q=>by rw[upd_ne (fun z=>by subst z;exact absurd rfl (hnf _ q od u))];exact q⟩⟩
    · rw[U_ne (fun z=>by subst z;rw[hg] at q;cases q)];exact r.sub a u q
    · obtain⟨k1,u,k2,k3⟩:=r.lg a l' q
      refine⟨k1,?_⟩
      by_cases z:a=p
      · subst z;exact⟨o,upd_same,hnt⟩
      · exact⟨u,by rw[upd_ne z];exact k2,k3⟩
    · have z:a≠p:=fun z=>by subst z;rw[hl] at q;cases q;exact ne rfl
      exact h.mono (fun _ _ q=>q) (fun _ _=>rfl) (Nat.le_refl _) fun u q=>by rw[upd_ne z];exact q
    · rw[upd_ne (fun z=>by subst z;rw[hl] at ql;cases ql)];exact q
  cases a with
  | new c=>cases e
  | slot j =>
    obtain⟨en,q1,q2⟩:=Option.bind_eq_some_iff.mp e
    cases en with
    | fz d=>cases q2
    | xn x=>cases q2
    | ow c0 =>
      cases q2
      have q:=q1t q1
      obtain⟨p,h1,h2,h3,h4,h5⟩:=r.slot j _ q
      have hi:σ[j]? = some (some v):=i
      rw[hi] at h1;cases h1
      refine⟨p,rfl,h5,fun o c' hc hk=>?_⟩
      obtain⟨g1,g2,g3,g4,g5⟩:=gen p _ h3 (fun u hu=>h5.nf hlk hu) o (hk.nt upd_same)
      refine⟨⟨g1,g2,g3,?_,fun m en hm=>?_,fun k cc hk'=>?_⟩,g5⟩
      · show σ.length=(s.env.set j _).length
        rw[List.length_set];exact r.len
      · have hm1:(s.env.set j (some (.ow c')))[m]? = some (some en):=hm
        by_cases z:j=m
        · subst z
          have hlt:j<s.env.length:=(List.getElem?_eq_some_iff.mp q).1
          rw[List.getElem?_set_self hlt] at hm1
          cases hm1
          exact⟨p,hi,h2,h3,hc h4,hk⟩
        · rw[List.getElem?_set_ne z] at hm1
          have hh:=r.slot m en hm1
          cases en with
          | fz d=>exact hh
          | xn x=>exact q2m (S:=S) (n:=s.M.length) (H:=H) (fun _ _ e=>e) (fun _ _=>rfl) (Nat.le_refl _) rfl hh
          | ow c2 =>
            obtain⟨a,k1,k2,k3,k4,k5⟩:=hh
            exact⟨a,k1,k2,k3,k4,g4 k3 (fun w=>by cases w;exact z rfl) k5⟩
      · obtain⟨k1,k2⟩:=r.ids k cc hk'
        exact⟨k1,g4 k1 (fun w=>by cases w) k2⟩
  | val d =>
    cases d with
    | cid k =>
      have e1:s.M[k]? = some c:=e
      have i1:Rp K S.G S.α s.M.length v (.cid k):=i
      cases i1
      obtain⟨h3,h5⟩:=r.ids k c e1
      refine⟨_,rfl,h5,fun o c' hc hk=>?_⟩
      obtain⟨g1,g2,g3,g4,g5⟩:=gen _ _ h3 (fun u hu=>h5.nf hlk hu) o (hk.nt upd_same)
      have hl:(s.M.set k c').length=s.M.length:=List.length_set
      refine⟨⟨g1,g2,g3,r.len,fun m en hm=>?_,fun k' cc hk'=>?_⟩,by show Stp S s.M.length H S (s.M.set k c').length _;rw[hl];exact g5⟩
      · have hh:=r.slot m en hm
        show z4g K ct H0 S (s.M.set k c').length σ _ m en
        rw[hl]
        cases en with
        | fz d=>exact hh
        | xn x=>exact q2m (S:=S) (n:=s.M.length) (H:=H) (fun _ _ e=>e) (fun _ _=>rfl) (Nat.le_refl _) rfl hh
        | ow c2 =>
          obtain⟨a,k1,k2,k3,k4,k5⟩:=hh
          exact⟨a,k1,k2,k3,k4,g4 k3 (fun w=>by cases w) k5⟩
      · have hk1:(s.M.set k c')[k']? = some cc:=hk'
        show S.lab (S.α k')=some (.id k')∧CnOk K ct S (s.M.set k c').length _ (S.α k') cc
        rw[hl]
        by_cases z:k=k'
        · subst z
          have hlt:k<s.M.length:=(List.getElem?_eq_some_iff.mp e1).1
          rw[List.getElem?_set_self hlt] at hk1
          cases hk1
          exact⟨h3,hk⟩
        · rw[List.getElem?_set_ne z] at hk1
          obtain⟨k1,k2⟩:=r.ids k' cc hk1
          exact⟨k1,g4 k1 (fun w=>by cases w;exact z rfl) k2⟩
    | _=>cases e
/-- a method of a list: the receiver is read, then the values -/
def JM (K:PySem.W.Frag) (ct:Ct) (H0:Hp) (r:V→List V→Hp→VK→Prop) (f:Stt→AI→List D→Ro AI):Prop:=∀W S s σ H Hs x a vs ds Q,Rel K ct H0 S s σ H→ItOk K ct Hs S s σ H x a→RpL K S.G S.α s.M.length vs ds→Pst K ct H0 (RI K ct) W S s σ H Q (f s a ds)→r x vs H Q
def mBM (f:Stt→AI→List D→Ro AI) (mo:Mo AI) (ma:Mo (List D)):Mo AI:=fun s=>(mo s).bind fun a s1=>match q1v s1 a with
 | some _=>(ma s1).bind fun ds s2=>f s2 a ds
 | none=>.no
theorem z0u {r:V→List V→Hp→VK→Prop} {f:Stt→AI→List D→Ro AI} {to:TE} {t:TA} {mo:Mo AI} {ma:Mo (List D)} (hr:JM K ct H0 r f) (ho:Ei K ct H0 W to mo) (ha:EvL K ct H0 W t ma):Ei K ct H0 W (tBM K "list" r to t) (mBM f mo ma):=fun S s σ H Q rel p =>
 ho S s σ H _ rel (Pst.bind bI p fun S1 s1 H1 x a st1 rel1 i1 p1=>by
  split at p1
  ·rename_i l e
   obtain⟨q,vs,rfl,h1,_⟩:=q2f rel1 i1 e
   exact⟨.inl ⟨rfl,vs,h1⟩,ha S1 s1 σ H1 _ rel1 (Pst.bind bI p1 fun S2 s2 H2 vs ds st2 rel2 i2 p2=>hr W S2 s2 σ H2 _ _ a vs ds Q rel2 (i1.step st2) i2 p2)⟩
  ·exact False.elim p1)
def fApp (s:Stt) (a:AI) (ds:List D):Ro AI:=match ds,getC s a with
 | [d],some (.lst l)=>if l.length<sizeLine then .ok (.val .non) (setC s a (.lst (l++[d]))) else .no
 | _,_=>.no
theorem Pst.mut {a:AI} {c':Cn} {Q:VK} {H':Hp} (p:Pst K ct H0 (RI K ct) W S s σ H Q (.ok (.val .non) (setC s a c'))) (h:Rel K ct H0 S (setC s a c') σ H'∧Stp S s.M.length H S (setC s a c').M.length H'):Q .non H':=p S .non H' h.2 h.1 .non
theorem q7e:JM K ct H0 rAppend fApp:=fun W S s σ H Hs x a vs ds Q rel i r p=>by
 unfold fApp at p
 split at p
 ·rename_i d l e
  split at p
  ·rename_i hz
   obtain⟨q,rfl,⟨us,h1,h2⟩,h3⟩:=z0f rel i e
   cases r with
   | cons r1 r2 =>
    cases r2
    exact⟨q,us,_,rfl,rfl,h1,by rw[h2.length];exact hz,p.mut (h3 _ (.lst (l++[d])) (fun _=>rfl) ⟨_,upd_same,h2.append (.cons r1 .nil)⟩)⟩
  ·exact False.elim p
 ·exact False.elim p
def PstS (K:PySem.W.Frag) (ct:Ct) (H0:Hp) (W:WX) (S:Sh) (s:Stt) (H:Hp) (Dn:Ends):Rs→Prop
 | .nx s'=>∀S' σ' H',Stp S s.M.length H S' s'.M.length H'→Rel K ct H0 S' s' σ' H'→Dn.nx σ' H'
 | .bk s'=>∀S' σ' H',Stp S s.M.length H S' s'.M.length H'→Rel K ct H0 S' s' σ' H'→Dn.bk σ' H'
 | .ct s'=>∀S' σ' H',Stp S s.M.length H S' s'.M.length H'→Rel K ct H0 S' s' σ' H'→Dn.ct σ' H'
 | .rt a s'=>∀S' σ' v H',Stp S s.M.length H S' s'.M.length H'→Rel K ct H0 S' s' σ' H'→ItOk K ct H0 S' s' [] H' v a→Dn.rt v H'
 | .er x s'=>∀S' σ' H' dd,Stp S s.M.length H S' s'.M.length H'→Rel K ct H0 S' s' σ' H'→XOk K S' s'.M.length H' x dd→W (.ref (ct x.cls)) dd σ' H'
 | .no=>False
def Sv (K:PySem.W.Frag) (ct:Ct) (H0:Hp) (W:WX) (t:TS) (m:Ms):Prop:=∀S s σ H Dn,Rel K ct H0 S s σ H→PstS K ct H0 W S s H Dn (m s)→t Dn σ H
theorem PstS.from {S1:Sh} {s1:Stt} {H1:Hp} {Dn:Ends} {r:Rs} (h:PstS K ct H0 W S s H Dn r) (t:Stp S s.M.length H S1 s1.M.length H1):PstS K ct H0 W S1 s1 H1 Dn r:=by
 cases r with
 | nx s'=>exact fun S' σ' H' st rel=>h S' σ' H' (t.trans st) rel
 | bk s'=>exact fun S' σ' H' st rel=>h S' σ' H' (t.trans st) rel
 | ct s'=>exact fun S' σ' H' st rel=>h S' σ' H' (t.trans st) rel
 | rt a s'=>exact fun S' σ' v H' st rel=>h S' σ' v H' (t.trans st) rel
 | er x s'=>exact fun S' σ' H' dd st rel=>h S' σ' H' dd (t.trans st) rel
 | no=>exact h
/-- an expression's result goes on to a statement's -/
def Ro.toS {α:Type} (r:Ro α) (f:α→Ms):Rs:=match r with
 | .ok a s=>f a s
 | .er x s=>.er x s
 | .no=>.no
theorem PstS.bind {β α:Type} {R:RR β α} {Dn:Ends} {Q1:β→Hp→Prop} {r:Ro α} {f:α→Ms} (h:PstS K ct H0 W S s H Dn (r.toS f))
  (k:∀S1 s1 H1 x a,Stp S s.M.length H S1 s1.M.length H1→Rel K ct H0 S1 s1 σ H1→R H S1 s1 σ H1 x a→PstS K ct H0 W S s H Dn (f a s1)→Q1 x H1):Pst K ct H0 R W S s σ H Q1 r:=by
 cases r with
 | ok a s'=>exact fun S' x H' st rel q=>k S' s' H' x a st rel q h
 | er x s'=>exact fun S' H' dd st rel q=>h S' σ H' dd st rel q
 | no=>exact h
def mSeq (m1 m2:Ms):Ms:=fun s=>match m1 s with
 | .nx s1=>m2 s1
 | r=>r
theorem q0m {t u:TS} {m1 m2:Ms} (h1:Sv K ct H0 W t m1) (h2:Sv K ct H0 W u m2):Sv K ct H0 W (tSeq t u) (mSeq m1 m2):=fun S s σ H Dn rel p=>h1 S s σ H _ rel (by
 unfold mSeq at p
 cases q:m1 s with
 | nx s1=>rw[q] at p;exact fun S1 σ1 H1 st rel1=>h2 S1 s1 σ1 H1 Dn rel1 (PstS.from p st)
 | bk s1=>rw[q] at p;exact p
 | ct s1=>rw[q] at p;exact p
 | rt a s1=>rw[q] at p;exact p
 | er x s1=>rw[q] at p;exact p
 | no=>rw[q] at p;exact p)
def q3h:Ms:=fun s=>.nx s
theorem q1i:Sv K ct H0 W tNext q3h:=fun S s σ H Dn rel p=>p S σ H .refl rel
def q5n (m:Mo AI):Ms:=fun s=>(m s).toS fun _ s1=>.nx s1
theorem q3c {te:TE} {m:Mo AI} (h:Ei K ct H0 W te m):Sv K ct H0 W (tDrop te) (q5n m):=fun S s σ H Dn rel p=>h S s σ H _ rel (PstS.bind p fun S1 s1 H1 x a st1 rel1 i1 p1=>p1 S1 σ H1 st1 rel1)
def mIfS (c:Mo Bool) (m1 m2:Ms):Ms:=fun s=>(c s).toS fun b s1=>if b=true then m1 s1 else m2 s1
theorem q3m {c:TT} {t u:TS} {mc:Mo Bool} {m1 m2:Ms} (hc:Et K ct H0 W c mc) (h1:Sv K ct H0 W t m1) (h2:Sv K ct H0 W u m2):Sv K ct H0 W (tIfS c t u) (mIfS mc m1 m2):=fun S s σ H Dn rel p =>
 hc S s σ H _ rel (PstS.bind p fun S1 s1 H1 x a st1 rel1 i1 p1=>by
  cases(show x=a from i1)
  cases x with
  | true=>rw[if_pos rfl] at p1 ⊢;exact h1 S1 s1 σ H1 Dn rel1 (PstS.from p1 st1)
  | false=>rw[if_neg Bool.false_ne_true] at p1 ⊢;exact h2 S1 s1 σ H1 Dn rel1 (PstS.from p1 st1))
def Sh.un (S:Sh) (i:Nat):Sh:=⟨S.G,S.α,fun a=>if S.lab a=some (.slot i) then none else S.lab a⟩
theorem q8r {i:Nat} {a:Addr} {l:Lab} (h:S.lab a=some l) (ne:l≠.slot i):(S.un i).lab a=some l:=by
 show(if S.lab a=some (.slot i) then none else S.lab a)=_
 rw[if_neg (fun z=>by rw[h] at z;cases z;exact ne rfl)];exact h
theorem z9h {i:Nat} {a:Addr} {l:Lab} (h:(S.un i).lab a=some l):S.lab a=some l:=by
 have h1:(if S.lab a=some (.slot i) then none else S.lab a)=some l:=h
 split at h1
 ·cases h1
 ·exact h1
theorem Stp.un {n:Nat} {i:Nat}:Stp S n H (S.un i) n H:=⟨fun _ _ e=>e,Nat.le_refl _,fun _ _=>rfl,fun a o h l=>⟨h,by
 show(if S.lab a=some (.slot i) then none else S.lab a)=none
 split
 ·rfl
 ·exact l⟩,fun _ _ e=>.inl e,fun _ h=>h,fun _ _ _ h=>h⟩
theorem z1y {n i:Nat} {p:Addr} {c:Cn} (h:CnOk K ct S n H p c):CnOk K ct (S.un i) n H p c:=h.mono (fun _ _ e=>e) (fun _ _=>rfl) (Nat.le_refl _) (fun _ e=>e)
/-- slot i is given another value -/
theorem Rel.setFz {i:Nat} {v:V} {d:D} (r:Rel K ct H0 S s σ H) (h:Rp K S.G S.α s.M.length v d):Rel K ct H0 (S.un i) ⟨s.env.set i (some (.fz d)),s.M⟩ (σ.set i (some v)) H:=by
 refine⟨r.sub,fun a l q=>r.lg a l (z9h q),r.dom,by rw[List.length_set];show _=(s.env.set i _).length;rw[List.length_set];exact r.len,fun j en q=>?_,fun k c q=>?_⟩
 ·have q1:(s.env.set i (some (.fz d)))[j]? = some (some en):=q
  by_cases z:i=j
  ·subst z
   have hlt:i<s.env.length:=by
    have:=(List.getElem?_eq_some_iff.mp q1).1
    rw[List.length_set] at this;exact this
   rw[List.getElem?_set_self hlt] at q1
   cases q1
   exact⟨v,List.getElem?_set_self (by rw[r.len];exact hlt),h⟩
  ·rw[List.getElem?_set_ne z] at q1
   have hh:=r.slot j en q1
   cases en with
   | fz d'=>obtain⟨w,k1,k2⟩:=hh;exact⟨w,by rw[List.getElem?_set_ne z];exact k1,k2⟩
   | xn x=>exact q2m (S:=S) (n:=s.M.length) (H:=H) (fun _ _ e=>e) (fun _ _=>rfl) (Nat.le_refl _) (List.getElem?_set_ne z) hh
   | ow c =>
    obtain⟨p,k1,k2,k3,k4,k5⟩:=hh
    exact⟨p,by rw[List.getElem?_set_ne z];exact k1,k2,q8r k3 (fun w=>by cases w;exact z rfl),k4,z1y k5⟩
 ·obtain⟨k1,k2⟩:=r.ids k c q
  exact⟨q8r k1 (fun w=>by cases w),z1y k2⟩
theorem Rel.setN {i:Nat} (r:Rel K ct H0 S s σ H):Rel K ct H0 (S.un i) ⟨s.env.set i none,s.M⟩ σ H:=by
 refine⟨r.sub,fun a l q=>r.lg a l (z9h q),r.dom,by show _=(s.env.set i _).length;rw[List.length_set];exact r.len,fun j en q=>?_,fun k c q=>?_⟩
 ·have q1:(s.env.set i none)[j]? = some (some en):=q
  by_cases z:i=j
  ·subst z
   have hlt:i<s.env.length:=by
    have:=(List.getElem?_eq_some_iff.mp q1).1
    rw[List.length_set] at this;exact this
   rw[List.getElem?_set_self hlt] at q1
   cases q1
  ·rw[List.getElem?_set_ne z] at q1
   have hh:=r.slot j en q1
   cases en with
   | fz d'=>exact hh
   | xn x=>exact q2m (S:=S) (n:=s.M.length) (H:=H) (fun _ _ e=>e) (fun _ _=>rfl) (Nat.le_refl _) rfl hh
   | ow c =>
    obtain⟨p,k1,k2,k3,k4,k5⟩:=hh
    exact⟨p,k1,k2,q8r k3 (fun w=>by cases w;exact z rfl),k4,z1y k5⟩
 ·obtain⟨k1,k2⟩:=r.ids k c q
  exact⟨q8r k1 (fun w=>by cases w),z1y k2⟩
def Sh.cl (S:Sh) (i:Nat) (p:Addr):Sh:=⟨S.G,S.α,fun a=>if a=p then some (.slot i) else if S.lab a=some (.slot i) then none else S.lab a⟩
theorem Rel.setOw {i:Nat} {p:Addr} {c:Cn} (r:Rel K ct H0 S s σ H) (h0:H0 p=none) (hl:S.lab p=none) (hg:S.G p=none) (hc:c.isC=true) (h:CnOk K ct S s.M.length H p c):Rel K ct H0 (S.cl i p) ⟨s.env.set i (some (.ow c)),s.M⟩ (σ.set i (some (.ref p))) H:=by
 have lb:∀{a:Addr} {l:Lab},S.lab a=some l→l≠.slot i→(S.cl i p).lab a=some l:=fun {a l} hh ne=>by
  show(if a=p then _ else if S.lab a=some (.slot i) then none else S.lab a)=_
  rw[if_neg (fun z=>by subst z;rw[hl] at hh;cases hh),if_neg (fun z=>by rw[hh] at z;cases z;exact ne rfl)];exact hh
 have cn:∀{a:Addr} {c:Cn},CnOk K ct S s.M.length H a c→CnOk K ct (S.cl i p) s.M.length H a c:=fun {a c} h=>h.mono (fun _ _ e=>e) (fun _ _=>rfl) (Nat.le_refl _) (fun _ e=>e)
 refine⟨r.sub,fun a l q=>?_,r.dom,by rw[List.length_set];show _=(s.env.set i _).length;rw[List.length_set];exact r.len,fun j en q=>?_,fun k c' q=>?_⟩
 ·have q1:(if a=p then some (Lab.slot i) else if S.lab a=some (.slot i) then none else S.lab a)=some l:=q
  by_cases z:a=p
  ·subst z;exact⟨hg,by obtain⟨u,hu⟩:=h.some;exact⟨u,hu,h.nt hu⟩⟩
  ·rw[if_neg z] at q1
   split at q1
   ·cases q1
   ·exact r.lg a l q1
 ·have q1:(s.env.set i (some (.ow c)))[j]? = some (some en):=q
  by_cases z:i=j
  ·subst z
   have hlt:i<s.env.length:=by
    have:=(List.getElem?_eq_some_iff.mp q1).1
    rw[List.length_set] at this;exact this
   rw[List.getElem?_set_self hlt] at q1
   cases q1
   exact⟨p,List.getElem?_set_self (by rw[r.len];exact hlt),h0,if_pos rfl,hc,cn h⟩
  ·rw[List.getElem?_set_ne z] at q1
   have hh:=r.slot j en q1
   cases en with
   | fz d'=>obtain⟨w,k1,k2⟩:=hh;exact⟨w,by rw[List.getElem?_set_ne z];exact k1,k2⟩
   | xn x=>exact q2m (S:=S) (n:=s.M.length) (H:=H) (fun _ _ e=>e) (fun _ _=>rfl) (Nat.le_refl _) (List.getElem?_set_ne z) hh
   | ow c' =>
    obtain⟨a,k1,k2,k3,k4,k5⟩:=hh
    exact⟨a,by rw[List.getElem?_set_ne z];exact k1,k2,lb k3 (fun w=>by cases w;exact z rfl),k4,cn k5⟩
 ·obtain⟨k1,k2⟩:=r.ids k c' q
  exact⟨lb k1 (fun w=>by cases w),cn k2⟩
theorem Stp.claim {S':Sh} {n n' i:Nat} {H':Hp} {p:Addr} (t:Stp S n H S' n' H') (hp:H p=none):Stp S n H (S'.cl i p) n' H' where
 g:=t.g
 le:=t.le
 al:=t.al
 fr:=fun a o h l=>by
  obtain⟨h1,h2⟩:=t.fr a o h l
  refine⟨h1,?_⟩
  show(if a=p then _ else if S'.lab a=some (.slot i) then none else S'.lab a)=none
  rw[if_neg (ne_of_none h hp)]
  split
  ·rfl
  ·exact h2
 gn:=t.gn
 fz:=t.fz
 dom:=t.dom
def asg (i:Nat) (a:AI):Ms:=fun s=>match a with
 | .val d=>.nx ⟨s.env.set i (some (.fz d)),s.M⟩
 | .new c=>.nx ⟨s.env.set i (some (.ow c)),s.M⟩
 | .slot j=>(toV (.slot j) s).toS fun d s1=>.nx ⟨s1.env.set i (some (.fz d)),s1.M⟩
def mAsg (i:Nat) (m:Mo AI):Ms:=fun s=>(m s).toS (asg i)
theorem q1y {i:Nat} {te:TE} {m:Mo AI} (h:Ei K ct H0 W te m):Sv K ct H0 W (tAsg te (gName i)) (mAsg i m):=fun S s σ H Dn rel p =>
  h S s σ H _ rel (PstS.bind p fun S1 s1 H1 x a st1 rel1 i1 p1=>by
    show Dn.nx (σ.set i (some x)) H1
    cases a with
    | val d=>exact p1 (S1.un i) _ H1 (st1.trans .un) (rel1.setFz i1)
    | new c =>
      obtain⟨q,rfl,h1,h2,h3,h4,h5⟩:=i1
      exact p1 (S1.cl i q) _ H1 (st1.claim h1) (rel1.setOw (rel.dom q h1) h2 h3 h4 h5)
    | slot j =>
      have hi:σ[j]? = some (some x):=i1
      have p1:PstS K ct H0 W S s H Dn ((match q2s s1 j with|some (.ow c)=>Ro.ok c.toD ⟨s1.env.set j (some (.fz c.toD)),s1.M⟩|some (.fz d)=>Ro.ok d s1|_=>Ro.no).toS fun d s1=>.nx ⟨s1.env.set i (some (.fz d)),s1.M⟩):=p1
      cases qe:q2s s1 j with
      | none=>rw[qe] at p1;exact False.elim p1
      | some en =>
        rw[qe] at p1
        cases en with
        | fz d =>
          obtain⟨v',k1,k2⟩:=rel1.slot j _ (q1t qe)
          rw[hi] at k1;cases k1
          exact p1 (S1.un i) _ H1 (st1.trans .un) (rel1.setFz k2)
        | xn x=>exact False.elim p1
        | ow c =>
          obtain⟨S2,v',k1,st2,rel2,k2⟩:=z2e rel1 (q1t qe)
          rw[hi] at k1;cases k1
          exact p1 (S2.un i) _ H1 ((st1.trans st2).trans .un) (rel2.setFz k2))
def ret (a:AI):Ms:=fun s=>match a with
 | .val d=>.rt (.val d) s
 | .new c=>.rt (.new c) s
 | .slot i=>match q2s s i with
  | some (.ow c)=>.rt (.new c) ⟨s.env.set i none,s.M⟩
  | some (.fz d)=>.rt (.val d) s
  | _=>.no
def mRet (m:Mo AI):Ms:=fun s=>(m s).toS ret
theorem q1o {te:TE} {m:Mo AI} (h:Ei K ct H0 W te m):Sv K ct H0 W (tRet te) (mRet m):=fun S s σ H Dn rel p =>
  h S s σ H _ rel (PstS.bind p fun S1 s1 H1 x a st1 rel1 i1 p1=>by
    cases a with
    | val d=>exact p1 S1 σ x H1 st1 rel1 i1
    | new c =>
      obtain⟨q,rfl,h1,h2,h3,h4,h5⟩:=i1
      exact p1 S1 σ _ H1 st1 rel1 ⟨q,rfl,rel.dom q h1,h2,h3,h4,h5⟩
    | slot j =>
      have hi:σ[j]? = some (some x):=i1
      have p1:PstS K ct H0 W S s H Dn (match q2s s1 j with|some (.ow c)=>.rt (.new c) ⟨s1.env.set j none,s1.M⟩|some (.fz d)=>.rt (.val d) s1|_=>.no):=p1
      cases qe:q2s s1 j with
      | none=>rw[qe] at p1;exact False.elim p1
      | some en =>
        rw[qe] at p1
        cases en with
        | fz d =>
          obtain⟨v',k1,k2⟩:=rel1.slot j _ (q1t qe)
          rw[hi] at k1;cases k1
          exact p1 S1 σ x H1 st1 rel1 k2
        | xn x=>exact False.elim p1
        | ow c =>
          obtain⟨q,k1,k2,k3,k4,k5⟩:=rel1.slot j _ (q1t qe)
          rw[hi] at k1;cases k1
          refine p1 (S1.un j) σ _ H1 (st1.trans .un) rel1.setN ⟨q,rfl,k2,?_,(rel1.lg q _ k3).1,k4,z1y k5⟩
          show(if S1.lab q=some (.slot j) then none else S1.lab q)=none
          rw[if_pos k3])
def w1x:Ms:=fun s=>.rt (.val .non) s
end
end Y
namespace Y
open PySem L2 Z
abbrev Tg:=D→Stt→Option Stt
abbrev Tgs:=List D→Stt→Option Stt
/-- what of the slots is left when some are wiped -/
def Keeps (js:List Nat) (σ σ':St):Prop:=∀ws:List Nat,(∀j∈js,j∈ws)→wipe σ' ws=wipe σ ws
theorem q8a {σ:St} {i:Nat}:∀{vs:List Nat},i∈vs→i<σ.length→(wipe σ vs)[i]? = some none
 | v::vs,h,hl=>by
  show((wipe σ vs).set v none)[i]? = _
  by_cases e:v=i
  ·subst e;rw[List.getElem?_set_self (by rw[wipe_length];exact hl)]
  ·rw[List.getElem?_set_ne e]
   rcases List.mem_cons.mp h with z|z
   ·exact absurd z.symm e
   ·exact q8a z hl
theorem z5s {σ:St} {i:Nat} {x:Option V}:Keeps [i] σ (σ.set i x):=fun ws h=>by
 refine List.ext_getElem? fun k=>?_
 by_cases hk:k∈ws
 ·by_cases hl:k<σ.length
  ·rw[q8a hk (by rw[List.length_set];exact hl),q8a hk hl]
  ·rw[List.getElem?_eq_none_iff.mpr (by rw[wipe_length,List.length_set];omega),List.getElem?_eq_none_iff.mpr (by rw[wipe_length];omega)]
 ·rw[wipe_out hk,wipe_out hk]
  have:i≠k:=fun z=>hk (z▸h i (by simp))
  rw[List.getElem?_set_ne this]
theorem z3k {σ:St} {js:List Nat}:Keeps js σ σ:=fun _ _=>rfl
theorem Keeps.trans {σ σ1 σ2:St} {js ks:List Nat} (a:Keeps js σ σ1) (b:Keeps ks σ1 σ2):Keeps (js++ks) σ σ2:=fun ws h=>(b ws fun j hj=>h j (by simp[hj])).trans (a ws fun j hj=>h j (by simp[hj]))
section
variable {K:PySem.W.Frag} {ct:Ct} {H0:Hp} {W:WX} {S:Sh} {s:Stt} {σ:St} {H:Hp}
def Sg (K:PySem.W.Frag) (ct:Ct) (H0:Hp) (js:List Nat) (g:TG) (f:Tg):Prop:=∀S s σ H v d s' (Q:St→Hp→Prop),Rel K ct H0 S s σ H→Rp K S.G S.α s.M.length v d→f d s=some s' →
 (∀S' σ',Stp S s.M.length H S' s'.M.length H→Rel K ct H0 S' s' σ' H→Keeps js σ σ'→S'.G=S.G→S'.α=S.α→Q σ' H)→g v σ H Q
def Sgs (K:PySem.W.Frag) (ct:Ct) (H0:Hp) (js:List Nat) (g:TGs) (f:Tgs):Prop:=∀S s σ H vs ds s' (Q:St→Hp→Prop),Rel K ct H0 S s σ H→RpL K S.G S.α s.M.length vs ds→f ds s=some s' →
 (∀S' σ',Stp S s.M.length H S' s'.M.length H→Rel K ct H0 S' s' σ' H→Keeps js σ σ'→S'.G=S.G→S'.α=S.α→Q σ' H)→g vs σ H Q
def tgN (i:Nat):Tg:=fun d s=>some ⟨s.env.set i (some (.fz d)),s.M⟩
theorem q0x {i:Nat}:Sg K ct H0 [i] (gName i) (tgN i):=fun S s σ H v d s' Q rel r e q=>by
 cases e
 exact q (S.un i) _ .un (rel.setFz r) z5s rfl rfl
def q8o:Tgs:=fun ds s=>match ds with
 | []=>some s
 | _=>none
def q3g (f:Tg) (r:Tgs):Tgs:=fun ds s=>match ds with
 | []=>none
 | d::ds=>(f d s).bind fun s1=>r ds s1
def tgT (n:Nat) (f:Tgs):Tg:=fun d s=>match q9j d with
 | some l=>if l.length=n then f l s else none
 | none=>none
theorem q4o:Sgs K ct H0 [] gNil q8o:=fun S s σ H vs ds s' Q rel r e q=>by
 cases r with
 | nil=>cases e;exact⟨rfl,q S σ .refl rel z3k rfl rfl⟩
 | cons a b=>cases e
theorem q1u {js ks:List Nat} {g:TG} {gs:TGs} {f:Tg} {r:Tgs} (h1:Sg K ct H0 js g f) (h2:Sgs K ct H0 ks gs r):Sgs K ct H0 (js++ks) (gCons g gs) (q3g f r):=fun S s σ H vs ds s' Q rel rr e q=>by
 cases rr with
 | nil=>cases e
 | cons a b =>
  obtain⟨s1,e1,e2⟩:=Option.bind_eq_some_iff.mp e
  refine⟨_,_,rfl,h1 S s σ H _ _ s1 _ rel a e1 fun S1 σ1 st1 rel1 k1 g1 a1=>?_⟩
  exact h2 S1 s1 σ1 H _ _ s' _ rel1 (b.step st1) e2 fun S2 σ2 st2 rel2 k2 g2 a2=>q S2 σ2 (st1.trans st2) rel2 (k1.trans k2) (g2.trans g1) (a2.trans a1)
theorem q7a {js:List Nat} {n:Nat} {gs:TGs} {f:Tgs} (h:Sgs K ct H0 js gs f):Sg K ct H0 js (gTup K n gs) (tgT n f):=fun S s σ H v d s' Q rel r e q=>by
 unfold tgT at e
 split at e
 ·rename_i l el
  split at e
  ·rename_i hl
   obtain⟨p,vs,rfl,k1,k2⟩:=z2v (Hs:=H) (a:=.val d) (v:=v) rel r (by unfold z0v look;exact el)
   exact⟨p,vs,rfl,k1,by rw[k2.length];exact hl,h S s σ H vs l s' Q rel k2 e q⟩
  ·cases e
 ·cases e
def j1k (g:Tg) (m:Mo AI):Ms:=fun s=>(mV m s).toS fun d s1=>match g d s1 with
 | some s2=>.nx s2
 | none=>.no
structure Im where
 xs:List D
 ck:Option (Nat×Cn)
def chk:Option (Nat×Cn)→Stt→Prop
 | none,_=>True
 | some (k,c),s=>s.M[k]? = some c
def Wk (K:PySem.W.Frag) (ct:Ct) (H0:Hp) (S:Sh) (n:Nat) (H:Hp) (J:It) (im:Im):Prop:=∀S1 s1 σ1 H1,Stp S n H S1 s1.M.length H1→Rel K ct H0 S1 s1 σ1 H1→chk im.ck s1 →
 (∀i d,im.xs[i]? = some d→J.go i H1∧∀x H2,J.yld i H1 x H2→∃S2,Stp S1 s1.M.length H1 S2 s1.M.length H2∧Rel K ct H0 S2 s1 σ1 H2∧Rp K S2.G S2.α s1.M.length x d)∧J.stop im.xs.length H1
def RW (K:PySem.W.Frag) (ct:Ct) (H0:Hp):RR It Im:=fun _ S s _ H J im=>Wk K ct H0 S s.M.length H J im
abbrev Jw (K:PySem.W.Frag) (ct:Ct) (H0:Hp) (W:WX) (wi:TI) (m:Mo Im):Prop:=Jd K ct H0 (RW K ct H0) W wi m
theorem bW:Bck (RW K ct H0):=fun _ _ _ _ _ _ _ _ _ h=>h
def rng (lo:Int) (n:Nat):List D:=(List.range n).map fun i=>.int (lo+(i:Nat))
theorem z8u {lo:Int} {n m:Nat}:Wk K ct H0 S m H (Itr lo n) ⟨rng lo n,none⟩:=fun S1 s1 σ1 H1 st rel _=>by
 refine⟨fun i d e=>?_,?_⟩
 ·unfold rng at e
  rw[List.getElem?_map] at e
  obtain⟨j,e1,rfl⟩:=Option.map_eq_some_iff.mp e
  have hj:=(List.getElem?_eq_some_iff.mp e1)
  obtain⟨hlt,ej⟩:=hj
  rw[List.getElem_range] at ej
  rw[List.length_range] at hlt
  subst ej
  refine⟨hlt,fun x H2 h=>?_⟩
  obtain⟨rfl,rfl⟩:=h
  exact⟨S1,.refl,rel,.int _⟩
 ·show n≤(rng lo n).length
  unfold rng;rw[List.length_map,List.length_range];exact Nat.le_refl _
/-- the bounds of a range; decided classically, or whnf runs 2 ^ 62 in unary -/
def CRg1 (n:Int):Prop:=-(2^62)≤n∧n<2^62
def CRg2 (i j:Int):Prop:=-(2^62)≤i∧i<2^62∧-(2^62)≤j∧j<2^62
open Classical in
noncomputable def z0s (m:Mo (List AI)):Mo Im:=fun s=>(m s).bind fun as s1=>match as with
 | [.val (.int n)]=>if CRg1 n then .ok ⟨rng 0 n.toNat,none⟩ s1 else .no
 | _=>.no
theorem q6s {ta:TA} {m:Mo (List AI)} (h:EaL K ct H0 W ta m):Jw K ct H0 W (iRng1 ta) (z0s m):=fun S s σ H Q rel p =>
  h S s σ H _ rel (Pst.bind bW p fun S1 s1 H1 x a st1 rel1 i1 p1=>by
    split at p1
    · rename_i n
      obtain⟨v,rfl,k⟩:=as1 i1
      cases q2c k
      split at p1
      · rename_i hz
        exact⟨n,rfl,hz.1,hz.2,p1 S1 _ H1 .refl rel1 z8u⟩
      · exact False.elim p1
    · exact False.elim p1)
open Classical in
noncomputable def w1k (m:Mo (List AI)):Mo Im:=fun s=>(m s).bind fun as s1=>match as with
 | [.val (.int i),.val (.int j)]=>if CRg2 i j then .ok ⟨rng i (j-i).toNat,none⟩ s1 else .no
 | _=>.no
def rngC (lo c:Int) (n:Nat):List D:=(List.range n).map fun i=>.int (lo+((i:Nat):Int)*c)
theorem j0k {lo c:Int} {n m:Nat}:Wk K ct H0 S m H (Itc lo c n) ⟨rngC lo c n,none⟩:=fun S1 s1 σ1 H1 st rel _=>by
 refine⟨fun i d e=>?_,?_⟩
 ·unfold rngC at e
  rw[List.getElem?_map] at e
  obtain⟨j,e1,rfl⟩:=Option.map_eq_some_iff.mp e
  obtain⟨hlt,ej⟩:=List.getElem?_eq_some_iff.mp e1
  rw[List.getElem_range] at ej
  rw[List.length_range] at hlt
  subst ej
  refine⟨hlt,fun x H2 h=>?_⟩
  obtain⟨rfl,rfl⟩:=h
  exact⟨S1,.refl,rel,.int _⟩
 ·show n≤(rngC lo c n).length
  unfold rngC;rw[List.length_map,List.length_range];exact Nat.le_refl _
open Classical in
noncomputable def j1v (m:Mo (List AI)):Mo Im:=fun s=>(m s).bind fun as s1=>match as with
 | [.val (.int i),.val (.int j),.val (.int c)]=>if RgC i j c (Builtin.Range.rangeSize i j c).toNat then .ok ⟨rngC i c (Builtin.Range.rangeSize i j c).toNat,none⟩ s1 else .no
 | _=>.no
theorem as3 {Hs:Hp} {vs:List V} {a b c:AI} (h:AsOk K ct Hs S s σ H vs [a,b,c]):∃v w u,vs=[v,w,u]∧ItOk K ct Hs S s σ H v a∧ItOk K ct Hs S s σ H w b∧ItOk K ct Hs S s σ H u c:=by
 cases h with|cons i r=>cases r with|cons j r=>cases r with|cons k r=>cases r;exact⟨_,_,_,rfl,i,j,k⟩
theorem j1j {ta:TA} {m:Mo (List AI)} (h:EaL K ct H0 W ta m):Jw K ct H0 W (iRng3 ta) (j1v m):=fun S s σ H Q rel p =>
  h S s σ H _ rel (Pst.bind bW p fun S1 s1 H1 x a st1 rel1 i1 p1=>by
    split at p1
    · rename_i i j c
      obtain⟨v,w,u,rfl,k1,k2,k3⟩:=as3 i1
      cases q2c k1;cases q2c k2;cases q2c k3
      split at p1
      · rename_i hz
        exact⟨i,j,c,_,rfl,hz,p1 S1 _ H1 .refl rel1 j0k⟩
      · exact False.elim p1
    · exact False.elim p1)
/-- a list's value, walked -/
def ckOf:D→List D→Option (Nat×Cn)
 | .cid k,l=>some (k,.lst l)
 | _,_=>none
theorem z5y {v:V} {d:D} {l:List D} {n:Nat} (rel:Rel K ct H0 S s σ H) (r:Rp K S.G S.α s.M.length v d) (e:q4g s.M d=some l):∃p,v = .ref p∧∀S1 s1 σ1 H1,Stp S s.M.length H S1 s1.M.length H1→Rel K ct H0 S1 s1 σ1 H1→chk (ckOf d l) s1 →
  ∃vs,SqL K H1 p vs∧RpL K S1.G S1.α s1.M.length vs l:=by
 cases d with
 | lst l'=>cases e;cases r with|lst h1 h2=>exact⟨_,rfl,fun S1 s1 σ1 H1 st rel1 _=>⟨_,.of (uL' (rel1.sub _ _ (st.g _ _ h1))),h2.step st⟩⟩
 | clst l'=>cases e;cases r with|clst h1 h2=>exact⟨_,rfl,fun S1 s1 σ1 H1 st rel1 _=>⟨_,uSqL (rel1.sub.seq (st.g.seq h1)),h2.step st⟩⟩
 | cid k =>
  cases r with
  | cid hk =>
   refine⟨_,rfl,fun S1 s1 σ1 H1 st rel1 c=>?_⟩
   have c1:s1.M[k]? = some (.lst l):=c
   obtain⟨vs,h1,h2⟩:=(rel1.ids k _ c1).2
   rw[st.al k hk] at h1
   exact⟨vs,.of h1,h2⟩
 | _=>cases e
def mWL (m:Mo AI):Mo Im:=fun s=>(mV m s).bind fun d s1=>match q4g s1.M d with
 | some l=>.ok ⟨l,ckOf d l⟩ s1
 | none=>.no
theorem z0c {te:TE} {m:Mo AI} (h:Ei K ct H0 W te m):Jw K ct H0 W (iList K te) (mWL m):=fun S s σ H Q rel p =>
 q4k h S s σ H _ rel (Pst.bind bW p fun S1 s1 H1 x a st1 rel1 i1 p1=>by
  split at p1
  ·rename_i l e
   have i1':Rp K S1.G S1.α s1.M.length x a:=i1
   have hv:q1v s1 (.val a)=some l:=e
   obtain⟨q0,vs0,e0,k1,_⟩:=q2f (Hs:=H) (a:=.val a) rel1 i1' hv
   obtain⟨q,rfl,k⟩:=z5y (n:=0) rel1 i1' e
   have e1:q0=q:=by injection e0 with h;exact h.symm
   rw[e1] at k1
   refine⟨q,rfl,⟨vs0,k1⟩,p1 S1 _ H1 .refl rel1 fun S2 s2 σ2 H2 st2 rel2 c=>?_⟩
   obtain⟨vs,h1,h2⟩:=k S2 s2 σ2 H2 st2 rel2 c
   refine⟨fun i d e=>?_,⟨vs,h1,by rw[h2.length];exact Nat.le_refl _⟩⟩
   obtain⟨v,e1,e2⟩:=h2.get e
   refine⟨⟨vs,v,h1,e1⟩,fun x H3 hy=>?_⟩
   obtain⟨rfl,hy⟩:=hy
   have:=hy vs h1
   rw[e1] at this;cases this
   exact⟨S2,.refl,rel2,e2⟩
  ·exact False.elim p1)
def mWT (m:Mo AI):Mo Im:=fun s=>(mV m s).bind fun d s1=>match q9j d with
 | some l=>.ok ⟨l,none⟩ s1
 | none=>.no
theorem j0h {te:TE} {m:Mo AI} (h:Ei K ct H0 W te m):Jw K ct H0 W (iTup K te) (mWT m):=fun S s σ H Q rel p =>
 q4k h S s σ H _ rel (Pst.bind bW p fun S1 s1 H1 x a st1 rel1 i1 p1=>by
  split at p1
  ·rename_i l e
   have i1':Rp K S1.G S1.α s1.M.length x a:=i1
   have key:∃q vs,x = .ref q∧SqT K S1.G q vs∧RpL K S1.G S1.α s1.M.length vs l:=by
    cases a with
    | tup l'=>cases e;cases i1' with|tup h1 h2=>exact⟨_,_,rfl,.of h1,h2⟩
    | ctp l'=>cases e;cases i1' with|ctp h1 h2=>exact⟨_,_,rfl,h1,h2⟩
    | _=>cases e
   obtain⟨q,vs,rfl,k1,k2⟩:=key
   refine⟨q,rfl,⟨vs,uSqT (q7w rel1.sub k1)⟩,p1 S1 _ H1 .refl rel1 fun S2 s2 σ2 H2 st2 rel2 c=>?_⟩
   have h1:=uSqT (q7w rel2.sub (q7w st2.g k1))
   have h2:=k2.step st2
   refine⟨fun i d e=>?_,⟨vs,h1,by rw[h2.length];exact Nat.le_refl _⟩⟩
   obtain⟨v,e1,e2⟩:=h2.get e
   refine⟨⟨vs,v,h1,e1⟩,fun x H3 hy=>?_⟩
   obtain⟨rfl,hy⟩:=hy
   have:=hy vs h1
   rw[e1] at this;cases this
   exact⟨S2,.refl,rel2,e2⟩
  ·exact False.elim p1)
def q7x (l:List D):List D:=l.zipIdx.map fun p=>.tup [.int ((p.2:Nat):Int),p.1]
def mWE (m:Mo (List D)):Mo Im:=fun s=>(m s).bind fun ds s1=>match ds with
 | [d]=>match q4g s1.M d with
  | some l=>.ok ⟨q7x l,ckOf d l⟩ s1
  | none=>.no
 | _=>.no
/-- a pair made by an iterator -/
theorem q9q {vs:List V} {l:List D} {q:Addr} (rel:Rel K ct H0 S s σ H) (hp:H q=none) (h:RpL K S.G S.α s.M.length vs l):∃S2,Stp S s.M.length H S2 s.M.length (upd H q (.tup vs))∧Rel K ct H0 S2 s σ (upd H q (.tup vs))∧Rp K S2.G S2.α s.M.length (.ref q) (.tup l):=by
 have hg:=rel.gN hp
 refine⟨S.frz q (.tup vs),(Stp.new rel hp).frzNew hp hg,(rel.new hp).frz (uP upd_same) (rel.labN hp) hg,?_⟩
 exact .tup upd_same (h.mono (fun a u e=>by show upd S.G q _ a=_;rw[upd_ne (ne_of_none e hg)];exact e) (fun _ _=>rfl) (Nat.le_refl _))
theorem q9f {ta:TA} {m:Mo (List D)} (h:EvL K ct H0 W ta m):Jw K ct H0 W (iEnum K ta) (mWE m):=fun S s σ H Q rel p =>
  h S s σ H _ rel (Pst.bind bW p fun S1 s1 H1 x a st1 rel1 i1 p1=>by
    split at p1
    · rename_i d
      split at p1
      · rename_i l e
        cases i1 with
        | cons i1' r =>
          cases r
          have hv:q1v s1 (.val d)=some l:=e
          obtain⟨q0,vs0,e0,k1,_⟩:=q2f (Hs:=H) (a:=.val d) rel1 i1' hv
          obtain⟨q,rfl,k⟩:=z5y (n:=0) rel1 i1' e
          have e1:q0=q:=by injection e0 with h;exact h.symm
          rw[e1] at k1
          refine⟨q,vs0,rfl,k1,p1 S1 _ H1 .refl rel1 fun S2 s2 σ2 H2 st2 rel2 c=>?_⟩
          obtain⟨vs,h1,h2⟩:=k S2 s2 σ2 H2 st2 rel2 c
          refine⟨fun i d e=>?_,⟨vs,h1,by rw[h2.length];show _≤(q7x l).length;unfold q7x;rw[List.length_map,List.length_zipIdx];exact Nat.le_refl _⟩⟩
          have e':((l.zipIdx).map fun p=>D.tup [.int ((p.2:Nat):Int),p.1])[i]? = some d:=e
          rw[List.getElem?_map,List.getElem?_zipIdx] at e'
          obtain⟨pr,e2,rfl⟩:=Option.map_eq_some_iff.mp e'
          obtain⟨y,e3,rfl⟩:=Option.map_eq_some_iff.mp e2
          obtain⟨v,e4,e5⟩:=h2.get e3
          refine⟨⟨vs,v,h1,e4⟩,fun x H3 hy=>?_⟩
          obtain⟨T,x0,rfl,hT,rfl,hx⟩:=hy
          have:=hx vs h1
          rw[e4] at this;cases this
          rw[Nat.zero_add]
          exact q9q rel2 hT (.cons (.int _) (.cons e5 .nil))
      · exact False.elim p1
    · exact False.elim p1)
def zipL (l l':List D):List D:=(l.zip l').map fun p=>.tup [p.1,p.2]
/-- only what is frozen is walked two by two -/
def mWZ (m:Mo (List D)):Mo Im:=fun s=>(m s).bind fun ds s1=>match ds with
 | [.lst l,.lst l']=>.ok ⟨zipL l l',none⟩ s1
 | [.lst l,.clst l']=>.ok ⟨zipL l l',none⟩ s1
 | [.clst l,.lst l']=>.ok ⟨zipL l l',none⟩ s1
 | _=>.no
theorem j8b {ta:TA} {m:Mo (List D)} (h:EvL K ct H0 W ta m):Jw K ct H0 W (iZip K ta) (mWZ m):=fun S s σ H Q rel p=>by
 have key:∀{S1:Sh} {s1:Stt} {H1:Hp} {x:List V} {d d':D} {l l':List D},Rel K ct H0 S1 s1 σ H1→RpL K S1.G S1.α s1.M.length x [d,d']→(d = .lst l∨d = .clst l)→(d' = .lst l'∨d' = .clst l')→∃q q' us us',x=[.ref q,.ref q']∧SqL K S1.G q us∧SqL K S1.G q' us'∧RpL K S1.G S1.α s1.M.length us l∧RpL K S1.G S1.α s1.M.length us' l':=by
  intro S1 s1 H1 x d d' l l' rel1 r e e'
  cases r with
  | cons a r =>
   cases r with
   | cons b r =>
    cases r
    have f:∀{d:D} {l:List D} {v:V},Rp K S1.G S1.α s1.M.length v d→(d = .lst l∨d = .clst l)→∃q us,v = .ref q∧SqL K S1.G q us∧RpL K S1.G S1.α s1.M.length us l:=by
     intro d l v a e
     rcases e with rfl|rfl
     ·cases a with|lst h1 h2=>exact⟨_,_,rfl,.of h1,h2⟩
     ·cases a with|clst h1 h2=>exact⟨_,_,rfl,h1,h2⟩
    obtain⟨q,us,rfl,k1,k2⟩:=f a e
    obtain⟨q',us',rfl,k1',k2'⟩:=f b e'
    exact⟨q,q',us,us',rfl,k1,k1',k2,k2'⟩
 refine h S s σ H _ rel (Pst.bind bW p fun S1 s1 H1 x a st1 rel1 i1 p1=>?_)
 have fin:∀{d d':D} {l l':List D},a=[d,d']→(d = .lst l∨d = .clst l)→(d' = .lst l'∨d' = .clst l')→Pst K ct H0 (RW K ct H0) W S1 s1 σ H1 Q (.ok ⟨zipL l l',none⟩ s1)→∃a b xs ys,x=[.ref a,.ref b]∧SqL K H1 a xs∧SqL K H1 b ys∧Q (Itz K a b) H1:=by
  intro d d' l l' ea e e' pp
  rw[ea] at i1
  obtain⟨q,q',us,us',rfl,k1,k1',k2,k2'⟩:=key rel1 i1 e e'
  refine⟨q,q',us,us',rfl,uSqL (rel1.sub.seq k1),uSqL (rel1.sub.seq k1'),pp S1 _ H1 .refl rel1 fun S2 s2 σ2 H2 st2 rel2 c=>?_⟩
  have h1:=uSqL (rel2.sub.seq (st2.g.seq k1))
  have h1':=uSqL (rel2.sub.seq (st2.g.seq k1'))
  have h2:=k2.step st2
  have h2':=k2'.step st2
  refine⟨fun i d e=>?_,⟨us,us',h1,h1',?_⟩⟩
  ·have e0:((l.zip l').map fun p=>D.tup [p.1,p.2])[i]? = some d:=e
   rw[List.getElem?_map] at e0
   obtain⟨pr,e2,rfl⟩:=Option.map_eq_some_iff.mp e0
   obtain⟨e3,e4⟩:=List.getElem?_zip_eq_some.mp e2
   obtain⟨v,f1,f2⟩:=h2.get e3
   obtain⟨v',f1',f2'⟩:=h2'.get e4
   refine⟨⟨us,us',v,v',h1,h1',f1,f1'⟩,fun x H3 hy=>?_⟩
   obtain⟨T,y,y',rfl,hT,rfl,hx,hx'⟩:=hy
   have g1:=hx us h1
   have g2:=hx' us' h1'
   rw[f1] at g1;cases g1
   rw[f1'] at g2;cases g2
   exact q9q rel2 hT (.cons f2 (.cons f2' .nil))
  ·show us.length≤(zipL l l').length∨us'.length≤(zipL l l').length
   unfold zipL
   rw[List.length_map,List.length_zip,h2.length,h2'.length]
   omega
 split at p1
 ·exact fin rfl (.inl rfl) (.inl rfl) p1
 ·exact fin rfl (.inl rfl) (.inr rfl) p1
 ·exact fin rfl (.inr rfl) (.inl rfl) p1
 ·exact False.elim p1
def strL (x:Str):List D:=x.cps.toList.map fun c=>.str ⟨#[c]⟩
def mWS (m:Mo AI):Mo Im:=fun s=>(m s).bind fun a s1=>match a with
 | .val (.str x)=>.ok ⟨strL x,none⟩ s1
 | _=>.no
open Classical in
noncomputable def forN (g:Tg) (b:Ms) (ck:Option (Nat×Cn)):List D→Ms
 | [],s=>if chk ck s then .nx s else .no
 | x::xs,s=>if chk ck s then(match g x s with
  | none=>.no
  | some s1=>match b s1 with
   | .nx s2=>forN g b ck xs s2
   | .ct s2=>forN g b ck xs s2
   | .bk s2=>.nx s2
   | .rt a s2=>.rt a s2
   | .er x s2=>.er x s2
   | .no=>.no) else .no
noncomputable def mFor (mi:Mo Im) (g:Tg) (b:Ms):Ms:=fun s=>(mi s).toS fun im s1=>forN g b im.ck im.xs s1
theorem q6l {js:List Nat} {wi:TI} {g:TG} {tb:TS} {mi:Mo Im} {f:Tg} {b:Ms} (hi:Jw K ct H0 W wi mi) (hg:Sg K ct H0 js g f) (hb:Sv K ct H0 W tb b):Sv K ct H0 W (tFor wi g tb) (mFor mi f b):=fun S s σ H Dn rel p =>
 hi S s σ H _ rel (PstS.bind p fun S1 s1 H1 J im st1 rel1 wk p1=>by
  have p1:=PstS.from p1 st1
  generalize hR:forN f b im.ck im.xs s1=R at p1
  refine⟨fun i m σ' H'=>m=im.xs.length-i∧∃S' s',Stp S1 s1.M.length H1 S' s'.M.length H'∧Rel K ct H0 S' s' σ' H'∧i≤im.xs.length∧forN f b im.ck (im.xs.drop i) s'=R,⟨im.xs.length,rfl,S1,s1,.refl,rel1,Nat.zero_le _,hR⟩,?_⟩
  rintro i m σ' H' ⟨rfl,S',s',st',rel',hi',hr⟩
  have nno:R≠.no:=fun z=>by rw[z] at p1;exact p1
  by_cases hlt:i<im.xs.length
  ·have e:=List.drop_eq_getElem_cons hlt
   rw[e] at hr
   have hx:im.xs[i]? = some im.xs[i]:=List.getElem?_eq_getElem hlt
   generalize im.xs[i]=d at e hr hx
   unfold forN at hr
   have hc:chk im.ck s':=Classical.byContradiction fun z=>by rw[if_neg z] at hr;exact nno hr.symm
   rw[if_pos hc] at hr
   obtain⟨go,yl⟩:=(wk S' s' σ' H' st' rel' hc).1 i d hx
   refine .inr ⟨go,fun σ2 H2=>∃S2 s2,Stp S1 s1.M.length H1 S2 s2.M.length H2∧Rel K ct H0 S2 s2 σ2 H2∧forN f b im.ck (im.xs.drop (i+1)) s2=R,?_,?_⟩
   ·rintro σ2 H2 ⟨S2,s2,k1,k2,k3⟩
    exact⟨im.xs.length-(i+1),by omega,rfl,S2,s2,k1,k2,hlt,k3⟩
   ·intro x H2 hy
    obtain⟨S2,st2,rel2,rp2⟩:=yl x H2 hy
    cases hs:f d s' with
    | none=>rw[hs] at hr;exact absurd hr.symm nno
    | some s2 =>
     rw[hs] at hr
     refine hg S2 s' σ' H2 x d s2 _ rel2 rp2 hs fun S3 σ3 st3 rel3 _ _ _=>?_
     have stt:=(st'.trans st2).trans st3
     refine hb S3 s2 σ3 H2 _ rel3 ?_
     have hr:(match b s2 with|.nx s2=>forN f b im.ck (im.xs.drop (i+1)) s2|.ct s2=>forN f b im.ck (im.xs.drop (i+1)) s2|.bk s2=>.nx s2|.rt a s2=>.rt a s2|.er x s2=>.er x s2|.no=>.no)=R:=hr
     cases hbs:b s2 with
     | nx s4=>rw[hbs] at hr;exact fun S4 σ4 H4 st4 rel4=>⟨S4,s4,stt.trans st4,rel4,hr⟩
     | ct s4=>rw[hbs] at hr;exact fun S4 σ4 H4 st4 rel4=>⟨S4,s4,stt.trans st4,rel4,hr⟩
     | bk s4=>rw[hbs] at hr;subst hr;exact fun S4 σ4 H4 st4 rel4=>p1 S4 σ4 H4 (stt.trans st4) rel4
     | rt a s4=>rw[hbs] at hr;subst hr;exact fun S4 σ4 v H4 st4 rel4 q=>p1 S4 σ4 v H4 (stt.trans st4) rel4 q
     | er x s4=>rw[hbs] at hr;subst hr;exact fun S4 σ4 H4 dd st4 rel4 q=>p1 S4 σ4 H4 dd (stt.trans st4) rel4 q
     | no=>rw[hbs] at hr;exact absurd hr.symm nno
  ·have e:im.xs.drop i=[]:=List.drop_eq_nil_of_le (by omega)
   rw[e] at hr
   unfold forN at hr
   have hc:chk im.ck s':=Classical.byContradiction fun z=>by rw[if_neg z] at hr;exact nno hr.symm
   rw[if_pos hc] at hr
   have ei:i=im.xs.length:=by omega
   subst hr
   refine .inl ⟨?_,p1 S' σ' H' st' rel'⟩
   rw[ei]
   exact(wk S' s' σ' H' st' rel' hc).2)
def whN (c:Mo Bool) (b:Ms):Nat→Ms
 | 0,_=>.no
 | n+1,s=>(c s).toS fun k s1=>if k=true then(match b s1 with
  | .nx s2=>whN c b n s2
  | .ct s2=>whN c b n s2
  | .bk s2=>.nx s2
  | .rt a s2=>.rt a s2
  | .er x s2=>.er x s2
  | .no=>.no) else .nx s1
theorem q9w {c:Mo Bool} {b:Ms}:∀{n:Nat} {s:Stt} {r:Rs},whN c b n s=r→r≠.no→whN c b (n+1) s=r
 | 0,s,r,h,nr=>absurd h.symm nr
 | n+1,s,r,h,nr=>by
  unfold whN at h ⊢
  cases hc:c s with
  | no=>rw[hc] at h;exact absurd h.symm nr
  | er x s1=>rw[hc] at h;exact h
  | ok k s1 =>
   rw[hc] at h
   have h:(if k=true then(match b s1 with|.nx s2=>whN c b n s2|.ct s2=>whN c b n s2|.bk s2=>.nx s2|.rt a s2=>.rt a s2|.er x s2=>.er x s2|.no=>.no) else Rs.nx s1)=r:=h
   show(if k=true then(match b s1 with|.nx s2=>whN c b (n+1) s2|.ct s2=>whN c b (n+1) s2|.bk s2=>.nx s2|.rt a s2=>.rt a s2|.er x s2=>.er x s2|.no=>.no) else Rs.nx s1)=r
   cases k with
   | false=>rw[if_neg Bool.false_ne_true] at h ⊢;exact h
   | true =>
    rw[if_pos rfl] at h ⊢
    cases hb:b s1 with
    | nx s2=>rw[hb] at h;exact q9w h nr
    | ct s2=>rw[hb] at h;exact q9w h nr
    | bk s2=>rw[hb] at h;exact h
    | rt a s2=>rw[hb] at h;exact h
    | er x s2=>rw[hb] at h;exact h
    | no=>rw[hb] at h;exact h
theorem z9l {c:Mo Bool} {b:Ms} {n m:Nat} {s:Stt} {r:Rs} (h:whN c b n s=r) (nr:r≠.no) (hl:n≤m):whN c b m s=r:=by
 obtain⟨d,rfl⟩:=Nat.exists_eq_add_of_le hl
 induction d with
 | zero=>exact h
 | succ d ih=>exact q9w (ih (by omega)) nr
open Classical in
noncomputable def mWh (c:Mo Bool) (b:Ms):Ms:=fun s=>if h:∃n,whN c b n s≠.no then whN c b (Classical.choose h) s else .no
theorem j7a {c:Mo Bool} {b:Ms} {n:Nat} {s:Stt} {r:Rs} (h:whN c b n s=r) (nr:r≠.no):mWh c b s=r:=by
 have e:∃n,whN c b n s≠.no:=⟨n,by rw[h];exact nr⟩
 unfold mWh
 rw[dif_pos e]
 have k:=Classical.choose_spec e
 rcases Nat.le_total n (Classical.choose e) with l|l
 ·exact z9l h nr l
 ·rw[←h];exact(z9l rfl k l).symm
theorem z7l {c:TT} {tb:TS} {mc:Mo Bool} {b:Ms} (hc:Et K ct H0 W c mc) (hb:Sv K ct H0 W tb b):Sv K ct H0 W (tWhile c tb) (mWh mc b):=fun S s σ H Dn rel p=>by
 unfold mWh at p
 split at p
 ·rename_i h
  have nno:=Classical.choose_spec h
  generalize hR:whN mc b (Classical.choose h) s=R at p nno
  refine⟨fun m σ' H'=>∃S' s',Stp S s.M.length H S' s'.M.length H'∧Rel K ct H0 S' s' σ' H'∧whN mc b m s'=R,⟨_,S,s,.refl,rel,hR⟩,?_⟩
  rintro m σ' H' ⟨S',s',st',rel',hr⟩
  cases m with
  | zero=>exact absurd hr.symm nno
  | succ m =>
   unfold whN at hr
   refine hc S' s' σ' H' _ rel' ?_
   cases hcs:mc s' with
   | no=>rw[hcs] at hr;exact absurd hr.symm nno
   | er x s1=>rw[hcs] at hr;have hr:Rs.er x s1=R:=hr;subst hr;exact fun S1 H1 dd st1 rel1 q=>p S1 σ' H1 dd (st'.trans st1) rel1 q
   | ok k s1 =>
    rw[hcs] at hr
    intro S1 k' H1 st1 rel1 ek
    have ek:k'=k:=ek
    rw[ek]
    clear ek
    have hr:(if k=true then(match b s1 with|.nx s2=>whN mc b m s2|.ct s2=>whN mc b m s2|.bk s2=>.nx s2|.rt a s2=>.rt a s2|.er x s2=>.er x s2|.no=>.no) else Rs.nx s1)=R:=hr
    cases k with
    | false=>rw[if_neg Bool.false_ne_true] at hr ⊢;subst hr;exact p S1 σ' H1 (st'.trans st1) rel1
    | true =>
     rw[if_pos rfl] at hr ⊢
     refine⟨fun σ2 H2=>∃S2 s2,Stp S s.M.length H S2 s2.M.length H2∧Rel K ct H0 S2 s2 σ2 H2∧whN mc b m s2=R,fun σ2 H2 ⟨S2,s2,k1,k2,k3⟩=>⟨m,Nat.lt_succ_self m,S2,s2,k1,k2,k3⟩,?_⟩
     have stt:=st'.trans st1
     refine hb S1 s1 σ' H1 _ rel1 ?_
     cases hbs:b s1 with
     | nx s4=>rw[hbs] at hr;exact fun S4 σ4 H4 st4 rel4=>⟨S4,s4,stt.trans st4,rel4,hr⟩
     | ct s4=>rw[hbs] at hr;exact fun S4 σ4 H4 st4 rel4=>⟨S4,s4,stt.trans st4,rel4,hr⟩
     | bk s4=>rw[hbs] at hr;subst hr;exact fun S4 σ4 H4 st4 rel4=>p S4 σ4 H4 (stt.trans st4) rel4
     | rt a s4=>rw[hbs] at hr;subst hr;exact fun S4 σ4 v H4 st4 rel4 q=>p S4 σ4 v H4 (stt.trans st4) rel4 q
     | er x s4=>rw[hbs] at hr;subst hr;exact fun S4 σ4 H4 dd st4 rel4 q=>p S4 σ4 H4 dd (stt.trans st4) rel4 q
     | no=>rw[hbs] at hr;exact absurd hr.symm nno
 ·exact False.elim p
end
end Y
namespace Y
open PySem L2 Z
def j3w (env:List (Option Ent)):List Nat→List (Option Ent)
 | []=>env
 | v::vs=>(j3w env vs).set v none
def q2a (ws:List Nat) (s:Stt):Stt:=⟨j3w s.env ws,s.M⟩
def kp:Option (Option Ent)→Option Ent
 | some (some (.fz d))=>some (.fz d)
 | _=>none
def rest (e0 e':List (Option Ent)):List Nat→List (Option Ent)
 | []=>e'
 | v::vs=>(rest e0 e' vs).set v (kp e0[v]?)
theorem z2w {e0 e':List (Option Ent)}:∀{ws:List Nat},(rest e0 e' ws).length=e'.length
 | []=>rfl
 | v::vs=>by show((rest e0 e' vs).set v _).length=_;rw[List.length_set];exact z2w
theorem z2j {e0 e':List (Option Ent)} {i:Nat} {en:Ent}:∀{ws:List Nat},(rest e0 e' ws)[i]? = some (some en)→(∃d,en = .fz d∧e0[i]? = some (some (.fz d)))∨(i∉ws∧e'[i]? = some (some en))
 | [],h=>.inr ⟨by simp,h⟩
 | v::vs,h=>by
  have h1:((rest e0 e' vs).set v (kp e0[v]?))[i]? = some (some en):=h
  by_cases e:v=i
  ·subst e
   have hl:v<(rest e0 e' vs).length:=by
    have:=(List.getElem?_eq_some_iff.mp h1).1
    rw[List.length_set] at this;exact this
   rw[List.getElem?_set_self hl] at h1
   have h2:kp e0[v]? = some en:=Option.some.inj h1
   unfold kp at h2
   split at h2
   ·rename_i d q;cases h2;exact .inl ⟨d,rfl,q⟩
   ·cases h2
  ·rw[List.getElem?_set_ne e] at h1
   rcases z2j h1 with k|⟨k1,k2⟩
   ·exact .inl k
   ·exact .inr ⟨by simp;exact⟨fun z=>e z.symm,k1⟩,k2⟩
section
variable {K:PySem.W.Frag} {ct:Ct} {H0:Hp} {W:WX} {S:Sh} {s:Stt} {σ:St} {H:Hp}
theorem Rel.setN2 {i:Nat} (r:Rel K ct H0 S s σ H):Rel K ct H0 (S.un i) ⟨s.env.set i none,s.M⟩ (σ.set i none) H:=by
 refine⟨r.sub,fun a l q=>r.lg a l (z9h q),r.dom,by rw[List.length_set];show _=(s.env.set i _).length;rw[List.length_set];exact r.len,fun j en q=>?_,fun k c q=>?_⟩
 ·have q1:(s.env.set i none)[j]? = some (some en):=q
  by_cases z:i=j
  ·subst z
   have hlt:i<s.env.length:=by
    have:=(List.getElem?_eq_some_iff.mp q1).1
    rw[List.length_set] at this;exact this
   rw[List.getElem?_set_self hlt] at q1
   cases q1
  ·rw[List.getElem?_set_ne z] at q1
   have hh:=r.slot j en q1
   cases en with
   | fz d'=>obtain⟨w,k1,k2⟩:=hh;exact⟨w,by rw[List.getElem?_set_ne z];exact k1,k2⟩
   | xn x=>exact q2m (S:=S) (n:=s.M.length) (H:=H) (fun _ _ e=>e) (fun _ _=>rfl) (Nat.le_refl _) (List.getElem?_set_ne z) hh
   | ow c =>
    obtain⟨p,k1,k2,k3,k4,k5⟩:=hh
    exact⟨p,by rw[List.getElem?_set_ne z];exact k1,k2,q8r k3 (fun w=>by cases w;exact z rfl),k4,z1y k5⟩
 ·obtain⟨k1,k2⟩:=r.ids k c q
  exact⟨q8r k1 (fun w=>by cases w),z1y k2⟩
theorem Rel.wipe (r:Rel K ct H0 S s σ H):∀ws:List Nat,∃S',Rel K ct H0 S' (q2a ws s) (wipe σ ws) H∧Stp S s.M.length H S' s.M.length H∧S'.G=S.G∧S'.α=S.α∧∀a,S.lab a=none→S'.lab a=none
 | []=>⟨S,r,.refl,rfl,rfl,fun _ h=>h⟩
 | v::vs=>by
  obtain⟨S',r',st,hg,ha,hl⟩:=r.wipe vs
  refine⟨S'.un v,r'.setN2,st.trans .un,hg,ha,fun a h=>?_⟩
  show(if S'.lab a=some (.slot v) then none else S'.lab a)=none
  rw[hl a h];rfl
theorem Rel.rest {S':Sh} {s':Stt} {H':Hp} {ws:List Nat} (r0:Rel K ct H0 S s σ H) (st:Stp S s.M.length H S' s'.M.length H') (r:Rel K ct H0 S' s' (L2.wipe σ ws) H'):Rel K ct H0 S' ⟨rest s.env s'.env ws,s'.M⟩ σ H':=by
 refine⟨r.sub,r.lg,r.dom,by show _=(Y.rest _ _ _).length;rw[z2w,←r.len,wipe_length],fun j en q=>?_,r.ids⟩
 rcases z2j q with⟨d,rfl,k⟩|⟨k1,k2⟩
 ·obtain⟨v,h1,h2⟩:=r0.slot j _ k
  exact⟨v,h1,h2.step st⟩
 ·have hh:=r.slot j en k2
  cases en with
  | fz d=>obtain⟨v,h1,h2⟩:=hh;exact⟨v,by rw[←wipe_out k1];exact h1,h2⟩
  | xn x=>exact q2m (S:=S') (n:=s'.M.length) (H:=H') (fun _ _ e=>e) (fun _ _=>rfl) (Nat.le_refl _) (wipe_out k1).symm hh
  | ow c=>obtain⟨p,h1,h2,h3,h4,h5⟩:=hh;exact⟨p,by rw[←wipe_out k1];exact h1,h2,h3,h4,h5⟩
/-- what nobody has is changed -/
theorem Rel.updU {p:Addr} {o:HO} (r:Rel K ct H0 S s σ H) (hl:S.lab p=none) (hg:S.G p=none):Rel K ct H0 S s σ (upd H p o):=by
 have cn:∀{a:Addr} {c:Cn} {l:Lab},S.lab a=some l→CnOk K ct S s.M.length H a c→CnOk K ct S s.M.length (upd H p o) a c:=fun {a c l} q h=>h.mono (fun _ _ e=>e) (fun _ _=>rfl) (Nat.le_refl _) (fun _ e=>by rw[upd_ne (fun z=>by subst z;rw[hl] at q;cases q)];exact e)
 refine⟨fun a u e=>by rw[U_ne (ne_of_none e hg)];exact r.sub a u e,fun a l e=>?_,fun a e=>r.dom a (q1a.mp e).2,r.len,fun i e h=>?_,fun k c h=>?_⟩
 ·obtain⟨h1,u,h2,h3⟩:=r.lg a l e
  exact⟨h1,u,by rw[upd_ne (fun z=>by subst z;rw[hl] at e;cases e)];exact h2,h3⟩
 ·have q:=r.slot i e h
  cases e with
  | fz d=>exact q
  | xn x=>exact q2m (S:=S) (n:=s.M.length) (H:=H) (fun _ _ e=>e) (fun _ _=>rfl) (Nat.le_refl _) rfl q
  | ow c =>
   obtain⟨a,h1,h2,h3,h4,h5⟩:=q
   exact⟨a,h1,h2,h3,h4,cn h3 h5⟩
 ·obtain⟨h1,h2⟩:=r.ids k c h
  exact⟨h1,cn h1 h2⟩
theorem Stp.updNew {S':Sh} {n n':Nat} {H':Hp} {p:Addr} {o:HO} (t:Stp S n H S' n' H') (hp:H p=none):Stp S n H S' n' (upd H' p o) where
 g:=t.g
 le:=t.le
 al:=t.al
 fr:=fun a u h l=>by
  obtain⟨h1,h2⟩:=t.fr a u h l
  exact⟨by rw[upd_ne (ne_of_none h hp)];exact h1,h2⟩
 gn:=t.gn
 fz:=fun a od u h=>by rw[upd_ne (ne_of_none h hp)];exact t.fz a od u h
 dom:=fun a e=>t.dom a (q1a.mp e).2
def W0:WX:=fun _ _ _ _=>False
open Classical in
noncomputable def lcN (ws:List Nat) (g:Tg) (c:Mo Bool) (e:Mo D) (ck:Option (Nat×Cn)):List D→List D→Mo (List D)
 | [],acc,s=>if chk ck s then .ok acc s else .no
 | x::xs,acc,s=>if chk ck s then(match g x s with
  | none=>.no
  | some s1=>match c s1 with
   | .ok b s2=>if b=true then(match e s2 with
    | .ok d s3=>if acc.length<sizeLine then lcN ws g c e ck xs (acc++[d]) (q2a ws s3) else .no
    | _=>.no) else lcN ws g c e ck xs acc (q2a ws s2)
   | _=>.no) else .no
noncomputable def mLc (ws:List Nat) (mi:Mo Im) (g:Tg) (c:Mo Bool) (e:Mo AI):Mo AI:=fun s=>(mi s).bind fun im s1=>match lcN ws g c (mV e) im.ck im.xs [] (q2a ws s1) with
 | .ok l s2=>.ok (.new (.lst l)) ⟨rest s1.env s2.env ws,s2.M⟩
 | _=>.no
def mYes:Mo Bool:=fun s=>.ok true s
theorem q5p:Et K ct H0 W tYes mYes:=fun S s σ H Q rel p=>p S true H .refl rel rfl
theorem q9y {js ws:List Nat} {wi:TI} {g:TG} {tt:TT} {te:TE} {mi:Mo Im} {f:Tg} {c:Mo Bool} {e:Mo AI} {S:Sh} {s:Stt} {σ:St} {H:Hp} {Q:VK} (hi:∀R,Pst K ct H0 (RW K ct H0) W S s σ H R (mi s)→wi σ H R) (hg:Sg K ct H0 js g f) (hjs:∀j∈js,j∈ws) (hc:Et K ct H0 W0 tt c) (he:Ei K ct H0 W0 te e)
  (p:Pst K ct H0 (RI K ct) W S s σ H Q (mLc ws mi f c e s)):tLc wi g tt te ws σ H Q :=
 hi _ (Pst.bind bI p fun S1 s1 H1 J im st1 rel1 wk p1=>by
  intro D hD
  generalize hR:lcN ws f c (mV e) im.ck im.xs [] (q2a ws s1)=R at p1
  cases R with
  | no=>exact False.elim p1
  | er x s2=>exact False.elim p1
  | ok l s2 =>
   have p1:Pst K ct H0 (RI K ct) W S1 s1 σ H1 Q (.ok (.new (.lst l)) ⟨rest s1.env s2.env ws,s2.M⟩):=p1
   obtain⟨S1',rel1',st1',hg1,ha1,hl1⟩:=rel1.wipe ws
   refine⟨fun i m H'=>m=im.xs.length-i∧i≤im.xs.length∧∃S' s' acc accV,Stp S1 s1.M.length H1 S' s'.M.length H'∧Rel K ct H0 S' s' (wipe σ ws) H'∧H' D=some (.lst accV)∧S'.lab D=none∧S'.G D=none∧RpL K S'.G S'.α s'.M.length accV acc∧lcN ws f c (mV e) im.ck (im.xs.drop i) acc s' = .ok l s2,⟨im.xs.length,rfl,Nat.zero_le _,S1',q2a ws s1,[],[],st1'.updNew hD,rel1'.new hD,upd_same,rel1'.labN hD,rel1'.gN hD,.nil,hR⟩,?_⟩
   rintro i m H' ⟨rfl,hi',S',s',acc,accV,st',rel',hDl,hDlab,hDg,rl,hr⟩
   by_cases hlt:i<im.xs.length
   ·have ex:=List.drop_eq_getElem_cons hlt
    rw[ex] at hr
    have hx:im.xs[i]? = some im.xs[i]:=List.getElem?_eq_getElem hlt
    generalize im.xs[i]=d at ex hr hx
    unfold lcN at hr
    have hck:chk im.ck s':=Classical.byContradiction fun z=>by rw[if_neg z] at hr;cases hr
    rw[if_pos hck] at hr
    obtain⟨go,yl⟩:=(wk S' s' _ H' st' rel' hck).1 i d hx
    refine .inr ⟨go,fun H2=>∃S2 s3 acc accV,Stp S1 s1.M.length H1 S2 s3.M.length H2∧Rel K ct H0 S2 s3 (wipe σ ws) H2∧H2 D=some (.lst accV)∧S2.lab D=none∧S2.G D=none∧RpL K S2.G S2.α s3.M.length accV acc∧lcN ws f c (mV e) im.ck (im.xs.drop (i+1)) acc s3 = .ok l s2,?_,?_⟩
    ·rintro H2 ⟨S2,s3,acc',accV',k⟩
     exact⟨im.xs.length-(i+1),by omega,rfl,hlt,S2,s3,acc',accV',k⟩
    ·intro x H2 hy
     obtain⟨S2,st2,rel2,rp2⟩:=yl x H2 hy
     cases hs:f d s' with
     | none=>rw[hs] at hr;cases hr
     | some s3 =>
      rw[hs] at hr
      refine hg S2 s' _ H2 x d s3 _ rel2 rp2 hs fun S3 σ3 st3 rel3 kk _ _=>?_
      have hw:wipe σ3 ws=wipe σ ws:=by
       rw[kk ws hjs]
       refine List.ext_getElem? fun k=>?_
       by_cases hk:k∈ws
       ·by_cases hl:k<σ.length
        ·rw[q8a hk (by rw[wipe_length];exact hl),q8a hk hl]
        ·rw[List.getElem?_eq_none_iff.mpr (by rw[wipe_length,wipe_length];omega),List.getElem?_eq_none_iff.mpr (by rw[wipe_length];omega)]
       ·rw[wipe_out hk]
      refine⟨hw,?_⟩
      have stt:=(st'.trans st2).trans st3
      have str:=(st2.trans st3)
      obtain⟨d3,l3⟩:=str.fr D _ hDl hDlab
      refine hc S3 s3 σ3 H2 _ rel3 ?_
      have hr:(match c s3 with|.ok b s2=>if b=true then(match mV e s2 with|.ok d s3=>if acc.length<sizeLine then lcN ws f c (mV e) im.ck (im.xs.drop (i+1)) (acc++[d]) (q2a ws s3) else .no|_=>.no) else lcN ws f c (mV e) im.ck (im.xs.drop (i+1)) acc (q2a ws s2)|_=>.no)=Ro.ok l s2:=hr
      have gD:∀{Sx:Sh} {nx:Nat} {Hx:Hp},Stp S' s'.M.length H' Sx nx Hx→Sx.G D=none:=fun {Sx nx Hx} t=>by
       cases q:Sx.G D with
       | none=>rfl
       | some u =>
        rcases t.gn D u q with z|z|⟨lb,z⟩|⟨us,z⟩
        ·rw[hDg] at z;cases z
        ·rw[hDl] at z;cases z
        ·rw[hDlab] at z;cases z
        ·rw[hDl] at z;cases z
      cases hcs:c s3 with
      | no=>rw[hcs] at hr;cases hr
      | er x s4=>rw[hcs] at hr;cases hr
      | ok b s4 =>
       rw[hcs] at hr
       intro S4 b' H4 st4 rel4 eb
       have eb:b'=b:=eb
       rw[eb]
       have str4:=str.trans st4
       obtain⟨d4,l4⟩:=str4.fr D _ hDl hDlab
       cases b with
       | false =>
        rw[if_neg Bool.false_ne_true]
        have hr:lcN ws f c (mV e) im.ck (im.xs.drop (i+1)) acc (q2a ws s4) = .ok l s2:=hr
        obtain⟨S5,rel5,st5,hg5,ha5,hl5⟩:=rel4.wipe ws
        rw[hw] at rel5
        exact⟨S5,q2a ws s4,acc,accV,(stt.trans st4).trans st5,rel5,d4,hl5 _ l4,gD (str4.trans st5),rl.step (str4.trans st5),hr⟩
       | true =>
        rw[if_pos rfl]
        have hr:(match mV e s4 with|.ok d s3=>if acc.length<sizeLine then lcN ws f c (mV e) im.ck (im.xs.drop (i+1)) (acc++[d]) (q2a ws s3) else .no|_=>.no)=Ro.ok l s2:=hr
        refine q4k he S4 s4 σ3 H4 _ rel4 ?_
        cases hes:mV e s4 with
        | no=>rw[hes] at hr;cases hr
        | er x s5=>rw[hes] at hr;cases hr
        | ok d' s5 =>
         rw[hes] at hr
         have hr:(if acc.length<sizeLine then lcN ws f c (mV e) im.ck (im.xs.drop (i+1)) (acc++[d']) (q2a ws s5) else .no)=Ro.ok l s2:=hr
         intro S5 y H5 st5 rel5 rp5
         have str5:=str4.trans st5
         obtain⟨d5,l5⟩:=str5.fr D _ hDl hDlab
         split at hr
         ·rename_i hz
          refine⟨accV,d5,by rw[rl.length];exact hz,?_⟩
          have rel6:=rel5.updU (o:=.lst (accV++[y])) l5 (gD str5)
          obtain⟨S7,rel7,st7,hg7,ha7,hl7⟩:=rel6.wipe ws
          rw[hw] at rel7
          have rl7:RpL K S7.G S7.α (q2a ws s5).M.length (accV++[y]) (acc++[d']):=by
           rw[hg7,ha7]
           exact(rl.step str5).append (.cons rp5 .nil)
          exact⟨S7,q2a ws s5,acc++[d'],accV++[y],(((stt.trans st4).trans st5).updNew hD).trans st7,rel7,upd_same,hl7 _ l5,by rw[hg7];exact gD str5,rl7,hr⟩
         ·cases hr
   ·have ex:im.xs.drop i=[]:=List.drop_eq_nil_of_le (by omega)
    rw[ex] at hr
    unfold lcN at hr
    have hck:chk im.ck s':=Classical.byContradiction fun z=>by rw[if_neg z] at hr;cases hr
    rw[if_pos hck] at hr
    cases hr
    have ei:i=im.xs.length:=by omega
    refine .inl ⟨by rw[ei];exact(wk S' _ _ H' st' rel' hck).2,?_⟩
    exact p1 S' _ H' st' (rel1.rest st' rel') ⟨D,rfl,hD,hDlab,hDg,rfl,accV,hDl,rl⟩)
theorem q8m {js ws:List Nat} {wi:TI} {g:TG} {tt:TT} {te:TE} {mi:Mo Im} {f:Tg} {c:Mo Bool} {e:Mo AI} (hi:Jw K ct H0 W wi mi) (hg:Sg K ct H0 js g f) (hjs:∀j∈js,j∈ws) (hc:Et K ct H0 W0 tt c) (he:Ei K ct H0 W0 te e) :
  Ei K ct H0 W (tLc wi g tt te ws) (mLc ws mi f c e):=fun S s σ H Q rel p=>q9y (fun R q=>hi S s σ H R rel q) hg hjs hc he p
def FPst (K:PySem.W.Frag) (ct:Ct) (S:Sh) (M:List Cn) (H:Hp) (Q:VK) (E:XK):Fr→Prop
 | .ok a M'=>∀S' v H',Stp S M.length H S' M'.length H'→Rel K ct H S' ⟨[],M'⟩ [] H'→ItOk K ct H S' ⟨[],M'⟩ [] H' v a→Q v H'
 | .er x M'=>∀S' H' dd,Stp S M.length H S' M'.length H'→Rel K ct H S' ⟨[],M'⟩ [] H'→XOk K S' M'.length H' x dd→E (.ref (ct x.cls)) dd H'
 | .no=>False
/-- a def's promise -/
def spM (K:PySem.W.Frag) (ct:Ct) (f:Mf):Sp:=fun vs H Q E=>∃S M ds,Rel K ct H S ⟨[],M⟩ [] H∧RpL K S.G S.α M.length vs ds∧FPst K ct S M H Q E (f ds M)
/-- np parameters, n slots -/
def mFn (np n:Nat) (body:Ms):Mf:=fun ds M=>if ds.length=np then(match body ⟨ds.map (fun d=>some (.fz d))++List.replicate (n-ds.length) none,M⟩ with
 | .nx s=>.ok (.val .non) s.M
 | .rt a s=>.ok a s.M
 | .er x s=>.er x s.M
 | _=>.no) else .no
theorem q2k {np n:Nat} {body:Ms} {vs:List V} {Q:VK} {E:XK} (h:spM K ct (mFn np n body) vs H Q E):vs.length=np:=by
 obtain⟨S,M,ds,_,r,h⟩:=h
 rw[r.length]
 unfold mFn at h
 split at h
 ·assumption
 ·exact False.elim h
theorem Rel.enter {vs:List V} {ds:List D} {N:List Str} {M:List Cn} (r:Rel K ct H S ⟨[],M⟩ [] H) (h:RpL K S.G S.α M.length vs ds):Rel K ct H S ⟨ds.map (fun d=>some (.fz d))++List.replicate (N.length-ds.length) none,M⟩ (start N vs) H:=by
 refine⟨r.sub,r.lg,r.dom,?_,fun i e q=>?_,r.ids⟩
 ·show(vs.map some++List.replicate (N.length-vs.length) none).length=(ds.map _++List.replicate _ none).length
  simp only[List.length_append,List.length_map,List.length_replicate,h.length]
 ·have q1:(ds.map (fun d=>some (Ent.fz d))++List.replicate (N.length-ds.length) none)[i]? = some (some e):=q
  by_cases hl:i<ds.length
  ·rw[List.getElem?_append_left (by rw[List.length_map];exact hl),List.getElem?_map] at q1
   obtain⟨d,e1,e2⟩:=Option.map_eq_some_iff.mp q1
   cases e2
   obtain⟨v,h1,h2⟩:=h.get e1
   refine⟨v,?_,h2⟩
   show(vs.map some++List.replicate (N.length-vs.length) none)[i]? = _
   rw[List.getElem?_append_left (by rw[List.length_map,h.length];exact hl),List.getElem?_map,h1];rfl
  ·rw[List.getElem?_append_right (by rw[List.length_map];omega),List.getElem?_replicate] at q1
   split at q1
   ·cases q1
   ·cases q1
theorem Rel.leave (r:Rel K ct H0 S s σ H):Rel K ct H0 S ⟨[],s.M⟩ [] H:=⟨r.sub,r.lg,r.dom,rfl,fun i e q=>by simp at q,r.ids⟩
/-- the body keeps the promise -/
theorem q2h {N:List Str} {np:Nat} {t:TS} {body:Ms} {vs:List V} {Q:VK} {E:XK} (hb:Sv K ct H (fun cls dd _ H'=>E cls dd H') t body) (h:spM K ct (mFn np N.length body) vs H Q E):t { nx:=fun _ H'=>Q .non H',rt:=Q } (start N vs) H:=by
 obtain⟨S,M,ds,r,rp,h⟩:=h
 refine hb S _ _ H _ (r.enter rp) ?_
 unfold mFn at h
 split at h
 rotate_left
 ·exact False.elim h
 generalize hR:body ⟨ds.map (fun d=>some (.fz d))++List.replicate (N.length-ds.length) none,M⟩=R at h
 cases R with
 | nx s=>exact fun S' σ' H' st rel=>h S' .non H' st rel.leave .non
 | rt a s=>exact fun S' σ' v H' st rel i=>h S' v H' st rel.leave (by
   cases a with
   | val d=>exact i
   | new c=>exact i
   | slot j=>simp[ItOk] at i)
 | er x s=>exact fun S' σ' H' dd st rel q=>h S' H' dd st rel.leave q
 | bk s=>exact False.elim h
 | ct s=>exact False.elim h
 | no=>exact False.elim h
def Sh.hide (S:Sh):Sh:=⟨S.G,S.α,fun a=>match S.lab a with
 | some (.slot _)=>none
 | l=>l⟩
def Sh.back (S S':Sh):Sh:=⟨S'.G,S'.α,fun a=>match S.lab a with
 | some (.slot i)=>some (.slot i)
 | _=>match S'.lab a with
  | some (.slot _)=>none
  | l=>l⟩
theorem z5e {a:Addr} {l:Lab} (h:S.hide.lab a=some l):S.lab a=some l∧∀i,l≠.slot i:=by
 have h1:(match S.lab a with|some (.slot _)=>none|l=>l)=some l:=h
 split at h1
 ·cases h1
 ·rename_i hn;exact⟨h1,fun i z=>by subst z;exact hn i h1⟩
theorem j2e {a:Addr} {k:Nat} (h:S.lab a=some (.id k)):S.hide.lab a=some (.id k):=by
 show(match S.lab a with|some (.slot _)=>none|l=>l)=_
 rw[h]
theorem z4p {a:Addr} (h:S.lab a=none):S.hide.lab a=none:=by
 show(match S.lab a with|some (.slot _)=>none|l=>l)=_
 rw[h]
theorem q8e {a:Addr} {i:Nat} (h:S.lab a=some (.slot i)):S.hide.lab a=none:=by
 show(match S.lab a with|some (.slot _)=>none|l=>l)=_
 rw[h]
theorem z6f {S':Sh} {a:Addr} {i:Nat} (h:S.lab a=some (.slot i)):(S.back S').lab a=some (.slot i):=by
 show(match S.lab a with|some (.slot i)=>some (Lab.slot i)|_=>(match S'.lab a with|some (.slot _)=>none|l=>l))=_
 rw[h]
theorem q6g {S':Sh} {a:Addr} (h:∀i,S.lab a≠some (.slot i)):(S.back S').lab a=(match S'.lab a with|some (.slot _)=>none|l=>l):=by
 show(match S.lab a with|some (.slot i)=>some (Lab.slot i)|_=>(match S'.lab a with|some (.slot _)=>none|l=>l))=_
 split
 ·rename_i i e;exact absurd e (h i)
 ·rfl
theorem Rel.hide (r:Rel K ct H0 S s σ H):Rel K ct H S.hide ⟨[],s.M⟩ [] H:=⟨r.sub,fun a l q=>r.lg a l (z5e q).1,fun _ h=>h,rfl,fun i e q=>by simp at q,fun k c q=>⟨j2e (r.ids k c q).1,(r.ids k c q).2.mono (fun _ _ e=>e) (fun _ _=>rfl) (Nat.le_refl _) (fun _ e=>e)⟩⟩
theorem Rel.back {S':Sh} {M':List Cn} {H':Hp} (r:Rel K ct H0 S s σ H) (st:Stp S.hide s.M.length H S' M'.length H') (r':Rel K ct H S' ⟨[],M'⟩ [] H') :
  Rel K ct H0 (S.back S') ⟨s.env,M'⟩ σ H'∧Stp S s.M.length H (S.back S') M'.length H':=by
 have slot_keep:∀{a:Addr} {i:Nat},S.lab a=some (.slot i)→(∀o,H a=some o→H' a=some o)∧S'.G a=none∧S'.lab a=none:=fun {a i} h=>by
  obtain⟨hg,o,ho,hnt⟩:=r.lg a _ h
  have k:=st.fr a o ho (q8e h)
  refine⟨fun u hu=>(st.fr a u hu (q8e h)).1,?_,k.2⟩
  cases q:S'.G a with
  | none=>rfl
  | some u =>
   rcases st.gn a u q with z|z|⟨l,z⟩|⟨us,z⟩
   ·have z:S.G a=some u:=z;rw[hg] at z;cases z
   ·rw[ho] at z;cases z
   ·rw[q8e h] at z;cases z
   ·rw[ho] at z;cases z;exact absurd rfl (hnt us)
 have cn:∀{a:Addr} {c:Cn},CnOk K ct S' M'.length H' a c→CnOk K ct (S.back S') M'.length H' a c:=fun {a c} h=>h.mono (fun _ _ e=>e) (fun _ _=>rfl) (Nat.le_refl _) (fun _ e=>e)
 refine⟨⟨r'.sub,fun a l q=>?_,fun a h=>r.dom a (st.dom a h),r.len,fun i e q=>?_,fun k c q=>?_⟩,⟨st.g,st.le,st.al,fun a o h l=>?_,fun a o q=>?_,st.dom,st.fz⟩⟩
 ·by_cases hs:∃i,S.lab a=some (.slot i)
  ·obtain⟨i,hs⟩:=hs
   obtain⟨_,o,ho,hnt⟩:=r.lg a _ hs
   obtain⟨k1,k2,k3⟩:=slot_keep hs
   exact⟨k2,o,k1 o ho,hnt⟩
  ·rw[q6g (fun i z=>hs ⟨i,z⟩)] at q
   split at q
   ·cases q
   ·exact r'.lg a l q
 ·have hh:=r.slot i e q
  cases e with
  | fz d=>obtain⟨v,h1,h2⟩:=hh;exact⟨v,h1,h2.mono st.g st.al st.le⟩
  | xn x=>exact q2m (S:=S) (n:=s.M.length) (H:=H) st.g st.al st.le rfl hh
  | ow c =>
   obtain⟨p,h1,h2,h3,h4,h5⟩:=hh
   obtain⟨k1,k2,k3⟩:=slot_keep h3
   exact⟨p,h1,h2,z6f h3,h4,h5.mono st.g st.al st.le k1⟩
 ·obtain⟨k1,k2⟩:=r'.ids k c q
  refine⟨?_,cn k2⟩
  have hne:∀i,S.lab (S'.α k)≠some (.slot i):=fun i z=>by
   have:=(slot_keep z).2.2
   rw[k1] at this;cases this
  show(S.back S').lab (S'.α k)=_
  rw[q6g hne,k1]
 ·obtain⟨h1,h2⟩:=st.fr a o h (z4p l)
  refine⟨h1,?_⟩
  rw[q6g (fun i z=>by rw[l] at z;cases z),h2]
 ·rcases st.gn a o q with z|z|⟨l,z⟩|z
  ·exact .inl z
  ·exact .inr (.inl z)
  ·exact .inr (.inr (.inl ⟨l,(z5e z).1⟩))
  ·exact .inr (.inr (.inr z))
def q4b (f:Mf) (m:Mo (List D)):Mo AI:=fun s=>(m s).bind fun ds s1=>match f ds s1.M with
 | .ok a M'=>.ok a ⟨s1.env,M'⟩
 | .er x M'=>.er x ⟨s1.env,M'⟩
 | .no=>.no
/-- .. where it doesn't raise -/
def q2q (f:Mf) (m:Mo (List D)):Mo AI:=fun s=>(m s).bind fun ds s1=>match f ds s1.M with
 | .ok a M'=>.ok a ⟨s1.env,M'⟩
 | _=>.no
theorem z1c {f:Fr} {E:XK} {Q:VK} (rel:Rel K ct H0 S s σ H) (hE:∀x M',f = .er x M'→∀S' H' dd,Stp S s.M.length H S' M'.length H'→Rel K ct H0 S' ⟨s.env,M'⟩ σ H'→XOk K S' M'.length H' x dd→E (.ref (ct x.cls)) dd H')
  (hQ:∀a M',f = .ok a M'→∀S' v H',Stp S s.M.length H S' M'.length H'→Rel K ct H0 S' ⟨s.env,M'⟩ σ H'→ItOk K ct H S' ⟨s.env,M'⟩ σ H' v a→Q v H') (hn:f≠.no):FPst K ct S.hide s.M H Q E f:=by
 cases f with
 | no=>exact absurd rfl hn
 | er x M' =>
   intro S' H' dd st r' xo
   obtain⟨k1,k2⟩:=rel.back st r'
   exact hE x M' rfl (S.back S') H' dd k2 k1 xo
 | ok a M' =>
   intro S' v H' st r' it
   obtain⟨k1,k2⟩:=rel.back st r'
   refine hQ a M' rfl (S.back S') v H' k2 k1 ?_
   cases a with
   | val d=>exact it
   | slot j=>simp[ItOk] at it
   | new c =>
    obtain⟨p,rfl,h1,h2,h3,h4,h5⟩:=it
    refine⟨p,rfl,h1,?_,h3,h4,h5.mono (fun _ _ e=>e) (fun _ _=>rfl) (Nat.le_refl _) (fun _ e=>e)⟩
    rw[q6g (fun i z=>by have:=rel.labN h1;rw[z] at this;cases this),h2]
theorem q1k {f:Mf} {E:XK} {t:TA} {m:Mo (List D)} (h:EvL K ct H0 W t m):Ei K ct H0 W (z2i (spM K ct f) E t) (q2q f m):=fun S s σ H Q rel p =>
  h S s σ H _ rel (Pst.bind bI p fun S1 s1 H1 vs ds st1 rel1 i1 p1=>⟨S1.hide,s1.M,ds,rel1.hide,i1,by
    generalize hf:f ds s1.M=r at p1
    cases r with
    | no=>exact False.elim p1
    | er x M'=>exact False.elim p1
    | ok a M'=>exact z1c rel1 (fun x M' e=>by cases e) (fun a' M'' e S' v H' st rl it=>by cases e;exact p1 S' v H' st rl it) (fun e=>by cases e)⟩)
theorem q1j {f:Mf} {t:TA} {m:Mo (List D)} (h:EvL K ct H0 W t m):Ei K ct H0 W (tCallS (spM K ct f) (WE W) t) (q4b f m):=fun S s σ H Q rel p =>
  h S s σ H _ rel (Pst.bind bI p fun S1 s1 H1 vs ds st1 rel1 i1 p1=>⟨S1.hide,s1.M,ds,rel1.hide,i1,by
    generalize hf:f ds s1.M=r at p1
    cases r with
    | no=>exact False.elim p1
    | er x M'=>exact z1c rel1 (fun x' M'' e S' H' dd st rl xo=>by cases e;exact p1 S' H' dd st rl xo) (fun a' M'' e=>by cases e) (fun e=>by cases e)
    | ok a M'=>exact z1c rel1 (fun x M' e=>by cases e) (fun a' M'' e S' v H' st rl it=>by cases e;exact p1 S' v H' st rl it) (fun e=>by cases e)⟩)
end
end Y
namespace Y
open PySem L2 Z
section
variable {X:Cx}
def j9o (K:PySem.W.Frag):List V→Hp→VK→Prop:=fun xs H Q=>∃p ys,xs=[.ref p]∧((SqL K H p ys∧∀l,H l=none→Q (.ref l) (upd H l (.tup ys)))∨(SqT K H p ys∧Q (.ref p) H))
theorem z5c {K:PySem.W.Frag} (hK:X.K=K):CallR X (.type "tuple") (j9o K):=by subst hK;exact call_tuple_of
theorem PSet.or {t t':TSet} (h:PSet X t) (h':PSet X t'):PSet X (fun o i v H Q=>t o i v H Q∨t' o i v H Q):=by
 intro pins s σ H o i v ov iv u Q I ro ri rv q
 rcases q with q|q
 ·exact h pins s σ H o i v ov iv u Q I ro ri rv q
 ·exact h' pins s σ H o i v ov iv u Q I ro ri rv q
def j4l:TSet:=fun o i v H Q=>rSetL o i v H Q∨rSetD o i v H Q
theorem z3h (hu:X.A.units+1<cLine):PSet X j4l:=PSet.or set_list (set_dict hu)
end
section
variable {K:PySem.W.Frag} {ct:Ct} {H0:Hp} {W:WX} {S:Sh} {s:Stt} {σ:St} {H:Hp}
theorem z6d {n:String}:CR K (.ty n) (.ty n):=fun _ _ _=>.ty n
def fNeg:Stt→AI→Ro AI:=fun s a=>match a with
 | .val (.int i)=>.ok (.val (.int (-i))) s
 | _=>.no
theorem j9u:J1 K ct H0 (rU fun i=>.int (-i)) fNeg:=fun W S s σ H Hs x a Q rel ia p=>by
 unfold fNeg at p
 split at p
 ·rename_i i
  cases q2c ia
  exact⟨i,rfl,p.val rel (.int _)⟩
 ·exact False.elim p
def fInt (s:Stt) (as:List AI):Ro AI:=match as with
 | [.val (.int i)]=>.ok (.val (.int i)) s
 | [.val (.bl k)]=>.ok (.val (.int (if k then 1 else 0))) s
 | [.val (.str x)]=>match PySem.intText? x with
  | some n=>if x.length≤640 then .ok (.val (.int n)) s else .no
  | none=>.no
 | _=>.no
def fTup (s:Stt) (as:List AI):Ro AI:=match as with
 | [a]=>match q1v s a with
  | some l=>.ok (.val (.tup l)) s
  | none=>match a with
   | .val (.tup l)=>.ok (.val (.tup l)) s
   | _=>.no
 | _=>.no
theorem j6f:JB K ct H0 (j9o K) fTup:=fun W S s σ H Hs vs as Q rel ia p=>by
 unfold fTup at p
 split at p
 ·rename_i a
  obtain⟨v,rfl,h⟩:=as1 ia
  split at p
  ·rename_i l e
   obtain⟨q,us,rfl,k1,k2⟩:=q2f rel h e
   exact⟨q,us,rfl,.inl ⟨k1,fun r hr=>p.newT rel hr k2⟩⟩
  ·split at p
   ·rename_i l _
    have h':Rp K S.G S.α s.M.length v (.tup l):=h
    cases h' with
    | tup h1 h2=>exact⟨_,_,rfl,.inr ⟨.of (uP' (rel.sub _ _ h1)),p.val rel (.tup h1 h2)⟩⟩
   ·exact False.elim p
 ·exact False.elim p
def mAug (i:Nat) (f:Int→Int→Int) (m:Mo AI):Ms:=fun s=>match q2s s i with
 | some (.fz (.int x))=>(m s).toS fun a s1=>match a with
  | .val (.int y)=>.nx ⟨s1.env.set i (some (.fz (.int (f x y)))),s1.M⟩
  | _=>.no
 | _=>.no
theorem z9k {i:Nat} {f:Int→Int→Int} {te:TE} {m:Mo AI} (h:Ei K ct H0 W te m):Sv K ct H0 W (tAug i te (ipI f)) (mAug i f m):=fun S s σ H Dn rel p=>by
 unfold mAug at p
 split at p
 ·rename_i x e
  obtain⟨v,h1,h2⟩:=rel.slot i _ (q1t e)
  cases q2c h2
  refine⟨.int x,h1,h S s σ H _ rel (PstS.bind p fun S1 s1 H1 y a st1 rel1 i1 p1=>?_)⟩
  split at p1
  ·rename_i j
   cases q2c i1
   exact⟨x,j,rfl,rfl,p1 (S1.un i) _ H1 (st1.trans .un) (rel1.setFz (.int _))⟩
  ·exact False.elim p1
 ·exact False.elim p
def q6r:D→Option Key
 | .int i=>some (.inl i)
 | .str x=>some (.inr x)
 | _=>none
theorem q7k {G:Hp} {α:Nat→Addr} {n:Nat} {v:V} {d:D} {k:Key} (h:Rp K G α n v d) (e:q6r d=some k):v=kV k:=by
 cases h<;>first|(cases e;rfl)|cases e
/-- o[i] = d -/
def q5w (a:AI) (i d:D) (s:Stt):Option Stt:=match getC s a with
 | some (.lst l)=>match i with
  | .int k=>(ixN l.length k).map fun j=>setC s a (.lst (l.set j d))
  | _=>none
 | some (.dK l)=>(q6r i).bind fun k=>if l.length<sizeLine then some (setC s a (.dK (pu l k d))) else none
 | _=>none
theorem z8d {Hs:Hp} {x y v:V} {a:AI} {i d:D} {s':Stt} {Q:Hp→Prop} (rel:Rel K ct H0 S s σ H) (ia:ItOk K ct Hs S s σ H x a) (ii:Rp K S.G S.α s.M.length y i) (id:Rp K S.G S.α s.M.length v d) (e:q5w a i d s=some s')
  (q:∀H',Stp S s.M.length H S s'.M.length H'→Rel K ct H0 S s' σ H'→Q H'):j4l x y v H Q:=by
 unfold q5w at e
 split at e
 ·rename_i l eg
  split at e
  ·rename_i k
   cases q2c ii
   obtain⟨j,e1,rfl⟩:=Option.map_eq_some_iff.mp e
   obtain⟨p,rfl,⟨us,h1,h2⟩,h3⟩:=z0f rel ia eg
   obtain⟨r1,r2⟩:=h3 (.lst (us.set j v)) (.lst (l.set j d)) (fun _=>rfl) ⟨_,upd_same,h2.set id j⟩
   exact .inl ⟨p,us,k,j,rfl,rfl,h1,by rw[h2.length];exact e1,q _ r2 r1⟩
  ·cases e
 ·rename_i l eg
  obtain⟨k,e1,e2⟩:=Option.bind_eq_some_iff.mp e
  split at e2
  ·rename_i hz
   cases e2
   obtain⟨p,rfl,⟨us,h1,h3,h2⟩,h4⟩:=z0f rel ia eg
   have rk:=RpK.of h3 h2
   have rk':=rk.put (k:=k) id
   obtain⟨r1,r2⟩:=h4 (.dK (putK us k v)) (.dK (pu l k d)) (fun _=>rfl) ⟨_,upd_same,rk'.keys,rk'.vals⟩
   rw[q7k ii e1]
   exact .inr ⟨p,_,rfl,DPut.k h1 (by rw[rk.len];exact hz),q _ r2 r1⟩
  ·cases e2
 ·cases e
def z0y (mo mi:Mo AI) (mv:Mo AI):Ms:=fun s=>(mV mv s).toS fun d s1=>(mo s1).toS fun a s2=>(mV mi s2).toS fun i s3=>match q5w a i d s3 with
 | some s4=>.nx s4
 | none=>.no
theorem q6q {te to ti:TE} {mo mi mv:Mo AI} (hv:Ei K ct H0 W te mv) (ho:Ei K ct H0 W to mo) (hi:Ei K ct H0 W ti mi):Sv K ct H0 W (tAsg te (gSub to ti j4l)) (z0y mo mi mv):=fun S s σ H Dn rel p =>
 q4k hv S s σ H _ rel (PstS.bind p fun S1 s1 H1 v d st1 rel1 i1 p1=>ho S1 s1 σ H1 _ rel1 (PstS.bind (PstS.from p1 st1) fun S2 s2 H2 x a st2 rel2 i2 p2=>q4k hi S2 s2 σ H2 _ rel2 (PstS.bind (PstS.from p2 st2) fun S3 s3 H3 y i st3 rel3 i3 p3=>by
  have p3:=PstS.from p3 st3
  split at p3
  ·rename_i s4 e
   exact z8d rel3 (i2.step st3) i3 (Rp.step (st2.trans st3) i1) e fun H' st rl=>p3 S3 σ H' st rl
  ·exact False.elim p3)))
def z3t:Mo AI:=fun s=>.ok (.new (.dK [])) s
theorem q9t:Ei K ct H0 W tDNewK z3t:=fun S s σ H Q rel p q hq=>p.newC rel hq rfl ⟨[],upd_same,rfl,.nil⟩
/-- d.pop(k), k is there -/
def fPop (s:Stt) (a:AI) (i:D):Ro AI:=match getC s a with
 | some (.dK l)=>match(q6r i).bind fun k=>(vl l k).map fun d=>(k,d) with
  | some (k,d)=>.ok (.val d) (setC s a (.dK (dr l k)))
  | none=>.no
 | _=>.no
def mPop (mo mi:Mo AI):Mo AI:=fun s=>(mo s).bind fun a s1=>match q3b s1 a with
 | some _=>(mV mi s1).bind fun i s2=>fPop s2 a i
 | none=>.no
theorem z3b {td ty:TE} {mo mi:Mo AI} (ho:Ei K ct H0 W td mo) (hi:Ei K ct H0 W ty mi):Ei K ct H0 W (tDPop1 td ty) (mPop mo mi):=fun S s σ H Q rel p =>
 ho S s σ H _ rel (Pst.bind bI p fun S1 s1 H1 x a st1 rel1 i1 p1=>by
  split at p1
  ·rename_i l e
   obtain⟨q,kvs,rfl,h1,h2⟩:=q4q rel1 i1 e
   refine⟨q,rfl,.inl ⟨kvs,h1⟩,q4k hi S1 s1 σ H1 _ rel1 (Pst.bind bI p1 fun S2 s2 H2 y i st2 rel2 i2 p2=>?_)⟩
   unfold fPop at p2
   split at p2
   ·rename_i l' eg
    split at p2
    ·rename_i k d ek
     obtain⟨k',e1,e2⟩:=Option.bind_eq_some_iff.mp ek
     obtain⟨d',e3,e4⟩:=Option.map_eq_some_iff.mp e2
     obtain⟨rfl,rfl⟩:k'=k∧d'=d:=by injection e4 with a b;exact⟨a,b⟩
     obtain⟨p,ep,⟨us,g1,g3,g2⟩,g4⟩:=z0f rel2 (i1.step st2) eg
     cases ep
     have rk:=RpK.of g3 g2
     have rk':=rk.drop (k:=k')
     obtain⟨r1,r2⟩:=g4 (.dK (dropK us k')) (.dK (dr l' k')) (fun _=>rfl) ⟨_,upd_same,rk'.keys,rk'.vals⟩
     rcases rk.get (k:=k') with⟨z1,z2⟩|⟨v,d0,z1,z2,z3⟩
     ·rw[z1] at e3;cases e3
     ·rw[z1] at e3;cases e3
      refine⟨us,k',v,g1,q7k i2 e1,z2,p2 S2 v _ r2 r1 ?_⟩
      show Rp K S2.G S2.α (setC s2 a (.dK (dr l' k'))).M.length v _
      rw[z2t];exact z3
    ·exact False.elim p2
   ·exact False.elim p2
  ·exact False.elim p1)
/-- d.get(k), d.get(k, x) -/
def fGet (s:Stt) (a:AI) (i x:D):Ro AI:=match q3b s a with
 | some l=>match q6r i with
  | some k=>.ok (.val ((vl l k).getD x)) s
  | none=>.no
 | none=>.no
def z7p (mo mi mx:Mo AI):Mo AI:=fun s=>(mo s).bind fun a s1=>match q3b s1 a with
 | some _=>(mV mi s1).bind fun i s2=>(mV mx s2).bind fun x s3=>fGet s3 a i x
 | none=>.no
theorem z4k {td ty tx:TE} {mo mi mx:Mo AI} (ho:Ei K ct H0 W td mo) (hi:Ei K ct H0 W ty mi) (hx:Ei K ct H0 W tx mx):Ei K ct H0 W (tDGet2 td ty tx) (z7p mo mi mx):=fun S s σ H Q rel p =>
 ho S s σ H _ rel (Pst.bind bI p fun S1 s1 H1 x a st1 rel1 i1 p1=>by
  split at p1
  ·rename_i l e
   obtain⟨q,kvs,rfl,h1,h2⟩:=q4q rel1 i1 e
   refine⟨q,rfl,.inl ⟨kvs,h1⟩,q4k hi S1 s1 σ H1 _ rel1 (Pst.bind bI p1 fun S2 s2 H2 y i st2 rel2 i2 p2=>q4k hx S2 s2 σ H2 _ rel2 (Pst.bind bI p2 fun S3 s3 H3 z xd st3 rel3 i3 p3=>?_))⟩
   unfold fGet at p3
   split at p3
   ·rename_i l' e'
    split at p3
    ·rename_i k ek
     obtain⟨q',kvs',eq',g1,g2⟩:=q4q rel3 ((i1.step st2).step st3) e'
     cases eq'
     rw[q7k i2 ek]
     rcases q8c (k:=k) g1 g2 with⟨z1,z2⟩|⟨v,d0,z1,z2,z3⟩
     ·rw[z1] at p3;exact⟨none,z2,p3.val rel3 i3⟩
     ·rw[z1] at p3;exact⟨some v,z2,p3.val rel3 z3⟩
    ·exact False.elim p3
   ·exact False.elim p3
  ·exact False.elim p1)
end
end Y
namespace Y
open PySem L2 Z
theorem u65 {A:Around} {k:Nat} (hr:Room k A):A.units+65<cLine:=by have:=hr.un;omega
theorem u66 {A:Around} {k:Nat} (hr:Room k A):A.units+70<cLine:=by have:=hr.un;omega
theorem z2y {K:PySem.W.Frag} {G:Hp} {α:Nat→Addr} {n:Nat}:∀ns:List Int,RpL K G α n (ns.map V.int) (ns.map D.int)
 | []=>.nil
 | i::ns=>.cons (.int i) (z2y ns)
end Y
namespace Y
open PySem L2 Z
def So {α:Type} (P:α→Prop):Option α→Prop
 | some s=>P s
 | none=>False
def Ok {α:Type} (P:α→Stt→Prop):Ro α→Prop
 | .ok a s=>P a s
 | _=>False
def Fo (P:AI→List Cn→Prop):Fr→Prop
 | .ok a M=>P a M
 | _=>False
theorem q4e {s:Stt}:chk none s:=trivial
theorem z7y {g:Tg} {b:Ms} {s:Stt}:forN g b none [] s = .nx s:=by unfold forN;rw[if_pos q4e]
theorem z4i {g:Tg} {b:Ms} {s s1:Stt} {x:D} {xs:List D} (h:g x s=some s1):forN g b none (x::xs) s=(match b s1 with
   | .nx s2=>forN g b none xs s2
   | .ct s2=>forN g b none xs s2
   | .bk s2=>.nx s2
   | .rt a s2=>.rt a s2
   | .er x s2=>.er x s2
   | .no=>.no):=by
 conv=>lhs;unfold forN
 rw[if_pos q4e,h]<;>rfl
/-- a comprehension, by what holds of each part: the state comes back -/
theorem j9p {ws:List Nat} {g:Tg} {e:Mo D} {s:Stt} {xs:List D} (f:D→D) (hz:xs.length≤sizeLine) (h:∀x∈xs,So (fun s1=>Ok (fun d s2=>d=f x∧q2a ws s2=s) (e s1)) (g x s)):∀acc:List D,acc.length+xs.length≤sizeLine→lcN ws g mYes e none xs acc s = .ok (acc++xs.map f) s:=by
 induction xs with
 | nil=>intro acc _;unfold lcN;rw[if_pos q4e,List.map_nil,List.append_nil]
 | cons x xs ih =>
  intro acc ha
  have h1:=h x (by simp)
  unfold lcN
  rw[if_pos q4e]
  cases hg:g x s with
  | none=>rw[hg] at h1;exact False.elim h1
  | some s1 =>
   rw[hg] at h1
   have h1:Ok (fun d s2=>d=f x∧q2a ws s2=s) (e s1):=h1
   show(if true=true then(match e s1 with|.ok d s3=>if acc.length<sizeLine then lcN ws g mYes e none xs (acc++[d]) (q2a ws s3) else .no|_=>.no) else _)=_
   rw[if_pos rfl]
   cases he:e s1 with
   | no=>rw[he] at h1;exact False.elim h1
   | er x s2=>rw[he] at h1;exact False.elim h1
   | ok d s2 =>
    rw[he] at h1
    obtain⟨rfl,h3⟩:=h1
    have hl:acc.length<sizeLine:=by rw[List.length_cons] at ha;omega
    show(if acc.length<sizeLine then lcN ws g mYes e none xs (acc++[f x]) (q2a ws s2) else .no)=_
    rw[if_pos hl,h3,ih (by rw[List.length_cons] at hz;omega) (fun y hy=>h y (by simp[hy])) _ (by rw[List.length_append,List.length_cons,List.length_nil];rw[List.length_cons] at ha;omega),List.append_assoc]
    rfl
/-- .. by an invariant (the state may change; what is told of the items) -/
theorem j5n {ws:List Nat} {g:Tg} {e:Mo D} {s:Stt} {xs:List D} (P:Nat→List D→Stt→Prop) (acc:List D) (h0:P 0 acc s) (hz:acc.length+xs.length≤sizeLine) (h:∀i x acc s,xs[i]? = some x→P i acc s→So (fun s1=>Ok (fun d s2=>P (i+1) (acc++[d]) (q2a ws s2)) (e s1)) (g x s)):∃l s',lcN ws g mYes e none xs acc s = .ok l s'∧P xs.length l s':=by
 induction xs generalizing P acc s with
 | nil=>exact⟨acc,s,by unfold lcN;rw[if_pos q4e],h0⟩
 | cons x xs ih =>
  have h1:=h 0 x acc s rfl h0
  unfold lcN
  rw[if_pos q4e]
  cases hg:g x s with
  | none=>rw[hg] at h1;exact False.elim h1
  | some s1 =>
   rw[hg] at h1
   have h1:Ok (fun d s2=>P 1 (acc++[d]) (q2a ws s2)) (e s1):=h1
   show ∃l s',(if true=true then(match e s1 with|.ok d s3=>if acc.length<sizeLine then lcN ws g mYes e none xs (acc++[d]) (q2a ws s3) else .no|_=>.no) else _)=_∧_
   rw[if_pos rfl]
   cases he:e s1 with
   | no=>rw[he] at h1;exact False.elim h1
   | er x s2=>rw[he] at h1;exact False.elim h1
   | ok d s2 =>
    rw[he] at h1
    have hl:acc.length<sizeLine:=by rw[List.length_cons] at hz;omega
    show ∃l s',(if acc.length<sizeLine then lcN ws g mYes e none xs (acc++[d]) (q2a ws s2) else .no)=_∧_
    rw[if_pos hl]
    exact ih (fun i=>P (i+1)) (acc++[d]) h1 (by rw[List.length_append,List.length_cons,List.length_nil];rw[List.length_cons] at hz;omega) fun i y acc s e=>h (i+1) y acc s e
theorem q6e (ns:List Int):q6k (ns.map D.int)=some ns:=by
 induction ns with
 | nil=>rfl
 | cons n ns ih=>show(q6k (ns.map D.int)).map (n::·)=_;rw[ih];rfl
theorem z8n (ns:List Int):D.pyL (ns.map D.int)=some (ns.map PyData.int):=by
 induction ns with
 | nil=>rfl
 | cons n ns ih=>show(D.py (.int n)).bind (fun x=>(D.pyL (ns.map D.int)).map (x::·))=_;rw[ih];rfl
theorem z6p {β:Type} {l:List β} {i:Int} (h:0≤i):atI l i=l[i.toNat]?:=by
 unfold atI ixN
 rw[if_pos h]
 by_cases q:i<l.length
 ·rw[if_pos q];rfl
 ·rw[if_neg q];show none=_;rw[List.getElem?_eq_none_iff.mpr (by omega)]
theorem j2v {ns:List Int} {i:Int} (h0:0≤i) (h1:i<ns.length):atI (ns.map D.int) i=some (.int (ns.getD i.toNat 0)):=by
 rw[z6p h0,List.getElem?_map,List.getElem?_eq_getElem (by omega:i.toNat<ns.length)]
 simp[List.getD,(by omega:i.toNat<ns.length)]
theorem z5t {β:Type} (xs:List β) {i:Int} (h:0≤i):cutL xs (some i) none=xs.drop i.toNat:=by
 unfold cutL
 have e1:HT.sIx xs.length xs.length none=xs.length:=rfl
 have e2:HT.sIx xs.length 0 (some i)=min i.toNat xs.length:=if_neg (by omega)
 rw[e1,e2]
 by_cases l:i.toNat≤xs.length
 ·rw[Nat.min_eq_left l,List.take_of_length_le (by rw[List.length_drop];exact Nat.le_refl _)]
 ·rw[Nat.min_eq_right (by omega),Nat.sub_self,List.take_zero,List.drop_eq_nil_of_le (by omega)]
theorem j1p {β:Type} (xs:List β) {i:Int} (h:0≤i):cutL xs none (some i)=xs.take i.toNat:=by
 unfold cutL
 have e1:HT.sIx xs.length 0 none=0:=rfl
 have e2:HT.sIx xs.length xs.length (some i)=min i.toNat xs.length:=if_neg (by omega)
 rw[e1,e2,List.drop_zero,Nat.sub_zero]
 by_cases l:i.toNat≤xs.length
 ·rw[Nat.min_eq_left l]
 ·rw[Nat.min_eq_right (by omega),List.take_of_length_le (Nat.le_refl _),List.take_of_length_le (by omega)]
theorem q8h {lo:Int} {n i:Nat} {d:D} (h:(rng lo n)[i]? = some d):i<n∧d = .int (lo+i):=by
 unfold rng at h
 rw[List.getElem?_map] at h
 obtain⟨j,e1,rfl⟩:=Option.map_eq_some_iff.mp h
 obtain⟨hlt,ej⟩:=List.getElem?_eq_some_iff.mp e1
 rw[List.getElem_range] at ej
 rw[List.length_range] at hlt
 subst ej
 exact⟨hlt,rfl⟩
theorem q7r {lo:Int} {n:Nat}:(rng lo n).length=n:=by unfold rng;rw[List.length_map,List.length_range]
theorem z6h {β:Type} {f:β→D} {l:List β} {i:Nat} {d:D} (h:(l.map f)[i]? = some d):∃x,l[i]? = some x∧d=f x:=by
 rw[List.getElem?_map] at h
 obtain⟨x,e,rfl⟩:=Option.map_eq_some_iff.mp h
 exact⟨x,e,rfl⟩
theorem q9g {l:List D} {i:Nat} {d:D} (h:(q7x l)[i]? = some d):∃x,l[i]? = some x∧d = .tup [.int (i:Nat),x]:=by
 unfold q7x at h
 rw[List.getElem?_map,List.getElem?_zipIdx] at h
 obtain⟨pr,e2,rfl⟩:=Option.map_eq_some_iff.mp h
 obtain⟨y,e3,rfl⟩:=Option.map_eq_some_iff.mp e2
 exact⟨y,e3,by rw[Nat.zero_add]⟩
theorem q7o {l:List D}:(q7x l).length=l.length:=by unfold q7x;rw[List.length_map,List.length_zipIdx]
theorem z6z (i j:Int):PyData.eqv (.int i) (.int j)=decide (i=j):=by
 show(i==j)=_
 by_cases h:i=j
 ·subst h;simp
 ·simp[h]
theorem z7j (ns ms:List Int):PyData.eqv (.list (ns.map PyData.int)) (.list (ms.map PyData.int))=decide (ns=ms):=Z.z8m ns ms
theorem z1a (ns:List Int):SeqAt.shaped (.list (ns.map PyData.int))=true:=Z.z1h ns
end Y
namespace Y
open PySem L2 Z
def Wo {α:Type} (Q:α→Stt→Prop) (X:Exn→Stt→Prop):Ro α→Prop
 | .ok a s=>Q a s
 | .er x s=>X x s
 | .no=>False
def Ws (N:Stt→Prop) (O:Rs→Prop):Rs→Prop
 | .nx s=>N s
 | .no=>False
 | r=>O r
abbrev Xf:Exn→Stt→Prop:=fun _ _=>False
section
variable {α β:Type} {Q:α→Stt→Prop} {QA:AI→Stt→Prop} {QD:D→Stt→Prop} {QL:List AI→Stt→Prop} {QV:List D→Stt→Prop} {QB:Bool→Stt→Prop} {QO:Option Int→Stt→Prop} {QI:Im→Stt→Prop} {X:Exn→Stt→Prop} {N:Stt→Prop} {O:Rs→Prop} {s:Stt} {i j:Nat} {m m1 m2 m3:Mo AI} {env:List (Option Ent)} {M:List Cn}
theorem q0g {r:Ro β} {f:β→Mo α} (h:Wo (fun a s=>Wo Q X (f a s)) X r):Wo Q X (r.bind f):=by cases r<;>exact h
theorem q3o {r:Ro β} {f:β→Ms} (h:Wo (fun a s=>Ws N O (f a s)) (fun x s=>O (.er x s)) r):Ws N O (r.toS f):=by cases r<;>exact h
theorem q0e {Q':α→Stt→Prop} {r:Ro α} (h:Wo Q X r) (k:∀a s,Q a s→Q' a s):Wo Q' X r:=by
 cases r with
 | ok a s=>exact k _ _ h
 | er x s=>exact h
 | no=>exact h
theorem w2m {a b:Ms} (h:Ws (fun s1=>Ws N O (b s1)) O (a s)):Ws N O (mSeq a b s):=by
 unfold mSeq
 cases q:a s<;>rw[q] at h<;>exact h
/-- the ways meet again at R -/
theorem j0b {a b:Ms} (R:Stt→Prop) (h:Ws R O (a s)) (k:∀s,R s→Ws N O (b s)):Ws N O (mSeq a b s):=by
 unfold mSeq
 cases q:a s with
 | nx s1=>rw[q] at h;exact k s1 h
 | _=>rw[q] at h;exact h
theorem j9j (h:N s):Ws N O (q3h s):=h
theorem j8h (h:Wo (fun _ s1=>N s1) (fun x s=>O (.er x s)) (m s)):Ws N O (q5n m s):=q3o h
theorem w0x {c:Mo Bool} {a b:Ms} (h:Wo (fun k s1=>if k=true then Ws N O (a s1) else Ws N O (b s1)) (fun x s=>O (.er x s)) (c s)):Ws N O (mIfS c a b s):=q3o (q0e h fun k s h=>by cases k<;>exact h)
theorem w2r (h:Wo (fun a s1=>Ws N O (asg i a s1)) (fun x s=>O (.er x s)) (m s)):Ws N O (mAsg i m s):=q3o h
theorem j5v {d:D} (h:N ⟨s.env.set i (some (.fz d)),s.M⟩):Ws N O (asg i (.val d) s):=h
theorem j8d {c:Cn} (h:N ⟨s.env.set i (some (.ow c)),s.M⟩):Ws N O (asg i (.new c) s):=h
theorem j7p {c:Cn} (e:q2s s j=some (.ow c)) (h:N ⟨(s.env.set j (some (.fz c.toD))).set i (some (.fz c.toD)),s.M⟩):Ws N O (asg i (.slot j) s):=by
 show Ws N O ((match q2s s j with|some (.ow c)=>Ro.ok c.toD ⟨s.env.set j (some (.fz c.toD)),s.M⟩|some (.fz d)=>Ro.ok d s|_=>Ro.no).toS fun d s1=>.nx ⟨s1.env.set i (some (.fz d)),s1.M⟩)
 rw[e];exact h
theorem w1s (h:Wo (fun a s1=>Ws N O (Y.ret a s1)) (fun x s=>O (.er x s)) (m s)):Ws N O (mRet m s):=q3o h
theorem j6o {d:D} (h:O (.rt (.val d) s)):Ws N O (Y.ret (.val d) s):=h
theorem j0p {c:Cn} (h:O (.rt (.new c) s)):Ws N O (Y.ret (.new c) s):=h
theorem j9s {c:Cn} (e:q2s s j=some (.ow c)) (h:O (.rt (.new c) ⟨s.env.set j none,s.M⟩)):Ws N O (Y.ret (.slot j) s):=by
 show Ws N O (match q2s s j with|some (.ow c)=>.rt (.new c) ⟨s.env.set j none,s.M⟩|some (.fz d)=>.rt (.val d) s|_=>.no)
 rw[e];exact h
theorem j5x (h:O (.rt (.val .non) s)):Ws N O (w1x s):=h
theorem j3l {d:D} (e:q2s s i=some (.fz d)) (h:QA (.val d) s):Wo QA X (q0d i s):=by unfold q0d;rw[e];exact h
theorem j3v {c:Cn} (e:q2s s i=some (.ow c)) (h:QA (.slot i) s):Wo QA X (q0d i s):=by unfold q0d;rw[e];exact h
theorem w_c {d:D} (h:QA (.val d) s):Wo QA X (mC d s):=h
theorem w_op {f:Stt→AI→AI→Ro AI} (h:Wo (fun a s1=>Wo (fun b s2=>Wo QA X (f s2 a b)) X (m2 s1)) X (m1 s)):Wo QA X (mOp f m1 m2 s):=q0g (q0e h fun _ _ h=>q0g h)
theorem w_un {f:Stt→AI→Ro AI} (h:Wo (fun a s1=>Wo QA X (f s1 a)) X (m1 s)):Wo QA X (mUn f m1 s):=q0g h
theorem w_I0 {g:Int→Int→D} {i j:Int} (h:QA (.val (g i j)) s):Wo QA X (fI0 g s (.val (.int i)) (.val (.int j))):=h
theorem w_I {C:Int→Int→Prop} {g:Int→Int→D} {i j:Int} (c:C i j) (h:QA (.val (g i j)) s):Wo QA X (fI C g s (.val (.int i)) (.val (.int j))):=by
 unfold fI;simp only[];rw[if_pos c];exact h
theorem j6q {i j:Int} (h:QA (.val (.int (i+j))) s):Wo QA X (fAdd s (.val (.int i)) (.val (.int j))):=h
def noS:AI→Bool
 | .val (.int _)=>false
 | .val (.str _)=>false
 | _=>true
theorem q7t {a b:AI} {l l':List D} (n:noS a=true) (e1:q1v s a=some l) (e2:q1v s b=some l') (c:l.length+l'.length≤sizeLine) (h:QA (.new (.lst (l++l'))) s):Wo QA X (fAdd s a b):=by
 unfold fAdd
 split
 ·cases n
 ·cases n
 ·rw[e1,e2];simp only[];rw[if_pos c];exact h
theorem j5d {i j:Int} (c:CMul i j) (h:QA (.val (.int (i*j))) s):Wo QA X (fMul s (.val (.int i)) (.val (.int j))):=by
 unfold fMul;simp only[];rw[if_pos c];exact h
theorem q5o {a:AI} {l:List D} {j:Int} (n:noS a=true) (e1:z7r s a=some l) (c : -(2^63)≤j∧j<2^63∧l.length*j.toNat≤sizeLine) (h:QA (.new (.lst (List.replicate j.toNat l).flatten)) s):Wo QA X (fMul s a (.val (.int j))):=by
 unfold fMul
 split
 ·cases n
 ·rename_i heq;cases heq;rw[e1];simp only[];rw[if_pos (show CMuL _ _ from c)];exact h
 ·rename_i h1 h2;first|exact(h1 _ rfl).elim|exact(h2 _ rfl).elim|exact(h1 _ _ rfl).elim|exact(h2 _ _ rfl).elim
theorem w0u {i j:Int} (h:QA (.val (.bl (decide (i=j)))) s):Wo QA X (fEq s (.val (.int i)) (.val (.int j))):=by
 show Wo QA X (.ok (.val (.bl (PyData.eqv (.int i) (.int j)))) s)
 rw[z6z];exact h
theorem w0q {i j:Int} (h:QA (.val (.bl (!decide (i=j)))) s):Wo QA X (fNe s (.val (.int i)) (.val (.int j))):=by
 show Wo QA X (.ok (.val (.bl (!PyData.eqv (.int i) (.int j)))) s)
 rw[z6z];exact h
theorem w_eq {a b:AI} {k:Bool} (e:eqOf s a b=some k) (h:QA (.val (.bl k)) s):Wo QA X (fEq s a b):=by unfold fEq;rw[e];exact h
theorem w_ne {a b:AI} {k:Bool} (e:eqOf s a b=some k) (h:QA (.val (.bl (!k))) s):Wo QA X (fNe s a b):=by unfold fNe;rw[e];exact h
theorem z1v {a b:AI} {x y:PyData} {k:Bool} (e1:pyOf s a=some x) (e2:pyOf s b=some y) (h1:SeqAt.shaped x=true) (h2:SeqAt.shaped y=true) (e:x.eqv y=k):eqOf s a b=some k:=by
 unfold eqOf;rw[e1,e2];show(if SeqAt.shaped x&&SeqAt.shaped y then some (x.eqv y) else none)=_
 rw[h1,h2,e];rfl
theorem w2o {x y:Bool} (h:QA (.val (.bl (x==y))) s):Wo QA X (fIs s (.val (.bl x)) (.val (.bl y))):=h
theorem j7g {x y:Bool} (h:QA (.val (.bl (!(x==y)))) s):Wo QA X (fIsn s (.val (.bl x)) (.val (.bl y))):=h
theorem z9y {a:AI} {d:D} (e:look s a=some d):isOf s a (.val .non)=some d.isN:=by
 unfold isOf
 split
 ·rename_i h;cases h
 ·rw[e];rfl
 ·rename_i h1 h2;first|exact(h1 rfl).elim|exact(h2 rfl).elim
theorem w2l {a:AI} {d:D} (e:look s a=some d) (h:QA (.val (.bl d.isN)) s):Wo QA X (fIs s a (.val .non)):=by unfold fIs;rw[z9y e];exact h
theorem w0c {a:AI} {d:D} (e:look s a=some d) (h:QA (.val (.bl (!d.isN))) s):Wo QA X (fIsn s a (.val .non)):=by unfold fIsn;rw[z9y e];exact h
theorem z3z {a:AI} {l:List D} {i:Int} {d:D} (n:noS a=true) (e0:q3b s a=none) (e1:q1v s a=some l) (e2:atI l i=some d) (h:QA (.val d) s):Wo QA X (fIxY s a (.val (.int i))):=by
 unfold fIxY;rw[e0];simp only[]
 unfold fIx;simp only[]
 split
 ·cases n
 ·rw[e1];simp only[];rw[e2];exact h
theorem w0v {a:AI} {l:List D} {i:Int} {d:D} (n:noS a=true) (e0:q3b s a=none) (e3:q1v s a=none) (e1:z0v s a=some l) (e2:atI l i=some d) (h:QA (.val d) s):Wo QA X (fIxY s a (.val (.int i))):=by
 unfold fIxY;rw[e0];simp only[]
 unfold fIx;simp only[]
 split
 ·cases n
 ·rw[e3];simp only[];rw[e1];simp only[];rw[e2];exact h
theorem z6t {a:AI} {ns:List Int} {i:Int} (n:noS a=true) (e0:q3b s a=none) (e1:q1v s a=some (ns.map D.int)) (h0:0≤i) (h1:i<ns.length) (h:QA (.val (.int (ns.getD i.toNat 0))) s):Wo QA X (fIxY s a (.val (.int i))):=z3z n e0 e1 (j2v h0 h1) h
theorem w0z (h:Wo (fun a s1=>∃d b,look s1 a=some d∧truD s1.M d=some b∧QB b s1) X (m s)):Wo QB X (mTru m s):=q0g (q0e h fun a s1 ⟨d,b,e1,e2,k⟩=>by rw[e1];show Wo QB X (match truD s1.M d with|some b=>Ro.ok b s1|none=>.no);rw[e2];exact k)
theorem w_bl (h:Wo (fun a s1=>∃b,a = .val (.bl b)∧QB b s1) X (m s)):Wo QB X (mBl m s):=q0g (q0e h fun a s1 ⟨b,e,k⟩=>by subst e;exact k)
theorem w1n {b:Bool} (h:QB b s):∃b',AI.val (.bl b) = .val (.bl b')∧QB b' s:=⟨b,rfl,h⟩
theorem w1i {c1 c2:Mo Bool} (h:Wo (fun k s1=>if k=true then Wo QB X (c2 s1) else QB false s1) X (c1 s)):Wo QB X (mAnd c1 c2 s):=q0g (q0e h fun k s1 h=>by cases k<;>exact h)
theorem w_or {c1 c2:Mo Bool} (h:Wo (fun k s1=>if k=true then QB true s1 else Wo QB X (c2 s1)) X (c1 s)):Wo QB X (mOr c1 c2 s):=q0g (q0e h fun k s1 h=>by cases k<;>exact h)
theorem w1d {c1:Mo Bool} (h:Wo (fun k s1=>QB (!k) s1) X (c1 s)):Wo QB X (mNot c1 s):=q0g h
theorem j7b (h:Wo (fun a s1=>∃k,a = .val (.bl k)∧if k=true then Wo QA X (m2 s1) else QA (.val (.bl false)) s1) X (m1 s)):Wo QA X (z3i m1 m2 s):=q0g (q0e h fun a s1 ⟨k,e,h⟩=>by subst e;cases k<;>exact h)
theorem w1f (h:Wo (fun a s1=>∃k,a = .val (.bl k)∧if k=true then QA (.val (.bl true)) s1 else Wo QA X (m2 s1)) X (m1 s)):Wo QA X (mOrV m1 m2 s):=q0g (q0e h fun a s1 ⟨k,e,h⟩=>by subst e;cases k<;>exact h)
theorem j5t (h:Wo (fun a s1=>∃k,a = .val (.bl k)∧QA (.val (.bl (!k))) s1) X (m1 s)):Wo QA X (j1r m1 s):=q0g (q0e h fun a s1 ⟨k,e,h⟩=>by subst e;exact h)
theorem w1t {b:Bool} {P:Bool→Prop} (h:P b):∃k,AI.val (.bl b) = .val (.bl k)∧P k:=⟨b,rfl,h⟩
theorem w1b {c:Mo Bool} {m1 m2:Mo α} (h:Wo (fun k s1=>if k=true then Wo Q X (m1 s1) else Wo Q X (m2 s1)) X (c s)):Wo Q X (mIf c m1 m2 s):=q0g (q0e h fun k s1 h=>by cases k<;>exact h)
theorem j4e {f f':Stt→AI→AI→Ro AI} (h:Wo (fun a s1=>Wo (fun b s2=>Wo (fun z s3=>∃k,z = .val (.bl k)∧if k=true then Wo (fun c s4=>Wo QA X (f' s4 b c)) X (m3 s3) else QA (.val (.bl false)) s3) X (f s2 a b)) X (m2 s1)) X (m1 s)):Wo QA X (z2x f f' m1 m2 m3 s) :=
 q0g (q0e h fun a s1 h=>q0g (q0e h fun b s2 h=>q0g (q0e h fun z s3 ⟨k,e,h⟩=>by subst e;cases k with|true=>exact q0g h|false=>exact h)))
theorem j8y (h:QL [] s):Wo QL X (aNil s):=h
theorem j2u {r:Mo (List AI)} (h:Wo (fun a s1=>Wo (fun as s2=>QL (a::as) s2) X (r s1)) X (m s)):Wo QL X (q0y m r s):=q0g (q0e h fun _ _ h=>q0g h)
theorem j4u (h:QV [] s):Wo QV X (vNil s):=h
theorem j3x {r:Mo (List D)} (h:Wo (fun d s1=>Wo (fun as s2=>QV (d::as) s2) X (r s1)) X (mV m s)):Wo QV X (q0f m r s):=q0g (q0e h fun _ _ h=>q0g h)
theorem w_V (h:Wo (fun a s1=>Wo QD X (toV a s1)) X (m s)):Wo QD X (mV m s):=q0g h
theorem j6d {d:D} (h:QD d s):Wo QD X (toV (.val d) s):=h
theorem j9d {c:Cn} (h:QD c.toD s):Wo QD X (toV (.new c) s):=h
theorem w0j {c:Cn} (e:q2s s i=some (.ow c)) (h:QD c.toD ⟨s.env.set i (some (.fz c.toD)),s.M⟩):Wo QD X (toV (.slot i) s):=by
 show Wo QD X (match q2s s i with|some (.ow c)=>Ro.ok c.toD ⟨s.env.set i (some (.fz c.toD)),s.M⟩|some (.fz d)=>Ro.ok d s|_=>Ro.no)
 rw[e];exact h
theorem w2b {r:Mo (List D)} (h:Wo (fun l s1=>l.length≤sizeLine∧QA (.new (.lst l)) s1) X (r s)):Wo QA X (mLst r s):=q0g (q0e h fun l s1 ⟨c,h⟩=>by show Wo QA X (if _ then _ else _);rw[if_pos c];exact h)
theorem w2i {r:Mo (List D)} (h:Wo (fun l s1=>l.length≤sizeLine∧QA (.val (.tup l)) s1) X (r s)):Wo QA X (mTup r s):=q0g (q0e h fun l s1 ⟨c,h⟩=>by show Wo QA X (if _ then _ else _);rw[if_pos c];exact h)
theorem w2c (h:QO none s):Wo QO X (oNo s):=h
theorem w2a (h:Wo (fun a s1=>∃i,a = .val (.int i)∧QO (some i) s1) X (m s)):Wo QO X (oSm m s):=q0g (q0e h fun a s1 ⟨i,e,h⟩=>by subst e;exact h)
theorem j5y {i:Int} {P:Int→Prop} (h:P i):∃k,AI.val (.int i) = .val (.int k)∧P k:=⟨i,rfl,h⟩
theorem w_sl {ml mh:Mo (Option Int)} (h:Wo (fun a s1=>Wo (fun l s2=>Wo (fun u s3=>Wo QA X (fSl s3 a l u)) X (mh s2)) X (ml s1)) X (m s)):Wo QA X (mSl m ml mh s):=q0g (q0e h fun _ _ h=>q0g (q0e h fun _ _ h=>q0g h))
theorem w0m {a:AI} {l:List D} {lo hi:Option Int} (n:noS a=true) (e:q1v s a=some l) (h:QA (.new (.lst (cutL l lo hi))) s):Wo QA X (fSl s a lo hi):=by
 unfold fSl
 split
 ·cases n
 ·rw[e];exact h
theorem w_cb {f:Stt→List AI→Ro AI} {r:Mo (List AI)} (h:Wo (fun as s1=>Wo QA X (f s1 as)) X (r s)):Wo QA X (mCB f r s):=q0g h
theorem j5l {a:AI} {d:D} {n:Nat} (e1:look s a=some d) (e2:lenD s.M d=some n) (h:QA (.val (.int (n:Int))) s):Wo QA X (fLen s [a]):=by
 unfold fLen;simp only[];rw[e1];show Wo QA X (match lenD s.M d with|some n=>_|none=>_);rw[e2];exact h
theorem z2q {g:List Int→Option D} {a:AI} {l:List D} {ns:List Int} {d:D} (e1:q1v s a=some l) (e2:q6k l=some ns) (e3:g ns=some d) (h:QA (.val d) s):Wo QA X (q6u g s [a]):=by
 unfold q6u;simp only[];rw[e1];show Wo QA X (match(q6k l).bind g with|some d=>_|none=>_);rw[e2];show Wo QA X (match g ns with|some d=>_|none=>_);rw[e3];exact h
theorem w0g {g:List Bool→D} {a:AI} {l:List D} {bs:List Bool} (e1:q1v s a=some l) (e2:blsD l=some bs) (h:QA (.val (g bs)) s):Wo QA X (fBls g s [a]):=by
 unfold fBls;simp only[];rw[e1];show Wo QA X (match blsD l with|some d=>_|none=>_);rw[e2];exact h
theorem w_I2 {g:Int→Int→Int} {i j:Int} (h:QA (.val (.int (g i j))) s):Wo QA X (fI2 g s [.val (.int i),.val (.int j)]):=h
theorem j6n {a:AI} {l:List D} (e:q1v s a=some l) (h:QA (.new (.lst l)) s):Wo QA X (j4a s [a]):=by unfold j4a;simp only[];rw[e];exact h
theorem j7h {k:Bool} (h:QA (.val (.int (if k then 1 else 0))) s):Wo QA X (fInt s [.val (.bl k)]):=h
theorem q9r {a:AI} {n:String} {t:String} {d:D} {b:Bool} (e1:look s a=some d) (e2:z9i s.M d=some n) (e3:kitB n t=some b) (h:QA (.val (.bl b)) s):Wo QA X (fIsi s [a,.val (.ty t)]):=by
 unfold fIsi;simp only[];rw[e1];show Wo QA X (match(z9i s.M d).bind fun n=>kitB n t with|some b=>_|none=>_);rw[e2];show Wo QA X (match kitB n t with|some b=>_|none=>_);rw[e3];exact h
theorem w_bm {f:Stt→AI→List D→Ro AI} {mo:Mo AI} {ma:Mo (List D)} (h:Wo (fun a s1=>∃l,q1v s1 a=some l∧Wo (fun ds s2=>Wo QA X (f s2 a ds)) X (ma s1)) X (mo s)):Wo QA X (mBM f mo ma s):=q0g (q0e h fun a s1 ⟨l,e,h⟩=>by
 show Wo QA X (match q1v s1 a with|some _=>_|none=>_);rw[e];exact q0g h)
theorem z2a {a:AI} {l:List D} {d:D} (e:getC s a=some (.lst l)) (c:l.length<sizeLine) (h:QA (.val .non) (setC s a (.lst (l++[d])))):Wo QA X (fApp s a [d]):=by
 unfold fApp;rw[e];simp only[];rw[if_pos c];exact h
theorem j2h {f:Mf} {ma:Mo (List D)} (h:Wo (fun ds s1=>Fo (fun a M'=>QA a ⟨s1.env,M'⟩) (f ds s1.M)) X (ma s)):Wo QA X (q2q f ma s):=q0g (q0e h fun ds s1 h=>by
 show Wo QA X (match f ds s1.M with|.ok a M'=>_|_=>_)
 cases q:f ds s1.M<;>rw[q] at h<;>exact h)
theorem q4x {P:AI→List Cn→Prop} {r:Fr} {a:AI} {M':List Cn} (e:r = .ok a M') (h:P a M'):Fo P r:=by subst e;exact h
theorem q6j {P:AI→List Cn→Prop} {r:Fr} {a:AI} {M':List Cn} (h:Fo (fun a' M''=>a'=a∧M''=M') r):r = .ok a M':=by
 cases r with
 | ok a' M''=>obtain⟨rfl,rfl⟩:=h;rfl
 | er _ _=>exact False.elim h
 | no=>exact False.elim h
/-- how a def ends -/
def Oe (P:AI→List Cn→Prop):Rs→Prop
 | .rt a s=>P a s.M
 | _=>False
theorem f_fn {P:AI→List Cn→Prop} {np n:Nat} {b:Ms} {ds:List D} (hl:ds.length=np) (h:Ws (fun s=>P (.val .non) s.M) (Oe P) (b ⟨ds.map (fun d=>some (.fz d))++List.replicate (n-ds.length) none,M⟩)):Fo P (mFn np n b ds M):=by
 unfold mFn
 rw[if_pos hl]
 cases q:b ⟨ds.map (fun d=>some (.fz d))++List.replicate (n-ds.length) none,M⟩<;>rw[q] at h<;>exact h
theorem w1o {f:Int→Int→Int} {x:Int} (e:q2s s i=some (.fz (.int x))) (h:Wo (fun a s1=>∃y,a = .val (.int y)∧N ⟨s1.env.set i (some (.fz (.int (f x y)))),s1.M⟩) (fun x s=>O (.er x s)) (m s)):Ws N O (mAug i f m s):=by
 unfold mAug;rw[e]
 exact q3o (q0e h fun a s1 ⟨y,e,h⟩=>by subst e;exact h)
theorem j5w {g:Tg} (h:Wo (fun d s1=>So N (g d s1)) (fun x s=>O (.er x s)) (mV m s)):Ws N O (j1k g m s):=q3o (q0e h fun d s1 h=>by
 show Ws N O (match g d s1 with|some s2=>.nx s2|none=>.no)
 cases q:g d s1<;>rw[q] at h<;>exact h)
theorem w0b {mo mi mv:Mo AI} (h:Wo (fun d s1=>Wo (fun a s2=>Wo (fun i s3=>So N (q5w a i d s3)) (fun x s=>O (.er x s)) (mV mi s2)) (fun x s=>O (.er x s)) (mo s1)) (fun x s=>O (.er x s)) (mV mv s)):Ws N O (z0y mo mi mv s) :=
 q3o (q0e h fun d s1 h=>q3o (q0e h fun a s2 h=>q3o (q0e h fun i s3 h=>by
  show Ws N O (match q5w a i d s3 with|some s4=>.nx s4|none=>.no)
  cases q:q5w a i d s3<;>rw[q] at h<;>exact h)))
theorem z9r {P:Stt→Prop} {s':Stt} {r:Option Stt} (e:r=some s') (h:P s'):So P r:=by subst e;exact h
def Lo (P N:Stt→Prop) (O:Rs→Prop):Rs→Prop
 | .ct s=>P s
 | .bk s=>N s
 | r=>O r
theorem w1w {mi:Mo Im} {g:Tg} {b:Ms} (h:Wo (fun im s1=>Ws N O (forN g b im.ck im.xs s1)) (fun x s=>O (.er x s)) (mi s)):Ws N O (mFor mi g b s):=q3o h
theorem z6v {g:Tg} {b:Ms} {xs:List D} (P:Nat→Stt→Prop) (h0:P 0 s) (hs:∀i x s,xs[i]? = some x→P i s→So (fun s1=>Ws (P (i+1)) (Lo (P (i+1)) N O) (b s1)) (g x s)) (hd:∀s,P xs.length s→N s):Ws N O (forN g b none xs s):=by
 induction xs generalizing P s with
 | nil=>rw[z7y];exact hd s h0
 | cons x xs ih =>
  have h1:=hs 0 x s rfl h0
  cases hg:g x s with
  | none=>rw[hg] at h1;exact False.elim h1
  | some s1 =>
   rw[hg] at h1
   have h1:Ws (P 1) (Lo (P 1) N O) (b s1):=h1
   rw[z4i hg]
   cases hb:b s1 with
   | nx s2=>rw[hb] at h1;exact ih (fun i=>P (i+1)) h1 (fun i y s e=>hs (i+1) y s e) hd
   | ct s2=>rw[hb] at h1;exact ih (fun i=>P (i+1)) h1 (fun i y s e=>hs (i+1) y s e) hd
   | bk s2=>rw[hb] at h1;exact h1
   | rt a s2=>rw[hb] at h1;exact h1
   | er x s2=>rw[hb] at h1;exact h1
   | no=>rw[hb] at h1;exact h1
theorem j4f {c:Mo Bool} {b:Ms} (P:Nat→Stt→Prop) (n:Nat) (h0:P n s) (hs:∀n s,P n s→Wo (fun k s1=>if k=true then Ws (fun s2=>∃m,m<n∧P m s2) (Lo (fun s2=>∃m,m<n∧P m s2) N O) (b s1) else N s1) (fun x s=>O (.er x s)) (c s)) (hO:∀r,O r→r≠.no):Ws N O (mWh c b s):=by
 have key:∀n s,P n s→∃k r,whN c b k s=r∧r≠.no∧Ws N O r:=by
  intro n
  induction n using Nat.strongRecOn with
  | ind n ih =>
   intro s h
   have h1:=hs n s h
   cases hc:c s with
   | no=>rw[hc] at h1;exact False.elim h1
   | er x s1=>rw[hc] at h1;exact⟨1,.er x s1,by unfold whN;rw[hc];rfl,(fun z=>nomatch z),h1⟩
   | ok k s1 =>
    rw[hc] at h1
    have h1:if k=true then Ws (fun s2=>∃m,m<n∧P m s2) (Lo (fun s2=>∃m,m<n∧P m s2) N O) (b s1) else N s1:=h1
    cases k with
    | false =>
     rw[if_neg Bool.false_ne_true] at h1
     exact⟨1,.nx s1,by unfold whN;rw[hc];rfl,(fun z=>nomatch z),h1⟩
    | true =>
     rw[if_pos rfl] at h1
     have go:∀s2,(∃m,m<n∧P m s2)→(b s1 = .nx s2∨b s1 = .ct s2)→∃k r,whN c b k s=r∧r≠.no∧Ws N O r:=by
      rintro s2 ⟨m,hm,hp⟩ hb
      obtain⟨k,r,e,nr,w⟩:=ih m hm s2 hp
      refine⟨k+1,r,?_,nr,w⟩
      unfold whN;rw[hc]
      show(if true=true then(match b s1 with|.nx s2=>whN c b k s2|.ct s2=>whN c b k s2|.bk s2=>.nx s2|.rt a s2=>.rt a s2|.er x s2=>.er x s2|.no=>.no) else Rs.nx s1)=_
      rw[if_pos rfl]
      rcases hb with hb|hb<;>rw[hb]<;>exact e
     have fin:∀r0 r,b s1=r0→(match r0 with|.nx s2=>whN c b 0 s2|.ct s2=>whN c b 0 s2|.bk s2=>.nx s2|.rt a s2=>.rt a s2|.er x s2=>.er x s2|.no=>.no)=r→whN c b 1 s=r:=by
      intro r0 r hb e
      unfold whN;rw[hc]
      show(if true=true then(match b s1 with|.nx s2=>whN c b 0 s2|.ct s2=>whN c b 0 s2|.bk s2=>.nx s2|.rt a s2=>.rt a s2|.er x s2=>.er x s2|.no=>.no) else Rs.nx s1)=_
      rw[if_pos rfl,hb];exact e
     cases hb:b s1 with
     | nx s2=>rw[hb] at h1;exact go s2 h1 (.inl hb)
     | ct s2=>rw[hb] at h1;exact go s2 h1 (.inr hb)
     | bk s2=>rw[hb] at h1;exact⟨1,.nx s2,fin _ _ hb rfl,(fun z=>nomatch z),h1⟩
     | rt a s2=>rw[hb] at h1;exact⟨1,.rt a s2,fin _ _ hb rfl,(fun z=>nomatch z),h1⟩
     | er x s2=>rw[hb] at h1;exact⟨1,.er x s2,fin _ _ hb rfl,(fun z=>nomatch z),h1⟩
     | no=>rw[hb] at h1;exact False.elim h1
 obtain⟨k,r,e,nr,w⟩:=key n s h0
 rw[j7a e nr];exact w
theorem j5i {r:Mo (List AI)} (h:Wo (fun as s1=>∃n:Int,as=[.val (.int n)]∧(-(2^62)≤n∧n<2^62)∧QI ⟨rng 0 n.toNat,none⟩ s1) X (r s)):Wo QI X (z0s r s):=q0g (q0e h fun as s1 ⟨n,e,c,h⟩=>by subst e;simp only[];rw[if_pos (show CRg1 n from c)];exact h)
theorem q9k {n:Int} {P:Int→Prop} (c : -(2^62)≤n∧n<2^62) (h:P n):∃m:Int,[AI.val (.int n)]=[.val (.int m)]∧(-(2^62)≤m∧m<2^62)∧P m:=⟨n,rfl,c,h⟩
theorem j8o {r:Mo (List AI)} (h:Wo (fun as s1=>∃i j:Int,as=[.val (.int i),.val (.int j)]∧(-(2^62)≤i∧i<2^62∧-(2^62)≤j∧j<2^62)∧QI ⟨rng i (j-i).toNat,none⟩ s1) X (r s)):Wo QI X (w1k r s):=q0g (q0e h fun as s1 ⟨i,j,e,c,h⟩=>by subst e;simp only[];rw[if_pos (show CRg2 i j from c)];exact h)
theorem z5h {i j:Int} {P:Int→Int→Prop} (c : -(2^62)≤i∧i<2^62∧-(2^62)≤j∧j<2^62) (h:P i j):∃i' j':Int,[AI.val (.int i),.val (.int j)]=[.val (.int i'),.val (.int j')]∧(-(2^62)≤i'∧i'<2^62∧-(2^62)≤j'∧j'<2^62)∧P i' j':=⟨i,j,rfl,c,h⟩
theorem w_wl (h:Wo (fun d s1=>∃l,Y.q4g s1.M d=some l∧QI ⟨l,ckOf d l⟩ s1) X (mV m s)):Wo QI X (mWL m s):=q0g (q0e h fun d s1 ⟨l,e,h⟩=>by show Wo QI X (match Y.q4g s1.M d with|some l=>_|none=>_);rw[e];exact h)
theorem w_wt (h:Wo (fun d s1=>∃l,q9j d=some l∧QI ⟨l,none⟩ s1) X (mV m s)):Wo QI X (mWT m s):=q0g (q0e h fun d s1 ⟨l,e,h⟩=>by show Wo QI X (match q9j d with|some l=>_|none=>_);rw[e];exact h)
theorem w_we {r:Mo (List D)} (h:Wo (fun ds s1=>∃d l,ds=[d]∧Y.q4g s1.M d=some l∧QI ⟨q7x l,ckOf d l⟩ s1) X (r s)):Wo QI X (mWE r s):=q0g (q0e h fun ds s1 ⟨d,l,e0,e,h⟩=>by subst e0;show Wo QI X (match Y.q4g s1.M d with|some l=>_|none=>_);rw[e];exact h)
theorem w_ws (h:Wo (fun a s1=>∃x,a = .val (.str x)∧QI ⟨strL x,none⟩ s1) X (m s)):Wo QI X (mWS m s):=q0g (q0e h fun a s1 ⟨x,e,h⟩=>by subst e;exact h)
theorem w_lc {ws:List Nat} {mi:Mo Im} {g:Tg} {c:Mo Bool} {e:Mo AI} (h:Wo (fun im s1=>∃l s2,lcN ws g c (mV e) im.ck im.xs [] (q2a ws s1) = .ok l s2∧QA (.new (.lst l)) ⟨Y.rest s1.env s2.env ws,s2.M⟩) X (mi s)):Wo QA X (mLc ws mi g c e s):=q0g (q0e h fun im s1 ⟨l,s2,e,h⟩=>by
 show Wo QA X (match lcN ws g c (mV _) im.ck im.xs [] (q2a ws s1) with|.ok l s2=>_|_=>_)
 rw[e];exact h)
/-- every item is f of its part; the state comes back -/
theorem q5y {ws:List Nat} {g:Tg} {e:Mo D} {xs:List D} {P:List D→Stt→Prop} (f:D→D) (hz:xs.length≤sizeLine) (h:∀x∈xs,So (fun s1=>Wo (fun d s2=>d=f x∧q2a ws s2=s) Xf (e s1)) (g x s)) (k:P (xs.map f) s):∃l s2,lcN ws g mYes e none xs [] s = .ok l s2∧P l s2:=by
 refine⟨xs.map f,s,?_,k⟩
 have:=j9p (ws:=ws) (g:=g) (e:=e) (s:=s) f hz (fun x hx=>by
  have h1:=h x hx
  cases hg:g x s with
  | none=>rw[hg] at h1;exact h1
  | some s1 =>
   rw[hg] at h1
   have h1:Wo (fun d s2=>d=f x∧q2a ws s2=s) Xf (e s1):=h1
   show Ok _ (e s1)
   cases q:e s1<;>rw[q] at h1<;>exact h1) [] (by simpa using hz)
 simpa using this
theorem j3q {ws:List Nat} {g:Tg} {e:Mo D} {xs:List D} {P:List D→Stt→Prop} (I:Nat→List D→Stt→Prop) (h0:I 0 [] s) (hz:xs.length≤sizeLine) (h:∀i x acc s,xs[i]? = some x→I i acc s→So (fun s1=>Wo (fun d s2=>I (i+1) (acc++[d]) (q2a ws s2)) Xf (e s1)) (g x s)) (k:∀l s',I xs.length l s'→P l s'):∃l s2,lcN ws g mYes e none xs [] s = .ok l s2∧P l s2:=by
 obtain⟨l,s',e1,h1⟩:=j5n (ws:=ws) (g:=g) (e:=e) (xs:=xs) I [] h0 (by simpa using hz) (fun i x acc s hx hi=>by
  have h1:=h i x acc s hx hi
  cases hg:g x s with
  | none=>rw[hg] at h1;exact h1
  | some s1 =>
   rw[hg] at h1
   have h1:Wo (fun d s2=>I (i+1) (acc++[d]) (q2a ws s2)) Xf (e s1):=h1
   show Ok _ (e s1)
   cases q:e s1<;>rw[q] at h1<;>exact h1)
 exact⟨l,s',e1,k l s' h1⟩
theorem j0l {P:Stt→Prop} (h:P s):So P (some s):=h
end
end Y
namespace Y
open PySem L2 Z
section
variable {QA:AI→Stt→Prop} {X:Exn→Stt→Prop} {s:Stt}
theorem q5l {x:Str} (h:PySem.PyData.strOk x=true):SeqAt.shaped (.str x)=true:=by
 unfold SeqAt.shaped
 rw[show PyData.canLay0 (.str x)=true from h];rfl
theorem z5q (x y:Str):PyData.eqv (.str x) (.str y)=decide (x=y):=by
 show(x==y)=_
 by_cases h:x=y
 ·subst h;simp
 ·simp[h]
theorem w0n {x y:Str} (c:PySem.PyData.strOk x=true) (c':PySem.PyData.strOk y=true) (h:QA (.val (.bl (decide (x=y)))) s):Wo QA X (fEq s (.val (.str x)) (.val (.str y))) :=
 w_eq (z1v (x:=.str x) (y:=.str y) rfl rfl (q5l c) (q5l c') (z5q x y)) h
theorem w2d {x y:Str} (c:PySem.PyData.strOk x=true) (c':PySem.PyData.strOk y=true) (h:QA (.val (.bl (!decide (x=y)))) s):Wo QA X (fNe s (.val (.str x)) (.val (.str y))) :=
 w_ne (z1v (x:=.str x) (y:=.str y) rfl rfl (q5l c) (q5l c') (z5q x y)) h
end
end Y
namespace Y
open PySem L2 Z
mutual
def D.noId:D→Bool
 | .tup l=>D.noIdL l
 | .ctp l=>D.noIdL l
 | .lst l=>D.noIdL l
 | .clst l=>D.noIdL l
 | .dK l=>D.noIdK l
 | .dT l=>D.noIdT l
 | .cid _=>false
 | _=>true
def D.noIdL:List D→Bool
 | []=>true
 | d::l=>d.noId&&D.noIdL l
def D.noIdK:List (Key×D)→Bool
 | []=>true
 | (_,d)::l=>d.noId&&D.noIdK l
def D.noIdT:List (List Key×D)→Bool
 | []=>true
 | (_,d)::l=>d.noId&&D.noIdT l
end
def D.scal:D→Bool
 | .non=>true
 | .bl _=>true
 | .int _=>true
 | .str _=>true
 | _=>false
section
variable {K:PySem.W.Frag} {ct:Ct} {H0:Hp} {W:WX} {S:Sh} {s:Stt} {σ:St} {H:Hp} {G:Hp} {α α':Nat→Addr} {n:Nat}
theorem q9d:∀{l:List (Key×D)},D.noIdK l=true→D.noIdL (l.map Prod.snd)=true
 | [],_=>rfl
 | (k,d)::l,h=>by
  have h:(d.noId&&D.noIdK l)=true:=h
  rw[Bool.and_eq_true] at h
  show(d.noId&&D.noIdL (l.map Prod.snd))=true
  rw[h.1,q9d h.2];rfl
theorem q8w:∀{l:List (List Key×D)},D.noIdT l=true→D.noIdL (l.map Prod.snd)=true
 | [],_=>rfl
 | (k,d)::l,h=>by
  have h:(d.noId&&D.noIdT l)=true:=h
  rw[Bool.and_eq_true] at h
  show(d.noId&&D.noIdL (l.map Prod.snd))=true
  rw[h.1,q8w h.2];rfl
mutual
theorem Rp.noId:∀{v:V} {d:D},Rp K G α n v d→d.noId=true→Rp K G α' 0 v d
 | _,_,.non,_=>.non
 | _,_,.bl b,_=>.bl b
 | _,_,.int i,_=>.int i
 | _,_,.str x,_=>.str x
 | _,_,.ty x,_=>.ty x
 | _,_,.tup h r,e=>.tup h (RpL.noId r e)
 | _,_,.ctp h r,e=>.ctp h (RpL.noId r e)
 | _,_,.lst h r,e=>.lst h (RpL.noId r e)
 | _,_,.clst h r,e=>.clst h (RpL.noId r e)
 | _,_,.dK h q r,e=>.dK h q (RpL.noId r (q9d e))
 | _,_,.dT h q r,e=>.dT h q (RpL.noId r (q8w e))
 | _,_,.cid h,e=>by cases e
theorem RpL.noId:∀{vs:List V} {l:List D},RpL K G α n vs l→D.noIdL l=true→RpL K G α' 0 vs l
 | _,_,.nil,_=>.nil
 | _,_,.cons (d:=d) (l:=l) h r,e=>by
  have e:(d.noId&&D.noIdL l)=true:=e
  rw[Bool.and_eq_true] at e
  exact .cons (Rp.noId h e.1) (RpL.noId r e.2)
end
theorem Rp.scal {G':Hp} {n':Nat} {v:V} {d:D} (h:Rp K G α n v d) (e:d.scal=true):Rp K G' α' n' v d:=by
 cases h<;>first|exact .non|exact .bl _|exact .int _|exact .str _|cases e
theorem Rel.grow {H':Hp} (r:Rel K ct H0 S s σ H) (k:∀a o,H a=some o→H' a=some o):Rel K ct H0 S s σ H':=by
 have cn:∀{a:Addr} {c:Cn},CnOk K ct S s.M.length H a c→CnOk K ct S s.M.length H' a c:=fun {a c} h=>h.mono (fun _ _ e=>e) (fun _ _=>rfl) (Nat.le_refl _) (fun o e=>k a o e)
 refine⟨fun a o e=>j9x (fun o' e'=>k a o' e') (r.sub a o e),fun a l e=>?_,fun a e=>?_,r.len,fun i e h=>?_,fun j c h=>?_⟩
 ·obtain⟨h1,o,h2,h3⟩:=r.lg a l e
  exact⟨h1,o,k a o h2,h3⟩
 ·cases q:H a with
  | none=>exact r.dom a q
  | some o=>have:=k a o q;rw[e] at this;cases this
 ·have q:=r.slot i e h
  cases e with
  | fz d=>exact q
  | xn x=>exact q2m (S:=S) (n:=s.M.length) (H:=H) (fun _ _ e=>e) (fun _ _=>rfl) (Nat.le_refl _) rfl q
  | ow c =>
   obtain⟨a,h1,h2,h3,h4,h5⟩:=q
   exact⟨a,h1,h2,h3,h4,cn h5⟩
 ·obtain⟨h1,h2⟩:=r.ids j c h
  exact⟨h1,cn h2⟩
def snap (s:Stt):List AI→Option (List D)
 | []=>some []
 | a::as=>(look s a).bind fun d=>(snap s as).map (d::·)
theorem z7g {Hs:Hp} (rel:Rel K ct H0 S s σ H):∀{vs:List V} {as:List AI} {ds:List D},AsOk K ct Hs S s σ H vs as→snap s as=some ds→RpL K (U ct.lk H) S.α s.M.length vs ds
 | _,_,_,.nil,e=>by cases e;exact .nil
 | _,_,_,.cons (a:=a) (as:=as) i r,e=>by
  obtain⟨d,e1,e2⟩:=Option.bind_eq_some_iff.mp (show((look s a).bind fun d=>(snap s as).map (d::·))=some _ from e)
  obtain⟨ds,e3,rfl⟩:=Option.map_eq_some_iff.mp e2
  exact .cons (q6t rel i e1) (z7g rel r e3)
def z3e (f:Mf) (m:Mo (List AI)):Mo AI:=fun s=>(m s).bind fun as s1=>match snap s1 as with
 | some ds=>if D.noIdL ds=true then(match f ds [] with
  | .ok (.val d) _=>if d.scal=true then .ok (.val d) s1 else .no
  | _=>.no) else .no
 | none=>.no
theorem z3d {f:Mf} {E:XK} {t:TA} {m:Mo (List AI)} (h:EaL K ct H0 W t m):Ei K ct H0 W (z2i (spM K ct f) E t) (z3e f m):=fun S s σ H Q rel p =>
  h S s σ H _ rel (Pst.bind bI p fun S1 s1 H1 vs as st1 rel1 i1 p1=>by
    split at p1
    · rename_i ds e
      split at p1
      · rename_i hn
        refine⟨⟨U ct.lk H1,S1.α,fun _=>none⟩,[],ds,⟨fun _ _ e=>e,(fun a l e=>nomatch e),fun _ e=>e,rfl,(fun i e q=>by simp at q),(fun k c q=>by simp at q)⟩,(z7g rel1 i1 e).noId hn,?_⟩
        split at p1
        · rename_i d M' ef
          rw[ef]
          split at p1
          · rename_i hs
            intro S' v H' st rel' it
            have k:∀a o,H1 a=some o→H' a=some o:=fun a o e=>(st.fr a o e rfl).1
            exact p1 S1 v H' ⟨fun _ _ e=>e,Nat.le_refl _,fun _ _=>rfl,fun a o e l=>⟨k a o e,l⟩,fun _ _ e=>.inl e,st.dom,fun a od u h=>k a _ h⟩ (rel1.grow k) (Rp.scal it hs)
          · exact False.elim p1
        · exact False.elim p1
      · exact False.elim p1
    · exact False.elim p1)
variable {QA:AI→Stt→Prop} {X:Exn→Stt→Prop}
theorem j2n {f:Mf} {m:Mo (List AI)} (h:Wo (fun as s1=>∃ds d M',snap s1 as=some ds∧D.noIdL ds=true∧f ds [] = .ok (.val d) M'∧d.scal=true∧QA (.val d) s1) X (m s)):Wo QA X (z3e f m s):=q0g (q0e h fun as s1 ⟨ds,d,M',e1,e2,e3,e4,h⟩=>by
 show Wo QA X (match snap s1 as with|some ds=>_|none=>_)
 rw[e1];show Wo QA X (if _ then _ else _);rw[if_pos e2,e3];show Wo QA X (if _ then _ else _);rw[if_pos e4];exact h)
theorem z3x (ns:List Int):D.noIdL (ns.map D.int)=true:=by
 induction ns with
 | nil=>rfl
 | cons n ns ih=>show(true&&D.noIdL (ns.map D.int))=true;rw[ih];rfl
end
end Y
namespace Y
theorem q9c {P P':AI→List Cn→Prop} {r:Fr} (h:Fo P r) (k:∀a M',P a M'→P' a M'):Fo P' r:=by
 cases r with
 | ok a M=>exact k a M h
 | er _ _=>exact h
 | no=>exact h
end Y
namespace Y
theorem w2s {QA:AI→Stt→Prop} {X:Exn→Stt→Prop} {s:Stt} {i:Int} (h:QA (.val (.int (-i))) s):Wo QA X (fNeg s (.val (.int i))):=h
end Y
namespace Y
section
variable {P:Bool→Prop} {s:Stt}
theorem j6r {b:Bool} (h:P b):∃d b',look s (.val (.bl b))=some d∧truD s.M d=some b'∧P b':=⟨_,_,rfl,rfl,h⟩
theorem j4t {i:Int} (h:P (!decide (i=0))):∃d b',look s (.val (.int i))=some d∧truD s.M d=some b'∧P b':=⟨_,_,rfl,rfl,h⟩
end
end Y
namespace Y
open PySem L2 Z
section
variable {K:PySem.W.Frag} {ct:Ct} {H0:Hp} {W:WX} {S:Sh} {s:Stt} {σ:St} {H:Hp}
def CLR1 (n:Int):Prop:=0≤n∧n≤sizeLine
open Classical in
noncomputable def mLR1 (m:Mo AI):Mo AI:=fun s=>(m s).bind fun a s1=>match a with
 | .val (.int n)=>if CLR1 n then .ok (.new (.lst (rng 0 n.toNat))) s1 else .no
 | _=>.no
def j8w (f:Mf) (m:Mo (List AI)):Mo AI:=fun s=>(m s).bind fun as s1=>match snap s1 as with
 | some ds=>if D.noIdL ds=true then(match f ds [] with
  | .ok (.new (.lst l)) _=>if l.all D.scal=true then .ok (.new (.lst l)) s1 else .no
  | _=>.no) else .no
 | none=>.no
theorem RpL.scal {G G':Hp} {α α':Nat→Addr} {n n':Nat}:∀{vs:List V} {l:List D},RpL K G α n vs l→l.all D.scal=true→RpL K G' α' n' vs l
 | _,_,.nil,_=>.nil
 | _,_,.cons (d:=d) (l:=l) h r,e=>by
  rw[List.all_cons,Bool.and_eq_true] at e
  exact .cons (Rp.scal h e.1) (RpL.scal r e.2)
variable {X:Exn→Stt→Prop} {QA:AI→Stt→Prop}
theorem j3z {f:Mf} {m:Mo (List AI)} (h:Wo (fun as s1=>∃ds l M',snap s1 as=some ds∧D.noIdL ds=true∧f ds [] = .ok (.new (.lst l)) M'∧l.all D.scal=true∧QA (.new (.lst l)) s1) X (m s)):Wo QA X (j8w f m s):=q0g (q0e h fun as s1 ⟨ds,d,M',e1,e2,e3,e4,h⟩=>by
 show Wo QA X (match snap s1 as with|some ds=>_|none=>_)
 rw[e1];show Wo QA X (if _ then _ else _);rw[if_pos e2,e3];show Wo QA X (if _ then _ else _);rw[if_pos e4];exact h)
theorem w1p {m:Mo AI} (h:Wo (fun a s1=>∃n:Int,a = .val (.int n)∧0≤n∧n≤sizeLine∧QA (.new (.lst (rng 0 n.toNat))) s1) X (m s)):Wo QA X (mLR1 m s):=q0g (q0e h fun a s1 ⟨n,e,c1,c2,h⟩=>by
 subst e;simp only[];rw[if_pos (show CLR1 n from⟨c1,c2⟩)];exact h)
theorem j5f {n:Int} {s:Stt} (c1:0≤n) (c2:n≤sizeLine) (h:QA (.new (.lst (rng 0 n.toNat))) s):∃m:Int,(AI.val (.int n)) = .val (.int m)∧0≤m∧m≤sizeLine∧QA (.new (.lst (rng 0 m.toNat))) s:=⟨n,rfl,c1,c2,h⟩
end
end Y
namespace Y
open PySem L2 Z
section
variable {K:PySem.W.Frag} {ct:Ct} {H0:Hp} {W:WX} {S:Sh} {s:Stt} {σ:St} {H:Hp}
def Sh.tr (S:Sh) (n:Nat) (p:Addr):Sh:=⟨S.G,fun k=>if k=n then p else S.α k,fun a=>if a=p then some (.id n) else S.lab a⟩
theorem Rel.track {p:Addr} {c:Cn} (r:Rel K ct H0 S s σ H) (hl:S.lab p=none) (hg:S.G p=none) (h:CnOk K ct S s.M.length H p c):Rel K ct H0 (S.tr s.M.length p) ⟨s.env,s.M++[c]⟩ σ H:=by
 have hlen:(s.M++[c]).length=s.M.length+1:=by simp
 have al:∀k,k<s.M.length→(S.tr s.M.length p).α k=S.α k:=fun k hk=>if_neg (by omega)
 have lb:∀{a:Addr} {l:Lab},S.lab a=some l→(S.tr s.M.length p).lab a=some l:=fun {a l} hh=>by
  show(if a=p then _ else S.lab a)=_
  rw[if_neg (fun z=>by subst z;rw[hl] at hh;cases hh)];exact hh
 have cn:∀{a:Addr} {c':Cn},CnOk K ct S s.M.length H a c'→CnOk K ct (S.tr s.M.length p) (s.M++[c]).length H a c':=fun {a c'} h=>CnOk.mono (S:=S) (n:=s.M.length) (fun _ _ e=>e) al (by rw[hlen];omega) (fun _ e=>e) h
 refine⟨r.sub,fun a l q=>?_,r.dom,r.len,fun j en q=>?_,fun k c' q=>?_⟩
 ·have q1:(if a=p then some (Lab.id s.M.length) else S.lab a)=some l:=q
  by_cases z:a=p
  ·subst z;exact⟨hg,by obtain⟨u,hu⟩:=h.some;exact⟨u,hu,h.nt hu⟩⟩
  ·rw[if_neg z] at q1;exact r.lg a l q1
 ·have hh:=r.slot j en q
  cases en with
  | fz d=>obtain⟨v,k1,k2⟩:=hh;exact⟨v,k1,k2.mono (fun _ _ e=>e) al (by show _≤(s.M++[c]).length;rw[hlen];omega)⟩
  | xn x=>exact q2m (S:=S) (n:=s.M.length) (H:=H) (fun _ _ e=>e) al (by show _≤(s.M++[c]).length;rw[hlen];omega) rfl hh
  | ow c2 =>
   obtain⟨a,k1,k2,k3,k4,k5⟩:=hh
   exact⟨a,k1,k2,lb k3,k4,cn k5⟩
 ·have q1:(s.M++[c])[k]? = some c':=q
  by_cases z:k<s.M.length
  ·rw[List.getElem?_append_left z] at q1
   obtain⟨k1,k2⟩:=r.ids k c' q1
   rw[al k z]
   exact⟨lb k1,cn k2⟩
  ·have hk:k=s.M.length:=by
    have:=(List.getElem?_eq_some_iff.mp q1).1
    rw[hlen] at this;omega
   subst hk
   rw[List.getElem?_append_right (Nat.le_refl _),Nat.sub_self] at q1
   cases q1
   have e:(S.tr s.M.length p).α s.M.length=p:=if_pos rfl
   rw[e]
   exact⟨if_pos rfl,cn h⟩
theorem Stp.track {S':Sh} {n n':Nat} {H':Hp} {p:Addr} (t:Stp S n H S' n' H') (hp:H p=none):Stp S n H (S'.tr n' p) (n'+1) H' where
 g:=t.g
 le:=Nat.le_succ_of_le t.le
 al:=fun k hk=>by
  show(if k=n' then p else S'.α k)=_
  rw[if_neg (by have:=t.le;omega)];exact t.al k hk
 fr:=fun a o h l=>by
  obtain⟨h1,h2⟩:=t.fr a o h l
  refine⟨h1,?_⟩
  show(if a=p then _ else S'.lab a)=none
  rw[if_neg (ne_of_none h hp)];exact h2
 gn:=t.gn
 fz:=t.fz
 dom:=t.dom
theorem j0e {n:Nat} {p:Addr}:Rp K (S.tr n p).G (S.tr n p).α (n+1) (.ref p) (.cid n):=by
 have h:Rp K (S.tr n p).G (S.tr n p).α (n+1) (.ref ((S.tr n p).α n)) (.cid n):=.cid (Nat.lt_succ_self n)
 have e:(S.tr n p).α n=p:=if_pos rfl
 rw[e] at h;exact h
/-- x = e, and the new thing is tracked -/
def z9f (i:Nat) (m:Mo AI):Ms:=fun s=>(m s).toS fun a s1=>match a with
 | .new c=>.nx ⟨s1.env.set i (some (.fz (.cid s1.M.length))),s1.M++[c]⟩
 | _=>.no
theorem z6a {i:Nat} {te:TE} {m:Mo AI} (h:Ei K ct H0 W te m):Sv K ct H0 W (tAsg te (gName i)) (z9f i m):=fun S s σ H Dn rel p =>
  h S s σ H _ rel (PstS.bind p fun S1 s1 H1 x a st1 rel1 i1 p1=>by
    show Dn.nx (σ.set i (some x)) H1
    split at p1
    · rename_i c
      obtain⟨q,rfl,h1,h2,h3,h4,h5⟩:=i1
      have rt:=rel1.track h2 h3 h5
      have hlen:(s1.M++[c]).length=s1.M.length+1:=by simp
      refine p1 ((S1.tr s1.M.length q).un i) _ H1 ?_ (rt.setFz (by show Rp _ _ _ (s1.M++[c]).length _ _;rw[hlen];exact j0e))
      show Stp S s.M.length H _ (s1.M++[c]).length H1
      rw[hlen]
      exact(st1.track h1).trans .un
    · exact False.elim p1)
def z8r:List D→Option (List Str)
 | []=>some []
 | .str i::l=>(z8r l).map (i::·)
 | _::_=>none
def w2n (mo ma:Mo AI):Mo AI:=fun s=>(mo s).bind fun a s1=>match a with
 | .val (.str x)=>(ma s1).bind fun b s2=>match(q1v s2 b).bind z8r with
  | some ys=>if(ys.map (·.length)).sum+ys.length*x.length≤16777216 then .ok (.val (.str (Txt.join x ys))) s2 else .no
  | none=>.no
 | _=>.no
def j6c:Stt→AI→AI→Ro AI:=fun s a b=>match a,b with
 | .val (.str x),.val (.int n)=>if x.length≤16∧0≤n∧n≤1048576 then .ok (.val (.str (Txt.mul x n))) s else .no
 | _,_=>.no
variable {X:Exn→Stt→Prop} {QA:AI→Stt→Prop} {N:Stt→Prop} {O:Rs→Prop}
theorem j6y {i:Nat} {m:Mo AI} (h:Wo (fun a s1=>∃c,a = .new c∧N ⟨s1.env.set i (some (.fz (.cid s1.M.length))),s1.M++[c]⟩) (fun x s=>O (.er x s)) (m s)):Ws N O (z9f i m s):=q3o (q0e h fun a s1 ⟨c,e,h⟩=>by subst e;exact h)
theorem j3k {mo ma:Mo AI} (h:Wo (fun a s1=>∃x,a = .val (.str x)∧Wo (fun b s2=>∃ys,(q1v s2 b).bind z8r=some ys∧(ys.map (·.length)).sum+ys.length*x.length≤16777216∧QA (.val (.str (Txt.join x ys))) s2) X (ma s1)) X (mo s)):Wo QA X (w2n mo ma s):=q0g (q0e h fun a s1 ⟨x,e,h⟩=>by
 subst e;exact q0g (q0e h fun b s2 ⟨ys,e1,c,h⟩=>by
  show Wo QA X (match(q1v s2 b).bind z8r with|some ys=>_|none=>_)
  rw[e1];show Wo QA X (if _ then _ else _);rw[if_pos c];exact h))
theorem j5o {x:Str} {n:Int} (c:x.length≤16∧0≤n∧n≤1048576) (h:QA (.val (.str (Txt.mul x n))) s):Wo QA X (j6c s (.val (.str x)) (.val (.int n))):=by
 unfold j6c;simp only[];rw[if_pos c];exact h
end
end Y
namespace Y
open PySem L2 Z
def tx (l:List Nat):Str:=⟨l.toArray⟩
end Y
namespace Y
open PySem L2 Z
open PySem.W (AllAlike Sortable dataLe EachIs)
def pyD (d:D):PyData:=d.py.getD .none
def z6g (K:PySem.W.Frag):List V→Hp→VK→Prop:=fun xs H Q=>∃(q:Addr) (ts:List (V×D)),xs=[.ref q]∧SqL K H q (ts.map Prod.fst)∧(∀t∈ts,Dp K H t.1 (pyD t.2))∧AllAlike (ts.map fun t=>pyD t.2)∧Sortable (ts.map fun t=>pyD t.2)∧(∀t∈ts,(pyD t.2).depth≤40) ∧
 ∀p,H p=none→Q (.ref p) (upd H p (.lst ((ts.mergeSort (dataLe false fun t=>pyD t.2)).map Prod.fst)))
section
variable {X:Cx}
theorem z0w:∀{ts:List (V×D)} {us:List Value},Vals (ts.map Prod.fst) us→EachIs (fun u (t:V×D)=>RelV t.1 u) us ts
 | [],_,.nil=>.nil
 | _::_,_,.cons h r=>.cons h (z0w r)
theorem z0n:∀{ts:List (V×D)} {us:List Value},EachIs (fun u (t:V×D)=>RelV t.1 u) us ts→Vals (ts.map Prod.fst) us
 | [],_,.nil=>.nil
 | _::_,_,.cons h r=>.cons h (z0n r)
theorem q8z {pins:List (Addr×Obj)} {σ:St} {H:Hp} {s:Shared} (I:Inv X pins σ H s):∀{ts:List (V×D)} {us:List Value},Vals (ts.map Prod.fst) us→(∀t∈ts,Dp X.K H t.1 (pyD t.2))→EachIs (fun u (t:V×D)=>∃as,PySem.Reads s.heap u (pyD t.2) as) us ts
 | [],_,.nil,_=>.nil
 | t::ts,_,.cons h r,hd=>.cons (Dp.reads I (pyD t.2) t.1 _ (hd t (List.mem_cons_self ..)) h) (q8z I r fun t' h'=>hd t' (List.mem_cons_of_mem _ h'))
theorem z6r (hu:X.A.units+70<cLine):CallR X (.builtin "sorted") (z6g X.K):=by
 intro pins s σ H vs us Q I r h
 obtain⟨a,ts,rfl,hs,hd,hal,hk,hdp,q⟩:=h
 obtain⟨its,rv,hl,hz⟩:=I.list hs
 rw[Vals.ref1 r]
 rw[List.length_map] at hz
 refine PySem.W.sorted_data (enc:=fun t:V×D=>pyD t.2) hl.isList (z0w rv) (q8z I rv hd) hal hk hz (fun b hb=>by have:=hdp b hb;omega) fun out ho eo=>?_
 obtain⟨ep,he'⟩:=PyProof.Rows.sortedAll_at s.heap its out.toArray
 have rv':=z0n eo
 refine⟨.ref _,upd H (s.heap.objs.size+1) (.lst ((ts.mergeSort (dataLe false fun t=>pyD t.2)).map Prod.fst)),I.laid (t':=s.toks) (fun _ _=>PyProof.Rows.sortedAll_old) (Nat.le_succ _) ⟨by rw[List.length_map,List.length_mergeSort];exact hz,out,ep,rv',he'⟩,rfl,q _ (I.hok.fresh (Nat.le_succ _))⟩
theorem z7m {K:PySem.W.Frag} (hK:X.K=K) (hu:X.A.units+70<cLine):CallR X (.builtin "sorted") (z6g K):=by subst hK;exact z6r hu
end
section
variable {K:PySem.W.Frag} {ct:Ct} {H0:Hp} {W:WX}
def z4y (l:List D):Prop:=(∀d∈l,d.py.isSome=true)∧AllAlike (l.map pyD)∧Sortable (l.map pyD)∧(∀d∈l,(pyD d).depth≤40)
open Classical in
noncomputable def z7f (s:Stt) (as:List AI):Ro AI:=match as with
 | [a]=>match q1v s a with
  | some l=>if z4y l then .ok (.new (.lst (l.mergeSort (dataLe false pyD)))) s else .no
  | none=>.no
 | _=>.no
theorem RpL.zips {G:Hp} {α:Nat→Addr} {n:Nat}:∀{vs:List V} {l:List D},RpL K G α n vs l→∃ts:List (V×D),ts.map Prod.fst=vs∧ts.map Prod.snd=l∧∀t∈ts,Rp K G α n t.1 t.2
 | _,_,.nil=>⟨[],rfl,rfl,fun t h=>by simp at h⟩
 | _,_,.cons (v:=v) (d:=d) h r=>by
  obtain⟨ts,e1,e2,e3⟩:=RpL.zips r
  refine⟨(v,d)::ts,by rw[List.map_cons,e1],by rw[List.map_cons,e2],fun t ht=>?_⟩
  rcases List.mem_cons.mp ht with rfl|ht
  ·exact h
  ·exact e3 t ht
theorem RpL.unzip {G:Hp} {α:Nat→Addr} {n:Nat}:∀{ts:List (V×D)},(∀t∈ts,Rp K G α n t.1 t.2)→RpL K G α n (ts.map Prod.fst) (ts.map Prod.snd)
 | [],_=>.nil
 | t::ts,h=>.cons (h t (List.mem_cons_self ..)) (RpL.unzip fun t' h'=>h t' (List.mem_cons_of_mem _ h'))
theorem j1z:JB K ct H0 (z6g K) z7f:=fun W S s σ H Hs vs as Q rel ia p=>by
 unfold z7f at p
 split at p
 ·rename_i a
  obtain⟨v,rfl,i⟩:=as1 ia
  split at p
  ·rename_i l e
   split at p
   ·rename_i hok
    obtain⟨h1,h2,h3,h4⟩:=hok
    obtain⟨q,us,rfl,k1,k2⟩:=q2f rel i e
    obtain⟨ts,e1,e2,e3⟩:=RpL.zips k2
    have em:ts.map (fun t=>pyD t.2)=l.map pyD:=by rw[←e2,List.map_map];rfl
    have hm:∀t∈ts,t.2∈l:=fun t ht=>by rw[←e2];exact List.mem_map_of_mem ht
    refine⟨q,ts,rfl,by rw[e1];exact k1,fun t ht=>?_,by rw[em];exact h2,by rw[em];exact h3,fun t ht=>h4 _ (hm t ht),fun r hr=>?_⟩
    ·obtain⟨x,hx⟩:=Option.isSome_iff_exists.mp (h1 _ (hm t ht))
     have:=uDp (j2j ((e3 t ht).mono rel.sub (fun _ _=>rfl) (Nat.le_refl _)) hx)
     unfold pyD;rw[hx]
     exact this
    ·refine p.newL rel hr ?_
     have es:l.mergeSort (dataLe false pyD)=(ts.mergeSort (dataLe false fun t=>pyD t.2)).map Prod.snd:=by
      rw[←e2]
      refine(List.map_mergeSort (fun a _ b _=>?_)).symm
      rfl
     rw[es]
     exact RpL.unzip fun t ht=>e3 t (List.mem_mergeSort.mp ht)
   ·exact False.elim p
  ·exact False.elim p
 ·exact False.elim p
variable {s:Stt} {X:Exn→Stt→Prop} {QA:AI→Stt→Prop}
theorem j9i {a:AI} {l:List D} (e:q1v s a=some l) (c:z4y l) (h:QA (.new (.lst (l.mergeSort (dataLe false pyD)))) s):Wo QA X (z7f s [a]):=by
 unfold z7f;simp only[];rw[e];simp only[];rw[if_pos c];exact h
end
end Y
namespace L2
open PySem PySem.Spec PyProof.Rows
section
variable {X:Cx} {o e:Expr} {es:List Expr} {to te:TE} {ta:TA} {f:Str} {p p' p1 p2 pos:Pos}
/-- B.__init__(self, ..) of an own class B that has ValueError's -/
theorem z3p {x:Str} {CS:Addr} {mc:Value} {pl:Sem Bool} (hg:Gl X x) (hm:X.mg x=some (.ref CS)) (r:ClX.CRead X.K CS mc) (hv:PySem.W.findCls X.K (.ref CS) mc "__init__" = some (.val (.builtin "ValueError.__init__"))) (ha:PA X (e::es) ta)
  (hdb:(x==("__debug__" : Str))=false:=by decide)
  (hc:eval (.Call (.Attribute (.Name x p1) "__init__" p2) (e::es) [] pos) X.env=(do
   let ov ←eval (.Name x p1) X.env
   standAt p2.atName
   let(f,first) ←holding [ov] (getMethod ov "__init__" pl)
   callWith pos f first (backTo pos (starEach (e::es) X.env)) (backToKw pos (keywordEach [] X.env))):=by rfl)
  (he:starEach (e::es) X.env=(false,eval e X.env)::starEach es X.env:=by rfl) (hpl:(backTo pos (starEach es X.env)).any (·.1)=false:=by rfl) :
  PE X (.Call (.Attribute (.Name x p1) "__init__" p2) (e::es) [] pos) (tVeI X.K ta):=by
 refine⟨fun pins s σ H Q I h=>?_⟩
 refine PySem.W.methodCall_KW (ld_glob I hg hm ?_ hdb) hc
 refine PySem.W.method_cls I.kIn r.ga (PySem.W.cls_value I.kIn r.rd hv rfl ?_)
 show wpAny _ _ (callWith pos (Value.builtin "ValueError.__init__") [] (backTo pos (starEach (e::es) X.env)) []) _ _ _
 refine PyProof.Rows.callWith_method1 (thn (ha.run pos pins _ σ H _ (I.tok _) h) fun us s1 ⟨vs,H1,I1,r1,a,C,ws,ev,hl,T,ea,q⟩=>?_) he hpl
 subst ev
 cases r1 with
 | @cons _ u0 _ ur ra rw' =>
  obtain rfl:u0=Value.ref a:=ra
  have hlen:ur.length≤sizeLine:=by
   rw[←Paired.length rw',sizeLine_eq]
   omega
  exact oinit_ok T I1 ea hlen fun s' J=>⟨.non,H1,J,rfl,q⟩
/-- isinstance(e, c), e the exception that the suite holds, of any class that is known -/
def rIsX (K:PySem.W.Frag) (cls:Value) (a:Addr) (dd:Option Addr):List V→Hp→VK→Prop:=fun xs H Q=>∃(D:Addr) (c:V) (cv:Value) (b:Bool),cls = .ref D∧ExcC K D∧xs=[.ref a,c]∧(∀u,RelV c u→u=cv)∧PySem.W.kitOne K (.ref D) cv=some b∧(dd=none∨∃d fs,dd=some d∧H d=some (.xd fs))∧Q (.bl b) H
theorem z4n {X:Cx} {a:Addr} {oe:Obj} {cls:Value} {dd:Option Addr} {pn:List (Addr×Obj)} (hz:Zc cls dd oe) (hf:∃vs,oe.data = .fields vs):CallR (X.suite a ((a,oe)::pn)) (.builtin "isinstance") (rIsX X.K cls a dd):=by
 intro pins s σ H xs us Q I r h
 obtain⟨D,c,cv,b,rfl,C,rfl,hcv,e,hd,q⟩:=h
 cases r with
 | cons rx rr =>
  cases rr with
  | cons rt rr =>
   cases rr
   cases rx
   have ec:=hcv _ rt
   subst ec
   obtain⟨hget,_⟩:=I.pin (a,oe) (List.mem_append.mpr (.inl List.mem_cons_self))
   obtain⟨vs,hv⟩:=hf
   have hcl:(PySem.W.clsIn X.K D).isSome=true:=by
    obtain⟨cd,hc,_⟩:=PySem.W.any_some C.hd
    rw[hc];rfl
   have J:∃od,PySem.W.InstAt s.heap a oe D od:=by
    rcases hd with rfl|⟨d,fs,rfl,ed⟩
    ·exact⟨none,hget,hz.1,by unfold PySem.W.notCls;rw[hv]<;>rfl,by rw[hz.2];trivial⟩
    ·have hx:ObjOk X.prog X.w H s.heap d (.xd fs):=I.hok d _ ed
     obtain⟨mA,hns,hr⟩:=hx
     obtain⟨od,ho,hl⟩:=lookIn_ns hns
     exact⟨some od,hget,hz.1,by unfold PySem.W.notCls;rw[hv]<;>rfl,by rw[hz.2];exact ho⟩
   obtain⟨od,J⟩:=J
   exact PySem.W.kia_one (PySem.W.kitx_exc hcl C.hg C.hk C.hs C.ha C.hn C.ht C.hm) I.kIn J e (fun z=>nomatch z) fun tk=>⟨.bl b,H,I.kept (t':=tk) fun _ _ z=>z,rfl,q⟩
theorem q9e {X:Cx} {K:PySem.W.Frag} (hK:X.K=K) {a:Addr} {oe:Obj} {cls:Value} {dd:Option Addr} {pn:List (Addr×Obj)} (hz:Zc cls dd oe) (hf:∃vs,oe.data = .fields vs):CallR (X.suite a ((a,oe)::pn)) (.builtin "isinstance") (rIsX K cls a dd):=by subst hK;exact z4n hz hf
end
end L2
namespace Y
open PySem L2 Z
section
variable {X:Cx} {K:PySem.W.Frag} {x n:Str} {c:Value} {i:Nat} {body suite:List Stmt} {b₀:Stmt} {h₀:ExceptHandler} {hds:List ExceptHandler} {l:List (Value×(Addr→Value→Option Addr→TS))} {np pos pos':Pos} {tb:WX→TS} {ts:Addr→Value→Option Addr→TS} {Wout:WX}
def j5s (K:PySem.W.Frag) (c:Value) (i:Nat) (tb:WX→TS) (ts:Addr→Value→Option Addr→TS) (Wout:WX):TS:=fun D σ H=>tb (wAs K c i ts Wout D) D σ H
theorem j1q (hK:X.K=K) (hs:X.stack=X.env::X.outer) (hf:X.env.frame=some X.env.locals) (hN:X.N.Nodup) (hi:X.N[i]? = some n) (hln:X.env.kindOf n=some .local) (hc:Names X x c) (tk:Takes X Wout)
  (hb:∀(W:WX) (pn:List (Addr×Obj)) (xe:Value→Shared→Prop),Takes (X.tr pn xe) W→PassesOwn (model X.prog X.w) X.A X.env xe→PSs (X.tr pn xe) body (tb W))
  (hsu:∀(a:Addr) (oe:Obj) (cls:Value) (d:Option Addr) (pn:List (Addr×Obj)),Zc cls d oe→(∃vs,oe.data = .fields vs)→PSs (X.suite a ((a,oe)::pn)) (b₀::suite) (ts a cls d)) :
  PS X (.Try body [.ExceptHandler (some (.Name x np)) (some n) (b₀::suite) pos'] [] [] pos) (j5s K c i tb ts Wout):=by
 subst hK
 exact ps_try_as hs hf hN hi hln hc tk hb hsu
end
section
variable {K:PySem.W.Frag} {ct ct2:Ct} {H0:Hp} {W:WX} {S:Sh} {s:Stt} {σ:St} {H:Hp}
def unX:Option Ent→Option Ent
 | some (.xn _)=>none
 | e=>e
def z0t (i:Nat) (s:Stt):Stt:=⟨(s.env.map unX).set i none,s.M⟩
def z4m (i:Nat) (x:Exn) (s:Stt):Stt:=⟨(s.env.map unX).set i (some (.xn x)),s.M⟩
def j6t (i:Nat):Rs→Rs
 | .nx s=>.nx (z0t i s)
 | .bk s=>.bk (z0t i s)
 | .ct s=>.ct (z0t i s)
 | .rt a s=>.rt a (z0t i s)
 | _=>.no
def j8j (cat:Nat→Option Bool) (i:Nat) (mb ms:Ms):Ms:=fun s=>match mb s with
 | .er x s1=>match cat x.cls with
  | some true=>j6t i (ms (z4m i x s1))
  | some false=>.er x s1
  | none=>.no
 | r=>r
def noEr:Rs→Rs
 | .er _ _=>.no
 | r=>r
def z1w:List ((Nat→Option Bool)×Ms)→Exn→Ms
 | [],x=>fun s=>.er x s
 | (cat,ms)::l,x=>fun s=>match cat x.cls with
  | some true=>noEr (ms s)
  | some false=>z1w l x s
  | none=>.no
def j7n (l:List ((Nat→Option Bool)×Ms)) (mb:Ms):Ms:=fun s=>match mb s with
 | .er x s1=>z1w l x s1
 | r=>r
def xnAt (s:Stt) (i:Nat):Option Exn:=match(s.env[i]?).getD none with
 | some (.xn x)=>some x
 | _=>none
def mXf (i c:Nat) (f:Str):Mo AI:=fun s=>match xnAt s i with
 | some x=>if x.cls=c then(match x.fs.lookup f with|some d=>.ok (.val d) s|none=>.no) else .no
 | none=>.no
def mIsX (i:Nat) (tbl:Nat→Option Bool):Mo AI:=fun s=>match xnAt s i with
 | some x=>match tbl x.cls with
  | some b=>.ok (.val (.bl b)) s
  | none=>.no
 | none=>.no
def q8u (c:Nat):Ms:=fun s=>.er ⟨c,[]⟩ s
theorem q7n {c:Nat}:Sv K ct H0 W (z6u (ct c) W) (q8u c):=fun S s σ H Dn rel p=>p S σ H none .refl rel (.inl ⟨rfl,rfl⟩)
/-- __init__(self, words, f): B.__init__(self, words); self.f = f -/
def spA (K:PySem.W.Frag) (C:Addr) (f:Str):Sp:=fun vs H Q E=>∃(a:Addr) (w x:V),vs=[.ref a,w,x]∧OexC K C∧PySem.W.findIn K (.ref C) f=some none∧H a=some (exo a C none)∧∀dx,H dx=none→dx≠a→Q .non (upd (upd H dx (exd dx [(f,x)])) a (exo a C (some dx)))
theorem j3f {C:Addr} {f:Str} {vs:List V} {Q:VK} {E:XK} (h:spA K C f vs H Q E):vs.length=3:=by
 obtain⟨a,w,x,rfl,_⟩:=h;rfl
theorem w1g {C:Addr} {f n1 n2 n3:Str} {vs:List V} {Q:VK} {E:XK} (h:spA K C f vs H Q E) :
  tSeq (tDrop (tVeI K (tCons (tVar 0) (tCons (tVar 1) tNil)))) (tOst K f (tVar 0) (tVar 2)) { nx:=fun _ H'=>Q .non H',rt:=Q } (start [n1,n2,n3] vs) H:=by
 obtain⟨a,w,x,rfl,T,hf,ha,q⟩:=h
 refine⟨_,rfl,_,rfl,a,C,[w],rfl,(by show 1≤1000;decide),T,ha,?_⟩
 exact⟨x,rfl,.ref a,rfl,a,C,rfl,T,hf,.inl ⟨ha,fun dx h1 h2=>q dx h1 h2⟩⟩
def q6x (c:Nat) (f:Str) (m:Mo (List D)):Ms:=fun s=>(m s).toS fun ds s1=>match ds with
 | [_,x]=>.er ⟨c,[(f,x)]⟩ s1
 | _=>.no
def j3h (C:Addr) (sp:Sp) (W:WX) (ta:TA):TS:=fun _ σ H=>tMkO C sp [] ta σ H fun cls d H'=>W cls d σ H'
theorem RpL.two {G:Hp} {α:Nat→Addr} {n:Nat} {vs:List V} {x y:D} (h:RpL K G α n vs [x,y]):∃u v,vs=[u,v]∧Rp K G α n u x∧Rp K G α n v y:=by
 cases h with
 | cons h1 h=>cases h with
  | cons h2 h=>cases h;exact⟨_,_,rfl,h1,h2⟩
theorem q6f {c:Nat} {f:Str} {ta:TA} {m:Mo (List D)} (T:OexC K (ct c)) (hf:PySem.W.findIn K (.ref (ct c)) f=some none) (h:EvL K ct H0 W ta m):Sv K ct H0 W (j3h (ct c) (spA K (ct c) f) W ta) (q6x c f m):=fun S s σ H Dn rel p =>
  h S s σ H _ rel (PstS.bind p fun S1 s1 H1 vs ds st1 rel1 i1 p1=>by
    split at p1
    · rename_i y x
      obtain⟨u,v,rfl,r1,r2⟩:=RpL.two i1
      refine⟨(by show 2≤1000;decide),fun a ha=>⟨a,u,v,rfl,T,hf,upd_same,fun dx hdx hne=>⟨rfl,dx,[(f,v)],upd_same,by rw[upd_ne hne,upd_same],(q1a.mp hdx).2,?_⟩⟩⟩
      have hd:H1 dx=none:=(q1a.mp hdx).2
      have eh:upd (L2.del (upd (upd (upd H1 a (exo a (ct c) none)) dx (exd dx [(f,v)])) a (exo a (ct c) (some dx))) a) dx (.xd [(f,v)])=upd H1 dx (.xd [(f,v)]):=by
        funext b
        by_cases e1:b=dx
        · rw[e1,upd_same,upd_same]
        · rw[upd_ne e1,upd_ne e1]
          by_cases e2:b=a
          · rw[e2,L2.del_same,ha]
          · rw[L2.del_ne e2,upd_ne e2,upd_ne e1,upd_ne e2]
      rw[eh]
      have rel2:=(rel1.new (o:=.xd [(f,v)]) hd).frz (p:=dx) (uX upd_same) (rel1.labN hd) (rel1.gN hd)
      have st2:Stp S1 s1.M.length H1 (S1.frz dx (.xd [(f,v)])) s1.M.length (upd H1 dx (.xd [(f,v)])):=Stp.frz (rel1.gN hd) (.inl hd) (fun b e=>(q1a.mp e).2) (fun b w e _=>by rw[upd_ne (ne_of_none e hd)];exact e) (fun b od w e=>by rw[upd_ne (ne_of_none e hd)];exact e)
      exact p1 _ σ _ (some dx) (st1.trans st2) rel2 (.inr ⟨dx,[(f,v)],rfl,upd_same,rfl,.cons (r2.mono st2.g st2.al st2.le) .nil⟩)
    · exact False.elim p1)
end
end Y
namespace Y
open PySem L2 Z
def mFn0 (np n:Nat) (body:Ms):Mf:=mFn np n fun s=>noEr (body s)
def Fx (P:AI→List Cn→Prop) (E:Exn→List Cn→Prop):Fr→Prop
 | .ok a M=>P a M
 | .er x M=>E x M
 | .no=>False
def Ox (P:AI→List Cn→Prop) (E:Exn→List Cn→Prop):Rs→Prop
 | .rt a s=>P a s.M
 | .er x s=>E x s.M
 | _=>False
section
variable {QA:AI→Stt→Prop} {X:Exn→Stt→Prop} {N:Stt→Prop} {O:Rs→Prop} {s:Stt} {M:List Cn} {P P':AI→List Cn→Prop} {E E':Exn→List Cn→Prop}
theorem w2j {np n:Nat} {b:Ms} {ds:List D} (hl:ds.length=np) (h:Ws (fun s=>P (.val .non) s.M) (Ox P E) (b ⟨ds.map (fun d=>some (.fz d))++List.replicate (n-ds.length) none,M⟩)):Fx P E (mFn np n b ds M):=by
 unfold mFn
 rw[if_pos hl]
 cases q:b ⟨ds.map (fun d=>some (.fz d))++List.replicate (n-ds.length) none,M⟩<;>rw[q] at h<;>exact h
theorem w1h {np n:Nat} {b:Ms} {ds:List D} (hl:ds.length=np) (h:Ws (fun s=>P (.val .non) s.M) (Oe P) (b ⟨ds.map (fun d=>some (.fz d))++List.replicate (n-ds.length) none,M⟩)):Fo P (mFn0 np n b ds M):=by
 refine f_fn hl ?_
 cases q:b ⟨ds.map (fun d=>some (.fz d))++List.replicate (n-ds.length) none,M⟩<;>rw[q] at h<;>exact h
theorem j8t {r:Fr} (h:Fx P E r) (k:∀a M',P a M'→P' a M') (k2:∀x M',E x M'→E' x M'):Fx P' E' r:=by
 cases r with
 | ok a M=>exact k a M h
 | er x M=>exact k2 x M h
 | no=>exact h
theorem q9m {r:Fr} {a:AI} {M':List Cn} (e:r = .ok a M') (h:P a M'):Fx P E r:=by subst e;exact h
theorem q5e {r:Fr} {x:Exn} {M':List Cn} (e:r = .er x M') (h:E x M'):Fx P E r:=by subst e;exact h
theorem j0o {r:Fr} {a:AI} {M':List Cn} (h:Fx (fun a' M''=>a'=a∧M''=M') (fun _ _=>False) r):r = .ok a M':=by
 cases r with
 | ok a' M''=>obtain⟨rfl,rfl⟩:=h;rfl
 | er _ _=>exact False.elim h
 | no=>exact False.elim h
theorem q3j {r:Fr} {x:Exn} {M':List Cn} (h:Fx (fun _ _=>False) (fun x' M''=>x'=x∧M''=M') r):r = .er x M':=by
 cases r with
 | ok a' M''=>exact False.elim h
 | er _ _=>obtain⟨rfl,rfl⟩:=h;rfl
 | no=>exact False.elim h
theorem j7y {f:Mf} {ma:Mo (List D)} (h:Wo (fun ds s1=>Fx (fun a M'=>QA a ⟨s1.env,M'⟩) (fun x M'=>X x ⟨s1.env,M'⟩) (f ds s1.M)) X (ma s)):Wo QA X (q4b f ma s):=q0g (q0e h fun ds s1 h=>by
 show Wo QA X (match f ds s1.M with|.ok a M'=>_|.er x M'=>_|.no=>_)
 cases q:f ds s1.M<;>rw[q] at h<;>exact h)
theorem j3e {c:Nat} (h:O (.er ⟨c,[]⟩ s)):Ws N O (q8u c s):=h
theorem z8z {c:Nat} {f:Str} {m:Mo (List D)} (h:Wo (fun ds s1=>∃w x,ds=[w,x]∧O (.er ⟨c,[(f,x)]⟩ s1)) (fun x s=>O (.er x s)) (m s)):Ws N O (q6x c f m s):=q3o (q0e h fun ds s1 ⟨w,x,e,h⟩=>by subst e;exact h)
/-- behind a suite -/
def Olv (i:Nat) (O:Rs→Prop):Rs→Prop
 | .bk s=>O (.bk (z0t i s))
 | .ct s=>O (.ct (z0t i s))
 | .rt a s=>O (.rt a (z0t i s))
 | _=>False
def Otry (cat:Nat→Option Bool) (i:Nat) (ms:Ms) (N:Stt→Prop) (O:Rs→Prop):Rs→Prop
 | .er x s1=>(cat x.cls=some true∧Ws (fun s=>N (z0t i s)) (Olv i O) (ms (z4m i x s1)))∨(cat x.cls=some false∧O (.er x s1))
 | r=>O r
theorem j8e {cat:Nat→Option Bool} {i:Nat} {mb ms:Ms} (h:Ws N (Otry cat i ms N O) (mb s)):Ws N O (j8j cat i mb ms s):=by
 unfold j8j
 cases q:mb s with
 | er x s1 =>
  rw[q] at h
  rcases h with⟨e,h⟩|⟨e,h⟩
  ·simp only[]
   rw[e]
   simp only[]
   cases q2:ms (z4m i x s1)<;>rw[q2] at h<;>exact h
  ·simp only[]
   rw[e]
   exact h
 | _=>rw[q] at h;exact h
theorem w_xf {i c:Nat} {f:Str} {x:Exn} {d:D} (e:xnAt s i=some x) (hc:x.cls=c) (l:x.fs.lookup f=some d) (h:QA (.val d) s):Wo QA X (mXf i c f s):=by
 unfold mXf;rw[e];simp only[];rw[if_pos hc,l];exact h
theorem w2h {i:Nat} {tbl:Nat→Option Bool} {x:Exn} {b:Bool} (e:xnAt s i=some x) (l:tbl x.cls=some b) (h:QA (.val (.bl b)) s):Wo QA X (mIsX i tbl s):=by
 unfold mIsX;rw[e];simp only[];rw[l];exact h
def Ocl (l:List ((Nat→Option Bool)×Ms)) (N:Stt→Prop) (O:Rs→Prop):Rs→Prop
 | .er x s1=>Ws N O (z1w l x s1)
 | r=>O r
theorem j9z {l:List ((Nat→Option Bool)×Ms)} {mb:Ms} (h:Ws N (Ocl l N O) (mb s)):Ws N O (j7n l mb s):=by
 unfold j7n
 cases q:mb s<;>rw[q] at h<;>exact h
end
end Y
namespace Y
open PySem L2 Z
section
variable {K:PySem.W.Frag} {ct:Ct} {H0:Hp} {W:WX}
def fAbs (s:Stt) (as:List AI):Ro AI:=match as with
 | [.val (.int i)]=>.ok (.val (.int (if i<0 then -i else i))) s
 | _=>.no
def sIdx (a b:Str):Option Nat:=(Builtin.Str.occurrences a b 0 a.length 1).head?
def w2g (mo ma:Mo AI):Mo AI:=fun s=>(mo s).bind fun a s1=>match a with
 | .val (.str x)=>(ma s1).bind fun b s2=>match b with
  | .val (.str y)=>match sIdx x y with
   | some i=>.ok (.val (.int (i:Nat))) s2
   | none=>.no
  | _=>.no
 | _=>.no
end
section
variable {s:Stt} {X:Exn→Stt→Prop} {QA:AI→Stt→Prop} {QI:Im→Stt→Prop} {m1 m2:Mo AI}
theorem w2w {i:Int} (h:QA (.val (.int (if i<0 then -i else i))) s):Wo QA X (fAbs s [.val (.int i)]):=h
theorem j6u (h:Wo (fun a s1=>∃x,a = .val (.str x)∧Wo (fun b s2=>∃y i,b = .val (.str y)∧sIdx x y=some i∧QA (.val (.int (i:Nat))) s2) X (m2 s1)) X (m1 s)):Wo QA X (w2g m1 m2 s):=q0g (q0e h fun a s1 ⟨x,e,h⟩=>by
 subst e
 exact q0g (q0e h fun b s2 ⟨y,i,e,e2,h⟩=>by
  subst e
  show Wo QA X (match sIdx x y with|some i=>_|none=>_)
  rw[e2];exact h))
open Classical in
theorem j9c {r:Mo (List AI)} (h:Wo (fun as s1=>∃(i j c:Int) (n:Nat),as=[.val (.int i),.val (.int j),.val (.int c)]∧RgC i j c n∧QI ⟨rngC i c n,none⟩ s1) X (r s)):Wo QI X (j1v r s):=q0g (q0e h fun as s1 ⟨i,j,c,n,e,hz,h⟩=>by
 subst e
 have en:(Builtin.Range.rangeSize i j c).toNat=n:=by rw[hz.2.2.2];rfl
 show Wo QI X (if RgC i j c (Builtin.Range.rangeSize i j c).toNat then Ro.ok ⟨rngC i c (Builtin.Range.rangeSize i j c).toNat,none⟩ s1 else _)
 rw[en,if_pos hz];exact h)
end
end Y
namespace Y
open PySem L2 Z
inductive KD where
 | keys|vals|items
def kD:Key→D
 | .inl i=>.int i
 | .inr x=>.str x
def dIt:KD→List (Key×D)→List D
 | .keys,l=>l.map fun p=>kD p.1
 | .vals,l=>l.map Prod.snd
 | .items,l=>l.map fun p=>.tup [kD p.1,p.2]
def dI:KD→Nat→TI
 | .keys,i=>iKeys (tVar i)
 | .vals,i=>iVals (tVar i)
 | .items,i=>iItems (tVar i)
section
variable {K:PySem.W.Frag} {ct:Ct} {H0:Hp} {W:WX} {S:Sh} {s:Stt} {σ:St} {H:Hp}
theorem j1o {G:Hp} {α:Nat→Addr} {n:Nat} (k:Key):Rp K G α n (kV k) (kD k):=by
 cases k with
 | inl i=>exact .int i
 | inr x=>exact .str x
theorem RpK.at {G:Hp} {α:Nat→Addr} {n:Nat}:∀{kvs:List (Key×V)} {l:List (Key×D)} {i:Nat} {k:Key} {d:D},RpK K G α n kvs l→l[i]? = some (k,d)→∃v,kvs[i]? = some (k,v)∧Rp K G α n v d
 | _,_,_,_,_,.nil,e=>by simp at e
 | _,_,0,_,_,.cons a _,e=>by simp at e;obtain⟨rfl,rfl⟩:=e;exact⟨_,rfl,a⟩
 | _,_,i+1,_,_,.cons _ r,e=>by
  simp at e
  obtain⟨v,h1,h2⟩:=r.at e
  exact⟨v,by simpa using h1,h2⟩
theorem RpK.step' {G G':Hp} {α α':Nat→Addr} {n n':Nat} (g:Same G G') (ha:∀k,k<n→α' k=α k) (hn:n≤n'):∀{kvs:List (Key×V)} {l:List (Key×D)},RpK K G α n kvs l→RpK K G' α' n' kvs l
 | _,_,.nil=>.nil
 | _,_,.cons a r=>.cons (a.mono g ha hn) (r.step' g ha hn)
def dJ:KD→Addr→Obj→List (Key×V)→It
 | .keys,d,o,kvs=>Itk d o kvs
 | .vals,d,o,kvs=>Itd d o kvs
 | .items,d,o,kvs=>Iti d o kvs
theorem wk_d {kd:KD} {d:Addr} {o:Obj} {kvs:List (Key×V)} {l:List (Key×D)} (hd:H d=some (.frz o (.dK kvs))) (hl:S.lab d=none) (r:RpK K S.G S.α s.M.length kvs l):Wk K ct H0 S s.M.length H (dJ kd d o kvs) ⟨dIt kd l,none⟩:=fun S1 s1 σ1 H1 st rel _=>by
 have h1:=(st.fr d _ hd hl).1
 have r1:=r.step' st.g st.al st.le
 have hlen:=r.len
 cases kd with
 | keys =>
  refine⟨fun i x e=>?_,⟨h1,by show kvs.length≤(l.map _).length;rw[List.length_map];omega⟩⟩
  have e:(l.map fun p=>kD p.1)[i]? = some x:=e
  rw[List.getElem?_map] at e
  obtain⟨⟨k,y⟩,e1,rfl⟩:=Option.map_eq_some_iff.mp e
  obtain⟨v,e2,e3⟩:=r1.at e1
  refine⟨⟨h1,(List.getElem?_eq_some_iff.mp e2).1⟩,fun x H2 hy=>?_⟩
  obtain⟨rfl,k',v',q1,rfl⟩:=hy
  rw[e2] at q1;cases q1
  exact⟨S1,.refl,rel,j1o k⟩
 | vals =>
  refine⟨fun i x e=>?_,⟨h1,by show kvs.length≤(l.map _).length;rw[List.length_map];omega⟩⟩
  have e:(l.map Prod.snd)[i]? = some x:=e
  rw[List.getElem?_map] at e
  obtain⟨⟨k,y⟩,e1,rfl⟩:=Option.map_eq_some_iff.mp e
  obtain⟨v,e2,e3⟩:=r1.at e1
  refine⟨⟨h1,(List.getElem?_eq_some_iff.mp e2).1⟩,fun x H2 hy=>?_⟩
  obtain⟨rfl,k',q1⟩:=hy
  rw[e2] at q1;cases q1
  exact⟨S1,.refl,rel,e3⟩
 | items =>
  refine⟨fun i x e=>?_,⟨h1,by show kvs.length≤(l.map _).length;rw[List.length_map];omega⟩⟩
  have e:(l.map fun p=>D.tup [kD p.1,p.2])[i]? = some x:=e
  rw[List.getElem?_map] at e
  obtain⟨⟨k,y⟩,e1,rfl⟩:=Option.map_eq_some_iff.mp e
  obtain⟨v,e2,e3⟩:=r1.at e1
  refine⟨⟨h1,(List.getElem?_eq_some_iff.mp e2).1⟩,fun x H2 hy=>?_⟩
  obtain⟨T,k',v',q1,rfl,hT,rfl⟩:=hy
  rw[e2] at q1;cases q1
  exact q9q rel hT (.cons (j1o k) (.cons e3 .nil))
theorem j9n {kd:KD} {i:Nat} {d:Addr} {o:Obj} {kvs:List (Key×V)} {R:It→Hp→Prop} (hs:σ[i]? = some (some (.ref d))) (hd:H d=some (.frz o (.dK kvs))) (h:R (dJ kd d o kvs) H):dI kd i σ H R:=by
 cases kd with
 | keys=>exact⟨_,hs,d,o,rfl,.inl ⟨kvs,hd,h⟩⟩
 | vals=>exact⟨_,hs,d,o,kvs,rfl,hd,h⟩
 | items=>exact⟨_,hs,d,o,kvs,rfl,hd,h⟩
def Ct.lkd (ct:Ct) (d:Option Addr):Ct:=⟨ct.c,ct.xa,d⟩
theorem CnOk.lkd {b:Option Addr} {n:Nat} {p:Addr} {c:Cn} (h:CnOk K ct S n H p c):CnOk K (ct.lkd b) S n H p c:=by
 cases c<;>exact h
theorem CnOk.unlkd {b:Option Addr} {n:Nat} {p:Addr} {c:Cn} (h:CnOk K (ct.lkd b) S n H p c):CnOk K ct S n H p c:=by
 cases c<;>exact h
/-- a frozen dict is locked -/
theorem Rel.lock {d:Addr} {od:Obj} {kvs:List (Key×V)} (hlk:ct.lk=none) (r:Rel K ct H0 S s σ H) (hg:S.G d=some (.dK kvs)):H d=some (.dK kvs)∧Rel K (ct.lkd (some d)) H0 S s σ (upd H d (.frz od (.dK kvs))):=by
 have hs:Same S.G H:=by have:=r.sub;rw[hlk,U0] at this;exact this
 have hd:=hs _ _ hg
 have ne:∀{a:Addr} {l:Lab},S.lab a=some l→a≠d:=fun {a l} h z=>by subst z;rw[(r.lg a l h).1] at hg;cases hg
 have cn:∀{a:Addr} {l:Lab} {c:Cn},S.lab a=some l→CnOk K ct S s.M.length H a c→CnOk K (ct.lkd (some d)) S s.M.length (upd H d (.frz od (.dK kvs))) a c:=fun {a l c} hl h=>(h.mono (H':=upd H d (.frz od (.dK kvs))) (fun _ _ e=>e) (fun _ _=>rfl) (Nat.le_refl _) (fun o e=>by rw[upd_ne (ne hl)];exact e)).lkd
 refine⟨hd,⟨fun a u e=>?_,fun a l e=>?_,fun a e=>r.dom a (q1a.mp e).2,r.len,fun i en q=>?_,fun k c q=>?_⟩⟩
 ·show U (some d) _ a=some u
  by_cases z:a=d
  ·subst z
   rw[hg] at e;cases e
   unfold U;rw[if_pos rfl,upd_same];rfl
  ·unfold U;rw[if_neg (by simp;exact fun q=>z q.symm),upd_ne z];exact hs _ _ e
 ·obtain⟨h1,o,h2,h3⟩:=r.lg a l e
  exact⟨h1,o,by rw[upd_ne (ne e)];exact h2,h3⟩
 ·have hh:=r.slot i en q
  cases en with
  | fz x=>exact hh
  | xn x=>exact q2m (S:=S) (n:=s.M.length) (H:=H) (fun _ _ e=>e) (fun _ _=>rfl) (Nat.le_refl _) rfl hh
  | ow c =>
   obtain⟨p,h1,h2,h3,h4,h5⟩:=hh
   exact⟨p,h1,h2,h3,h4,cn h3 h5⟩
 ·obtain⟨h1,h2⟩:=r.ids k c q
  exact⟨h1,cn h1 h2⟩
theorem Rel.unlock {d:Addr} {kvs:List (Key×V)} {S':Sh} {s':Stt} {H':Hp} (hlk:ct.lk=none) (r:Rel K (ct.lkd (some d)) H0 S' s' σ H') (hg:S'.G d=some (.dK kvs)):Rel K ct H0 S' s' σ (upd H' d (.dK kvs)):=by
 have ne:∀{a:Addr} {l:Lab},S'.lab a=some l→a≠d:=fun {a l} h z=>by subst z;rw[(r.lg a l h).1] at hg;cases hg
 have cn:∀{a:Addr} {l:Lab} {c:Cn},S'.lab a=some l→CnOk K (ct.lkd (some d)) S' s'.M.length H' a c→CnOk K ct S' s'.M.length (upd H' d (.dK kvs)) a c:=fun {a l c} hl h=>(h.mono (H':=upd H' d (.dK kvs)) (fun _ _ e=>e) (fun _ _=>rfl) (Nat.le_refl _) (fun o e=>by rw[upd_ne (ne hl)];exact e)).unlkd
 refine⟨fun a u e=>?_,fun a l e=>?_,fun a e=>r.dom a (q1a.mp e).2,r.len,fun i en q=>?_,fun k c q=>?_⟩
 ·rw[hlk,U0]
  by_cases z:a=d
  ·subst z
   rw[hg] at e;cases e;exact upd_same
  ·rw[upd_ne z]
   have:=r.sub a u e
   have h2:U (some d) H' a=some u:=this
   unfold U at h2;rw[if_neg (by simp;exact fun q=>z q.symm)] at h2;exact h2
 ·obtain⟨h1,o,h2,h3⟩:=r.lg a l e
  exact⟨h1,o,by rw[upd_ne (ne e)];exact h2,h3⟩
 ·have hh:=r.slot i en q
  cases en with
  | fz x=>exact hh
  | xn x=>exact q2m (S:=S') (n:=s'.M.length) (H:=H') (fun _ _ e=>e) (fun _ _=>rfl) (Nat.le_refl _) rfl hh
  | ow c =>
   obtain⟨p,h1,h2,h3,h4,h5⟩:=hh
   exact⟨p,h1,h2,h3,h4,cn h3 h5⟩
 ·obtain⟨h1,h2⟩:=r.ids k c q
  exact⟨h1,cn h1 h2⟩
theorem Stp.lockd {d:Addr} {od:Obj} {u:HO} {S':Sh} {n n':Nat} {H':Hp} (hd:H d=some u) (t:Stp S n (upd H d (.frz od u)) S' n' H'):Stp S n H S' n' (upd H' d u) where
 g:=t.g
 le:=t.le
 al:=t.al
 fr:=fun a o h l=>by
  by_cases z:a=d
  ·subst z
   rw[hd] at h;cases h
   exact⟨upd_same,(t.fr a _ upd_same l).2⟩
  ·obtain⟨h1,h2⟩:=t.fr a o (by rw[upd_ne z];exact h) l
   exact⟨by rw[upd_ne z];exact h1,h2⟩
 gn:=fun a o e=>by
  rcases t.gn a o e with h|h|h|⟨vs,h⟩
  ·exact .inl h
  ·exact .inr (.inl (q1a.mp h).2)
  ·exact .inr (.inr (.inl h))
  ·refine .inr (.inr (.inr ⟨vs,?_⟩))
   by_cases z:a=d
   ·subst z;rw[upd_same] at h;cases h
   ·rw[upd_ne z] at h;exact h
 dom:=fun a h=>(q1a.mp (t.dom a (q1a.mp h).2)).2
 fz:=fun a od' w h=>by
  by_cases z:a=d
  ·subst z;rw[upd_same,←hd];exact h
  ·rw[upd_ne z];exact t.fz a od' w (by rw[upd_ne z];exact h)
noncomputable def mLcD (kd:KD) (i:Nat) (ws:List Nat) (g:Tg) (c:Mo Bool) (e:Mo AI):Mo AI:=fun s=>match q2s s i with
 | some (.fz (.dK l))=>mLc ws (fun s=>.ok ⟨dIt kd l,none⟩ s) g c e s
 | some (.ow (.dK l))=>(mLc ws (fun s=>.ok ⟨dIt kd l,none⟩ s) g c e ⟨s.env.set i none,s.M⟩).bind fun a s1=>.ok a ⟨s1.env.set i (some (.ow (.dK l))),s1.M⟩
 | _=>.no
theorem z9p {ws:List Nat} {im:Im} {g:Tg} {c:Mo Bool} {e:Mo AI} {x:Exn} {s s':Stt}:mLc ws (fun s=>.ok im s) g c e s≠.er x s':=fun h=>by
 have h:(match lcN ws g c (mV e) im.ck im.xs [] (q2a ws s) with|.ok l s2=>Ro.ok (AI.new (.lst l)) ⟨rest s.env s2.env ws,s2.M⟩|_=>.no) = .er x s':=h
 split at h<;>cases h
theorem z7k {σ:St} {i:Nat} {v:V} (h:σ[i]? = some (some v)):σ.set i (some v)=σ:=by
 obtain⟨h1,h2⟩:=List.getElem?_eq_some_iff.mp h
 rw[←h2];exact List.set_getElem_self h1
theorem j4z {kd:KD} {i:Nat} {js ws:List Nat} {g:TG} {tt:TT} {te:TE} {f:Tg} {c:Mo Bool} {e:Mo AI} (hlk:ct.lk=none) (hg:∀b,Sg K (ct.lkd b) H0 js g f) (hjs:∀j∈js,j∈ws) (hc:∀b,Et K (ct.lkd b) H0 W0 tt c) (he:∀b,Ei K (ct.lkd b) H0 W0 te e) :
  Ei K ct H0 W (tLockE (tLc (dI kd i) g tt te ws)) (mLcD kd i ws f c e):=fun S s σ H Q rel p=>by
 have ect:ct.lkd none=ct:=by cases ct;cases hlk;rfl
 unfold mLcD at p
 split at p
 ·rename_i l en
  obtain⟨v,h1,h2⟩:=rel.slot i _ (q1t en)
  cases h2 with
  | @dK d kvs _ k1 k2 k3 =>
   have rk:=RpK.of k2 k3
   obtain⟨hd,_⟩:=rel.lock (od:=default) hlk k1
   have hlab:S.lab d=none:=by
    cases q:S.lab d with
    | none=>rfl
    | some z=>rw[(rel.lg d z q).1] at k1;cases k1
   refine⟨d,_,hd,trivial,fun od=>?_⟩
   have rl:=(rel.lock (od:=od) hlk k1).2
   refine q9y (K:=K) (ct:=ct.lkd (some d)) (H0:=H0) (W:=W0) (S:=S) (s:=s) (mi:=fun s=>.ok ⟨dIt kd l,none⟩ s) (fun R q=>j9n h1 upd_same (q S _ _ .refl rl (wk_d upd_same hlab rk))) (hg _) hjs (hc _) (he _) ?_
   have hne:∀x s',mLc ws (fun s=>.ok ⟨dIt kd l,none⟩ s) f c e s≠.er x s':=fun _ _=>z9p
   generalize mLc ws (fun s=>.ok ⟨dIt kd l,none⟩ s) f c e s=R at p hne
   cases R with
   | no=>exact p
   | er x s'=>exact absurd rfl (hne _ _)
   | ok a s' =>
    intro S' b H' st rel' it
    have hd':=(st.fr d _ upd_same hlab).1
    have g':S'.G d=some (.dK kvs):=st.g _ _ k1
    refine⟨hd',p S' b _ (st.lockd hd) (rel'.unlock hlk g') ?_⟩
    cases a with
    | val x=>exact it
    | slot j=>exact it
    | new c' =>
     obtain⟨pp,rfl,i1,i2,i3,i4,i5⟩:=it
     have ne:pp≠d:=fun z=>by subst z;rw[i3] at g';cases g'
     exact⟨pp,rfl,(q1a.mp i1).2,i2,i3,i4,(i5.mono (H':=upd H' d (.dK kvs)) (fun _ _ e=>e) (fun _ _=>rfl) (Nat.le_refl _) (fun o e=>by rw[upd_ne ne];exact e)).unlkd⟩
 ·rename_i l en
  obtain⟨d,h1,h2,h3,h4,h5⟩:=rel.slot i _ (q1t en)
  obtain⟨kvs,hd,k2,k3⟩:=h5
  have hgd:=(rel.lg d _ h3).1
  have rk:RpK K (S.un i).G (S.un i).α s.M.length kvs l:=RpK.of k2 k3
  have hlab:(S.un i).lab d=none:=by show(if S.lab d=some (.slot i) then none else S.lab d)=none;rw[if_pos h3]
  refine⟨d,_,hd,trivial,fun od=>?_⟩
  have rl:Rel K ct H0 (S.un i) ⟨s.env.set i none,s.M⟩ σ (upd H d (.frz od (.dK kvs))):=rel.setN.updU hlab hgd
  refine q9y (K:=K) (ct:=ct) (H0:=H0) (W:=W0) (S:=S.un i) (s:=⟨s.env.set i none,s.M⟩) (mi:=fun s=>.ok ⟨dIt kd l,none⟩ s) (fun R q=>j9n h1 upd_same (q (S.un i) _ _ .refl rl (wk_d (s:=⟨s.env.set i none,s.M⟩) upd_same hlab rk))) (by have:=hg none;rw[ect] at this;exact this) hjs (by have:=hc none;rw[ect] at this;exact this) (by have:=he none;rw[ect] at this;exact this) ?_
  have hne:∀x s',mLc ws (fun s=>.ok ⟨dIt kd l,none⟩ s) f c e ⟨s.env.set i none,s.M⟩≠.er x s':=fun _ _=>z9p
  generalize mLc ws (fun s=>.ok ⟨dIt kd l,none⟩ s) f c e ⟨s.env.set i none,s.M⟩=R at p hne
  cases R with
  | no=>exact p
  | er x s'=>exact absurd rfl (hne _ _)
  | ok a s' =>
   intro S' b H' st rel' it
   obtain⟨hd',hl'⟩:=st.fr d _ upd_same hlab
   have hg':S'.G d=none:=by
    cases q:S'.G d with
    | none=>rfl
    | some o =>
     rcases st.gn d o q with z|z|⟨z,z'⟩|⟨us,z⟩
     ·have z:S.G d=some o:=z;rw[hgd] at z;cases z
     ·rw[upd_same] at z;cases z
     ·rw[hlab] at z';cases z'
     ·rw[upd_same] at z;cases z
   have rk':=rk.step' st.g st.al st.le
   have r2:=(rel'.updU (o:=.dK kvs) hl' hg').setOw (i:=i) (c:=.dK l) h2 hl' hg' rfl ⟨kvs,upd_same,rk'.keys,rk'.vals⟩
   rw[z7k h1] at r2
   have hneq:∀{a:Addr},S.lab a=none→a≠d:=fun {a} ha z=>by subst z;rw[h3] at ha;cases ha
   refine⟨hd',p (S'.cl i d) b _ ⟨st.g,st.le,st.al,fun a o ha la=>?_,fun a o ga=>?_,fun a ha=>?_,fun a od' w ha=>?_⟩ r2 ?_⟩
   ·have lu:(S.un i).lab a=none:=by show(if S.lab a=some (.slot i) then none else S.lab a)=none;rw[la];rfl
    obtain⟨z1,z2⟩:=st.fr a o (by rw[upd_ne (hneq la)];exact ha) lu
    refine⟨by rw[upd_ne (hneq la)];exact z1,?_⟩
    show(if a=d then some (Lab.slot i) else if S'.lab a=some (.slot i) then none else S'.lab a)=none
    rw[if_neg (hneq la),z2];rfl
   ·rcases st.gn a o ga with z|z|⟨z,z'⟩|⟨us,h⟩
    ·exact .inl z
    ·exact .inr (.inl (q1a.mp z).2)
    ·exact .inr (.inr (.inl ⟨z,z9h z'⟩))
    ·refine .inr (.inr (.inr ⟨us,?_⟩))
     by_cases z:a=d
     ·subst z;rw[upd_same] at h;cases h
     ·rw[upd_ne z] at h;exact h
   ·exact(q1a.mp (st.dom a (q1a.mp ha).2)).2
   ·have z:a≠d:=fun z=>by subst z;rw[hd] at ha;cases ha
    rw[upd_ne z];exact st.fz a od' w (by rw[upd_ne z];exact ha)
   ·cases a with
    | val x=>exact it
    | slot j=>exact it
    | new c' =>
     obtain⟨pp,rfl,i1,i2,i3,i4,i5⟩:=it
     obtain⟨i0,i1⟩:=q1a.mp i1
     refine⟨pp,rfl,i1,?_,i3,i4,i5.mono (H':=upd H' d (.dK kvs)) (fun _ _ e=>e) (fun _ _=>rfl) (Nat.le_refl _) (fun o e=>by rw[upd_ne i0];exact e)⟩
     show(if pp=d then some (Lab.slot i) else if S'.lab pp=some (.slot i) then none else S'.lab pp)=none
     rw[if_neg i0,i2];rfl
 ·exact False.elim p
end
end Y
namespace Y
open PySem L2 Z
abbrev pyP (p:Int×Int):PyData:=.tuple [.int p.1,.int p.2]
def ltP (x y:Int×Int):Bool:=decide (x.1<y.1∨(x.1=y.1∧x.2<y.2))
def minP (p:Int×Int) (ps:List (Int×Int)):Int×Int:=ps.foldl (fun a y=>if ltP y a=true then y else a) p
theorem dlt (x y:Int×Int):PySem.W.dataLt (pyP x) (pyP y)=ltP x y:=by
 obtain⟨a,b⟩:=x
 obtain⟨c,d⟩:=y
 show(decide ((1:Int)<1)||(!decide ((1:Int)<1)&&(decide (a<c)||(!decide (c<a)&&(decide ((1:Int)<1)||(!decide ((1:Int)<1)&&(decide (b<d)||(!decide (d<b)&&(decide ((0:Int)<0)||(!decide ((0:Int)<0)&&false))))))))))=decide (a<c∨(a=c∧b<d))
 by_cases h1:a<c
 ·simp[h1]
 ·by_cases h2:c<a
  ·have:¬a=c:=by omega
   simp[h1,h2,this]
  ·have:a=c:=by omega
   subst this
   by_cases h3:b<d
   ·simp[h3]
   ·simp[h3]
theorem z7b:∀(ps:List (Int×Int)) (p:Int×Int),PySem.W.minD (pyP p) (ps.map pyP)=pyP (minP p ps)
 | [],p=>rfl
 | y::ps,p=>by
  show PySem.W.minD (if PySem.W.dataLt (pyP y) (pyP p)=true then pyP y else pyP p) (ps.map pyP)=pyP (minP (if ltP y p=true then y else p) ps)
  rw[dlt]
  by_cases h:ltP y p=true
  ·rw[if_pos h,if_pos h];exact z7b ps y
  ·rw[if_neg h,if_neg h];exact z7b ps p
def j3o (K:PySem.W.Frag):List V→Hp→VK→Prop:=fun xs H Q=>∃(q:Addr) (us:List V) (p:Int×Int) (ps:List (Int×Int)),xs=[.ref q]∧SqL K H q us∧DpAll K H us ((p::ps).map pyP)∧∀(i:Nat) (u:V),us[i]? = some u→(p::ps)[i]? = some (minP p ps)→Q u H
section
variable {X:Cx}
theorem z4t:∀ps:List (Int×Int),PyData.depthAll (ps.map pyP)≤5
 | []=>by show 0≤5;omega
 | p::ps=>by
  have:=z4t ps
  show max (PyData.depth (pyP p)) (PyData.depthAll (ps.map pyP))≤5
  have h:PyData.depth (pyP p)≤5:=by show max (0+0) (max 0 0)+1≤5<;>decide
  omega
theorem z8w (hc:X.calm=true) (hu:X.A.units+70<cLine):CallR X (.builtin "min") (j3o X.K):=by
 intro pins s σ H vs us Q I r h
 obtain⟨a,xs,p,ps,rfl,hs,hd,q⟩:=h
 obtain⟨its,rv,hl,hz⟩:=I.list hs
 rw[Vals.ref1 r]
 obtain⟨as,hr⟩:=Dp.readsAll I _ _ _ hd rv
 have hr':ReadsAll s.heap its.toArray.toList (pyP p::ps.map pyP) as:=by simpa using hr
 refine PySem.W.min_list_data (I.ok.hd hc) hl.isList hr' ⟨fun x hx y hy=>?_,fun x hx=>?_⟩ ?_ fun i v h' tk bs hv hR hk=>?_
 ·obtain⟨p1,_,rfl⟩:=List.mem_map.mp (show x∈(p::ps).map pyP from hx)
  obtain⟨p2,_,rfl⟩:=List.mem_map.mp (show y∈(p::ps).map pyP from hy)
  rfl
 ·obtain⟨p1,_,rfl⟩:=List.mem_map.mp (show x∈(p::ps).map pyP from hx)
  intro z;cases z
 ·have:=z4t (p::ps)
  have e:PyData.depthAll (pyP p::ps.map pyP)=PyData.depthAll ((p::ps).map pyP):=rfl
  omega
 ·rw[z7b] at hR
  have hv':its[i]? = some v:=by simpa using hv
  obtain⟨bs',r1,hlt,_,_⟩:=PySem.W.readsAll_at hr i v hv'
  have e:=(Reads.unique (PyProof.Rows.Reads.keeps hk r1) _ _ hR).1
  have hlt':i<(p::ps).length:=by rw[List.length_map] at hlt;exact hlt
  have ep:((p::ps).map pyP).getD i .none=pyP (p::ps)[i]:=by
   rw[List.getD_eq_getElem?_getD,List.getElem?_map,List.getElem?_eq_getElem hlt'];rfl
  rw[ep] at e
  have e2:(p::ps)[i]=minP p ps:=by
   injection e with e
   injection e with e3 e4
   injection e3 with e3
   injection e4 with e4 _
   injection e4 with e4
   exact Prod.ext e3 e4
  have hxl:i<xs.length:=by have:=rv.length;have:=(List.getElem?_eq_some_iff.mp hv').1;omega
  obtain⟨u,hu1,hu2⟩:=rv.get (List.getElem?_eq_getElem hxl)
  rw[hv'] at hu1;cases hu1
  exact⟨_,H,I.kept (t':=tk) hk,hu2,q i _ (List.getElem?_eq_getElem hxl) (by rw[List.getElem?_eq_getElem hlt',e2])⟩
theorem j0n {K:PySem.W.Frag} (hK:X.K=K) (hc:X.calm=true) (hu:X.A.units+70<cLine):CallR X (.builtin "min") (j3o K):=by subst hK;exact z8w hc hu
end
section
variable {K:PySem.W.Frag} {ct:Ct} {H0:Hp} {W:WX}
def tP (p:Int×Int):D:=.tup [.int p.1,.int p.2]
def q8s:List D→Option (List (Int×Int))
 | []=>some []
 | .tup [.int a,.int b]::l=>(q8s l).map ((a,b)::·)
 | _::_=>none
theorem z0r:∀{l:List D} {ps:List (Int×Int)},q8s l=some ps→l=ps.map tP
 | [],_,e=>by cases e;rfl
 | d::l,ps,e=>by
  unfold q8s at e
  split at e
  ·rename_i h;cases h
  ·rename_i a b l' h
   cases h
   obtain⟨qs,q,rfl⟩:=Option.map_eq_some_iff.mp e
   rw[z0r q];rfl
  ·cases e
theorem q8p:∀ps:List (Int×Int),q8s (ps.map tP)=some ps
 | []=>rfl
 | p::ps=>by show(q8s (ps.map tP)).map (p::·)=_;rw[q8p ps];rfl
def z4h (s:Stt) (as:List AI):Ro AI:=match as with
 | [a]=>match(q1v s a).bind q8s with
  | some (p::ps)=>.ok (.val (tP (minP p ps))) s
  | _=>.no
 | _=>.no
theorem j9w:∀ps:List (Int×Int),D.pyL (ps.map tP)=some (ps.map pyP)
 | []=>rfl
 | p::ps=>by show((tP p).py).bind (fun x=>(D.pyL (ps.map tP)).map (x::·))=_;rw[j9w ps];rfl
theorem j2z:JB K ct H0 (j3o K) z4h:=fun W S s σ H Hs vs as Q rel ia p=>by
 unfold z4h at p
 split at p
 ·rename_i a
  obtain⟨v,rfl,i⟩:=as1 ia
  split at p
  ·rename_i p0 ps e
   obtain⟨l,e1,e2⟩:=Option.bind_eq_some_iff.mp e
   obtain⟨q,us,rfl,k1,k2⟩:=q2f rel i e1
   have el:=z0r e2
   subst el
   have kH:=uDpL (rpL_dp (RpL.mono rel.sub (fun _ _=>rfl) (Nat.le_refl _) k2) (j9w (p0::ps)))
   refine⟨q,us,p0,ps,rfl,k1,kH,fun j u hu hj=>?_⟩
   obtain⟨d,hd1,hd2⟩:=k2.get' hu
   rw[List.getElem?_map,hj] at hd1
   cases hd1
   exact p.val rel hd2
  ·exact False.elim p
 ·exact False.elim p
variable {s:Stt} {X:Exn→Stt→Prop} {QA:AI→Stt→Prop}
theorem j5g {a:AI} {p:Int×Int} {ps:List (Int×Int)} (e:q1v s a=some ((p::ps).map tP)) (h:QA (.val (tP (minP p ps))) s):Wo QA X (z4h s [a]):=by
 unfold z4h;simp only[];rw[e,Option.bind_some,q8p];exact h
def w2e:D→Option (Key×D)
 | .tup [.int i,x]=>some (.inl i,x)
 | .tup [.str i,x]=>some (.inr i,x)
 | _=>none
def z9q:List D→Option (List (Key×D))
 | []=>some []
 | d::l=>(w2e d).bind fun p=>(z9q l).map (p::·)
def mgD (l:List (Key×D)):List (Key×D):=l.foldl (fun a p=>pu a p.1 p.2) []
def fDict (s:Stt) (as:List AI):Ro AI:=match as with
 | [a]=>match(q1v s a).bind z9q with
  | some l=>.ok (.new (.dK (mgD l))) s
  | none=>.no
 | _=>.no
theorem j7x (h:QA (.new (.dK [])) s):Wo QA X (z3t s):=h
theorem w0k {kd:KD} {i:Nat} {ws:List Nat} {g:Tg} {c:Mo Bool} {e:Mo AI} {l:List (Key×D)} (en:q2s s i=some (.fz (.dK l))) (h:∃l2 s2,lcN ws g c (mV e) none (dIt kd l) [] (q2a ws s) = .ok l2 s2∧QA (.new (.lst l2)) ⟨Y.rest s.env s2.env ws,s2.M⟩):Wo QA X (mLcD kd i ws g c e s):=by
 unfold mLcD;rw[en]
 exact w_lc (show Wo _ X (Ro.ok (⟨dIt kd l,none⟩:Im) s) from h)
theorem j8z {kd:KD} {i:Nat} {ws:List Nat} {g:Tg} {c:Mo Bool} {e:Mo AI} {l:List (Key×D)} (en:q2s s i=some (.ow (.dK l))) (h:∃l2 s2,lcN ws g c (mV e) none (dIt kd l) [] (q2a ws ⟨s.env.set i none,s.M⟩) = .ok l2 s2∧QA (.new (.lst l2)) ⟨(Y.rest (s.env.set i none) s2.env ws).set i (some (.ow (.dK l))),s2.M⟩):Wo QA X (mLcD kd i ws g c e s):=by
 unfold mLcD;rw[en]
 refine q0g (w_lc (QA:=fun a s1=>Wo QA X (.ok a ⟨s1.env.set i (some (.ow (.dK l))),s1.M⟩)) (show Wo _ X (Ro.ok (⟨dIt kd l,none⟩:Im) _) from h))
theorem w1u {m1 m2:Mo AI} (h:Wo (fun a s1=>(∃l,q3b s1 a=some l)∧Wo (fun i s2=>∃l k d,getC s2 a=some (.dK l)∧q6r i=some k∧vl l k=some d∧QA (.val d) (setC s2 a (.dK (dr l k)))) X (mV m2 s1)) X (m1 s)):Wo QA X (mPop m1 m2 s):=q0g (q0e h fun a s1 ⟨⟨l,e⟩,h⟩=>by
 show Wo QA X (match q3b s1 a with|some _=>_|none=>_)
 rw[e]
 exact q0g (q0e h fun i s2 ⟨l,k,d,e1,e2,e3,h⟩=>by
  show Wo QA X (fPop s2 a i)
  unfold fPop
  rw[e1];simp only[];rw[e2,Option.bind_some,e3];exact h))
theorem z6s {N:Stt→Prop} {a:AI} {i d:D} {l:List (Key×D)} {k:Key} (e:getC s a=some (.dK l)) (e2:q6r i=some k) (hz:l.length<sizeLine) (h:N (setC s a (.dK (pu l k d)))):So N (q5w a i d s):=by
 unfold q5w;rw[e];simp only[];rw[e2,Option.bind_some,if_pos hz];exact h
/-- a comprehension with a test -/
theorem z2b {ws:List Nat} {g:Tg} {c:Mo Bool} {e:Mo D} {xs:List D} {P:List D→Stt→Prop} (p:D→Bool) (f:D→D) (hz:xs.length≤sizeLine) (h:∀x∈xs,So (fun s1=>Wo (fun b s2=>b=p x∧if b=true then Wo (fun d s3=>d=f x∧q2a ws s3=s) Xf (e s2) else q2a ws s2=s) Xf (c s1)) (g x s)) (k:P ((xs.filter p).map f) s):∃l s2,lcN ws g c e none xs [] s = .ok l s2∧P l s2:=by
 refine⟨(xs.filter p).map f,s,?_,k⟩
 have gen:∀(ys acc:List D),acc.length+ys.length≤sizeLine→(∀y∈ys,y∈xs)→lcN ws g c e none ys acc s = .ok (acc++(ys.filter p).map f) s:=by
  intro ys
  induction ys with
  | nil=>intro acc _ _;unfold lcN;rw[if_pos q4e];simp
  | cons y ys ih =>
   intro acc hl hy
   have hh:=h y (hy y (List.mem_cons_self ..))
   unfold lcN
   rw[if_pos q4e]
   cases q:g y s with
   | none=>rw[q] at hh;exact False.elim hh
   | some s1 =>
    rw[q] at hh
    simp only[]
    have hh:Wo _ Xf (c s1):=hh
    cases q2:c s1 with
    | no=>rw[q2] at hh;exact False.elim hh
    | er _ _=>rw[q2] at hh;exact False.elim hh
    | ok b s2 =>
     rw[q2] at hh
     obtain⟨hb,hh⟩:=hh
     simp only[]
     rw[List.length_cons] at hl
     by_cases hbt:b=true
     ·rw[if_pos hbt] at hh ⊢
      cases q3:e s2 with
      | no=>rw[q3] at hh;exact False.elim hh
      | er _ _=>rw[q3] at hh;exact False.elim hh
      | ok d s3 =>
       rw[q3] at hh
       obtain⟨rfl,hw⟩:=hh
       simp only[]
       rw[if_pos (by omega),hw,ih _ (by rw[List.length_append,List.length_singleton];omega) (fun z hz=>hy z (List.mem_cons_of_mem _ hz))]
       rw[List.filter_cons,if_pos (by rw[←hb];exact hbt),List.map_cons,List.append_assoc];rfl
     ·rw[if_neg hbt] at hh ⊢
      rw[hh,ih _ (by omega) (fun z hz=>hy z (List.mem_cons_of_mem _ hz))]
      rw[List.filter_cons,if_neg (by rw[←hb];exact hbt)]
 simpa using gen xs [] (by simpa using hz) (fun _ h=>h)
end
section
variable {K:PySem.W.Frag} {ct:Ct} {H0:Hp} {W:WX}
def mPar (i j:Nat) (m:Mo (List D)):Ms:=fun s=>(m s).toS fun ds s1=>match ds with
 | [x,y]=>.nx ⟨(s1.env.set i (some (.fz x))).set j (some (.fz y)),s1.M⟩
 | _=>.no
variable {s:Stt} {N:Stt→Prop} {O:Rs→Prop}
theorem w0s {i j:Nat} {m:Mo (List D)} (h:Wo (fun ds s1=>∃x y,ds=[x,y]∧N ⟨(s1.env.set i (some (.fz x))).set j (some (.fz y)),s1.M⟩) (fun x s=>O (.er x s)) (m s)):Ws N O (mPar i j m s):=q3o (q0e h fun ds s1 ⟨x,y,e,h⟩=>by subst e;exact h)
end
end Y
namespace Y
open PySem L2 Z
def putD (f:Str) (d:D):List (Str×D)→List (Str×D)
 | []=>[(f,d)]
 | (g,x)::r=>if g=f then(g,d)::r else(g,x)::putD f d r
section
variable {K:PySem.W.Frag} {ct:Ct} {H0:Hp} {W:WX} {S:Sh} {s:Stt} {σ:St} {H:Hp}
/-- to a value; a new thing is tracked -/
def toK:AI→Mo D:=fun a s=>match a with
 | .new c=>.ok (.cid s.M.length) ⟨s.env,s.M++[c]⟩
 | a=>toV a s
def mK (m:Mo AI):Mo D:=fun s=>(m s).bind toK
theorem j9h {t:TE} {m:Mo AI} (h:Ei K ct H0 W t m):Ev K ct H0 W t (mK m):=fun S s σ H Q rel p=>by
 unfold mK at p
 cases q:m s with
 | no=>rw[q] at p;exact h S s σ H Q rel (by rw[q];exact p)
 | er x s'=>rw[q] at p;exact h S s σ H Q rel (by rw[q];exact p)
 | ok a s' =>
  rw[q] at p
  cases a with
  | val d=>exact q4k h S s σ H Q rel (by unfold mV;rw[q];exact p)
  | slot i=>exact q4k h S s σ H Q rel (by unfold mV;rw[q];exact p)
  | new c =>
   refine h S s σ H Q rel (by
    rw[q]
    intro S' v H' st rel' it
    obtain⟨pp,rfl,h1,h2,h3,h4,h5⟩:=it
    have rt:=rel'.track h2 h3 h5
    have hlen:(s'.M++[c]).length=s'.M.length+1:=by simp
    have p:∀S'' b H'',Stp S s.M.length H S'' (s'.M++[c]).length H''→Rel K ct H0 S'' ⟨s'.env,s'.M++[c]⟩ σ H''→RV K H S'' ⟨s'.env,s'.M++[c]⟩ σ H'' b (.cid s'.M.length)→Q b H'':=p
    refine p (S'.tr s'.M.length pp) _ H' (by rw[hlen];exact st.track h1) rt ?_
    show Rp K _ _ (s'.M++[c]).length _ _
    rw[hlen];exact j0e)
def q3z (s:Stt) (a:AI):Option (Nat×Nat×List (Str×D)):=match a with
 | .val (.cid k)=>match s.M[k]? with
  | some (.obj c fs)=>some (k,c,fs)
  | _=>none
 | _=>none
def mFld (ok:Nat→Bool) (f:Str) (m:Mo AI):Mo AI:=fun s=>(m s).bind fun a s1=>match q3z s1 a with
 | some (_,c,fs)=>if ok c=true then(match fs.lookup f with|some d=>.ok (.val d) s1|none=>.no) else .no
 | none=>.no
def w2x (ok:Nat→Bool) (f:Str) (mo mv:Mo AI):Ms:=fun s=>(mK mv s).toS fun d s1=>(mo s1).toS fun a s2=>match q3z s2 a with
 | some (k,c,fs)=>if ok c=true∧fs.length<1000 then .nx ⟨s2.env,s2.M.set k (.obj c (putD f d fs))⟩ else .no
 | none=>.no
/-- o.f += e -/
def w0l (ok:Nat→Bool) (f:Str) (g:Int→Int→Int) (mo mv:Mo AI):Ms:=fun s=>(mo s).toS fun a s1=>match q3z s1 a with
 | some (k,c,fs)=>if ok c=true then(match fs.lookup f with
  | some (.int i)=>(mv s1).toS fun b s2=>match b with
   | .val (.int j)=>match s2.M[k]? with
    | some (.obj c' fs')=>if c'=c∧fs'.length<1000 then .nx ⟨s2.env,s2.M.set k (.obj c (putD f (.int (g i j)) fs'))⟩ else .no
    | _=>.no
   | _=>.no
  | _=>.no) else .no
 | none=>.no
def j9k (c:Nat) (nm:Str) (f:Mf) (mo:Mo AI) (ma:Mo (List D)):Mo AI:=fun s=>(mo s).bind fun a s1=>match q3z s1 a with
 | some (k,c',fs)=>if c'=c∧fs.lookup nm=none then((ma s1).bind fun ds s2=>match f (.cid k::ds) s2.M with
  | .ok a M'=>.ok a ⟨s2.env,M'⟩
  | _=>.no) else .no
 | none=>.no
def j9v (c:Nat) (nm:Str) (f:Mf) (mo:Mo AI) (ma:Mo (List D)):Mo AI:=fun s=>(mo s).bind fun a s1=>match q3z s1 a with
 | some (k,c',fs)=>if c'=c∧fs.lookup nm=none then((ma s1).bind fun ds s2=>match f (.cid k::ds) s2.M with
  | .ok a M'=>.ok a ⟨s2.env,M'⟩
  | .er x M'=>.er x ⟨s2.env,M'⟩
  | .no=>.no) else .no
 | none=>.no
def j8v (c:Nat) (f:Mf) (dds:List D) (ma:Mo (List D)):Mo AI:=fun s=>(ma s).bind fun ds s1=>match f (.cid s1.M.length::(ds++dds)) (s1.M++[.obj c []]) with
 | .ok (.val .non) M'=>.ok (.val (.cid s1.M.length)) ⟨s1.env,M'⟩
 | _=>.no
def w0a (c:Nat) (f:Mf) (dds:List D) (ma:Mo (List D)):Mo AI:=fun s=>(ma s).bind fun ds s1=>match f (.cid s1.M.length::(ds++dds)) (s1.M++[.obj c []]) with
 | .ok (.val .non) M'=>.ok (.val (.cid s1.M.length)) ⟨s1.env,M'⟩
 | .er x M'=>.er x ⟨s1.env,M'⟩
 | _=>.no
end
section
variable {s:Stt} {X:Exn→Stt→Prop} {QA:AI→Stt→Prop} {N:Stt→Prop} {O:Rs→Prop} {QD:D→Stt→Prop} {m mo mv:Mo AI} {ma:Mo (List D)}
theorem w_K (h:Wo (fun a s1=>Wo QD X (toK a s1)) X (m s)):Wo QD X (mK m s):=q0g h
theorem j7e {c:Cn} (h:QD (.cid s.M.length) ⟨s.env,s.M++[c]⟩):Wo QD X (toK (.new c) s):=h
theorem j7d {d:D} (h:QD d s):Wo QD X (toK (.val d) s):=h
theorem j6p {i:Nat} (h:Wo QD X (toV (.slot i) s)):Wo QD X (toK (.slot i) s):=h
theorem w2t {ok:Nat→Bool} {f:Str} (h:Wo (fun a s1=>∃k c fs d,q3z s1 a=some (k,c,fs)∧ok c=true∧fs.lookup f=some d∧QA (.val d) s1) X (m s)):Wo QA X (mFld ok f m s):=q0g (q0e h fun a s1 ⟨k,c,fs,d,e,h1,h2,h⟩=>by
 show Wo QA X (match q3z s1 a with|some (_,c,fs)=>_|none=>_)
 rw[e];simp only[];rw[if_pos h1,h2];exact h)
theorem j7w {ok:Nat→Bool} {f:Str} (h:Wo (fun d s1=>Wo (fun a s2=>∃k c fs,q3z s2 a=some (k,c,fs)∧(ok c=true∧fs.length<1000)∧N ⟨s2.env,s2.M.set k (.obj c (putD f d fs))⟩) (fun x s=>O (.er x s)) (mo s1)) (fun x s=>O (.er x s)) (mK mv s)):Ws N O (w2x ok f mo mv s) :=
 q3o (q0e h fun d s1 h=>q3o (q0e h fun a s2 ⟨k,c,fs,e,h1,h⟩=>by
  show Ws N O (match q3z s2 a with|some (k,c,fs)=>_|none=>_)
  rw[e];simp only[];rw[if_pos h1];exact h))
theorem j9a {ok:Nat→Bool} {f:Str} {g:Int→Int→Int} (h:Wo (fun a s1=>∃k c fs i,q3z s1 a=some (k,c,fs)∧ok c=true∧fs.lookup f=some (.int i)∧Wo (fun b s2=>∃j fs',b = .val (.int j)∧s2.M[k]? = some (.obj c fs')∧fs'.length<1000∧N ⟨s2.env,s2.M.set k (.obj c (putD f (.int (g i j)) fs'))⟩) (fun x s=>O (.er x s)) (mv s1)) (fun x s=>O (.er x s)) (mo s)):Ws N O (w0l ok f g mo mv s) :=
 q3o (q0e h fun a s1 ⟨k,c,fs,i,e,h1,h2,h⟩=>by
  show Ws N O (match q3z s1 a with|some (k,c,fs)=>_|none=>_)
  rw[e];simp only[];rw[if_pos h1,h2]
  exact q3o (q0e h fun b s2 ⟨j,fs',e1,e2,h3,h⟩=>by
   subst e1
   show Ws N O (match s2.M[k]? with|some (.obj c' fs')=>_|_=>_)
   rw[e2];simp only[];rw[if_pos ⟨trivial,h3⟩];exact h))
theorem j0t {c:Nat} {nm:Str} {f:Mf} (h:Wo (fun a s1=>∃k fs,q3z s1 a=some (k,c,fs)∧fs.lookup nm=none∧Wo (fun ds s2=>Fo (fun a M'=>QA a ⟨s2.env,M'⟩) (f (.cid k::ds) s2.M)) X (ma s1)) X (mo s)):Wo QA X (j9k c nm f mo ma s):=q0g (q0e h fun a s1 ⟨k,fs,e,h1,h⟩=>by
 show Wo QA X (match q3z s1 a with|some (k,c',fs)=>_|none=>_)
 rw[e];simp only[];rw[if_pos ⟨trivial,h1⟩]
 exact q0g (q0e h fun ds s2 h=>by
  show Wo QA X (match f (.cid k::ds) s2.M with|.ok a M'=>_|_=>_)
  cases q:f (.cid k::ds) s2.M<;>rw[q] at h<;>exact h))
theorem j0q {c:Nat} {nm:Str} {f:Mf} (h:Wo (fun a s1=>∃k fs,q3z s1 a=some (k,c,fs)∧fs.lookup nm=none∧Wo (fun ds s2=>Fx (fun a M'=>QA a ⟨s2.env,M'⟩) (fun x M'=>X x ⟨s2.env,M'⟩) (f (.cid k::ds) s2.M)) X (ma s1)) X (mo s)):Wo QA X (j9v c nm f mo ma s):=q0g (q0e h fun a s1 ⟨k,fs,e,h1,h⟩=>by
 show Wo QA X (match q3z s1 a with|some (k,c',fs)=>_|none=>_)
 rw[e];simp only[];rw[if_pos ⟨trivial,h1⟩]
 exact q0g (q0e h fun ds s2 h=>by
  show Wo QA X (match f (.cid k::ds) s2.M with|.ok a M'=>_|.er x M'=>_|.no=>_)
  cases q:f (.cid k::ds) s2.M<;>rw[q] at h<;>exact h))
theorem j3m {c:Nat} {f:Mf} {dds:List D} (h:Wo (fun ds s1=>Fo (fun a M'=>a = .val .non∧QA (.val (.cid s1.M.length)) ⟨s1.env,M'⟩) (f (.cid s1.M.length::(ds++dds)) (s1.M++[.obj c []]))) X (ma s)):Wo QA X (j8v c f dds ma s):=q0g (q0e h fun ds s1 h=>by
 show Wo QA X (match f (.cid s1.M.length::(ds++dds)) (s1.M++[.obj c []]) with|.ok (.val .non) M'=>_|_=>_)
 cases q:f (.cid s1.M.length::(ds++dds)) (s1.M++[.obj c []]) with
 | no=>rw[q] at h;exact h
 | er x M'=>rw[q] at h;exact h
 | ok a M'=>rw[q] at h;obtain⟨rfl,h⟩:=h;exact h)
theorem j3r {c:Nat} {f:Mf} {dds:List D} (h:Wo (fun ds s1=>Fx (fun a M'=>a = .val .non∧QA (.val (.cid s1.M.length)) ⟨s1.env,M'⟩) (fun x M'=>X x ⟨s1.env,M'⟩) (f (.cid s1.M.length::(ds++dds)) (s1.M++[.obj c []]))) X (ma s)):Wo QA X (w0a c f dds ma s):=q0g (q0e h fun ds s1 h=>by
 show Wo QA X (match f (.cid s1.M.length::(ds++dds)) (s1.M++[.obj c []]) with|.ok (.val .non) M'=>_|.er x M'=>_|_=>_)
 cases q:f (.cid s1.M.length::(ds++dds)) (s1.M++[.obj c []]) with
 | no=>rw[q] at h;exact h
 | er x M'=>rw[q] at h;exact h
 | ok a M'=>rw[q] at h;obtain⟨rfl,h⟩:=h;exact h)
theorem q9o {k c:Nat} {fs:List (Str×D)} (h:s.M[k]? = some (.obj c fs)):q3z s (.val (.cid k))=some (k,c,fs):=by unfold q3z;simp only[];rw[h]
end
end Y
namespace Y
open PySem L2 Z
open PyProof.Rows
section
variable {X:Cx}
def j8i:R2:=fun x y H Q=>∃a b kvs,x = .ref a∧y = .ref b∧Rd H a (.dK kvs)∧Rd H b (.dK [])∧Q (.bl (!(kvs.length==0))) H
theorem j2g (hu:X.A.units<cLine):OpR X (compareOp .NotEq) j8i:=by
 intro pins s σ H x y v u Q I rx ry h
 obtain⟨a,b,kvs,rfl,rfl,ea,eb,q⟩:=h
 obtain rfl:v=Value.ref a:=rx
 obtain rfl:u=Value.ref b:=ry
 obtain⟨_,ya,va,ra,da⟩:=dk_rd I.hok ea
 obtain⟨_,yb,vb,rb,db⟩:=dk_rd I.hok eb
 have hb:vb.length=0:=rb.length.symm
 refine PySem.W.keq_ne (knd:=mixKind X.prog X.w) (r:=true) ya yb da db hu (fun hl=>?_) (fin_bl I q (by rw[hb,ra.length];simp))
 have:va=[]:=List.length_eq_zero_iff.mp (by omega)
 subst this
 exact .nil
variable {o:Expr} {p pos apos mpos:Pos} {td:TE}
end
end Y
namespace Y
open PySem L2 Z
section
variable {K:PySem.W.Frag} {ct:Ct} {H0:Hp} {W:WX}
def j2i:Stt→AI→AI→Ro AI:=fun s a b=>match q3b s a with
 | some l=>match q3b s b with
  | some []=>.ok (.val (.bl (!(l.length==0)))) s
  | _=>.no
 | none=>.no
theorem j6a:J2 K ct H0 j8i j2i:=fun W S s σ H Hs Hs' x y a b Q rel ia ib p=>by
 unfold j2i at p
 split at p
 ·rename_i l e
  split at p
  ·rename_i e2
   obtain⟨q,kvs,rfl,h1,h2⟩:=q4q rel ia e
   obtain⟨q',kvs',rfl,g1,g2⟩:=q4q rel ib e2
   have:kvs'=[]:=List.length_eq_zero_iff.mp g2.len
   subst this
   exact⟨q,q',kvs,rfl,rfl,h1,g1,by rw[h2.len];exact p.val rel (.bl _)⟩
  ·exact False.elim p
 ·exact False.elim p
def leI (i j:Int):Bool:=decide (i≤j)
def z4z (mo:Mo AI):Mo AI:=fun s=>(mo s).bind fun a s1=>match(q3b s1 a).bind fun l=>q6k (l.map Prod.snd) with
 | some is=>.ok (.new (.lst ((is.mergeSort leI).map D.int))) s1
 | none=>.no
def q9i (mo:Mo AI):Mo AI:=fun s=>(mo s).bind fun a s1=>match a with
 | .val (.cid k)=>match s1.M[k]? with
  | some (.dK l)=>match q6k (l.map Prod.snd) with
   | some (i::is)=>.ok (.val (.int (is.foldl min i))) s1
   | _=>.no
  | _=>.no
 | _=>.no
theorem z0i:∀(is:List Int) (i m:Int),(m∈i::is∧∀j∈i::is,m≤j)→m=is.foldl min i
 | [],i,m,⟨h1,h2⟩=>by simpa using h1
 | j::is,i,m,⟨h1,h2⟩=>by
  refine z0i is (min i j) m ⟨?_,fun k hk=>?_⟩
  ·have a:=h2 i (by simp)
   have b:=h2 j (by simp)
   rcases List.mem_cons.mp h1 with rfl|h1
   ·exact List.mem_cons.mpr (.inl (by omega))
   ·rcases List.mem_cons.mp h1 with rfl|h1
    ·exact List.mem_cons.mpr (.inl (by omega))
    ·exact List.mem_cons.mpr (.inr h1)
  ·rcases List.mem_cons.mp hk with rfl|hk
   ·have a:=h2 i (by simp)
    have b:=h2 j (by simp)
    omega
   ·exact h2 k (by simp[hk])
theorem z3s {td:TE} {mo:Mo AI} (ho:Ei K ct H0 W td mo):Ei K ct H0 W (tMinVals td) (q9i mo):=fun S s σ H Q rel p =>
 ho S s σ H _ rel (Pst.bind bI p fun S1 s1 H1 x a st1 rel1 i1 p1=>by
  split at p1
  ·rename_i k
   split at p1
   ·rename_i l e
    split at p1
    ·rename_i i is e2
     have i1':Rp K S1.G S1.α s1.M.length x (.cid k):=i1
     cases i1'
     obtain⟨vs,h1,h3,h2⟩:=(rel1.ids k _ e).2
     refine⟨_,vs,i::is,rfl,h1,z1e h2 e2,(by simp),fun m hm hj=>?_⟩
     rw[z0i is i m ⟨hm,hj⟩]
     exact p1.val rel1 (.int _)
    ·exact False.elim p1
   ·exact False.elim p1
  ·exact False.elim p1)
def j4w (n:Nat) (g:Tgs) (f:Mf) (m:Mo (List AI)):Ms:=fun s=>(m s).toS fun as s1=>match snap s1 as with
 | some ds=>if D.noIdL ds=true then(match f ds [] with
  | .ok (.val d) _=>(match q9j d with
   | some l=>if l.length=n∧l.all D.scal=true then(match g l s1 with|some s2=>.nx s2|none=>.no) else .no
   | none=>.no)
  | _=>.no) else .no
 | none=>.no
variable {s:Stt} {QA:AI→Stt→Prop} {X:Exn→Stt→Prop} {N:Stt→Prop} {O:Rs→Prop}
theorem z3m {m:Mo AI} (h:Wo (fun a s1=>∃l is,q3b s1 a=some l∧q6k (l.map Prod.snd)=some is∧QA (.new (.lst ((is.mergeSort leI).map D.int))) s1) X (m s)):Wo QA X (z4z m s):=q0g (q0e h fun a s1 ⟨l,is,e1,e2,h⟩=>by
 show Wo QA X (match(q3b s1 a).bind fun l=>q6k (l.map Prod.snd) with|some is=>_|none=>_)
 rw[e1,Option.bind_some,e2];exact h)
theorem z4o {m:Mo AI} (h:Wo (fun a s1=>∃k l i is,a = .val (.cid k)∧s1.M[k]? = some (.dK l)∧q6k (l.map Prod.snd)=some (i::is)∧QA (.val (.int (is.foldl min i))) s1) X (m s)):Wo QA X (q9i m s):=q0g (q0e h fun a s1 ⟨k,l,i,is,e1,e2,e3,h⟩=>by
 subst e1
 show Wo QA X (match s1.M[k]? with|some (.dK l)=>_|_=>_)
 rw[e2];simp only[];rw[e3];exact h)
theorem j1m {n:Nat} {g:Tgs} {f:Mf} {m:Mo (List AI)} (h:Wo (fun as s1=>∃ds d M' l s2,snap s1 as=some ds∧D.noIdL ds=true∧f ds [] = .ok (.val d) M'∧q9j d=some l∧l.length=n∧l.all D.scal=true∧g l s1=some s2∧N s2) (fun x s=>O (.er x s)) (m s)):Ws N O (j4w n g f m s):=q3o (q0e h fun as s1 ⟨ds,d,M',l,s2,e1,e2,e3,e4,e5,e6,e7,h⟩=>by
 show Ws N O (match snap s1 as with|some ds=>_|none=>_)
 rw[e1];simp only[];rw[if_pos e2,e3];simp only[];rw[e4];simp only[];rw[if_pos ⟨e5,e6⟩,e7];exact h)
theorem j7l {m1 m2 m3:Mo AI} (h:Wo (fun a s1=>(∃l,q3b s1 a=some l)∧Wo (fun i s2=>Wo (fun x s3=>∃l k,q3b s3 a=some l∧q6r i=some k∧QA (.val ((vl l k).getD x)) s3) X (mV m3 s2)) X (mV m2 s1)) X (m1 s)):Wo QA X (z7p m1 m2 m3 s):=q0g (q0e h fun a s1 ⟨⟨l,e⟩,h⟩=>by
 show Wo QA X (match q3b s1 a with|some _=>_|none=>_)
 rw[e]
 exact q0g (q0e h fun i s2 h=>q0g (q0e h fun x s3 ⟨l',k,e1,e2,h⟩=>by
  unfold fGet;rw[e1];simp only[];rw[e2];exact h)))
end
theorem z_b0 {b:Bool} {A C:Prop} (h:b=false) (k:C):if b=true then A else C:=by rw[h];exact k
theorem z_b1 {b:Bool} {A C:Prop} (h:b=true) (k:A):if b=true then A else C:=by rw[h];exact k
end Y
namespace Y
open PySem L2 Z
section
variable {X:Cx}
def tFrz (t:TE):TE:=fun σ H Q=>t σ H fun v H1=>∃d u,v = .ref d∧H1 d=some u∧Mut (some u)∧∀od,Q v (upd H1 d (.frz od u))
theorem j8u {e:Expr} {t:TE} (h:PE X e t):PE X e (tFrz t):=⟨fun pins s σ H Q I q =>
 thn (h.run pins s σ H _ I q) fun v s1 ⟨x,H1,I1,r,d,u,ex,hd,mu,q⟩=>by
  obtain⟨od,I2⟩:=I1.lock hd mu
  exact⟨x,_,I2,r,q od⟩⟩
end
section
variable {K:PySem.W.Frag} {ct:Ct} {H0:Hp} {W:WX}
def mWN (m:Mo AI):Mo Im:=fun s=>match m s with
 | .ok (.new (.dK l)) s1=>.ok ⟨dIt .keys l,none⟩ s1
 | .er x s1=>.er x s1
 | _=>.no
theorem j1a {te:TE} {m:Mo AI} (h:Ei K ct H0 W te m):Jw K ct H0 W (iKeys (tFrz te)) (mWN m):=fun S s σ H Q rel p=>by
 unfold mWN at p
 refine h S s σ H _ rel ?_
 generalize m s=R at p
 split at p
 ·rename_i l s1
  intro S1 v H1 st1 rel1 it
  obtain⟨d,rfl,h1,h2,h3,h4,kvs,h5,h6,h7⟩:=it
  refine⟨d,_,rfl,h5,trivial,fun od=>⟨d,od,rfl,.inl ⟨kvs,upd_same,?_⟩⟩⟩
  have st2:Stp S s.M.length H S1 s1.M.length (upd H1 d (.frz od (.dK kvs))):=⟨st1.g,st1.le,st1.al,fun a o e l=>by
   obtain⟨k1,k2⟩:=st1.fr a o e l
   exact⟨by rw[upd_ne (ne_of_none e h1)];exact k1,k2⟩,st1.gn,fun a e=>st1.dom a (q1a.mp e).2,fun a od' w e=>by rw[upd_ne (ne_of_none e h1)];exact st1.fz a od' w e⟩
  exact p S1 _ _ st2 (rel1.updU h2 h3) (wk_d (kd:=.keys) upd_same h2 (RpK.of h6 h7))
 ·exact p
 ·exact False.elim p
variable {s:Stt} {QI:Im→Stt→Prop} {X:Exn→Stt→Prop}
theorem w_wn {m:Mo AI} (h:Wo (fun a s1=>∃l,a = .new (.dK l)∧QI ⟨dIt .keys l,none⟩ s1) X (m s)):Wo QI X (mWN m s):=by
 unfold mWN
 cases q:m s with
 | no=>rw[q] at h;exact h
 | er x s1=>rw[q] at h;exact h
 | ok a s1=>rw[q] at h;obtain⟨l,rfl,h⟩:=h;exact h
end
end Y
namespace Y
open PySem L2 Z
open PySem.W
section
variable {s:Stt} {QA:AI→Stt→Prop} {X:Exn→Stt→Prop} {N:Stt→Prop} {O:Rs→Prop}
theorem z9n {n:Nat} {i:Int} (h0:0≤i) (h1:i<n):ixN n i=some i.toNat:=by unfold ixN;rw[if_pos h0,if_pos h1]
theorem z0g {a:AI} {i:Int} {d:D} {l:List D} {j:Nat} (e:getC s a=some (.lst l)) (e2:ixN l.length i=some j) (h:N (setC s a (.lst (l.set j d)))):So N (q5w a (.int i) d s):=by
 unfold q5w;rw[e];simp only[];rw[e2];exact h
def lePp (x y:Int×Int):Bool:=!ltP y x
theorem j4m (x y:Int×Int):dataLe false pyD (tP x) (tP y)=lePp x y:=congrArg (!·) (dlt y x)
theorem z3w (ps:List (Int×Int)):(ps.map tP).mergeSort (dataLe false pyD)=(ps.mergeSort lePp).map tP:=(List.map_mergeSort fun i _ j _=>(j4m i j).symm).symm
theorem z0q (ps:List (Int×Int)):z4y (ps.map tP):=by
 refine⟨fun d hd=>?_,fun d hd d' hd'=>?_,.inl fun d hd=>?_,fun d hd=>?_⟩
 ·obtain⟨i,_,rfl⟩:=List.mem_map.mp hd;rfl
 ·rw[List.map_map] at hd hd'
  obtain⟨i,_,rfl⟩:=List.mem_map.mp hd
  obtain⟨j,_,rfl⟩:=List.mem_map.mp hd';rfl
 ·rw[List.map_map] at hd
  obtain⟨i,_,rfl⟩:=List.mem_map.mp hd
  exact⟨_,_,rfl⟩
 ·obtain⟨i,_,rfl⟩:=List.mem_map.mp hd;show 1≤40;decide
theorem z1b (ps:List (Int×Int)):(ps.mergeSort lePp).Perm ps:=List.mergeSort_perm ..
theorem j1i (ps:List (Int×Int)):(ps.mergeSort lePp).Pairwise (fun x y=>x.1<y.1∨(x.1=y.1∧x.2≤y.2)):=(List.pairwise_mergeSort (fun a b c h1 h2=>by unfold lePp ltP at *;simp at *;omega) (fun a b=>by unfold lePp ltP;simp;omega) ps).imp fun h=>by unfold lePp ltP at h;simp at h;omega
end
end Y
namespace Y
open PySem L2 Z
open PySem.W
section
variable {s:Stt} {QA:AI→Stt→Prop} {QI:Im→Stt→Prop} {X:Exn→Stt→Prop} {N:Stt→Prop} {O:Rs→Prop}
theorem w_wz {r:Mo (List D)} (h:Wo (fun ds s1=>∃l l',ds=[.lst l,.lst l']∧QI ⟨zipL l l',none⟩ s1) X (r s)):Wo QI X (mWZ r s) :=
 q0g (q0e h fun ds s1 h=>by
  obtain⟨l,l',rfl,h⟩:=h
  exact h)
theorem w1y {l l':List D} {P:List D→List D→Prop} (h:P l l'):∃m m',[D.lst l,D.lst l']=[.lst m,.lst m']∧P m m':=⟨l,l',rfl,h⟩
theorem j8m {x:Int} {m:Nat} (h:x.natAbs<2^m):Builtin.Int.intBits x≤m:=by
 unfold Builtin.Int.intBits
 by_cases h0:x=0
 ·subst h0;simp
 ·rw[if_neg (by simpa using h0)]
  have:=(Nat.log2_lt (by omega)).mpr h
  omega
theorem j0f {j:Int} (h0:0≤j) (h1:j≤100000):CShl 1 j:=by
 have:=j8m (x:=1) (m:=1) (by decide)
 exact⟨by omega,by omega⟩
theorem j7j {x j:Int} {m:Nat} (hx:x.natAbs<2^m) (hm:m≤1000000) (h0:0≤j) (h1:j≤1000000):CShl x j:=by
 have:=j8m hx
 exact⟨by omega,by omega⟩
end
end Y
namespace Y
open PySem L2 Z
open PySem.W
end Y
namespace Y
open PySem L2 Z
section
variable {K:PySem.W.Frag}
def KT (K:PySem.W.Frag) (a:Addr) (xs:List V):Prop:=∃(o:Obj) (its:Array Value) (n:Nat),K.lookup a=some o∧o.cls = .type "tuple" ∧ o.data = .seq its n∧its.size≤sizeLine∧Vals xs its.toList
end
section
variable {K:PySem.W.Frag} {ct:Ct} {H0:Hp} {W:WX} {S:Sh} {s:Stt} {σ:St} {H:Hp}
/-- o[i] op= e, a list of ints -/
def w0p (f:Int→Int→Int) (mo mi mv:Mo AI):Ms:=fun s=>(mo s).toS fun a s1=>(mV mi s1).toS fun i s2=>match i with
 | .int k=>(match(q1v s2 a).bind fun l=>l[k.toNat]? with
  | some (.int x)=>if 0≤k then((mv s2).toS fun b s3=>match b with
   | .val (.int y)=>match q5w a (.int k) (.int (f x y)) s3 with
    | some s4=>.nx s4
    | none=>.no
   | _=>.no) else .no
  | _=>.no)
 | _=>.no
end
section
variable {s:Stt} {QA:AI→Stt→Prop} {X:Exn→Stt→Prop} {N:Stt→Prop} {O:Rs→Prop}
theorem j9r {f:Int→Int→Int} {mo mi mv:Mo AI} (h:Wo (fun a s1=>Wo (fun i s2=>∃(k x:Int) (l:List D),i = .int k∧q1v s2 a=some l∧l[k.toNat]? = some (.int x)∧0≤k∧Wo (fun b s3=>∃y,b = .val (.int y)∧So N (q5w a (.int k) (.int (f x y)) s3)) (fun x s=>O (.er x s)) (mv s2)) (fun x s=>O (.er x s)) (mV mi s1)) (fun x s=>O (.er x s)) (mo s)):Ws N O (w0p f mo mi mv s) :=
 q3o (q0e h fun a s1 h=>q3o (q0e h fun i s2 h=>by
  obtain⟨k,x,l,rfl,h1,h2,h3,h⟩:=h
  show Ws N O (match(q1v s2 a).bind fun l=>l[k.toNat]? with
  | some (.int x)=>if 0≤k then((mv s2).toS fun b s3=>match b with
   | .val (.int y)=>match q5w a (.int k) (.int (f x y)) s3 with
    | some s4=>.nx s4
    | none=>.no
   | _=>.no) else .no
  | _=>.no)
  rw[h1,Option.bind_some,h2]
  show Ws N O (if 0≤k then _ else _)
  rw[if_pos h3]
  refine q3o (q0e h fun b s3 h=>?_)
  obtain⟨y,rfl,h⟩:=h
  show Ws N O (match q5w a (.int k) (.int (f x y)) s3 with|some s4=>.nx s4|none=>.no)
  cases q:q5w a (.int k) (.int (f x y)) s3<;>rw[q] at h<;>exact h))
end
end Y
namespace Y
open PySem L2 Z
section
variable {K:PySem.W.Frag} {ct:Ct} {H0:Hp} {W:WX} {S:Sh} {s:Stt} {σ:St} {H:Hp}
theorem z7d {Hs:Hp} {v:V} {a:AI} {l:List (List Key×D)} (r:Rel K ct H0 S s σ H) (i:ItOk K ct Hs S s σ H v a) (e:q3x s a=some l):∃p kvs,v = .ref p∧Rd H p (.dT kvs)∧RpK K S.G S.α s.M.length kvs l:=by
 have frz:∀{u:V} {d:D},Rp K S.G S.α s.M.length u d→z1r s.M d=some l→∃p kvs,u = .ref p∧Rd H p (.dT kvs)∧RpK K S.G S.α s.M.length kvs l:=fun {u d} h e=>by
  cases d with
  | dT l'=>cases e;cases h with|dT h1 h3 h2=>exact⟨_,_,rfl,uT' (r.sub _ _ h1),.of h3 h2⟩
  | cid k =>
   cases h
   obtain⟨c,q,e1⟩:=Option.bind_eq_some_iff.mp (show s.M[k]?.bind Cn.aT=some l from e)
   cases c with
   | dT l' =>
    cases e1
    obtain⟨vs,h1,h3,h2⟩:=(r.ids k _ q).2
    exact⟨_,vs,rfl,.inl h1,.of h3 h2⟩
   | lkT l' =>
    cases e1
    obtain⟨vs,⟨od,h1⟩,h3,h2⟩:=(r.ids k _ q).2
    exact⟨_,vs,rfl,.inr ⟨od,h1⟩,.of h3 h2⟩
   | _=>cases e1
  | _=>cases e
 have own:∀{p:Addr} {c:Cn},CnOk K ct S s.M.length H p c→z1r s.M c.toD=some l→∃q kvs,V.ref p = .ref q∧Rd H q (.dT kvs)∧RpK K S.G S.α s.M.length kvs l:=fun {p c} h e=>by
  cases c with
  | dT l'=>cases e;obtain⟨vs,h1,h3,h2⟩:=h;exact⟨p,vs,rfl,.inl h1,.of h3 h2⟩
  | lst l'=>cases e
  | dK l'=>cases e
  | obj _ _=>cases e
  | lkK l=>cases e
  | lkT l=>cases e
  | tb _ _=>cases e
 unfold q3x at e
 cases a with
 | val d=>exact frz i e
 | new c =>
  obtain⟨p,rfl,_,_,_,hc,h5⟩:=i
  exact own h5 e
 | slot j =>
  obtain⟨d,q0,e⟩:=Option.bind_eq_some_iff.mp e
  obtain⟨en,q1,rfl⟩:=Option.map_eq_some_iff.mp q0
  have q:=q1t q1
  have hi:σ[j]? = some (some v):=i
  have hh:=r.slot j en q
  cases en with
  | fz d =>
   obtain⟨v',h1,h2⟩:=hh
   rw[hi] at h1;cases h1
   exact frz h2 e
  | xn x=>exact(q5j q1).elim
  | ow c =>
   obtain⟨p,h1,_,_,hc,h5⟩:=hh
   rw[hi] at h1;cases h1
   exact own h5 e
def z9c:List D→Option (List Key)
 | []=>some []
 | d::l=>(q6r d).bind fun k=>(z9c l).map (k::·)
def tkey:D→Option (List Key)
 | .tup l=>z9c l
 | _=>none
theorem z2o {G:Hp} {α:Nat→Addr} {n:Nat}:∀{l:List D} {vs:List V} {ks:List Key},RpL K G α n vs l→z9c l=some ks→vs=ks.map kV
 | [],_,_,.nil,e=>by cases e;rfl
 | d::l,_,_,.cons h r,e=>by
  obtain⟨k,e1,e2⟩:=Option.bind_eq_some_iff.mp (show(q6r d).bind (fun k=>(z9c l).map (k::·))=_ from e)
  obtain⟨ks,e3,rfl⟩:=Option.map_eq_some_iff.mp e2
  rw[q7k h e1,z2o r e3];rfl
theorem z1p {n:Nat} {v:V} {d:D} {ks:List Key} (rel:Rel K ct H0 S s σ H) (h:Rp K S.G S.α n v d) (e:tkey d=some ks):∃b,v = .ref b∧H b=some (.tup (ks.map kV)):=by
 cases h with
 | tup h1 h2 =>
  refine⟨_,rfl,?_⟩
  rw[←z2o h2 e]
  exact uP' (rel.sub _ _ h1)
 | _=>cases e
/-- o[i] = d -/
def z2p (a:AI) (i d:D) (s:Stt):Option Stt:=match getC s a with
 | some (.dT l)=>(tkey i).bind fun k=>if l.length<sizeLine then some (setC s a (.dT (pu l k d))) else none
 | _=>none
def j4v (mo mi:Mo AI) (mv:Mo AI):Ms:=fun s=>(mV mv s).toS fun d s1=>(mo s1).toS fun a s2=>(mV mi s2).toS fun i s3=>match z2p a i d s3 with
 | some s4=>.nx s4
 | none=>.no
def j6l:Mo AI:=fun s=>.ok (.new (.dT [])) s
/-- d.get(k), d.get(k, x) -/
def z5m (s:Stt) (a:AI) (i x:D):Ro AI:=match q3x s a with
 | some l=>match tkey i with
  | some k=>.ok (.val ((vl l k).getD x)) s
  | none=>.no
 | none=>.no
def j6k (mo mi mx:Mo AI):Mo AI:=fun s=>(mo s).bind fun a s1=>match q3x s1 a with
 | some _=>(mV mi s1).bind fun i s2=>(mV mx s2).bind fun x s3=>z5m s3 a i x
 | none=>.no
def j6z (mo mi:Mo AI):Mo AI:=fun s=>(mo s).bind fun a s1=>match q3x s1 a with
 | some _=>(mV mi s1).bind fun i s2=>z5m s2 a i .non
 | none=>.no
/-- d.get(k) of a dict with plain keys -/
def w0r (mo mi:Mo AI):Mo AI:=fun s=>(mo s).bind fun a s1=>match q3b s1 a with
 | some _=>(mV mi s1).bind fun i s2=>fGet s2 a i .non
 | none=>.no
end
section
variable {s:Stt} {X:Exn→Stt→Prop} {QA:AI→Stt→Prop} {N:Stt→Prop} {O:Rs→Prop} {m1 m2 m3:Mo AI}
theorem j4k (h:QA (.new (.dT [])) s):Wo QA X (j6l s):=h
theorem j2q (h:Wo (fun d s1=>Wo (fun a s2=>Wo (fun i s3=>So N (z2p a i d s3)) (fun x s=>O (.er x s)) (mV m2 s2)) (fun x s=>O (.er x s)) (m1 s1)) (fun x s=>O (.er x s)) (mV m3 s)):Ws N O (j4v m1 m2 m3 s) :=
 q3o (q0e h fun d s1 h=>q3o (q0e h fun a s2 h=>q3o (q0e h fun i s3 h=>by
  show Ws N O (match z2p a i d s3 with|some s4=>_|none=>_)
  cases e:z2p a i d s3 with
  | none=>rw[e] at h;exact h.elim
  | some s4=>rw[e] at h;exact h)))
theorem j2d (h:Wo (fun a s1=>(∃l,q3x s1 a=some l)∧Wo (fun i s2=>Wo (fun x s3=>∃l k,q3x s3 a=some l∧tkey i=some k∧QA (.val ((vl l k).getD x)) s3) X (mV m3 s2)) X (mV m2 s1)) X (m1 s)):Wo QA X (j6k m1 m2 m3 s):=q0g (q0e h fun a s1 ⟨⟨l,e⟩,h⟩=>by
 show Wo QA X (match q3x s1 a with|some _=>_|none=>_)
 rw[e]
 exact q0g (q0e h fun i s2 h=>q0g (q0e h fun x s3 ⟨l',k,e1,e2,h⟩=>by
  unfold z5m;rw[e1];simp only[];rw[e2];exact h)))
theorem j2c (h:Wo (fun a s1=>(∃l,q3x s1 a=some l)∧Wo (fun i s2=>∃l k,q3x s2 a=some l∧tkey i=some k∧QA (.val ((vl l k).getD .non)) s2) X (mV m2 s1)) X (m1 s)):Wo QA X (j6z m1 m2 s):=q0g (q0e h fun a s1 ⟨⟨l,e⟩,h⟩=>by
 show Wo QA X (match q3x s1 a with|some _=>_|none=>_)
 rw[e]
 exact q0g (q0e h fun i s2 ⟨l',k,e1,e2,h⟩=>by
  show Wo QA X (z5m s2 a i .non)
  unfold z5m;rw[e1];simp only[];rw[e2];exact h))
theorem j5k (h:Wo (fun a s1=>(∃l,q3b s1 a=some l)∧Wo (fun i s2=>∃l k,q3b s2 a=some l∧q6r i=some k∧QA (.val ((vl l k).getD .non)) s2) X (mV m2 s1)) X (m1 s)):Wo QA X (w0r m1 m2 s):=q0g (q0e h fun a s1 ⟨⟨l,e⟩,h⟩=>by
 show Wo QA X (match q3b s1 a with|some _=>_|none=>_)
 rw[e]
 exact q0g (q0e h fun i s2 ⟨l',k,e1,e2,h⟩=>by
  show Wo QA X (fGet s2 a i .non)
  unfold fGet;rw[e1];simp only[];rw[e2];exact h))
end
end Y
namespace Y
open PySem L2 Z
def mapO {α β:Type} (g:α→Option β):List α→Option (List β)
 | []=>some []
 | d::l=>(g d).bind fun d'=>(mapO g l).map (d'::·)
/-- what stands behind ids, as data -/
def rsv:Nat→List Cn→D→Option D
 | 0,_,_=>none
 | f+1,M,.cid k=>match M[k]? with
  | some (.lst l)=>(mapO (rsv f M) l).map .lst
  | some (.dK l)=>(mapO (rsv f M) (l.map Prod.snd)).map fun vs=>.dK ((l.map Prod.fst).zip vs)
  | some (.dT l)=>(mapO (rsv f M) (l.map Prod.snd)).map fun vs=>.dT ((l.map Prod.fst).zip vs)
  | _=>none
 | f+1,M,.tup l=>(mapO (rsv f M) l).map .tup
 | f+1,M,.ctp l=>(mapO (rsv f M) l).map .ctp
 | f+1,M,.lst l=>(mapO (rsv f M) l).map .lst
 | f+1,M,.clst l=>(mapO (rsv f M) l).map .clst
 | f+1,M,.dK l=>(mapO (rsv f M) (l.map Prod.snd)).map fun vs=>.dK ((l.map Prod.fst).zip vs)
 | f+1,M,.dT l=>(mapO (rsv f M) (l.map Prod.snd)).map fun vs=>.dT ((l.map Prod.fst).zip vs)
 | _+1,_,.non=>some .non
 | _+1,_,.bl b=>some (.bl b)
 | _+1,_,.int i=>some (.int i)
 | _+1,_,.str x=>some (.str x)
 | _+1,_,.ty n=>some (.ty n)
section
variable {K:PySem.W.Frag} {ct:Ct} {H0:Hp} {W:WX} {S:Sh} {s:Stt} {σ:St} {H:Hp}
def z7s (r:Fr) (s:Stt):Ro AI:=match r with
 | .ok (.val d) M'=>match rsv 9 M' d with
  | some d'=>.ok (.val d') s
  | none=>.no
 | .ok (.new (.lst l)) M'=>match mapO (rsv 9 M') l with
  | some l'=>.ok (.new (.lst l')) s
  | none=>.no
 | .er x M'=>match mapO (rsv 9 M') (x.fs.map Prod.snd) with
  | some vs=>.er ⟨x.cls,(x.fs.map Prod.fst).zip vs⟩ s
  | none=>.no
 | _=>.no
def j8r (f:Mf) (m:Mo (List D)):Mo AI:=fun s=>(m s).bind fun ds s1=>if D.noIdL ds=true then(match f ds [] with
 | .er _ _=>.no
 | r=>z7s r s1) else .no
def j2x (f:Mf) (m:Mo (List D)):Mo AI:=fun s=>(m s).bind fun ds s1=>if D.noIdL ds=true then z7s (f ds []) s1 else .no
end
/-- what a pure call tells -/
def Pf (P:AI→Prop) (E:Exn→Prop):Fr→Prop
 | .ok (.val d) M'=>∃d',rsv 9 M' d=some d'∧P (.val d')
 | .ok (.new (.lst l)) M'=>∃l',mapO (rsv 9 M') l=some l'∧P (.new (.lst l'))
 | .er x M'=>∃vs,mapO (rsv 9 M') (x.fs.map Prod.snd)=some vs∧E ⟨x.cls,(x.fs.map Prod.fst).zip vs⟩
 | _=>False
section
variable {s:Stt} {X:Exn→Stt→Prop} {QA:AI→Stt→Prop} {f:Mf} {ma:Mo (List D)}
theorem z5w {r:Fr} (h:Pf (fun a=>QA a s) (fun x=>X x s) r):Wo QA X (z7s r s):=by
 unfold z7s
 cases r with
 | no=>exact h.elim
 | er x M'=>obtain⟨vs,e,h⟩:=h;simp only[];rw[e];exact h
 | ok a M' =>
  cases a with
  | val d=>obtain⟨vs,e,h⟩:=h;simp only[];rw[e];exact h
  | slot j=>exact h.elim
  | new c =>
   cases c with
   | lst l=>obtain⟨vs,e,h⟩:=h;simp only[];rw[e];exact h
   | _=>exact h.elim
theorem j1y (h:Wo (fun ds s1=>D.noIdL ds=true∧Pf (fun a=>QA a s1) (fun _=>False) (f ds [])) X (ma s)):Wo QA X (j8r f ma s):=q0g (q0e h fun ds s1 ⟨e,h⟩=>by
 show Wo QA X (if D.noIdL ds=true then _ else _)
 rw[if_pos e]
 generalize f ds []=r at h ⊢
 cases r with
 | no=>exact h.elim
 | er x M'=>obtain⟨_,_,h⟩:=h;exact h.elim
 | ok a M'=>exact z5w (show Pf (fun a=>QA a s1) (fun x=>X x s1) (.ok a M') from by
   cases a with
   | val d=>exact h
   | slot j=>exact h.elim
   | new c =>
    cases c with
    | lst l=>exact h
    | _=>exact h.elim))
theorem z7n (h:Wo (fun ds s1=>D.noIdL ds=true∧Pf (fun a=>QA a s1) (fun x=>X x s1) (f ds [])) X (ma s)):Wo QA X (j2x f ma s):=q0g (q0e h fun ds s1 ⟨e,h⟩=>by
 show Wo QA X (if D.noIdL ds=true then _ else _)
 rw[if_pos e]
 exact z5w h)
end
end Y
namespace Y
open PySem L2 Z
theorem z6l {s:Stt} {k:Nat} {l:List D} (h:s.M[k]? = some (.lst l)):q1v s (.val (.cid k))=some l:=by
 show s.M[k]?.bind Cn.aL=some l;rw[h];rfl
theorem z8i {M:List Cn} {k:Nat} {l:List D} (h:M[k]? = some (.lst l)):lenD M (.cid k)=some l.length:=by
 show M[k]?.bind _=_;rw[h];rfl
theorem j6e {QA:AI→Stt→Prop} {X:Exn→Stt→Prop} {env:List (Option Ent)} {M:List Cn} {k:Nat} {l:List D} (h:M[k]? = some (.lst l)) (q:QA (.val (.int (l.length:Int))) ⟨env,M⟩):Wo QA X (fLen ⟨env,M⟩ [.val (.cid k)]):=j5l (d:=.cid k) rfl (z8i h) q
section
variable {K:PySem.W.Frag} {ct:Ct} {H0:Hp} {W:WX}
def fSlT (s:Stt) (a:AI) (lo hi:Option Int):Ro AI:=match z0v s a with
 | some l=>if HT.sIx l.length 0 lo=0∧HT.sIx l.length l.length hi=l.length then .no else .ok (.val (.tup (cutL l lo hi))) s
 | none=>.no
def mSlT (m:Mo AI) (ml mh:Mo (Option Int)):Mo AI:=fun s=>(m s).bind fun a s1=>(ml s1).bind fun l s2=>(mh s2).bind fun h s3=>fSlT s3 a l h
variable {s:Stt} {X:Exn→Stt→Prop} {QA:AI→Stt→Prop} {m:Mo AI}
theorem j5p {ml mh:Mo (Option Int)} (h:Wo (fun a s1=>Wo (fun l s2=>Wo (fun u s3=>Wo QA X (fSlT s3 a l u)) X (mh s2)) X (ml s1)) X (m s)):Wo QA X (mSlT m ml mh s):=q0g (q0e h fun _ _ h=>q0g (q0e h fun _ _ h=>q0g h))
theorem j7k {a:AI} {l:List D} {lo hi:Option Int} (e:z0v s a=some l) (c:¬(HT.sIx l.length 0 lo=0∧HT.sIx l.length l.length hi=l.length)) (h:QA (.val (.tup (cutL l lo hi))) s):Wo QA X (fSlT s a lo hi):=by
 unfold fSlT;rw[e];simp only[];rw[if_neg c];exact h
end
end Y
namespace Y
open PySem L2 Z
def Lay (k:Nat) (x:PyData):Prop:=x.canLay0=true∧x.depth≤k
theorem Lay.mono {k m:Nat} {x:PyData} (h:Lay k x) (hk:k≤m):Lay m x:=⟨h.1,Nat.le_trans h.2 hk⟩
theorem Lay.shaped {k:Nat} {x:PyData} (h:Lay k x) (hk:k≤64):SeqAt.shaped x=true:=by
 unfold SeqAt.shaped
 rw[h.1,decide_eq_true (Nat.le_trans h.2 hk)];rfl
end Y
namespace Y
open PySem L2 Z
section
variable {N:Stt→Prop} {O:Rs→Prop} {s:Stt} {a b:Ms}
theorem z8e {ds:List D} {P:Prop} (h:D.noIdL ds=true) (p:P):D.noIdL ds=true∧P:=⟨h,p⟩
end
end Y
namespace Y
open PySem L2 Z
section
variable {K:PySem.W.Frag} {ct:Ct} {H0:Hp} {W:WX} {S:Sh} {s:Stt} {σ:St} {H:Hp}
def w0e (m:Mo AI) (r:Mo (List D)):Mo (List D):=fun s=>(mK m s).bind fun a s1=>(r s1).bind fun as s2=>.ok (a::as) s2
end
mutual
def shD (n:Nat):D→D
 | .tup l=>.tup (shL n l)
 | .ctp l=>.ctp (shL n l)
 | .lst l=>.lst (shL n l)
 | .clst l=>.clst (shL n l)
 | .dK l=>.dK (shK n l)
 | .dT l=>.dT (shT n l)
 | .cid k=>.cid (n+k)
 | d=>d
def shL (n:Nat):List D→List D
 | []=>[]
 | d::l=>shD n d::shL n l
def shK (n:Nat):List (Key×D)→List (Key×D)
 | []=>[]
 | (k,d)::l=>(k,shD n d)::shK n l
def shT (n:Nat):List (List Key×D)→List (List Key×D)
 | []=>[]
 | (k,d)::l=>(k,shD n d)::shT n l
end
def shF (n:Nat):List (Str×D)→List (Str×D)
 | []=>[]
 | (k,d)::l=>(k,shD n d)::shF n l
def shC (n:Nat):Cn→Cn
 | .lst l=>.lst (shL n l)
 | .dK l=>.dK (shK n l)
 | .dT l=>.dT (shT n l)
 | .obj c fs=>.obj c (shF n fs)
 | .lkK l=>.lkK (shK n l)
 | .lkT l=>.lkT (shT n l)
 | .tb k q=>.tb k q
section
variable {K:PySem.W.Frag} {ct:Ct} {H0:Hp} {W:WX} {S:Sh} {s:Stt} {σ:St} {H:Hp} {G:Hp} {α β:Nat→Addr} {n n':Nat}
def Sh.join (S S':Sh) (n:Nat):Sh:=⟨S'.G,fun k=>if k<n then S.α k else S'.α (k-n),fun a=>match S.lab a with
 | some l=>some l
 | none=>match S'.lab a with
  | some (.id k)=>some (.id (n+k))
  | _=>none⟩
def z7w (r:Fr) (s:Stt):Ro AI:=match r with
 | .ok (.val d) M'=>.ok (.val (shD s.M.length d)) ⟨s.env,s.M++M'.map (shC s.M.length)⟩
 | .ok (.new c) M'=>.ok (.new (shC s.M.length c)) ⟨s.env,s.M++M'.map (shC s.M.length)⟩
 | .er x M'=>.er ⟨x.cls,shF s.M.length x.fs⟩ ⟨s.env,s.M++M'.map (shC s.M.length)⟩
 | _=>.no
def j8g (f:Mf) (m:Mo (List D)):Mo AI:=fun s=>(m s).bind fun ds s1=>if D.noIdL ds=true then(match f ds [] with
 | .er _ _=>.no
 | r=>z7w r s1) else .no
def j2l (f:Mf) (m:Mo (List D)):Mo AI:=fun s=>(m s).bind fun ds s1=>if D.noIdL ds=true then z7w (f ds []) s1 else .no
end
/-- what a call tells whose cells are taken over -/
def Tf (n:Nat) (P:AI→List Cn→Prop) (E:Exn→List Cn→Prop):Fr→Prop
 | .ok (.val d) M'=>P (.val (shD n d)) (M'.map (shC n))
 | .ok (.new c) M'=>P (.new (shC n c)) (M'.map (shC n))
 | .er x M'=>E ⟨x.cls,shF n x.fs⟩ (M'.map (shC n))
 | _=>False
section
variable {s:Stt} {X:Exn→Stt→Prop} {QA:AI→Stt→Prop} {QV:List D→Stt→Prop} {f:Mf} {ma:Mo (List D)} {m:Mo AI} {r:Mo (List D)}
theorem z7u (h:Wo (fun a s1=>Wo (fun as s2=>QV (a::as) s2) X (r s1)) X (mK m s)):Wo QV X (w0e m r s):=q0g (q0e h fun _ _ h=>q0g (q0e h fun _ _ h=>h))
theorem z6y {r:Fr} (h:Tf s.M.length (fun a M'=>QA a ⟨s.env,s.M++M'⟩) (fun x M'=>X x ⟨s.env,s.M++M'⟩) r):Wo QA X (z7w r s):=by
 unfold z7w
 cases r with
 | no=>exact h.elim
 | er x M'=>exact h
 | ok a M' =>
  cases a with
  | val d=>exact h
  | slot j=>exact h.elim
  | new c=>exact h
theorem j4i (h:Wo (fun ds s1=>D.noIdL ds=true∧Tf s1.M.length (fun a M'=>QA a ⟨s1.env,s1.M++M'⟩) (fun _ _=>False) (f ds [])) X (ma s)):Wo QA X (j8g f ma s):=q0g (q0e h fun ds s1 ⟨e,h⟩=>by
 show Wo QA X (if D.noIdL ds=true then _ else _)
 rw[if_pos e]
 generalize f ds []=r at h ⊢
 cases r with
 | no=>exact h.elim
 | er x M'=>exact h.elim
 | ok a M'=>exact z6y (show Tf s1.M.length (fun a M'=>QA a ⟨s1.env,s1.M++M'⟩) (fun x M'=>X x ⟨s1.env,s1.M++M'⟩) (.ok a M') from by
   cases a with
   | val d=>exact h
   | slot j=>exact h.elim
   | new c=>exact h))
theorem z8g (h:Wo (fun ds s1=>D.noIdL ds=true∧Tf s1.M.length (fun a M'=>QA a ⟨s1.env,s1.M++M'⟩) (fun x M'=>X x ⟨s1.env,s1.M++M'⟩) (f ds [])) X (ma s)):Wo QA X (j2l f ma s):=q0g (q0e h fun ds s1 ⟨e,h⟩=>by
 show Wo QA X (if D.noIdL ds=true then _ else _)
 rw[if_pos e]
 exact z6y h)
end
end Y
namespace Y
open PySem L2 Z
end Y
namespace Y
open PySem L2 Z
end Y
namespace Y
open PySem L2 Z
theorem w_mI {s:Stt} {X:Exn→Stt→Prop} {QA:AI→Stt→Prop} {m:Mo D} (h:Wo (fun d s1=>QA (.val d) s1) X (m s)):Wo QA X (mI m s):=q0g (q0e h fun _ _ h=>h)
end Y
namespace Y
open PySem L2 Z
section
variable {K:PySem.W.Frag} {ct:Ct} {H0:Hp} {W:WX}
noncomputable def j1e (kd:KD) (i:Nat) (g:Tg) (b:Ms):Ms:=fun s=>match q2s s i with
 | some (.fz (.dK l))=>(match forN g b none (dIt kd l) s with
  | .er _ _=>.no
  | r=>r)
 | _=>.no
theorem j7c {N:Stt→Prop} {O:Rs→Prop} {kd:KD} {i:Nat} {g:Tg} {b:Ms} {l:List (Key×D)} {s:Stt} (e:q2s s i=some (.fz (.dK l))) (h:Ws N (fun r=>match r with|.er _ _=>False|r=>O r) (forN g b none (dIt kd l) s)):Ws N O (j1e kd i g b s):=by
 unfold j1e
 rw[e]
 simp only[]
 generalize forN g b none (dIt kd l) s=R at h ⊢
 cases R with
 | er x s'=>exact h.elim
 | _=>exact h
end
end Y
namespace Y
open PySem L2 Z
section
variable {K:PySem.W.Frag} {ct:Ct} {H0:Hp} {W:WX}
def w1e (ns:List Int) (ma:Mo (List D)):Mo AI:=fun s=>(ma s).bind fun ds s1=>match ds with
 | [.int i]=>if i∈ns then .ok (.val (.int ((ns.idxOf i:Nat):Int))) s1 else .no
 | _=>.no
theorem j5j {s:Stt} {X:Exn→Stt→Prop} {QA:AI→Stt→Prop} {ns:List Int} {ma:Mo (List D)} (h:Wo (fun ds s1=>∃i,ds=[.int i]∧i∈ns∧QA (.val (.int ((ns.idxOf i:Nat):Int))) s1) X (ma s)):Wo QA X (w1e ns ma s):=q0g (q0e h fun ds s1 ⟨i,e,hi,h⟩=>by
 subst e
 show Wo QA X (if i∈ns then _ else _)
 rw[if_pos hi];exact h)
end
end Y
namespace Y
open PySem L2 Z
section
variable {K:PySem.W.Frag} {ct:Ct} {H0:Hp} {W:WX}
noncomputable def mLcO (i:Nat) (ws:List Nat) (g:Tg) (c:Mo Bool) (e:Mo AI):Mo AI:=fun s=>match q2s s i with
 | some (.ow (.lst l))=>(mLc ws (fun s=>.ok ⟨l,none⟩ s) g c e ⟨s.env.set i none,s.M⟩).bind fun a s1=>.ok a ⟨s1.env.set i (some (.ow (.lst l))),s1.M⟩
 | _=>mLc ws (mWL (q0d i)) g c e s
theorem w2u {QA:AI→Stt→Prop} {X:Exn→Stt→Prop} {s:Stt} {i:Nat} {ws:List Nat} {g:Tg} {c:Mo Bool} {e:Mo AI} {l:List D} (en:q2s s i=some (.ow (.lst l))) (h:∃l2 s2,lcN ws g c (mV e) none l [] (q2a ws ⟨s.env.set i none,s.M⟩) = .ok l2 s2∧QA (.new (.lst l2)) ⟨(Y.rest (s.env.set i none) s2.env ws).set i (some (.ow (.lst l))),s2.M⟩):Wo QA X (mLcO i ws g c e s):=by
 unfold mLcO;rw[en]
 refine q0g (w_lc (QA:=fun a s1=>Wo QA X (.ok a ⟨s1.env.set i (some (.ow (.lst l))),s1.M⟩)) (show Wo _ X (Ro.ok (⟨l,none⟩:Im) _) from h))
end
end Y
namespace Y
open PySem L2 Z
section
variable {K:PySem.W.Frag} {ct:Ct} {H0:Hp} {W:WX} {S:Sh} {s:Stt} {σ:St} {H:Hp}
noncomputable def mLcG (ws:List Nat) (mi:Mo Im) (g:Tg) (c:Mo Bool) (e:Mo D):Mo AI:=fun s=>(mi s).bind fun im s1=>match lcN ws g c e im.ck im.xs [] (q2a ws s1) with
 | .ok l s2=>.ok (.new (.lst l)) ⟨rest s1.env s2.env ws,s2.M⟩
 | _=>.no
def CLR2 (i j:Int):Prop:=-(2^62)≤i∧i<2^62∧-(2^62)≤j∧j<2^62∧(j-i).toNat≤sizeLine
open Classical in
noncomputable def mLR2 (m1 m2:Mo AI):Mo AI:=fun s=>(m1 s).bind fun a s1=>(m2 s1).bind fun b s2=>match a,b with
 | .val (.int i),.val (.int j)=>if CLR2 i j then .ok (.new (.lst (rng i (j-i).toNat))) s2 else .no
 | _,_=>.no
def RKV (K:PySem.W.Frag):RR (List (V×V)) (List (D×D)):=fun _ S s _ _ b a=>RpL K S.G S.α s.M.length (b.map Prod.fst) (a.map Prod.fst)∧RpL K S.G S.α s.M.length (b.map Prod.snd) (a.map Prod.snd)
theorem bKV:Bck (RKV K):=fun _ _ _ _ _ _ _ _ _ h=>h
abbrev Ekv (K:PySem.W.Frag) (ct:Ct) (H0:Hp) (W:WX) (t:List (TE×TE)) (m:Mo (List (D×D))):Prop:=Jd K ct H0 (RKV K) W (tPairs t) m
def j3g:Mo (List (D×D)):=fun s=>.ok [] s
def j8a (mk mv:Mo AI) (r:Mo (List (D×D))):Mo (List (D×D)):=fun s=>(mV mk s).bind fun a s1=>(mV mv s1).bind fun b s2=>(r s2).bind fun l s3=>.ok ((a,b)::l) s3
theorem j0m:Ekv K ct H0 W [] j3g:=fun S s σ H Q rel p=>p S [] H .refl rel ⟨.nil,.nil⟩
def z5b:List (D×D)→Option (List (Key×D))
 | []=>some []
 | (k,d)::l=>(q6r k).bind fun k'=>(z5b l).map ((k',d)::·)
def w1c (r:Mo (List (D×D))):Mo AI:=fun s=>(r s).bind fun l s1=>match z5b l with
 | some kl=>if kl.length≤15 then .ok (.new (.dK (mgD kl))) s1 else .no
 | none=>.no
def w2p (mo mi mx:Mo AI):Mo AI:=fun s=>(mo s).bind fun a s1=>match q3b s1 a with
 | some _=>(mV mi s1).bind fun i s2=>(mK mx s2).bind fun x s3=>match getC s3 a,q6r i with
  | some (.dK l),some k=>if l.length<sizeLine then(match vl l k with
   | some d=>.ok (.val d) s3
   | none=>.ok (.val x) (setC s3 a (.dK (pu l k x)))) else .no
  | _,_=>.no
 | none=>.no
theorem j3a {X:Cx} {K:PySem.W.Frag} {es:List Expr} {k:Nat} {t:TGs} {n:Nat} {pos:Pos} (hK:X.K=K) (hc:X.calm=true) (h:PGs X es t)
  (hn:(assignEach es X.env).length=n:=by rfl) (hst:(assignEach es X.env).findIdx? (·.1)=none:=by rfl):PG X (.Tuple es k pos) (gLst K n t):=by subst hK;exact pg_lst hc h hn hst
def tgL (n:Nat) (f:Tgs):Tg:=fun d s=>match q4g s.M d with
 | some l=>if l.length=n then f l s else none
 | none=>none
theorem j7z {js:List Nat} {n:Nat} {gs:TGs} {f:Tgs} (h:Sgs K ct H0 js gs f):Sg K ct H0 js (gLst K n gs) (tgL n f):=fun S s σ H v d s' Q rel r e q=>by
 unfold tgL at e
 split at e
 ·rename_i l el
  split at e
  ·rename_i hl
   obtain⟨p,vs,rfl,k1,k2⟩:=q2f (Hs:=H) (a:=.val d) (v:=v) rel r (by unfold q1v look;exact el)
   exact⟨p,vs,rfl,k1,by rw[k2.length];exact hl,h S s σ H vs l s' Q rel k2 e q⟩
  ·cases e
 ·cases e
theorem j4q {js:List Nat} {n:Nat} {gs:TGs} {f:Tg} {te:TE} {m:Mo AI} (hg:Sg K ct H0 js (gLst K n gs) f) (h:Ei K ct H0 W te m):Sv K ct H0 W (tAsg te (gLst K n gs)) (j1k f m):=fun S s σ H Dn rel p =>
 q4k h S s σ H _ rel (PstS.bind p fun S1 s1 H1 x a st1 rel1 i1 p1=>by
  show gLst K n gs x σ H1 Dn.nx
  split at p1
  ·rename_i s2 e
   exact hg S1 s1 σ H1 x a s2 _ rel1 i1 e fun S2 σ2 st2 rel2 _ _ _=>p1 S2 σ2 H1 (st1.trans st2) rel2
  ·exact False.elim p1)
end
section
variable {s:Stt} {X:Exn→Stt→Prop} {QA:AI→Stt→Prop}
theorem w2f {ws:List Nat} {mi:Mo Im} {g:Tg} {c:Mo Bool} {e:Mo D} (h:Wo (fun im s1=>∃l s2,lcN ws g c e im.ck im.xs [] (q2a ws s1) = .ok l s2∧QA (.new (.lst l)) ⟨Y.rest s1.env s2.env ws,s2.M⟩) X (mi s)):Wo QA X (mLcG ws mi g c e s):=by
 unfold mLcG
 cases q:mi s with
 | no=>rw[q] at h;exact h
 | er x s1=>rw[q] at h;exact h
 | ok im s1 =>
  rw[q] at h
  obtain⟨l,s2,e1,e2⟩:=h
  show Wo QA X (match lcN ws g c e im.ck im.xs [] (q2a ws s1) with|.ok l s2=>.ok (.new (.lst l)) ⟨rest s1.env s2.env ws,s2.M⟩|_=>.no)
  rw[e1];exact e2
theorem w2v {m1 m2:Mo AI} (h:Wo (fun a s1=>Wo (fun b s2=>∃i j:Int,a = .val (.int i)∧b = .val (.int j)∧(-(2^62)≤i∧i<2^62∧-(2^62)≤j∧j<2^62∧(j-i).toNat≤sizeLine)∧QA (.new (.lst (rng i (j-i).toNat))) s2) X (m2 s1)) X (m1 s)):Wo QA X (mLR2 m1 m2 s):=by
 refine q0g (q0e h fun a s1 h=>q0g (q0e h fun b s2 h=>?_))
 obtain⟨i,j,rfl,rfl,c,h⟩:=h
 simp only[]
 rw[if_pos (show CLR2 i j from c)];exact h
theorem j1c {QK:List (D×D)→Stt→Prop} (h:QK [] s):Wo QK X (j3g s):=h
theorem z8k {QK:List (D×D)→Stt→Prop} {mk mv:Mo AI} {r:Mo (List (D×D))} (h:Wo (fun a s1=>Wo (fun b s2=>Wo (fun l s3=>QK ((a,b)::l) s3) X (r s2)) X (mV mv s1)) X (mV mk s)):Wo QK X (j8a mk mv r s) :=
 q0g (q0e h fun a s1 h=>q0g (q0e h fun b s2 h=>q0g (q0e h fun l s3 h=>h)))
theorem w0h {r:Mo (List (D×D))} (h:Wo (fun l s1=>∃kl,z5b l=some kl∧kl.length≤15∧QA (.new (.dK (mgD kl))) s1) X (r s)):Wo QA X (w1c r s):=by
 refine q0g (q0e h fun l s1 h=>?_)
 obtain⟨kl,e,c,h⟩:=h
 rw[e]
 show Wo QA X (if _ then _ else _)
 rw[if_pos c];exact h
theorem j5b {m1 m2 m3:Mo AI} (h:Wo (fun a s1=>(∃l,q3b s1 a=some l)∧Wo (fun i s2=>Wo (fun x s3=>∃l k,getC s3 a=some (.dK l)∧q6r i=some k∧l.length<sizeLine∧(match vl l k with
   | some d=>QA (.val d) s3
   | none=>QA (.val x) (setC s3 a (.dK (pu l k x))))) X (mK m3 s2)) X (mV m2 s1)) X (m1 s)):Wo QA X (w2p m1 m2 m3 s):=by
 refine q0g (q0e h fun a s1 h=>?_)
 obtain⟨⟨l0,e0⟩,h⟩:=h
 rw[e0]
 refine q0g (q0e h fun i s2 h=>q0g (q0e h fun x s3 h=>?_))
 obtain⟨l,k,e1,e2,c,h⟩:=h
 rw[e1,e2]
 show Wo QA X (if _ then _ else _)
 rw[if_pos c]
 cases q:vl l k with
 | some d=>rw[q] at h;exact h
 | none=>rw[q] at h;exact h
end
end Y
namespace Y
open PySem L2 Z
open PyProof.Rows (risingS sortedS)
end Y
namespace Hd
open PySem PySem.Spec PyProof.Rows L2
/-- what a name of the module stands for -/
def z5i (K:PySem.W.Frag) (x:Str) (v:V):Bool:=match PySem.W.nsIn K mainGlobals x with
 | some (some u)=>He.relB v u
 | _=>false
theorem q9n {K:PySem.W.Frag} {x:Str} {v:V} (h:z5i K x v=true):∃u,PySem.W.nsIn K mainGlobals x=some (some u)∧RelV v u:=by
 unfold z5i at h
 cases e:PySem.W.nsIn K mainGlobals x with
 | none=>rw[e] at h;cases h
 | some r =>
  rw[e] at h
  cases r with
  | none=>cases h
  | some u=>exact⟨u,rfl,He.relB_ok h⟩
/-- an exception class with its own __init__ -/
def j4p (K:PySem.W.Frag) (C:Addr) (bm:List Value):Bool:=match K.lookup C with
 | some ⟨.type "type",_,.cls cd,sl⟩=>(match cd.mro,sl.toList with
  | .ref C'::bm',[_,_,_,_,some (.builtin n),_]=>C'==C&&(n == "ValueError.__new__" && (!cd.hasDel&&(decide (bm'=bm)&&cd.hasDict)))
  | _,_=>false)
 | _=>false
theorem z7o {K:PySem.W.Frag} {C:Addr} {bm:List Value} (h:j4p K C bm=true) :
  ∃nm q N bs sn sub ab col dd m0 m1 m2 m3 m5,K.lookup C=some (PySem.excClassObj nm q C N bs bm true sn sub ab col dd m0 m1 m2 m3 m5 "ValueError.__new__"):=by
 unfold j4p at h
 split at h
 ·rename_i dd cd sl ho
  split at h
  ·rename_i C' bm' k0 k1 k2 k3 n k5 hm hs
   simp only[Bool.and_eq_true,beq_iff_eq,Bool.not_eq_true',decide_eq_true_eq] at h
   obtain⟨rfl,rfl,hdel,rfl,hd⟩:=h
   obtain⟨nm,bs,mro,ns,qn,hdd,sn,sub,ab,col,del⟩:=cd
   dsimp only at hm hdel hd
   subst hm hdel hd
   have hsl:sl = #[k0,k1,k2,k3,some (.builtin "ValueError.__new__"),k5]:=by
    obtain⟨l⟩:=sl
    simp only at hs
    rw[hs]
   subst hsl
   exact⟨nm,qn,ns,bs,sn,sub,ab,col,dd,k0,k1,k2,k3,k5,ho⟩
  ·cases h
 ·cases h
/-- what a class tells by a builtin -/
def cfAt (r:Option PySem.W.CFound) (n:String):Bool:=match r with
 | some (.val (.builtin m))=>decide (m=n)
 | _=>false
theorem j1d {r:Option PySem.W.CFound} {n:String} (h:cfAt r n=true):r=some (.val (.builtin n)):=by
 unfold cfAt at h
 split at h
 ·rw[of_decide_eq_true h]
 ·cases h
abbrev Ex:Type:=List (List (PySem.W.Frag→Bool))
abbrev Al:Type:=Bool×(List He.FnV×List He.FnW)
def exB (ex:Ex) (fn:List He.FnD) (K:PySem.W.Frag):Bool:=(ex.all fun l=>l.all fun f=>f K)&&fn.all fun d=>(He.Fa.code d.at_ d.qual).ok K
def obs (fn:List He.FnD) (fd:List He.DefD) (ex:Ex) (K:PySem.W.Frag):Al:=(exB ex fn K,fn.map (fun d=>He.fnObs K d.at_),fd.map fun d=>He.fnW K d.at_)
def val (fn:List He.FnD) (fd:List He.DefD):Al:=(true,fn.map He.FnD.val,fd.map He.DefD.val)
def Says (fn:List He.FnD) (fd:List He.DefD) (ex:Ex) (K:PySem.W.Frag):Prop:=obs fn fd ex K=val fn fd
/-- the objects that are looked at: the module's names, what stands behind them, the classes' tables, the methods -/
def outs (o:Obj):List Addr:=match o.data with
 | .func fd=>He.refV fd.code++He.refV fd.defaults
 | .cls cd=>[cd.ns]
 | .dict es _=>es.toList.flatMap fun e=>He.refV e.val
 | _=>[]
def w1r (g:Addr→Option Obj) (as:List Addr):List Addr:=as.flatMap fun a=>match g a with
 | some o=>outs o
 | none=>[]
def asK (g:Addr→Option Obj):Nat→List Addr→List Addr
 | 0,l=>l
 | n+1,l=>l++asK g n (w1r g l)
def obsG (n:Nat) (fn:List He.FnD) (fd:List He.DefD) (ex:Ex) (g:Addr→Option Obj):Al:=obs fn fd ex (He.frG g (PySem.cStatics::asK g n [mainGlobals]))
def hook (n:Nat) (fn:List He.FnD) (fd:List He.DefD) (ex:Ex):PySem.W.Hook where
 α:=Al
 obs:=fun s=>obsG n fn fd ex s.heap.get?
 val:=fun _=>val fn fd
 says:=fun _ h=>∃K:PySem.W.Frag,K.In h∧Says fn fd ex K
 of:=fun _ _ e=>⟨_,He.frG_in,e⟩
 keeps:=fun _ _ _ ⟨K,hK,c⟩ k=>⟨K,PySem.W.Frag.In.keeps hK k,c⟩
theorem j2b {n:Nat} {fn:List He.FnD} {fd:List He.DefD} {ex:Ex} {g:Addr→Option Obj} {s:Shared} (h:∀a,g a=s.heap.get? a):obsG n fn fd ex g=(hook n fn fd ex).obs s:=by
 have e:g=s.heap.get?:=funext h
 rw[e]<;>rfl
section
variable {fn:List He.FnD} {fd:List He.DefD} {ex:Ex} {K:PySem.W.Frag}
theorem Says.all (c:Says fn fd ex K):exB ex fn K=true:=congrArg (fun z:Al=>z.1) c
theorem Says.fact (c:Says fn fd ex K) (i j:Nat) {l:List (PySem.W.Frag→Bool)} {f:PySem.W.Frag→Bool} (hl:ex[i]? = some l) (hf:l[j]? = some f):f K=true :=
 List.all_eq_true.mp (List.all_eq_true.mp (He.ba c.all).1 l (List.mem_of_getElem? hl)) f (List.mem_of_getElem? hf)
theorem Says.def_ (c:Says fn fd ex K) (i:Nat) {d:He.FnD} (h:fn[i]? = some d) :
  ∃oc od osl kV doc pm an cdv ct,K.lookup (He.fAd K d.at_)=some ⟨oc,od,.func (PySem.W.fnOf d.name d.qual d.params d.body d.scope .none kV doc pm an cdv ct),osl⟩∧PySem.W.codeIn K cdv d.qual=true:=by
 have e:fn.map (fun d=>He.fnObs K d.at_)=fn.map He.FnD.val:=congrArg (fun z:Al=>z.2.1) c
 have e2:(fn.map fun d=>He.fnObs K d.at_)[i]? = (fn.map He.FnD.val)[i]?:=by rw[e]
 rw[List.getElem?_map,List.getElem?_map,h] at e2
 exact He.fn_ok (Option.some.inj e2) (List.all_eq_true.mp (He.ba c.all).2 d (List.mem_of_getElem? h))
end
end Hd
namespace Y
open PySem L2 Z
section
variable {K:PySem.W.Frag} {ct:Ct} {H0:Hp} {W:WX} {S:Sh} {s:Stt} {σ:St} {H:Hp}
theorem SqL.grow {H H':Hp} {p a:Addr} {ys:List V} (h:SqL K H p ys) (ha:H a=none) (k:∀b o,H b=some o→b≠a→H' b=some o):SqL K H' p ys:=by
 rcases h with h|h
 ·refine .inl ?_
  rcases h with h|⟨o,h⟩
  ·exact .inl (k _ _ h (fun e=>by rw[e,ha] at h;cases h))
  ·exact .inr ⟨o,k _ _ h (fun e=>by rw[e,ha] at h;cases h)⟩
 ·exact .inr h
variable {N:Stt→Prop} {O:Rs→Prop}
end
end Y
namespace Y
open PySem L2 Z
end Y
namespace Y
open PySem L2 Z
end Y
namespace Y
open PySem PySem.Spec PyProof.Rows L2 Z
section
variable {K:PySem.W.Frag} {ct:Ct} {H0:Hp} {W:WX} {S:Sh} {s:Stt} {σ:L2.St} {H:Hp}
def mWZs (m:Mo (List D)):Mo Im:=fun s=>(m s).bind fun ds s1=>match ds with
 | [.str x,.ctp l]=>.ok ⟨zipL (strL x) l,none⟩ s1
 | _=>.no
end
section
variable {s:Stt} {QI:Im→Stt→Prop} {X:Exn→Stt→Prop}
theorem w1j {r:Mo (List D)} (h:Wo (fun ds s1=>∃x l,ds=[.str x,.ctp l]∧QI ⟨zipL (strL x) l,none⟩ s1) X (r s)):Wo QI X (mWZs r s) :=
 q0g (q0e h fun ds s1 h=>by
  obtain⟨x,l,rfl,h⟩:=h
  exact h)
end
end Y
namespace Y
open PySem L2 Z
end Y
namespace Y
open PySem L2 Z PySem.Spec PyProof.Rows
section
variable {P:Program} {w:World} {A:Around} {E:Value→Shared→Prop} {z:Shared}
/-- an empty set, as it is made -/
abbrev nwS (w:World):Obj:={ cls:=.type "set",dict:=none,data:=.set #[] 0 (.fresh 0 0 (!w.params.followText "set-order")) }
/-- the heap with it -/
abbrev hpS (w:World) (z:Shared):Heap:=z.heap.push (nwS w)
/-- what holds when the list's numbers are in the set -/
def InS (w:World) (ns:List Int) (z:Shared) (z2:Shared):Prop:=∃h1 t c,z2={ z with heap:=h1,toks:=t }∧SetR w h1 z.heap.objs.size (fun j=>decide (j∈ns)) c∧c≤ns.length∧∀b o,z.heap.get? b=some o→h1.get? b=some o
/-- the list's numbers put in, one by one -/
theorem z8q {l:Addr} {xs:Array Value} {ns:List Int} {R:Result→Shared→Prop} (hh:A.handled=none) (hl:z.heap.IsList l xs) (hi:IntsAre xs.toList ns) (hb:ns.length+1<scanBound)
  (h:∀z2,InS w ns z z2→R (.ok (.ret .none)) z2) :
  codeAny (model P w) A (.builtin "set.update.loop" ⟨[.ref z.heap.objs.size,.ref (hpS w z).objs.size],[]⟩) R { z with heap:=(hpS w z).push { cls:=.type "list_iterator",data:=.fields #[.ref l,.int 0 0] } }:=by
 have hn:xs.size=ns.length:=by rw[←IntsAre.length hi,Array.length_toList]
 have sz:(hpS w z).objs.size=z.heap.objs.size+1:=Heap.size_push ..
 have gS:(hpS w z).get? z.heap.objs.size=some (nwS w):=Heap.get?_push_size _ rfl
 have lt:l<z.heap.objs.size:=by obtain⟨_,e,_⟩:=hl;exact Heap.lt_size e
 have kl:(hpS w z).IsList l xs:=hl.push _
 have no:z.heap.objs.size∉[(hpS w z).objs.size,l]:=by
  rw[sz];intro q
  rcases List.mem_cons.mp q with q|q
  ·exact absurd q (Nat.ne_of_lt (Nat.lt_succ_self _))
  ·exact absurd (List.mem_singleton.mp q) (Nat.ne_of_gt lt)
 refine set_update_ints ((Walks.list (by simp[hh]) _ l (by rw[sz];exact Nat.ne_of_lt (Nat.lt_succ_of_lt lt)) xs).toS) z.heap.objs.size no ns hn hb (fun i v e=>?_) (xs.size-0) 0 _ rfl (Nat.zero_le _) ⟨⟨_,Heap.get?_push_size _ rfl,rfl,rfl⟩,kl.push _⟩ ⟨0,Nat.le_refl 0,setR_new_at (Heap.get?_push_of_some _ gS)⟩ (fun z2 c mv hc hS=>h z2 ?_)
 ·have hlt:i<ns.length:=by rw[←hn];exact(Array.getElem?_eq_some_iff.mp e).1
  obtain⟨t,q⟩:=IntsAre.int_at hi i v (by rw[Array.getElem?_toList];exact e)
  rw[List.getD_eq_getElem?_getD,List.getElem?_eq_getElem hlt] at q
  exact⟨ns[i],t,List.getElem?_eq_getElem hlt,q⟩
 ·obtain⟨h2,g2,d2,t2,o2⟩:=z2
  obtain rfl:g2=z.gens:=mv.gens
  obtain rfl:d2=z.drawn:=mv.drawn
  obtain rfl:o2=z.os:=mv.os
  refine⟨h2,t2,c,rfl,hS,by rw[←hn];exact hc,fun b o e=>?_⟩
  have hlt:=Heap.lt_size e
  refine mv.heap b o (fun q=>?_) (Heap.get?_push_of_some _ (Heap.get?_push_of_some _ e))
  rw[sz] at q
  rcases List.mem_cons.mp q with q|q
  ·exact absurd q (Nat.ne_of_lt hlt)
  ·exact absurd (List.mem_singleton.mp q) (Nat.ne_of_lt (Nat.lt_succ_of_lt hlt))
theorem z8v {l:Addr} {xs:Array Value} {ns:List Int} (hh:A.handled=none) (hl:z.heap.IsList l xs) (hi:IntsAre xs.toList ns) (hb:ns.length+1<scanBound) :
  codeAny (model P w) A (.call (.builtin "set.__init__") ⟨[.ref z.heap.objs.size,.ref l],[]⟩) (wants (fun r z2=>r = .none∧InS w ns z z2) E) { z with heap:=hpS w z }:=by
 have gS:(hpS w z).get? z.heap.objs.size=some (nwS w):=Heap.get?_push_size _ rfl
 have ty:Shared.TypeIs { z with heap:=hpS w z } (.ref z.heap.objs.size) "set":=⟨_,gS,rfl⟩
 refine codeAny_call_builtin F.called_set.init.plain F.entry_set_init (check_set_init_1 ty ?_)
 have kl:(hpS w z).IsList l xs:=hl.push _
 have kl2:=kl
 obtain⟨⟨oc,od,ot,os⟩,go,rfl,k,rfl⟩:=kl2
 have s1:=F.sub_list_set
 have s2:=F.sub_list_frozenset
 have s3:(Value.type "list" == Value.type "dict")=false:=by decide
 unfold Builtin.«set.__init__» noKeywords Builtin.Frozenset.updateFrom
 generalize ep:pyIter=pit
 wp_walk
 subst ep
 refine wpAny_pyIter_list kl (wpAny_bind (wpAny_runValue (z8q (by simp[hh]) hl hi hb fun z2 q=>?_)))
 show wpAny _ _ _ _ _ _
 refine wpAny_pure (wpAny_pure ?_)
 exact⟨rfl,q⟩
theorem set_list {l:Addr} {xs:Array Value} {ns:List Int} {Q:Value→Shared→Prop} (hh:A.handled=none) (hl:z.heap.IsList l xs) (hi:IntsAre xs.toList ns) (hb:ns.length+1<scanBound)
  (h:∀z2,InS w ns z z2→Q (.ref z.heap.objs.size) z2):wpAny (model P w) A (call (.type "set") [.ref l]) Q E z:=by
 have a1:=F.called_set.made
 have a2:=F.called_set.sub
 have a3:=F.called_set.notType
 have a4:=F.called_set.canCreate
 have a5:=F.typeCall_set_1 (.ref l)
 obtain⟨c,tl,a6⟩:=F.called_set.mro
 refine wpAny_call (codeAny_of_tree (show wpAny _ _ (callAny (.type "set") _) _ _ _ from wpAny_pure ⟨Code.quiet_builtin _ (by decide +kernel),codeAny_builtin F.entry_type_call ?_⟩))
 rw[Around.under_plain (weight_type_call_type "set" [.ref l] []) rfl]
 repeat (any_goals (first|assumption|wp_step))
 refine codeAny_mono (code_set_led1 (.ref l) (E:=E) (Q₁:=fun o z2=>o = .ref z.heap.objs.size∧z2={ z with heap:=hpS w z }) ⟨rfl,rfl⟩) fun r z1 hr=>?_
 cases r with
 | error e=>exact hr
 | ok f =>
  cases f with
  | ret o =>
   obtain⟨rfl,rfl⟩:=hr
   have gS:(hpS w z).get? z.heap.objs.size=some (nwS w):=Heap.get?_push_size _ rfl
   have ty:Shared.TypeIs { z with heap:=hpS w z } (.ref z.heap.objs.size) "set":=⟨_,gS,rfl⟩
   have b1:=F.called_set.init.lookup
   have b2:=F.called_set.init.bind (.ref z.heap.objs.size)
   repeat (any_goals (first|assumption|wp_step))
   refine codeAny_mono (z8v (E:=E) (by simp[hh]) hl hi hb) fun r2 z2 q=>?_
   cases r2 with
   | error e=>exact q
   | ok f2 =>
    cases f2 with
    | ret v =>
     obtain⟨rfl,q⟩:=q
     have hq:=h z2 q
     repeat (any_goals (first|assumption|wp_step))
    | _=>exact q.elim
  | _=>exact hr.elim
end
end Y
namespace Y
open PySem L2 Z PySem.Spec PyProof.Rows
end Y
namespace Y
open PySem L2 Z
end Y
namespace Y
open PySem L2 Z PySem.Spec PyProof.Rows
section
variable {X:Cx} {pins:List (Addr×Obj)} {σ:L2.St} {H:Hp} {s:Shared} {p b:Addr} {kl:List (List Key×V)} {kk:List Key} {zd:V} {zr:Value} {A:Around} {E:Value→Shared→Prop}
theorem j0j {Q:Value→Shared→Prop} (hu:A.units+1<cLine) (I:Inv X pins σ H s) (e:H p=some (.dT kl)) (eb:H b=some (.tup (kk.map kV))) (rz:RelV zd zr) (hl:kl.length<sizeLine)
  (g1:∀v,valV kl kk=some v→∀(w':Value) (s':Shared),Inv X pins σ H s'→RelV v w'→Q w' s') (g2:valV kl kk=none→∀(w':Value) (s':Shared),Inv X pins σ (upd H p (.dT (putK kl kk zd))) s'→RelV zd w'→Q w' s') :
  wpAny (model X.prog X.w) A (call (.builtin "dict.setdefault") [.ref p,.ref b,zr]) Q E s:=by
 obtain⟨z,hd,xs,rel,dd⟩:=dt_of I.hok e
 have hz:xs.length≤sizeLine:=by rw[←Paired.length rel];exact z
 refine call_setdefault_heap (hsz:=hz) (knd:=tupleKind (mixKind X.prog X.w)) (tupleKind_room_in1 hu) (key_of I.hok eb) hd dd (fun q hq=>?_) fun hn h' dd' hs=>?_
 ·have r:=rel.val kk
  rw[hq] at r
  cases ev:valV kl kk with
  | none=>rw[ev] at r;exact(show False from r).elim
  | some v0=>rw[ev] at r;exact g1 v0 ev _ _ (I.tok _) r
 ·have r:=rel.val kk
  rw[hn] at r
  cases ev:valV kl kk with
  | some v0=>rw[ev] at r;exact(show False from r).elim
  | none =>
   have hl2:(putK kl kk zd).length≤sizeLine:=by have:=length_putK kl kk zd;omega
   refine g2 ev _ _ ?_ rz
   obtain⟨q,es,ep,hq,h2,h3,h4,_,h5⟩:=dd'
   exact d_write I (by rw[e];exact True.intro) hs ⟨q,hq⟩ ⟨hl2,hd,_,(rel.put kk eb rz).keeps (fun c ys ec=>by rw[upd_ne (ne_of ec e (fun z=>nomatch z))];exact ec),q,es,ep,hq,h2,h3,h4,h5⟩
end
/-- d.setdefault(y, z), y a tuple -/
def z9s (td ty tx:TE):TE:=fun σ H Q=>td σ H fun x H1=>∃a,x = .ref a∧IsD H1 a∧ty σ H1 fun y H2=>tx σ H2 fun z H3=>∃(b:Addr) (kvs:List (List Key×V)) (k:List Key),H3 a=some (.dT kvs)∧y = .ref b∧H3 b=some (.tup (k.map kV))∧kvs.length<sizeLine ∧
 (∀v,valV kvs k=some v→Q v H3)∧(valV kvs k=none→Q z (upd H3 a (.dT (putK kvs k z))))
section
variable {X:Cx} {o e f:Expr} {td ty tx:TE} {apos cpos:Pos}
theorem z8j (hu:X.A.units+1<cLine) (ho:PE X o td) (he:PE X e ty) (hf:PE X f tx) (m:M2 X o "setdefault" apos e f cpos):PE X (.Call (.Attribute o "setdefault" apos) [e,f] [] cpos) (z9s td ty tx):=by
 refine⟨fun pins s σ H Q I h=>?_⟩
 refine wpAny_Call_method m.base m.few m.line PySem.F.plainAttrs_dict PySem.F.slot_dict_setdefault PySem.F.type_dict_setdefault (thn (ho.run pins s σ H _ I h) fun u s1 ⟨x,H1,I1,rx,p,ex,d,q1⟩=>?_)
 subst ex
 obtain rfl:u=Value.ref p:=rx
 obtain⟨t1,t2,_⟩:=isD_at I1 d
 refine⟨t1,t2,?_⟩
 rw[m.trees]
 refine Calls.callWith_builtin rfl (Calls.evalArgs_plain (Calls.spliced_cons (thn (he.run pins s1 σ H1 _ I1 q1) fun iv s2 ⟨y,H2,I2,ry,q2⟩ =>
  Calls.spliced_cons (thn (hf.run pins s2 σ H2 _ I2 q2) fun fv s3 ⟨z,H3,I3,rz,b,kvs,k,ea,ey,eb,hl,q3,q4⟩=>Calls.spliced_nil ?_))))
 subst ey
 cases(show iv=Value.ref b from ry)
 exact j0j (by first|assumption|exact hu|omega) I3 ea eb rz hl (fun v hv w' s4 I4 rw'=>⟨v,_,I4,rw',q3 v hv⟩) fun hn w' s4 I4 rw'=>⟨z,_,I4,rw',q4 hn⟩
end
section
variable {K:PySem.W.Frag} {ct:Ct} {H0:Hp} {W:WX}
def j0w (mo mi mx:Mo AI):Mo AI:=fun s=>(mo s).bind fun a s1=>match q3x s1 a with
 | some _=>(mV mi s1).bind fun i s2=>(mK mx s2).bind fun x s3=>match getC s3 a,tkey i with
  | some (.dT l),some k=>if l.length<sizeLine then(match vl l k with
   | some d=>.ok (.val d) s3
   | none=>.ok (.val x) (setC s3 a (.dT (pu l k x)))) else .no
  | _,_=>.no
 | none=>.no
theorem j3n {td ty tx:TE} {mo mi mx:Mo AI} (ho:Ei K ct H0 W td mo) (hi:Ei K ct H0 W ty mi) (hx:Ei K ct H0 W tx mx):Ei K ct H0 W (z9s td ty tx) (j0w mo mi mx):=fun S s σ H Q rel p =>
 ho S s σ H _ rel (Pst.bind bI p fun S1 s1 H1 x a st1 rel1 i1 p1=>by
  split at p1
  ·rename_i l0 e0
   obtain⟨q,kvs0,rfl,hd,_⟩:=z7d rel1 i1 e0
   refine⟨q,rfl,.inr ⟨kvs0,hd⟩,?_⟩
   refine q4k hi S1 s1 σ H1 _ rel1 (Pst.bind bI p1 fun S2 s2 H2 y i st2 rel2 i2 p2=>j9h hx S2 s2 σ H2 _ rel2 (Pst.bind bI p2 fun S3 s3 H3 z xd st3 rel3 i3 p3=>?_))
   split at p3
   ·rename_i l k e1 e2
    have ia:=ItOk.step (st2.trans st3) i1
    obtain⟨q',eq,⟨us,g1,g2,g3⟩,g4⟩:=z0f rel3 ia e1
    cases eq
    obtain⟨b,rfl,hb⟩:=z1p rel3 (Rp.step st3 i2) e2
    split at p3
    ·rename_i hz
     have rk:=RpK.of g2 g3
     refine⟨b,us,k,g1,rfl,hb,by rw[rk.len];exact hz,fun v hv=>?_,fun hn=>?_⟩
     ·rcases rk.get (k:=k) with⟨_,b⟩|⟨v',d,h1,h2,h3⟩
      ·rw[hv] at b;cases b
      ·rw[hv] at h2;cases h2
       rw[h1] at p3
       exact p3 S3 v H3 .refl rel3 h3
     ·rcases rk.get (k:=k) with⟨h1,_⟩|⟨v',d,h1,h2,h3⟩
      ·rw[h1] at p3
       obtain⟨r1,r2⟩:=g4 (.dT (putK us k z)) (.dT (pu l k xd)) (fun _=>rfl) ⟨_,upd_same,(rk.put i3).keys,(rk.put i3).vals⟩
       refine p3 S3 z _ r2 r1 ?_
       show Rp K S3.G S3.α (setC s3 a (.dT (pu l k xd))).M.length z xd
       rw[z2t];exact i3
      ·rw[hn] at h2;cases h2
    ·exact False.elim p3
   ·exact False.elim p3
  ·exact False.elim p1)
end
section
variable {s:Stt} {X:Exn→Stt→Prop} {QA:AI→Stt→Prop}
theorem w0d {m1 m2 m3:Mo AI} (h:Wo (fun a s1=>(∃l,q3x s1 a=some l)∧Wo (fun i s2=>Wo (fun x s3=>∃l k,getC s3 a=some (.dT l)∧tkey i=some k∧l.length<sizeLine∧(match vl l k with
   | some d=>QA (.val d) s3
   | none=>QA (.val x) (setC s3 a (.dT (pu l k x))))) X (mK m3 s2)) X (mV m2 s1)) X (m1 s)):Wo QA X (j0w m1 m2 m3 s):=by
 refine q0g (q0e h fun a s1 h=>?_)
 obtain⟨⟨l0,e0⟩,h⟩:=h
 rw[e0]
 refine q0g (q0e h fun i s2 h=>q0g (q0e h fun x s3 h=>?_))
 obtain⟨l,k,e1,e2,hz,h⟩:=h
 rw[e1,e2]
 simp only[]
 rw[if_pos hz]
 cases q:vl l k with
 | none=>rw[q] at h;exact h
 | some d=>rw[q] at h;exact h
end
end Y
namespace Y
open PySem L2 Z PySem.Spec PyProof.Rows
section
variable {P:Program} {w:World} {A:Around} {E:Value→Shared→Prop} {z:Shared}
/-- a set of so many things -/
def SzAt (S:Addr) (n:Nat) (h:Heap):Prop:=∃o es ep t,h.get? S=some o∧o.ExactSet∧o.data = .set es ep t∧t.fits es.size=true∧es.size=n
theorem SzAt.keep {S:Addr} {n:Nat} {h h':Heap} (g:SzAt S n h) (k:∀o,h.get? S=some o→h'.get? S=some o):SzAt S n h':=by
 obtain⟨o,es,ep,t,e,r⟩:=g
 exact⟨o,es,ep,t,k o e,r⟩
end
section
variable {K:PySem.W.Frag} {ct:Ct} {H0:Hp} {W:WX} {S:Sh} {s:Stt} {σ:L2.St} {H:Hp}
def tupI:D→Option (List Int)
 | .tup l=>q6k l
 | _=>none
def z8t:List D→Option (List (List Int))
 | []=>some []
 | d::l=>(tupI d).bind fun k=>(z8t l).map (k::·)
open Classical in
noncomputable def z8o (m:Mo AI):Mo AI:=fun s=>(m s).bind fun a s1=>match(q1v s1 a).bind z8t with
 | some xs=>if xs.Nodup∧xs.length≤64 then .ok (.val (.int xs.length)) s1 else .no
 | none=>.no
theorem z5d {m:Mo AI} {s:Stt} {X:Exn→Stt→Prop} {QA:AI→Stt→Prop} (h:Wo (fun a s1=>∃xs,(q1v s1 a).bind z8t=some xs∧(xs.Nodup∧xs.length≤64)∧QA (.val (.int xs.length)) s1) X (m s)):Wo QA X (z8o m s):=q0g (q0e h fun a s1 ⟨xs,e,c,h⟩=>by
 show Wo QA X (match(q1v s1 a).bind z8t with|some xs=>_|none=>_)
 rw[e]
 show Wo QA X (if xs.Nodup∧xs.length≤64 then _ else _)
 rw[if_pos c];exact h)
end
end Y
namespace Y
open PySem L2 Z
section
variable {K:PySem.W.Frag} {ct:Ct} {H0:Hp} {W:WX} {S:Sh} {s:Stt} {σ:St} {H:Hp}
/-- a cell gets another content -/
theorem Rel.setCell {k:Nat} {c c':Cn} {o:HO} (r:Rel K ct H0 S s σ H) (e1:s.M[k]? = some c) (hnt:NT o) (hk:CnOk K ct S s.M.length (upd H (S.α k) o) (S.α k) c'):Rel K ct H0 S ⟨s.env,s.M.set k c'⟩ σ (upd H (S.α k) o):=by
 obtain⟨h3,h5⟩:=r.ids k c e1
 obtain⟨hg,u0,hu0,_⟩:=r.lg _ _ h3
 have g4:∀{a:Addr} {c:Cn} {l':Lab},S.lab a=some l'→l'≠.id k→CnOk K ct S s.M.length H a c→CnOk K ct S s.M.length (upd H (S.α k) o) a c:=fun {a c l'} q ne h=>by
  have z:a≠S.α k:=fun z=>by subst z;rw[h3] at q;cases q;exact ne rfl
  exact h.mono (fun _ _ q=>q) (fun _ _=>rfl) (Nat.le_refl _) fun u q=>by rw[upd_ne z];exact q
 have hl:(s.M.set k c').length=s.M.length:=List.length_set
 refine⟨fun a u q=>?_,fun a l' q=>?_,fun a q=>r.dom a (q1a.mp q).2,r.len,fun m en hm=>?_,fun k' cc hk'=>?_⟩
 ·rw[U_ne (fun z=>by subst z;rw[hg] at q;cases q)];exact r.sub a u q
 ·obtain⟨k1,u,k2,k3⟩:=r.lg a l' q
  refine⟨k1,?_⟩
  by_cases z:a=S.α k
  ·subst z;exact⟨o,upd_same,hnt⟩
  ·exact⟨u,by rw[upd_ne z];exact k2,k3⟩
 ·have hh:=r.slot m en hm
  show z4g K ct H0 S (s.M.set k c').length σ _ m en
  rw[hl]
  cases en with
  | fz d=>exact hh
  | xn x=>exact q2m (S:=S) (n:=s.M.length) (H:=H) (fun _ _ e=>e) (fun _ _=>rfl) (Nat.le_refl _) rfl hh
  | ow c2 =>
   obtain⟨a,k1,k2,k3,k4,k5⟩:=hh
   exact⟨a,k1,k2,k3,k4,g4 k3 (fun w=>by cases w) k5⟩
 ·have hk1:(s.M.set k c')[k']? = some cc:=hk'
  show S.lab (S.α k')=some (.id k')∧CnOk K ct S (s.M.set k c').length _ (S.α k') cc
  rw[hl]
  by_cases z:k=k'
  ·subst z
   have hlt:k<s.M.length:=(List.getElem?_eq_some_iff.mp e1).1
   rw[List.getElem?_set_self hlt] at hk1
   cases hk1
   exact⟨h3,hk⟩
  ·rw[List.getElem?_set_ne z] at hk1
   obtain⟨k1,k2⟩:=r.ids k' cc hk1
   exact⟨k1,g4 k1 (fun w=>by cases w;exact z rfl) k2⟩
/-- a tuple that stands in the heap is frozen -/
theorem Rel.frzT {q:Addr} {vs:List V} (r:Rel K ct H0 S s σ H) (h:H q=some (.tup vs)):∃S',Stp S s.M.length H S' s.M.length H∧Rel K ct H0 S' s σ H∧S'.G q=some (.tup vs):=by
 have hU:U ct.lk H q=some (.tup vs):=uP h
 cases e:S.G q with
 | some u =>
  have:=r.sub q u e
  rw[hU] at this;cases this
  exact⟨S,.refl,r,e⟩
 | none =>
  have hl:S.lab q=none:=by
   cases z:S.lab q with
   | none=>rfl
   | some l=>obtain⟨_,o,ho,hnt⟩:=r.lg q l z;rw[h] at ho;cases ho;exact absurd rfl (hnt vs)
  refine⟨S.frz q (.tup vs),⟨fun a u e2=>?_,Nat.le_refl _,fun _ _=>rfl,fun a u h2 l=>⟨h2,l⟩,fun a u e2=>?_,fun _ h=>h,fun _ _ _ h=>h⟩,r.frz hU hl e,upd_same⟩
  ·show upd S.G q _ a=_;rw[upd_ne (ne_of_none e2 e)];exact e2
  ·have e2:upd S.G q (.tup vs) a=some u:=e2
   by_cases z:a=q
   ·subst z;exact .inr (.inr (.inr ⟨vs,h⟩))
   ·rw[upd_ne z] at e2;exact .inl e2
theorem z5k {G:Hp} {α:Nat→Addr} {n:Nat}:∀ks:List Key,RpL K G α n (ks.map kV) (ks.map kD)
 | []=>.nil
 | k::ks=>.cons (j1o k) (z5k ks)
inductive KDT where
 | keys|items
def dItT:KDT→List (List Key×D)→List D
 | .keys,l=>l.map fun p=>.tup (p.1.map kD)
 | .items,l=>l.map fun p=>.tup [.tup (p.1.map kD),p.2]
/-- the pairs of a dict with tuple keys, each a new tuple -/
def ItiT (d:Addr) (o:Obj) (kvs:List (List Key×V)):It :=
 ⟨fun i H=>H d=some (.frz o (.dT kvs))∧i<kvs.length,fun i H x H'=>∃T k v q,kvs[i]? = some (k,v)∧H q=some (.tup (k.map kV))∧x = .ref T∧H T=none∧H'=upd H T (.tup [.ref q,v]),fun i H=>H d=some (.frz o (.dT kvs))∧kvs.length≤i⟩
def z5z (td:TE):TI:=fun σ H R=>td σ H fun x H1=>∃d o kvs,x = .ref d∧H1 d=some (.frz o (.dT kvs))∧R (ItiT d o kvs) H1
theorem RpK.atT {G:Hp} {α:Nat→Addr} {n:Nat}:∀{kvs:List (List Key×V)} {l:List (List Key×D)} {i:Nat} {k:List Key} {d:D},RpK K G α n kvs l→l[i]? = some (k,d)→∃v,kvs[i]? = some (k,v)∧Rp K G α n v d
 | _,_,_,_,_,.nil,e=>by simp at e
 | _,_,0,_,_,.cons a _,e=>by simp at e;obtain⟨rfl,rfl⟩:=e;exact⟨_,rfl,a⟩
 | _,_,i+1,_,_,.cons _ r,e=>by
  simp at e
  obtain⟨v,h1,h2⟩:=r.atT e
  exact⟨v,by simpa using h1,h2⟩
theorem RpK.stepT {G G':Hp} {α α':Nat→Addr} {n n':Nat} (g:Same G G') (ha:∀k,k<n→α' k=α k) (hn:n≤n'):∀{kvs:List (List Key×V)} {l:List (List Key×D)},RpK K G α n kvs l→RpK K G' α' n' kvs l
 | _,_,.nil=>.nil
 | _,_,.cons a r=>.cons (a.mono g ha hn) (r.stepT g ha hn)
def dJT:KDT→Addr→Obj→List (List Key×V)→It
 | .keys,d,o,kvs=>Itkt d o kvs
 | .items,d,o,kvs=>ItiT d o kvs
theorem w1q {kd:KDT} {d:Addr} {o:Obj} {kvs:List (List Key×V)} {l:List (List Key×D)} (hd:H d=some (.frz o (.dT kvs))) (r:RpK K S.G S.α s.M.length kvs l):Wk K ct H0 S s.M.length H (dJT kd d o kvs) ⟨dItT kd l,none⟩:=fun S1 s1 σ1 H1 st rel _=>by
 have h1:=st.fz d _ _ hd
 have r1:=r.stepT st.g st.al st.le
 have hlen:=r.len
 cases kd with
 | keys =>
  refine⟨fun i x e=>?_,⟨h1,by show kvs.length≤(l.map _).length;rw[List.length_map];omega⟩⟩
  have e:(l.map fun p=>D.tup (p.1.map kD))[i]? = some x:=e
  rw[List.getElem?_map] at e
  obtain⟨⟨k,y⟩,e1,rfl⟩:=Option.map_eq_some_iff.mp e
  obtain⟨v,e2,e3⟩:=r1.atT e1
  refine⟨⟨h1,(List.getElem?_eq_some_iff.mp e2).1⟩,fun x H2 hy=>?_⟩
  obtain⟨rfl,k',v',q,q1,rfl,hq⟩:=hy
  rw[e2] at q1;cases q1
  obtain⟨S2,st2,rel2,hG⟩:=rel.frzT hq
  exact⟨S2,st2,rel2,.tup hG (z5k k)⟩
 | items =>
  refine⟨fun i x e=>?_,⟨h1,by show kvs.length≤(l.map _).length;rw[List.length_map];omega⟩⟩
  have e:(l.map fun p=>D.tup [.tup (p.1.map kD),p.2])[i]? = some x:=e
  rw[List.getElem?_map] at e
  obtain⟨⟨k,y⟩,e1,rfl⟩:=Option.map_eq_some_iff.mp e
  obtain⟨v,e2,e3⟩:=r1.atT e1
  refine⟨⟨h1,(List.getElem?_eq_some_iff.mp e2).1⟩,fun x H2 hy=>?_⟩
  obtain⟨T,k',v',q,q1,hq,rfl,hT,rfl⟩:=hy
  rw[e2] at q1;cases q1
  obtain⟨S2,st2,rel2,hG⟩:=rel.frzT hq
  obtain⟨S3,st3,rel3,rp3⟩:=q9q rel2 hT (.cons (.tup hG (z5k k)) (.cons (e3.mono st2.g st2.al (Nat.le_refl _)) .nil))
  exact⟨S3,st2.trans st3,rel3,rp3⟩
def dIET:KDT→TE→TI
 | .keys,t=>iKeys t
 | .items,t=>z5z t
theorem j0g {k:Nat} {te:TE} {m:Mo AI} {Q:VK} (h:Ei K ct H0 W te m) (rl:Rel K ct H0 S s σ H) (hk:k<s.M.length) (hm:m s = .ok (.val (.cid k)) s) (q:∀S1 H1,Stp S s.M.length H S1 s.M.length H1→Rel K ct H0 S1 s σ H1→Q (.ref (S.α k)) H1):te σ H Q:=h S s σ H Q rl (by
 rw[hm]
 intro S1 b H1 st rel1 it
 have it:Rp K S1.G S1.α s.M.length b (.cid k):=it
 cases it
 rw[st.al k hk]
 exact q S1 H1 st rel1)
open Classical in
/-- the cell's content is put back behind a walk -/
noncomputable def unl (k:Nat) (c c':Cn):Rs→Rs
 | .nx s=>if s.M[k]? = some c then .nx ⟨s.env,s.M.set k c'⟩ else .no
 | .bk s=>if s.M[k]? = some c then .bk ⟨s.env,s.M.set k c'⟩ else .no
 | .ct s=>if s.M[k]? = some c then .ct ⟨s.env,s.M.set k c'⟩ else .no
 | .rt a s=>if s.M[k]? = some c then .rt a ⟨s.env,s.M.set k c'⟩ else .no
 | _=>.no
open Classical in
noncomputable def j5c (kd:KD) (m:Mo AI) (g:Tg) (b:Ms):Ms:=fun s=>match m s with
 | .ok (.val (.cid k)) _=>(match s.M[k]? with
  | some (.dK l)=>if m ⟨s.env,s.M.set k (.lkK l)⟩ = .ok (.val (.cid k)) ⟨s.env,s.M.set k (.lkK l)⟩ then unl k (.lkK l) (.dK l) (forN g b none (dIt kd l) ⟨s.env,s.M.set k (.lkK l)⟩) else .no
  | _=>.no)
 | _=>.no
open Classical in
noncomputable def z9z (kd:KDT) (m:Mo AI) (g:Tg) (b:Ms):Ms:=fun s=>match m s with
 | .ok (.val (.cid k)) _=>(match s.M[k]? with
  | some (.dT l)=>if m ⟨s.env,s.M.set k (.lkT l)⟩ = .ok (.val (.cid k)) ⟨s.env,s.M.set k (.lkT l)⟩ then unl k (.lkT l) (.dT l) (forN g b none (dItT kd l) ⟨s.env,s.M.set k (.lkT l)⟩) else .no
  | _=>.no)
 | _=>.no
open Classical in
noncomputable def mLcC (kd:KD) (m:Mo AI) (ws:List Nat) (g:Tg) (c:Mo Bool) (e:Mo AI):Mo AI:=fun s=>match m s with
 | .ok (.val (.cid k)) _=>(match s.M[k]? with
  | some (.dK l)=>if m ⟨s.env,s.M.set k (.lkK l)⟩ = .ok (.val (.cid k)) ⟨s.env,s.M.set k (.lkK l)⟩ then(match mLc ws (fun s=>.ok ⟨dIt kd l,none⟩ s) g c e ⟨s.env,s.M.set k (.lkK l)⟩ with
   | .ok a s'=>if s'.M[k]? = some (.lkK l) then .ok a ⟨s'.env,s'.M.set k (.dK l)⟩ else .no
   | _=>.no) else .no
  | _=>.no)
 | _=>.no
open Classical in
noncomputable def z5f (kd:KDT) (m:Mo AI) (ws:List Nat) (g:Tg) (c:Mo Bool) (e:Mo AI):Mo AI:=fun s=>match m s with
 | .ok (.val (.cid k)) _=>(match s.M[k]? with
  | some (.dT l)=>if m ⟨s.env,s.M.set k (.lkT l)⟩ = .ok (.val (.cid k)) ⟨s.env,s.M.set k (.lkT l)⟩ then(match mLc ws (fun s=>.ok ⟨dItT kd l,none⟩ s) g c e ⟨s.env,s.M.set k (.lkT l)⟩ with
   | .ok a s'=>if s'.M[k]? = some (.lkT l) then .ok a ⟨s'.env,s'.M.set k (.dT l)⟩ else .no
   | _=>.no) else .no
  | _=>.no)
 | _=>.no
theorem j3u {kd:KDT} {js ws:List Nat} {g:TG} {tt:TT} {te tx:TE} {m:Mo AI} {f:Tg} {c:Mo Bool} {e:Mo AI} (h:Ei K ct H0 W0 tx m) (hg:Sg K ct H0 js g f) (hjs:∀j∈js,j∈ws) (hc:Et K ct H0 W0 tt c) (he:Ei K ct H0 W0 te e) :
  Ei K ct H0 W (tLockE (tLc (dIET kd tx) g tt te ws)) (z5f kd m ws f c e):=fun S s σ H Q rel p=>by
 unfold z5f at p
 split at p
 ·rename_i k s1 e0
  split at p
  ·rename_i l hk
   split at p
   ·rename_i hm
    obtain⟨h3,kvs,hd,k2,k3⟩:=rel.ids k _ hk
    have hkl:k<s.M.length:=(List.getElem?_eq_some_iff.mp hk).1
    have hlen:(s.M.set k (.lkT l)).length=s.M.length:=List.length_set
    refine⟨S.α k,_,hd,trivial,fun od=>?_⟩
    have rl:Rel K ct H0 S ⟨s.env,s.M.set k (.lkT l)⟩ σ (upd H (S.α k) (.frz od (.dT kvs))):=rel.setCell hk (fun _ z=>by cases z) ⟨kvs,⟨od,upd_same⟩,k2,k3⟩
    have rk:RpK K S.G S.α (s.M.set k (.lkT l)).length kvs l:=by rw[hlen];exact RpK.of k2 k3
    have hkl2:k<(s.M.set k (.lkT l)).length:=by rw[hlen];exact hkl
    generalize hs0:(⟨s.env,s.M.set k (.lkT l)⟩:Stt)=s0 at hm p rl
    have hM0:s0.M=s.M.set k (.lkT l):=by rw[←hs0]
    rw[←hM0] at rk hkl2 hlen
    refine q9y (K:=K) (ct:=ct) (H0:=H0) (W:=W0) (S:=S) (s:=s0) (mi:=fun s=>.ok ⟨dItT kd l,none⟩ s) (fun R q=>?_) hg hjs hc he ?_
    ·have q:∀S' H',Stp S s0.M.length (upd H (S.α k) (.frz od (.dT kvs))) S' s0.M.length H'→Rel K ct H0 S' s0 σ H'→R (dJT kd (S.α k) od kvs) H':=fun S' H' st r' =>
      q S' _ H' st r' (w1q (st.fz _ _ _ upd_same) (rk.stepT st.g st.al (Nat.le_refl _)))
     cases kd with
     | keys=>exact j0g h rl hkl2 hm fun S1 H1 st r1=>⟨_,od,rfl,.inr ⟨kvs,st.fz _ _ _ upd_same,q S1 H1 st r1⟩⟩
     | items=>exact j0g h rl hkl2 hm fun S1 H1 st r1=>⟨_,od,kvs,rfl,st.fz _ _ _ upd_same,q S1 H1 st r1⟩
    ·generalize mLc ws (fun s=>.ok ⟨dItT kd l,none⟩ s) f c e s0=R at p
     have hne:∀x s',R = .er x s'→False:=fun x s' z=>by subst z;exact p
     cases R with
     | no=>exact p
     | er x s'=>exact(hne x s' rfl).elim
     | ok a s' =>
      intro S' b H' st rel' it
      simp only[] at p
      split at p
      ·rename_i hk'
       have hal:=st.al k hkl2
       have hz:=st.fz _ _ _ (upd_same:upd H (S.α k) (.frz od (.dT kvs)) (S.α k)=_)
       have hl:=(rel'.ids k _ hk').1
       have k3':RpL K S'.G S'.α s'.M.length (kvs.map Prod.snd) (l.map Prod.snd):=k3.mono st.g (fun j hj=>st.al j (by rw[hlen];exact hj)) (by have:=st.le;rw[hlen] at this;exact this)
       have st0:=Stp.lockd hd st
       rw[hlen] at st0
       have r2:=rel'.setCell (c':=.dT l) (o:=.dT kvs) hk' (fun _ z=>by cases z) ⟨kvs,upd_same,k2,k3'⟩
       rw[hal] at hl r2
       refine⟨hz,p S' b _ (by rw[List.length_set];exact st0) r2 ?_⟩
       cases a with
       | val x=>show Rp K S'.G S'.α (s'.M.set k _).length b x;rw[List.length_set];exact it
       | slot j=>exact it
       | new c' =>
        obtain⟨pp,rfl,i1,i2,i3,i4,i5⟩:=it
        have ne:pp≠S.α k:=fun z=>by subst z;rw[hl] at i2;cases i2
        refine⟨pp,rfl,(q1a.mp i1).2,i2,i3,i4,i5.mono (fun _ _ e=>e) (fun _ _=>rfl) (by rw[List.length_set];exact Nat.le_refl _) (fun o e=>by rw[upd_ne ne];exact e)⟩
      ·exact False.elim p
   ·exact False.elim p
  ·exact False.elim p
 ·exact False.elim p
def Olk (k:Nat) (c c':Cn) (O:Rs→Prop):Rs→Prop
 | .rt a s=>s.M[k]? = some c∧O (.rt a ⟨s.env,s.M.set k c'⟩)
 | .bk s=>s.M[k]? = some c∧O (.bk ⟨s.env,s.M.set k c'⟩)
 | .ct s=>s.M[k]? = some c∧O (.ct ⟨s.env,s.M.set k c'⟩)
 | _=>False
theorem j0i {k:Nat} {c c':Cn} {N:Stt→Prop} {O:Rs→Prop} {r:Rs} (h:Ws (fun s'=>s'.M[k]? = some c∧N ⟨s'.env,s'.M.set k c'⟩) (Olk k c c' O) r):Ws N O (unl k c c' r):=by
 cases r with
 | nx s=>obtain⟨h1,h2⟩:=(show s.M[k]? = some c∧_ from h);simp only[unl];rw[if_pos h1];exact h2
 | bk s=>obtain⟨h1,h2⟩:=(show s.M[k]? = some c∧_ from h);simp only[unl];rw[if_pos h1];exact h2
 | ct s=>obtain⟨h1,h2⟩:=(show s.M[k]? = some c∧_ from h);simp only[unl];rw[if_pos h1];exact h2
 | rt a s=>obtain⟨h1,h2⟩:=(show s.M[k]? = some c∧_ from h);simp only[unl];rw[if_pos h1];exact h2
 | er x s=>exact(show False from h).elim
 | no=>exact(show False from h).elim
theorem j8s {kd:KD} {m:Mo AI} {g:Tg} {b:Ms} {N:Stt→Prop} {O:Rs→Prop} (h:Wo (fun a _=>∃k l,a = .val (.cid k)∧s.M[k]? = some (.dK l)∧Wo (fun a2 s2=>(a2 = .val (.cid k)∧s2=⟨s.env,s.M.set k (.lkK l)⟩)∧Ws (fun s'=>s'.M[k]? = some (.lkK l)∧N ⟨s'.env,s'.M.set k (.dK l)⟩) (Olk k (.lkK l) (.dK l) O) (forN g b none (dIt kd l) ⟨s.env,s.M.set k (.lkK l)⟩)) Xf (m ⟨s.env,s.M.set k (.lkK l)⟩)) Xf (m s)):Ws N O (j5c kd m g b s):=by
 unfold j5c
 cases e:m s with
 | no=>rw[e] at h;exact h.elim
 | er x s1=>rw[e] at h;exact h.elim
 | ok a s1 =>
  rw[e] at h
  obtain⟨k,l,rfl,hk,h⟩:=h
  simp only[]
  rw[hk]
  simp only[]
  cases e2:m ⟨s.env,s.M.set k (.lkK l)⟩ with
  | no=>rw[e2] at h;exact h.elim
  | er x s2=>rw[e2] at h;exact h.elim
  | ok a2 s2 =>
   rw[e2] at h
   obtain⟨⟨rfl,rfl⟩,h⟩:=h
   rw[if_pos rfl]
   exact j0i h
theorem w1m {kd:KD} {m:Mo AI} {ws:List Nat} {g:Tg} {c:Mo Bool} {e:Mo AI} {QA:AI→Stt→Prop} {X:Exn→Stt→Prop} (h:Wo (fun a _=>∃k l,a = .val (.cid k)∧s.M[k]? = some (.dK l)∧Wo (fun a2 s2=>(a2 = .val (.cid k)∧s2=⟨s.env,s.M.set k (.lkK l)⟩)∧∃l2 s3,lcN ws g c (mV e) none (dIt kd l) [] (q2a ws ⟨s.env,s.M.set k (.lkK l)⟩) = .ok l2 s3∧s3.M[k]? = some (.lkK l)∧QA (.new (.lst l2)) ⟨Y.rest s.env s3.env ws,s3.M.set k (.dK l)⟩) Xf (m ⟨s.env,s.M.set k (.lkK l)⟩)) Xf (m s)):Wo QA X (mLcC kd m ws g c e s):=by
 unfold mLcC
 cases e0:m s with
 | no=>rw[e0] at h;exact h.elim
 | er x s1=>rw[e0] at h;exact h.elim
 | ok a s1 =>
  rw[e0] at h
  obtain⟨k,l,rfl,hk,h⟩:=h
  simp only[]
  rw[hk]
  simp only[]
  cases e2:m ⟨s.env,s.M.set k (.lkK l)⟩ with
  | no=>rw[e2] at h;exact h.elim
  | er x s2=>rw[e2] at h;exact h.elim
  | ok a2 s2 =>
   rw[e2] at h
   obtain⟨⟨rfl,rfl⟩,l2,s3,h1,h2,h3⟩:=h
   rw[if_pos rfl]
   have e4:mLc ws (fun s=>.ok ⟨dIt kd l,none⟩ s) g c e ⟨s.env,s.M.set k (.lkK l)⟩ = .ok (.new (.lst l2)) ⟨Y.rest s.env s3.env ws,s3.M⟩:=by
    show(match lcN ws g c (mV e) none (dIt kd l) [] (q2a ws ⟨s.env,s.M.set k (.lkK l)⟩) with|.ok l s2=>Ro.ok (AI.new (.lst l)) ⟨Y.rest s.env s2.env ws,s2.M⟩|_=>.no)=_
    rw[h1]
   rw[e4]
   simp only[]
   rw[if_pos h2]
   exact h3
theorem j4g {kd:KDT} {m:Mo AI} {g:Tg} {b:Ms} {N:Stt→Prop} {O:Rs→Prop} (h:Wo (fun a _=>∃k l,a = .val (.cid k)∧s.M[k]? = some (.dT l)∧Wo (fun a2 s2=>(a2 = .val (.cid k)∧s2=⟨s.env,s.M.set k (.lkT l)⟩)∧Ws (fun s'=>s'.M[k]? = some (.lkT l)∧N ⟨s'.env,s'.M.set k (.dT l)⟩) (Olk k (.lkT l) (.dT l) O) (forN g b none (dItT kd l) ⟨s.env,s.M.set k (.lkT l)⟩)) Xf (m ⟨s.env,s.M.set k (.lkT l)⟩)) Xf (m s)):Ws N O (z9z kd m g b s):=by
 unfold z9z
 cases e:m s with
 | no=>rw[e] at h;exact h.elim
 | er x s1=>rw[e] at h;exact h.elim
 | ok a s1 =>
  rw[e] at h
  obtain⟨k,l,rfl,hk,h⟩:=h
  simp only[]
  rw[hk]
  simp only[]
  cases e2:m ⟨s.env,s.M.set k (.lkT l)⟩ with
  | no=>rw[e2] at h;exact h.elim
  | er x s2=>rw[e2] at h;exact h.elim
  | ok a2 s2 =>
   rw[e2] at h
   obtain⟨⟨rfl,rfl⟩,h⟩:=h
   rw[if_pos rfl]
   exact j0i h
theorem j6j {kd:KDT} {m:Mo AI} {ws:List Nat} {g:Tg} {c:Mo Bool} {e:Mo AI} {QA:AI→Stt→Prop} {X:Exn→Stt→Prop} (h:Wo (fun a _=>∃k l,a = .val (.cid k)∧s.M[k]? = some (.dT l)∧Wo (fun a2 s2=>(a2 = .val (.cid k)∧s2=⟨s.env,s.M.set k (.lkT l)⟩)∧∃l2 s3,lcN ws g c (mV e) none (dItT kd l) [] (q2a ws ⟨s.env,s.M.set k (.lkT l)⟩) = .ok l2 s3∧s3.M[k]? = some (.lkT l)∧QA (.new (.lst l2)) ⟨Y.rest s.env s3.env ws,s3.M.set k (.dT l)⟩) Xf (m ⟨s.env,s.M.set k (.lkT l)⟩)) Xf (m s)):Wo QA X (z5f kd m ws g c e s):=by
 unfold z5f
 cases e0:m s with
 | no=>rw[e0] at h;exact h.elim
 | er x s1=>rw[e0] at h;exact h.elim
 | ok a s1 =>
  rw[e0] at h
  obtain⟨k,l,rfl,hk,h⟩:=h
  simp only[]
  rw[hk]
  simp only[]
  cases e2:m ⟨s.env,s.M.set k (.lkT l)⟩ with
  | no=>rw[e2] at h;exact h.elim
  | er x s2=>rw[e2] at h;exact h.elim
  | ok a2 s2 =>
   rw[e2] at h
   obtain⟨⟨rfl,rfl⟩,l2,s3,h1,h2,h3⟩:=h
   rw[if_pos rfl]
   have e4:mLc ws (fun s=>.ok ⟨dItT kd l,none⟩ s) g c e ⟨s.env,s.M.set k (.lkT l)⟩ = .ok (.new (.lst l2)) ⟨Y.rest s.env s3.env ws,s3.M⟩:=by
    show(match lcN ws g c (mV e) none (dItT kd l) [] (q2a ws ⟨s.env,s.M.set k (.lkT l)⟩) with|.ok l s2=>Ro.ok (AI.new (.lst l)) ⟨Y.rest s.env s2.env ws,s2.M⟩|_=>.no)=_
    rw[h1]
   rw[e4]
   simp only[]
   rw[if_pos h2]
   exact h3
end
end Y
namespace Y
open PySem L2 Z PySem.Spec PyProof.Rows
section
variable {X:Cx} {pins:List (Addr×Obj)} {σ:L2.St} {H:Hp} {s:Shared} {d:Addr} {o:Obj}
theorem j3c {kvs:List (List Key×V)} (I:Inv X pins σ H s) (h:H d=some (.frz o (.dT kvs))) :
  (d==sysModules)=false∧s.heap.get? d=some o∧o.ExactDict∧∃(es:Array DictEntry) (ep:Nat),o.data = .dict es ep∧es.size=kvs.length ∧
   ∀(i:Nat) (k:List Key) (v:V),kvs[i]? = some (k,v)→∃(en:DictEntry) (q:Addr),es[i]? = some en∧en.key = .ref q∧H q=some (.tup (k.map kV))∧RelV v en.val:=by
 obtain⟨hd,z,hs,xs,pr,o',es,ep,ho,hx,hdt,he,_⟩:=I.hok d _ h
 rw[hd] at ho
 cases ho
 refine⟨hs,hd,hx,es,ep,hdt,?_,fun i k v e=>?_⟩
 ·have l1:es.size=xs.length:=size_of_entries he
  have l2:kvs.length=xs.length:=Paired.length pr
  omega
 ·obtain⟨b,hb,e1,e2,e3⟩:=paired_get pr e
  have q:=entry_at he i
  rw[hb] at q
  exact⟨_,b.2.1,q,rfl,e2,e3⟩
end
section
variable {P:Program} {w:World} {K:PySem.W.Frag} {d:Addr} {o:Obj} {es:Array DictEntry} {ep:Nat}
theorem z1i {kvs:List (List Key×V)} {elts:List Expr} {kk:Nat} {tpos:Pos} (it:Addr) (hod:o.data = .dict es ep) :
  Turn P w K (.Tuple elts kk tpos) (ItiT d o kvs) [it] it (fun i h=>∃ok ov,IsItemIter h it d i kvs.length ep ok ov) where
 mem:=by simp
 obj:=fun i h st b hb=>by
  have e:b=it:=by simpa using hb
  subst e
  obtain⟨ok,ov,e⟩:=st
  exact⟨_,e,fun v z=>nomatch z⟩
 keep:=fun i h h' st k=>let⟨ok,ov,e⟩:=st;⟨ok,ov,k it (by simp) _ e⟩
 item:=by
  intro X hP hw hK hc i pins s σ H E I hf st hg
  subst hP hw hK
  obtain⟨hd,hi⟩:=hg
  obtain⟨hs,hgd,hx,es',ep',hdt,hsz,ent⟩:=j3c I hd
  obtain⟨rfl,rfl⟩:=dict_ep hod hdt
  obtain⟨⟨k,v⟩,hkv⟩:∃p,kvs[i]? = some p:=⟨kvs[i],List.getElem?_eq_getElem hi⟩
  obtain⟨en,q,hen,hkey,hq,rv⟩:=ent i k v hkv
  obtain⟨ok,ov,he⟩:=st
  rw[←hsz] at he
  have hie:i<es'.size:=by omega
  have hen2:es'[i]=en:=by
   rw[Array.getElem?_eq_getElem hie] at hen
   exact Option.some.inj hen
  have hlt:it<s.heap.objs.size:=Heap.lt_size he
  have hm:s.heap.DictRaw d es' ep':=⟨o,hgd,hx,hdt⟩
  refine wpAny_pyNext_items_item_raw he hm hie fun h' ho hT hz hk=>?_
  rw[hen2,hkey] at ho hT
  refine⟨_,rfl,wpAny_letOwnedTupleGo_items (s:={ s with heap:=h' }) ho fun h'' he' sb=>?_⟩
  have hT2:h''.get? s.heap.objs.size=some { cls:=.type "tuple",data:=.seq #[.ref q,en.val] }:=(sb.2 _ (Nat.ne_of_gt hlt)).trans hT
  have new:ObjOk X.prog X.w (upd H s.heap.objs.size (.tup [.ref q,v])) h'' s.heap.objs.size (.tup [.ref q,v]) :=
   ⟨by show 2≤sizeLine;decide,[.ref q,en.val],.cons rfl (.cons rv .nil),⟨_,hT2,rfl,_,rfl⟩⟩
  have I1:Inv X pins σ (upd H s.heap.objs.size (.tup [.ref q,v])) { s with heap:=h'' } :=
   I.turnedNew (t':=s.toks) (ch:=[it]) (fun b ob hb e=>(sb.2 b (by simpa using hb)).trans (hk b ob (by simpa using hb) e)) hf (Nat.le_refl _) new
  refine⟨.ref s.heap.objs.size,_,I1,rfl,⟨_,k,v,q,hkv,hq,rfl,I.hok.fresh (Nat.le_refl _),rfl⟩,⟨.ref q,en.val,?_⟩,fun b hb=>?_⟩
  ·rw[←hsz];exact he'
  ·have e:b=it:=by simpa using hb
   rw[e,upd_ne (Nat.ne_of_lt hlt)]
   exact(hf it (by simp)).1
 done:=by
  intro X hP hw hK hc i pins s σ H E I hf st hg
  subst hP hw hK
  obtain⟨hd,hi⟩:=hg
  obtain⟨f0,f1,f2,f3,f4,f5⟩:=hf it (by simp)
  obtain⟨hs,hgd,hx,es',ep',hdt,hsz,ent⟩:=j3c I hd
  obtain⟨rfl,rfl⟩:=dict_ep hod hdt
  obtain⟨ok,ov,he⟩:=st
  rw[←hsz] at he
  have hm:s.heap.DictRaw d es' ep':=⟨o,hgd,hx,hdt⟩
  exact wpAny_pyNext_items_end_raw (I.ok.hd hc) he hm (by omega) fun h' eb=>⟨rfl,I.turned (t':=s.toks) (fun b ob hb e=>eb b ob hb e) f0 f1 f3 f4 f5⟩
 self:=fun A i s Q E st h=>let⟨_,_,e⟩:=st;PySem.W.kcp_self e h
end
section
variable {X:Cx} {e:Expr} {td:TE} {apos cpos:Pos}
theorem z6k {elts:List Expr} {kk:Nat} {tpos:Pos} (he:PE X e td) (hbase:attributeBase e "items" X.env (eval e X.env)=eval e X.env:=by rfl) (hline:(apos.endLine==cpos.line)=true:=by rfl) :
  PI X (.Tuple elts kk tpos) (.Call (.Attribute e "items" apos) [] [] cpos) (z5z td):=by
 refine⟨fun pins s σ H R I h=>?_⟩
 refine wpAny_Call_method (T := "dict") (id := "dict.items") hbase rfl hline PySem.F.plainAttrs_dict PySem.F.slot_dict_items PySem.F.type_dict_items (thn (he.run pins s σ H _ I h) fun u s1 ⟨x,H1,I1,rx,d,o,kvs,ex,hd,q⟩=>?_)
 subst ex
 obtain rfl:u=Value.ref d:=rx
 obtain⟨hs,hgd,hx,es,ep,hdt,hsz,ent⟩:=j3c I1 hd
 have hm:s1.heap.DictRaw d es ep:=⟨o,hgd,hx,hdt⟩
 refine⟨hm.typeIs,(fun b q=>by cases q;exact⟨o,hgd,hx.2.1⟩),?_⟩
 have I2:Inv X pins σ H1 { s1 with heap:=s1.heap.push { cls:=.type "dict_items",data:=.fields #[.ref d] } }:=I1.kept (t':=s1.toks) fun b ob q=>Heap.get?_push_of_some _ q
 have hm2:(s1.heap.push { cls:=.type "dict_items",data:=.fields #[.ref d] }).DictRaw d es ep:=⟨o,Heap.get?_push_of_some _ hgd,hx,hdt⟩
 have fin:wpAny (model X.prog X.w) X.A (pyIter (.ref s1.heap.objs.size)) (PIE X pins σ (.Tuple elts kk tpos) R) X.xe { s1 with heap:=s1.heap.push { cls:=.type "dict_items",data:=.fields #[.ref d] } }:=by
  refine wpAny_pyIter_items_raw (d:=d) ⟨_,Heap.get?_push_size _ rfl,rfl,rfl⟩ hm2 (pi_one (tk:=s1.toks) I2 _ (z1i _ hdt) ⟨.none,.none,?_⟩ q)
  rw[←hsz]
  exact Heap.get?_push_size _ rfl
 show wpAny _ _ (callWith cpos (.builtin "dict.items") [.ref d] [] []) _ X.xe s1
 exact method_meetsIn PySem.F.slot_dict_items PySem.F.entry_dict_items rfl (PySem.evalArgs_none ⟨rfl,hm.typeIs,PySem.F.args_dict_items_1 _,_,meets_dict_items_raw d hs,⟨⟨es,ep,hm⟩,fin⟩⟩)
end
section
variable {K:PySem.W.Frag} {ct:Ct} {H0:Hp} {W:WX}
def w0t (mo mi:Mo AI):Mo AI:=fun s=>(mo s).bind fun a s1=>match q3x s1 a with
 | some _=>(mV mi s1).bind fun i s2=>match getC s2 a,tkey i with
  | some (.dT l),some k=>(match vl l k with
   | some d=>.ok (.val d) (setC s2 a (.dT (dr l k)))
   | none=>.no)
  | _,_=>.no
 | none=>.no
theorem j5u {s:Stt} {X:Exn→Stt→Prop} {QA:AI→Stt→Prop} {m1 m2:Mo AI} (h:Wo (fun a s1=>(∃l,q3x s1 a=some l)∧Wo (fun i s2=>∃l k d,getC s2 a=some (.dT l)∧tkey i=some k∧vl l k=some d∧QA (.val d) (setC s2 a (.dT (dr l k)))) X (mV m2 s1)) X (m1 s)):Wo QA X (w0t m1 m2 s):=by
 refine q0g (q0e h fun a s1 h=>?_)
 obtain⟨⟨l0,e0⟩,h⟩:=h
 rw[e0]
 refine q0g (q0e h fun i s2 h=>?_)
 obtain⟨l,k,d,e1,e2,e3,h⟩:=h
 rw[e1,e2]
 simp only[]
 rw[e3]
 exact h
end
end Y
namespace Y
open PySem L2 Z PySem.Spec PyProof.Rows
theorem u2 {A:Around} {k:Nat} (hr:Room k A):A.units+2<cLine:=by have:=hr.un;omega
def q5b (kvs more:List (List Key×V)):List (List Key×V):=more.foldl (fun acc kv=>putK acc kv.1 kv.2) kvs
theorem z0a {H:Hp}:∀{more:List (List Key×V)} {rs:List (List Key×Addr×Value)} {kvs:List (List Key×V)} {xs:List (List Key×Addr×Value)},L2.KT H more rs→L2.KT H kvs xs→L2.KT H (q5b kvs more) (storedAllH xs rs)
 | _,_,_,_,.nil,h=>h
 | _,_,kvs,xs,.cons (a:=p) (b:=q) (l₁:=ps) (l₂:=qs) h t,r0=>by
  have e:L2.KT H (putK kvs p.1 p.2) (storedH xs q.1 q.2.1 q.2.2):=by
   have:=r0.put p.1 h.2.1 h.2.2
   rw[←h.1];exact this
  exact z0a (more:=ps) (rs:=qs) (show L2.KT H ps qs from t) e
theorem q4p:∀(more kvs:List (List Key×V)),(q5b kvs more).length≤kvs.length+more.length
 | [],kvs=>by show kvs.length≤kvs.length+0;omega
 | p::r,kvs=>by
  have h1:=q4p r (putK kvs p.1 p.2)
  have h2:=length_putK kvs p.1 p.2
  show(q5b (putK kvs p.1 p.2) r).length≤_
  rw[List.length_cons];omega
/-- the pairs of a display whose keys are tuples -/
def PsT (H:Hp) (ps:List (V×V)) (kvs:List (List Key×V)):Prop:=Paired (fun p kv=>∃b,p.1=V.ref b∧H b=some (.tup (kv.1.map kV))∧p.2=kv.2) ps kvs
section
variable {X:Cx} {pins:List (Addr×Obj)} {σ:L2.St} {H:Hp} {s:Shared}
theorem q7u (I:Inv X pins σ H s):∀{ps:List (V×V)} {kvs:List (List Key×V)} {ws:List (Value×Value)},PsT H ps kvs→VV ps ws→∃rs,CarriesH (tupleKind (mixKind X.prog X.w)) s.heap ws rs∧L2.KT H kvs rs
 | _,_,_,.nil,.nil=>⟨[],trivial,.nil⟩
 | _,_,_,.cons (a:=p) (b:=kv) h t,.cons (b:=w) hw tw=>by
  obtain⟨rs,c,q⟩:=q7u I t tw
  obtain⟨b,e1,e2,e3⟩:=h
  obtain⟨w1,w2⟩:=w
  obtain⟨r1,r2⟩:=hw
  rw[e1] at r1
  rw[e3] at r2
  cases(show w1=Value.ref b from r1)
  exact⟨(kv.1,b,w2)::rs,⟨rfl,rfl,key_of I.hok e2,c⟩,.cons ⟨rfl,e2,r2⟩ q⟩
end
section
variable {prog:Program} {w:World} {K:Type} [DecidableEq K] {knd:HeapKind prog w K} {A:Around} {E:Value→Shared→Prop} {s:Shared}
theorem z3o {env:Env} {keys:List (Option Expr)} {values:List Expr} {pos:Pos} {Q:Value→Shared→Prop} (hu:knd.room A)
  (hall:keys.all (·.isSome)=true) (hl:keys.length=values.length) (h0:keys≠[]) (hlen:keys.length≤15)
  (h:wpAny (model prog w) A (evalPairs (pairTrees keys values env pos)) (fun vs s₁=>∃ps,CarriesH knd s₁.heap vs ps∧s₁.heap.DictOfH knd s.heap.objs.size [] ∧
   ∀h' tk,h'.DictOfH knd s.heap.objs.size (storedAllH [] ps)→Heap.SameBut s.heap.objs.size s₁.heap h'→Q (.ref s.heap.objs.size) { s₁ with heap:=h',toks:=tk }) E
   { s with heap:=s.heap.push { cls:=.type "dict",data:=.dict #[] } }) :
  wpAny (model prog w) A (eval (.Dict keys values pos) env) Q E s:=by
 have hn:=pairTrees_length keys values env pos hall hl
 have hne:pairTrees keys values env pos≠[]:=fun he=>by
  rw[he] at hn
  exact h0 (List.length_eq_zero_iff.mp hn.symm)
 rw[arm_eval_Dict,zip_pairTrees keys values env pos hall hl,dictDisplay_pairs _ hne (by omega)]
 exact wpAny_bind (wpAny_standAt (wpAny_bind (wpAny_subDictH (knd:=knd) (Q:=fun d s'=>wpAny (model prog w) A (pure (Value.ref d)) Q E s') hu (by omega)
  (wpAny_mono h (fun vs s₁ h₁=>by obtain⟨ps,hc,hm,hq⟩:=h₁;exact⟨ps,hc,hm,fun h' tk a b=>wpAny_pure (hq h' tk a b)⟩) fun _ _ e=>e))))
end
/-- {(k, l): v, ..}; the new dict stands empty while the pairs are made -/
def z9x (trs:List (TE×TE)):TE:=fun σ H Q=>∀p,H p=none→tPairs trs σ (upd H p (.dT [])) fun ps H2=>H2 p=some (.dT [])∧∃kvs:List (List Key×V),PsT H2 ps kvs∧kvs.length≤15∧Q (.ref p) (upd H2 p (.dT (q5b [] kvs)))
theorem z9e {X:Cx} {pos:Pos} {keys:List (Option Expr)} {values:List Expr} {trs:List (TE×TE)} (hu:X.A.units+1<cLine) (h:PPs X pos keys values trs) (hall:keys.all (·.isSome)=true) (hl:keys.length=values.length) (h0:keys≠[])
  (h15:keys.length≤15):PE X (.Dict keys values pos) (z9x trs):=by
 refine⟨fun pins s σ H Q I q=>?_⟩
 have hn:=I.hok.fresh (Nat.le_refl s.heap.objs.size)
 have I1:=I.laid (a:=s.heap.objs.size) (o:=.dT []) (h':=s.heap.push { cls:=.type "dict",data:=.dict #[] }) (t':=s.toks) (fun _ _ q=>Heap.get?_push_of_some _ q) (Nat.le_refl _) (dt_empty s.heap I.big)
 refine z3o (knd:=tupleKind (mixKind X.prog X.w)) (show X.A.units<cLine by omega) hall hl h0 h15 (thn (h.run pins _ σ _ _ I1 (q _ hn)) fun ws s2 ⟨ps,H2,I2,rel,e,kvs,ep,lk,q2⟩=>?_)
 obtain⟨rs,c,rk⟩:=q7u I2 ep rel
 obtain⟨z,hd,vs0,r0,dd⟩:=dt_of I2.hok e
 cases r0
 refine⟨rs,c,dd,fun h' tk dd' hs=>⟨.ref s.heap.objs.size,_,?_,rfl,q2⟩⟩
 have hz:(q5b [] kvs).length≤sizeLine:=by
  have h1:=q4p kvs []
  rw[List.length_nil] at h1
  rw[sizeLine_eq];omega
 obtain⟨o,es,ep,hq,h2,h3,h4,_,h5⟩:=dd'
 exact d_write I2 (by rw[e];exact True.intro) hs ⟨o,hq⟩ ⟨hz,hd,_,(z0a rk .nil).keeps (fun c ys ec=>(by rw[upd_ne (ne_of ec e (fun z=>nomatch z))];exact ec)),o,es,ep,hq,h2,h3,h4,h5⟩
def PrT (K:PySem.W.Frag) (H:Hp) (ps:List Addr) (kvs:List (List Key×V)):Prop:=Paired (fun p kv=>∃b,SqT K H p [.ref b,kv.2]∧H b=some (.tup (kv.1.map kV))) ps kvs
def z4w (K:PySem.W.Frag):List V→Hp→VK→Prop:=fun xs H Q=>∃(a:Addr) (ps:List Addr) (kvs:List (List Key×V)),xs=[.ref a]∧SqL K H a (ps.map V.ref)∧PrT K H ps kvs∧∀p,H p=none→Q (.ref p) (upd H p (.dT (q5b [] kvs)))
section
variable {X:Cx}
theorem z0j {pins:List (Addr×Obj)} {σ:L2.St} {H:Hp} {s:Shared} (I:Inv X pins σ H s):∀{ps:List Addr} {kvs:List (List Key×V)},PrT X.K H ps kvs →
  ∃prs:List (List Key×Addr×Value),L2.KT H kvs prs∧prs.length=ps.length∧∀(j:Nat) (q:List Key×Addr×Value),prs[j]? = some q→∃b:Addr,ps[j]? = some b∧s.heap.IsTuple b #[.ref q.2.1,q.2.2]∧(tupleKind (mixKind X.prog X.w)).is s.heap q.1 q.2.1
 | _,_,.nil=>⟨[],.nil,rfl,fun j q e=>by simp at e⟩
 | _,_,.cons (a:=p) (b:=kv) h t=>by
  obtain⟨prs,r,hl,hp⟩:=z0j I t
  obtain⟨b,h,hb⟩:=h
  obtain⟨its,rv,ht,_⟩:=I.tuple h
  obtain⟨u,y,ei,ru,ry⟩:=vals2 rv
  subst ei
  cases(show u=Value.ref b from ru)
  refine⟨(kv.1,b,y)::prs,.cons ⟨rfl,hb,ry⟩ r,by rw[List.length_cons,List.length_cons,hl],fun j q e=>?_⟩
  cases j with
  | zero =>
   have e':(kv.1,b,y)=q:=Option.some.inj e
   subst e'
   exact⟨p,rfl,ht,key_of I.hok hb⟩
  | succ j =>
   obtain⟨b,e1,e2,e3⟩:=hp j q (by simpa using e)
   exact⟨b,by simpa using e1,e2,e3⟩
theorem z3r (hcalm:X.calm=true) (hu:X.A.units+2<cLine):CallR X (.type "dict") (z4w X.K):=by
 intro pins s σ H xs us Q I r q
 obtain⟨a,ps,kvs,ex,hq,hp,q⟩:=q
 subst ex
 obtain⟨u,eu,rx⟩:=vals1 r
 subst eu
 cases rx
 obtain⟨its,rv,pl,hz⟩:=I.list hq
 have ei:=refs_at rv
 subst ei
 rw[List.length_map] at hz
 obtain⟨prs,rel,hl,hpr⟩:=z0j I hp
 obtain⟨o,n,ho,hc,hd,hdat⟩:=pl
 have hlt:∀{b:Addr} {o:Obj},s.heap.get? b=some o→b≠s.heap.objs.size:=fun e=>Nat.ne_of_lt (Heap.lt_size e)
 refine call_dict_pairsH (knd:=tupleKind (mixKind X.prog X.w)) (ps:=prs) (PairArg.list a (ps.map Value.ref).toArray (fun j=>(ps[j]?).getD 0) (prs.map fun q=>(.ref q.2.1,q.2.2))) (I.ok.hd hcalm) (show X.A.units+2<cLine from hu) ⟨⟨o,n,ho,hc,hd,hdat⟩,by simp[hl],fun j k v e=>?_⟩ ⟨by simp,fun i key v e=>?_⟩ (fun h' hk x hx=>?_) (by rw[List.length_map,hl];exact hz) fun h' tk dd' k=>?_
 ·rw[List.getElem?_map] at e
  obtain⟨q,e1,e2⟩:=Option.map_eq_some_iff.mp e
  cases e2
  obtain⟨b,g1,g2,_⟩:=hpr j q e1
  refine⟨?_,?_⟩
  ·simp[g1]
  ·show PairAt s.heap ((ps[j]?).getD 0) _ _
   rw[g1];exact .inl g2
 ·have e:(prs.map fun q=>((Value.ref q.2.1,q.2.2):Value×Value))[i]? = some (key,v):=e
  rw[List.getElem?_map] at e
  obtain⟨q,e1,e2⟩:=Option.map_eq_some_iff.mp e
  cases e2
  exact⟨q.1,q.2.1,e1,rfl⟩
 ·obtain⟨j,hj⟩:=List.getElem?_of_mem hx
  obtain⟨b,_,_,o2,its,n2,g1,g2⟩:=hpr j x hj
  exact⟨o2,its,n2,hk _ _ (hlt g1) (by simp) g1,g2⟩
 ·have hm:(s.heap.objs.size==sysModules)=false:=beq_eq_false_iff_ne.mpr (Nat.ne_of_gt I.big)
  have hf:=I.hok.fresh (Nat.le_refl s.heap.objs.size)
  have hlen:(q5b [] kvs).length≤sizeLine:=by
   refine Nat.le_trans (q4p kvs []) ?_
   rw[List.length_nil,Nat.zero_add,rel.length,hl]
   exact hz
  obtain⟨o,es,ep,hq,h2,h3,h4,_,h5⟩:=dd'
  refine⟨.ref s.heap.objs.size,upd H s.heap.objs.size (.dT (q5b [] kvs)),I.laid (t':=tk) (fun b o e=>k b o (by simp) e) (Nat.le_refl _) ⟨hlen,hm,_,(z0a rel .nil).keeps (fun c ys ec=>(by rw[upd_ne (fun z=>by subst z;rw[hf] at ec;cases ec)];exact ec)),o,es,ep,hq,h2,h3,h4,h5⟩,rfl,q _ hf⟩
theorem z1s {K:PySem.W.Frag} (hK:X.K=K) (hc:X.calm=true) (hu:X.A.units+2<cLine):CallR X (.type "dict") (z4w K):=by subst hK;exact z3r hc hu
end
section
variable {K:PySem.W.Frag} {ct:Ct} {H0:Hp} {W:WX}
def z1q (mk mv:Mo AI) (r:Mo (List (D×D))):Mo (List (D×D)):=fun s=>(mV mk s).bind fun a s1=>(mK mv s1).bind fun b s2=>(r s2).bind fun l s3=>.ok ((a,b)::l) s3
theorem z7h {tk tv:TE} {tr:List (TE×TE)} {mk mv:Mo AI} {r:Mo (List (D×D))} (h1:Ei K ct H0 W tk mk) (h2:Ei K ct H0 W tv mv) (h3:Ekv K ct H0 W tr r):Ekv K ct H0 W ((tk,tv)::tr) (z1q mk mv r):=fun S s σ H Q rel p =>
 q4k h1 S s σ H _ rel (Pst.bind bKV p fun S1 s1 H1 x a st1 rel1 i1 p1=>j9h h2 S1 s1 σ H1 _ rel1 (Pst.bind bKV p1 fun S2 s2 H2 y b st2 rel2 i2 p2=>h3 S2 s2 σ H2 _ rel2 (Pst.bind bKV p2 fun S3 s3 H3 z l st3 rel3 i3 p3 =>
  p3 S3 ((x,y)::z) H3 .refl rel3 ⟨.cons (Rp.step (st2.trans st3) i1) i3.1,.cons (Rp.step st3 i2) i3.2⟩)))
def q6y:List (D×D)→Option (List (List Key×D))
 | []=>some []
 | (k,d)::l=>(tkey k).bind fun k'=>(q6y l).map ((k',d)::·)
theorem q8q {S:Sh} {s:Stt} {σ:L2.St} {H:Hp} {n:Nat} (rel:Rel K ct H0 S s σ H):∀{l:List (D×D)} {ps:List (V×V)} {kl:List (List Key×D)},RpL K S.G S.α n (ps.map Prod.fst) (l.map Prod.fst)→RpL K S.G S.α n (ps.map Prod.snd) (l.map Prod.snd)→q6y l=some kl→∃kvs:List (List Key×V),PsT H ps kvs∧RpK K S.G S.α n kvs kl∧kvs.length=kl.length
 | [],[],_,_,_,e=>by cases e;exact⟨[],.nil,.nil,rfl⟩
 | [],_::_,_,h,_,_=>by cases h
 | _::_,[],_,h,_,_=>by cases h
 | (k,d)::l,(x,y)::ps,kl,.cons h1 h2,.cons g1 g2,e=>by
  obtain⟨k',e1,e2⟩:=Option.bind_eq_some_iff.mp (show(tkey k).bind (fun k'=>(q6y l).map ((k',d)::·))=some kl from e)
  obtain⟨kl',e3,rfl⟩:=Option.map_eq_some_iff.mp e2
  obtain⟨kvs,pk,r,hl⟩:=q8q rel h2 g2 e3
  obtain⟨b,e4,e5⟩:=z1p rel h1 e1
  exact⟨(k',y)::kvs,.cons ⟨b,e4,e5,rfl⟩ pk,.cons g1 r,by rw[List.length_cons,List.length_cons,hl]⟩
def mgT (l:List (List Key×D)):List (List Key×D):=l.foldl (fun a p=>pu a p.1 p.2) []
theorem z5v {G:Hp} {α:Nat→Addr} {n:Nat}:∀{kvs:List (List Key×V)} {l:List (List Key×D)} {acc:List (List Key×V)} {a:List (List Key×D)},RpK K G α n kvs l→RpK K G α n acc a→RpK K G α n (q5b acc kvs) (l.foldl (fun a p=>pu a p.1 p.2) a)
 | _,_,_,_,.nil,h=>h
 | _,_,acc,a,.cons (k:=k) (v:=v) (d:=d) (kvs:=kvs) (l:=l) x r,h=>by
  show RpK K G α n (q5b (putK acc k v) kvs) (l.foldl (fun a p=>pu a p.1 p.2) (pu a k d))
  exact z5v r (h.put x)
def z2u (r:Mo (List (D×D))):Mo AI:=fun s=>(r s).bind fun l s1=>match q6y l with
 | some kl=>if kl.length≤15 then .ok (.new (.dT (mgT kl))) s1 else .no
 | none=>.no
theorem z8y {trs:List (TE×TE)} {r:Mo (List (D×D))} (h:Ekv K ct H0 W trs r):Ei K ct H0 W (z9x trs) (z2u r):=fun S s σ H Q rel p pa hp=>by
 have hlab:=rel.labN hp
 have hg:=rel.gN hp
 have st0:Stp S s.M.length H S s.M.length (upd H pa (.dT [])):=Stp.new rel hp
 refine h S s σ (upd H pa (.dT [])) _ (rel.new hp) ?_
 unfold z2u at p
 cases q:r s with
 | no=>rw[q] at p;exact p
 | er x s' =>
  rw[q] at p
  exact fun S' H' dd st r' xo=>p S' H' dd (st0.trans st) r' xo
 | ok l s1 =>
  rw[q] at p
  have p:Pst K ct H0 (RI K ct) W S s σ H Q (match q6y l with|some kl=>if kl.length≤15 then .ok (.new (.dT (mgT kl))) s1 else .no|none=>.no):=p
  intro S1 ps H1 st1 rel1 i1
  obtain⟨h1,h2⟩:=st1.fr pa _ upd_same hlab
  have hg1:S1.G pa=none:=by
   cases q2:S1.G pa with
   | none=>rfl
   | some u =>
    rcases st1.gn pa u q2 with z|z|⟨lb,z⟩|⟨us,z⟩
    ·rw[hg] at z;cases z
    ·rw[upd_same] at z;cases z
    ·rw[hlab] at z;cases z
    ·rw[upd_same] at z;cases z
  refine⟨h1,?_⟩
  split at p
  ·rename_i kl e
   obtain⟨kvs,e1,e2,e3⟩:=q8q rel1 i1.1 i1.2 e
   split at p
   ·rename_i hz
    refine⟨kvs,e1,by omega,?_⟩
    refine p S1 (.ref pa) _ ((st0.trans st1).updNew hp) (rel1.updU h2 hg1) ⟨pa,rfl,hp,h2,hg1,rfl,q5b [] kvs,upd_same,?_⟩
    have:=z5v e2 (.nil:RpK K S1.G S1.α s1.M.length [] [])
    exact⟨this.keys,this.vals⟩
   ·exact False.elim p
  ·exact False.elim p
def j3s:D→Option (List Key×D)
 | .tup [k,x]=>(tkey k).map (·,x)
 | _=>none
def q9z:List D→Option (List (List Key×D))
 | []=>some []
 | d::l=>(j3s d).bind fun p=>(q9z l).map (p::·)
theorem z0d {S:Sh} {s:Stt} {σ:L2.St} {H:Hp} {n:Nat} (rel:Rel K ct H0 S s σ H):∀{ds:List D} {vs:List V} {l:List (List Key×D)},RpL K S.G S.α n vs ds→q9z ds=some l→∃ps kvs,vs=ps.map V.ref∧PrT K H ps kvs∧RpK K S.G S.α n kvs l
 | [],_,_,.nil,e=>by cases e;exact⟨[],[],rfl,.nil,.nil⟩
 | d::ds,_,l,.cons h r,e=>by
  obtain⟨kd,e1,e2⟩:=Option.bind_eq_some_iff.mp (show((j3s d).bind fun p=>(q9z ds).map (p::·))=some l from e)
  obtain⟨l',e3,rfl⟩:=Option.map_eq_some_iff.mp e2
  obtain⟨ps,kvs,rfl,h2,h3⟩:=z0d rel r e3
  unfold j3s at e1
  split at e1
  ·rename_i k x
   obtain⟨kk,e4,rfl⟩:=Option.map_eq_some_iff.mp e1
   cases h with
   | tup g1 g2 =>
    cases g2 with
    | cons g3 g4=>cases g4 with
     | cons g5 g6 =>
      cases g6
      obtain⟨b,rfl,hb⟩:=z1p rel g3 e4
      exact⟨_::ps,(kk,_)::kvs,rfl,.cons ⟨b,.of (uP' (rel.sub _ _ g1)),hb⟩ h2,.cons g5 h3⟩
  ·cases e1
def z7c (s:Stt) (as:List AI):Ro AI:=match as with
 | [a]=>match(q1v s a).bind q9z with
  | some l=>.ok (.new (.dT (mgT l))) s
  | none=>.no
 | _=>.no
end
section
variable {K:PySem.W.Frag} {ct:Ct} {H0:Hp}
theorem z8b:JB K ct H0 (z4w K) z7c:=fun W S s σ H Hs vs as Q rel ia p=>by
 unfold z7c at p
 split at p
 ·rename_i a
  obtain⟨v,rfl,i⟩:=as1 ia
  split at p
  ·rename_i l e
   obtain⟨l0,e1,e2⟩:=Option.bind_eq_some_iff.mp e
   obtain⟨q,us,rfl,k1,k2⟩:=q2f rel i e1
   obtain⟨ps,kvs,rfl,h2,h3⟩:=z0d rel k2 e2
   refine⟨q,ps,kvs,rfl,k1,h2,fun r hr=>?_⟩
   have h4:=z5v h3 (.nil (κ:=List Key))
   exact p.newC rel hr rfl ⟨_,upd_same,h4.keys,h4.vals⟩
  ·exact False.elim p
 ·exact False.elim p
end
section
variable {s:Stt} {X:Exn→Stt→Prop} {QA:AI→Stt→Prop}
theorem z4v {QK:List (D×D)→Stt→Prop} {mk mv:Mo AI} {r:Mo (List (D×D))} (h:Wo (fun a s1=>Wo (fun b s2=>Wo (fun l s3=>QK ((a,b)::l) s3) X (r s2)) X (mK mv s1)) X (mV mk s)):Wo QK X (z1q mk mv r s) :=
 q0g (q0e h fun a s1 h=>q0g (q0e h fun b s2 h=>q0g (q0e h fun l s3 h=>h)))
theorem j4n {r:Mo (List (D×D))} (h:Wo (fun l s1=>∃kl,q6y l=some kl∧kl.length≤15∧QA (.new (.dT (mgT kl))) s1) X (r s)):Wo QA X (z2u r s):=by
 refine q0g (q0e h fun l s1 h=>?_)
 obtain⟨kl,e,c,h⟩:=h
 rw[e]
 show Wo QA X (if _ then _ else _)
 rw[if_pos c];exact h
end
end Y
namespace Y
open PySem L2 Z PySem.Spec PyProof.Rows
section
variable {X:Cx} {pins:List (Addr×Obj)} {σ:L2.St} {H:Hp} {s:Shared} {a:Addr} {o:HO} {oe:Obj} {vs:Array Value}
/-- what came since the entry, and nobody tells of, is told of from now on -/
theorem track (I:Inv X pins σ H s) (n0:X.s_0.heap.get? a=none) (na:H a=none) (hp:∀p∈X.pn++pins,p.1≠a) (nL:a≠X.env.locals) (he:s.heap.get? a=some oe) (hd:oe.data = .fields vs) (new:ObjOk X.prog X.w (upd H a o) s.heap a o) :
  Inv X pins σ (upd H a o) s:=by
 have up:∀{b:Addr},b≠a→upd H a o b=H b:=fun h=>upd_ne h
 have ne0:∀{b:Addr} {u:Obj},X.s_0.heap.get? b=some u→b≠a:=fun e z=>by rw[z,n0] at e;cases e
 have neH:∀{b:Addr} {u:HO},H b=some u→b≠a:=fun e z=>by rw[z,na] at e;cases e
 refine⟨I.ok,I.os,I.bare,⟨I.base.keep,I.base.slot,fun b u q n hx=>?_,I.base.there,fun b xs q=>?_,fun b u w q=>?_,fun b ps q=>?_⟩,I.loc,I.cell,?_,fun x c e=>?_,fun p h=>?_,I.hok.laidN (fun _ _ e=>e) na new,I.len⟩
 ·rw[up (ne0 q)];exact I.base.free b u q n hx
 ·have z:=I.base.tups b xs q
  rw[up (neH z)];exact z
 ·have z:=I.base.frzs b u w q
  rw[up (neH z)];exact z
 ·obtain⟨m,z⟩:=I.base.tbls b ps q
  exact⟨m,by rw[up (neH z)];exact z⟩
 ·rw[up (Ne.symm nL)];exact I.free
 ·have nc:c≠a:=fun z=>by
   obtain⟨v,u,hu,hv⟩:=I.cell x c e
   rw[z,he] at hu
   cases hu
   rw[hd] at hv
   cases hv
  rw[up nc];exact I.freeC x c e
 ·obtain⟨h1,h2,h3⟩:=I.pin p h
  exact⟨h1,by rw[up (hp p h)];exact h2,h3⟩
end
end Y
namespace Y
open PySem L2 Z
open PySem.W (AllAlike Sortable dataLe EachIs)
end Y
namespace Y
open PySem L2 Z
open PyProof.Rows
section
variable {K:PySem.W.Frag} {ct:Ct} {H0:Hp} {W:WX}
def z5x (mo:Mo AI):Mo AI:=fun s=>(mo s).bind fun a s1=>match q3b s1 a with
 | some l=>.ok (.new (.lst (l.map Prod.snd))) s1
 | none=>.no
theorem z4d {s:Stt} {X:Exn→Stt→Prop} {QA:AI→Stt→Prop} {m:Mo AI} (h:Wo (fun a s1=>∃l,q3b s1 a=some l∧QA (.new (.lst (l.map Prod.snd))) s1) X (m s)):Wo QA X (z5x m s):=q0g (q0e h fun a s1 ⟨l,e,h⟩=>by
 show Wo QA X (match q3b s1 a with|some l=>_|none=>_)
 rw[e];exact h)
end
end Y
namespace Y
open PySem L2 Z
section
variable {K:PySem.W.Frag} {ct:Ct} {H0:Hp} {W:WX} {S:Sh} {s:Stt} {σ:St} {H:Hp}
def z3j (s:Stt) (as:List AI):Option (List D):=(snap s as).bind (mapO (rsv 9 s.M))
def j9g (f:Mf) (m:Mo (List AI)):Mo AI:=fun s=>(m s).bind fun as s1=>match z3j s1 as with
 | some ds=>(match f ds [] with
  | .ok (.val d) _=>if d.scal=true then .ok (.val d) s1 else .no
  | _=>.no)
 | none=>.no
def j6v (f:Mf) (m:Mo (List AI)):Mo AI:=fun s=>(m s).bind fun as s1=>match z3j s1 as with
 | some ds=>(match f ds [] with
  | .ok (.new (.lst l)) _=>if l.all D.scal=true then .ok (.new (.lst l)) s1 else .no
  | _=>.no)
 | none=>.no
variable {QA:AI→Stt→Prop} {X:Exn→Stt→Prop}
theorem j4r {f:Mf} {m:Mo (List AI)} (h:Wo (fun as s1=>∃ds d M',z3j s1 as=some ds∧f ds [] = .ok (.val d) M'∧d.scal=true∧QA (.val d) s1) X (m s)):Wo QA X (j9g f m s):=q0g (q0e h fun as s1 ⟨ds,d,M',e1,e3,e4,h⟩=>by
 show Wo QA X (match z3j s1 as with|some ds=>_|none=>_)
 rw[e1];dsimp only[];rw[e3];show Wo QA X (if _ then _ else _);rw[if_pos e4];exact h)
theorem j1x {f:Mf} {m:Mo (List AI)} (h:Wo (fun as s1=>∃ds l M',z3j s1 as=some ds∧f ds [] = .ok (.new (.lst l)) M'∧l.all D.scal=true∧QA (.new (.lst l)) s1) X (m s)):Wo QA X (j6v f m s):=q0g (q0e h fun as s1 ⟨ds,l,M',e1,e3,e4,h⟩=>by
 show Wo QA X (match z3j s1 as with|some ds=>_|none=>_)
 rw[e1];dsimp only[];rw[e3];show Wo QA X (if _ then _ else _);rw[if_pos e4];exact h)
end
end Y
namespace Hd
open PySem PySem.Spec PyProof.Rows L2
theorem D {p:Prop} {i:Decidable p} (h:@decide p i=true):p:=of_decide_eq_true h
def AllT (K:PySem.W.Frag):List (PySem.W.Frag→Bool)→Prop
 | []=>True
 | f::l=>f K=true∧AllT K l
theorem z6o {K:PySem.W.Frag}:∀{l:List (PySem.W.Frag→Bool)},(∀f∈l,f K=true)→AllT K l
 | [],_=>trivial
 | f::l,h=>⟨h f List.mem_cons_self,z6o fun g hg=>h g (List.mem_cons_of_mem _ hg)⟩
theorem Says.row {fn:List He.FnD} {fd:List He.DefD} {ex:Ex} {K:PySem.W.Frag} (c:Says fn fd ex K) (i:Nat) (l:List (PySem.W.Frag→Bool)) (hl:ex[i]? = some l):AllT K l :=
 z6o (List.all_eq_true.mp (List.all_eq_true.mp (He.ba c.all).1 l (List.mem_of_getElem? hl)))
end Hd
namespace Y
open PySem L2 Z
def j8q (n m:Nat) (f:Mf) (gD:List D→List D→List D) (ma mk:Mo (List D)):Mo AI:=fun s=>(ma s).bind fun ds s1=>(mk s1).bind fun es s2=>if ds.length=n∧es.length=m then(match f (gD ds es) s2.M with
 | .ok a M'=>.ok a ⟨s2.env,M'⟩
 | _=>.no) else .no
def j6x (c m:Nat) (f:Mf) (gD:List D→List D→List D) (mk:Mo (List D)):Mo AI:=fun s=>(mk s).bind fun es s1=>if es.length=m then(match f (gD [.cid s1.M.length] es) (s1.M++[.obj c []]) with
 | .ok (.val .non) M'=>.ok (.val (.cid s1.M.length)) ⟨s1.env,M'⟩
 | _=>.no) else .no
section
variable {s:Stt} {X:Exn→Stt→Prop} {QA:AI→Stt→Prop} {ma mk:Mo (List D)}
theorem j0x {n m:Nat} {f:Mf} {gD:List D→List D→List D} (h:Wo (fun ds s1=>Wo (fun es s2=>(ds.length=n∧es.length=m)∧Fo (fun a M'=>QA a ⟨s2.env,M'⟩) (f (gD ds es) s2.M)) X (mk s1)) X (ma s)):Wo QA X (j8q n m f gD ma mk s) :=
 q0g (q0e h fun ds s1 h=>q0g (q0e h fun es s2 ⟨hl,h⟩=>by
  rw[if_pos hl]
  cases q:f (gD ds es) s2.M<;>rw[q] at h<;>exact h))
theorem j2f {c m:Nat} {f:Mf} {gD:List D→List D→List D} (h:Wo (fun es s1=>es.length=m∧Fo (fun a M'=>a = .val .non∧QA (.val (.cid s1.M.length)) ⟨s1.env,M'⟩) (f (gD [.cid s1.M.length] es) (s1.M++[.obj c []]))) X (mk s)):Wo QA X (j6x c m f gD mk s) :=
 q0g (q0e h fun es s1 ⟨hl,h⟩=>by
  rw[if_pos hl]
  cases q:f (gD [.cid s1.M.length] es) (s1.M++[.obj c []]) with
  | no=>rw[q] at h;exact h
  | er x M'=>rw[q] at h;exact h
  | ok a M'=>rw[q] at h;obtain⟨rfl,h⟩:=h;exact h)
end
section
variable {K:PySem.W.Frag} {ct:Ct} {H0:Hp} {W:WX}
def w2q (i j l:Nat) (m:Mo (List D)):Ms:=fun s=>(m s).toS fun ds s1=>match ds with
 | [x,y,z]=>.nx ⟨((s1.env.set i (some (.fz x))).set j (some (.fz y))).set l (some (.fz z)),s1.M⟩
 | _=>.no
variable {s:Stt} {N:Stt→Prop} {O:Rs→Prop}
theorem j8f {i j l:Nat} {m:Mo (List D)} (h:Wo (fun ds s1=>∃x y z,ds=[x,y,z]∧N ⟨((s1.env.set i (some (.fz x))).set j (some (.fz y))).set l (some (.fz z)),s1.M⟩) (fun x s=>O (.er x s)) (m s)):Ws N O (w2q i j l m s):=q3o (q0e h fun ds s1 ⟨x,y,z,e,h⟩=>by subst e;exact h)
end
end Y
namespace Y
open PySem L2 Z
def j6h (f:Mf) (dds:List D) (m:Mo (List D)):Mo AI:=fun s=>(m s).bind fun ds s1=>match f (ds++dds) s1.M with
 | .ok a M'=>.ok a ⟨s1.env,M'⟩
 | _=>.no
section
variable {s:Stt} {X:Exn→Stt→Prop} {QA:AI→Stt→Prop} {m:Mo (List D)} {dds:List D} {f:Mf}
theorem j2k (h:Wo (fun ds s1=>Fo (fun a M'=>QA a ⟨s1.env,M'⟩) (f (ds++dds) s1.M)) X (m s)):Wo QA X (j6h f dds m s):=q0g (q0e h fun ds s1 h=>by
 show Wo QA X (match f (ds++dds) s1.M with|.ok a M'=>_|_=>_)
 cases q:f (ds++dds) s1.M<;>rw[q] at h<;>exact h)
end
end Y
namespace PySem
open Sem (wp)
end PySem
namespace Y
open PySem L2 Z
section
variable {K:PySem.W.Frag} {ct:Ct} {H0:Hp} {W:WX} {S:Sh} {s:Stt} {σ:St} {H:Hp}
def z9d:List D→Option (List (List D))
 | []=>some []
 | .lst l::r=>(z9d r).map (l::·)
 | _::_=>none
def w0y (m:Mo AI):Mo AI:=fun s=>(m s).bind fun a s1=>match(q1v s1 a).bind z9d with
 | some rs=>if rs.flatten.length≤sizeLine then .ok (.new (.lst rs.flatten)) s1 else .no
 | none=>.no
end
section
variable {s:Stt} {X:Exn→Stt→Prop} {QA:AI→Stt→Prop} {m:Mo AI}
theorem j7q (h:Wo (fun a s1=>∃l rs,q1v s1 a=some l∧z9d l=some rs∧rs.flatten.length≤sizeLine∧QA (.new (.lst rs.flatten)) s1) X (m s)):Wo QA X (w0y m s):=q0g (q0e h fun a s1 ⟨l,rs,e1,e2,c,h⟩=>by
 show Wo QA X (match(q1v s1 a).bind z9d with|some rs=>_|none=>_)
 rw[e1,Option.bind_some,e2]
 show Wo QA X (if _ then _ else _)
 rw[if_pos c];exact h)
end
section
variable {K:PySem.W.Frag} {ct:Ct} {H0:Hp} {W:WX} {S:Sh} {s:Stt} {σ:St} {H:Hp}
def mIsO (c:Nat) (m:Mo AI):Mo AI:=fun s=>(m s).bind fun a s1=>match q3z s1 a with
 | some (_,c',_)=>if c'=c then .ok (.val (.bl true)) s1 else .no
 | none=>.no
end
section
variable {s:Stt} {X:Exn→Stt→Prop} {QA:AI→Stt→Prop} {m:Mo AI}
theorem w1v {c:Nat} (h:Wo (fun a s1=>∃k fs,q3z s1 a=some (k,c,fs)∧QA (.val (.bl true)) s1) X (m s)):Wo QA X (mIsO c m s):=q0g (q0e h fun a s1 ⟨k,fs,e,h⟩=>by
 show Wo QA X (match q3z s1 a with|some (_,c',_)=>_|none=>_)
 rw[e]
 show Wo QA X (if c=c then _ else _)
 rw[if_pos rfl];exact h)
end
end Y
namespace Y
open PySem L2 Z
end Y
namespace Y
open PySem L2 Z
end Y
namespace Y
open PySem L2 Z
open PyProof.Rows
/-- an enumerate object that has told some -/
structure EnAt (h:Heap) (e it l S:Addr) (items:Array Value) (i:Nat):Prop where
 ita:h.IsListIter it l i
 la:h.IsList l items
 ea:(∃old,IsEnum h e it i old)∨∃old T f oT,IsEnumHeld h e it i old T f∧h.get? T=some oT∧T≠e∧T≠it∧T≠S
theorem EnAt.keep {h h':Heap} {e it l S:Addr} {items:Array Value} {i:Nat} (x:EnAt h e it l S items i) (hS:S≠e∧S≠it∧S≠l) (k:∀b o,b≠S→h.get? b=some o→h'.get? b=some o):EnAt h' e it l S items i:=by
 obtain⟨h1,h2,h3⟩:=x
 refine⟨h1.at fun o y=>k _ o (Ne.symm hS.2.1) y,h2.at fun o y=>k _ o (Ne.symm hS.2.2) y,?_⟩
 rcases h3 with⟨old,he⟩|⟨old,T,f,oT,he,hT,r1,r2,r3⟩
 ·exact .inl ⟨old,k _ _ (Ne.symm hS.1) he⟩
 ·exact .inr ⟨old,T,f,oT,k _ _ (Ne.symm hS.1) he,k _ _ r3 hT,r1,r2,r3⟩
end Y
namespace L2
open PySem PySem.Spec PyProof.Rows LamX
abbrev lamQ (X:Cx):Str:=X.env.qual ++ "<lambda>"
abbrev lamO (X:Cx) (ar:Arguments) (b:Expr) (sc:Scope) (pm ctv:Value) (c':Addr):Obj:=PySem.W.kla_obj "<lambda>" (lamQ X) ar b sc (cloFrom X.env.cells sc.names []) pm c' ctv
/-- the heap behind the making: as it was, or with one code object more -/
def Nxt (H:Hp) (P:Addr) (q:Str) (ps:Array Value) (c':Addr) (H1:Hp):Prop :=
 H1=H∨(H c'=none∧∃qs:Array Value,H1=upd (upd H P (.tbl qs)) c' (CodeO c' q)∧TriplesOk qs.toList∧∀(l:Pos) (v:Value),codeAmong l qs.toList=some v→codeAmong l ps.toList=some v∨v = .ref c')
def z6i (H:Hp) (q:Str) (ps:Array Value):Prop:=∀(l:Pos) (v:Value),codeAmong l ps.toList=some v→∃c,v = .ref c∧H c=some (CodeO c q)
section
variable {X:Cx} {pins:List (Addr×Obj)} {σ:L2.St} {H:Hp} {s:Shared}
theorem w0w {c P:Addr} {ps:Array Value} {ar:Arguments} {b:Expr} {sc:Scope} {l:Pos} {E Q:Value→Shared→Prop} (I:Inv X pins σ H s) (TB:TabB X.base X.mg c P) (hcode:X.env.code = .ref c)
  (hP:H P=some (.tbl ps)) (ht:TriplesOk ps.toList) (ha:z6i H (lamQ X) ps) (hdef:defaultsOf ar X.env=([],[])) (hfree:∀y∈sc.names,y.2 = .free→∃c,X.env.cells.lookup y.1=some c)
  (k:∀(f c':Addr) (pm ctv:Value) (H1:Hp) (s':Shared),Inv X pins σ H1 s'→Nxt H P (lamQ X) ps c' H1→s'.heap.get? f=some (lamO X ar b sc pm ctv c')→H1 f=none→f∉frs X.stack→H1 c'=some (CodeO c' (lamQ X))→Q (.ref f) s') :
  wpAny (model X.prog X.w) X.A (eval (.Lambda ar b sc l) X.env) Q E s:=by
 have far:∀f,s.heap.objs.size≤f→f∉frs X.stack:=fun f hf z=>(List.mem_cons.mp (I.stkSub _ z)).elim (fun e=>by
  have h1:=I.lt
  rw[←e] at h1
  exact Nat.lt_irrefl _ (Nat.lt_of_lt_of_le h1 hf)) fun e=>I.nofs hf e
 have pP:s.heap.get? P=some ⟨.none,none,.fields ps,#[]⟩:=(I.hok P _ hP:_)
 have pB:=TB.bm.keeps I.bk
 refine(PySem.W.kla_eval hdef ?_)
 cases hc:codeAmong l ps.toList with
 | some cv =>
  obtain⟨c',rfl,hco⟩:=ha l cv hc
  refine(PySem.W.kla_makeFunctionHit (mg:=X.mg) (c:=c) (P:=P) (ps:=ps) (closure_ok hfree) I.ok.glob (I.mod.glob.keeps I.bk) hcode (TB.code.keeps I.bk) pP ht hc pB) fun ctv h' tk hx hsz=>?_
  exact k h'.objs.size c' ((X.mg "__name__").getD .none) ctv H _ (I.kept fun b o e=>Heap.get?_push_of_some _ (hx b o e)) (.inl rfl) (Heap.get?_push_size _ rfl) (I.hok.fresh hsz) (far _ hsz) hco
 | none =>
  refine(PySem.W.kla_makeFunction (mg:=X.mg) (c:=c) (P:=P) (ps:=ps) (closure_ok hfree) I.ok.glob (I.mod.glob.keeps I.bk) hcode (TB.code.keeps I.bk) pP ht hc TB.gP pB) fun c' ctv h' tk hx hge hlt hrec htb=>?_
  obtain⟨c2,oc,vs,t,e2,hoc,hd,hv⟩:=hrec
  cases e2
  have nC:H c'=none:=I.hok.fresh hge
  have big:s.heap.objs.size≤h'.objs.size:=Nat.le_trans hge (Nat.le_of_lt hlt)
  have nP:h'.objs.size≠P:=Nat.ne_of_gt (Nat.lt_of_lt_of_le (Heap.lt_size pP) big)
  have I1:=inv_table (t':=tk) (q:=lamQ X) (more:=#[rawInt l.line,rawInt l.col,.ref c']) (h':=h'.push (lamO X ar b sc ((X.mg "__name__").getD .none) ctv c')) I hP
   (fun b o hb e=>Heap.get?_push_of_some _ (hx b o hb e)) (Heap.get?_push_of_some _ htb) hge ⟨oc,vs,t,Heap.get?_push_of_some _ hoc,hd,hv⟩
  have eL:(ps++#[rawInt l.line,rawInt l.col,.ref c']).toList=ps.toList++[rawInt l.line,rawInt l.col,.ref c']:=by simp
  refine k h'.objs.size c' ((X.mg "__name__").getD .none) ctv _ _ I1 (.inr ⟨nC,_,rfl,?_,fun p v hv=>?_⟩) (Heap.get?_push_size _ rfl) ?_ (far _ big) upd_same
  ·rw[eL];exact PySem.TriplesOk_snoc _ _ _ _ ht
  ·rw[eL] at hv;exact among_app _ ht hv
  ·rw[upd_ne (Nat.ne_of_gt hlt),upd_ne nP]
   exact I.hok.fresh big
/-- x(), x the lambda that the def at hand was given; what it lets out is taken at the slots as they stand -/
theorem j1w {CXg:CXT} {Eg:XK} {Ng:List Str} {qg a:Str} {sg sc:Scope} {g f c':Addr} {cdg pm ctv:Value} {ar:Arguments} {b:Expr} {k i:Nat} {pn:List (Addr×Obj)} {xe:Value→Shared→Prop} {W:WX} {t:XK→TE} {p1 p2:Pos}
  (I:Inv X pins σ H s) (L:LamS X.env.scope sc) (hf:s.heap.get? f=some (lamO X ar b sc pm ctv c')) (hfn:H f=none) (hfr:f∉frs X.stack)
  (hbind:∀(q:Str) (cl:List (Str×Addr)) (pm cv ctv:Value),bindArgs (PySem.W.kla_fn "<lambda>" q ar b sc cl pm cv ctv) ⟨[],[]⟩=pure [])
  (tk:Takes ((cxOf CXg X.prog X.w X.K X.mg X.base Ng qg sg g cdg X.A X.stack s H Eg).tr pn xe) W) (hr:Room (k+1) (X.A.deeper (envOfC qg sg s.heap.objs.size g cdg)))
  (hbody:∀(A:Around) (outer:List Env) (s:Shared) (H:Hp) (E:XK),Room k (A.deeper (lamEnv X sc s.heap.objs.size f c'))→PE (lamCx X A outer s H E sc f c') b (t E))
  (hN:Ng[i]? = some a) (hv:Vis sg a) (hd:(a==("__debug__" : Str))=false:=by decide) (hcd:(a==("__classdict__" : Str))=false:=by decide) :
  PE ((cxOf CXg X.prog X.w X.K X.mg X.base Ng qg sg g cdg X.A X.stack s H Eg).tr pn xe) (.Call (.Name a p1) [] [] p2)
   (fun σ2 H2 Q=>∃E:XK,σ2[i]? = some (some (.ref f))∧H2 c'=some (CodeO c' (lamQ X))∧(∀cls d H',E cls d H'→W cls d σ2 H')∧t E σ H2 Q):=by
 refine⟨fun pins2 s2 σ2 H2 Q I2 ⟨E,hs,hc,hW,ht⟩=>?_⟩
 refine(wpAny_Call_Name_kw (thn ((pe_var (pos:=p1) (i:=i) hN hv hd hcd).run pins2 s2 σ2 H2 (fun v H1=>v = .ref f∧H1=H2) I2 ⟨.ref f,hs,rfl,rfl⟩) fun u s1 ⟨v,H1,I1,r1,⟨ev,eH⟩⟩=>?_))
 subst ev eH
 obtain rfl:u=Value.ref f:=r1
 have at1:s1.heap.get? f=some (lamO X ar b sc pm ctv c'):=I1.base.keep f _ hf hfn hfr (fun z=>nomatch (show f∈([]:List Addr) from z))
 have un:Un (frs X.stack) [] H H1 s.heap s1.heap:=I1.base
 obtain⟨⟨oc,vs,t',hoc,hdc,hvc⟩,_,_⟩:=I1.hok c' _ hc
 refine(PySem.W.callWith_F0 ⟨_,_,_,_,at1⟩ (wpAny_call (codeAny_mono (R:=CR (L2.CX X.prog X.w) (envOfC qg sg s.heap.objs.size g cdg::X.stack) X.prog X.w H1 s1 Q E) ?_ fun r s' hq=>?_)))
 ·refine(PySem.W.kla_callFunE hr.depth at1 rfl L.co L.gen rfl ⟨c',oc,vs,t',rfl,hoc,hdc,hvc⟩ ?_)
  have hb0:bindArgs (PySem.W.kla_fn "<lambda>" (lamQ X) ar b sc (cloFrom X.env.cells sc.names []) pm (.ref c') ctv) ⟨[]++[],[]⟩=pure []:=hbind _ _ _ _ _
  rw[hb0]
  refine(wpAny_pure (wpAny_newFunctionEnv (fun y hy=>(L.own y hy).2) (fun y hy=>absurd hy (by simp)) (fun h₁ hns hsb=>⟨I1.nolimit.fresh _ hsb,?_⟩) L.kind))
  show codeAny _ _ (.expr b (lamEnv X sc s1.heap.objs.size f c')) _ _
  have J:=lam_start2 (A:=X.A.deeper (envOfC qg sg s.heap.objs.size g cdg)) (outer:=envOfC qg sg s.heap.objs.size g cdg::X.stack) (E:=E) (f:=f) (c':=c') (h₁:=h₁) (tk:=s1.toks+([]:List (Str×Value)).length) I L I1.env0 hr.hd un hns fun b o e=>hsb.extBut b o (Nat.ne_of_lt (Heap.lt_size e)) (Heap.get?_push_of_some _ e)
  refine(PySem.W.kla_codeExpr (wpAny_mono ((hbody _ _ s1 H1 E (hr.deeper _)).run [] _ _ H1 Q J ht) (fun v s' ⟨w',H',J',rv,q⟩=>?_) fun e s' hq=>hq))
  exact⟨w',H',J'.os,J'.bare,J'.base,J'.hok,rv,q⟩
 ·cases r with
  | error e=>exact tk e s' (XE.of_call I1 hW hq)
  | ok fl=>cases fl with
   | ret u=>exact I1.after hq
   | _=>exact False.elim hq
/-- the def that calls the lambda: TT tells what it makes of the lambda's reading -/
def z9t (X:Cx) (Ng:List Str) (x:Str) (sg:Scope) (g:Addr) (cdg:Value) (bg:List Stmt) (a q:Str) (TT:(XK→Hp→VK→Prop)→Hp→VK→Prop):Prop :=
  ∀ (f c':Addr) (s:Shared) (H:Hp) (Q:VK) (tl:XK→Hp→VK→Prop),
    (∀(W:WX) (pn:List (Addr×Obj)) (xe:Value→Shared→Prop) (p1 p2:Pos),Takes ((cxOf C8.CX0 X.prog X.w X.K X.mg X.base Ng x sg g cdg X.A X.stack s H C8.E0).nox.tr pn xe) W →
      PE ((cxOf C8.CX0 X.prog X.w X.K X.mg X.base Ng x sg g cdg X.A X.stack s H C8.E0).nox.tr pn xe) (.Call (.Name a p1) [] [] p2) (fun σ2 H2 Q=>∃E:XK,σ2[0]? = some (some (.ref f))∧H2 c'=some (CodeO c' q)∧(∀cls d H',E cls d H'→W cls d σ2 H')∧tl E H2 Q)) →
    H c'=some (CodeO c' q)→TT tl H Q →
      ∃t:TS,PSs (cxOf C8.CX0 X.prog X.w X.K X.mg X.base Ng x sg g cdg X.A X.stack s H C8.E0).nox bg t∧t { nx:=fun _ H'=>Q .non H',rt:=Q } (L2.start Ng [.ref f]) H
/-- what the call asks: the table as it may be, then what the def makes of the lambda's reading -/
def j5z (P:Addr) (q:Str) (TT:(XK→Hp→VK→Prop)→Hp→VK→Prop) (t:XK→TE):TE:=fun σ H Q=>∃ps:Array Value,H P=some (.tbl ps)∧TriplesOk ps.toList∧z6i H q ps∧∀(c':Addr) (H1:Hp),Nxt H P q ps c' H1→TT (fun E H' Q'=>t E σ H' Q') H1 Q
/-- x(lambda: b) -/
theorem q4i {K:PySem.W.Frag} {TT:(XK→Hp→VK→Prop)→Hp→VK→Prop} {x a q:Str} {g c P:Addr} {k:Nat} {st:Stmt} {fd:FuncData} {Ng:List Str}
  {ar:Arguments} {b:Expr} {sc:Scope} {t:XK→TE} {p l pos:Pos} (hK:X.K=K) (F:Fun K x x st g fd) (hg:Gl X x) (hm:X.mg x=some (.ref g)) (hb:L2.Binds K fd [a] []) (Sg:FnScope Ng [a] (defScope st)) (hNg:Ng[0]? = some a) (hva:Vis (defScope st) a)
  (hG:∀cdv,z9t X Ng x (defScope st) g cdv (defBody st) a q TT) (hq:lamQ X=q) (TB:TabB X.base X.mg c P) (hcode:X.env.code = .ref c) (hr:Room (k+2) X.A) (L:LamS X.env.scope sc) (hdef:defaultsOf ar X.env=([],[]))
  (hbind:∀(q:Str) (cl:List (Str×Addr)) (pm cv ctv:Value),bindArgs (PySem.W.kla_fn "<lambda>" q ar b sc cl pm cv ctv) ⟨[],[]⟩=pure [])
  (hbody:∀(A:Around) (outer:List Env) (s:Shared) (H:Hp) (E:XK) (f c':Addr),Room k (A.deeper (lamEnv X sc s.heap.objs.size f c'))→PE (lamCx X A outer s H E sc f c') b (t E))
  (hd:(a==("__debug__" : Str))=false:=by decide) (hcd:(a==("__classdict__" : Str))=false:=by decide) (hdb:(x==("__debug__" : Str))=false:=by decide):PE X (.Call (.Name x p) [.Lambda ar b sc l] [] pos) (j5z P q TT t):=by
 subst hq hK
 obtain⟨oc,od,kV,doc,pm,an,cdv,ct,osl,rfl,lk,hcg⟩:=F.ex
 refine⟨fun pins s σ H Q I ⟨ps,hP,ht,ha,h⟩=>?_⟩
 refine(wpAny_Call_Name_kw (ld_glob I hg hm (PySem.W.callWith_K (h₀:=X.base) I.ok.mod.kin F.kp ?_ (by rfl) (by rfl)) hdb))
 show wpAny _ _ (spliced ((false,eval (.Lambda ar b sc l) X.env)::backTo pos (starEach [] X.env))) _ _ s
 refine(Calls.spliced_cons (w0w I TB hcode hP ht ha hdef (L.has I.ok) fun f c' pm' ctv H1 s' I1 nx hf hfn hfr hco=>Calls.spliced_nil ⟨I1.kIn,wpAny_call (codeAny_mono (R:=CR C8.CX0 X.stack X.prog X.w H1 s' Q C8.E0) ?_ fun r s2 hq=>?_)⟩))
 ·refine run_ofS (N:=Ng) (ps:=[a]) (us:=[.ref f]) (vs:=[.ref f]) lk hcg Sg hr I1.env0 (hb s' [.ref f] I1.kIn rfl) (.cons rfl .nil) rfl fun hr'=>?_
  obtain⟨t',k1,k2⟩:=hG cdv f c' s' H1 Q (fun E H' Q'=>t E σ H' Q') (fun W pn xe p1 p2 tk=>j1w (CXg:=C8.CX0) (Eg:=C8.E0) (i:=0) I1 L hf hfn hfr hbind tk hr' (fun A outer s H E hr2=>hbody A outer s H E f c' hr2) hNg hva hd hcd) hco (h c' H1 nx)
  exact⟨t',k1.nox,k2⟩
 ·cases r with
  | error _=>exact(show False from hq).elim
  | ok fl=>cases fl with
   | ret u=>exact I1.after hq
   | _=>exact False.elim hq
/-- a def whose code object is known -/
structure FunC (K:PySem.W.Frag) (x qual:Str) (st:Stmt) (f:Addr) (fd:FuncData) (c:Addr):Prop where
 ex:∃(oc:Value) (od:Option Addr) (kV doc pm:Value) (an:Option Addr) (ct:Value) (osl:Array (Option Value)),fd=PySem.W.fnOf x qual (defArgs st) (defBody st) (defScope st) .none kV doc pm an (.ref c) ct∧K.lookup f=some ⟨oc,od,.func fd,osl⟩∧PySem.W.codeIn K (.ref c) qual=true
theorem FunC.ok {P:Program} {w:World} {K:PySem.W.Frag} {mg:Str→Option Value} {base:Heap} {x qual:Str} {st:Stmt} {f c:Addr} {fd:FuncData} {N ps:List Str} {k:Nat} {sp:Sp} (F:FunC K x qual st f fd c) (S:FnScope N ps (defScope st)) (len:∀vs H Q E,sp vs H Q E→vs.length=ps.length)
  (hbody:∀(A:Around) (outer:List Env) (s:Shared) (H:Hp) (vs:List V) (Q:VK) (E:XK),Room k (A.deeper (envOfC qual (defScope st) s.heap.objs.size f (.ref c)))→sp vs H Q E →
   ∃t,PSs (cxOf L2.CX0 P w K mg base N qual (defScope st) f (.ref c) A outer s H E).nox (defBody st) t∧t { nx:=fun _ H'=>Q .non H',rt:=Q } (start N vs) H):FnOk P w K mg base L2.CX0 (k+1) f fd ps sp:=by
 obtain⟨oc,od,kV,doc,pm,an,ct,osl,rfl,lk,hcd⟩:=F.ex
 refine(fn_of lk hcd S len fun A outer s H vs Q E hr hsp=>?_)
 obtain⟨t,h,q⟩:=hbody A outer s H vs Q E hr hsp
 exact⟨t,(h.nox:_),q⟩
/-- what a def makes of it that catches the class CS and asks whether it is CT and a ValueError and no CP -/
def TRef (K:PySem.W.Frag) (CS CT CP:Addr):(XK→Hp→VK→Prop)→Hp→VK→Prop:=fun tl H Q =>
 tl (fun cls dd H'=>∃C:Addr,cls = .ref C∧ExcC K C∧(dd=none∨∃d fs,dd=some d∧H' d=some (.xd fs))∧PySem.W.exmOne K (.ref C) (.ref CS)=some true∧PySem.W.kitOne K (.ref C) (.ref CT)=some true∧PySem.W.kitOne K (.ref C) (.type "ValueError")=some true∧PySem.W.kitOne K (.ref C) (.ref CP)=some false∧Q (.bl true) H') H fun _ H'=>Q (.bl false) H'
end
end L2
namespace Y
open PySem L2 Z
section
variable {K:PySem.W.Frag} {ct:Ct} {H0:Hp} {W:WX}
theorem j1l {b:Option Addr} {H:Hp} {a:Addr} {q:Str} (h:U b H a=some (LamX.CodeO a q)):H a=some (LamX.CodeO a q):=by
 rcases q4w b H a with e|⟨o,k,_,e⟩|⟨o,k,_,e⟩
 ·rw[e] at h;exact h
 ·rw[e] at h;unfold LamX.CodeO at h;cases h
 ·rw[e] at h;unfold LamX.CodeO at h;cases h
/-- known(lambda: b): whether it raises the class c; k: where the table's cell stands -/
def mRef (k c:Nat) (q:Str) (m:Mo AI):Mo AI:=fun s=>match s.M[k]? with
 | some (.tb i q')=>if i=1000+k∧q'=q then(match m s with
  | .ok _ s1=>.ok (.val (.bl false)) s1
  | .er x s1=>if x.cls=c then .ok (.val (.bl true)) s1 else .no
  | .no=>.no) else .no
 | _=>.no
theorem q5s {k c:Nat} {q:Str} {CS CT CP:Addr} {t:XK→TE} {m:Mo AI} (hm:∀E:XK,Ei K ct H0 (fun cls d _ H=>E cls d H) (t E) m) (hx:ExcC K (ct c)) (h1:PySem.W.exmOne K (.ref (ct c)) (.ref CS)=some true) (h2:PySem.W.kitOne K (.ref (ct c)) (.ref CT)=some true)
  (h3:PySem.W.kitOne K (.ref (ct c)) (.type "ValueError")=some true) (h4:PySem.W.kitOne K (.ref (ct c)) (.ref CP)=some false) :
  Ei K ct H0 W (j5z (ct (1000+k)) q (TRef K CS CT CP) t) (mRef k c q m):=fun S s σ H Q rel p=>by
 unfold mRef at p
 cases hk:s.M[k]? with
 | none=>rw[hk] at p;exact p.elim
 | some cc =>
  rw[hk] at p
  cases cc with
  | tb i q' =>
   simp only[] at p
   split at p
   ·rename_i hi
    obtain⟨rfl,rfl⟩:=hi
    obtain⟨hl,e0,ps,hP,ht,ha⟩:=rel.ids k _ hk
    rw[←e0]
    refine⟨ps,hP,ht,fun l v hv=>?_,fun c' H1 nx=>?_⟩
    ·obtain⟨c1,z1,z2⟩:=ha l v hv
     exact⟨c1,z1,j1l (rel.sub _ _ z2)⟩
    ·obtain⟨S1,st,rel1⟩:∃S1,Stp S s.M.length H S1 s.M.length H1∧Rel K ct H0 S1 s σ H1:=by
      rcases nx with rfl|⟨hc,qs,rfl,hq,hn⟩
      ·exact⟨S,.refl,rel⟩
      ·have hne:S.α k≠c':=fun z=>by rw[z,hc] at hP;cases hP
       have eU:upd (upd H (S.α k) (.tbl qs)) c' (LamX.CodeO c' q')=upd (upd H c' (LamX.CodeO c' q')) (S.α k) (.tbl qs):=by
        funext a
        by_cases z:a=c'
        ·subst z;rw[upd_same,upd_ne (fun z=>hne z.symm),upd_same]
        ·rw[upd_ne z]
         by_cases z2:a=S.α k
         ·subst z2;rw[upd_same,upd_same]
         ·rw[upd_ne z2,upd_ne z2,upd_ne z]
       rw[eU]
       have r1:=rel.new (o:=LamX.CodeO c' q') hc
       have hg:=rel.gN hc
       have r2:=r1.frz (p:=c') (o:=LamX.CodeO c' q') (by
        rcases q4w ct.lk (upd H c' (LamX.CodeO c' q')) c' with e|⟨o,k,e,_⟩|⟨o,k,e,_⟩
        ·rw[e];exact upd_same
        ·rw[upd_same] at e;unfold LamX.CodeO at e;cases e
        ·rw[upd_same] at e;unfold LamX.CodeO at e;cases e) (rel.labN hc) hg
       have cod:∀(l:PySem.Pos) (v:Value),PySem.codeAmong l qs.toList=some v→∃c,v = .ref c∧(S.frz c' (LamX.CodeO c' q')).G c=some (LamX.CodeO c q'):=fun l v hv=>by
        rcases hn l v hv with z|z
        ·obtain⟨c1,z1,z2⟩:=ha l v z
         exact⟨c1,z1,by show upd S.G c' _ c1=_;rw[upd_ne (ne_of_none z2 hg)];exact z2⟩
        ·exact⟨c',z,upd_same⟩
       have r3:=r2.setCell (k:=k) (c:=.tb (1000+k) q') (c':=.tb (1000+k) q') (o:=.tbl qs) hk (fun _ z=>by cases z) ⟨e0,qs,upd_same,hq,cod⟩
       have eM:s.M.set k (.tb (1000+k) q')=s.M:=by
        apply List.ext_getElem?
        intro j
        by_cases z:k=j
        ·subst z;rw[List.getElem?_set_self (List.getElem?_eq_some_iff.mp hk).1,hk]
        ·rw[List.getElem?_set_ne z]
       rw[eM] at r3
       refine⟨_,?_,r3⟩
       have s1:Stp S s.M.length H (S.frz c' (LamX.CodeO c' q')) s.M.length (upd H c' (LamX.CodeO c' q')):=Stp.frz hg (.inl hc) (fun a z=>(q1a.mp z).2) (fun a u z _=>by rw[upd_ne (ne_of_none z hc)];exact z) (fun a od u z=>by rw[upd_ne (ne_of_none z hc)];exact z)
       have hP2:upd H c' (LamX.CodeO c' q') (S.α k)=some (.tbl ps):=by rw[upd_ne hne];exact hP
       refine s1.trans ⟨fun _ _ e=>e,Nat.le_refl _,fun _ _=>rfl,fun a u e l=>⟨?_,l⟩,fun _ _ e=>.inl e,fun a e=>(q1a.mp e).2,fun a od u e=>?_⟩
       ·rw[upd_ne];· exact e
        intro z;subst z
        have l':S.lab (S.α k)=none:=l
        rw[hl] at l';cases l'
       ·rw[upd_ne];· exact e
        intro z;subst z
        rw[hP2] at e;cases e
     refine hm _ S1 s σ H1 _ rel1 ?_
     cases q2:m s with
     | no=>rw[q2] at p;exact p.elim
     | ok a s1=>rw[q2] at p;exact fun S' v H' st' rel' it=>p S' (.bl false) H' (st.trans st') rel' (.bl false)
     | er x s1 =>
      rw[q2] at p
      simp only[] at p
      split at p
      ·rename_i hc
       subst hc
       intro S' H' dd st' rel' xo
       refine⟨_,rfl,hx,?_,h1,h2,h3,h4,p S' (.bl true) H' (st.trans st') rel' (.bl true)⟩
       rcases xo with⟨_,z⟩|⟨d,fvs,z,z3,_⟩
       ·exact .inl z
       ·exact .inr ⟨d,fvs,z,uX' (rel'.sub _ _ z3)⟩
      ·exact p.elim
   ·exact p.elim
  | _=>exact p.elim
theorem q8k {k c:Nat} {q:Str} {m:Mo AI} {s:Stt} {QA:AI→Stt→Prop} {X:Exn→Stt→Prop} (h0:s.M[k]? = some (.tb (1000+k) q)) (h:Wo (fun _ s1=>QA (.val (.bl false)) s1) (fun x s1=>x.cls=c∧QA (.val (.bl true)) s1) (m s)):Wo QA X (mRef k c q m s):=by
 unfold mRef
 rw[h0]
 simp only[]
 rw[if_pos (by simp)]
 cases e:m s with
 | no=>rw[e] at h;exact h.elim
 | ok a s1=>rw[e] at h;exact h
 | er x s1 =>
  rw[e] at h
  obtain⟨h1,h2⟩:=h
  simp only[]
  rw[if_pos h1]
  exact h2
end
end Y
namespace Hd
open PySem PySem.Spec PyProof.Rows L2
/-- the table of the def's code object -/
def tabP (K:PySem.W.Frag) (p:Str×Option Str):Option (Addr×Addr):=match K.lookup (He.fAd K p) with
 | some ⟨_,_,.func fd,_⟩=>(match fd.code with
  | .ref c=>(match K.lookup c with
   | some ⟨_,_,.fields vs,_⟩=>(match(vs[11]?:Option Value) with
    | some (Value.ref P)=>some (c,P)
    | _=>none)
   | _=>none)
  | _=>none)
 | _=>none
def z5r (K:PySem.W.Frag) (x:Str):Bool:=decide (PySem.W.nsIn K mainGlobals x=some (some (.ref (He.fAd K (x,none)))))&&match tabP K (x,none) with
 | some (c,P)=>PySem.W.codeHdIn K c P&&((K.lookup P).isNone&&decide (mainGlobals≠P))
 | none=>false
structure LamT (K:PySem.W.Frag) (mg:Str→Option Value) (x:Str) (c P:Addr):Prop where
 at_:tabP K (x,none)=some (c,P)
 ex:∃(f:Addr) (o:Obj) (fd:FuncData) (e:Value) (dd:Option Addr) (vs:Array Value) (sl:Array (Option Value)),mg x=some (.ref f)∧K.lookup f=some o∧o.data = .func fd∧fd.code = .ref c∧K.lookup c=some ⟨e,dd,.fields vs,sl⟩∧vs[11]? = some (.ref P)
 hd:PySem.W.codeHdIn K c P=true
 no:K.lookup P=none
 ne:mainGlobals≠P
theorem q9v {K:PySem.W.Frag} {h:Heap} {mg:Str→Option Value} {x nm q:Str} {oc cd ct kV dc pm dV:Value} {od an:Option Addr} {sl:Array (Option Value)} {ar:Arguments} {b:List Stmt} {sc:Scope} (X:K.In h) (G:h.Ns mainGlobals mg) (hx:z5r K x=true)
  (l:K.lookup (He.fAd K (x,none))=some ⟨oc,od,.func (PySem.W.fnOf nm q ar b sc dV kV dc pm an cd ct),sl⟩):∃c P,cd = .ref c∧LamT K mg x c P:=by
 unfold z5r at hx
 obtain⟨h1,h2⟩:=He.ba hx
 cases e:tabP K (x,none) with
 | none=>rw[e] at h2;cases h2
 | some r =>
  obtain⟨c,P⟩:=r
  rw[e] at h2
  obtain⟨h3,h4⟩:=He.ba h2
  obtain⟨h4,h5⟩:=He.ba h4
  have e2:=e
  unfold tabP at e2
  rw[l] at e2
  dsimp only[PySem.W.fnOf] at e2
  cases cd with
  | ref c' =>
   dsimp only at e2
   cases q2:K.lookup c' with
   | none=>rw[q2] at e2;cases e2
   | some o2 =>
    obtain⟨oc2,od2,dt2,sl2⟩:=o2
    rw[q2] at e2
    cases dt2 with
    | fields vs =>
     dsimp only at e2
     split at e2
     ·rename_i P' hv
      cases e2
      exact⟨_,_,rfl,e,⟨_,_,_,_,_,_,_,PySem.W.mg_of X G (of_decide_eq_true h1),l,rfl,rfl,q2,hv⟩,h3,Option.isNone_iff_eq_none.mp h4,of_decide_eq_true h5⟩
     ·cases e2
    | _=>cases e2
  | _=>cases e2
theorem LamT.empty {K:PySem.W.Frag} {h:Heap} {mg:Str→Option Value} {x:Str} {c P:Addr} (t:LamT K mg x c P) (own:∀f,mg x=some (.ref f)→LamX.OwnTab K f h):h.get? P=some { cls:=.none,data:=.fields #[] }:=by
 obtain⟨f,o,fd,e,dd,vs,sl,h1,h2,h3,h4,h5,h6⟩:=t.ex
 exact own f h1 c P o fd e dd vs sl h2 h3 h4 h5 h6
/-- the law's end: the tables of the named defs are empty -/
theorem z7z {l:PySem.W.OpenLaw} {n k:Nat} {q:Program} {loose:List Str} {XP:(Str→Option Value)→Heap→Prop} {YP:World→Heap→Prop} {d:DefRec} {CX:World→CXT} {x:Str} (nms:List Str)
  (hn:l.most=some n) (hn2:n≤sizeLine) (hdf:d.params.defaults=[]) (hr:Room k callerA) (hrec:(nms.all fun y=>(recsOf q).any fun e=>e.name==y)=true)
  (F:∀(w:World) (mg:Str→Option Value) (fa:Addr) (h:Heap),YP w h→h.Ns mainGlobals mg→mg d.name=some (.ref fa)→∃K:PySem.W.Frag,K.In h∧((∀y∈nms,∀f,mg y=some (.ref f)→LamX.OwnTab K f h)→LamX.LawAtS l w K (CX w) k n x mg fa h))
  (hCX:∀(w:World) (H:Hp) (s:Shared) (e:Value) (s':Shared),CX w [] H s (fun _ _ _=>False) e s'→False):PySem.W.WalkO q loose XP YP l.row.toRowW d [] (fun f vs=>PySem.call f vs):=by
 refine(Att.attach_callB hn hdf fun w s₀ s₁ mg mb fa o pm cd doc a vs ns G Y ho hd hcd hmg hobj hints hlen hbits hg=>?_)
 obtain⟨K,KX,F'⟩:=F w mg fa _ Y G.T.g hmg
 have own:∀y∈nms,∀f,mg y=some (.ref f)→LamX.OwnTab K f s₁.heap:=fun y hy f hf c P o1 fd1 e dd vs1 sl k1 k2 k3 k4 k5=>by
  obtain⟨dL,hm,hn1⟩:=List.any_eq_true.mp (List.all_eq_true.mp hrec y hy)
  have hny:dL.name=y:=beq_iff_eq.mp hn1
  obtain⟨_,_,_,_,_,h1,h2,h3,h4,_,h6⟩:=G.T.tab dL hm
  rw[hny,hf] at h1
  cases h1
  rw[KX _ _ k1] at h2
  cases h2
  rw[k2] at h3
  cases h3
  rw[k3] at h4
  cases h4
  obtain⟨⟨_,_,e1,_,e3,e4⟩,hP⟩:=h6
  rw[KX _ _ k4] at e1
  cases e1
  cases e3
  rw[k5] at e4
  cases e4
  exact hP
 obtain⟨fd,cs,sp,hT,nT,C,hb,hsp,hF⟩:=F' own
 exact(LamX.law_callTs KX G.T.g G.T.b G.T.builtins G.T.nolimit hg hT nT C G.T.bmain hobj hints (Nat.le_trans hlen hn2) hr hF hb (fun H hH hS=>hsp H a ns hlen hbits hH hS) fun H e s'=>hCX w H s₁ e s':_)
end Hd
namespace Y
open PySem L2 Z
def z6e (K:PySem.W.Frag) (ps:List Addr):Sp:=fun vs H Q _=>∃(a:Addr) (ns:List Int),vs=[.ref a]∧SqL K H a (ns.map V.int)∧ns.length≤63∧(∀p∈ps,H p=some (.tbl #[]))∧∀H',Q (.bl true) H'
/-- how a law with three tables begins -/
theorem rel3 {K:PySem.W.Frag} {ct:Ct} {H:Hp} {p0 p1 p2:Addr} {q0 q1 q2:Str} (h0:H p0=some (.tbl #[])) (h1:H p1=some (.tbl #[])) (h2:H p2=some (.tbl #[])) (n01:p0≠p1) (n02:p0≠p2) (n12:p1≠p2) (e0:p0=ct 1000) (e1:p1=ct 1001) (e2:p2=ct 1002) (hlk:ct.lk=none) :
  ∃S:Sh,Rel K ct H S ⟨[],[.tb 1000 q0,.tb 1001 q1,.tb 1002 q2]⟩ [] H∧∀a o,H a=some o→(∀ps,o≠.tbl ps)→S.G a=some o:=by
 have tb:∀{G:Hp} {α:Nat→Addr} {lab:Addr→Option Lab} {n k:Nat} {p:Addr} {q:Str},p=ct k→H p=some (.tbl #[])→CnOk K ct ⟨G,α,lab⟩ n H p (.tb k q):=fun e h=>⟨e,#[],h,True.intro,fun l v z=>by
  have z:codeAmong l []=some v:=z
  simp[codeAmong] at z⟩
 refine⟨⟨fun a=>if a=p0∨a=p1∨a=p2 then none else H a,fun k=>match k with|0=>p0|1=>p1|_=>p2,fun a=>if a=p0 then some (.id 0) else if a=p1 then some (.id 1) else if a=p2 then some (.id 2) else none⟩,⟨?_,?_,fun _ h=>h,rfl,fun i e h=>by simp at h,?_⟩,fun a o h n=>?_⟩
 ·intro a o e
  rw[hlk,U0]
  have e:(if a=p0∨a=p1∨a=p2 then none else H a)=some o:=e
  split at e
  ·cases e
  ·exact e
 ·intro a l e
  have e:(if a=p0 then some (.id 0) else if a=p1 then some (.id 1) else if a=p2 then some (.id 2) else none)=some l:=e
  show(if a=p0∨a=p1∨a=p2 then none else H a)=none∧_
  by_cases z0:a=p0
  ·subst z0;exact⟨if_pos (.inl rfl),_,h0,fun _ z=>by cases z⟩
  ·rw[if_neg z0] at e
   by_cases z1:a=p1
   ·subst z1;exact⟨if_pos (.inr (.inl rfl)),_,h1,fun _ z=>by cases z⟩
   ·rw[if_neg z1] at e
    by_cases z2:a=p2
    ·subst z2;exact⟨if_pos (.inr (.inr rfl)),_,h2,fun _ z=>by cases z⟩
    ·rw[if_neg z2] at e;cases e
 ·intro k c hk
  match k,hk with
  | 0,hk=>cases hk;exact⟨if_pos rfl,tb e0 h0⟩
  | 1,hk=>cases hk;exact⟨by show(if p1=p0 then _ else if p1=p1 then _ else _)=_;rw[if_neg (Ne.symm n01),if_pos rfl],tb e1 h1⟩
  | 2,hk=>cases hk;exact⟨by show(if p2=p0 then _ else if p2=p1 then _ else if p2=p2 then _ else _)=_;rw[if_neg (Ne.symm n02),if_neg (Ne.symm n12),if_pos rfl],tb e2 h2⟩
  | k+3,hk=>simp at hk
 ·show(if a=p0∨a=p1∨a=p2 then none else H a)=some o
  rw[if_neg]
  ·exact h
  ·rintro(z|z|z)
   ·subst z;rw[h0] at h;cases h;exact n _ rfl
   ·subst z;rw[h1] at h;cases h;exact n _ rfl
   ·subst z;rw[h2] at h;cases h;exact n _ rfl
theorem j7v {K:PySem.W.Frag} {H G:Hp} {a:Addr} {vs:List V} (h:SqL K H a vs) (g:∀a o,H a=some o→(∀ps,o≠.tbl ps)→G a=some o):SqL K G a vs:=by
 rcases h with(h|⟨o,h⟩)|h
 ·exact .inl (.inl (g _ _ h fun _ z=>by cases z))
 ·exact .inl (.inr ⟨o,g _ _ h fun _ z=>by cases z⟩)
 ·exact .inr h
end Y
namespace K14
open PySem L2 Z Y
def top (i:Nat):Stmt:=PySem.Challenge.pw_tornshelf_k14_tables_refused.main.body.getD i (.Pass ⟨0,0,0,0⟩)
abbrev q0q:Stmt:=(inClass (top 3) 0)
theorem q7g:FnScope ["self","words","at"] ["self","words","at"] (defScope q0q):=⟨rfl,rfl,rfl,by decide +kernel,rfl,by decide +kernel,by decide +kernel⟩
abbrev q2p:Stmt:=(top 8)
theorem z1u:FnScope ["thing"] ["thing"] (defScope q2p):=⟨rfl,rfl,rfl,by decide +kernel,rfl,by decide +kernel,by decide +kernel⟩
abbrev q1q:Stmt:=(top 9)
theorem q4s:FnScope ["thing","low","high","number"] ["thing","low","high"] (defScope q1q):=⟨rfl,rfl,rfl,by decide +kernel,rfl,by decide +kernel,by decide +kernel⟩
abbrev q1h:Stmt:=(top 10)
theorem q7v:FnScope ["counts"] ["counts"] (defScope q1h):=⟨rfl,rfl,rfl,by decide +kernel,rfl,by decide +kernel,by decide +kernel⟩
abbrev q2u:Stmt:=(top 11)
theorem q6v:FnScope ["lengths","length"] ["lengths"] (defScope q2u):=⟨rfl,rfl,rfl,by decide +kernel,rfl,by decide +kernel,by decide +kernel⟩
abbrev q6a:Stmt:=(top 12)
theorem j4d:FnScope ["lengths"] ["lengths"] (defScope q6a):=⟨rfl,rfl,rfl,by decide +kernel,rfl,by decide +kernel,by decide +kernel⟩
abbrev q1c:Stmt:=(top 13)
theorem q7j:FnScope ["lengths"] ["lengths"] (defScope q1c):=⟨rfl,rfl,rfl,by decide +kernel,rfl,by decide +kernel,by decide +kernel⟩
abbrev q1n:Stmt:=(top 14)
theorem q3l:FnScope ["counts","found","symbol","count"] ["counts"] (defScope q1n):=⟨rfl,rfl,rfl,by decide +kernel,rfl,by decide +kernel,by decide +kernel⟩
abbrev q1p:Stmt:=(top 15)
theorem q3r:FnScope ["parts","number","weight"] ["parts"] (defScope q1p):=⟨rfl,rfl,rfl,by decide +kernel,rfl,by decide +kernel,by decide +kernel⟩
abbrev q2o:Stmt:=(top 16)
theorem q2y:FnScope ["counts","parts","paper","one","weight","other"] ["counts"] (defScope q2o):=⟨rfl,rfl,rfl,by decide +kernel,rfl,by decide +kernel,by decide +kernel⟩
abbrev q2t:Stmt:=(top 17)
theorem q6n:FnScope ["pair","parts","number"] ["pair","parts"] (defScope q2t):=⟨rfl,rfl,rfl,by decide +kernel,rfl,by decide +kernel,by decide +kernel⟩
abbrev q1g:Stmt:=(top 18)
theorem q5g:FnScope ["pair","parts","number","at","weights"] ["pair","parts","number","at"] (defScope q1g):=⟨rfl,rfl,rfl,by decide +kernel,rfl,by decide +kernel,by decide +kernel⟩
abbrev q1m:Stmt:=(top 19)
theorem q2e:FnScope ["counts","paper","parts","bits","at","pair"] ["counts","paper"] (defScope q1m):=⟨rfl,rfl,rfl,by decide +kernel,rfl,by decide +kernel,by decide +kernel⟩
abbrev q1r:Stmt:=(top 20)
theorem q1w:FnScope ["counts","paper","deep","at","above","number","found","symbol"] ["counts","paper"] (defScope q1r):=⟨rfl,rfl,rfl,by decide +kernel,rfl,by decide +kernel,by decide +kernel⟩
abbrev q1d:Stmt:=(top 21)
theorem q7i:FnScope ["counts"] ["counts"] (defScope q1d):=⟨rfl,rfl,rfl,by decide +kernel,rfl,by decide +kernel,by decide +kernel⟩
abbrev q2n:Stmt:=(top 22)
theorem q3t:FnScope ["counts","lengths","symbol","count","length"] ["counts","lengths"] (defScope q2n):=⟨rfl,rfl,rfl,by decide +kernel,rfl,by decide +kernel,by decide +kernel⟩
abbrev q2b:Stmt:=(top 24)
theorem q1l:FnScope ["lengths","found","number","last","length","symbol"] ["lengths"] (defScope q2b):=⟨rfl,rfl,rfl,by decide +kernel,rfl,by decide +kernel,by decide +kernel⟩
abbrev q0u:Stmt:=(top 25)
theorem q1e:FnScope ["lengths","found","symbol","word","many","beginning","symbols"] ["lengths"] (defScope q0u):=⟨rfl,rfl,rfl,by decide +kernel,rfl,by decide +kernel,by decide +kernel⟩
abbrev q2d:Stmt:=(top 27)
theorem z0p:FnScope ["_law_script","_law_k"] ["_law_script","_law_k"] (defScope q2d):=⟨rfl,rfl,rfl,by decide +kernel,rfl,by decide +kernel,by decide +kernel⟩
abbrev q3f:Stmt:=(top 28)
theorem q6w:FnScope ["_law_cell","_law_k","_law_number"] ["_law_cell","_law_k"] (defScope q3f):=⟨rfl,rfl,rfl,by decide +kernel,rfl,by decide +kernel,by decide +kernel⟩
abbrev q1s:Stmt:=(top 29)
theorem q0z:FnScope ["_law_deed","_law_found","e"] ["_law_deed"] (defScope q1s):=⟨rfl,rfl,rfl,by decide +kernel,rfl,by decide +kernel,by decide +kernel⟩
abbrev q4r:Stmt:=(top 30)
theorem q9l:FnScope ["_law_good","_law_most","_law_number","_law_at","_law_some"] ["_law_good","_law_most","_law_number"] (defScope q4r):=⟨rfl,rfl,rfl,by decide +kernel,rfl,by decide +kernel,by decide +kernel⟩
abbrev q0k:Stmt:=(top 31)
theorem q3y:FnScope ["_law_counts","_law_paper","_law_found"] ["_law_counts","_law_paper"] (defScope q0k):=⟨rfl,rfl,rfl,by decide +kernel,rfl,by decide +kernel,by decide +kernel⟩
abbrev q0l:Stmt:=(top 32)
theorem q3q:FnScope ["_law_lengths","_law_found"] ["_law_lengths"] (defScope q0l):=⟨rfl,rfl,rfl,by decide +kernel,rfl,by decide +kernel,by decide +kernel⟩
abbrev q6h:Stmt:=(top 33)
theorem q4f:FnScope ["_law_script","_law_k","_law_number","_law_more","_law_counts","_law_bad_here","_law_lengths","_law_full","_law_j"] ["_law_script"] (defScope q6h):=⟨rfl,rfl,rfl,by decide +kernel,rfl,by decide +kernel,by decide +kernel⟩
set_option genInjectivity false
set_option genSizeOf false
structure Tx (K:PySem.W.Frag) (mg:Str→Option Value) where
 a_BadPaper_init:Addr
 d_BadPaper_init:FuncData
 F_BadPaper_init:Fun K "__init__" "BadPaper.__init__" q0q a_BadPaper_init d_BadPaper_init
 b_BadPaper_init:Binds K d_BadPaper_init ["self","words","at"] []
 a_is_whole:Addr
 d_is_whole:FuncData
 F_is_whole:Fun K "is_whole" "is_whole" q2p a_is_whole d_is_whole
 b_is_whole:Binds K d_is_whole ["thing"] []
 g_is_whole:mg "is_whole" = some (.ref a_is_whole)
 a_is_list_of:Addr
 d_is_list_of:FuncData
 F_is_list_of:Fun K "is_list_of" "is_list_of" q1q a_is_list_of d_is_list_of
 b_is_list_of:Binds K d_is_list_of ["thing","low","high"] []
 g_is_list_of:mg "is_list_of" = some (.ref a_is_list_of)
 a_check_counts:Addr
 d_check_counts:FuncData
 F_check_counts:Fun K "check_counts" "check_counts" q1h a_check_counts d_check_counts
 b_check_counts:Binds K d_check_counts ["counts"] []
 g_check_counts:mg "check_counts" = some (.ref a_check_counts)
 a_room_of:Addr
 d_room_of:FuncData
 F_room_of:Fun K "room_of" "room_of" q2u a_room_of d_room_of
 b_room_of:Binds K d_room_of ["lengths"] []
 g_room_of:mg "room_of" = some (.ref a_room_of)
 a_fits:Addr
 d_fits:FuncData
 F_fits:Fun K "fits" "fits" q6a a_fits d_fits
 b_fits:Binds K d_fits ["lengths"] []
 g_fits:mg "fits" = some (.ref a_fits)
 a_check_lengths:Addr
 d_check_lengths:FuncData
 F_check_lengths:Fun K "check_lengths" "check_lengths" q1c a_check_lengths d_check_lengths
 b_check_lengths:Binds K d_check_lengths ["lengths"] []
 g_check_lengths:mg "check_lengths" = some (.ref a_check_lengths)
 a_first_parts:Addr
 d_first_parts:FuncData
 F_first_parts:Fun K "first_parts" "first_parts" q1n a_first_parts d_first_parts
 b_first_parts:Binds K d_first_parts ["counts"] []
 g_first_parts:mg "first_parts" = some (.ref a_first_parts)
 a_least_part:Addr
 d_least_part:FuncData
 F_least_part:Fun K "least_part" "least_part" q1p a_least_part d_least_part
 b_least_part:Binds K d_least_part ["parts"] []
 g_least_part:mg "least_part" = some (.ref a_least_part)
 a_pairs_of:Addr
 d_pairs_of:FuncData
 F_pairs_of:Fun K "pairs_of" "pairs_of" q2o a_pairs_of d_pairs_of
 b_pairs_of:Binds K d_pairs_of ["counts"] []
 g_pairs_of:mg "pairs_of" = some (.ref a_pairs_of)
 a_is_pair:Addr
 d_is_pair:FuncData
 F_is_pair:Fun K "is_pair" "is_pair" q2t a_is_pair d_is_pair
 b_is_pair:Binds K d_is_pair ["pair","parts"] []
 g_is_pair:mg "is_pair" = some (.ref a_is_pair)
 a_put_together:Addr
 d_put_together:FuncData
 F_put_together:Fun K "put_together" "put_together" q1g a_put_together d_put_together
 b_put_together:Binds K d_put_together ["pair","parts","number","at"] []
 g_put_together:mg "put_together" = some (.ref a_put_together)
 a_check_paper:Addr
 d_check_paper:FuncData
 F_check_paper:Fun K "check_paper" "check_paper" q1m a_check_paper d_check_paper
 b_check_paper:Binds K d_check_paper ["counts","paper"] []
 g_check_paper:mg "check_paper" = some (.ref a_check_paper)
 a_lengths_by:Addr
 d_lengths_by:FuncData
 F_lengths_by:Fun K "lengths_by" "lengths_by" q1r a_lengths_by d_lengths_by
 b_lengths_by:Binds K d_lengths_by ["counts","paper"] []
 g_lengths_by:mg "lengths_by" = some (.ref a_lengths_by)
 a_least_lengths:Addr
 d_least_lengths:FuncData
 F_least_lengths:Fun K "least_lengths" "least_lengths" q1d a_least_lengths d_least_lengths
 b_least_lengths:Binds K d_least_lengths ["counts"] []
 g_least_lengths:mg "least_lengths" = some (.ref a_least_lengths)
 a_bits_of:Addr
 d_bits_of:FuncData
 F_bits_of:Fun K "bits_of" "bits_of" q2n a_bits_of d_bits_of
 b_bits_of:Binds K d_bits_of ["counts","lengths"] []
 g_bits_of:mg "bits_of" = some (.ref a_bits_of)
 a_words_of:Addr
 d_words_of:FuncData
 F_words_of:Fun K "words_of" "words_of" q2b a_words_of d_words_of
 b_words_of:Binds K d_words_of ["lengths"] []
 g_words_of:mg "words_of" = some (.ref a_words_of)
 a_beginnings_of:Addr
 d_beginnings_of:FuncData
 F_beginnings_of:Fun K "beginnings_of" "beginnings_of" q0u a_beginnings_of d_beginnings_of
 b_beginnings_of:Binds K d_beginnings_of ["lengths"] []
 g_beginnings_of:mg "beginnings_of" = some (.ref a_beginnings_of)
 a_l_cell_at:Addr
 d_l_cell_at:FuncData
 F_l_cell_at:Fun K "_law_cell_at" "_law_cell_at" q2d a_l_cell_at d_l_cell_at
 b_l_cell_at:Binds K d_l_cell_at ["_law_script","_law_k"] []
 g_l_cell_at:mg "_law_cell_at" = some (.ref a_l_cell_at)
 a_l_mixed:Addr
 d_l_mixed:FuncData
 F_l_mixed:Fun K "_law_mixed" "_law_mixed" q3f a_l_mixed d_l_mixed
 b_l_mixed:Binds K d_l_mixed ["_law_cell","_law_k"] []
 g_l_mixed:mg "_law_mixed" = some (.ref a_l_mixed)
 a_l_refused:Addr
 d_l_refused:FuncData
 F_l_refused:Fun K "_law_refused" "_law_refused" q1s a_l_refused d_l_refused
 b_l_refused:Binds K d_l_refused ["_law_deed"] []
 g_l_refused:mg "_law_refused" = some (.ref a_l_refused)
 a_l_bad:Addr
 d_l_bad:FuncData
 F_l_bad:Fun K "_law_bad" "_law_bad" q4r a_l_bad d_l_bad
 b_l_bad:Binds K d_l_bad ["_law_good","_law_most","_law_number"] []
 g_l_bad:mg "_law_bad" = some (.ref a_l_bad)
 a_l_counts_refused:Addr
 d_l_counts_refused:FuncData
 F_l_counts_refused:Fun K "_law_counts_refused" "_law_counts_refused" q0k a_l_counts_refused d_l_counts_refused
 b_l_counts_refused:Binds K d_l_counts_refused ["_law_counts","_law_paper"] []
 g_l_counts_refused:mg "_law_counts_refused" = some (.ref a_l_counts_refused)
 a_l_lengths_refused:Addr
 d_l_lengths_refused:FuncData
 F_l_lengths_refused:Fun K "_law_lengths_refused" "_law_lengths_refused" q0l a_l_lengths_refused d_l_lengths_refused
 b_l_lengths_refused:Binds K d_l_lengths_refused ["_law_lengths"] []
 g_l_lengths_refused:mg "_law_lengths_refused" = some (.ref a_l_lengths_refused)
 a_law:Addr
 d_law:FuncData
 F_law:Fun K "law" "law" q6h a_law d_law
 b_law:Binds K d_law ["_law_script"] []
 g_law:mg "law" = some (.ref a_law)
 C_ShelfError:Addr
 C_BadTable:Addr
 C_BadPaper:Addr
 g_ShelfError:mg "ShelfError" = some (.ref C_ShelfError)
 k_ShelfError:PySem.W.keepIn K (.ref C_ShelfError)=true
 b_ShelfError:PySem.W.subIn K (.ref C_ShelfError) (.type "BaseException")=some true
 t_ShelfError:PySem.W.typeIn K (.ref C_ShelfError)=some (.type "type")
 i_ShelfError:PySem.W.isClsIn K C_ShelfError=true
 rd_ShelfError:PySem.W.readsIn K C_ShelfError (.type "type")=true
 ra_ShelfError:PySem.W.specialIn K (.ref C_ShelfError) "__getattribute__" = some (some (.builtin "type.__getattribute__"))
 ri_ShelfError:PySem.W.findCls K (.ref C_ShelfError) (.type "type") "__init__" = some (.val (.builtin "ValueError.__init__"))
 g_BadTable:mg "BadTable" = some (.ref C_BadTable)
 k_BadTable:PySem.W.keepIn K (.ref C_BadTable)=true
 b_BadTable:PySem.W.subIn K (.ref C_BadTable) (.type "BaseException")=some true
 t_BadTable:PySem.W.typeIn K (.ref C_BadTable)=some (.type "type")
 i_BadTable:PySem.W.isClsIn K C_BadTable=true
 x_BadTable:PySem.W.excIn K C_BadTable [.type "ValueError",.type "Exception",.type "BaseException",.type "object"] "ValueError.__new__" = true
 gb_BadTable:PySem.W.findIn K (.ref C_BadTable) "__getattribute__" = some (some (.builtin "BaseException.__getattribute__"))
 gg_BadTable:PySem.W.findIn K (.ref C_BadTable) "__getattr__" = some none
 hd_BadTable:PySem.W.hasDictIn K C_BadTable=true
 ca_BadTable:PySem.W.findIn K (.ref C_BadTable) "__class__" = some (some (.builtin "object.__class__"))
 cn_BadTable:PySem.W.specialIn K (.builtin "object.__class__") "__get__" = some (some (.builtin "getset_descriptor.__get__"))
 ct_BadTable:PySem.W.takesIn K (.builtin "object.__class__")=some true
 cm_BadTable:PySem.W.mroIn K C_BadTable (.type "object")=some true
 xc_BadTable:ExcC K C_BadTable
 q_BadTable_BadPaper:PySem.W.kitOne K (.ref C_BadTable) (.ref C_BadPaper)=some false
 q_BadTable_BadTable:PySem.W.kitOne K (.ref C_BadTable) (.ref C_BadTable)=some true
 q_BadTable_ValueError:PySem.W.kitOne K (.ref C_BadTable) (.type "ValueError")=some true
 g_BadPaper:mg "BadPaper" = some (.ref C_BadPaper)
 k_BadPaper:PySem.W.keepIn K (.ref C_BadPaper)=true
 b_BadPaper:PySem.W.subIn K (.ref C_BadPaper) (.type "BaseException")=some true
 t_BadPaper:PySem.W.typeIn K (.ref C_BadPaper)=some (.type "type")
 i_BadPaper:PySem.W.isClsIn K C_BadPaper=true
 sa_BadPaper:PySem.W.findIn K (.ref C_BadPaper) "__setattr__" = some (some (.builtin "object.__setattr__"))
 iC_BadPaper:PySem.W.findIn K (.ref C_BadPaper) "__init__" = some (some (.ref a_BadPaper_init))
 n_at_BadPaper:PySem.W.findIn K (.ref C_BadPaper) "at" = some none
 gb_BadPaper:PySem.W.findIn K (.ref C_BadPaper) "__getattribute__" = some (some (.builtin "BaseException.__getattribute__"))
 gg_BadPaper:PySem.W.findIn K (.ref C_BadPaper) "__getattr__" = some none
 hd_BadPaper:PySem.W.hasDictIn K C_BadPaper=true
 ca_BadPaper:PySem.W.findIn K (.ref C_BadPaper) "__class__" = some (some (.builtin "object.__class__"))
 cn_BadPaper:PySem.W.specialIn K (.builtin "object.__class__") "__get__" = some (some (.builtin "getset_descriptor.__get__"))
 ct_BadPaper:PySem.W.takesIn K (.builtin "object.__class__")=some true
 cm_BadPaper:PySem.W.mroIn K C_BadPaper (.type "object")=some true
 xc_BadPaper:ExcC K C_BadPaper
 ox_BadPaper:OexC K C_BadPaper
 tI_BadPaper:PySem.W.typeIn K (.ref a_BadPaper_init)=some (.type "function")
 q_BadPaper_BadPaper:PySem.W.kitOne K (.ref C_BadPaper) (.ref C_BadPaper)=some true
 q_BadPaper_BadTable:PySem.W.kitOne K (.ref C_BadPaper) (.ref C_BadTable)=some false
 q_BadPaper_ValueError:PySem.W.kitOne K (.ref C_BadPaper) (.type "ValueError")=some true
 e_BadPaper_BadPaper:PySem.W.exmOne K (.ref C_BadPaper) (.ref C_BadPaper)=some true
 e_BadPaper_BadTable:PySem.W.exmOne K (.ref C_BadPaper) (.ref C_BadTable)=some false
 e_BadPaper_ShelfError:PySem.W.exmOne K (.ref C_BadPaper) (.ref C_ShelfError)=some true
 e_BadTable_BadPaper:PySem.W.exmOne K (.ref C_BadTable) (.ref C_BadPaper)=some false
 e_BadTable_BadTable:PySem.W.exmOne K (.ref C_BadTable) (.ref C_BadTable)=some true
 e_BadTable_ShelfError:PySem.W.exmOne K (.ref C_BadTable) (.ref C_ShelfError)=some true
 z_ValueError:mg "ValueError" = none
 z_all:mg "all" = none
 z_bool:mg "bool" = none
 z_dict:mg "dict" = none
 z_enumerate:mg "enumerate" = none
 z_int:mg "int" = none
 z_isinstance:mg "isinstance" = none
 z_len:mg "len" = none
 z_list:mg "list" = none
 z_max:mg "max" = none
 z_min:mg "min" = none
 z_range:mg "range" = none
 z_sorted:mg "sorted" = none
 z_sum:mg "sum" = none
 z_tuple:mg "tuple" = none
 z_zip:mg "zip" = none
 u_MOST_SYMBOLS:Value
 m_MOST_SYMBOLS:mg "MOST_SYMBOLS" = some u_MOST_SYMBOLS
 r_MOST_SYMBOLS:RelV (.int 64) u_MOST_SYMBOLS
 u_MOST_COUNT:Value
 m_MOST_COUNT:mg "MOST_COUNT" = some u_MOST_COUNT
 r_MOST_COUNT:RelV (.int 1000) u_MOST_COUNT
 u_LONGEST:Value
 m_LONGEST:mg "LONGEST" = some u_LONGEST
 r_LONGEST:RelV (.int 15) u_LONGEST
 tc_l_counts_refused:Addr
 tp_l_counts_refused:Addr
 L_l_counts_refused:FunC K "_law_counts_refused" "_law_counts_refused" q0k a_l_counts_refused d_l_counts_refused tc_l_counts_refused
 tc_l_lengths_refused:Addr
 tp_l_lengths_refused:Addr
 L_l_lengths_refused:FunC K "_law_lengths_refused" "_law_lengths_refused" q0l a_l_lengths_refused d_l_lengths_refused tc_l_lengths_refused
 tc_law:Addr
 tp_law:Addr
 L_law:FunC K "law" "law" q6h a_law d_law tc_law
set_option genInjectivity true
set_option genSizeOf true
def q0n:Str:=(Str.ofString "_law_counts_refused" ++ ".<locals>.") ++ "<lambda>"
def q0p:Str:=(Str.ofString "_law_lengths_refused" ++ ".<locals>.") ++ "<lambda>"
def z1f:Str:=(Str.ofString "law" ++ ".<locals>.") ++ "<lambda>"
def TbB {K:PySem.W.Frag} {mg:Str→Option Value} (T:Tx K mg) (base:Heap):Prop:=LamX.TabB base mg T.tc_l_counts_refused T.tp_l_counts_refused∧LamX.TabB base mg T.tc_l_lengths_refused T.tp_l_lengths_refused∧LamX.TabB base mg T.tc_law T.tp_law
def ctT {K:PySem.W.Frag} {mg:Str→Option Value} (T:Tx K mg):Ct:=⟨fun n=>match n with
 | 0=>T.C_ShelfError
 | 1=>T.C_BadTable
 | 2=>T.C_BadPaper
 | 1000=>T.tp_l_counts_refused
 | 1001=>T.tp_l_lengths_refused
 | 1002=>T.tp_law
 | _=>0,none,none⟩
def q3p:He.FnD:=⟨("BadPaper",some "__init__"),"__init__","BadPaper.__init__",defArgs q0q,defBody q0q,defScope q0q⟩
def q3n:List He.FnD:=[⟨("BadPaper",some "__init__"),"__init__","BadPaper.__init__",defArgs q0q,defBody q0q,defScope q0q⟩,
 ⟨("is_whole",none),"is_whole","is_whole",defArgs q2p,defBody q2p,defScope q2p⟩,
 ⟨("is_list_of",none),"is_list_of","is_list_of",defArgs q1q,defBody q1q,defScope q1q⟩,
 ⟨("check_counts",none),"check_counts","check_counts",defArgs q1h,defBody q1h,defScope q1h⟩,
 ⟨("room_of",none),"room_of","room_of",defArgs q2u,defBody q2u,defScope q2u⟩,
 ⟨("fits",none),"fits","fits",defArgs q6a,defBody q6a,defScope q6a⟩,
 ⟨("check_lengths",none),"check_lengths","check_lengths",defArgs q1c,defBody q1c,defScope q1c⟩,
 ⟨("first_parts",none),"first_parts","first_parts",defArgs q1n,defBody q1n,defScope q1n⟩,
 ⟨("least_part",none),"least_part","least_part",defArgs q1p,defBody q1p,defScope q1p⟩,
 ⟨("pairs_of",none),"pairs_of","pairs_of",defArgs q2o,defBody q2o,defScope q2o⟩,
 ⟨("is_pair",none),"is_pair","is_pair",defArgs q2t,defBody q2t,defScope q2t⟩,
 ⟨("put_together",none),"put_together","put_together",defArgs q1g,defBody q1g,defScope q1g⟩,
 ⟨("check_paper",none),"check_paper","check_paper",defArgs q1m,defBody q1m,defScope q1m⟩,
 ⟨("lengths_by",none),"lengths_by","lengths_by",defArgs q1r,defBody q1r,defScope q1r⟩,
 ⟨("least_lengths",none),"least_lengths","least_lengths",defArgs q1d,defBody q1d,defScope q1d⟩,
 ⟨("bits_of",none),"bits_of","bits_of",defArgs q2n,defBody q2n,defScope q2n⟩,
 ⟨("words_of",none),"words_of","words_of",defArgs q2b,defBody q2b,defScope q2b⟩,
 ⟨("beginnings_of",none),"beginnings_of","beginnings_of",defArgs q0u,defBody q0u,defScope q0u⟩,
 ⟨("_law_cell_at",none),"_law_cell_at","_law_cell_at",defArgs q2d,defBody q2d,defScope q2d⟩,
 ⟨("_law_mixed",none),"_law_mixed","_law_mixed",defArgs q3f,defBody q3f,defScope q3f⟩,
 ⟨("_law_refused",none),"_law_refused","_law_refused",defArgs q1s,defBody q1s,defScope q1s⟩,
 ⟨("_law_bad",none),"_law_bad","_law_bad",defArgs q4r,defBody q4r,defScope q4r⟩,
 ⟨("_law_counts_refused",none),"_law_counts_refused","_law_counts_refused",defArgs q0k,defBody q0k,defScope q0k⟩,
 ⟨("_law_lengths_refused",none),"_law_lengths_refused","_law_lengths_refused",defArgs q0l,defBody q0l,defScope q0l⟩,
 ⟨("law",none),"law","law",defArgs q6h,defBody q6h,defScope q6h⟩]
def zHfn:List He.FnD:=q3n
def w2k:List He.DefD:=[]
def zHfd:List He.DefD:=w2k
def zHx0:List (PySem.W.Frag→Bool):=[fun K=>Hd.z5r K "_law_counts_refused",
 fun K=>Hd.z5r K "_law_lengths_refused",
 fun K=>Hd.z5r K "law",
 fun K=>Hd.j4p K (He.ga K "BadPaper") [.ref (He.ga K "ShelfError"),.type "ValueError",.type "Exception",.type "BaseException",.type "object"],
 fun K=>Hd.z5i K "MOST_SYMBOLS" (V.int 64),
 fun K=>Hd.z5i K "MOST_COUNT" (V.int 1000),
 fun K=>Hd.z5i K "LONGEST" (V.int 15),
 fun K=>decide (PySem.W.findIn K (.ref (He.ga K "BadPaper")) "__init__" = some (some (.ref (He.fAd K ("BadPaper",some "__init__"))))),
 fun K=>PySem.W.isFn K (.ref (He.fAd K ("BadPaper",some "__init__"))),
 fun K=>PySem.W.keepIn K (.ref (He.fAd K ("BadPaper",some "__init__"))),
 fun K=>decide (PySem.W.nsIn K mainGlobals "is_whole" = some (some (.ref (He.fAd K ("is_whole",none))))),
 fun K=>PySem.W.keepIn K (.ref (He.fAd K ("is_whole",none))),
 fun K=>decide (PySem.W.nsIn K mainGlobals "is_list_of" = some (some (.ref (He.fAd K ("is_list_of",none))))),
 fun K=>PySem.W.keepIn K (.ref (He.fAd K ("is_list_of",none))),
 fun K=>decide (PySem.W.nsIn K mainGlobals "check_counts" = some (some (.ref (He.fAd K ("check_counts",none))))),
 fun K=>PySem.W.keepIn K (.ref (He.fAd K ("check_counts",none))),
 fun K=>decide (PySem.W.nsIn K mainGlobals "room_of" = some (some (.ref (He.fAd K ("room_of",none))))),
 fun K=>PySem.W.keepIn K (.ref (He.fAd K ("room_of",none))),
 fun K=>decide (PySem.W.nsIn K mainGlobals "fits" = some (some (.ref (He.fAd K ("fits",none))))),
 fun K=>PySem.W.keepIn K (.ref (He.fAd K ("fits",none))),
 fun K=>decide (PySem.W.nsIn K mainGlobals "check_lengths" = some (some (.ref (He.fAd K ("check_lengths",none))))),
 fun K=>PySem.W.keepIn K (.ref (He.fAd K ("check_lengths",none))),
 fun K=>decide (PySem.W.nsIn K mainGlobals "first_parts" = some (some (.ref (He.fAd K ("first_parts",none))))),
 fun K=>PySem.W.keepIn K (.ref (He.fAd K ("first_parts",none))),
 fun K=>decide (PySem.W.nsIn K mainGlobals "least_part" = some (some (.ref (He.fAd K ("least_part",none))))),
 fun K=>PySem.W.keepIn K (.ref (He.fAd K ("least_part",none))),
 fun K=>decide (PySem.W.nsIn K mainGlobals "pairs_of" = some (some (.ref (He.fAd K ("pairs_of",none))))),
 fun K=>PySem.W.keepIn K (.ref (He.fAd K ("pairs_of",none))),
 fun K=>decide (PySem.W.nsIn K mainGlobals "is_pair" = some (some (.ref (He.fAd K ("is_pair",none))))),
 fun K=>PySem.W.keepIn K (.ref (He.fAd K ("is_pair",none))),
 fun K=>decide (PySem.W.nsIn K mainGlobals "put_together" = some (some (.ref (He.fAd K ("put_together",none))))),
 fun K=>PySem.W.keepIn K (.ref (He.fAd K ("put_together",none))),
 fun K=>decide (PySem.W.nsIn K mainGlobals "check_paper" = some (some (.ref (He.fAd K ("check_paper",none))))),
 fun K=>PySem.W.keepIn K (.ref (He.fAd K ("check_paper",none))),
 fun K=>decide (PySem.W.nsIn K mainGlobals "lengths_by" = some (some (.ref (He.fAd K ("lengths_by",none))))),
 fun K=>PySem.W.keepIn K (.ref (He.fAd K ("lengths_by",none))),
 fun K=>decide (PySem.W.nsIn K mainGlobals "least_lengths" = some (some (.ref (He.fAd K ("least_lengths",none))))),
 fun K=>PySem.W.keepIn K (.ref (He.fAd K ("least_lengths",none))),
 fun K=>decide (PySem.W.nsIn K mainGlobals "bits_of" = some (some (.ref (He.fAd K ("bits_of",none))))),
 fun K=>PySem.W.keepIn K (.ref (He.fAd K ("bits_of",none)))]
def zHx1:List (PySem.W.Frag→Bool):=[fun K=>decide (PySem.W.nsIn K mainGlobals "words_of" = some (some (.ref (He.fAd K ("words_of",none))))),
 fun K=>PySem.W.keepIn K (.ref (He.fAd K ("words_of",none))),
 fun K=>decide (PySem.W.nsIn K mainGlobals "beginnings_of" = some (some (.ref (He.fAd K ("beginnings_of",none))))),
 fun K=>PySem.W.keepIn K (.ref (He.fAd K ("beginnings_of",none))),
 fun K=>decide (PySem.W.nsIn K mainGlobals "_law_cell_at" = some (some (.ref (He.fAd K ("_law_cell_at",none))))),
 fun K=>PySem.W.keepIn K (.ref (He.fAd K ("_law_cell_at",none))),
 fun K=>decide (PySem.W.nsIn K mainGlobals "_law_mixed" = some (some (.ref (He.fAd K ("_law_mixed",none))))),
 fun K=>PySem.W.keepIn K (.ref (He.fAd K ("_law_mixed",none))),
 fun K=>decide (PySem.W.nsIn K mainGlobals "_law_refused" = some (some (.ref (He.fAd K ("_law_refused",none))))),
 fun K=>PySem.W.keepIn K (.ref (He.fAd K ("_law_refused",none))),
 fun K=>decide (PySem.W.nsIn K mainGlobals "_law_bad" = some (some (.ref (He.fAd K ("_law_bad",none))))),
 fun K=>PySem.W.keepIn K (.ref (He.fAd K ("_law_bad",none))),
 fun K=>decide (PySem.W.nsIn K mainGlobals "_law_counts_refused" = some (some (.ref (He.fAd K ("_law_counts_refused",none))))),
 fun K=>PySem.W.keepIn K (.ref (He.fAd K ("_law_counts_refused",none))),
 fun K=>decide (PySem.W.nsIn K mainGlobals "_law_lengths_refused" = some (some (.ref (He.fAd K ("_law_lengths_refused",none))))),
 fun K=>PySem.W.keepIn K (.ref (He.fAd K ("_law_lengths_refused",none))),
 fun K=>decide (PySem.W.nsIn K mainGlobals "law" = some (some (.ref (He.fAd K ("law",none))))),
 fun K=>PySem.W.keepIn K (.ref (He.fAd K ("law",none))),
 fun K=>decide (PySem.W.nsIn K mainGlobals "ShelfError" = some (some (.ref (He.ga K "ShelfError")))),
 fun K=>PySem.W.keepIn K (.ref (He.ga K "ShelfError")),
 fun K=>decide (PySem.W.subIn K (.ref (He.ga K "ShelfError")) (.type "BaseException")=some true),
 fun K=>decide (PySem.W.typeIn K (.ref (He.ga K "ShelfError"))=some (.type "type")),
 fun K=>PySem.W.isClsIn K (He.ga K "ShelfError"),
 fun K=>PySem.W.readsIn K (He.ga K "ShelfError") (.type "type"),
 fun K=>decide (PySem.W.specialIn K (.ref (He.ga K "ShelfError")) "__getattribute__" = some (some (.builtin "type.__getattribute__"))),
 fun K=>Hd.cfAt (PySem.W.findCls K (.ref (He.ga K "ShelfError")) (.type "type") "__init__") "ValueError.__init__",
 fun K=>decide (PySem.W.nsIn K mainGlobals "BadTable" = some (some (.ref (He.ga K "BadTable")))),
 fun K=>PySem.W.keepIn K (.ref (He.ga K "BadTable")),
 fun K=>decide (PySem.W.subIn K (.ref (He.ga K "BadTable")) (.type "BaseException")=some true),
 fun K=>decide (PySem.W.typeIn K (.ref (He.ga K "BadTable"))=some (.type "type")),
 fun K=>PySem.W.isClsIn K (He.ga K "BadTable"),
 fun K=>PySem.W.excIn K (He.ga K "BadTable") [.type "ValueError",.type "Exception",.type "BaseException",.type "object"] "ValueError.__new__",
 fun K=>decide (PySem.W.findIn K (.ref (He.ga K "BadTable")) "__getattribute__" = some (some (.builtin "BaseException.__getattribute__"))),
 fun K=>decide (PySem.W.findIn K (.ref (He.ga K "BadTable")) "__getattr__" = some none),
 fun K=>PySem.W.hasDictIn K (He.ga K "BadTable"),
 fun K=>decide (PySem.W.findIn K (.ref (He.ga K "BadTable")) "__class__" = some (some (.builtin "object.__class__"))),
 fun K=>decide (PySem.W.specialIn K (.builtin "object.__class__") "__get__" = some (some (.builtin "getset_descriptor.__get__"))),
 fun K=>decide (PySem.W.takesIn K (.builtin "object.__class__")=some true),
 fun K=>decide (PySem.W.mroIn K (He.ga K "BadTable") (.type "object")=some true),
 fun K=>decide (PySem.W.nsIn K mainGlobals "BadPaper" = some (some (.ref (He.ga K "BadPaper"))))]
def zHx2:List (PySem.W.Frag→Bool):=[fun K=>PySem.W.keepIn K (.ref (He.ga K "BadPaper")),
 fun K=>decide (PySem.W.subIn K (.ref (He.ga K "BadPaper")) (.type "BaseException")=some true),
 fun K=>decide (PySem.W.typeIn K (.ref (He.ga K "BadPaper"))=some (.type "type")),
 fun K=>PySem.W.isClsIn K (He.ga K "BadPaper"),
 fun K=>decide (PySem.W.findIn K (.ref (He.ga K "BadPaper")) "__setattr__" = some (some (.builtin "object.__setattr__"))),
 fun K=>decide (PySem.W.findIn K (.ref (He.ga K "BadPaper")) "at" = some none),
 fun K=>decide (PySem.W.findIn K (.ref (He.ga K "BadPaper")) "__getattribute__" = some (some (.builtin "BaseException.__getattribute__"))),
 fun K=>decide (PySem.W.findIn K (.ref (He.ga K "BadPaper")) "__getattr__" = some none),
 fun K=>PySem.W.hasDictIn K (He.ga K "BadPaper"),
 fun K=>decide (PySem.W.findIn K (.ref (He.ga K "BadPaper")) "__class__" = some (some (.builtin "object.__class__"))),
 fun K=>decide (PySem.W.specialIn K (.builtin "object.__class__") "__get__" = some (some (.builtin "getset_descriptor.__get__"))),
 fun K=>decide (PySem.W.takesIn K (.builtin "object.__class__")=some true),
 fun K=>decide (PySem.W.mroIn K (He.ga K "BadPaper") (.type "object")=some true),
 fun K=>decide (PySem.W.kitOne K (.ref (He.ga K "BadTable")) (.ref (He.ga K "BadPaper"))=some false),
 fun K=>decide (PySem.W.kitOne K (.ref (He.ga K "BadTable")) (.ref (He.ga K "BadTable"))=some true),
 fun K=>decide (PySem.W.kitOne K (.ref (He.ga K "BadTable")) (.type "ValueError")=some true),
 fun K=>decide (PySem.W.kitOne K (.ref (He.ga K "BadPaper")) (.ref (He.ga K "BadPaper"))=some true),
 fun K=>decide (PySem.W.kitOne K (.ref (He.ga K "BadPaper")) (.ref (He.ga K "BadTable"))=some false),
 fun K=>decide (PySem.W.kitOne K (.ref (He.ga K "BadPaper")) (.type "ValueError")=some true),
 fun K=>decide (PySem.W.subIn K (.ref (He.ga K "BadPaper")) (.ref (He.ga K "BadPaper"))=some true),
 fun K=>decide (PySem.W.subIn K (.ref (He.ga K "BadPaper")) (.ref (He.ga K "BadTable"))=some false),
 fun K=>decide (PySem.W.subIn K (.ref (He.ga K "BadPaper")) (.ref (He.ga K "ShelfError"))=some true),
 fun K=>decide (PySem.W.subIn K (.ref (He.ga K "BadTable")) (.ref (He.ga K "BadPaper"))=some false),
 fun K=>decide (PySem.W.subIn K (.ref (He.ga K "BadTable")) (.ref (He.ga K "BadTable"))=some true),
 fun K=>decide (PySem.W.subIn K (.ref (He.ga K "BadTable")) (.ref (He.ga K "ShelfError"))=some true),
 fun K=>decide (PySem.W.nsIn K mainGlobals "ValueError" = some none),
 fun K=>decide (PySem.W.nsIn K mainGlobals "all" = some none),
 fun K=>decide (PySem.W.nsIn K mainGlobals "bool" = some none),
 fun K=>decide (PySem.W.nsIn K mainGlobals "dict" = some none),
 fun K=>decide (PySem.W.nsIn K mainGlobals "enumerate" = some none),
 fun K=>decide (PySem.W.nsIn K mainGlobals "int" = some none),
 fun K=>decide (PySem.W.nsIn K mainGlobals "isinstance" = some none),
 fun K=>decide (PySem.W.nsIn K mainGlobals "len" = some none),
 fun K=>decide (PySem.W.nsIn K mainGlobals "list" = some none),
 fun K=>decide (PySem.W.nsIn K mainGlobals "max" = some none),
 fun K=>decide (PySem.W.nsIn K mainGlobals "min" = some none),
 fun K=>decide (PySem.W.nsIn K mainGlobals "range" = some none),
 fun K=>decide (PySem.W.nsIn K mainGlobals "sorted" = some none),
 fun K=>decide (PySem.W.nsIn K mainGlobals "sum" = some none),
 fun K=>decide (PySem.W.nsIn K mainGlobals "tuple" = some none)]
def zHx3:List (PySem.W.Frag→Bool):=[fun K=>decide (PySem.W.nsIn K mainGlobals "zip" = some none),
 fun K=>decide ((Hd.tabP K ("_law_counts_refused",none)).map Prod.snd≠(Hd.tabP K ("_law_lengths_refused",none)).map Prod.snd),
 fun K=>decide ((Hd.tabP K ("_law_counts_refused",none)).map Prod.snd≠(Hd.tabP K ("law",none)).map Prod.snd),
 fun K=>decide ((Hd.tabP K ("_law_lengths_refused",none)).map Prod.snd≠(Hd.tabP K ("law",none)).map Prod.snd)]
def zHx:Hd.Ex:=[zHx0,zHx1,zHx2,zHx3]
def zHl0:List Str:=[(Str.ofString "ShelfError"),
 (Str.ofString "BadTable"),
 (Str.ofString "BadPaper"),
 (Str.ofString "MOST_SYMBOLS"),
 (Str.ofString "MOST_COUNT"),
 (Str.ofString "LONGEST"),
 (Str.ofString "is_whole"),
 (Str.ofString "is_list_of"),
 (Str.ofString "check_counts"),
 (Str.ofString "room_of"),
 (Str.ofString "fits"),
 (Str.ofString "check_lengths"),
 (Str.ofString "first_parts"),
 (Str.ofString "least_part"),
 (Str.ofString "pairs_of"),
 (Str.ofString "is_pair"),
 (Str.ofString "put_together"),
 (Str.ofString "check_paper"),
 (Str.ofString "lengths_by"),
 (Str.ofString "least_lengths"),
 (Str.ofString "bits_of"),
 (Str.ofString "words_of"),
 (Str.ofString "beginnings_of"),
 (Str.ofString "_law_cell_at"),
 (Str.ofString "_law_mixed"),
 (Str.ofString "_law_refused"),
 (Str.ofString "_law_bad")]
def zHl:List Str:=zHl0
abbrev zHr:PySem.W.OpenRow:=PySem.W.OpenLaw.row PySem.Challenge.rw_tornshelf_k14_tables_refused
abbrev zHk:PySem.W.Hook:=Hd.hook 4 zHfn zHfd zHx
def zHob (s:PySem.W.SharedT):Hd.Al:=Hd.obsG 4 zHfn zHfd zHx (HandSHeadRun.getT s)
theorem j1n (s:PySem.W.SharedT):zHob s=zHk.obs s.abs:=Hd.j2b (HandSHeadRun.getT_eq s)
set_option maxHeartbeats 0 in
theorem w1a (w:World):HandSHeadRun.RunEq zHr (PySem.W.view zHr.prog [31,32,33]) zHk zHob 20000 zHl w:=by
 intro os
 kernel_rfl
def TbD {K:PySem.W.Frag} {mg:Str→Option Value} (T:Tx K mg):Prop:=T.tp_l_counts_refused≠T.tp_l_lengths_refused∧T.tp_l_counts_refused≠T.tp_law∧T.tp_l_lengths_refused≠T.tp_law
theorem j7o {l:PySem.W.OpenLaw} {w:World} {K:PySem.W.Frag} {h:Heap} {mg:Str→Option Value} {fa f0 f1 f2 f3 f4 f5 f6 f7 f8 f9 f10 f11 f12 f13 f14 f15 f16 f17 f18 f19 f20 f21 f22 f23 f24 C_ShelfError C_BadTable C_BadPaper:Addr} (X:K.In h) (G:h.Ns mainGlobals mg) (hfa:mg "law" = some (.ref fa))
  {od0 an0:Option Addr} {sl0:Array (Option Value)} {oc0 kV0 dc0 pm0 cd0 ct0:Value}
  {od1 an1:Option Addr} {sl1:Array (Option Value)} {oc1 kV1 dc1 pm1 cd1 ct1:Value}
  {od2 an2:Option Addr} {sl2:Array (Option Value)} {oc2 kV2 dc2 pm2 cd2 ct2:Value}
  {od3 an3:Option Addr} {sl3:Array (Option Value)} {oc3 kV3 dc3 pm3 cd3 ct3:Value}
  {od4 an4:Option Addr} {sl4:Array (Option Value)} {oc4 kV4 dc4 pm4 cd4 ct4:Value}
  {od5 an5:Option Addr} {sl5:Array (Option Value)} {oc5 kV5 dc5 pm5 cd5 ct5:Value}
  {od6 an6:Option Addr} {sl6:Array (Option Value)} {oc6 kV6 dc6 pm6 cd6 ct6:Value}
  {od7 an7:Option Addr} {sl7:Array (Option Value)} {oc7 kV7 dc7 pm7 cd7 ct7:Value}
  {od8 an8:Option Addr} {sl8:Array (Option Value)} {oc8 kV8 dc8 pm8 cd8 ct8:Value}
  {od9 an9:Option Addr} {sl9:Array (Option Value)} {oc9 kV9 dc9 pm9 cd9 ct9:Value}
  {od10 an10:Option Addr} {sl10:Array (Option Value)} {oc10 kV10 dc10 pm10 cd10 ct10:Value}
  {od11 an11:Option Addr} {sl11:Array (Option Value)} {oc11 kV11 dc11 pm11 cd11 ct11:Value}
  {od12 an12:Option Addr} {sl12:Array (Option Value)} {oc12 kV12 dc12 pm12 cd12 ct12:Value}
  {od13 an13:Option Addr} {sl13:Array (Option Value)} {oc13 kV13 dc13 pm13 cd13 ct13:Value}
  {od14 an14:Option Addr} {sl14:Array (Option Value)} {oc14 kV14 dc14 pm14 cd14 ct14:Value}
  {od15 an15:Option Addr} {sl15:Array (Option Value)} {oc15 kV15 dc15 pm15 cd15 ct15:Value}
  {od16 an16:Option Addr} {sl16:Array (Option Value)} {oc16 kV16 dc16 pm16 cd16 ct16:Value}
  {od17 an17:Option Addr} {sl17:Array (Option Value)} {oc17 kV17 dc17 pm17 cd17 ct17:Value}
  {od18 an18:Option Addr} {sl18:Array (Option Value)} {oc18 kV18 dc18 pm18 cd18 ct18:Value}
  {od19 an19:Option Addr} {sl19:Array (Option Value)} {oc19 kV19 dc19 pm19 cd19 ct19:Value}
  {od20 an20:Option Addr} {sl20:Array (Option Value)} {oc20 kV20 dc20 pm20 cd20 ct20:Value}
  {od21 an21:Option Addr} {sl21:Array (Option Value)} {oc21 kV21 dc21 pm21 cd21 ct21:Value}
  {od22 an22:Option Addr} {sl22:Array (Option Value)} {oc22 kV22 dc22 pm22 cd22 ct22:Value}
  {od23 an23:Option Addr} {sl23:Array (Option Value)} {oc23 kV23 dc23 pm23 cd23 ct23:Value}
  {od24 an24:Option Addr} {sl24:Array (Option Value)} {oc24 kV24 dc24 pm24 cd24 ct24:Value}
  {nm_BadPaper q_BadPaper:Str} {N_BadPaper:Addr} {bs_BadPaper:List Value} {sn_BadPaper:List Str} {sub_BadPaper:List Value} {ab_BadPaper:Bool} {col_BadPaper:Option Bool} {dd_BadPaper:Option Addr} {m0_BadPaper m1_BadPaper m2_BadPaper m3_BadPaper m5_BadPaper:Option Value}
  {u_MOST_SYMBOLS:Value}
  {u_MOST_COUNT:Value}
  {u_LONGEST:Value}
  (a0:PySem.W.findIn K (.ref C_BadPaper) "__init__" = some (some (.ref f0)))
  (i0:PySem.W.isFn K (.ref f0)=true)
  (l0:K.lookup f0=some ⟨oc0,od0,.func (PySem.W.fnOf "__init__" "BadPaper.__init__" (defArgs q0q) (defBody q0q) (defScope q0q) .none kV0 dc0 pm0 an0 cd0 ct0),sl0⟩)
  (c0:PySem.W.codeIn K cd0 "BadPaper.__init__" = true) (k0:PySem.W.keepIn K (.ref f0)=true)
  (a1:PySem.W.nsIn K mainGlobals "is_whole" = some (some (.ref f1)))
  (l1:K.lookup f1=some ⟨oc1,od1,.func (PySem.W.fnOf "is_whole" "is_whole" (defArgs q2p) (defBody q2p) (defScope q2p) .none kV1 dc1 pm1 an1 cd1 ct1),sl1⟩)
  (c1:PySem.W.codeIn K cd1 "is_whole" = true) (k1:PySem.W.keepIn K (.ref f1)=true)
  (a2:PySem.W.nsIn K mainGlobals "is_list_of" = some (some (.ref f2)))
  (l2:K.lookup f2=some ⟨oc2,od2,.func (PySem.W.fnOf "is_list_of" "is_list_of" (defArgs q1q) (defBody q1q) (defScope q1q) .none kV2 dc2 pm2 an2 cd2 ct2),sl2⟩)
  (c2:PySem.W.codeIn K cd2 "is_list_of" = true) (k2:PySem.W.keepIn K (.ref f2)=true)
  (a3:PySem.W.nsIn K mainGlobals "check_counts" = some (some (.ref f3)))
  (l3:K.lookup f3=some ⟨oc3,od3,.func (PySem.W.fnOf "check_counts" "check_counts" (defArgs q1h) (defBody q1h) (defScope q1h) .none kV3 dc3 pm3 an3 cd3 ct3),sl3⟩)
  (c3:PySem.W.codeIn K cd3 "check_counts" = true) (k3:PySem.W.keepIn K (.ref f3)=true)
  (a4:PySem.W.nsIn K mainGlobals "room_of" = some (some (.ref f4)))
  (l4:K.lookup f4=some ⟨oc4,od4,.func (PySem.W.fnOf "room_of" "room_of" (defArgs q2u) (defBody q2u) (defScope q2u) .none kV4 dc4 pm4 an4 cd4 ct4),sl4⟩)
  (c4:PySem.W.codeIn K cd4 "room_of" = true) (k4:PySem.W.keepIn K (.ref f4)=true)
  (a5:PySem.W.nsIn K mainGlobals "fits" = some (some (.ref f5)))
  (l5:K.lookup f5=some ⟨oc5,od5,.func (PySem.W.fnOf "fits" "fits" (defArgs q6a) (defBody q6a) (defScope q6a) .none kV5 dc5 pm5 an5 cd5 ct5),sl5⟩)
  (c5:PySem.W.codeIn K cd5 "fits" = true) (k5:PySem.W.keepIn K (.ref f5)=true)
  (a6:PySem.W.nsIn K mainGlobals "check_lengths" = some (some (.ref f6)))
  (l6:K.lookup f6=some ⟨oc6,od6,.func (PySem.W.fnOf "check_lengths" "check_lengths" (defArgs q1c) (defBody q1c) (defScope q1c) .none kV6 dc6 pm6 an6 cd6 ct6),sl6⟩)
  (c6:PySem.W.codeIn K cd6 "check_lengths" = true) (k6:PySem.W.keepIn K (.ref f6)=true)
  (a7:PySem.W.nsIn K mainGlobals "first_parts" = some (some (.ref f7)))
  (l7:K.lookup f7=some ⟨oc7,od7,.func (PySem.W.fnOf "first_parts" "first_parts" (defArgs q1n) (defBody q1n) (defScope q1n) .none kV7 dc7 pm7 an7 cd7 ct7),sl7⟩)
  (c7:PySem.W.codeIn K cd7 "first_parts" = true) (k7:PySem.W.keepIn K (.ref f7)=true)
  (a8:PySem.W.nsIn K mainGlobals "least_part" = some (some (.ref f8)))
  (l8:K.lookup f8=some ⟨oc8,od8,.func (PySem.W.fnOf "least_part" "least_part" (defArgs q1p) (defBody q1p) (defScope q1p) .none kV8 dc8 pm8 an8 cd8 ct8),sl8⟩)
  (c8:PySem.W.codeIn K cd8 "least_part" = true) (k8:PySem.W.keepIn K (.ref f8)=true)
  (a9:PySem.W.nsIn K mainGlobals "pairs_of" = some (some (.ref f9)))
  (l9:K.lookup f9=some ⟨oc9,od9,.func (PySem.W.fnOf "pairs_of" "pairs_of" (defArgs q2o) (defBody q2o) (defScope q2o) .none kV9 dc9 pm9 an9 cd9 ct9),sl9⟩)
  (c9:PySem.W.codeIn K cd9 "pairs_of" = true) (k9:PySem.W.keepIn K (.ref f9)=true)
  (a10:PySem.W.nsIn K mainGlobals "is_pair" = some (some (.ref f10)))
  (l10:K.lookup f10=some ⟨oc10,od10,.func (PySem.W.fnOf "is_pair" "is_pair" (defArgs q2t) (defBody q2t) (defScope q2t) .none kV10 dc10 pm10 an10 cd10 ct10),sl10⟩)
  (c10:PySem.W.codeIn K cd10 "is_pair" = true) (k10:PySem.W.keepIn K (.ref f10)=true)
  (a11:PySem.W.nsIn K mainGlobals "put_together" = some (some (.ref f11)))
  (l11:K.lookup f11=some ⟨oc11,od11,.func (PySem.W.fnOf "put_together" "put_together" (defArgs q1g) (defBody q1g) (defScope q1g) .none kV11 dc11 pm11 an11 cd11 ct11),sl11⟩)
  (c11:PySem.W.codeIn K cd11 "put_together" = true) (k11:PySem.W.keepIn K (.ref f11)=true)
  (a12:PySem.W.nsIn K mainGlobals "check_paper" = some (some (.ref f12)))
  (l12:K.lookup f12=some ⟨oc12,od12,.func (PySem.W.fnOf "check_paper" "check_paper" (defArgs q1m) (defBody q1m) (defScope q1m) .none kV12 dc12 pm12 an12 cd12 ct12),sl12⟩)
  (c12:PySem.W.codeIn K cd12 "check_paper" = true) (k12:PySem.W.keepIn K (.ref f12)=true)
  (a13:PySem.W.nsIn K mainGlobals "lengths_by" = some (some (.ref f13)))
  (l13:K.lookup f13=some ⟨oc13,od13,.func (PySem.W.fnOf "lengths_by" "lengths_by" (defArgs q1r) (defBody q1r) (defScope q1r) .none kV13 dc13 pm13 an13 cd13 ct13),sl13⟩)
  (c13:PySem.W.codeIn K cd13 "lengths_by" = true) (k13:PySem.W.keepIn K (.ref f13)=true)
  (a14:PySem.W.nsIn K mainGlobals "least_lengths" = some (some (.ref f14)))
  (l14:K.lookup f14=some ⟨oc14,od14,.func (PySem.W.fnOf "least_lengths" "least_lengths" (defArgs q1d) (defBody q1d) (defScope q1d) .none kV14 dc14 pm14 an14 cd14 ct14),sl14⟩)
  (c14:PySem.W.codeIn K cd14 "least_lengths" = true) (k14:PySem.W.keepIn K (.ref f14)=true)
  (a15:PySem.W.nsIn K mainGlobals "bits_of" = some (some (.ref f15)))
  (l15:K.lookup f15=some ⟨oc15,od15,.func (PySem.W.fnOf "bits_of" "bits_of" (defArgs q2n) (defBody q2n) (defScope q2n) .none kV15 dc15 pm15 an15 cd15 ct15),sl15⟩)
  (c15:PySem.W.codeIn K cd15 "bits_of" = true) (k15:PySem.W.keepIn K (.ref f15)=true)
  (a16:PySem.W.nsIn K mainGlobals "words_of" = some (some (.ref f16)))
  (l16:K.lookup f16=some ⟨oc16,od16,.func (PySem.W.fnOf "words_of" "words_of" (defArgs q2b) (defBody q2b) (defScope q2b) .none kV16 dc16 pm16 an16 cd16 ct16),sl16⟩)
  (c16:PySem.W.codeIn K cd16 "words_of" = true) (k16:PySem.W.keepIn K (.ref f16)=true)
  (a17:PySem.W.nsIn K mainGlobals "beginnings_of" = some (some (.ref f17)))
  (l17:K.lookup f17=some ⟨oc17,od17,.func (PySem.W.fnOf "beginnings_of" "beginnings_of" (defArgs q0u) (defBody q0u) (defScope q0u) .none kV17 dc17 pm17 an17 cd17 ct17),sl17⟩)
  (c17:PySem.W.codeIn K cd17 "beginnings_of" = true) (k17:PySem.W.keepIn K (.ref f17)=true)
  (a18:PySem.W.nsIn K mainGlobals "_law_cell_at" = some (some (.ref f18)))
  (l18:K.lookup f18=some ⟨oc18,od18,.func (PySem.W.fnOf "_law_cell_at" "_law_cell_at" (defArgs q2d) (defBody q2d) (defScope q2d) .none kV18 dc18 pm18 an18 cd18 ct18),sl18⟩)
  (c18:PySem.W.codeIn K cd18 "_law_cell_at" = true) (k18:PySem.W.keepIn K (.ref f18)=true)
  (a19:PySem.W.nsIn K mainGlobals "_law_mixed" = some (some (.ref f19)))
  (l19:K.lookup f19=some ⟨oc19,od19,.func (PySem.W.fnOf "_law_mixed" "_law_mixed" (defArgs q3f) (defBody q3f) (defScope q3f) .none kV19 dc19 pm19 an19 cd19 ct19),sl19⟩)
  (c19:PySem.W.codeIn K cd19 "_law_mixed" = true) (k19:PySem.W.keepIn K (.ref f19)=true)
  (a20:PySem.W.nsIn K mainGlobals "_law_refused" = some (some (.ref f20)))
  (l20:K.lookup f20=some ⟨oc20,od20,.func (PySem.W.fnOf "_law_refused" "_law_refused" (defArgs q1s) (defBody q1s) (defScope q1s) .none kV20 dc20 pm20 an20 cd20 ct20),sl20⟩)
  (c20:PySem.W.codeIn K cd20 "_law_refused" = true) (k20:PySem.W.keepIn K (.ref f20)=true)
  (a21:PySem.W.nsIn K mainGlobals "_law_bad" = some (some (.ref f21)))
  (l21:K.lookup f21=some ⟨oc21,od21,.func (PySem.W.fnOf "_law_bad" "_law_bad" (defArgs q4r) (defBody q4r) (defScope q4r) .none kV21 dc21 pm21 an21 cd21 ct21),sl21⟩)
  (c21:PySem.W.codeIn K cd21 "_law_bad" = true) (k21:PySem.W.keepIn K (.ref f21)=true)
  (a22:PySem.W.nsIn K mainGlobals "_law_counts_refused" = some (some (.ref f22)))
  (l22:K.lookup f22=some ⟨oc22,od22,.func (PySem.W.fnOf "_law_counts_refused" "_law_counts_refused" (defArgs q0k) (defBody q0k) (defScope q0k) .none kV22 dc22 pm22 an22 cd22 ct22),sl22⟩)
  (c22:PySem.W.codeIn K cd22 "_law_counts_refused" = true) (k22:PySem.W.keepIn K (.ref f22)=true)
  (a23:PySem.W.nsIn K mainGlobals "_law_lengths_refused" = some (some (.ref f23)))
  (l23:K.lookup f23=some ⟨oc23,od23,.func (PySem.W.fnOf "_law_lengths_refused" "_law_lengths_refused" (defArgs q0l) (defBody q0l) (defScope q0l) .none kV23 dc23 pm23 an23 cd23 ct23),sl23⟩)
  (c23:PySem.W.codeIn K cd23 "_law_lengths_refused" = true) (k23:PySem.W.keepIn K (.ref f23)=true)
  (a24:PySem.W.nsIn K mainGlobals "law" = some (some (.ref f24)))
  (l24:K.lookup f24=some ⟨oc24,od24,.func (PySem.W.fnOf "law" "law" (defArgs q6h) (defBody q6h) (defScope q6h) .none kV24 dc24 pm24 an24 cd24 ct24),sl24⟩)
  (c24:PySem.W.codeIn K cd24 "law" = true) (k24:PySem.W.keepIn K (.ref f24)=true)
  (qC_ShelfError:PySem.W.nsIn K mainGlobals "ShelfError" = some (some (.ref C_ShelfError)))
  (k_ShelfError:PySem.W.keepIn K (.ref C_ShelfError)=true)
  (b_ShelfError:PySem.W.subIn K (.ref C_ShelfError) (.type "BaseException")=some true)
  (t_ShelfError:PySem.W.typeIn K (.ref C_ShelfError)=some (.type "type"))
  (i_ShelfError:PySem.W.isClsIn K C_ShelfError=true)
  (rd_ShelfError:PySem.W.readsIn K C_ShelfError (.type "type")=true)
  (ra_ShelfError:PySem.W.specialIn K (.ref C_ShelfError) "__getattribute__" = some (some (.builtin "type.__getattribute__")))
  (ri_ShelfError:PySem.W.findCls K (.ref C_ShelfError) (.type "type") "__init__" = some (.val (.builtin "ValueError.__init__")))
  (qC_BadTable:PySem.W.nsIn K mainGlobals "BadTable" = some (some (.ref C_BadTable)))
  (k_BadTable:PySem.W.keepIn K (.ref C_BadTable)=true)
  (b_BadTable:PySem.W.subIn K (.ref C_BadTable) (.type "BaseException")=some true)
  (t_BadTable:PySem.W.typeIn K (.ref C_BadTable)=some (.type "type"))
  (i_BadTable:PySem.W.isClsIn K C_BadTable=true)
  (x_BadTable:PySem.W.excIn K C_BadTable [.type "ValueError",.type "Exception",.type "BaseException",.type "object"] "ValueError.__new__" = true)
  (gb_BadTable:PySem.W.findIn K (.ref C_BadTable) "__getattribute__" = some (some (.builtin "BaseException.__getattribute__")))
  (gg_BadTable:PySem.W.findIn K (.ref C_BadTable) "__getattr__" = some none)
  (hd_BadTable:PySem.W.hasDictIn K C_BadTable=true)
  (ca_BadTable:PySem.W.findIn K (.ref C_BadTable) "__class__" = some (some (.builtin "object.__class__")))
  (cn_BadTable:PySem.W.specialIn K (.builtin "object.__class__") "__get__" = some (some (.builtin "getset_descriptor.__get__")))
  (ct_BadTable:PySem.W.takesIn K (.builtin "object.__class__")=some true)
  (cm_BadTable:PySem.W.mroIn K C_BadTable (.type "object")=some true)
  (qC_BadPaper:PySem.W.nsIn K mainGlobals "BadPaper" = some (some (.ref C_BadPaper)))
  (k_BadPaper:PySem.W.keepIn K (.ref C_BadPaper)=true)
  (b_BadPaper:PySem.W.subIn K (.ref C_BadPaper) (.type "BaseException")=some true)
  (t_BadPaper:PySem.W.typeIn K (.ref C_BadPaper)=some (.type "type"))
  (i_BadPaper:PySem.W.isClsIn K C_BadPaper=true)
  (sa_BadPaper:PySem.W.findIn K (.ref C_BadPaper) "__setattr__" = some (some (.builtin "object.__setattr__")))
  (n_at_BadPaper:PySem.W.findIn K (.ref C_BadPaper) "at" = some none)
  (gb_BadPaper:PySem.W.findIn K (.ref C_BadPaper) "__getattribute__" = some (some (.builtin "BaseException.__getattribute__")))
  (gg_BadPaper:PySem.W.findIn K (.ref C_BadPaper) "__getattr__" = some none)
  (hd_BadPaper:PySem.W.hasDictIn K C_BadPaper=true)
  (ca_BadPaper:PySem.W.findIn K (.ref C_BadPaper) "__class__" = some (some (.builtin "object.__class__")))
  (cn_BadPaper:PySem.W.specialIn K (.builtin "object.__class__") "__get__" = some (some (.builtin "getset_descriptor.__get__")))
  (ct_BadPaper:PySem.W.takesIn K (.builtin "object.__class__")=some true)
  (cm_BadPaper:PySem.W.mroIn K C_BadPaper (.type "object")=some true)
  (xL_BadPaper:K.lookup C_BadPaper=some (PySem.excClassObj nm_BadPaper q_BadPaper C_BadPaper N_BadPaper bs_BadPaper [.ref C_ShelfError,.type "ValueError",.type "Exception",.type "BaseException",.type "object"] true sn_BadPaper sub_BadPaper ab_BadPaper col_BadPaper dd_BadPaper m0_BadPaper m1_BadPaper m2_BadPaper m3_BadPaper m5_BadPaper "ValueError.__new__"))
  (q_BadTable_BadPaper:PySem.W.kitOne K (.ref C_BadTable) (.ref C_BadPaper)=some false)
  (q_BadTable_BadTable:PySem.W.kitOne K (.ref C_BadTable) (.ref C_BadTable)=some true)
  (q_BadTable_ValueError:PySem.W.kitOne K (.ref C_BadTable) (.type "ValueError")=some true)
  (q_BadPaper_BadPaper:PySem.W.kitOne K (.ref C_BadPaper) (.ref C_BadPaper)=some true)
  (q_BadPaper_BadTable:PySem.W.kitOne K (.ref C_BadPaper) (.ref C_BadTable)=some false)
  (q_BadPaper_ValueError:PySem.W.kitOne K (.ref C_BadPaper) (.type "ValueError")=some true)
  (s_BadPaper_BadPaper:PySem.W.subIn K (.ref C_BadPaper) (.ref C_BadPaper)=some true)
  (s_BadPaper_BadTable:PySem.W.subIn K (.ref C_BadPaper) (.ref C_BadTable)=some false)
  (s_BadPaper_ShelfError:PySem.W.subIn K (.ref C_BadPaper) (.ref C_ShelfError)=some true)
  (s_BadTable_BadPaper:PySem.W.subIn K (.ref C_BadTable) (.ref C_BadPaper)=some false)
  (s_BadTable_BadTable:PySem.W.subIn K (.ref C_BadTable) (.ref C_BadTable)=some true)
  (s_BadTable_ShelfError:PySem.W.subIn K (.ref C_BadTable) (.ref C_ShelfError)=some true)
  (z_ValueError:PySem.W.nsIn K mainGlobals "ValueError" = some none)
  (z_all:PySem.W.nsIn K mainGlobals "all" = some none)
  (z_bool:PySem.W.nsIn K mainGlobals "bool" = some none)
  (z_dict:PySem.W.nsIn K mainGlobals "dict" = some none)
  (z_enumerate:PySem.W.nsIn K mainGlobals "enumerate" = some none)
  (z_int:PySem.W.nsIn K mainGlobals "int" = some none)
  (z_isinstance:PySem.W.nsIn K mainGlobals "isinstance" = some none)
  (z_len:PySem.W.nsIn K mainGlobals "len" = some none)
  (z_list:PySem.W.nsIn K mainGlobals "list" = some none)
  (z_max:PySem.W.nsIn K mainGlobals "max" = some none)
  (z_min:PySem.W.nsIn K mainGlobals "min" = some none)
  (z_range:PySem.W.nsIn K mainGlobals "range" = some none)
  (z_sorted:PySem.W.nsIn K mainGlobals "sorted" = some none)
  (z_sum:PySem.W.nsIn K mainGlobals "sum" = some none)
  (z_tuple:PySem.W.nsIn K mainGlobals "tuple" = some none)
  (z_zip:PySem.W.nsIn K mainGlobals "zip" = some none)
  (m_MOST_SYMBOLS:PySem.W.nsIn K mainGlobals "MOST_SYMBOLS" = some (some u_MOST_SYMBOLS)) (r_MOST_SYMBOLS:RelV (.int 64) u_MOST_SYMBOLS)
  (m_MOST_COUNT:PySem.W.nsIn K mainGlobals "MOST_COUNT" = some (some u_MOST_COUNT)) (r_MOST_COUNT:RelV (.int 1000) u_MOST_COUNT)
  (m_LONGEST:PySem.W.nsIn K mainGlobals "LONGEST" = some (some u_LONGEST)) (r_LONGEST:RelV (.int 15) u_LONGEST)
  {tc22 tp22:Addr} (he22:cd22 = .ref tc22)
  {tc23 tp23:Addr} (he23:cd23 = .ref tc23)
  {tc24 tp24:Addr} (he24:cd24 = .ref tc24) :
  ∃T:Tx K mg,T.a_law=fa∧(∀(s:Shared) (v:Value),BindsTo s T.d_law ⟨[v],[]⟩ [("_law_script",v)])∧T.tc_l_counts_refused=tc22∧T.tp_l_counts_refused=tp22∧T.tc_l_lengths_refused=tc23∧T.tp_l_lengths_refused=tp23∧T.tc_law=tc24∧T.tp_law=tp24:=by
 have e:=hfa.symm.trans (PySem.W.mg_of X G a24)
 cases e
 have F0:=fun_mk (st:=q0q) l0 c0 k0
 have b0:=F0.binds (ps:=["self","words","at"]) fun _ _ _ _ _ _ us hl=>match us,hl with|[_,_,_],_=>rfl
 have F1:=fun_mk (st:=q2p) l1 c1 k1
 have b1:=F1.binds (ps:=["thing"]) fun _ _ _ _ _ _ us hl=>match us,hl with|[_],_=>rfl
 have F2:=fun_mk (st:=q1q) l2 c2 k2
 have b2:=F2.binds (ps:=["thing","low","high"]) fun _ _ _ _ _ _ us hl=>match us,hl with|[_,_,_],_=>rfl
 have F3:=fun_mk (st:=q1h) l3 c3 k3
 have b3:=F3.binds (ps:=["counts"]) fun _ _ _ _ _ _ us hl=>match us,hl with|[_],_=>rfl
 have F4:=fun_mk (st:=q2u) l4 c4 k4
 have b4:=F4.binds (ps:=["lengths"]) fun _ _ _ _ _ _ us hl=>match us,hl with|[_],_=>rfl
 have F5:=fun_mk (st:=q6a) l5 c5 k5
 have b5:=F5.binds (ps:=["lengths"]) fun _ _ _ _ _ _ us hl=>match us,hl with|[_],_=>rfl
 have F6:=fun_mk (st:=q1c) l6 c6 k6
 have b6:=F6.binds (ps:=["lengths"]) fun _ _ _ _ _ _ us hl=>match us,hl with|[_],_=>rfl
 have F7:=fun_mk (st:=q1n) l7 c7 k7
 have b7:=F7.binds (ps:=["counts"]) fun _ _ _ _ _ _ us hl=>match us,hl with|[_],_=>rfl
 have F8:=fun_mk (st:=q1p) l8 c8 k8
 have b8:=F8.binds (ps:=["parts"]) fun _ _ _ _ _ _ us hl=>match us,hl with|[_],_=>rfl
 have F9:=fun_mk (st:=q2o) l9 c9 k9
 have b9:=F9.binds (ps:=["counts"]) fun _ _ _ _ _ _ us hl=>match us,hl with|[_],_=>rfl
 have F10:=fun_mk (st:=q2t) l10 c10 k10
 have b10:=F10.binds (ps:=["pair","parts"]) fun _ _ _ _ _ _ us hl=>match us,hl with|[_,_],_=>rfl
 have F11:=fun_mk (st:=q1g) l11 c11 k11
 have b11:=F11.binds (ps:=["pair","parts","number","at"]) fun _ _ _ _ _ _ us hl=>match us,hl with|[_,_,_,_],_=>rfl
 have F12:=fun_mk (st:=q1m) l12 c12 k12
 have b12:=F12.binds (ps:=["counts","paper"]) fun _ _ _ _ _ _ us hl=>match us,hl with|[_,_],_=>rfl
 have F13:=fun_mk (st:=q1r) l13 c13 k13
 have b13:=F13.binds (ps:=["counts","paper"]) fun _ _ _ _ _ _ us hl=>match us,hl with|[_,_],_=>rfl
 have F14:=fun_mk (st:=q1d) l14 c14 k14
 have b14:=F14.binds (ps:=["counts"]) fun _ _ _ _ _ _ us hl=>match us,hl with|[_],_=>rfl
 have F15:=fun_mk (st:=q2n) l15 c15 k15
 have b15:=F15.binds (ps:=["counts","lengths"]) fun _ _ _ _ _ _ us hl=>match us,hl with|[_,_],_=>rfl
 have F16:=fun_mk (st:=q2b) l16 c16 k16
 have b16:=F16.binds (ps:=["lengths"]) fun _ _ _ _ _ _ us hl=>match us,hl with|[_],_=>rfl
 have F17:=fun_mk (st:=q0u) l17 c17 k17
 have b17:=F17.binds (ps:=["lengths"]) fun _ _ _ _ _ _ us hl=>match us,hl with|[_],_=>rfl
 have F18:=fun_mk (st:=q2d) l18 c18 k18
 have b18:=F18.binds (ps:=["_law_script","_law_k"]) fun _ _ _ _ _ _ us hl=>match us,hl with|[_,_],_=>rfl
 have F19:=fun_mk (st:=q3f) l19 c19 k19
 have b19:=F19.binds (ps:=["_law_cell","_law_k"]) fun _ _ _ _ _ _ us hl=>match us,hl with|[_,_],_=>rfl
 have F20:=fun_mk (st:=q1s) l20 c20 k20
 have b20:=F20.binds (ps:=["_law_deed"]) fun _ _ _ _ _ _ us hl=>match us,hl with|[_],_=>rfl
 have F21:=fun_mk (st:=q4r) l21 c21 k21
 have b21:=F21.binds (ps:=["_law_good","_law_most","_law_number"]) fun _ _ _ _ _ _ us hl=>match us,hl with|[_,_,_],_=>rfl
 have F22:=fun_mk (st:=q0k) l22 c22 k22
 have b22:=F22.binds (ps:=["_law_counts","_law_paper"]) fun _ _ _ _ _ _ us hl=>match us,hl with|[_,_],_=>rfl
 have F23:=fun_mk (st:=q0l) l23 c23 k23
 have b23:=F23.binds (ps:=["_law_lengths"]) fun _ _ _ _ _ _ us hl=>match us,hl with|[_],_=>rfl
 have F24:=fun_mk (st:=q6h) l24 c24 k24
 have b24:=F24.binds (ps:=["_law_script"]) fun _ _ _ _ _ _ us hl=>match us,hl with|[_],_=>rfl
 exact⟨{ a_BadPaper_init:=f0,d_BadPaper_init:=_,F_BadPaper_init:=F0,b_BadPaper_init:=b0,a_is_whole:=f1,d_is_whole:=_,F_is_whole:=F1,b_is_whole:=b1,g_is_whole:=PySem.W.mg_of X G a1,a_is_list_of:=f2,d_is_list_of:=_,F_is_list_of:=F2,b_is_list_of:=b2,g_is_list_of:=PySem.W.mg_of X G a2,a_check_counts:=f3,d_check_counts:=_,F_check_counts:=F3,b_check_counts:=b3,g_check_counts:=PySem.W.mg_of X G a3,a_room_of:=f4,d_room_of:=_,F_room_of:=F4,b_room_of:=b4,g_room_of:=PySem.W.mg_of X G a4,a_fits:=f5,d_fits:=_,F_fits:=F5,b_fits:=b5,g_fits:=PySem.W.mg_of X G a5,a_check_lengths:=f6,d_check_lengths:=_,F_check_lengths:=F6,b_check_lengths:=b6,g_check_lengths:=PySem.W.mg_of X G a6,a_first_parts:=f7,d_first_parts:=_,F_first_parts:=F7,b_first_parts:=b7,g_first_parts:=PySem.W.mg_of X G a7,a_least_part:=f8,d_least_part:=_,F_least_part:=F8,b_least_part:=b8,g_least_part:=PySem.W.mg_of X G a8,a_pairs_of:=f9,d_pairs_of:=_,F_pairs_of:=F9,b_pairs_of:=b9,g_pairs_of:=PySem.W.mg_of X G a9,a_is_pair:=f10,d_is_pair:=_,F_is_pair:=F10,b_is_pair:=b10,g_is_pair:=PySem.W.mg_of X G a10,a_put_together:=f11,d_put_together:=_,F_put_together:=F11,b_put_together:=b11,g_put_together:=PySem.W.mg_of X G a11,a_check_paper:=f12,d_check_paper:=_,F_check_paper:=F12,b_check_paper:=b12,g_check_paper:=PySem.W.mg_of X G a12,a_lengths_by:=f13,d_lengths_by:=_,F_lengths_by:=F13,b_lengths_by:=b13,g_lengths_by:=PySem.W.mg_of X G a13,a_least_lengths:=f14,d_least_lengths:=_,F_least_lengths:=F14,b_least_lengths:=b14,g_least_lengths:=PySem.W.mg_of X G a14,a_bits_of:=f15,d_bits_of:=_,F_bits_of:=F15,b_bits_of:=b15,g_bits_of:=PySem.W.mg_of X G a15,a_words_of:=f16,d_words_of:=_,F_words_of:=F16,b_words_of:=b16,g_words_of:=PySem.W.mg_of X G a16,a_beginnings_of:=f17,d_beginnings_of:=_,F_beginnings_of:=F17,b_beginnings_of:=b17,g_beginnings_of:=PySem.W.mg_of X G a17,a_l_cell_at:=f18,d_l_cell_at:=_,F_l_cell_at:=F18,b_l_cell_at:=b18,g_l_cell_at:=PySem.W.mg_of X G a18,a_l_mixed:=f19,d_l_mixed:=_,F_l_mixed:=F19,b_l_mixed:=b19,g_l_mixed:=PySem.W.mg_of X G a19,a_l_refused:=f20,d_l_refused:=_,F_l_refused:=F20,b_l_refused:=b20,g_l_refused:=PySem.W.mg_of X G a20,a_l_bad:=f21,d_l_bad:=_,F_l_bad:=F21,b_l_bad:=b21,g_l_bad:=PySem.W.mg_of X G a21,a_l_counts_refused:=f22,d_l_counts_refused:=_,F_l_counts_refused:=F22,b_l_counts_refused:=b22,g_l_counts_refused:=PySem.W.mg_of X G a22,a_l_lengths_refused:=f23,d_l_lengths_refused:=_,F_l_lengths_refused:=F23,b_l_lengths_refused:=b23,g_l_lengths_refused:=PySem.W.mg_of X G a23,a_law:=fa,d_law:=_,F_law:=F24,b_law:=b24,g_law:=PySem.W.mg_of X G a24,C_ShelfError:=C_ShelfError,g_ShelfError:=PySem.W.mg_of X G qC_ShelfError,k_ShelfError:=k_ShelfError,b_ShelfError:=b_ShelfError,t_ShelfError:=t_ShelfError,i_ShelfError:=i_ShelfError,rd_ShelfError:=rd_ShelfError,ra_ShelfError:=ra_ShelfError,ri_ShelfError:=ri_ShelfError,C_BadTable:=C_BadTable,g_BadTable:=PySem.W.mg_of X G qC_BadTable,k_BadTable:=k_BadTable,b_BadTable:=b_BadTable,t_BadTable:=t_BadTable,i_BadTable:=i_BadTable,x_BadTable:=x_BadTable,gb_BadTable:=gb_BadTable,gg_BadTable:=gg_BadTable,hd_BadTable:=hd_BadTable,ca_BadTable:=ca_BadTable,cn_BadTable:=cn_BadTable,ct_BadTable:=ct_BadTable,cm_BadTable:=cm_BadTable,xc_BadTable:=⟨gb_BadTable,gg_BadTable,b_BadTable,hd_BadTable,ca_BadTable,cn_BadTable,ct_BadTable,cm_BadTable⟩,C_BadPaper:=C_BadPaper,g_BadPaper:=PySem.W.mg_of X G qC_BadPaper,k_BadPaper:=k_BadPaper,b_BadPaper:=b_BadPaper,t_BadPaper:=t_BadPaper,i_BadPaper:=i_BadPaper,sa_BadPaper:=sa_BadPaper,iC_BadPaper:=a0,n_at_BadPaper:=n_at_BadPaper,gb_BadPaper:=gb_BadPaper,gg_BadPaper:=gg_BadPaper,hd_BadPaper:=hd_BadPaper,ca_BadPaper:=ca_BadPaper,cn_BadPaper:=cn_BadPaper,ct_BadPaper:=ct_BadPaper,cm_BadPaper:=cm_BadPaper,xc_BadPaper:=⟨gb_BadPaper,gg_BadPaper,b_BadPaper,hd_BadPaper,ca_BadPaper,cn_BadPaper,ct_BadPaper,cm_BadPaper⟩,ox_BadPaper:=⟨⟨_,_,_,_,_,_,_,_,_,_,_,_,_,_,_,xL_BadPaper,rfl⟩,sa_BadPaper,b_BadPaper,t_BadPaper,k_BadPaper⟩,tI_BadPaper:=beq_iff_eq.mp i0,q_BadTable_BadPaper:=q_BadTable_BadPaper,q_BadTable_BadTable:=q_BadTable_BadTable,q_BadTable_ValueError:=q_BadTable_ValueError,q_BadPaper_BadPaper:=q_BadPaper_BadPaper,q_BadPaper_BadTable:=q_BadPaper_BadTable,q_BadPaper_ValueError:=q_BadPaper_ValueError,e_BadPaper_BadPaper:=Z.q8v i_BadPaper t_BadPaper b_BadPaper s_BadPaper_BadPaper,e_BadPaper_BadTable:=Z.q8v i_BadTable t_BadTable b_BadTable s_BadPaper_BadTable,e_BadPaper_ShelfError:=Z.q8v i_ShelfError t_ShelfError b_ShelfError s_BadPaper_ShelfError,e_BadTable_BadPaper:=Z.q8v i_BadPaper t_BadPaper b_BadPaper s_BadTable_BadPaper,e_BadTable_BadTable:=Z.q8v i_BadTable t_BadTable b_BadTable s_BadTable_BadTable,e_BadTable_ShelfError:=Z.q8v i_ShelfError t_ShelfError b_ShelfError s_BadTable_ShelfError,z_ValueError:=PySem.W.mg_none_of X G z_ValueError,z_all:=PySem.W.mg_none_of X G z_all,z_bool:=PySem.W.mg_none_of X G z_bool,z_dict:=PySem.W.mg_none_of X G z_dict,z_enumerate:=PySem.W.mg_none_of X G z_enumerate,z_int:=PySem.W.mg_none_of X G z_int,z_isinstance:=PySem.W.mg_none_of X G z_isinstance,z_len:=PySem.W.mg_none_of X G z_len,z_list:=PySem.W.mg_none_of X G z_list,z_max:=PySem.W.mg_none_of X G z_max,z_min:=PySem.W.mg_none_of X G z_min,z_range:=PySem.W.mg_none_of X G z_range,z_sorted:=PySem.W.mg_none_of X G z_sorted,z_sum:=PySem.W.mg_none_of X G z_sum,z_tuple:=PySem.W.mg_none_of X G z_tuple,z_zip:=PySem.W.mg_none_of X G z_zip,u_MOST_SYMBOLS:=u_MOST_SYMBOLS,m_MOST_SYMBOLS:=PySem.W.mg_of X G m_MOST_SYMBOLS,r_MOST_SYMBOLS:=r_MOST_SYMBOLS,u_MOST_COUNT:=u_MOST_COUNT,m_MOST_COUNT:=PySem.W.mg_of X G m_MOST_COUNT,r_MOST_COUNT:=r_MOST_COUNT,u_LONGEST:=u_LONGEST,m_LONGEST:=PySem.W.mg_of X G m_LONGEST,r_LONGEST:=r_LONGEST,tc_l_counts_refused:=tc22,tp_l_counts_refused:=tp22,L_l_counts_refused:=⟨⟨_,_,_,_,_,_,_,_,by rw[he22],l22,by rw[←he22];exact c22⟩⟩,tc_l_lengths_refused:=tc23,tp_l_lengths_refused:=tp23,L_l_lengths_refused:=⟨⟨_,_,_,_,_,_,_,_,by rw[he23],l23,by rw[←he23];exact c23⟩⟩,tc_law:=tc24,tp_law:=tp24,L_law:=⟨⟨_,_,_,_,_,_,_,_,by rw[he24],l24,by rw[←he24];exact c24⟩⟩ },rfl,fun s v=>.of_eq rfl,rfl,rfl,rfl,rfl,rfl,rfl⟩
def HL:Prop:=∀{P:Program} {w:World} {K:PySem.W.Frag} {mg:Str→Option Value} {base:Heap} (T:Tx K mg),TbB T base→TbD T→FnOk P w K mg base CX0 10 T.a_law T.d_law ["_law_script"] (z6e K [T.tp_l_counts_refused,T.tp_l_lengths_refused,T.tp_law])
theorem j4h {w:World} {K:PySem.W.Frag} {h:Heap} {mg:Str→Option Value} {fa:Addr} (X:K.In h) (G:h.Ns mainGlobals mg) (hfa:mg "law" = some (.ref fa)) (c:Hd.Says zHfn zHfd zHx K) :
  ∃T:Tx K mg,T.a_law=fa∧(∀(s:Shared) (v:Value),BindsTo s T.d_law ⟨[v],[]⟩ [("_law_script",v)])∧Hd.LamT K mg "_law_counts_refused" T.tc_l_counts_refused T.tp_l_counts_refused∧Hd.LamT K mg "_law_lengths_refused" T.tc_l_lengths_refused T.tp_l_lengths_refused∧Hd.LamT K mg "law" T.tc_law T.tp_law∧TbD T:=by
 obtain⟨oc0,od0,sl0,kV0,dc0,pm0,an0,cd0,ct0,l0,c0⟩:=c.def_ 0 (d:=q3n.getD 0 q3p) rfl
 obtain⟨oc1,od1,sl1,kV1,dc1,pm1,an1,cd1,ct1,l1,c1⟩:=c.def_ 1 (d:=q3n.getD 1 q3p) rfl
 obtain⟨oc2,od2,sl2,kV2,dc2,pm2,an2,cd2,ct2,l2,c2⟩:=c.def_ 2 (d:=q3n.getD 2 q3p) rfl
 obtain⟨oc3,od3,sl3,kV3,dc3,pm3,an3,cd3,ct3,l3,c3⟩:=c.def_ 3 (d:=q3n.getD 3 q3p) rfl
 obtain⟨oc4,od4,sl4,kV4,dc4,pm4,an4,cd4,ct4,l4,c4⟩:=c.def_ 4 (d:=q3n.getD 4 q3p) rfl
 obtain⟨oc5,od5,sl5,kV5,dc5,pm5,an5,cd5,ct5,l5,c5⟩:=c.def_ 5 (d:=q3n.getD 5 q3p) rfl
 obtain⟨oc6,od6,sl6,kV6,dc6,pm6,an6,cd6,ct6,l6,c6⟩:=c.def_ 6 (d:=q3n.getD 6 q3p) rfl
 obtain⟨oc7,od7,sl7,kV7,dc7,pm7,an7,cd7,ct7,l7,c7⟩:=c.def_ 7 (d:=q3n.getD 7 q3p) rfl
 obtain⟨oc8,od8,sl8,kV8,dc8,pm8,an8,cd8,ct8,l8,c8⟩:=c.def_ 8 (d:=q3n.getD 8 q3p) rfl
 obtain⟨oc9,od9,sl9,kV9,dc9,pm9,an9,cd9,ct9,l9,c9⟩:=c.def_ 9 (d:=q3n.getD 9 q3p) rfl
 obtain⟨oc10,od10,sl10,kV10,dc10,pm10,an10,cd10,ct10,l10,c10⟩:=c.def_ 10 (d:=q3n.getD 10 q3p) rfl
 obtain⟨oc11,od11,sl11,kV11,dc11,pm11,an11,cd11,ct11,l11,c11⟩:=c.def_ 11 (d:=q3n.getD 11 q3p) rfl
 obtain⟨oc12,od12,sl12,kV12,dc12,pm12,an12,cd12,ct12,l12,c12⟩:=c.def_ 12 (d:=q3n.getD 12 q3p) rfl
 obtain⟨oc13,od13,sl13,kV13,dc13,pm13,an13,cd13,ct13,l13,c13⟩:=c.def_ 13 (d:=q3n.getD 13 q3p) rfl
 obtain⟨oc14,od14,sl14,kV14,dc14,pm14,an14,cd14,ct14,l14,c14⟩:=c.def_ 14 (d:=q3n.getD 14 q3p) rfl
 obtain⟨oc15,od15,sl15,kV15,dc15,pm15,an15,cd15,ct15,l15,c15⟩:=c.def_ 15 (d:=q3n.getD 15 q3p) rfl
 obtain⟨oc16,od16,sl16,kV16,dc16,pm16,an16,cd16,ct16,l16,c16⟩:=c.def_ 16 (d:=q3n.getD 16 q3p) rfl
 obtain⟨oc17,od17,sl17,kV17,dc17,pm17,an17,cd17,ct17,l17,c17⟩:=c.def_ 17 (d:=q3n.getD 17 q3p) rfl
 obtain⟨oc18,od18,sl18,kV18,dc18,pm18,an18,cd18,ct18,l18,c18⟩:=c.def_ 18 (d:=q3n.getD 18 q3p) rfl
 obtain⟨oc19,od19,sl19,kV19,dc19,pm19,an19,cd19,ct19,l19,c19⟩:=c.def_ 19 (d:=q3n.getD 19 q3p) rfl
 obtain⟨oc20,od20,sl20,kV20,dc20,pm20,an20,cd20,ct20,l20,c20⟩:=c.def_ 20 (d:=q3n.getD 20 q3p) rfl
 obtain⟨oc21,od21,sl21,kV21,dc21,pm21,an21,cd21,ct21,l21,c21⟩:=c.def_ 21 (d:=q3n.getD 21 q3p) rfl
 obtain⟨oc22,od22,sl22,kV22,dc22,pm22,an22,cd22,ct22,l22,c22⟩:=c.def_ 22 (d:=q3n.getD 22 q3p) rfl
 obtain⟨oc23,od23,sl23,kV23,dc23,pm23,an23,cd23,ct23,l23,c23⟩:=c.def_ 23 (d:=q3n.getD 23 q3p) rfl
 obtain⟨oc24,od24,sl24,kV24,dc24,pm24,an24,cd24,ct24,l24,c24⟩:=c.def_ 24 (d:=q3n.getD 24 q3p) rfl
 obtain⟨tc22,tp22,rfl,lt22⟩:=Hd.q9v X G (c.fact (l:=zHx0) 0 0 rfl rfl) l22
 obtain⟨tc23,tp23,rfl,lt23⟩:=Hd.q9v X G (c.fact (l:=zHx0) 0 1 rfl rfl) l23
 obtain⟨tc24,tp24,rfl,lt24⟩:=Hd.q9v X G (c.fact (l:=zHx0) 0 2 rfl rfl) l24
 obtain⟨nm_BadPaper,q_BadPaper,N_BadPaper,bs_BadPaper,sn_BadPaper,sub_BadPaper,ab_BadPaper,col_BadPaper,dd_BadPaper,m0_BadPaper,m1_BadPaper,m2_BadPaper,m3_BadPaper,m5_BadPaper,xL_BadPaper⟩:=Hd.z7o (c.fact (l:=zHx0) 0 3 rfl rfl)
 obtain⟨u_MOST_SYMBOLS,m_MOST_SYMBOLS,r_MOST_SYMBOLS⟩:=Hd.q9n (c.fact (l:=zHx0) 0 4 rfl rfl)
 obtain⟨u_MOST_COUNT,m_MOST_COUNT,r_MOST_COUNT⟩:=Hd.q9n (c.fact (l:=zHx0) 0 5 rfl rfl)
 obtain⟨u_LONGEST,m_LONGEST,r_LONGEST⟩:=Hd.q9n (c.fact (l:=zHx0) 0 6 rfl rfl)
 obtain⟨T,x1,x2,x32,y22,x33,y23,x34,y24⟩:=j7o (l:=PySem.Challenge.rw_tornshelf_k14_tables_refused) (w:=w) X G hfa
  (of_decide_eq_true (c.fact (l:=zHx0) 0 7 rfl rfl))
  (c.fact (l:=zHx0) 0 8 rfl rfl)
  l0
  c0
  (c.fact (l:=zHx0) 0 9 rfl rfl)
  (of_decide_eq_true (c.fact (l:=zHx0) 0 10 rfl rfl))
  l1
  c1
  (c.fact (l:=zHx0) 0 11 rfl rfl)
  (of_decide_eq_true (c.fact (l:=zHx0) 0 12 rfl rfl))
  l2
  c2
  (c.fact (l:=zHx0) 0 13 rfl rfl)
  (of_decide_eq_true (c.fact (l:=zHx0) 0 14 rfl rfl))
  l3
  c3
  (c.fact (l:=zHx0) 0 15 rfl rfl)
  (of_decide_eq_true (c.fact (l:=zHx0) 0 16 rfl rfl))
  l4
  c4
  (c.fact (l:=zHx0) 0 17 rfl rfl)
  (of_decide_eq_true (c.fact (l:=zHx0) 0 18 rfl rfl))
  l5
  c5
  (c.fact (l:=zHx0) 0 19 rfl rfl)
  (of_decide_eq_true (c.fact (l:=zHx0) 0 20 rfl rfl))
  l6
  c6
  (c.fact (l:=zHx0) 0 21 rfl rfl)
  (of_decide_eq_true (c.fact (l:=zHx0) 0 22 rfl rfl))
  l7
  c7
  (c.fact (l:=zHx0) 0 23 rfl rfl)
  (of_decide_eq_true (c.fact (l:=zHx0) 0 24 rfl rfl))
  l8
  c8
  (c.fact (l:=zHx0) 0 25 rfl rfl)
  (of_decide_eq_true (c.fact (l:=zHx0) 0 26 rfl rfl))
  l9
  c9
  (c.fact (l:=zHx0) 0 27 rfl rfl)
  (of_decide_eq_true (c.fact (l:=zHx0) 0 28 rfl rfl))
  l10
  c10
  (c.fact (l:=zHx0) 0 29 rfl rfl)
  (of_decide_eq_true (c.fact (l:=zHx0) 0 30 rfl rfl))
  l11
  c11
  (c.fact (l:=zHx0) 0 31 rfl rfl)
  (of_decide_eq_true (c.fact (l:=zHx0) 0 32 rfl rfl))
  l12
  c12
  (c.fact (l:=zHx0) 0 33 rfl rfl)
  (of_decide_eq_true (c.fact (l:=zHx0) 0 34 rfl rfl))
  l13
  c13
  (c.fact (l:=zHx0) 0 35 rfl rfl)
  (of_decide_eq_true (c.fact (l:=zHx0) 0 36 rfl rfl))
  l14
  c14
  (c.fact (l:=zHx0) 0 37 rfl rfl)
  (of_decide_eq_true (c.fact (l:=zHx0) 0 38 rfl rfl))
  l15
  c15
  (c.fact (l:=zHx0) 0 39 rfl rfl)
  (of_decide_eq_true (c.fact (l:=zHx1) 1 0 rfl rfl))
  l16
  c16
  (c.fact (l:=zHx1) 1 1 rfl rfl)
  (of_decide_eq_true (c.fact (l:=zHx1) 1 2 rfl rfl))
  l17
  c17
  (c.fact (l:=zHx1) 1 3 rfl rfl)
  (of_decide_eq_true (c.fact (l:=zHx1) 1 4 rfl rfl))
  l18
  c18
  (c.fact (l:=zHx1) 1 5 rfl rfl)
  (of_decide_eq_true (c.fact (l:=zHx1) 1 6 rfl rfl))
  l19
  c19
  (c.fact (l:=zHx1) 1 7 rfl rfl)
  (of_decide_eq_true (c.fact (l:=zHx1) 1 8 rfl rfl))
  l20
  c20
  (c.fact (l:=zHx1) 1 9 rfl rfl)
  (of_decide_eq_true (c.fact (l:=zHx1) 1 10 rfl rfl))
  l21
  c21
  (c.fact (l:=zHx1) 1 11 rfl rfl)
  (of_decide_eq_true (c.fact (l:=zHx1) 1 12 rfl rfl))
  l22
  c22
  (c.fact (l:=zHx1) 1 13 rfl rfl)
  (of_decide_eq_true (c.fact (l:=zHx1) 1 14 rfl rfl))
  l23
  c23
  (c.fact (l:=zHx1) 1 15 rfl rfl)
  (of_decide_eq_true (c.fact (l:=zHx1) 1 16 rfl rfl))
  l24
  c24
  (c.fact (l:=zHx1) 1 17 rfl rfl)
  (of_decide_eq_true (c.fact (l:=zHx1) 1 18 rfl rfl))
  (c.fact (l:=zHx1) 1 19 rfl rfl)
  (of_decide_eq_true (c.fact (l:=zHx1) 1 20 rfl rfl))
  (of_decide_eq_true (c.fact (l:=zHx1) 1 21 rfl rfl))
  (c.fact (l:=zHx1) 1 22 rfl rfl)
  (c.fact (l:=zHx1) 1 23 rfl rfl)
  (of_decide_eq_true (c.fact (l:=zHx1) 1 24 rfl rfl))
  (Hd.j1d (c.fact (l:=zHx1) 1 25 rfl rfl))
  (of_decide_eq_true (c.fact (l:=zHx1) 1 26 rfl rfl))
  (c.fact (l:=zHx1) 1 27 rfl rfl)
  (of_decide_eq_true (c.fact (l:=zHx1) 1 28 rfl rfl))
  (of_decide_eq_true (c.fact (l:=zHx1) 1 29 rfl rfl))
  (c.fact (l:=zHx1) 1 30 rfl rfl)
  (c.fact (l:=zHx1) 1 31 rfl rfl)
  (of_decide_eq_true (c.fact (l:=zHx1) 1 32 rfl rfl))
  (of_decide_eq_true (c.fact (l:=zHx1) 1 33 rfl rfl))
  (c.fact (l:=zHx1) 1 34 rfl rfl)
  (of_decide_eq_true (c.fact (l:=zHx1) 1 35 rfl rfl))
  (of_decide_eq_true (c.fact (l:=zHx1) 1 36 rfl rfl))
  (of_decide_eq_true (c.fact (l:=zHx1) 1 37 rfl rfl))
  (of_decide_eq_true (c.fact (l:=zHx1) 1 38 rfl rfl))
  (of_decide_eq_true (c.fact (l:=zHx1) 1 39 rfl rfl))
  (c.fact (l:=zHx2) 2 0 rfl rfl)
  (of_decide_eq_true (c.fact (l:=zHx2) 2 1 rfl rfl))
  (of_decide_eq_true (c.fact (l:=zHx2) 2 2 rfl rfl))
  (c.fact (l:=zHx2) 2 3 rfl rfl)
  (of_decide_eq_true (c.fact (l:=zHx2) 2 4 rfl rfl))
  (of_decide_eq_true (c.fact (l:=zHx2) 2 5 rfl rfl))
  (of_decide_eq_true (c.fact (l:=zHx2) 2 6 rfl rfl))
  (of_decide_eq_true (c.fact (l:=zHx2) 2 7 rfl rfl))
  (c.fact (l:=zHx2) 2 8 rfl rfl)
  (of_decide_eq_true (c.fact (l:=zHx2) 2 9 rfl rfl))
  (of_decide_eq_true (c.fact (l:=zHx2) 2 10 rfl rfl))
  (of_decide_eq_true (c.fact (l:=zHx2) 2 11 rfl rfl))
  (of_decide_eq_true (c.fact (l:=zHx2) 2 12 rfl rfl))
  xL_BadPaper
  (of_decide_eq_true (c.fact (l:=zHx2) 2 13 rfl rfl))
  (of_decide_eq_true (c.fact (l:=zHx2) 2 14 rfl rfl))
  (of_decide_eq_true (c.fact (l:=zHx2) 2 15 rfl rfl))
  (of_decide_eq_true (c.fact (l:=zHx2) 2 16 rfl rfl))
  (of_decide_eq_true (c.fact (l:=zHx2) 2 17 rfl rfl))
  (of_decide_eq_true (c.fact (l:=zHx2) 2 18 rfl rfl))
  (of_decide_eq_true (c.fact (l:=zHx2) 2 19 rfl rfl))
  (of_decide_eq_true (c.fact (l:=zHx2) 2 20 rfl rfl))
  (of_decide_eq_true (c.fact (l:=zHx2) 2 21 rfl rfl))
  (of_decide_eq_true (c.fact (l:=zHx2) 2 22 rfl rfl))
  (of_decide_eq_true (c.fact (l:=zHx2) 2 23 rfl rfl))
  (of_decide_eq_true (c.fact (l:=zHx2) 2 24 rfl rfl))
  (of_decide_eq_true (c.fact (l:=zHx2) 2 25 rfl rfl))
  (of_decide_eq_true (c.fact (l:=zHx2) 2 26 rfl rfl))
  (of_decide_eq_true (c.fact (l:=zHx2) 2 27 rfl rfl))
  (of_decide_eq_true (c.fact (l:=zHx2) 2 28 rfl rfl))
  (of_decide_eq_true (c.fact (l:=zHx2) 2 29 rfl rfl))
  (of_decide_eq_true (c.fact (l:=zHx2) 2 30 rfl rfl))
  (of_decide_eq_true (c.fact (l:=zHx2) 2 31 rfl rfl))
  (of_decide_eq_true (c.fact (l:=zHx2) 2 32 rfl rfl))
  (of_decide_eq_true (c.fact (l:=zHx2) 2 33 rfl rfl))
  (of_decide_eq_true (c.fact (l:=zHx2) 2 34 rfl rfl))
  (of_decide_eq_true (c.fact (l:=zHx2) 2 35 rfl rfl))
  (of_decide_eq_true (c.fact (l:=zHx2) 2 36 rfl rfl))
  (of_decide_eq_true (c.fact (l:=zHx2) 2 37 rfl rfl))
  (of_decide_eq_true (c.fact (l:=zHx2) 2 38 rfl rfl))
  (of_decide_eq_true (c.fact (l:=zHx2) 2 39 rfl rfl))
  (of_decide_eq_true (c.fact (l:=zHx3) 3 0 rfl rfl))
  m_MOST_SYMBOLS
  r_MOST_SYMBOLS
  m_MOST_COUNT
  r_MOST_COUNT
  m_LONGEST
  r_LONGEST
  rfl
  rfl
  rfl
 exact⟨T,x1,x2,by rw[x32,y22];exact lt22,by rw[x33,y23];exact lt23,by rw[x34,y24];exact lt24,⟨fun z=>of_decide_eq_true (c.fact (l:=zHx3) 3 1 rfl rfl) (by rw[lt22.at_,lt23.at_,←y22,←y23,z];rfl),fun z=>of_decide_eq_true (c.fact (l:=zHx3) 3 2 rfl rfl) (by rw[lt22.at_,lt24.at_,←y22,←y24,z];rfl),fun z=>of_decide_eq_true (c.fact (l:=zHx3) 3 3 rfl rfl) (by rw[lt23.at_,lt24.at_,←y23,←y24,z];rfl)⟩⟩
end K14
open PySem PySem.W PySem.Calls PyProof.Rows in
set_option maxRecDepth 100000 in
set_option maxHeartbeats 0 in
theorem K14.early (hlaw:K14.HL):PySem.Challenge.rw_tornshelf_k14_tables_refused.Holds:=by
 w_on;o_law
 refine HandSHeadRun.head_any (r:=OpenLaw.row PySem.Challenge.rw_tornshelf_k14_tables_refused) (q:=view (OpenLaw.row PySem.Challenge.rw_tornshelf_k14_tables_refused).prog [31,32,33]) (H:=K14.zHk) (ob:=K14.zHob) (M:=20000) (loose:=K14.zHl) (d:=HandSHeadRun.topDef (OpenLaw.row PySem.Challenge.rw_tornshelf_k14_tables_refused).prog 33) (kwd:=[]) K14.j1n
  (by kernel_rfl) (fun s=>by kernel_rfl) K14.w1a (by kernel_rfl) (by kernel_rfl) (by kernel_rfl) (by rfl) (by first|assumption|decide +kernel) (by decide +kernel) ⟨rfl,rfl,rfl,rfl,rfl,by decide +kernel⟩ ?hw ?hc
 case hw=>w_witness2
 case hc =>
  refine Hd.z7z (l:=PySem.Challenge.rw_tornshelf_k14_tables_refused) (n:=63) (k:=10) (x := "_law_script") (CX:=fun _=>L2.CX0) ["_law_counts_refused","_law_lengths_refused","law"] rfl (by decide) (by kernel_rfl) ⟨rfl,by decide,by decide⟩ (by kernel_rfl) ?F (fun _ _ _ _ _ z=>z)
  intro w mg fa h Y G hmg0
  obtain⟨K,KX,c⟩:=Y
  have hmg:mg ("law" : PySem.Str)=some (.ref fa):=by
   have e:(HandSHeadRun.topDef (OpenLaw.row PySem.Challenge.rw_tornshelf_k14_tables_refused).prog 33).name=("law" : PySem.Str):=by kernel_rfl
   rw[←e]
   exact hmg0
  obtain⟨T,ea,hb,t0,t1,t2,hne⟩:=K14.j4h (w:=w) KX G hmg c
  subst ea
  refine⟨K,KX,fun own=>⟨T.d_law,[(T.tc_l_counts_refused,T.tp_l_counts_refused),(T.tc_l_lengths_refused,T.tp_l_lengths_refused),(T.tc_law,T.tp_law)],Y.z6e K [T.tp_l_counts_refused,T.tp_l_lengths_refused,T.tp_law],?_,?_,?_,hb,fun H a ns hl hbits hT hS=>⟨a,ns,rfl,hS,hl,?_,fun _=>rfl⟩,fun base hK hG TB=>hlaw T ?_ hne⟩⟩
  ·intro p hp;simp only[List.mem_cons,List.not_mem_nil,or_false] at hp;rcases hp with rfl|rfl|rfl
   ·exact t0.empty (own _ (by simp))
   ·exact t1.empty (own _ (by simp))
   ·exact t2.empty (own _ (by simp))
  ·intro p hp;simp only[List.mem_cons,List.not_mem_nil,or_false] at hp;rcases hp with rfl|rfl|rfl
   ·exact t0.no
   ·exact t1.no
   ·exact t2.no
  ·intro p hp;simp only[List.mem_cons,List.not_mem_nil,or_false] at hp;rcases hp with rfl|rfl|rfl
   ·exact PySem.W.codeHd_of_K KX t0.hd
   ·exact PySem.W.codeHd_of_K KX t1.hd
   ·exact PySem.W.codeHd_of_K KX t2.hd
  ·intro p hp;simp only[List.mem_cons,List.not_mem_nil,or_false] at hp;rcases hp with rfl|rfl|rfl
   ·exact hT (T.tc_l_counts_refused,T.tp_l_counts_refused) (by simp)
   ·exact hT (T.tc_l_lengths_refused,T.tp_l_lengths_refused) (by simp)
   ·exact hT (T.tc_law,T.tp_law) (by simp)
  ·exact⟨TB (T.tc_l_counts_refused,T.tp_l_counts_refused) (by simp),TB (T.tc_l_lengths_refused,T.tp_l_lengths_refused) (by simp),TB (T.tc_law,T.tp_law) (by simp)⟩
namespace K14
open PySem L2 Z Y
local macro_rules | `(tactic| walk_at "sd")=>`(tactic| first
 | omega|assumption|(show(_:Nat)≤16777216;simp;done)|(show(_:Nat)≤16777216;simp;omega)|(show(_:Nat)<16777216;simp;done)|(show(_:Nat)<16777216;simp;omega)|decide|exact Or.inr ⟨by omega,by omega⟩|exact Or.inl ⟨by omega,by omega⟩|exact⟨by omega,by omega⟩|exact⟨by omega,by omega,by omega⟩|exact⟨by omega,by omega,by omega,by omega⟩|exact⟨by omega,by omega,by decide⟩)
local macro_rules | `(tactic| walk_at "ds")=>`(tactic| dsimp only[List.set,setC,q2a,j3w,Y.rest,kp,Cn.toD])
local macro_rules | `(tactic| walk_at "f0")=>`(tactic| (refine Y.f_fn rfl ?_;simp only[List.map_cons,List.map_nil,List.length_cons,List.length_nil,List.replicate,Nat.reduceSub,Nat.reduceAdd,List.cons_append,List.nil_append]))
local macro_rules | `(tactic| walk_at "fx")=>`(tactic| (refine Y.w2j rfl ?_;simp only[List.map_cons,List.map_nil,List.length_cons,List.length_nil,List.replicate,Nat.reduceSub,Nat.reduceAdd,List.cons_append,List.nil_append]))
local macro_rules | `(tactic| walk_at "f00")=>`(tactic| (refine Y.w1h rfl ?_;simp only[List.map_cons,List.map_nil,List.length_cons,List.length_nil,List.replicate,Nat.reduceSub,Nat.reduceAdd,List.cons_append,List.nil_append]))
local macro_rules | `(tactic| walk_at "wx")=>`(tactic| ((with_reducible show _≤sizeLine∧_);refine⟨by walk_at "sd",?_⟩))
local macro_rules | `(tactic| walk_at "wx")=>`(tactic| ((with_reducible show _∧Y.Wo _ _ _);refine⟨by walk_at "sd",?_⟩))
local macro_rules | `(tactic| walk_at "wx")=>`(tactic| ((with_reducible show ∃c,AI.new _=AI.new c∧_);refine⟨_,rfl,?_⟩;try (walk_at "ds")))
local macro_rules | `(tactic| walk_at "wx")=>`(tactic| ((with_reducible show ∃x,AI.val (D.str _)=AI.val (D.str x)∧_);refine⟨_,rfl,?_⟩;try dsimp only[]))
local macro_rules | `(tactic| walk_at "wx")=>`(tactic| ((with_reducible show ∃l,Y.q9j _=some l∧_);refine⟨_,rfl,?_⟩;try (dsimp only[])))
local macro_rules | `(tactic| walk_at "wx")=>`(tactic| ((with_reducible show ∃l,Y.q1v _ _=some l∧_);first|refine⟨_,rfl,?_⟩|refine⟨_,Y.z6l (by assumption),?_⟩))
local macro_rules | `(tactic| walk_at "wx")=>`(tactic| ((with_reducible show ∃d' l',[_]=[d']∧Y.q4g _ d'=some l'∧_);refine⟨_,_,rfl,rfl,?_⟩;dsimp only[ckOf]))
local macro_rules | `(tactic| walk_at "wx")=>`(tactic| with_reducible refine Y.w1y ?_)
local macro_rules | `(tactic| walk_at "wx")=>`(tactic| ((with_reducible show ∃l',Y.q4g _ _=some l'∧_);refine⟨_,rfl,?_⟩;dsimp only[ckOf]))
local macro_rules | `(tactic| walk_at "wx")=>`(tactic| ((with_reducible refine Y.z5h ?_ ?_);(focus (· walk_at "sd"))))
local macro_rules | `(tactic| walk_at "wx")=>`(tactic| ((with_reducible show ∃w x,[_,_]=[w,x]∧_);refine⟨_,_,rfl,?_⟩;try (walk_at "ds")))
local macro_rules | `(tactic| walk_at "wx")=>`(tactic| ((with_reducible refine Y.z8e ?_ ?_);(focus (· first|rfl|(simp only[D.noIdL,D.noId,Y.z3x,Bool.and_self,Bool.and_true,Bool.true_and];done)))))
local macro_rules | `(tactic| walk_at "wx")=>`(tactic| ((with_reducible show(∃l,Y.q3b _ _=some l)∧_);refine⟨⟨_,rfl⟩,?_⟩))
local macro_rules | `(tactic| walk_at "wx")=>`(tactic| ((with_reducible show ∃l,AI.new (.dK _)=AI.new (.dK l)∧_);refine⟨_,rfl,?_⟩))
local macro_rules | `(tactic| walk_at "wx")=>`(tactic| ((with_reducible refine Y.j5f ?_ ?_ ?_);(focus (· walk_at "sd"));(focus (· walk_at "sd"))))
local macro_rules | `(tactic| walk_at "wx")=>`(tactic| ((with_reducible refine Z.j5e ?_ ?_);(focus (· omega))))
local macro_rules | `(tactic| walk_at "wx")=>`(tactic| with_reducible refine Z.j7s ?_)
local macro_rules | `(tactic| walk_at "wx")=>`(tactic| with_reducible refine Y.w1n ?_)
local macro_rules | `(tactic| walk_at "wx")=>`(tactic| with_reducible refine Y.j4t ?_)
local macro_rules | `(tactic| walk_at "wx")=>`(tactic| ((with_reducible refine Z.j5h ?_ ?_);(focus (· omega))))
local macro_rules | `(tactic| walk_at "wx")=>`(tactic| ((with_reducible show if(!(Y.D.isN _))=true then _ else _);first|refine Y.z_b1 rfl ?_|refine Y.z_b0 rfl ?_))
local macro_rules | `(tactic| walk_at "wx")=>`(tactic| ((with_reducible show if Y.D.isN _=true then _ else _);first|refine Y.z_b1 rfl ?_|refine Y.z_b0 rfl ?_))
local macro_rules | `(tactic| walk_at "wx")=>`(tactic| with_reducible refine Z.j7f ?_)
local macro_rules | `(tactic| walk_at "wx")=>`(tactic| ((with_reducible refine Y.q9k ?_ ?_);(focus (· walk_at "sd"))))
local macro_rules | `(tactic| walk_at "wx")=>`(tactic| with_reducible refine Z.w0o ?_)
local macro_rules | `(tactic| walk_at "wx")=>`(tactic| with_reducible refine Z.j3b ?_)
local macro_rules | `(tactic| walk_at "wx")=>`(tactic| with_reducible refine Y.j5y ?_)
local macro_rules | `(tactic| walk_at "wx")=>`(tactic| ((with_reducible refine Z.j7t ?_ ?_);(focus (· omega))))
local macro_rules | `(tactic| walk_at "wx")=>`(tactic| ((with_reducible show Y.So _ (Y.tgL _ _ _ _));refine Y.z9r rfl ?_;walk_at "ds"))
local macro_rules | `(tactic| walk_at "wx")=>`(tactic| ((with_reducible show Y.So _ (Y.tgT _ _ _ _));refine Y.z9r rfl ?_;walk_at "ds"))
local macro_rules | `(tactic| walk_at "wx")=>`(tactic| with_reducible refine Y.j6r ?_)
local macro_rules | `(tactic| walk_at "wx")=>`(tactic| ((with_reducible show Y.So _ (Y.tgN _ _ _));refine Y.j0l ?_;walk_at "ds"))
local macro_rules | `(tactic| walk_at "wx")=>`(tactic| with_reducible refine Z.z_iT ?_)
local macro_rules | `(tactic| walk_at "wx")=>`(tactic| with_reducible refine Z.z_iF ?_)
local macro_rules | `(tactic| walk_at "wx")=>`(tactic| ((with_reducible show if decide ((Str.ofString _)=Str.ofString _)=true then _ else _);first|refine Z.j7t (by decide +kernel) ?_|refine Z.j9m (by decide +kernel) ?_))
local macro_rules | `(tactic| walk_at "wx")=>`(tactic| ((with_reducible refine Z.j9m ?_ ?_);(focus (· omega))))
local macro_rules | `(tactic| walk_at "wx")=>`(tactic| ((with_reducible show ∃k c fs,Y.q3z _ _=some (k,c,fs)∧_∧_);first|refine⟨_,_,_,rfl,⟨rfl,by first|decide|simp⟩,?_⟩|refine⟨_,_,_,Y.q9o (by assumption),⟨rfl,by first|decide|simp⟩,?_⟩))
local macro_rules | `(tactic| walk_at "wx")=>`(tactic| ((with_reducible show ∃k fs,Y.q3z _ _=some (k,_,fs)∧_∧_);first|refine⟨_,_,rfl,rfl,?_⟩|refine⟨_,_,Y.q9o (by assumption),rfl,?_⟩))
local macro_rules | `(tactic| walk_at "wx")=>`(tactic| ((with_reducible show ∃k c fs d,Y.q3z _ _=some (k,c,fs)∧_∧_∧_);first|refine⟨_,_,_,_,rfl,rfl,rfl,?_⟩|refine⟨_,_,_,_,Y.q9o (by assumption),rfl,rfl,?_⟩))
local macro_rules | `(tactic| walk_at "wx")=>`(tactic| with_reducible refine Y.w1t ?_)
local macro_rules | `(tactic| walk_at "ws")=>`(tactic| ((with_reducible show Y.Ws _ _ (Y.mAug _ _ _ _));refine Y.w1o rfl ?_))
local macro_rules | `(tactic| walk_at "ws")=>`(tactic| with_reducible refine Y.j9r ?_)
local macro_rules | `(tactic| walk_at "ws")=>`(tactic| ((with_reducible show Y.Ws _ _ (Y.j1e _ _ _ _ _));refine Y.j7c rfl ?_))
local macro_rules | `(tactic| walk_at "ws")=>`(tactic| with_reducible refine Y.j9z ?_)
local macro_rules | `(tactic| walk_at "ws")=>`(tactic| with_reducible refine Y.j8e ?_)
local macro_rules | `(tactic| walk_at "ws")=>`(tactic| with_reducible refine Y.z8z ?_)
local macro_rules | `(tactic| walk_at "ws")=>`(tactic| with_reducible refine Y.j3e ?_)
local macro_rules | `(tactic| walk_at "ws")=>`(tactic| with_reducible refine Y.j8f ?_)
local macro_rules | `(tactic| walk_at "ws")=>`(tactic| with_reducible refine Y.j9a ?_)
local macro_rules | `(tactic| walk_at "ws")=>`(tactic| with_reducible refine Y.j1m ?_)
local macro_rules | `(tactic| walk_at "ws")=>`(tactic| with_reducible refine Y.j4g ?_)
local macro_rules | `(tactic| walk_at "ws")=>`(tactic| with_reducible refine Y.j8s ?_)
local macro_rules | `(tactic| walk_at "ws")=>`(tactic| with_reducible refine Y.w0s ?_)
local macro_rules | `(tactic| walk_at "ws")=>`(tactic| with_reducible refine Y.j6y ?_)
local macro_rules | `(tactic| walk_at "ws")=>`(tactic| with_reducible refine Y.j5x ?_)
local macro_rules | `(tactic| walk_at "ws")=>`(tactic| with_reducible refine Y.j0p ?_)
local macro_rules | `(tactic| walk_at "ws")=>`(tactic| ((with_reducible show Y.Ws _ _ (Y.asg _ (.slot _) _));refine Y.j7p rfl ?_;walk_at "ds"))
local macro_rules | `(tactic| walk_at "ws")=>`(tactic| with_reducible refine Y.w0b ?_)
local macro_rules | `(tactic| walk_at "ws")=>`(tactic| with_reducible refine Y.j2q ?_)
local macro_rules | `(tactic| walk_at "ws")=>`(tactic| with_reducible refine Y.j5w ?_)
local macro_rules | `(tactic| walk_at "ws")=>`(tactic| ((with_reducible show Y.Ws _ _ (Y.ret (.slot _) _));refine Y.j9s rfl ?_;walk_at "ds"))
local macro_rules | `(tactic| walk_at "ws")=>`(tactic| (with_reducible refine Y.j8d ?_;walk_at "ds"))
local macro_rules | `(tactic| walk_at "ws")=>`(tactic| with_reducible refine Y.w1w ?_)
local macro_rules | `(tactic| walk_at "ws")=>`(tactic| with_reducible refine Y.j7w ?_)
local macro_rules | `(tactic| walk_at "ws")=>`(tactic| with_reducible refine Y.j8h ?_)
local macro_rules | `(tactic| walk_at "ws")=>`(tactic| (with_reducible refine Y.j5v ?_;walk_at "ds"))
local macro_rules | `(tactic| walk_at "ws")=>`(tactic| with_reducible refine Y.w2r ?_)
local macro_rules | `(tactic| walk_at "ws")=>`(tactic| with_reducible refine Y.j6o ?_)
local macro_rules | `(tactic| walk_at "ws")=>`(tactic| with_reducible refine Y.w1s ?_)
local macro_rules | `(tactic| walk_at "ws")=>`(tactic| with_reducible refine Y.j9j ?_)
local macro_rules | `(tactic| walk_at "ws")=>`(tactic| with_reducible refine Y.w0x ?_)
local macro_rules | `(tactic| walk_at "ws")=>`(tactic| with_reducible refine Y.w2m ?_)
local macro_rules | `(tactic| walk_at "wo")=>`(tactic| with_reducible refine Y.j7g ?_)
local macro_rules | `(tactic| walk_at "wo")=>`(tactic| with_reducible refine Y.w2o ?_)
local macro_rules | `(tactic| walk_at "wo")=>`(tactic| with_reducible refine Y.w_ws ?_)
local macro_rules | `(tactic| walk_at "wo")=>`(tactic| with_reducible refine Y.w_wt ?_)
local macro_rules | `(tactic| walk_at "wo")=>`(tactic| with_reducible refine Y.w_wz ?_)
local macro_rules | `(tactic| walk_at "wo")=>`(tactic| with_reducible refine Y.j8o ?_)
local macro_rules | `(tactic| walk_at "wo")=>`(tactic| with_reducible refine Y.j1x ?_)
local macro_rules | `(tactic| walk_at "wo")=>`(tactic| with_reducible refine Y.j4r ?_)
local macro_rules | `(tactic| walk_at "wo")=>`(tactic| with_reducible refine Y.j3z ?_)
local macro_rules | `(tactic| walk_at "wo")=>`(tactic| with_reducible refine Y.j2n ?_)
local macro_rules | `(tactic| walk_at "wo")=>`(tactic| ((with_reducible show Y.Wo _ _ (Y.mIsX _ _ _));refine Y.w2h rfl rfl ?_))
local macro_rules | `(tactic| walk_at "wo")=>`(tactic| ((with_reducible show Y.Wo _ _ (Y.mXf _ _ _ _));refine Y.w_xf rfl rfl rfl ?_))
local macro_rules | `(tactic| walk_at "wo")=>`(tactic| with_reducible refine Y.z7n ?_)
local macro_rules | `(tactic| walk_at "wo")=>`(tactic| with_reducible refine Y.z8g ?_)
local macro_rules | `(tactic| walk_at "wo")=>`(tactic| with_reducible refine Y.j4i ?_)
local macro_rules | `(tactic| walk_at "wo")=>`(tactic| with_reducible refine Y.j1y ?_)
local macro_rules | `(tactic| walk_at "wo")=>`(tactic| with_reducible refine Y.w1v ?_)
local macro_rules | `(tactic| walk_at "wo")=>`(tactic| with_reducible refine Y.j7q ?_)
local macro_rules | `(tactic| walk_at "wo")=>`(tactic| with_reducible refine Y.j2k ?_)
local macro_rules | `(tactic| walk_at "wo")=>`(tactic| with_reducible refine Y.j0x ?_)
local macro_rules | `(tactic| walk_at "wo")=>`(tactic| with_reducible refine Y.j2f ?_)
local macro_rules | `(tactic| walk_at "wo")=>`(tactic| with_reducible refine Y.j6p ?_)
local macro_rules | `(tactic| walk_at "wo")=>`(tactic| with_reducible refine Y.w_wn ?_)
local macro_rules | `(tactic| walk_at "wo")=>`(tactic| with_reducible refine Y.j7l ?_)
local macro_rules | `(tactic| walk_at "wo")=>`(tactic| with_reducible refine Y.z4o ?_)
local macro_rules | `(tactic| walk_at "wo")=>`(tactic| with_reducible refine Y.z3m ?_)
local macro_rules | `(tactic| walk_at "wo")=>`(tactic| with_reducible refine Y.j5k ?_)
local macro_rules | `(tactic| walk_at "wo")=>`(tactic| with_reducible refine Y.z5d ?_)
local macro_rules | `(tactic| walk_at "wo")=>`(tactic| with_reducible refine Y.w0d ?_)
local macro_rules | `(tactic| walk_at "wo")=>`(tactic| with_reducible refine Y.j5b ?_)
local macro_rules | `(tactic| walk_at "wo")=>`(tactic| with_reducible refine Y.j1c ?_)
local macro_rules | `(tactic| walk_at "wo")=>`(tactic| with_reducible refine Y.z8k ?_)
local macro_rules | `(tactic| walk_at "wo")=>`(tactic| with_reducible refine Y.j6j ?_)
local macro_rules | `(tactic| walk_at "wo")=>`(tactic| with_reducible refine Y.w1m ?_)
local macro_rules | `(tactic| walk_at "wo")=>`(tactic| with_reducible refine Y.j5u ?_)
local macro_rules | `(tactic| walk_at "wo")=>`(tactic| with_reducible refine Y.z4v ?_)
local macro_rules | `(tactic| walk_at "wo")=>`(tactic| with_reducible refine Y.z4d ?_)
local macro_rules | `(tactic| walk_at "wo")=>`(tactic| with_reducible refine Y.j4n ?_)
local macro_rules | `(tactic| walk_at "wo")=>`(tactic| with_reducible refine Y.w0h ?_)
local macro_rules | `(tactic| walk_at "wo")=>`(tactic| with_reducible refine Y.w2f ?_)
local macro_rules | `(tactic| walk_at "wo")=>`(tactic| with_reducible refine Y.j7x ?_)
local macro_rules | `(tactic| walk_at "wo")=>`(tactic| with_reducible refine Y.w1u ?_)
local macro_rules | `(tactic| walk_at "wo")=>`(tactic| ((with_reducible show Y.Wo _ _ (Y.mLcO _ _ _ _ _ _));refine Y.w2u rfl ?_;walk_at "ds"))
local macro_rules | `(tactic| walk_at "wo")=>`(tactic| ((with_reducible show Y.Wo _ _ (Y.mLcD _ _ _ _ _ _ _));first|refine Y.w0k rfl ?_|(refine Y.j8z rfl ?_;walk_at "ds")))
local macro_rules | `(tactic| walk_at "wo")=>`(tactic| with_reducible refine Y.j9c ?_)
local macro_rules | `(tactic| walk_at "wo")=>`(tactic| with_reducible refine Y.j6u ?_)
local macro_rules | `(tactic| walk_at "wo")=>`(tactic| with_reducible refine Y.w2w ?_)
local macro_rules | `(tactic| walk_at "wo")=>`(tactic| ((with_reducible refine Y.j5o ?_ ?_);(focus (· walk_at "sd"))))
local macro_rules | `(tactic| walk_at "wo")=>`(tactic| with_reducible refine Y.j3k ?_)
local macro_rules | `(tactic| walk_at "wo")=>`(tactic| with_reducible refine Y.j7h ?_)
local macro_rules | `(tactic| walk_at "wo")=>`(tactic| with_reducible refine Y.w_mI ?_)
local macro_rules | `(tactic| walk_at "wo")=>`(tactic| with_reducible refine Y.w1b ?_)
local macro_rules | `(tactic| walk_at "wo")=>`(tactic| ((with_reducible show Y.Wo _ _ (Y.fNe _ (.val (.str _)) (.val (.str _))));refine Y.w2d (by decide +kernel) (by decide +kernel) ?_))
local macro_rules | `(tactic| walk_at "wo")=>`(tactic| with_reducible refine Y.w1j ?_)
local macro_rules | `(tactic| walk_at "wo")=>`(tactic| with_reducible refine Y.j3r ?_)
local macro_rules | `(tactic| walk_at "wo")=>`(tactic| with_reducible refine Y.j2d ?_)
local macro_rules | `(tactic| walk_at "wo")=>`(tactic| with_reducible refine Y.j5j ?_)
local macro_rules | `(tactic| walk_at "wo")=>`(tactic| with_reducible refine Y.w_I2 ?_)
local macro_rules | `(tactic| walk_at "wo")=>`(tactic| with_reducible refine Y.w_we ?_)
local macro_rules | `(tactic| walk_at "wo")=>`(tactic| with_reducible refine Y.j7y ?_)
local macro_rules | `(tactic| walk_at "wo")=>`(tactic| with_reducible refine Y.j2c ?_)
local macro_rules | `(tactic| walk_at "wo")=>`(tactic| with_reducible refine Y.j4k ?_)
local macro_rules | `(tactic| walk_at "wo")=>`(tactic| with_reducible refine Y.w1p ?_)
local macro_rules | `(tactic| walk_at "wo")=>`(tactic| ((with_reducible show Y.Wo _ _ (Y.j4a _ [_]));refine Y.j6n rfl ?_))
local macro_rules | `(tactic| walk_at "wo")=>`(tactic| with_reducible refine Y.w2s ?_)
local macro_rules | `(tactic| walk_at "wo")=>`(tactic| with_reducible refine Y.w_un ?_)
local macro_rules | `(tactic| walk_at "wo")=>`(tactic| ((with_reducible show Y.Wo _ _ (Y.toV (.slot _) _));refine Y.w0j rfl ?_;walk_at "ds"))
local macro_rules | `(tactic| walk_at "wo")=>`(tactic| with_reducible refine Y.j5t ?_)
local macro_rules | `(tactic| walk_at "wo")=>`(tactic| with_reducible refine Y.w2v ?_)
local macro_rules | `(tactic| walk_at "wo")=>`(tactic| with_reducible refine Y.w1f ?_)
local macro_rules | `(tactic| walk_at "wo")=>`(tactic| with_reducible refine Y.w0q ?_)
local macro_rules | `(tactic| walk_at "wo")=>`(tactic| ((with_reducible show Y.Wo _ _ (Y.fIsn _ _ (.val .non)));refine Y.w0c rfl ?_))
local macro_rules | `(tactic| walk_at "wo")=>`(tactic| ((with_reducible show Y.Wo _ _ (Y.fSlT _ _ _ _));refine Y.j7k rfl (by first|decide|(simp only[List.length_cons,List.length_nil];decide)) ?_))
local macro_rules | `(tactic| walk_at "wo")=>`(tactic| with_reducible refine Y.j5p ?_)
local macro_rules | `(tactic| walk_at "wo")=>`(tactic| with_reducible refine Y.j3m ?_)
local macro_rules | `(tactic| walk_at "wo")=>`(tactic| ((with_reducible show Y.Wo _ _ (Y.fSl _ _ _ _));refine Y.w0m rfl rfl ?_))
local macro_rules | `(tactic| walk_at "wo")=>`(tactic| with_reducible refine Y.w_sl ?_)
local macro_rules | `(tactic| walk_at "wo")=>`(tactic| with_reducible refine Y.j4e ?_)
local macro_rules | `(tactic| walk_at "wo")=>`(tactic| with_reducible refine Y.j7b ?_)
local macro_rules | `(tactic| walk_at "wo")=>`(tactic| ((with_reducible show Y.Wo _ _ (Y.fIs _ _ (.val .non)));refine Y.w2l rfl ?_))
local macro_rules | `(tactic| walk_at "wo")=>`(tactic| with_reducible refine Y.z7u ?_)
local macro_rules | `(tactic| walk_at "wo")=>`(tactic| with_reducible refine Y.j0q ?_)
local macro_rules | `(tactic| walk_at "wo")=>`(tactic| (with_reducible refine Y.j9d ?_;dsimp only[Cn.toD]))
local macro_rules | `(tactic| walk_at "wo")=>`(tactic| with_reducible refine Y.w_lc ?_)
local macro_rules | `(tactic| walk_at "wo")=>`(tactic| with_reducible refine Y.j5i ?_)
local macro_rules | `(tactic| walk_at "wo")=>`(tactic| with_reducible refine Y.w2a ?_)
local macro_rules | `(tactic| walk_at "wo")=>`(tactic| with_reducible refine Y.w2c ?_)
local macro_rules | `(tactic| walk_at "wo")=>`(tactic| with_reducible refine Y.w_or ?_)
local macro_rules | `(tactic| walk_at "wo")=>`(tactic| ((with_reducible refine Y.j5d ?_ ?_);(focus (· walk_at "sd"))))
local macro_rules | `(tactic| walk_at "wo")=>`(tactic| with_reducible refine Y.j2h ?_)
local macro_rules | `(tactic| walk_at "wo")=>`(tactic| with_reducible refine Y.w_wl ?_)
local macro_rules | `(tactic| walk_at "wo")=>`(tactic| with_reducible refine Y.w1d ?_)
local macro_rules | `(tactic| walk_at "wo")=>`(tactic| with_reducible refine Y.w0z ?_)
local macro_rules | `(tactic| walk_at "wo")=>`(tactic| with_reducible refine Y.w_bm ?_)
local macro_rules | `(tactic| walk_at "wo")=>`(tactic| ((with_reducible refine Y.w_I ?_ ?_);(focus (· walk_at "sd"))))
local macro_rules | `(tactic| walk_at "wo")=>`(tactic| ((with_reducible show Y.Wo _ _ (Y.fLen _ [_]));first|refine Y.j5l rfl rfl ?_|refine Y.j6e (by assumption) ?_))
local macro_rules | `(tactic| walk_at "wo")=>`(tactic| (with_reducible refine Y.j7e ?_;try (dsimp only[List.length_cons,List.length_nil,List.cons_append,List.nil_append,Nat.reduceAdd])))
local macro_rules | `(tactic| walk_at "wo")=>`(tactic| with_reducible refine Y.w0u ?_)
local macro_rules | `(tactic| walk_at "wo")=>`(tactic| with_reducible refine Y.j6q ?_)
local macro_rules | `(tactic| walk_at "wo")=>`(tactic| with_reducible refine Y.w2i ?_)
local macro_rules | `(tactic| walk_at "wo")=>`(tactic| with_reducible refine Y.w1i ?_)
local macro_rules | `(tactic| walk_at "wo")=>`(tactic| with_reducible refine Y.w_cb ?_)
local macro_rules | `(tactic| walk_at "wo")=>`(tactic| with_reducible refine Y.j0t ?_)
local macro_rules | `(tactic| walk_at "wo")=>`(tactic| with_reducible refine Y.w2b ?_)
local macro_rules | `(tactic| walk_at "wo")=>`(tactic| ((with_reducible show Y.Wo _ _ (Y.fEq _ (.val (.str _)) (.val (.str _))));refine Y.w0n (by decide +kernel) (by decide +kernel) ?_))
local macro_rules | `(tactic| walk_at "wo")=>`(tactic| with_reducible refine Y.j8y ?_)
local macro_rules | `(tactic| walk_at "wo")=>`(tactic| with_reducible refine Y.j2u ?_)
local macro_rules | `(tactic| walk_at "wo")=>`(tactic| with_reducible refine Y.j7d ?_)
local macro_rules | `(tactic| walk_at "wo")=>`(tactic| with_reducible refine Y.w_I0 ?_)
local macro_rules | `(tactic| walk_at "wo")=>`(tactic| with_reducible refine Y.w_K ?_)
local macro_rules | `(tactic| walk_at "wo")=>`(tactic| with_reducible refine Y.j4u ?_)
local macro_rules | `(tactic| walk_at "wo")=>`(tactic| with_reducible refine Y.j3x ?_)
local macro_rules | `(tactic| walk_at "wo")=>`(tactic| with_reducible refine Y.w_bl ?_)
local macro_rules | `(tactic| walk_at "wo")=>`(tactic| with_reducible refine Y.w2t ?_)
local macro_rules | `(tactic| walk_at "wo")=>`(tactic| with_reducible refine Y.j6d ?_)
local macro_rules | `(tactic| walk_at "wo")=>`(tactic| with_reducible refine Y.w_V ?_)
local macro_rules | `(tactic| walk_at "wo")=>`(tactic| with_reducible refine Y.w_op ?_)
local macro_rules | `(tactic| walk_at "wo")=>`(tactic| with_reducible refine Y.w_c ?_)
local macro_rules | `(tactic| walk_at "wo")=>`(tactic| ((with_reducible show Y.Wo _ _ (Y.q0d _ _));first|refine Y.j3l rfl ?_|refine Y.j3v rfl ?_))
local macro_rules | `(tactic| walk_at "w1")=>`(tactic| walk_at "wx")
local macro_rules | `(tactic| walk_at "w1")=>`(tactic| ((with_reducible show Y.Ws _ _ _);walk_at "ws"))
local macro_rules | `(tactic| walk_at "w1")=>`(tactic| ((with_reducible show Y.Wo _ _ _);walk_at "wo"))
local macro_rules | `(tactic| walk_at "w")=>`(tactic| repeat (walk_at "w1"))
local macro_rules | `(tactic| walk_at "dr")=>`(tactic| (refine q9c (next_ok (by assumption) (by first|decide|omega) (by first|decide|omega)) ?_;rintro _ _ ⟨_,rfl,_,_,_⟩;have:=Kpt.dr (by assumption);walk_at "w"))
local macro_rules | `(tactic| walk_at "wi")=>`(tactic| repeat ((fail_if_success (with_reducible show Y.Ws _ _ (Y.mSeq (Y.mIfS _ _ _) _ _)));walk_at "w1"))
local macro_rules | `(tactic| walk_at "wr")=>`(tactic| repeat ((fail_if_success (with_reducible first|refine Y.q9k ?_ ?_|refine Y.z5h ?_ ?_));walk_at "w1"))
theorem q2v {P:Program} {w:World} {K:PySem.W.Frag} {mg:Str→Option Value} {base:Heap} (T:Tx K mg):FnOk P w K mg base CX0 1 T.a_BadPaper_init T.d_BadPaper_init ["self","words","at"] (spA K T.C_BadPaper "at") :=
 T.F_BadPaper_init.ok q7g (fun vs H Q E h=>j3f h) (fun cdv A outer s H vs Q E hr h=>⟨_,(pss_cons (ps_expr (z3p (by rfl) T.g_ShelfError ⟨T.rd_ShelfError,T.ra_ShelfError⟩ T.ri_ShelfError (pa_cons (pv 0) (pa_cons (pv 1) pa_nil)))) (pss_one (ps_ost (pv 0) (pv 2)))),w1g h⟩)
@[irreducible] noncomputable def b_l_bad:Ms :=
 (mSeq (mAsg 3 (mOp (fI (fun _ j=>0<j) fun i j=>.int (i%j)) (q0d 2) (mCB fLen (q0y (q0d 0) aNil))))
 (mSeq (mAsg 4 (mI (mV (mLst (q0f (mOp (fI0 fun i j=>.int (i-j)) (mOp (fI0 fun i j=>.int (i-j)) (mC (.int 0)) (mC (.int 1))) (mOp (fI (fun _ j=>0<j) fun i j=>.int (i%j)) (mOp (fI CDiv fun i j=>.int (i/j)) (q0d 2) (mC (.int 64))) (mC (.int 9)))) (q0f (mC (.bl true)) (q0f (mC .non) (q0f (mC (.str (Str.ofString "1"))) (q0f (mTup (q0f (mC (.int 1)) (q0f (mC (.int 2)) vNil))) (q0f (mOp fAdd (q0d 1) (mC (.int 1))) (q0f (mLst (q0f (mC (.int 1)) vNil)) vNil)))))))))))
 (mSeq (mIfS (mBl (mOp fEq (mOp (fI (fun _ j=>0<j) fun i j=>.int (i%j)) (mOp (fI CDiv fun i j=>.int (i/j)) (q0d 2) (mC (.int 4096))) (mC (.int 3))) (mC (.int 0)))) (mRet (mOp fIxY (mLst (q0f (mC .non) (q0f (mC (.int 5)) (q0f (mTup (q0f (mC (.int 1)) (q0f (mC (.int 2)) vNil))) (q0f (mC (.str (Str.ofString "12"))) (q0f (mLst vNil) (q0f (mOp fMul (mLst (q0f (mC (.int 1)) vNil)) (mC (.int 65))) (q0f z3t (q0f (mC (.bl true)) vNil))))))))) (mOp (fI (fun _ j=>0<j) fun i j=>.int (i%j)) (mOp (fI CDiv fun i j=>.int (i/j)) (q0d 2) (mC (.int 64))) (mC (.int 8))))) q3h)
 (mRet (mOp fAdd (mOp fAdd (mSl (q0d 0) oNo (oSm (q0d 3))) (mLst (q0f (mOp fIxY (q0d 4) (mOp (fI (fun _ j=>0<j) fun i j=>.int (i%j)) (mOp (fI CDiv fun i j=>.int (i/j)) (q0d 2) (mC (.int 64))) (mC (.int 7)))) vNil))) (mSl (q0d 0) (oSm (mOp fAdd (q0d 3) (mC (.int 1)))) oNo))))))
noncomputable def q9u:Mf:=mFn 3 5 b_l_bad
theorem z2n {P:Program} {w:World} {K:PySem.W.Frag} {mg:Str→Option Value} {base:Heap} (T:Tx K mg):FnOk P w K mg base CX0 1 T.a_l_bad T.d_l_bad ["_law_good","_law_most","_law_number"] (spM K (ctT T) q9u) :=
 T.F_l_bad.ok q9l (fun vs H Q E h=>q2k h) (fun cdv A outer s H vs Q E hr h=>⟨_,(pss_cons (ps_set (i:=3) q9l.nd rfl (by first|exact Or.inl rfl|exact Or.inr rfl) (pe_op op_mod (pv 2) (pe_callB (q0t (K:=K) rfl) (by rfl) T.z_len PySem.boot_len (pa_cons (pv 0) pa_nil))))
   (pss_cons (ps_set (i:=4) q9l.nd rfl (by first|exact Or.inl rfl|exact Or.inr rfl) (pe_lst (pa_cons (pe_op op_sub (pe_op op_sub pe_int pe_int) (pe_op op_mod (pe_op op_fdiv (pv 2) pe_int) pe_int)) (pa_cons pe_bl (pa_cons pe_non (pa_cons pe_str (pa_cons (pe_tup (pa_cons pe_int (pa_cons pe_int pa_nil))) (pa_cons (pe_op (q0w (K:=K) rfl) (pv 1) pe_int) (pa_cons (pe_lst (pa_cons pe_int pa_nil)) pa_nil)))))))))
   (pss_cons (ps_if (pt_cmpR (q5i (K:=K) rfl hr.units) (pe_op op_mod (pe_op op_fdiv (pv 2) pe_int) pe_int) pe_int (nomark _)) (pss_one (ps_ret (pe_ix (ix_Y (K:=K) rfl (hu_of hr)) (pe_lst (pa_cons pe_non (pa_cons pe_int (pa_cons (pe_tup (pa_cons pe_int (pa_cons pe_int pa_nil))) (pa_cons pe_str (pa_cons (pe_lst pa_nil) (pa_cons (pe_op q2j (pe_lst (pa_cons pe_int pa_nil)) pe_int) (pa_cons pe_dnewK (pa_cons pe_bl pa_nil))))))))) (pe_op op_mod (pe_op op_fdiv (pv 2) pe_int) pe_int) (fun _ _=>rfl)))) pss_nil)
   (pss_one (ps_ret (pe_op (q0w (K:=K) rfl) (pe_op (q0w (K:=K) rfl) (pe_slice (sl_Z (K:=K) rfl) (pv 0) po_none (po_some (pv 3))) (pe_lst (pa_cons (pe_ix (ix_Y (K:=K) rfl (hu_of hr)) (pv 4) (pe_op op_mod (pe_op op_fdiv (pv 2) pe_int) pe_int) (fun _ _=>rfl)) pa_nil))) (pe_slice (sl_Z (K:=K) rfl) (pv 0) (po_some (pe_op (q0w (K:=K) rfl) (pv 3) pe_int)) po_none))))))),
  q2h (np:=3) (N:=["_law_good","_law_most","_law_number","_law_at","_law_some"]) (body:=b_l_bad) (by unfold b_l_bad;exact(q0m (q1y (q0i (j_I fun _ _=>q0c) q0b (q1z q2r (q0j q0b q0r))))
   (q0m (q1y (z1g (q4k (q1b (q0a (q0i (j_I0 fun _ _=>q0c) (q0i (j_I0 fun _ _=>q0c) (ei_c q0c) (ei_c q0c)) (q0i (j_I fun _ _=>q0c) (q0i (j_I fun _ _=>q0c) q0b (ei_c q0c)) (ei_c q0c))) (q0a (ei_c q3i) (q0a (ei_c q8t) (q0a (ei_c q8i) (q0a (q4z (q0a (ei_c q0c) (q0a (ei_c q0c) q0h))) (q0a (q0i q2x q0b (ei_c q0c)) (q0a (q1b (q0a (ei_c q0c) q0h)) q0h)))))))))))
   (q0m (q3m (q1x (q0i j_eq (q0i (j_I fun _ _=>q0c) (q0i (j_I fun _ _=>q0c) q0b (ei_c q0c)) (ei_c q0c)) (ei_c q0c))) (q1o (q0i q5c (q1b (q0a (ei_c q8t) (q0a (ei_c q0c) (q0a (q4z (q0a (ei_c q0c) (q0a (ei_c q0c) q0h))) (q0a (ei_c q8i) (q0a (q1b q0h) (q0a (q0i q5a (q1b (q0a (ei_c q0c) q0h)) (ei_c q0c)) (q0a q9t (q0a (ei_c q3i) q0h))))))))) (q0i (j_I fun _ _=>q0c) (q0i (j_I fun _ _=>q0c) q0b (ei_c q0c)) (ei_c q0c)))) q1i)
   (q1o (q0i q2x (q0i q2x (j5q q0b j7m (j9b q0b)) (q1b (q0a (q0i q5c q0b (q0i (j_I fun _ _=>q0c) (q0i (j_I fun _ _=>q0c) q0b (ei_c q0c)) (ei_c q0c))) q0h))) (j5q q0b (j9b (q0i q2x q0b (ei_c q0c))) j7m))))))) h⟩)
@[irreducible] noncomputable def b_l_cell_at:Ms :=
 (mSeq (mIfS (mBl (mOp (fI0 fun i j=>.bl (decide (i<j))) (q0d 1) (mCB fLen (q0y (q0d 0) aNil)))) (mRet (mOp fIxY (q0d 0) (q0d 1))) q3h)
 (mRet (mC (.int 0))))
noncomputable def q5v:Mf:=mFn 2 2 b_l_cell_at
theorem z0m {P:Program} {w:World} {K:PySem.W.Frag} {mg:Str→Option Value} {base:Heap} (T:Tx K mg):FnOk P w K mg base CX0 1 T.a_l_cell_at T.d_l_cell_at ["_law_script","_law_k"] (spM K (ctT T) q5v) :=
 T.F_l_cell_at.ok z0p (fun vs H Q E h=>q2k h) (fun cdv A outer s H vs Q E hr h=>⟨_,(pss_cons (ps_if (pt_cmpR op_lt (pv 1) (pe_callB (q0t (K:=K) rfl) (by rfl) T.z_len PySem.boot_len (pa_cons (pv 0) pa_nil)) (nomark _)) (pss_one (ps_ret (pe_ix (ix_Y (K:=K) rfl (hu_of hr)) (pv 0) (pv 1) (fun _ _=>rfl)))) pss_nil)
   (pss_one (ps_ret pe_int))),
  q2h (np:=2) (N:=["_law_script","_law_k"]) (body:=b_l_cell_at) (by unfold b_l_cell_at;exact(q0m (q3m (q1x (q0i (j_I0 fun _ _=>q3i) q0b (q1z q2r (q0j q0b q0r)))) (q1o (q0i q5c q0b q0b)) q1i)
   (q1o (ei_c q0c)))) h⟩)
theorem q0v {K:PySem.W.Frag} {mg:Str→Option Value} (T:Tx K mg) {X:Cx} (hK:K=X.K) (hM:mg=X.mg) (cdv:Value) {q:Str}:z9t X ["_law_deed","_law_found","e"] "_law_refused" (defScope q1s) T.a_l_refused cdv (defBody q1s) "_law_deed" q (TRef K T.C_ShelfError T.C_BadTable T.C_BadPaper):=by
 rcases X with⟨_,_,K2,mg2,_,_,_,_,_,_,_,_,_,_,_,_,_⟩
 dsimp only at hK hM ⊢
 subst hK hM
 intro f c' s H Q tl act hc h
 dsimp only at act ⊢
 refine⟨_,(pss_cons (ps_set (i:=1) q0z.nd rfl (by first|exact Or.inl rfl|exact Or.inr rfl) pe_bl)
   (pss_cons (j1q (K:=K) (i:=2) (c:=.ref T.C_ShelfError) rfl rfl rfl q0z.nd rfl rfl ⟨rfl,by decide,.inl T.g_ShelfError⟩ takes0 (fun W pn xe tk po=>(pss_one (ps_expr (act W pn xe _ _ tk)))) (fun a oe cls d pn hz hf=>(pss_one (ps_set (i:=1) q0z.nd rfl (by first|exact Or.inl rfl|exact Or.inr rfl) (pe_and (pe_callB (q9e (K:=K) rfl hz hf) (by rfl) T.z_isinstance (by decide +kernel) (pa_cons (pv 2) (pa_cons (pe_glob (v:=.ref T.C_BadTable) rfl T.g_BadTable rfl) pa_nil))) (pe_and (pe_callB (q9e (K:=K) rfl hz hf) (by rfl) T.z_isinstance (by decide +kernel) (pa_cons (pv 2) (pa_cons (pe_bltn (v:=.ty "ValueError") rfl T.z_ValueError (by decide +kernel) rfl) pa_nil))) (pe_one (pe_not (pe_callB (q9e (K:=K) rfl hz hf) (by rfl) T.z_isinstance (by decide +kernel) (pa_cons (pv 2) (pa_cons (pe_glob (v:=.ref T.C_BadPaper) rfl T.g_BadPaper rfl) pa_nil)))))))))))
   (pss_one (ps_ret (pv 1))))),?_⟩
 have hb:TRef K T.C_ShelfError T.C_BadTable T.C_BadPaper tl H Q:=h
 unfold TRef at hb
 dsimp only[tSeq,j5s,tDrop,tAsg,tRet,tC,tVar,gName,L2.start,wAs,tIfS,tAnd,tOr,tNot,j0r,tNext]
 refine⟨_,rfl,hc,?_,Eq.mpr (congrArg (tl _ H) (funext fun x=>funext fun H1=>propext ⟨fun⟨v,e,z⟩=>by cases e;exact z,fun z=>⟨_,rfl,z⟩⟩)) hb⟩
 rintro cls d H' ⟨C,rfl,xc,hd,e1,k1,k2,k3,hq⟩
 refine⟨true,e1,fun _ a ha=>?_,fun z=>nomatch z⟩
 dsimp only[tAndV,tNotV,tCB,tCons,tVar,tC,tNil,rIsX]
 refine⟨_,rfl,C,_,_,true,rfl,xc,rfl,fun _ h=>h,k1,hd,true,rfl,?_⟩
 rw[if_pos rfl]
 refine⟨_,rfl,C,_,_,true,rfl,xc,rfl,fun _ h=>h,k2,hd,true,rfl,?_⟩
 rw[if_pos rfl]
 exact⟨_,rfl,C,_,_,false,rfl,xc,rfl,fun _ h=>h,k3,hd,false,rfl,_,rfl,hq⟩
@[irreducible] noncomputable def b_is_whole:Ms :=
 (mRet (z3i (mCB fIsi (q0y (q0d 0) (q0y (mC (.ty "int")) aNil))) (j1r (mCB fIsi (q0y (q0d 0) (q0y (mC (.ty "bool")) aNil))))))
noncomputable def q4l:Mf:=mFn 1 1 b_is_whole
theorem q8g {P:Program} {w:World} {K:PySem.W.Frag} {mg:Str→Option Value} {base:Heap} (T:Tx K mg):FnOk P w K mg base CX0 1 T.a_is_whole T.d_is_whole ["thing"] (spM K (ctT T) q4l) :=
 T.F_is_whole.ok z1u (fun vs H Q E h=>q2k h) (fun cdv A outer s H vs Q E hr h=>⟨_,(pss_one (ps_ret (pe_and (pe_callB (q5d (K:=K) rfl) (by rfl) T.z_isinstance (by decide +kernel) (pa_cons (pv 0) (pa_cons (pe_bltn (v:=.ty "int") rfl T.z_int (by decide +kernel) rfl) pa_nil))) (pe_one (pe_not (pe_callB (q5d (K:=K) rfl) (by rfl) T.z_isinstance (by decide +kernel) (pa_cons (pv 0) (pa_cons (pe_bltn (v:=.ty "bool") rfl T.z_bool (by decide +kernel) rfl) pa_nil)))))))),
  q2h (np:=1) (N:=["thing"]) (body:=b_is_whole) (by unfold b_is_whole;exact(q1o (q9s (q1z z0x (q0j q0b (q0j (ei_c z6d) q0r))) (j2a (q1z z0x (q0j q0b (q0j (ei_c z6d) q0r))))))) h⟩)
@[irreducible] noncomputable def b_is_list_of:Ms :=
 (mSeq (mIfS (mOr (mNot (mTru (mCB fIsi (q0y (q0d 0) (q0y (mC (.ty "list")) aNil))))) (mNot (mBl (z2x (fI0 fun i j=>.bl (decide (i≤j))) (fI0 fun i j=>.bl (decide (i≤j))) (mC (.int 1)) (mCB fLen (q0y (q0d 0) aNil)) (mC (.int 64)))))) (mRet (mC (.bl false))) q3h)
 (mRet (mCB (fBls fun bs=>.bl (bs.all id)) (q0y (mLc [3] (mWL (q0d 0)) (tgN 3) mYes (z3i (q2q q4l (q0f (q0d 3) vNil)) (z2x (fI0 fun i j=>.bl (decide (i≤j))) (fI0 fun i j=>.bl (decide (i≤j))) (q0d 1) (q0d 3) (q0d 2)))) aNil))))
noncomputable def q3a:Mf:=mFn 3 4 b_is_list_of
theorem q6b {P:Program} {w:World} {K:PySem.W.Frag} {mg:Str→Option Value} {base:Heap} (T:Tx K mg):FnOk P w K mg base CX0 2 T.a_is_list_of T.d_is_list_of ["thing","low","high"] (spM K (ctT T) q3a) :=
 T.F_is_list_of.ok q4s (fun vs H Q E h=>q2k h) (fun cdv A outer s H vs Q E hr h=>⟨_,(pss_cons (ps_if (PW.pt (pw_or (pt_not (q2g (K:=K) rfl (pe_callB (q5d (K:=K) rfl) (by rfl) T.z_isinstance (by decide +kernel) (pa_cons (pv 0) (pa_cons (pe_bltn (v:=.ty "list") rfl T.z_list (by decide +kernel) rfl) pa_nil))) (by intro _;rfl))) (pw_or1 (pt_not (pt_chain op_le op_le pe_int (pe_callB (q0t (K:=K) rfl) (by rfl) T.z_len PySem.boot_len (pa_cons (pv 0) pa_nil)) (pe_glob rfl T.m_MOST_SYMBOLS T.r_MOST_SYMBOLS)))))) (pss_one (ps_ret pe_bl)) pss_nil)
   (pss_one (ps_ret (pe_callB (z6c (K:=K) rfl rfl) (by rfl) T.z_all (by decide +kernel) (pa_cons (pe_lc (own:=[("number",3)]) rfl q4s.nd (q7m (K:=K) rfl (pv 0)) (blkOk_by (N:=["thing","low","high","number"]) (sc:=defScope q1q) (by decide +kernel)) (fun _ _ _ _ _=>(pg_name (i:=3) q4s.nd rfl (by first|exact Or.inl rfl|exact Or.inr rfl))) (fun _ _ _ _ _=>pts_nil) (fun _ _ _ _ _=>(pe_and (q1f (q8g T) (hr.mono (by decide)) (by rfl) T.g_is_whole T.F_is_whole.kp T.b_is_whole pass0 (pa_cons (pv 3) pa_nil)) (pe_one (pe_chain op_le op_le (pv 1) (pv 3) (pv 2)))))) pa_nil))))),
  q2h (np:=3) (N:=["thing","low","high","number"]) (body:=b_is_list_of) (by unfold b_is_list_of;exact(q0m (q3m (z3y (q4t (q5h (q1z z0x (q0j q0b (q0j (ei_c z6d) q0r))))) (q4t (q1x (z2r (j_I0 fun _ _=>q3i) (j_I0 fun _ _=>q3i) (ei_c q0c) (q1z q2r (q0j q0b q0r)) (ei_c q0c))))) (q1o (ei_c q3i)) q1i)
   (q1o (q1z z9u (q0j (q8m (ws:=[3]) (z0c q0b) q0x (by decide) q5p (q9s (q1k (q0a q0b q0h)) (z2r (j_I0 fun _ _=>q3i) (j_I0 fun _ _=>q3i) q0b q0b q0b))) q0r))))) h⟩)
@[irreducible] noncomputable def b_check_counts:Ms :=
 (mIfS (mOr (mNot (mTru (q2q q3a (q0f (q0d 0) (q0f (mC (.int 0)) (q0f (mC (.int 1000)) vNil)))))) (mBl (mOp (fI0 fun i j=>.bl (decide (j<i))) (mCB (q6u gSum) (q0y (q0d 0) aNil)) (mC (.int 1000))))) (q8u 1) q3h)
noncomputable def q0o:Mf:=mFn 1 1 b_check_counts
theorem q3v {P:Program} {w:World} {K:PySem.W.Frag} {mg:Str→Option Value} {base:Heap} (T:Tx K mg):FnOk P w K mg base (L2.CX P w) 3 T.a_check_counts T.d_check_counts ["counts"] (spM K (ctT T) q0o) :=
 T.F_check_counts.okX q7v (fun vs H Q E h=>q2k h) (fun cdv A outer s H vs Q E hr h=>⟨_,(pss_one (ps_if (PW.pt (pw_or (pt_not (q2g (K:=K) rfl (q1f (q6b T) (hr.mono (by decide)) (by rfl) T.g_is_list_of T.F_is_list_of.kp T.b_is_list_of pass0 (pa_cons (pv 0) (pa_cons pe_int (pa_cons (pe_glob rfl T.m_MOST_COUNT T.r_MOST_COUNT) pa_nil)))) (by intro _;rfl))) (pw_or1 (pt_cmpR op_gt (pe_callB (q6p (K:=K) rfl rfl) (by rfl) T.z_sum (by decide +kernel) (pa_cons (pv 0) pa_nil)) (pe_glob rfl T.m_MOST_COUNT T.r_MOST_COUNT) (nomark _))))) (pss_one (q6c rfl (takes_of rfl rfl rfl rfl) PySem.F.excBase_ValueError T.x_BadTable T.g_BadTable T.k_BadTable (raises_own T.b_BadTable T.t_BadTable) (by rfl))) pss_nil)),
  q2h (np:=1) (N:=["counts"]) (body:=b_check_counts) (by unfold b_check_counts;exact(q3m (z3y (q4t (q5h (q1k (q0a q0b (q0a (ei_c q0c) (q0a (ei_c q0c) q0h)))))) (q1x (q0i (j_I0 fun _ _=>q3i) (q1z q8y (q0j q0b q0r)) (ei_c q0c)))) (q7n (c:=1)) q1i)) h⟩)
@[irreducible] noncomputable def b_room_of:Ms :=
 (mRet (mCB (q6u gSum) (q0y (mLc [1] (mWL (q0d 0)) (tgN 1) (mBl (mOp (fI0 fun i j=>.bl (decide (j<i))) (q0d 1) (mC (.int 0)))) (mOp (fI CShl fun i j=>.int (i*2^j.toNat)) (mC (.int 1)) (mOp (fI0 fun i j=>.int (i-j)) (mC (.int 15)) (q0d 1)))) aNil)))
noncomputable def q8b:Mf:=mFn 1 2 b_room_of
theorem z3n {P:Program} {w:World} {K:PySem.W.Frag} {mg:Str→Option Value} {base:Heap} (T:Tx K mg):FnOk P w K mg base CX0 1 T.a_room_of T.d_room_of ["lengths"] (spM K (ctT T) q8b) :=
 T.F_room_of.ok q6v (fun vs H Q E h=>q2k h) (fun cdv A outer s H vs Q E hr h=>⟨_,(pss_one (ps_ret (pe_callB (q6p (K:=K) rfl rfl) (by rfl) T.z_sum (by decide +kernel) (pa_cons (pe_lc (own:=[("length",1)]) rfl q6v.nd (q7m (K:=K) rfl (pv 0)) (blkOk_by (N:=["lengths","length"]) (sc:=defScope q2u) (by decide +kernel)) (fun _ _ _ _ _=>(pg_name (i:=1) q6v.nd rfl (by first|exact Or.inl rfl|exact Or.inr rfl))) (fun _ _ _ _ _=>(pts_one (pt_cmpR op_gt (pv 1) pe_int (nomark _)))) (fun _ _ _ _ _=>(pe_op op_shlW pe_int (pe_op op_sub (pe_glob rfl T.m_LONGEST T.r_LONGEST) (pv 1))))) pa_nil)))),
  q2h (np:=1) (N:=["lengths","length"]) (body:=b_room_of) (by unfold b_room_of;exact(q1o (q1z q8y (q0j (q8m (ws:=[1]) (z0c q0b) q0x (by decide) (q1x (q0i (j_I0 fun _ _=>q3i) q0b (ei_c q0c))) (q0i (j_I fun _ _=>q0c) (ei_c q0c) (q0i (j_I0 fun _ _=>q0c) (ei_c q0c) q0b))) q0r)))) h⟩)
@[irreducible] noncomputable def b_fits:Ms :=
 (mRet (mOp (fI0 fun i j=>.bl (decide (i≤j))) (q2q q8b (q0f (q0d 0) vNil)) (mOp (fI CShl fun i j=>.int (i*2^j.toNat)) (mC (.int 1)) (mC (.int 15)))))
noncomputable def z6b:Mf:=mFn 1 1 b_fits
theorem j1s {P:Program} {w:World} {K:PySem.W.Frag} {mg:Str→Option Value} {base:Heap} (T:Tx K mg):FnOk P w K mg base CX0 2 T.a_fits T.d_fits ["lengths"] (spM K (ctT T) z6b) :=
 T.F_fits.ok j4d (fun vs H Q E h=>q2k h) (fun cdv A outer s H vs Q E hr h=>⟨_,(pss_one (ps_ret (pe_cmpR op_le (q1f (z3n T) (hr.mono (by decide)) (by rfl) T.g_room_of T.F_room_of.kp T.b_room_of pass0 (pa_cons (pv 0) pa_nil)) (pe_op op_shlW pe_int (pe_glob rfl T.m_LONGEST T.r_LONGEST)) (nomark _)))),
  q2h (np:=1) (N:=["lengths"]) (body:=b_fits) (by unfold b_fits;exact(q1o (q0i (j_I0 fun _ _=>q3i) (q1k (q0a q0b q0h)) (q0i (j_I fun _ _=>q0c) (ei_c q0c) (ei_c q0c))))) h⟩)
@[irreducible] noncomputable def b_check_lengths:Ms :=
 (mIfS (mOr (mNot (mTru (q2q q3a (q0f (q0d 0) (q0f (mC (.int 0)) (q0f (mC (.int 15)) vNil)))))) (mNot (mTru (q2q z6b (q0f (q0d 0) vNil))))) (q8u 1) q3h)
noncomputable def q0s:Mf:=mFn 1 1 b_check_lengths
theorem q4u {P:Program} {w:World} {K:PySem.W.Frag} {mg:Str→Option Value} {base:Heap} (T:Tx K mg):FnOk P w K mg base (L2.CX P w) 3 T.a_check_lengths T.d_check_lengths ["lengths"] (spM K (ctT T) q0s) :=
 T.F_check_lengths.okX q7j (fun vs H Q E h=>q2k h) (fun cdv A outer s H vs Q E hr h=>⟨_,(pss_one (ps_if (PW.pt (pw_or (pt_not (q2g (K:=K) rfl (q1f (q6b T) (hr.mono (by decide)) (by rfl) T.g_is_list_of T.F_is_list_of.kp T.b_is_list_of pass0 (pa_cons (pv 0) (pa_cons pe_int (pa_cons (pe_glob rfl T.m_LONGEST T.r_LONGEST) pa_nil)))) (by intro _;rfl))) (pw_or1 (pt_not (q2g (K:=K) rfl (q1f (j1s T) (hr.mono (by decide)) (by rfl) T.g_fits T.F_fits.kp T.b_fits pass0 (pa_cons (pv 0) pa_nil)) (by intro _;rfl)))))) (pss_one (q6c rfl (takes_of rfl rfl rfl rfl) PySem.F.excBase_ValueError T.x_BadTable T.g_BadTable T.k_BadTable (raises_own T.b_BadTable T.t_BadTable) (by rfl))) pss_nil)),
  q2h (np:=1) (N:=["lengths"]) (body:=b_check_lengths) (by unfold b_check_lengths;exact(q3m (z3y (q4t (q5h (q1k (q0a q0b (q0a (ei_c q0c) (q0a (ei_c q0c) q0h)))))) (q4t (q5h (q1k (q0a q0b q0h))))) (q7n (c:=1)) q1i)) h⟩)
@[irreducible] noncomputable def b_bits_of:Ms :=
 (mSeq (q5n (q4b q0o (q0f (q0d 0) vNil)))
 (mSeq (q5n (q4b q0s (q0f (q0d 1) vNil)))
 (mSeq (mIfS (mBl (mOp fNe (mCB fLen (q0y (q0d 0) aNil)) (mCB fLen (q0y (q0d 1) aNil)))) (q8u 1) q3h)
 (mSeq (mIfS (mBl (mOp fNe (mLc [2] (z0s (q0y (mCB fLen (q0y (q0d 0) aNil)) aNil)) (tgN 2) (mAnd (mBl (mOp (fI0 fun i j=>.bl (decide (j<i))) (mOp fIxY (q0d 0) (q0d 2)) (mC (.int 0)))) (mBl (mOp fEq (mOp fIxY (q0d 1) (q0d 2)) (mC (.int 0))))) (q0d 2)) (mLst vNil))) (q8u 1) q3h)
 (mRet (mCB (q6u gSum) (q0y (mLc [3,4] (mWZ (q0f (q0d 0) (q0f (q0d 1) vNil))) (tgT 2 (q3g (tgN 3) (q3g (tgN 4) q8o))) mYes (mOp fMul (q0d 3) (q0d 4))) aNil)))))))
noncomputable def q2i:Mf:=mFn 2 5 b_bits_of
theorem q4m {P:Program} {w:World} {K:PySem.W.Frag} {mg:Str→Option Value} {base:Heap} (T:Tx K mg):FnOk P w K mg base (L2.CX P w) 4 T.a_bits_of T.d_bits_of ["counts","lengths"] (spM K (ctT T) q2i) :=
 T.F_bits_of.okX q3t (fun vs H Q E h=>q2k h) (fun cdv A outer s H vs Q E hr h=>⟨_,(pss_cons (ps_expr (pe_callS (q3v T) (hr.mono (by decide)) (by rfl) T.g_check_counts T.F_check_counts.kp T.b_check_counts (fun σ=>passAt (takes_of rfl rfl rfl rfl) σ) (pa_cons (pv 0) pa_nil)))
   (pss_cons (ps_expr (pe_callS (q4u T) (hr.mono (by decide)) (by rfl) T.g_check_lengths T.F_check_lengths.kp T.b_check_lengths (fun σ=>passAt (takes_of rfl rfl rfl rfl) σ) (pa_cons (pv 1) pa_nil)))
   (pss_cons (ps_if (pt_cmpR (z0o (K:=K) rfl hr.units) (pe_callB (q0t (K:=K) rfl) (by rfl) T.z_len PySem.boot_len (pa_cons (pv 0) pa_nil)) (pe_callB (q0t (K:=K) rfl) (by rfl) T.z_len PySem.boot_len (pa_cons (pv 1) pa_nil)) (nomark _)) (pss_one (q6c rfl (takes_of rfl rfl rfl rfl) PySem.F.excBase_ValueError T.x_BadTable T.g_BadTable T.k_BadTable (raises_own T.b_BadTable T.t_BadTable) (by rfl))) pss_nil)
   (pss_cons (ps_if (pt_cmpR (z0o (K:=K) rfl hr.units) (pe_lc (own:=[("symbol",2)]) rfl q3t.nd (pi_range1 rfl T.z_range (pa_cons (pe_callB (q0t (K:=K) rfl) (by rfl) T.z_len PySem.boot_len (pa_cons (pv 0) pa_nil)) pa_nil)) (blkOk_by (N:=["counts","lengths","symbol","count","length"]) (sc:=defScope q2n) (by decide +kernel)) (fun _ _ _ _ _=>(pg_name (i:=2) q3t.nd rfl (by first|exact Or.inl rfl|exact Or.inr rfl))) (fun _ _ _ _ _=>(pts_one (PW.pt (pw_and (pt_cmpR op_gt (pe_ix (ix_Y (K:=K) rfl (hu_of hr)) (pv 0) (pv 2) (fun _ _=>rfl)) pe_int (nomark _)) (pw_and1 (pt_cmpR (q5i (K:=K) rfl hr.units) (pe_ix (ix_Y (K:=K) rfl (hu_of hr)) (pv 1) (pv 2) (fun _ _=>rfl)) pe_int (nomark _))))))) (fun _ _ _ _ _=>(pv 2))) (pe_lst pa_nil) (nomark _)) (pss_one (q6c rfl (takes_of rfl rfl rfl rfl) PySem.F.excBase_ValueError T.x_BadTable T.g_BadTable T.k_BadTable (raises_own T.b_BadTable T.t_BadTable) (by rfl))) pss_nil)
   (pss_one (ps_ret (pe_callB (q6p (K:=K) rfl rfl) (by rfl) T.z_sum (by decide +kernel) (pa_cons (pe_lc (own:=[("count",3),("length",4)]) rfl q3t.nd (j3i (K:=K) rfl rfl T.z_zip (pa_cons (pv 0) (pa_cons (pv 1) pa_nil))) (blkOk_by (N:=["counts","lengths","symbol","count","length"]) (sc:=defScope q2n) (by decide +kernel)) (fun _ _ _ _ _=>(q4y (K:=K) (n:=2) rfl rfl (pgs_cons (pg_name (i:=3) q3t.nd rfl (by first|exact Or.inl rfl|exact Or.inr rfl)) (pgs_cons (pg_name (i:=4) q3t.nd rfl (by first|exact Or.inl rfl|exact Or.inr rfl)) pgs_nil)))) (fun _ _ _ _ _=>pts_nil) (fun _ _ _ _ _=>(pe_op q2j (pv 3) (pv 4)))) pa_nil)))))))),
  q2h (np:=2) (N:=["counts","lengths","symbol","count","length"]) (body:=b_bits_of) (by unfold b_bits_of;exact(q0m (q3c (q1j (q0a q0b q0h)))
   (q0m (q3c (q1j (q0a q0b q0h)))
   (q0m (q3m (q1x (q0i j_ne (q1z q2r (q0j q0b q0r)) (q1z q2r (q0j q0b q0r)))) (q7n (c:=1)) q1i)
   (q0m (q3m (q1x (q0i j_ne (q8m (ws:=[2]) (q6s (q0j (q1z q2r (q0j q0b q0r)) q0r)) q0x (by decide) (z0e (q1x (q0i (j_I0 fun _ _=>q3i) (q0i q5c q0b q0b) (ei_c q0c))) (q1x (q0i j_eq (q0i q5c q0b q0b) (ei_c q0c)))) q0b) (q1b q0h))) (q7n (c:=1)) q1i)
   (q1o (q1z q8y (q0j (q8m (ws:=[3,4]) (j8b (q0a q0b (q0a q0b q0h))) (q7a (q1u q0x (q1u q0x q4o))) (by decide) q5p (q0i q5a q0b q0b)) q0r)))))))) h⟩)
@[irreducible] noncomputable def b_first_parts:Ms :=
 (mSeq (mAsg 1 z3t)
 (mSeq (mFor (mWE (q0f (q0d 0) vNil)) (tgT 2 (q3g (tgN 2) (q3g (tgN 3) q8o))) (mIfS (mBl (mOp (fI0 fun i j=>.bl (decide (j<i))) (q0d 3) (mC (.int 0)))) (z0y (q0d 1) (q0d 2) (q0d 3)) q3h))
 (mRet (q0d 1))))
noncomputable def q3e:Mf:=mFn 1 4 b_first_parts
theorem q4j {P:Program} {w:World} {K:PySem.W.Frag} {mg:Str→Option Value} {base:Heap} (T:Tx K mg):FnOk P w K mg base CX0 1 T.a_first_parts T.d_first_parts ["counts"] (spM K (ctT T) q3e) :=
 T.F_first_parts.ok q3l (fun vs H Q E h=>q2k h) (fun cdv A outer s H vs Q E hr h=>⟨_,(pss_cons (ps_set (i:=1) q3l.nd rfl (by first|exact Or.inl rfl|exact Or.inr rfl) pe_dnewK)
   (pss_cons (ps_for PassesOwn.never rfl (q7l (K:=K) rfl rfl T.z_enumerate (pa_cons (pv 0) pa_nil)) (q4y (K:=K) (n:=2) rfl rfl (pgs_cons (pg_name (i:=2) q3l.nd rfl (by first|exact Or.inl rfl|exact Or.inr rfl)) (pgs_cons (pg_name (i:=3) q3l.nd rfl (by first|exact Or.inl rfl|exact Or.inr rfl)) pgs_nil))) (pss_one (ps_if (pt_cmpR op_gt (pv 3) pe_int (nomark _)) (pss_one (ps_asg (pv 3) (pg_sub (pv 1) (pv 2) (z3h (hu_of hr))))) pss_nil)))
   (pss_one (ps_ret (pv 1))))),
  q2h (np:=1) (N:=["counts","found","symbol","count"]) (body:=b_first_parts) (by unfold b_first_parts;exact(q0m (q1y q9t)
   (q0m (q6l (q9f (q0a q0b q0h)) (q7a (q1u q0x (q1u q0x q4o))) (q3m (q1x (q0i (j_I0 fun _ _=>q3i) q0b (ei_c q0c))) (q6q q0b q0b q0b) q1i))
   (q1o q0b)))) h⟩)
@[irreducible] noncomputable def b_is_pair:Ms :=
 (mSeq (mIfS (mOr (mNot (mTru (mCB fIsi (q0y (q0d 0) (q0y (mC (.ty "tuple")) aNil))))) (mOr (mBl (mOp fNe (mCB fLen (q0y (q0d 0) aNil)) (mC (.int 2)))) (mBl (mOp fEq (mOp fIxY (q0d 0) (mC (.int 0))) (mOp fIxY (q0d 0) (mC (.int 1))))))) (mRet (mC (.bl false))) q3h)
 (mRet (mCB (fBls fun bs=>.bl (bs.all id)) (q0y (mLc [2] (mWT (q0d 0)) (tgN 2) mYes (z3i (q2q q4l (q0f (q0d 2) vNil)) (mOp fIn (q0d 2) (q0d 1)))) aNil))))
noncomputable def z0z:Mf:=mFn 2 3 b_is_pair
theorem z3l {P:Program} {w:World} {K:PySem.W.Frag} {mg:Str→Option Value} {base:Heap} (T:Tx K mg):FnOk P w K mg base CX0 2 T.a_is_pair T.d_is_pair ["pair","parts"] (spM K (ctT T) z0z) :=
 T.F_is_pair.ok q6n (fun vs H Q E h=>q2k h) (fun cdv A outer s H vs Q E hr h=>⟨_,(pss_cons (ps_if (PW.pt (pw_or (pt_not (q2g (K:=K) rfl (pe_callB (q5d (K:=K) rfl) (by rfl) T.z_isinstance (by decide +kernel) (pa_cons (pv 0) (pa_cons (pe_bltn (v:=.ty "tuple") rfl T.z_tuple (by decide +kernel) rfl) pa_nil))) (by intro _;rfl))) (pw_or (pt_cmpR (z0o (K:=K) rfl hr.units) (pe_callB (q0t (K:=K) rfl) (by rfl) T.z_len PySem.boot_len (pa_cons (pv 0) pa_nil)) pe_int (nomark _)) (pw_or1 (pt_cmpR (q5i (K:=K) rfl hr.units) (pe_ix (ix_Y (K:=K) rfl (hu_of hr)) (pv 0) pe_int (fun _ _=>rfl)) (pe_ix (ix_Y (K:=K) rfl (hu_of hr)) (pv 0) pe_int (fun _ _=>rfl)) (nomark _)))))) (pss_one (ps_ret pe_bl)) pss_nil)
   (pss_one (ps_ret (pe_callB (z6c (K:=K) rfl rfl) (by rfl) T.z_all (by decide +kernel) (pa_cons (pe_lc (own:=[("number",2)]) rfl q6n.nd (z4r (K:=K) rfl (pv 0)) (blkOk_by (N:=["pair","parts","number"]) (sc:=defScope q2t) (by decide +kernel)) (fun _ _ _ _ _=>(pg_name (i:=2) q6n.nd rfl (by first|exact Or.inl rfl|exact Or.inr rfl))) (fun _ _ _ _ _=>pts_nil) (fun _ _ _ _ _=>(pe_and (q1f (q8g T) (hr.mono (by decide)) (by rfl) T.g_is_whole T.F_is_whole.kp T.b_is_whole pass0 (pa_cons (pv 2) pa_nil)) (pe_one (pe_cmpR (j7r (K:=K) rfl (u65 hr)) (pv 2) (pv 1) (by rfl)))))) pa_nil))))),
  q2h (np:=2) (N:=["pair","parts","number"]) (body:=b_is_pair) (by unfold b_is_pair;exact(q0m (q3m (z3y (q4t (q5h (q1z z0x (q0j q0b (q0j (ei_c z6d) q0r))))) (z3y (q1x (q0i j_ne (q1z q2r (q0j q0b q0r)) (ei_c q0c))) (q1x (q0i j_eq (q0i q5c q0b (ei_c q0c)) (q0i q5c q0b (ei_c q0c)))))) (q1o (ei_c q3i)) q1i)
   (q1o (q1z z9u (q0j (q8m (ws:=[2]) (j0h q0b) q0x (by decide) q5p (q9s (q1k (q0a q0b q0h)) (q0i j_in q0b q0b))) q0r))))) h⟩)
@[irreducible] noncomputable def b_put_together:Ms :=
 (mSeq (mIfS (mNot (mTru (q2q z0z (q0f (q0d 0) (q0f (q0d 1) vNil))))) (q6x 2 "at" (q0f (mC (.str (Str.ofString "no pair of parts"))) (q0f (q0d 3) vNil))) q3h)
 (mSeq (mAsg 4 (mLst (q0f (mPop (q0d 1) (mOp fIxY (q0d 0) (mC (.int 0)))) (q0f (mPop (q0d 1) (mOp fIxY (q0d 0) (mC (.int 1)))) vNil))))
 (mSeq (mIfS (mAnd (mBl (mOp j2i (q0d 1) z3t)) (mBl (mOp (fI0 fun i j=>.bl (decide (i<j))) (q9i (q0d 1)) (mCB (q6u gMax) (q0y (q0d 4) aNil))))) (q6x 2 "at" (q0f (mC (.str (Str.ofString "not the least ones"))) (q0f (q0d 3) vNil))) q3h)
 (mSeq (z0y (q0d 1) (q0d 2) (mCB (q6u gSum) (q0y (q0d 4) aNil)))
 (mRet (mCB (q6u gSum) (q0y (q0d 4) aNil)))))))
noncomputable def q5r:Mf:=mFn 4 5 b_put_together
theorem q7s {P:Program} {w:World} {K:PySem.W.Frag} {mg:Str→Option Value} {base:Heap} (T:Tx K mg):FnOk P w K mg base (L2.CX P w) 3 T.a_put_together T.d_put_together ["pair","parts","number","at"] (spM K (ctT T) q5r) :=
 T.F_put_together.okX q5g (fun vs H Q E h=>q2k h) (fun cdv A outer s H vs Q E hr h=>⟨_,(pss_cons (ps_if (pt_not (q2g (K:=K) rfl (q1f (z3l T) (hr.mono (by decide)) (by rfl) T.g_is_pair T.F_is_pair.kp T.b_is_pair pass0 (pa_cons (pv 0) (pa_cons (pv 1) pa_nil))) (by intro _;rfl))) (pss_one (ps_raise rfl (takes_of rfl rfl rfl rfl) (pmk_oex T.ox_BadPaper T.iC_BadPaper T.tI_BadPaper (q2v T) (hr.mono (by decide)) T.b_BadPaper_init .nil pass0 (by rfl) T.g_BadPaper (pa_cons pe_str (pa_cons (pv 3) pa_nil))))) pss_nil)
   (pss_cons (ps_set (i:=4) q5g.nd rfl (by first|exact Or.inl rfl|exact Or.inr rfl) (pe_lst (pa_cons (pe_dpop1 (pv 1) (pe_ix (ix_Y (K:=K) rfl (hu_of hr)) (pv 0) pe_int (fun _ _=>rfl)) ⟨rfl,rfl,rfl,rfl⟩) (pa_cons (pe_dpop1 (pv 1) (pe_ix (ix_Y (K:=K) rfl (hu_of hr)) (pv 0) pe_int (fun _ _=>rfl)) ⟨rfl,rfl,rfl,rfl⟩) pa_nil))))
   (pss_cons (ps_if (PW.pt (pw_and (pt_cmpR (j2g (Nat.lt_of_le_of_lt (Nat.le_add_right _ _) hr.units)) (pv 1) pe_dnewK (nomark _)) (pw_and1 (pt_cmpR op_lt (pe_minVals rfl (by rfl) T.z_min (pv 1)) (pe_callB (j1g (K:=K) rfl rfl) (by rfl) T.z_max (by decide +kernel) (pa_cons (pv 4) pa_nil)) (nomark _))))) (pss_one (ps_raise rfl (takes_of rfl rfl rfl rfl) (pmk_oex T.ox_BadPaper T.iC_BadPaper T.tI_BadPaper (q2v T) (hr.mono (by decide)) T.b_BadPaper_init .nil pass0 (by rfl) T.g_BadPaper (pa_cons pe_str (pa_cons (pv 3) pa_nil))))) pss_nil)
   (pss_cons (ps_asg (pe_callB (q6p (K:=K) rfl rfl) (by rfl) T.z_sum (by decide +kernel) (pa_cons (pv 4) pa_nil)) (pg_sub (pv 1) (pv 2) (z3h (hu_of hr))))
   (pss_one (ps_ret (pe_callB (q6p (K:=K) rfl rfl) (by rfl) T.z_sum (by decide +kernel) (pa_cons (pv 4) pa_nil)))))))),
  q2h (np:=4) (N:=["pair","parts","number","at","weights"]) (body:=b_put_together) (by unfold b_put_together;exact(q0m (q3m (q4t (q5h (q1k (q0a q0b (q0a q0b q0h))))) (q6f (c:=2) T.ox_BadPaper T.n_at_BadPaper (q0a (ei_c q8i) (q0a q0b q0h))) q1i)
   (q0m (q1y (q1b (q0a (z3b q0b (q0i q5c q0b (ei_c q0c))) (q0a (z3b q0b (q0i q5c q0b (ei_c q0c))) q0h))))
   (q0m (q3m (z0e (q1x (q0i j6a q0b q9t)) (q1x (q0i (j_I0 fun _ _=>q3i) (z3s q0b) (q1z j7i (q0j q0b q0r))))) (q6f (c:=2) T.ox_BadPaper T.n_at_BadPaper (q0a (ei_c q8i) (q0a q0b q0h))) q1i)
   (q0m (q6q (q1z q8y (q0j q0b q0r)) q0b q0b)
   (q1o (q1z q8y (q0j q0b q0r)))))))) h⟩)
@[irreducible] noncomputable def b_check_paper:Ms :=
 (mSeq (q5n (q4b q0o (q0f (q0d 0) vNil)))
 (mSeq (mIfS (mNot (mTru (mCB fIsi (q0y (q0d 1) (q0y (mC (.ty "list")) aNil))))) (q6x 2 "at" (q0f (mC (.str (Str.ofString "no list"))) (q0f (mC .non) vNil))) q3h)
 (mSeq (z9f 2 (q2q q3e (q0f (q0d 0) vNil)))
 (mSeq (mIfS (mAnd (mBl (mOp fEq (mCB fLen (q0y (q0d 2) aNil)) (mC (.int 1)))) (mBl (mOp fEq (q0d 1) (mLst vNil)))) (mRet (mCB (q6u gSum) (q0y (q0d 0) aNil))) q3h)
 (mSeq (mAsg 3 (mC (.int 0)))
 (mSeq (mFor (mWE (q0f (q0d 1) vNil)) (tgT 2 (q3g (tgN 4) (q3g (tgN 5) q8o))) (mAug 3 (fun i j=>i+j) (q4b q5r (q0f (q0d 5) (q0f (q0d 2) (q0f (mOp fAdd (mCB fLen (q0y (q0d 0) aNil)) (q0d 4)) (q0f (q0d 4) vNil)))))))
 (mSeq (mIfS (mBl (mOp (fI0 fun i j=>.bl (decide (j<i))) (mCB fLen (q0y (q0d 2) aNil)) (mC (.int 1)))) (q6x 2 "at" (q0f (mC (.str (Str.ofString "parts are left"))) (q0f (mCB fLen (q0y (q0d 1) aNil)) vNil))) q3h)
 (mRet (q0d 3)))))))))
noncomputable def q3s:Mf:=mFn 2 6 b_check_paper
theorem q5q {P:Program} {w:World} {K:PySem.W.Frag} {mg:Str→Option Value} {base:Heap} (T:Tx K mg):FnOk P w K mg base (L2.CX P w) 4 T.a_check_paper T.d_check_paper ["counts","paper"] (spM K (ctT T) q3s) :=
 T.F_check_paper.okX q2e (fun vs H Q E h=>q2k h) (fun cdv A outer s H vs Q E hr h=>⟨_,(pss_cons (ps_expr (pe_callS (q3v T) (hr.mono (by decide)) (by rfl) T.g_check_counts T.F_check_counts.kp T.b_check_counts (fun σ=>passAt (takes_of rfl rfl rfl rfl) σ) (pa_cons (pv 0) pa_nil)))
   (pss_cons (ps_if (pt_not (q2g (K:=K) rfl (pe_callB (q5d (K:=K) rfl) (by rfl) T.z_isinstance (by decide +kernel) (pa_cons (pv 1) (pa_cons (pe_bltn (v:=.ty "list") rfl T.z_list (by decide +kernel) rfl) pa_nil))) (by intro _;rfl))) (pss_one (ps_raise rfl (takes_of rfl rfl rfl rfl) (pmk_oex T.ox_BadPaper T.iC_BadPaper T.tI_BadPaper (q2v T) (hr.mono (by decide)) T.b_BadPaper_init .nil pass0 (by rfl) T.g_BadPaper (pa_cons pe_str (pa_cons pe_non pa_nil))))) pss_nil)
   (pss_cons (ps_set (i:=2) q2e.nd rfl (by first|exact Or.inl rfl|exact Or.inr rfl) (q1f (q4j T) (hr.mono (by decide)) (by rfl) T.g_first_parts T.F_first_parts.kp T.b_first_parts pass0 (pa_cons (pv 0) pa_nil)))
   (pss_cons (ps_if (PW.pt (pw_and (pt_cmpR (q5i (K:=K) rfl hr.units) (pe_callB (q0t (K:=K) rfl) (by rfl) T.z_len PySem.boot_len (pa_cons (pv 2) pa_nil)) pe_int (nomark _)) (pw_and1 (pt_cmpR (q5i (K:=K) rfl hr.units) (pv 1) (pe_lst pa_nil) (nomark _))))) (pss_one (ps_ret (pe_callB (q6p (K:=K) rfl rfl) (by rfl) T.z_sum (by decide +kernel) (pa_cons (pv 0) pa_nil)))) pss_nil)
   (pss_cons (ps_set (i:=3) q2e.nd rfl (by first|exact Or.inl rfl|exact Or.inr rfl) pe_int)
   (pss_cons (ps_for (passes_of rfl) rfl (q7l (K:=K) rfl rfl T.z_enumerate (pa_cons (pv 1) pa_nil)) (q4y (K:=K) (n:=2) rfl rfl (pgs_cons (pg_name (i:=4) q2e.nd rfl (by first|exact Or.inl rfl|exact Or.inr rfl)) (pgs_cons (pg_name (i:=5) q2e.nd rfl (by first|exact Or.inl rfl|exact Or.inr rfl)) pgs_nil))) (pss_one (ps_aug (i:=3) q2e.nd rfl (by first|exact Or.inl rfl|exact Or.inr rfl) (pe_callS (q7s T) (hr.mono (by decide)) (by rfl) T.g_put_together T.F_put_together.kp T.b_put_together (fun σ=>passAt (takes_of rfl rfl rfl rfl) σ) (pa_cons (pv 5) (pa_cons (pv 2) (pa_cons (pe_op (q0w (K:=K) rfl) (pe_callB (q0t (K:=K) rfl) (by rfl) T.z_len PySem.boot_len (pa_cons (pv 0) pa_nil)) (pv 4)) (pa_cons (pv 4) pa_nil))))) ip_add)))
   (pss_cons (ps_if (pt_cmpR op_gt (pe_callB (q0t (K:=K) rfl) (by rfl) T.z_len PySem.boot_len (pa_cons (pv 2) pa_nil)) pe_int (nomark _)) (pss_one (ps_raise rfl (takes_of rfl rfl rfl rfl) (pmk_oex T.ox_BadPaper T.iC_BadPaper T.tI_BadPaper (q2v T) (hr.mono (by decide)) T.b_BadPaper_init .nil pass0 (by rfl) T.g_BadPaper (pa_cons pe_str (pa_cons (pe_callB (q0t (K:=K) rfl) (by rfl) T.z_len PySem.boot_len (pa_cons (pv 1) pa_nil)) pa_nil))))) pss_nil)
   (pss_one (ps_ret (pv 3)))))))))),
  q2h (np:=2) (N:=["counts","paper","parts","bits","at","pair"]) (body:=b_check_paper) (by unfold b_check_paper;exact(q0m (q3c (q1j (q0a q0b q0h)))
   (q0m (q3m (q4t (q5h (q1z z0x (q0j q0b (q0j (ei_c z6d) q0r))))) (q6f (c:=2) T.ox_BadPaper T.n_at_BadPaper (q0a (ei_c q8i) (q0a (ei_c q8t) q0h))) q1i)
   (q0m (z6a (q1k (q0a q0b q0h)))
   (q0m (q3m (z0e (q1x (q0i j_eq (q1z q2r (q0j q0b q0r)) (ei_c q0c))) (q1x (q0i j_eq q0b (q1b q0h)))) (q1o (q1z q8y (q0j q0b q0r))) q1i)
   (q0m (q1y (ei_c q0c))
   (q0m (q6l (q9f (q0a q0b q0h)) (q7a (q1u q0x (q1u q0x q4o))) (z9k (q1j (q0a q0b (q0a q0b (q0a (q0i q2x (q1z q2r (q0j q0b q0r)) q0b) (q0a q0b q0h)))))))
   (q0m (q3m (q1x (q0i (j_I0 fun _ _=>q3i) (q1z q2r (q0j q0b q0r)) (ei_c q0c))) (q6f (c:=2) T.ox_BadPaper T.n_at_BadPaper (q0a (ei_c q8i) (q0a (q1z q2r (q0j q0b q0r)) q0h))) q1i)
   (q1o q0b))))))))) h⟩)
@[irreducible] noncomputable def b_lengths_by:Ms :=
 (mSeq (q5n (q4b q3s (q0f (q0d 0) (q0f (q0d 1) vNil))))
 (mSeq (mAsg 2 z3t)
 (mSeq (mFor (j1v (q0y (mOp (fI0 fun i j=>.int (i-j)) (mCB fLen (q0y (q0d 1) aNil)) (mC (.int 1))) (q0y (mUn fNeg (mC (.int 1))) (q0y (mUn fNeg (mC (.int 1))) aNil)))) (tgN 3) (mSeq (mAsg 4 (z7p (q0d 2) (mOp fAdd (mCB fLen (q0y (q0d 0) aNil)) (q0d 3)) (mC (.int 0))))
 (mFor (mWT (mOp fIxY (q0d 1) (q0d 3))) (tgN 5) (z0y (q0d 2) (q0d 5) (mOp fAdd (q0d 4) (mC (.int 1)))))))
 (mSeq (mAsg 6 (mLc [7] (z0s (q0y (mCB fLen (q0y (q0d 0) aNil)) aNil)) (tgN 7) mYes (z7p (q0d 2) (q0d 7) (mC (.int 0)))))
 (mSeq (mIfS (mBl (mOp fEq (q0d 1) (mLst vNil))) (mFor (mWN (q2q q3e (q0f (q0d 0) vNil))) (tgN 7) (z0y (q0d 6) (q0d 7) (mC (.int 1)))) q3h)
 (mRet (q0d 6)))))))
noncomputable def q4c:Mf:=mFn 2 8 b_lengths_by
theorem q6d {P:Program} {w:World} {K:PySem.W.Frag} {mg:Str→Option Value} {base:Heap} (T:Tx K mg):FnOk P w K mg base (L2.CX P w) 5 T.a_lengths_by T.d_lengths_by ["counts","paper"] (spM K (ctT T) q4c) :=
 T.F_lengths_by.okX q1w (fun vs H Q E h=>q2k h) (fun cdv A outer s H vs Q E hr h=>⟨_,(pss_cons (ps_expr (pe_callS (q5q T) (hr.mono (by decide)) (by rfl) T.g_check_paper T.F_check_paper.kp T.b_check_paper (fun σ=>passAt (takes_of rfl rfl rfl rfl) σ) (pa_cons (pv 0) (pa_cons (pv 1) pa_nil))))
   (pss_cons (ps_set (i:=2) q1w.nd rfl (by first|exact Or.inl rfl|exact Or.inr rfl) pe_dnewK)
   (pss_cons (ps_for (passes_of rfl) rfl (pi_range3 rfl T.z_range (pa_cons (pe_op op_sub (pe_callB (q0t (K:=K) rfl) (by rfl) T.z_len PySem.boot_len (pa_cons (pv 1) pa_nil)) pe_int) (pa_cons (pe_un un_neg pe_int) (pa_cons (pe_un un_neg pe_int) pa_nil)))) (pg_name (i:=3) q1w.nd rfl (by first|exact Or.inl rfl|exact Or.inr rfl)) (pss_cons (ps_set (i:=4) q1w.nd rfl (by first|exact Or.inl rfl|exact Or.inr rfl) (pe_dget2 (hu_of hr) (pv 2) (pe_op (q0w (K:=K) rfl) (pe_callB (q0t (K:=K) rfl) (by rfl) T.z_len PySem.boot_len (pa_cons (pv 0) pa_nil)) (pv 3)) pe_int ⟨rfl,rfl,rfl,rfl⟩))
   (pss_one (ps_for (passes_of rfl) rfl (z4r (K:=K) rfl (pe_ix (ix_Y (K:=K) rfl (hu_of hr)) (pv 1) (pv 3) (fun _ _=>rfl))) (pg_name (i:=5) q1w.nd rfl (by first|exact Or.inl rfl|exact Or.inr rfl)) (pss_one (ps_asg (pe_op (q0w (K:=K) rfl) (pv 4) pe_int) (pg_sub (pv 2) (pv 5) (z3h (hu_of hr)))))))))
   (pss_cons (ps_setLc (i:=6) (own:=[("symbol",7)]) rfl q1w.nd rfl rfl (sw_true rfl rfl rfl (by decide +kernel)) (pi_range1 rfl T.z_range (pa_cons (pe_callB (q0t (K:=K) rfl) (by rfl) T.z_len PySem.boot_len (pa_cons (pv 0) pa_nil)) pa_nil)) (blkOk_by (N:=["counts","paper","deep","at","above","number","found","symbol"]) (sc:=defScope q1r) (by decide +kernel)) (fun _ _ _ _ _=>(pg_name (i:=7) q1w.nd rfl (by first|exact Or.inl rfl|exact Or.inr rfl))) (fun _ _ _ _ _=>pts_nil) (fun _ _ _ _ _=>(pe_dget2 (hu_of hr) (pv 2) (pv 7) pe_int ⟨rfl,rfl,rfl,rfl⟩)))
   (pss_cons (ps_if (pt_cmpR (q5i (K:=K) rfl hr.units) (pv 1) (pe_lst pa_nil) (nomark _)) (pss_one (ps_for (passes_of rfl) rfl (pi_keys (j8u (q1f (q4j T) (hr.mono (by decide)) (by rfl) T.g_first_parts T.F_first_parts.kp T.b_first_parts pass0 (pa_cons (pv 0) pa_nil)))) (pg_name (i:=7) q1w.nd rfl (by first|exact Or.inl rfl|exact Or.inr rfl)) (pss_one (ps_asg pe_int (pg_sub (pv 6) (pv 7) (z3h (hu_of hr))))))) pss_nil)
   (pss_one (ps_ret (pv 6)))))))),
  q2h (np:=2) (N:=["counts","paper","deep","at","above","number","found","symbol"]) (body:=b_lengths_by) (by unfold b_lengths_by;exact(q0m (q3c (q1j (q0a q0b (q0a q0b q0h))))
   (q0m (q1y q9t)
   (q0m (q6l (j1j (q0j (q0i (j_I0 fun _ _=>q0c) (q1z q2r (q0j q0b q0r)) (ei_c q0c)) (q0j (j8c j9u (ei_c q0c)) (q0j (j8c j9u (ei_c q0c)) q0r)))) q0x (q0m (q1y (z4k q0b (q0i q2x (q1z q2r (q0j q0b q0r)) q0b) (ei_c q0c)))
   (q6l (j0h (q0i q5c q0b q0b)) q0x (q6q (q0i q2x q0b (ei_c q0c)) q0b q0b))))
   (q0m (q1y (q8m (ws:=[7]) (q6s (q0j (q1z q2r (q0j q0b q0r)) q0r)) q0x (by decide) q5p (z4k q0b q0b (ei_c q0c))))
   (q0m (q3m (q1x (q0i j_eq q0b (q1b q0h))) (q6l (j1a (q1k (q0a q0b q0h))) q0x (q6q (ei_c q0c) q0b q0b)) q1i)
   (q1o q0b))))))) h⟩)
@[irreducible] noncomputable def b_least_part:Ms :=
 (mRet (mOp fIxY (mCB z4h (q0y (mLcD .items 0 [1,2] (tgT 2 (q3g (tgN 1) (q3g (tgN 2) q8o))) mYes (mTup (q0f (q0d 2) (q0f (q0d 1) vNil)))) aNil)) (mC (.int 1))))
noncomputable def q4d:Mf:=mFn 1 3 b_least_part
theorem q5z {P:Program} {w:World} {K:PySem.W.Frag} {mg:Str→Option Value} {base:Heap} (T:Tx K mg):FnOk P w K mg base CX0 1 T.a_least_part T.d_least_part ["parts"] (spM K (ctT T) q4d) :=
 T.F_least_part.ok q3r (fun vs H Q E h=>q2k h) (fun cdv A outer s H vs Q E hr h=>⟨_,(pss_one (ps_ret (pe_ix (ix_Y (K:=K) rfl (hu_of hr)) (pe_callB (j0n (K:=K) rfl rfl (u66 hr)) (by rfl) T.z_min (by decide +kernel) (pa_cons (pe_lock (pe_lc (own:=[("number",1),("weight",2)]) rfl q3r.nd (pi_items (pv 0)) (blkOk_by (N:=["parts","number","weight"]) (sc:=defScope q1p) (by decide +kernel)) (fun _ _ _ _ _=>(q4y (K:=K) (n:=2) rfl rfl (pgs_cons (pg_name (i:=1) q3r.nd rfl (by first|exact Or.inl rfl|exact Or.inr rfl)) (pgs_cons (pg_name (i:=2) q3r.nd rfl (by first|exact Or.inl rfl|exact Or.inr rfl)) pgs_nil)))) (fun _ _ _ _ _=>pts_nil) (fun _ _ _ _ _=>(pe_tup (pa_cons (pv 2) (pa_cons (pv 1) pa_nil)))))) pa_nil)) pe_int (fun _ _=>rfl)))),
  q2h (np:=1) (N:=["parts","number","weight"]) (body:=b_least_part) (by unfold b_least_part;exact(q1o (q0i q5c (q1z j2z (q0j (j4z (kd:=.items) (i:=0) (ws:=[1,2]) rfl (fun b=>(q7a (q1u q0x (q1u q0x q4o)))) (by decide) (fun b=>q5p) (fun b=>(q4z (q0a q0b (q0a q0b q0h))))) q0r)) (ei_c q0c)))) h⟩)
@[irreducible] noncomputable def b_pairs_of:Ms :=
 (mSeq (q5n (q4b q0o (q0f (q0d 0) vNil)))
 (mSeq (mAsg 1 (q2q q3e (q0f (q0d 0) vNil)))
 (mSeq (mAsg 2 (mLst vNil))
 (mSeq (mWh (mBl (mOp (fI0 fun i j=>.bl (decide (j<i))) (mCB fLen (q0y (q0d 1) aNil)) (mC (.int 1)))) (mSeq (mAsg 3 (z3e q4d (q0y (q0d 1) aNil)))
 (mSeq (mAsg 4 (mPop (q0d 1) (q0d 3)))
 (mSeq (mAsg 5 (z3e q4d (q0y (q0d 1) aNil)))
 (mSeq (mAug 4 (fun i j=>i+j) (mPop (q0d 1) (q0d 5)))
 (mSeq (z0y (q0d 1) (mOp fAdd (mCB fLen (q0y (q0d 0) aNil)) (mCB fLen (q0y (q0d 2) aNil))) (q0d 4))
 (q5n (mBM fApp (q0d 2) (q0f (mTup (q0f (q0d 3) (q0f (q0d 5) vNil))) vNil)))))))))
 (mRet (q0d 2))))))
noncomputable def q3u:Mf:=mFn 1 6 b_pairs_of
theorem q5t {P:Program} {w:World} {K:PySem.W.Frag} {mg:Str→Option Value} {base:Heap} (T:Tx K mg):FnOk P w K mg base (L2.CX P w) 4 T.a_pairs_of T.d_pairs_of ["counts"] (spM K (ctT T) q3u) :=
 T.F_pairs_of.okX q2y (fun vs H Q E h=>q2k h) (fun cdv A outer s H vs Q E hr h=>⟨_,(pss_cons (ps_expr (pe_callS (q3v T) (hr.mono (by decide)) (by rfl) T.g_check_counts T.F_check_counts.kp T.b_check_counts (fun σ=>passAt (takes_of rfl rfl rfl rfl) σ) (pa_cons (pv 0) pa_nil)))
   (pss_cons (ps_set (i:=1) q2y.nd rfl (by first|exact Or.inl rfl|exact Or.inr rfl) (q1f (q4j T) (hr.mono (by decide)) (by rfl) T.g_first_parts T.F_first_parts.kp T.b_first_parts pass0 (pa_cons (pv 0) pa_nil)))
   (pss_cons (ps_set (i:=2) q2y.nd rfl (by first|exact Or.inl rfl|exact Or.inr rfl) (pe_lst pa_nil))
   (pss_cons (ps_while (passes_of rfl) (pt_cmpR op_gt (pe_callB (q0t (K:=K) rfl) (by rfl) T.z_len PySem.boot_len (pa_cons (pv 1) pa_nil)) pe_int (nomark _)) (pss_cons (ps_set (i:=3) q2y.nd rfl (by first|exact Or.inl rfl|exact Or.inr rfl) (q1f (q5z T) (hr.mono (by decide)) (by rfl) T.g_least_part T.F_least_part.kp T.b_least_part pass0 (pa_cons (pv 1) pa_nil)))
   (pss_cons (ps_set (i:=4) q2y.nd rfl (by first|exact Or.inl rfl|exact Or.inr rfl) (pe_dpop1 (pv 1) (pv 3) ⟨rfl,rfl,rfl,rfl⟩))
   (pss_cons (ps_set (i:=5) q2y.nd rfl (by first|exact Or.inl rfl|exact Or.inr rfl) (q1f (q5z T) (hr.mono (by decide)) (by rfl) T.g_least_part T.F_least_part.kp T.b_least_part pass0 (pa_cons (pv 1) pa_nil)))
   (pss_cons (ps_aug (i:=4) q2y.nd rfl (by first|exact Or.inl rfl|exact Or.inr rfl) (pe_dpop1 (pv 1) (pv 5) ⟨rfl,rfl,rfl,rfl⟩) ip_add)
   (pss_cons (ps_asg (pv 4) (pg_sub (pv 1) (pe_op (q0w (K:=K) rfl) (pe_callB (q0t (K:=K) rfl) (by rfl) T.z_len PySem.boot_len (pa_cons (pv 0) pa_nil)) (pe_callB (q0t (K:=K) rfl) (by rfl) T.z_len PySem.boot_len (pa_cons (pv 2) pa_nil))) (z3h (hu_of hr))))
   (pss_one (ps_expr (q7d (K:=K) rfl PySem.F.plainAttrs_list PySem.F.slot_list_append PySem.F.type_list_append mt_append (pv 2) (pa_cons (pe_tup (pa_cons (pv 3) (pa_cons (pv 5) pa_nil))) pa_nil))))))))))
   (pss_one (ps_ret (pv 2))))))),
  q2h (np:=1) (N:=["counts","parts","paper","one","weight","other"]) (body:=b_pairs_of) (by unfold b_pairs_of;exact(q0m (q3c (q1j (q0a q0b q0h)))
   (q0m (q1y (q1k (q0a q0b q0h)))
   (q0m (q1y (q1b q0h))
   (q0m (z7l (q1x (q0i (j_I0 fun _ _=>q3i) (q1z q2r (q0j q0b q0r)) (ei_c q0c))) (q0m (q1y (z3d (q0j q0b q0r)))
   (q0m (q1y (z3b q0b q0b))
   (q0m (q1y (z3d (q0j q0b q0r)))
   (q0m (z9k (z3b q0b q0b))
   (q0m (q6q q0b q0b (q0i q2x (q1z q2r (q0j q0b q0r)) (q1z q2r (q0j q0b q0r))))
   (q3c (z0u q7e q0b (q0a (q4z (q0a q0b (q0a q0b q0h))) q0h)))))))))
   (q1o q0b)))))) h⟩)
@[irreducible] noncomputable def b_least_lengths:Ms :=
 (mRet (q4b q4c (q0f (q0d 0) (q0f (q4b q3u (q0f (q0d 0) vNil)) vNil))))
noncomputable def q3w:Mf:=mFn 1 1 b_least_lengths
theorem q7h {P:Program} {w:World} {K:PySem.W.Frag} {mg:Str→Option Value} {base:Heap} (T:Tx K mg):FnOk P w K mg base (L2.CX P w) 6 T.a_least_lengths T.d_least_lengths ["counts"] (spM K (ctT T) q3w) :=
 T.F_least_lengths.okX q7i (fun vs H Q E h=>q2k h) (fun cdv A outer s H vs Q E hr h=>⟨_,(pss_one (ps_ret (pe_callS (q6d T) (hr.mono (by decide)) (by rfl) T.g_lengths_by T.F_lengths_by.kp T.b_lengths_by (fun σ=>passAt (takes_of rfl rfl rfl rfl) σ) (pa_cons (pv 0) (pa_cons (pe_callS (q5t T) (hr.mono (by decide)) (by rfl) T.g_pairs_of T.F_pairs_of.kp T.b_pairs_of (fun σ=>passAt (takes_of rfl rfl rfl rfl) σ) (pa_cons (pv 0) pa_nil)) pa_nil))))),
  q2h (np:=1) (N:=["counts"]) (body:=b_least_lengths) (by unfold b_least_lengths;exact(q1o (q1j (q0a q0b (q0a (q1j (q0a q0b q0h)) q0h))))) h⟩)
@[irreducible] noncomputable def b_l_counts_refused:Ms :=
 (mSeq (mAsg 2 (mLst (q0f (mRef 0 1 q0n (q4b q3u (q0f (q0d 0) vNil))) vNil)))
 (mSeq (q5n (mBM fApp (q0d 2) (q0f (mRef 0 1 q0n (q4b q3s (q0f (q0d 0) (q0f (q0d 1) vNil)))) vNil)))
 (mSeq (q5n (mBM fApp (q0d 2) (q0f (mRef 0 1 q0n (q4b q4c (q0f (q0d 0) (q0f (q0d 1) vNil)))) vNil)))
 (mSeq (q5n (mBM fApp (q0d 2) (q0f (mRef 0 1 q0n (q4b q3w (q0f (q0d 0) vNil))) vNil)))
 (mSeq (q5n (mBM fApp (q0d 2) (q0f (mRef 0 1 q0n (q4b q2i (q0f (q0d 0) (q0f (mLst (q0f (mC (.int 1)) (q0f (mC (.int 2)) vNil))) vNil)))) vNil)))
 (mRet (mOp fNin (mC (.bl false)) (q0d 2))))))))
noncomputable def q3d:Mf:=mFn 2 3 b_l_counts_refused
theorem q5x {P:Program} {w:World} {K:PySem.W.Frag} {mg:Str→Option Value} {base:Heap} (T:Tx K mg) (B:TbB T base):FnOk P w K mg base CX0 9 T.a_l_counts_refused T.d_l_counts_refused ["_law_counts","_law_paper"] (spM K (ctT T) q3d) :=
 T.L_l_counts_refused.ok q3y (fun vs H Q E h=>q2k h) (fun A outer s H vs Q E hr h=>⟨_,(pss_cons (ps_set (i:=2) q3y.nd rfl (by first|exact Or.inl rfl|exact Or.inr rfl) (pe_lst (pa_cons (q4i (K:=K) (k:=6) (P:=T.tp_l_counts_refused) (Ng:=["_law_deed","_law_found","e"]) rfl T.F_l_refused (by rfl) T.g_l_refused T.b_l_refused q0z rfl (.inl rfl) (fun cdv=>q0v T rfl rfl cdv) rfl B.1 rfl (hr.mono (by decide)) (LamX.lamS_by (sc:=defScope q0k) (by decide +kernel)) rfl (fun _ _ _ _ _=>rfl) (fun A outer s H E f c' hr=>(pe_callS (q5t T) (hr.mono (by decide)) (by rfl) T.g_pairs_of T.F_pairs_of.kp T.b_pairs_of (fun σ=>passAt (takes_of rfl rfl rfl rfl) σ) (pa_cons (pv 0) pa_nil)))) pa_nil)))
   (pss_cons (ps_expr (q7d (K:=K) rfl PySem.F.plainAttrs_list PySem.F.slot_list_append PySem.F.type_list_append mt_append (pv 2) (pa_cons (q4i (K:=K) (k:=6) (P:=T.tp_l_counts_refused) (Ng:=["_law_deed","_law_found","e"]) rfl T.F_l_refused (by rfl) T.g_l_refused T.b_l_refused q0z rfl (.inl rfl) (fun cdv=>q0v T rfl rfl cdv) rfl B.1 rfl (hr.mono (by decide)) (LamX.lamS_by (sc:=defScope q0k) (by decide +kernel)) rfl (fun _ _ _ _ _=>rfl) (fun A outer s H E f c' hr=>(pe_callS (q5q T) (hr.mono (by decide)) (by rfl) T.g_check_paper T.F_check_paper.kp T.b_check_paper (fun σ=>passAt (takes_of rfl rfl rfl rfl) σ) (pa_cons (pv 0) (pa_cons (pv 1) pa_nil))))) pa_nil)))
   (pss_cons (ps_expr (q7d (K:=K) rfl PySem.F.plainAttrs_list PySem.F.slot_list_append PySem.F.type_list_append mt_append (pv 2) (pa_cons (q4i (K:=K) (k:=6) (P:=T.tp_l_counts_refused) (Ng:=["_law_deed","_law_found","e"]) rfl T.F_l_refused (by rfl) T.g_l_refused T.b_l_refused q0z rfl (.inl rfl) (fun cdv=>q0v T rfl rfl cdv) rfl B.1 rfl (hr.mono (by decide)) (LamX.lamS_by (sc:=defScope q0k) (by decide +kernel)) rfl (fun _ _ _ _ _=>rfl) (fun A outer s H E f c' hr=>(pe_callS (q6d T) (hr.mono (by decide)) (by rfl) T.g_lengths_by T.F_lengths_by.kp T.b_lengths_by (fun σ=>passAt (takes_of rfl rfl rfl rfl) σ) (pa_cons (pv 0) (pa_cons (pv 1) pa_nil))))) pa_nil)))
   (pss_cons (ps_expr (q7d (K:=K) rfl PySem.F.plainAttrs_list PySem.F.slot_list_append PySem.F.type_list_append mt_append (pv 2) (pa_cons (q4i (K:=K) (k:=6) (P:=T.tp_l_counts_refused) (Ng:=["_law_deed","_law_found","e"]) rfl T.F_l_refused (by rfl) T.g_l_refused T.b_l_refused q0z rfl (.inl rfl) (fun cdv=>q0v T rfl rfl cdv) rfl B.1 rfl (hr.mono (by decide)) (LamX.lamS_by (sc:=defScope q0k) (by decide +kernel)) rfl (fun _ _ _ _ _=>rfl) (fun A outer s H E f c' hr=>(pe_callS (q7h T) (hr.mono (by decide)) (by rfl) T.g_least_lengths T.F_least_lengths.kp T.b_least_lengths (fun σ=>passAt (takes_of rfl rfl rfl rfl) σ) (pa_cons (pv 0) pa_nil)))) pa_nil)))
   (pss_cons (ps_expr (q7d (K:=K) rfl PySem.F.plainAttrs_list PySem.F.slot_list_append PySem.F.type_list_append mt_append (pv 2) (pa_cons (q4i (K:=K) (k:=6) (P:=T.tp_l_counts_refused) (Ng:=["_law_deed","_law_found","e"]) rfl T.F_l_refused (by rfl) T.g_l_refused T.b_l_refused q0z rfl (.inl rfl) (fun cdv=>q0v T rfl rfl cdv) rfl B.1 rfl (hr.mono (by decide)) (LamX.lamS_by (sc:=defScope q0k) (by decide +kernel)) rfl (fun _ _ _ _ _=>rfl) (fun A outer s H E f c' hr=>(pe_callS (q4m T) (hr.mono (by decide)) (by rfl) T.g_bits_of T.F_bits_of.kp T.b_bits_of (fun σ=>passAt (takes_of rfl rfl rfl rfl) σ) (pa_cons (pv 0) (pa_cons (pe_lst (pa_cons pe_int (pa_cons pe_int pa_nil))) pa_nil))))) pa_nil)))
   (pss_one (ps_ret (pe_cmpR (z4s (K:=K) rfl (u65 hr)) pe_bl (pv 2) (by rfl))))))))),
  q2h (np:=2) (N:=["_law_counts","_law_paper","_law_found"]) (body:=b_l_counts_refused) (by unfold b_l_counts_refused;exact(q0m (q1y (q1b (q0a (q5s (k:=0) (c:=1) (fun E=>(q1j (q0a q0b q0h))) T.xc_BadTable T.e_BadTable_ShelfError T.q_BadTable_BadTable T.q_BadTable_ValueError T.q_BadTable_BadPaper) q0h)))
   (q0m (q3c (z0u q7e q0b (q0a (q5s (k:=0) (c:=1) (fun E=>(q1j (q0a q0b (q0a q0b q0h)))) T.xc_BadTable T.e_BadTable_ShelfError T.q_BadTable_BadTable T.q_BadTable_ValueError T.q_BadTable_BadPaper) q0h)))
   (q0m (q3c (z0u q7e q0b (q0a (q5s (k:=0) (c:=1) (fun E=>(q1j (q0a q0b (q0a q0b q0h)))) T.xc_BadTable T.e_BadTable_ShelfError T.q_BadTable_BadTable T.q_BadTable_ValueError T.q_BadTable_BadPaper) q0h)))
   (q0m (q3c (z0u q7e q0b (q0a (q5s (k:=0) (c:=1) (fun E=>(q1j (q0a q0b q0h))) T.xc_BadTable T.e_BadTable_ShelfError T.q_BadTable_BadTable T.q_BadTable_ValueError T.q_BadTable_BadPaper) q0h)))
   (q0m (q3c (z0u q7e q0b (q0a (q5s (k:=0) (c:=1) (fun E=>(q1j (q0a q0b (q0a (q1b (q0a (ei_c q0c) (q0a (ei_c q0c) q0h))) q0h)))) T.xc_BadTable T.e_BadTable_ShelfError T.q_BadTable_BadTable T.q_BadTable_ValueError T.q_BadTable_BadPaper) q0h)))
   (q1o (q0i j6w (ei_c q3i) q0b)))))))) h⟩)
@[irreducible] noncomputable def b_words_of:Ms :=
 (mSeq (q5n (q4b q0s (q0f (q0d 0) vNil)))
 (mSeq (mAsg 1 (mLc [4] (mWL (q0d 0)) (tgN 4) mYes (mC .non)))
 (mSeq (mAsg 2 (mC (.int 0)))
 (mSeq (mAsg 3 (mC (.int 0)))
 (mSeq (mFor (mWL (mCB z7f (q0y (mLc [5,4] (mWE (q0f (q0d 0) vNil)) (tgT 2 (q3g (tgN 5) (q3g (tgN 4) q8o))) mYes (mTup (q0f (q0d 4) (q0f (q0d 5) vNil)))) aNil))) (tgT 2 (q3g (tgN 4) (q3g (tgN 5) q8o))) (mIfS (mBl (mOp (fI0 fun i j=>.bl (decide (j<i))) (q0d 4) (mC (.int 0)))) (mSeq (mIfS (mBl (mOp (fI0 fun i j=>.bl (decide (j<i))) (q0d 3) (mC (.int 0)))) (mAsg 2 (mOp (fI CShl fun i j=>.int (i*2^j.toNat)) (mOp fAdd (q0d 2) (mC (.int 1))) (mOp (fI0 fun i j=>.int (i-j)) (q0d 4) (q0d 3)))) q3h)
 (mSeq (z0y (q0d 1) (q0d 5) (mTup (q0f (q0d 4) (q0f (q0d 2) vNil))))
 (mAsg 3 (q0d 4)))) q3h))
 (mRet (q0d 1)))))))
noncomputable def q3k:Mf:=mFn 1 6 b_words_of
theorem q4n {P:Program} {w:World} {K:PySem.W.Frag} {mg:Str→Option Value} {base:Heap} (T:Tx K mg):FnOk P w K mg base (L2.CX P w) 4 T.a_words_of T.d_words_of ["lengths"] (spM K (ctT T) q3k) :=
 T.F_words_of.okX q1l (fun vs H Q E h=>q2k h) (fun cdv A outer s H vs Q E hr h=>⟨_,(pss_cons (ps_expr (pe_callS (q4u T) (hr.mono (by decide)) (by rfl) T.g_check_lengths T.F_check_lengths.kp T.b_check_lengths (fun σ=>passAt (takes_of rfl rfl rfl rfl) σ) (pa_cons (pv 0) pa_nil)))
   (pss_cons (ps_setLc (i:=1) (own:=[("length",4)]) rfl q1l.nd rfl rfl (sw_true rfl rfl rfl (by decide +kernel)) (q7m (K:=K) rfl (pv 0)) (blkOk_by (N:=["lengths","found","number","last","length","symbol"]) (sc:=defScope q2b) (by decide +kernel)) (fun _ _ _ _ _=>(pg_name (i:=4) q1l.nd rfl (by first|exact Or.inl rfl|exact Or.inr rfl))) (fun _ _ _ _ _=>pts_nil) (fun _ _ _ _ _=>pe_non))
   (pss_cons (ps_set (i:=2) q1l.nd rfl (by first|exact Or.inl rfl|exact Or.inr rfl) pe_int)
   (pss_cons (ps_set (i:=3) q1l.nd rfl (by first|exact Or.inl rfl|exact Or.inr rfl) pe_int)
   (pss_cons (ps_for (passes_of rfl) rfl (q7m (K:=K) rfl (pe_callB (z7m (K:=K) rfl (u66 hr)) (by rfl) T.z_sorted (by decide +kernel) (pa_cons (pe_lc (own:=[("symbol",5),("length",4)]) rfl q1l.nd (q7l (K:=K) rfl rfl T.z_enumerate (pa_cons (pv 0) pa_nil)) (blkOk_by (N:=["lengths","found","number","last","length","symbol"]) (sc:=defScope q2b) (by decide +kernel)) (fun _ _ _ _ _=>(q4y (K:=K) (n:=2) rfl rfl (pgs_cons (pg_name (i:=5) q1l.nd rfl (by first|exact Or.inl rfl|exact Or.inr rfl)) (pgs_cons (pg_name (i:=4) q1l.nd rfl (by first|exact Or.inl rfl|exact Or.inr rfl)) pgs_nil)))) (fun _ _ _ _ _=>pts_nil) (fun _ _ _ _ _=>(pe_tup (pa_cons (pv 4) (pa_cons (pv 5) pa_nil))))) pa_nil))) (q4y (K:=K) (n:=2) rfl rfl (pgs_cons (pg_name (i:=4) q1l.nd rfl (by first|exact Or.inl rfl|exact Or.inr rfl)) (pgs_cons (pg_name (i:=5) q1l.nd rfl (by first|exact Or.inl rfl|exact Or.inr rfl)) pgs_nil))) (pss_one (ps_if (pt_cmpR op_gt (pv 4) pe_int (nomark _)) (pss_cons (ps_if (pt_cmpR op_gt (pv 3) pe_int (nomark _)) (pss_one (ps_set (i:=2) q1l.nd rfl (by first|exact Or.inl rfl|exact Or.inr rfl) (pe_op op_shlW (pe_op (q0w (K:=K) rfl) (pv 2) pe_int) (pe_op op_sub (pv 4) (pv 3))))) pss_nil)
   (pss_cons (ps_asg (pe_tup (pa_cons (pv 4) (pa_cons (pv 2) pa_nil))) (pg_sub (pv 1) (pv 5) (z3h (hu_of hr))))
   (pss_one (ps_set (i:=3) q1l.nd rfl (by first|exact Or.inl rfl|exact Or.inr rfl) (pv 4))))) pss_nil)))
   (pss_one (ps_ret (pv 1)))))))),
  q2h (np:=1) (N:=["lengths","found","number","last","length","symbol"]) (body:=b_words_of) (by unfold b_words_of;exact(q0m (q3c (q1j (q0a q0b q0h)))
   (q0m (q1y (q8m (ws:=[4]) (z0c q0b) q0x (by decide) q5p (ei_c q8t)))
   (q0m (q1y (ei_c q0c))
   (q0m (q1y (ei_c q0c))
   (q0m (q6l (z0c (q1z j1z (q0j (q8m (ws:=[5,4]) (q9f (q0a q0b q0h)) (q7a (q1u q0x (q1u q0x q4o))) (by decide) q5p (q4z (q0a q0b (q0a q0b q0h)))) q0r))) (q7a (q1u q0x (q1u q0x q4o))) (q3m (q1x (q0i (j_I0 fun _ _=>q3i) q0b (ei_c q0c))) (q0m (q3m (q1x (q0i (j_I0 fun _ _=>q3i) q0b (ei_c q0c))) (q1y (q0i (j_I fun _ _=>q0c) (q0i q2x q0b (ei_c q0c)) (q0i (j_I0 fun _ _=>q0c) q0b q0b))) q1i)
   (q0m (q6q (q4z (q0a q0b (q0a q0b q0h))) q0b q0b)
   (q1y q0b))) q1i))
   (q1o q0b))))))) h⟩)
@[irreducible] noncomputable def b_beginnings_of:Ms :=
 (mSeq (z9f 1 (z2u (z1q (mTup (q0f (mC (.int 0)) (q0f (mC (.int 0)) vNil))) (mLst vNil) j3g)))
 (mSeq (mFor (mWE (q0f (q4b q3k (q0f (q0d 0) vNil)) vNil)) (tgT 2 (q3g (tgN 2) (q3g (tgN 3) q8o))) (mIfS (mBl (mOp fIsn (q0d 3) (mC .non))) (mFor (z0s (q0y (mOp fAdd (mOp fIxY (q0d 3) (mC (.int 0))) (mC (.int 1))) aNil)) (tgN 4) (q5n (mBM fApp (j0w (q0d 1) (mTup (q0f (q0d 4) (q0f (mOp (fI (fun _ j=>0≤j) fun i j=>.int (i/2^j.toNat)) (mOp fIxY (q0d 3) (mC (.int 1))) (mOp (fI0 fun i j=>.int (i-j)) (mOp fIxY (q0d 3) (mC (.int 0))) (q0d 4))) vNil))) (mLst vNil)) (q0f (q0d 2) vNil)))) q3h))
 (mRet (mCB z7c (q0y (z5f .items (q0d 1) [5,6] (tgT 2 (q3g (tgN 5) (q3g (tgN 6) q8o))) mYes (mTup (q0f (q0d 5) (q0f (mCB fTup (q0y (q0d 6) aNil)) vNil)))) aNil)))))
noncomputable def q4a:Mf:=mFn 1 7 b_beginnings_of
theorem q7f {P:Program} {w:World} {K:PySem.W.Frag} {mg:Str→Option Value} {base:Heap} (T:Tx K mg):FnOk P w K mg base (L2.CX P w) 5 T.a_beginnings_of T.d_beginnings_of ["lengths"] (spM K (ctT T) q4a) :=
 T.F_beginnings_of.okX q1e (fun vs H Q E h=>q2k h) (fun cdv A outer s H vs Q E hr h=>⟨_,(pss_cons (ps_set (i:=1) q1e.nd rfl (by first|exact Or.inl rfl|exact Or.inr rfl) (z9e (hu_of hr) (pps_cons (pe_tup (pa_cons pe_int (pa_cons pe_int pa_nil))) (pe_lst pa_nil) pps_nil) rfl rfl (by simp) (by decide)))
   (pss_cons (ps_for (passes_of rfl) rfl (q7l (K:=K) rfl rfl T.z_enumerate (pa_cons (pe_callS (q4n T) (hr.mono (by decide)) (by rfl) T.g_words_of T.F_words_of.kp T.b_words_of (fun σ=>passAt (takes_of rfl rfl rfl rfl) σ) (pa_cons (pv 0) pa_nil)) pa_nil)) (q4y (K:=K) (n:=2) rfl rfl (pgs_cons (pg_name (i:=2) q1e.nd rfl (by first|exact Or.inl rfl|exact Or.inr rfl)) (pgs_cons (pg_name (i:=3) q1e.nd rfl (by first|exact Or.inl rfl|exact Or.inr rfl)) pgs_nil))) (pss_one (ps_if (pt_cmpR j4b (pv 3) pe_non (nomark _)) (pss_one (ps_for (passes_of rfl) rfl (pi_range1 rfl T.z_range (pa_cons (pe_op (q0w (K:=K) rfl) (pe_ix (ix_Y (K:=K) rfl (hu_of hr)) (pv 3) pe_int (fun _ _=>rfl)) pe_int) pa_nil)) (pg_name (i:=4) q1e.nd rfl (by first|exact Or.inl rfl|exact Or.inr rfl)) (pss_one (ps_expr (q7d (K:=K) rfl PySem.F.plainAttrs_list PySem.F.slot_list_append PySem.F.type_list_append mt_append (z8j (hu_of hr) (pv 1) (pe_tup (pa_cons (pv 4) (pa_cons (pe_op op_shr (pe_ix (ix_Y (K:=K) rfl (hu_of hr)) (pv 3) pe_int (fun _ _=>rfl)) (pe_op op_sub (pe_ix (ix_Y (K:=K) rfl (hu_of hr)) (pv 3) pe_int (fun _ _=>rfl)) (pv 4))) pa_nil))) (pe_lst pa_nil) ⟨rfl,rfl,rfl,rfl⟩) (pa_cons (pv 2) pa_nil)))))) pss_nil)))
   (pss_one (ps_ret (pe_callTy (z1s (K:=K) rfl rfl (u2 hr)) (by rfl) T.z_dict (by decide +kernel) (pa_cons (pe_lock (pe_lc (own:=[("beginning",5),("symbols",6)]) rfl q1e.nd (z6k (pv 1)) (blkOk_by (N:=["lengths","found","symbol","word","many","beginning","symbols"]) (sc:=defScope q0u) (by decide +kernel)) (fun _ _ _ _ _=>(q4y (K:=K) (n:=2) rfl rfl (pgs_cons (pg_name (i:=5) q1e.nd rfl (by first|exact Or.inl rfl|exact Or.inr rfl)) (pgs_cons (pg_name (i:=6) q1e.nd rfl (by first|exact Or.inl rfl|exact Or.inr rfl)) pgs_nil)))) (fun _ _ _ _ _=>pts_nil) (fun _ _ _ _ _=>(pe_tup (pa_cons (pv 5) (pa_cons (pe_callTy (z5c (K:=K) rfl) (by rfl) T.z_tuple (by decide +kernel) (pa_cons (pv 6) pa_nil)) pa_nil)))))) pa_nil)))))),
  q2h (np:=1) (N:=["lengths","found","symbol","word","many","beginning","symbols"]) (body:=b_beginnings_of) (by unfold b_beginnings_of;exact(q0m (z6a (z8y (z7h (q4z (q0a (ei_c q0c) (q0a (ei_c q0c) q0h))) (q1b q0h) j0m)))
   (q0m (q6l (q9f (q0a (q1j (q0a q0b q0h)) q0h)) (q7a (q1u q0x (q1u q0x q4o))) (q3m (q1x (q0i w1z q0b (ei_c q8t))) (q6l (q6s (q0j (q0i q2x (q0i q5c q0b (ei_c q0c)) (ei_c q0c)) q0r)) q0x (q3c (z0u q7e (j3n q0b (q4z (q0a q0b (q0a (q0i (j_I fun _ _=>q0c) (q0i q5c q0b (ei_c q0c)) (q0i (j_I0 fun _ _=>q0c) (q0i q5c q0b (ei_c q0c)) q0b)) q0h))) (q1b q0h)) (q0a q0b q0h)))) q1i))
   (q1o (q1z z8b (q0j (j3u (kd:=.items) (ws:=[5,6]) q0b (q7a (q1u q0x (q1u q0x q4o))) (by decide) q5p (q4z (q0a q0b (q0a (q1z j6f (q0j q0b q0r)) q0h)))) q0r)))))) h⟩)
@[irreducible] noncomputable def b_l_lengths_refused:Ms :=
 (mSeq (mAsg 1 (mLst (q0f (mRef 1 1 q0p (q4b q3k (q0f (q0d 0) vNil))) vNil)))
 (mSeq (q5n (mBM fApp (q0d 1) (q0f (mRef 1 1 q0p (q4b q4a (q0f (q0d 0) vNil))) vNil)))
 (mSeq (q5n (mBM fApp (q0d 1) (q0f (mRef 1 1 q0p (q4b q2i (q0f (mLst (q0f (mC (.int 0)) (q0f (mC (.int 0)) vNil))) (q0f (q0d 0) vNil)))) vNil)))
 (mRet (mOp fNin (mC (.bl false)) (q0d 1))))))
noncomputable def q2z:Mf:=mFn 1 2 b_l_lengths_refused
theorem q5m {P:Program} {w:World} {K:PySem.W.Frag} {mg:Str→Option Value} {base:Heap} (T:Tx K mg) (B:TbB T base):FnOk P w K mg base CX0 8 T.a_l_lengths_refused T.d_l_lengths_refused ["_law_lengths"] (spM K (ctT T) q2z) :=
 T.L_l_lengths_refused.ok q3q (fun vs H Q E h=>q2k h) (fun A outer s H vs Q E hr h=>⟨_,(pss_cons (ps_set (i:=1) q3q.nd rfl (by first|exact Or.inl rfl|exact Or.inr rfl) (pe_lst (pa_cons (q4i (K:=K) (k:=5) (P:=T.tp_l_lengths_refused) (Ng:=["_law_deed","_law_found","e"]) rfl T.F_l_refused (by rfl) T.g_l_refused T.b_l_refused q0z rfl (.inl rfl) (fun cdv=>q0v T rfl rfl cdv) rfl B.2.1 rfl (hr.mono (by decide)) (LamX.lamS_by (sc:=defScope q0l) (by decide +kernel)) rfl (fun _ _ _ _ _=>rfl) (fun A outer s H E f c' hr=>(pe_callS (q4n T) (hr.mono (by decide)) (by rfl) T.g_words_of T.F_words_of.kp T.b_words_of (fun σ=>passAt (takes_of rfl rfl rfl rfl) σ) (pa_cons (pv 0) pa_nil)))) pa_nil)))
   (pss_cons (ps_expr (q7d (K:=K) rfl PySem.F.plainAttrs_list PySem.F.slot_list_append PySem.F.type_list_append mt_append (pv 1) (pa_cons (q4i (K:=K) (k:=5) (P:=T.tp_l_lengths_refused) (Ng:=["_law_deed","_law_found","e"]) rfl T.F_l_refused (by rfl) T.g_l_refused T.b_l_refused q0z rfl (.inl rfl) (fun cdv=>q0v T rfl rfl cdv) rfl B.2.1 rfl (hr.mono (by decide)) (LamX.lamS_by (sc:=defScope q0l) (by decide +kernel)) rfl (fun _ _ _ _ _=>rfl) (fun A outer s H E f c' hr=>(pe_callS (q7f T) (hr.mono (by decide)) (by rfl) T.g_beginnings_of T.F_beginnings_of.kp T.b_beginnings_of (fun σ=>passAt (takes_of rfl rfl rfl rfl) σ) (pa_cons (pv 0) pa_nil)))) pa_nil)))
   (pss_cons (ps_expr (q7d (K:=K) rfl PySem.F.plainAttrs_list PySem.F.slot_list_append PySem.F.type_list_append mt_append (pv 1) (pa_cons (q4i (K:=K) (k:=5) (P:=T.tp_l_lengths_refused) (Ng:=["_law_deed","_law_found","e"]) rfl T.F_l_refused (by rfl) T.g_l_refused T.b_l_refused q0z rfl (.inl rfl) (fun cdv=>q0v T rfl rfl cdv) rfl B.2.1 rfl (hr.mono (by decide)) (LamX.lamS_by (sc:=defScope q0l) (by decide +kernel)) rfl (fun _ _ _ _ _=>rfl) (fun A outer s H E f c' hr=>(pe_callS (q4m T) (hr.mono (by decide)) (by rfl) T.g_bits_of T.F_bits_of.kp T.b_bits_of (fun σ=>passAt (takes_of rfl rfl rfl rfl) σ) (pa_cons (pe_lst (pa_cons pe_int (pa_cons pe_int pa_nil))) (pa_cons (pv 0) pa_nil))))) pa_nil)))
   (pss_one (ps_ret (pe_cmpR (z4s (K:=K) rfl (u65 hr)) pe_bl (pv 1) (by rfl))))))),
  q2h (np:=1) (N:=["_law_lengths","_law_found"]) (body:=b_l_lengths_refused) (by unfold b_l_lengths_refused;exact(q0m (q1y (q1b (q0a (q5s (k:=1) (c:=1) (fun E=>(q1j (q0a q0b q0h))) T.xc_BadTable T.e_BadTable_ShelfError T.q_BadTable_BadTable T.q_BadTable_ValueError T.q_BadTable_BadPaper) q0h)))
   (q0m (q3c (z0u q7e q0b (q0a (q5s (k:=1) (c:=1) (fun E=>(q1j (q0a q0b q0h))) T.xc_BadTable T.e_BadTable_ShelfError T.q_BadTable_BadTable T.q_BadTable_ValueError T.q_BadTable_BadPaper) q0h)))
   (q0m (q3c (z0u q7e q0b (q0a (q5s (k:=1) (c:=1) (fun E=>(q1j (q0a (q1b (q0a (ei_c q0c) (q0a (ei_c q0c) q0h))) (q0a q0b q0h)))) T.xc_BadTable T.e_BadTable_ShelfError T.q_BadTable_BadTable T.q_BadTable_ValueError T.q_BadTable_BadPaper) q0h)))
   (q1o (q0i j6w (ei_c q3i) q0b)))))) h⟩)
@[irreducible] noncomputable def b_l_mixed:Ms :=
 (mSeq (mIfS (mAnd (mBl (mOp (fI0 fun i j=>.bl (decide (j≤i))) (q0d 0) (mOp (fI CShl fun i j=>.int (i*2^j.toNat)) (mC (.int 1)) (mC (.int 90))))) (mAnd (mBl (mOp fEq (mOp (fI (fun _ j=>0<j) fun i j=>.int (i%j)) (q0d 0) (mC (.int 2))) (mC (.int 1)))) (mBl (mOp (fI0 fun i j=>.bl (decide (j<i))) (mOp (fI (fun _ j=>0≤j) fun i j=>.int (i/2^j.toNat)) (q0d 0) (mOp fAdd (mC (.int 1)) (mOp fMul (mC (.int 31)) (q0d 1)))) (mC (.int 0)))))) (mRet (mOp (fI (fun _ j=>0<j) fun i j=>.int (i%j)) (mOp (fI (fun _ j=>0≤j) fun i j=>.int (i/2^j.toNat)) (q0d 0) (mOp fAdd (mC (.int 1)) (mOp fMul (mC (.int 31)) (q0d 1)))) (mC (.int 2147483648)))) q3h)
 (mSeq (mAsg 2 (mOp (fI (fun _ j=>0<j) fun i j=>.int (i%j)) (mOp fMul (mOp fAdd (mOp fAdd (q0d 0) (mOp fMul (mC (.int 7919)) (q0d 1))) (mC (.int 1))) (mC (.int 48271))) (mC (.int 2147483647))))
 (mSeq (mAsg 2 (mOp (fI (fun _ j=>0<j) fun i j=>.int (i%j)) (mOp fMul (q0d 2) (mOp fAdd (mOp (fI CDiv fun i j=>.int (i/j)) (q0d 2) (mC (.int 1009))) (mC (.int 69621)))) (mC (.int 2147483647))))
 (mRet (mOp (fI (fun _ j=>0<j) fun i j=>.int (i%j)) (mOp fMul (q0d 2) (mOp fAdd (mOp fAdd (mOp (fI CDiv fun i j=>.int (i/j)) (q0d 2) (mC (.int 2003))) (mC (.int 39373))) (q0d 1))) (mC (.int 2147483629)))))))
noncomputable def q8d:Mf:=mFn 2 3 b_l_mixed
theorem z3u {P:Program} {w:World} {K:PySem.W.Frag} {mg:Str→Option Value} {base:Heap} (T:Tx K mg):FnOk P w K mg base CX0 1 T.a_l_mixed T.d_l_mixed ["_law_cell","_law_k"] (spM K (ctT T) q8d) :=
 T.F_l_mixed.ok q6w (fun vs H Q E h=>q2k h) (fun cdv A outer s H vs Q E hr h=>⟨_,(pss_cons (ps_if (PW.pt (pw_and (pt_cmpR op_ge (pv 0) (pe_op op_shlW pe_int pe_int) (nomark _)) (pw_and (pt_cmpR (q5i (K:=K) rfl hr.units) (pe_op op_mod (pv 0) pe_int) pe_int (nomark _)) (pw_and1 (pt_cmpR op_gt (pe_op op_shr (pv 0) (pe_op (q0w (K:=K) rfl) pe_int (pe_op q2j pe_int (pv 1)))) pe_int (nomark _)))))) (pss_one (ps_ret (pe_op op_mod (pe_op op_shr (pv 0) (pe_op (q0w (K:=K) rfl) pe_int (pe_op q2j pe_int (pv 1)))) pe_int))) pss_nil)
   (pss_cons (ps_set (i:=2) q6w.nd rfl (by first|exact Or.inl rfl|exact Or.inr rfl) (pe_op op_mod (pe_op q2j (pe_op (q0w (K:=K) rfl) (pe_op (q0w (K:=K) rfl) (pv 0) (pe_op q2j pe_int (pv 1))) pe_int) pe_int) pe_int))
   (pss_cons (ps_set (i:=2) q6w.nd rfl (by first|exact Or.inl rfl|exact Or.inr rfl) (pe_op op_mod (pe_op q2j (pv 2) (pe_op (q0w (K:=K) rfl) (pe_op op_fdiv (pv 2) pe_int) pe_int)) pe_int))
   (pss_one (ps_ret (pe_op op_mod (pe_op q2j (pv 2) (pe_op (q0w (K:=K) rfl) (pe_op (q0w (K:=K) rfl) (pe_op op_fdiv (pv 2) pe_int) pe_int) (pv 1))) pe_int)))))),
  q2h (np:=2) (N:=["_law_cell","_law_k","_law_number"]) (body:=b_l_mixed) (by unfold b_l_mixed;exact(q0m (q3m (z0e (q1x (q0i (j_I0 fun _ _=>q3i) q0b (q0i (j_I fun _ _=>q0c) (ei_c q0c) (ei_c q0c)))) (z0e (q1x (q0i j_eq (q0i (j_I fun _ _=>q0c) q0b (ei_c q0c)) (ei_c q0c))) (q1x (q0i (j_I0 fun _ _=>q3i) (q0i (j_I fun _ _=>q0c) q0b (q0i q2x (ei_c q0c) (q0i q5a (ei_c q0c) q0b))) (ei_c q0c))))) (q1o (q0i (j_I fun _ _=>q0c) (q0i (j_I fun _ _=>q0c) q0b (q0i q2x (ei_c q0c) (q0i q5a (ei_c q0c) q0b))) (ei_c q0c))) q1i)
   (q0m (q1y (q0i (j_I fun _ _=>q0c) (q0i q5a (q0i q2x (q0i q2x q0b (q0i q5a (ei_c q0c) q0b)) (ei_c q0c)) (ei_c q0c)) (ei_c q0c)))
   (q0m (q1y (q0i (j_I fun _ _=>q0c) (q0i q5a q0b (q0i q2x (q0i (j_I fun _ _=>q0c) q0b (ei_c q0c)) (ei_c q0c))) (ei_c q0c)))
   (q1o (q0i (j_I fun _ _=>q0c) (q0i q5a q0b (q0i q2x (q0i q2x (q0i (j_I fun _ _=>q0c) q0b (ei_c q0c)) (ei_c q0c)) q0b)) (ei_c q0c))))))) h⟩)
@[irreducible] noncomputable def b_law:Ms :=
 (mSeq (mFor (z0s (q0y (mCB (fI2 max) (q0y (mC (.int 4)) (q0y (mCB (fI2 min) (q0y (mCB fLen (q0y (q0d 0) aNil)) (q0y (mC (.int 24)) aNil))) aNil))) aNil)) (tgN 1) (mSeq (j1k (tgL 2 (q3g (tgN 2) (q3g (tgN 3) q8o))) (mLc [8] (z0s (q0y (mC (.int 2)) aNil)) (tgN 8) mYes (q2q q8d (q0f (mOp fAdd (q2q q5v (q0f (q0d 0) (q0f (q0d 1) vNil))) (mOp (fI (fun _ j=>0<j) fun i j=>.int (i%j)) (q0d 1) (mC (.int 5)))) (q0f (q0d 8) vNil)))))
 (mSeq (mAsg 4 (mI (mV (mOp fMul (mLst (q0f (mOp fAdd (mC (.int 1)) (mOp (fI (fun _ j=>0<j) fun i j=>.int (i%j)) (q0d 3) (mC (.int 9)))) vNil)) (mOp fAdd (mC (.int 1)) (mOp (fI (fun _ j=>0<j) fun i j=>.int (i%j)) (mOp (fI CDiv fun i j=>.int (i/j)) (q0d 3) (mC (.int 16))) (mC (.int 5))))))))
 (mSeq (mAsg 5 (mI (mV (q2q q9u (q0f (q0d 4) (q0f (mC (.int 1000)) (q0f (q0d 2) vNil)))))))
 (mSeq (mIfS (mBl (mOp fEq (mOp (fI (fun _ j=>0<j) fun i j=>.int (i%j)) (mOp (fI CDiv fun i j=>.int (i/j)) (q0d 2) (mC (.int 16384))) (mC (.int 4))) (mC (.int 1)))) (mAsg 5 (mI (mV (mOp fAdd (mOp fMul (mLst (q0f (mC (.int 200)) vNil)) (mC (.int 5))) (mLst (q0f (mOp fAdd (mC (.int 1)) (mOp (fI (fun _ j=>0<j) fun i j=>.int (i%j)) (q0d 3) (mC (.int 900)))) vNil)))))) q3h)
 (mSeq (mIfS (mNot (mTru (q2q q3d (q0f (q0d 5) (q0f (mOp fIxY (mLst (q0f (mLst vNil) (q0f (mC .non) (q0f (mLst (q0f (mTup (q0f (mC (.int 0)) (q0f (mC (.int 1)) vNil))) vNil)) (q0f (mC (.str (Str.ofString "paper"))) vNil))))) (mOp (fI (fun _ j=>0<j) fun i j=>.int (i%j)) (mOp (fI CDiv fun i j=>.int (i/j)) (q0d 3) (mC (.int 256))) (mC (.int 4)))) vNil))))) (mRet (mC (.bl false))) q3h)
 (mSeq (mAsg 6 (mI (mV (mOp fIxY (mLst (q0f (mLst (q0f (mC (.int 1)) (q0f (mC (.int 1)) (q0f (mC (.int 15)) vNil)))) (q0f (mOp fAdd (mOp fMul (mLst (q0f (mC (.int 2)) vNil)) (mC (.int 4))) (mLst (q0f (mOp fAdd (mC (.int 1)) (mOp (fI (fun _ j=>0<j) fun i j=>.int (i%j)) (q0d 3) (mC (.int 15)))) vNil))) (q0f (mLst (q0f (mC (.int 1)) (q0f (mC (.int 2)) (q0f (mC (.int 3)) (q0f (mC (.int 3)) (q0f (mC (.int 15)) vNil)))))) (q0f (mLst (q0f (mC (.int 15)) (q0f (mC (.int 1)) (q0f (mC (.int 1)) vNil)))) vNil))))) (mOp (fI (fun _ j=>0<j) fun i j=>.int (i%j)) (mOp (fI CDiv fun i j=>.int (i/j)) (q0d 3) (mC (.int 1024))) (mC (.int 4)))))))
 (mSeq (mIfS (mBl (mOp fEq (mOp (fI (fun _ j=>0<j) fun i j=>.int (i%j)) (mOp (fI CDiv fun i j=>.int (i/j)) (q0d 3) (mC (.int 4096))) (mC (.int 2))) (mC (.int 1)))) (mAsg 6 (mI (mV (q2q q9u (q0f (mOp fMul (mLst (q0f (mOp fAdd (mC (.int 2)) (mOp (fI (fun _ j=>0<j) fun i j=>.int (i%j)) (q0d 3) (mC (.int 3)))) vNil)) (mOp fAdd (mC (.int 1)) (mOp (fI (fun _ j=>0<j) fun i j=>.int (i%j)) (mOp (fI CDiv fun i j=>.int (i/j)) (q0d 3) (mC (.int 16))) (mC (.int 4))))) (q0f (mC (.int 15)) (q0f (q0d 2) vNil))))))) q3h)
 (mSeq (mIfS (mNot (mTru (q2q q2z (q0f (q0d 6) vNil)))) (mRet (mC (.bl false))) q3h)
 (mSeq (mIfS (mNot (mTru (mRef 2 1 z1f (q4b q2i (q0f (q0d 4) (q0f (mOp fMul (mLst (q0f (mC (.int 4)) vNil)) (mOp fAdd (mCB fLen (q0y (q0d 4) aNil)) (mC (.int 1)))) vNil)))))) (mRet (mC (.bl false))) q3h)
 (mIfS (mNot (mTru (mRef 2 1 z1f (q4b q2i (q0f (q0d 4) (q0f (mOp fAdd (mLst (q0f (mC (.int 0)) vNil)) (mOp fMul (mLst (q0f (mC (.int 3)) vNil)) (mOp (fI0 fun i j=>.int (i-j)) (mCB fLen (q0y (q0d 4) aNil)) (mC (.int 1))))) vNil)))))) (mRet (mC (.bl false))) q3h)))))))))))
 (mSeq (mIfS (mOr (mBl (mOp fNe (mCB fLen (q0y (q2q q3u (q0f (mOp fAdd (mOp fMul (mLst (q0f (mC (.int 15)) vNil)) (mC (.int 24))) (mOp fMul (mLst (q0f (mC (.int 16)) vNil)) (mC (.int 40)))) vNil)) aNil)) (mC (.int 63)))) (mBl (mOp fNe (q2q q2i (q0f (mLst (q0f (mC (.int 1000)) vNil)) (q0f (mLst (q0f (mC (.int 15)) vNil)) vNil))) (mC (.int 15000))))) (mRet (mC (.bl false))) q3h)
 (mSeq (mAsg 7 (mI (mV (mOp fAdd (mLc [1] (z0s (q0y (mC (.int 15)) aNil)) (tgN 1) mYes (mOp fAdd (mC (.int 1)) (q0d 1))) (mLst (q0f (mC (.int 15)) vNil))))))
 (mRet (z3i (mOp fEq (mOp fIxY (q2q q3k (q0f (mOp fMul (mLst (q0f (mC (.int 6)) vNil)) (mC (.int 64))) vNil)) (mC (.int 63))) (mTup (q0f (mC (.int 6)) (q0f (mC (.int 63)) vNil)))) (mOp fEq (mCB fLen (q0y (q2q q3k (q0f (q0d 7) vNil)) aNil)) (mC (.int 16))))))))
noncomputable def z5n:Mf:=mFn 1 9 b_law
theorem j4x {P:Program} {w:World} {K:PySem.W.Frag} {mg:Str→Option Value} {base:Heap} (T:Tx K mg) (B:TbB T base):FnOk P w K mg base CX0 10 T.a_law T.d_law ["_law_script"] (spM K (ctT T) z5n) :=
 T.L_law.ok q4f (fun vs H Q E h=>q2k h) (fun A outer s H vs Q E hr h=>⟨_,(pss_cons (ps_for PassesOwn.never rfl (pi_range1 rfl T.z_range (pa_cons (pe_callB (z4b rfl) (by rfl) T.z_max (by decide +kernel) (pa_cons pe_int (pa_cons (pe_callB (z3q rfl) (by rfl) T.z_min (by decide +kernel) (pa_cons (pe_callB (q0t (K:=K) rfl) (by rfl) T.z_len PySem.boot_len (pa_cons (pv 0) pa_nil)) (pa_cons pe_int pa_nil))) pa_nil))) pa_nil)) (pg_name (i:=1) q4f.nd rfl (by first|exact Or.inl rfl|exact Or.inr rfl)) (pss_cons (ps_asg (pe_lc (own:=[("_law_j",8)]) rfl q4f.nd (pi_range1 rfl T.z_range (pa_cons pe_int pa_nil)) (blkOk_by (N:=["_law_script","_law_k","_law_number","_law_more","_law_counts","_law_bad_here","_law_lengths","_law_full","_law_j"]) (sc:=defScope q6h) (by decide +kernel)) (fun _ _ _ _ _=>(pg_name (i:=8) q4f.nd rfl (by first|exact Or.inl rfl|exact Or.inr rfl))) (fun _ _ _ _ _=>pts_nil) (fun _ _ _ _ _=>(q1f (z3u T) (hr.mono (by decide)) (by rfl) T.g_l_mixed T.F_l_mixed.kp T.b_l_mixed pass0 (pa_cons (pe_op (q0w (K:=K) rfl) (q1f (z0m T) (hr.mono (by decide)) (by rfl) T.g_l_cell_at T.F_l_cell_at.kp T.b_l_cell_at pass0 (pa_cons (pv 0) (pa_cons (pv 1) pa_nil))) (pe_op op_mod (pv 1) pe_int)) (pa_cons (pv 8) pa_nil))))) (j3a (K:=K) (n:=2) rfl rfl (pgs_cons (pg_name (i:=2) q4f.nd rfl (by first|exact Or.inl rfl|exact Or.inr rfl)) (pgs_cons (pg_name (i:=3) q4f.nd rfl (by first|exact Or.inl rfl|exact Or.inr rfl)) pgs_nil))))
   (pss_cons (ps_set (i:=4) q4f.nd rfl (by first|exact Or.inl rfl|exact Or.inr rfl) (pe_op q2j (pe_lst (pa_cons (pe_op (q0w (K:=K) rfl) pe_int (pe_op op_mod (pv 3) pe_int)) pa_nil)) (pe_op (q0w (K:=K) rfl) pe_int (pe_op op_mod (pe_op op_fdiv (pv 3) pe_int) pe_int))))
   (pss_cons (ps_set (i:=5) q4f.nd rfl (by first|exact Or.inl rfl|exact Or.inr rfl) (q1f (z2n T) (hr.mono (by decide)) (by rfl) T.g_l_bad T.F_l_bad.kp T.b_l_bad pass0 (pa_cons (pv 4) (pa_cons pe_int (pa_cons (pv 2) pa_nil)))))
   (pss_cons (ps_if (pt_cmpR (q5i (K:=K) rfl hr.units) (pe_op op_mod (pe_op op_fdiv (pv 2) pe_int) pe_int) pe_int (nomark _)) (pss_one (ps_set (i:=5) q4f.nd rfl (by first|exact Or.inl rfl|exact Or.inr rfl) (pe_op (q0w (K:=K) rfl) (pe_op q2j (pe_lst (pa_cons pe_int pa_nil)) pe_int) (pe_lst (pa_cons (pe_op (q0w (K:=K) rfl) pe_int (pe_op op_mod (pv 3) pe_int)) pa_nil))))) pss_nil)
   (pss_cons (ps_if (pt_not (q2g (K:=K) rfl (q1f (q5x T B) (hr.mono (by decide)) (by rfl) T.g_l_counts_refused T.F_l_counts_refused.kp T.b_l_counts_refused pass0 (pa_cons (pv 5) (pa_cons (pe_ix (ix_Y (K:=K) rfl (hu_of hr)) (pe_lst (pa_cons (pe_lst pa_nil) (pa_cons pe_non (pa_cons (pe_lst (pa_cons (pe_tup (pa_cons pe_int (pa_cons pe_int pa_nil))) pa_nil)) (pa_cons pe_str pa_nil))))) (pe_op op_mod (pe_op op_fdiv (pv 3) pe_int) pe_int) (fun _ _=>rfl)) pa_nil))) (by intro _;rfl))) (pss_one (ps_ret pe_bl)) pss_nil)
   (pss_cons (ps_set (i:=6) q4f.nd rfl (by first|exact Or.inl rfl|exact Or.inr rfl) (pe_ix (ix_Y (K:=K) rfl (hu_of hr)) (pe_lst (pa_cons (pe_lst (pa_cons pe_int (pa_cons pe_int (pa_cons pe_int pa_nil)))) (pa_cons (pe_op (q0w (K:=K) rfl) (pe_op q2j (pe_lst (pa_cons pe_int pa_nil)) pe_int) (pe_lst (pa_cons (pe_op (q0w (K:=K) rfl) pe_int (pe_op op_mod (pv 3) pe_int)) pa_nil))) (pa_cons (pe_lst (pa_cons pe_int (pa_cons pe_int (pa_cons pe_int (pa_cons pe_int (pa_cons pe_int pa_nil)))))) (pa_cons (pe_lst (pa_cons pe_int (pa_cons pe_int (pa_cons pe_int pa_nil)))) pa_nil))))) (pe_op op_mod (pe_op op_fdiv (pv 3) pe_int) pe_int) (fun _ _=>rfl)))
   (pss_cons (ps_if (pt_cmpR (q5i (K:=K) rfl hr.units) (pe_op op_mod (pe_op op_fdiv (pv 3) pe_int) pe_int) pe_int (nomark _)) (pss_one (ps_set (i:=6) q4f.nd rfl (by first|exact Or.inl rfl|exact Or.inr rfl) (q1f (z2n T) (hr.mono (by decide)) (by rfl) T.g_l_bad T.F_l_bad.kp T.b_l_bad pass0 (pa_cons (pe_op q2j (pe_lst (pa_cons (pe_op (q0w (K:=K) rfl) pe_int (pe_op op_mod (pv 3) pe_int)) pa_nil)) (pe_op (q0w (K:=K) rfl) pe_int (pe_op op_mod (pe_op op_fdiv (pv 3) pe_int) pe_int))) (pa_cons pe_int (pa_cons (pv 2) pa_nil)))))) pss_nil)
   (pss_cons (ps_if (pt_not (q2g (K:=K) rfl (q1f (q5m T B) (hr.mono (by decide)) (by rfl) T.g_l_lengths_refused T.F_l_lengths_refused.kp T.b_l_lengths_refused pass0 (pa_cons (pv 6) pa_nil)) (by intro _;rfl))) (pss_one (ps_ret pe_bl)) pss_nil)
   (pss_cons (ps_if (pt_not (q2g (K:=K) rfl (q4i (K:=K) (k:=7) (P:=T.tp_law) (Ng:=["_law_deed","_law_found","e"]) rfl T.F_l_refused (by rfl) T.g_l_refused T.b_l_refused q0z rfl (.inl rfl) (fun cdv=>q0v T rfl rfl cdv) rfl B.2.2 rfl (hr.mono (by decide)) (LamX.lamS_by (sc:=defScope q6h) (by decide +kernel)) rfl (fun _ _ _ _ _=>rfl) (fun A outer s H E f c' hr=>(pe_callS (q4m T) (hr.mono (by decide)) (by rfl) T.g_bits_of T.F_bits_of.kp T.b_bits_of (fun σ=>passAt (takes_of rfl rfl rfl rfl) σ) (pa_cons (pv 4) (pa_cons (pe_op q2j (pe_lst (pa_cons pe_int pa_nil)) (pe_op (q0w (K:=K) rfl) (pe_callB (q0t (K:=K) rfl) (by rfl) T.z_len PySem.boot_len (pa_cons (pv 4) pa_nil)) pe_int)) pa_nil))))) (by intro _;rfl))) (pss_one (ps_ret pe_bl)) pss_nil)
   (pss_one (ps_if (pt_not (q2g (K:=K) rfl (q4i (K:=K) (k:=7) (P:=T.tp_law) (Ng:=["_law_deed","_law_found","e"]) rfl T.F_l_refused (by rfl) T.g_l_refused T.b_l_refused q0z rfl (.inl rfl) (fun cdv=>q0v T rfl rfl cdv) rfl B.2.2 rfl (hr.mono (by decide)) (LamX.lamS_by (sc:=defScope q6h) (by decide +kernel)) rfl (fun _ _ _ _ _=>rfl) (fun A outer s H E f c' hr=>(pe_callS (q4m T) (hr.mono (by decide)) (by rfl) T.g_bits_of T.F_bits_of.kp T.b_bits_of (fun σ=>passAt (takes_of rfl rfl rfl rfl) σ) (pa_cons (pv 4) (pa_cons (pe_op (q0w (K:=K) rfl) (pe_lst (pa_cons pe_int pa_nil)) (pe_op q2j (pe_lst (pa_cons pe_int pa_nil)) (pe_op op_sub (pe_callB (q0t (K:=K) rfl) (by rfl) T.z_len PySem.boot_len (pa_cons (pv 4) pa_nil)) pe_int))) pa_nil))))) (by intro _;rfl))) (pss_one (ps_ret pe_bl)) pss_nil))))))))))))
   (pss_cons (ps_if (PW.pt (pw_or (pt_cmpR (z0o (K:=K) rfl hr.units) (pe_callB (q0t (K:=K) rfl) (by rfl) T.z_len PySem.boot_len (pa_cons (q1f (q5t T) (hr.mono (by decide)) (by rfl) T.g_pairs_of T.F_pairs_of.kp T.b_pairs_of passL (pa_cons (pe_op (q0w (K:=K) rfl) (pe_op q2j (pe_lst (pa_cons pe_int pa_nil)) pe_int) (pe_op q2j (pe_lst (pa_cons pe_int pa_nil)) pe_int)) pa_nil)) pa_nil)) pe_int (nomark _)) (pw_or1 (pt_cmpR (z0o (K:=K) rfl hr.units) (q1f (q4m T) (hr.mono (by decide)) (by rfl) T.g_bits_of T.F_bits_of.kp T.b_bits_of passL (pa_cons (pe_lst (pa_cons pe_int pa_nil)) (pa_cons (pe_lst (pa_cons pe_int pa_nil)) pa_nil))) pe_int (nomark _))))) (pss_one (ps_ret pe_bl)) pss_nil)
   (pss_cons (ps_set (i:=7) q4f.nd rfl (by first|exact Or.inl rfl|exact Or.inr rfl) (pe_op (q0w (K:=K) rfl) (pe_lc (own:=[("_law_k",1)]) rfl q4f.nd (pi_range1 rfl T.z_range (pa_cons pe_int pa_nil)) (blkOk_by (N:=["_law_script","_law_k","_law_number","_law_more","_law_counts","_law_bad_here","_law_lengths","_law_full","_law_j"]) (sc:=defScope q6h) (by decide +kernel)) (fun _ _ _ _ _=>(pg_name (i:=1) q4f.nd rfl (by first|exact Or.inl rfl|exact Or.inr rfl))) (fun _ _ _ _ _=>pts_nil) (fun _ _ _ _ _=>(pe_op (q0w (K:=K) rfl) pe_int (pv 1)))) (pe_lst (pa_cons pe_int pa_nil))))
   (pss_one (ps_ret (pe_and (pe_cmpR (q5i (K:=K) rfl hr.units) (pe_ix (ix_Y (K:=K) rfl (hu_of hr)) (q1f (q4n T) (hr.mono (by decide)) (by rfl) T.g_words_of T.F_words_of.kp T.b_words_of passL (pa_cons (pe_op q2j (pe_lst (pa_cons pe_int pa_nil)) pe_int) pa_nil)) pe_int (fun _ _=>rfl)) (pe_tup (pa_cons pe_int (pa_cons pe_int pa_nil))) (nomark _)) (pe_one (pe_cmpR (q5i (K:=K) rfl hr.units) (pe_callB (q0t (K:=K) rfl) (by rfl) T.z_len PySem.boot_len (pa_cons (q1f (q4n T) (hr.mono (by decide)) (by rfl) T.g_words_of T.F_words_of.kp T.b_words_of passL (pa_cons (pv 7) pa_nil)) pa_nil)) pe_int (nomark _))))))))),
  q2h (np:=1) (N:=["_law_script","_law_k","_law_number","_law_more","_law_counts","_law_bad_here","_law_lengths","_law_full","_law_j"]) (body:=b_law) (by unfold b_law;exact(q0m (q6l (q6s (q0j (q1z j2p (q0j (ei_c q0c) (q0j (q1z j2m (q0j (q1z q2r (q0j q0b q0r)) (q0j (ei_c q0c) q0r))) q0r))) q0r)) q0x (q0m (j4q (j7z (q1u q0x (q1u q0x q4o))) (q8m (ws:=[8]) (q6s (q0j (ei_c q0c) q0r)) q0x (by decide) q5p (q1k (q0a (q0i q2x (q1k (q0a q0b (q0a q0b q0h))) (q0i (j_I fun _ _=>q0c) q0b (ei_c q0c))) (q0a q0b q0h)))))
   (q0m (q1y (z1g (q4k (q0i q5a (q1b (q0a (q0i q2x (ei_c q0c) (q0i (j_I fun _ _=>q0c) q0b (ei_c q0c))) q0h)) (q0i q2x (ei_c q0c) (q0i (j_I fun _ _=>q0c) (q0i (j_I fun _ _=>q0c) q0b (ei_c q0c)) (ei_c q0c)))))))
   (q0m (q1y (z1g (q4k (q1k (q0a q0b (q0a (ei_c q0c) (q0a q0b q0h)))))))
   (q0m (q3m (q1x (q0i j_eq (q0i (j_I fun _ _=>q0c) (q0i (j_I fun _ _=>q0c) q0b (ei_c q0c)) (ei_c q0c)) (ei_c q0c))) (q1y (z1g (q4k (q0i q2x (q0i q5a (q1b (q0a (ei_c q0c) q0h)) (ei_c q0c)) (q1b (q0a (q0i q2x (ei_c q0c) (q0i (j_I fun _ _=>q0c) q0b (ei_c q0c))) q0h)))))) q1i)
   (q0m (q3m (q4t (q5h (q1k (q0a q0b (q0a (q0i q5c (q1b (q0a (q1b q0h) (q0a (ei_c q8t) (q0a (q1b (q0a (q4z (q0a (ei_c q0c) (q0a (ei_c q0c) q0h))) q0h)) (q0a (ei_c q8i) q0h))))) (q0i (j_I fun _ _=>q0c) (q0i (j_I fun _ _=>q0c) q0b (ei_c q0c)) (ei_c q0c))) q0h))))) (q1o (ei_c q3i)) q1i)
   (q0m (q1y (z1g (q4k (q0i q5c (q1b (q0a (q1b (q0a (ei_c q0c) (q0a (ei_c q0c) (q0a (ei_c q0c) q0h)))) (q0a (q0i q2x (q0i q5a (q1b (q0a (ei_c q0c) q0h)) (ei_c q0c)) (q1b (q0a (q0i q2x (ei_c q0c) (q0i (j_I fun _ _=>q0c) q0b (ei_c q0c))) q0h))) (q0a (q1b (q0a (ei_c q0c) (q0a (ei_c q0c) (q0a (ei_c q0c) (q0a (ei_c q0c) (q0a (ei_c q0c) q0h)))))) (q0a (q1b (q0a (ei_c q0c) (q0a (ei_c q0c) (q0a (ei_c q0c) q0h)))) q0h))))) (q0i (j_I fun _ _=>q0c) (q0i (j_I fun _ _=>q0c) q0b (ei_c q0c)) (ei_c q0c))))))
   (q0m (q3m (q1x (q0i j_eq (q0i (j_I fun _ _=>q0c) (q0i (j_I fun _ _=>q0c) q0b (ei_c q0c)) (ei_c q0c)) (ei_c q0c))) (q1y (z1g (q4k (q1k (q0a (q0i q5a (q1b (q0a (q0i q2x (ei_c q0c) (q0i (j_I fun _ _=>q0c) q0b (ei_c q0c))) q0h)) (q0i q2x (ei_c q0c) (q0i (j_I fun _ _=>q0c) (q0i (j_I fun _ _=>q0c) q0b (ei_c q0c)) (ei_c q0c)))) (q0a (ei_c q0c) (q0a q0b q0h))))))) q1i)
   (q0m (q3m (q4t (q5h (q1k (q0a q0b q0h)))) (q1o (ei_c q3i)) q1i)
   (q0m (q3m (q4t (q5h (q5s (k:=2) (c:=1) (fun E=>(q1j (q0a q0b (q0a (q0i q5a (q1b (q0a (ei_c q0c) q0h)) (q0i q2x (q1z q2r (q0j q0b q0r)) (ei_c q0c))) q0h)))) T.xc_BadTable T.e_BadTable_ShelfError T.q_BadTable_BadTable T.q_BadTable_ValueError T.q_BadTable_BadPaper))) (q1o (ei_c q3i)) q1i)
   (q3m (q4t (q5h (q5s (k:=2) (c:=1) (fun E=>(q1j (q0a q0b (q0a (q0i q2x (q1b (q0a (ei_c q0c) q0h)) (q0i q5a (q1b (q0a (ei_c q0c) q0h)) (q0i (j_I0 fun _ _=>q0c) (q1z q2r (q0j q0b q0r)) (ei_c q0c)))) q0h)))) T.xc_BadTable T.e_BadTable_ShelfError T.q_BadTable_BadTable T.q_BadTable_ValueError T.q_BadTable_BadPaper))) (q1o (ei_c q3i)) q1i)))))))))))
   (q0m (q3m (z3y (q1x (q0i j_ne (q1z q2r (q0j (q1k (q0a (q0i q2x (q0i q5a (q1b (q0a (ei_c q0c) q0h)) (ei_c q0c)) (q0i q5a (q1b (q0a (ei_c q0c) q0h)) (ei_c q0c))) q0h)) q0r)) (ei_c q0c))) (q1x (q0i j_ne (q1k (q0a (q1b (q0a (ei_c q0c) q0h)) (q0a (q1b (q0a (ei_c q0c) q0h)) q0h))) (ei_c q0c)))) (q1o (ei_c q3i)) q1i)
   (q0m (q1y (z1g (q4k (q0i q2x (q8m (ws:=[1]) (q6s (q0j (ei_c q0c) q0r)) q0x (by decide) q5p (q0i q2x (ei_c q0c) q0b)) (q1b (q0a (ei_c q0c) q0h))))))
   (q1o (q9s (q0i j_eq (q0i q5c (q1k (q0a (q0i q5a (q1b (q0a (ei_c q0c) q0h)) (ei_c q0c)) q0h)) (ei_c q0c)) (q4z (q0a (ei_c q0c) (q0a (ei_c q0c) q0h)))) (q0i j_eq (q1z q2r (q0j (q1k (q0a q0b q0h)) q0r)) (ei_c q0c)))))))) h⟩)
abbrev Pt:=Int×Int
def dD (ps:List Pt):List (Key×D):=ps.map fun p=>(Sum.inl p.1,D.int p.2)
def vlP (ps:List Pt) (k:Int):Option Int:=(ps.find? fun p=>decide (p.1=k)).map (·.2)
def drP (ps:List Pt) (k:Int):List Pt:=ps.filter fun p=>decide (p.1≠k)
theorem z5o (a b:Int):decide ((Sum.inl a:Key)=Sum.inl b)=decide (a=b):=by
 by_cases h:a=b
 ·subst h;rw[decide_eq_true rfl,decide_eq_true rfl]
 ·rw[decide_eq_false h,decide_eq_false (fun q=>h (Sum.inl.inj q))]
theorem j5m (ps:List Pt) (k:Int):vl (dD ps) (.inl k)=(vlP ps k).map D.int:=by
 unfold vl dD vlP
 induction ps with
 | nil=>rfl
 | cons p ps ih =>
  rw[List.map_cons,List.find?_cons,List.find?_cons,z5o]
  by_cases h:p.1=k
  ·rw[decide_eq_true h];rfl
  ·rw[decide_eq_false h];exact ih
theorem j8l (ps:List Pt) (k:Int):dr (dD ps) (.inl k)=dD (drP ps k):=by
 unfold dr dD drP
 rw[List.filter_map]
 congr 1
 refine List.filter_congr fun p _=>?_
 show decide ((Sum.inl p.1:Key)≠Sum.inl k)=decide (p.1≠k)
 have:=z5o p.1 k
 rw[show decide ((Sum.inl p.1:Key)≠Sum.inl k) = !decide ((Sum.inl p.1:Key)=Sum.inl k) from by simp,this];simp
theorem z9v {ps:List Pt} {k w:Int} (h:∀p∈ps,p.1≠k):pu (dD ps) (.inl k) (.int w)=dD (ps++[(k,w)]):=by
 unfold pu
 rw[if_neg]
 ·unfold dD;rw[List.map_append];rfl
 ·intro q
  rw[List.any_eq_true] at q
  obtain⟨x,hx,hq⟩:=q
  obtain⟨p,hp,rfl⟩:=List.mem_map.mp hx
  exact h p hp (Sum.inl.inj (of_decide_eq_true hq))
theorem z2z (ps:List Pt):(dD ps).length=ps.length:=List.length_map ..
/-- each number once -/
def Nd (ps:List Pt):Prop:=(ps.map Prod.fst).Nodup
theorem z1k:∀{ps:List Pt} {p:Pt},Nd ps→p∈ps→vlP ps p.1=some p.2
 | q::ps,p,hn,hp=>by
  unfold vlP
  rw[List.find?_cons]
  have hn:(q.1::ps.map Prod.fst).Nodup:=hn
  rcases List.mem_cons.mp hp with rfl|hp
  ·rw[decide_eq_true rfl];rfl
  ·have hne:q.1≠p.1:=fun z=>by
    have:=(List.nodup_cons.mp hn).1
    exact this (z▸List.mem_map_of_mem hp)
   rw[decide_eq_false hne]
   exact z1k (List.nodup_cons.mp hn).2 hp
theorem q8f {ps:List Pt} {k:Int} (h:Nd ps):Nd (drP ps k):=h.sublist (List.filter_sublist.map _)
theorem q4v {ps:List Pt} {k:Int} {p:Pt}:p∈drP ps k↔p∈ps∧p.1≠k:=by
 unfold drP;rw[List.mem_filter,decide_eq_true_eq]
theorem q5u:∀{ps:List Pt} {p:Pt},Nd ps→p∈ps→(drP ps p.1).length+1=ps.length
 | q::ps,p,hn,hp=>by
  have hn:(q.1::ps.map Prod.fst).Nodup:=hn
  obtain⟨h1,h2⟩:=List.nodup_cons.mp hn
  unfold drP
  rw[List.filter_cons]
  rcases List.mem_cons.mp hp with rfl|hp
  ·rw[if_neg (by simp),List.length_cons]
   rw[List.filter_eq_self.mpr (fun x hx=>decide_eq_true (fun(z:x.1=_)=>h1 (by have:=List.mem_map_of_mem (f:=Prod.fst) hx;rw[z] at this;exact this)))]
  ·have hne:q.1≠p.1:=fun z=>h1 (z▸List.mem_map_of_mem hp)
   rw[if_pos (decide_eq_true hne),List.length_cons,List.length_cons]
   have:=q5u h2 hp
   unfold drP at this
   omega
abbrev sw (p:Pt):Pt:=(p.2,p.1)
def least:List Pt→Pt
 | []=>(0,0)
 | p::ps=>sw (minP (sw p) (ps.map sw))
theorem z2k:∀(ps:List Pt) (p:Pt),minP p ps∈p::ps
 | [],p=>List.mem_singleton.mpr rfl
 | y::ps,p=>by
  show minP (if Y.ltP y p=true then y else p) ps∈_
  have:=z2k ps (if Y.ltP y p=true then y else p)
  rcases List.mem_cons.mp this with h|h
  ·rw[h];split
   ·exact List.mem_cons_of_mem _ (List.mem_cons_self ..)
   ·exact List.mem_cons_self ..
  ·exact List.mem_cons_of_mem _ (List.mem_cons_of_mem _ h)
theorem z0h {ps:List Pt} (h:ps≠[]):least ps∈ps:=by
 cases ps with
 | nil=>exact absurd rfl h
 | cons p ps =>
  have:=z2k (ps.map sw) (sw p)
  have h2:minP (sw p) (ps.map sw)∈(p::ps).map sw:=this
  obtain⟨q,hq,e⟩:=List.mem_map.mp h2
  show sw (minP (sw p) (ps.map sw))∈_
  rw[←e];exact hq
def one (ps:List Pt):Pt:=least ps
def oth (ps:List Pt):Pt:=least (drP ps (one ps).1)
def rst (ps:List Pt):List Pt:=drP (drP ps (one ps).1) (oth ps).1
def nxt (n:Int) (ps:List Pt):List Pt:=rst ps++[(n,(one ps).2+(oth ps).2)]
theorem q9h {ps:List Pt} (h:1<ps.length):one ps∈ps:=z0h (fun z=>by subst z;simp at h)
theorem z1z {ps:List Pt} (hn:Nd ps) (h:1<ps.length):oth ps∈drP ps (one ps).1:=z0h (fun z=>by
 have:=q5u hn (q9h h)
 rw[z] at this;simp at this;omega)
theorem j5r {ps:List Pt} (hn:Nd ps) (h:1<ps.length):oth ps∈ps:=(q4v.mp (z1z hn h)).1
theorem z4q {ps:List Pt} (hn:Nd ps) (h:1<ps.length):(rst ps).length+2=ps.length:=by
 have h1:=q5u hn (q9h h)
 have h2:=q5u (q8f hn) (z1z hn h)
 unfold rst
 omega
/-- behind k turns -/
def stF (n:Int) (ps:List Pt):Nat→List Pt
 | 0=>ps
 | k+1=>nxt (n+k) (stF n ps k)
structure Pk (n:Int) (k:Nat) (ps:List Pt):Prop where
 nd:Nd ps
 lt:∀p∈ps,p.1<n+k
 ge:∀p∈ps,0≤p.2
theorem Pk.next {n:Int} {k:Nat} {ps:List Pt} (h:Pk n k ps) (hl:1<ps.length):Pk n (k+1) (nxt (n+k) ps):=by
 have hr:∀p∈rst ps,p∈ps:=fun p hp=>(q4v.mp (q4v.mp hp).1).1
 have w1:=h.ge _ (q9h hl)
 have w2:=h.ge _ (j5r h.nd hl)
 refine⟨?_,fun p hp=>?_,fun p hp=>?_⟩
 ·show((rst ps++[(n+k,_)]).map Prod.fst).Nodup
  rw[List.map_append,List.nodup_append]
  refine⟨q8f (q8f h.nd),by simp,fun a ha b hb=>?_⟩
  obtain⟨p,hp,rfl⟩:=List.mem_map.mp ha
  simp at hb
  subst hb
  have:=h.lt p (hr p hp)
  omega
 ·rcases List.mem_append.mp hp with hp|hp
  ·have:=h.lt p (hr p hp);push_cast;omega
  ·simp at hp;subst hp;show n+k<n+((k+1:Nat):Int);push_cast;omega
 ·rcases List.mem_append.mp hp with hp|hp
  ·exact h.ge p (hr p hp)
  ·simp at hp;subst hp;show 0≤(one ps).2+(oth ps).2;omega
theorem z4x {n:Int} {ps:List Pt} (h:Pk n 0 ps):∀k,k+1≤ps.length→Pk n k (stF n ps k)∧(stF n ps k).length+k=ps.length
 | 0,_=>⟨h,rfl⟩
 | k+1,hk=>by
  obtain⟨h1,h2⟩:=z4x h k (by omega)
  have hl:1<(stF n ps k).length:=by omega
  refine⟨h1.next hl,?_⟩
  show(rst (stF n ps k)++[_]).length+(k+1)=_
  rw[List.length_append]
  have:=z4q h1.nd hl
  show(rst (stF n ps k)).length+1+(k+1)=_
  omega
def q7p (n:Int) (ps:List Pt) (k:Nat):Pt:=((one (stF n ps k)).1,(oth (stF n ps k)).1)
def paper (n:Int) (ps:List Pt):List Pt:=(List.range (ps.length-1)).map (q7p n ps)
/-- the first parts of counts -/
def fpF (k:Int):List Int→List Pt
 | []=>[]
 | c::cs=>if 0<c then(k,c)::fpF (k+1) cs else fpF (k+1) cs
theorem q6z:∀{cs:List Int} {k:Int} {p:Pt},p∈fpF k cs→k≤p.1∧p.1<k+cs.length∧0<p.2
 | [],_,_,h=>by cases h
 | c::cs,k,p,h=>by
  unfold fpF at h
  rw[List.length_cons]
  split at h
  ·rename_i hc
   rcases List.mem_cons.mp h with rfl|h
   ·exact⟨Int.le_refl _,by push_cast;show k<k+(_+1);omega,hc⟩
   ·have:=q6z h;push_cast;omega
  ·have:=q6z h;push_cast;omega
theorem z4j:∀(cs:List Int) (k:Int),Nd (fpF k cs)
 | [],_=>List.nodup_nil
 | c::cs,k=>by
  unfold fpF
  split
  ·refine List.nodup_cons.mpr ⟨fun h=>?_,z4j cs (k+1)⟩
   obtain⟨p,hp,e⟩:=List.mem_map.mp h
   have:=(q6z hp).1
   have e:p.1=k:=e
   omega
  ·exact z4j cs (k+1)
theorem j4y (cs:List Int):Pk (cs.length:Int) 0 (fpF 0 cs):=⟨z4j cs 0,fun p h=>by have:=q6z h;push_cast;omega,fun p h=>by have:=q6z h;omega⟩
theorem z1n:∀(cs:List Int) (k:Int),(fpF k cs).length≤cs.length
 | [],_=>Nat.le_refl _
 | c::cs,k=>by
  unfold fpF
  have:=z1n cs (k+1)
  split
  ·rw[List.length_cons,List.length_cons];omega
  ·rw[List.length_cons];omega
theorem z3c:∀(cs:List Int) (k c:Int),fpF k (cs++[c])=fpF k cs++(if 0<c then[(k+cs.length,c)] else[])
 | [],k,c=>by
  show(if 0<c then(k,c)::fpF (k+1) [] else fpF (k+1) [])=[]++_
  split
  ·show[(k,c)]=[]++[(k+((0:Nat):Int),c)];simp
  ·rfl
 | x::cs,k,c=>by
  show(if 0<x then(k,x)::fpF (k+1) (cs++[c]) else fpF (k+1) (cs++[c]))=(if 0<x then(k,x)::fpF (k+1) cs else fpF (k+1) cs)++_
  rw[z3c cs (k+1) c,List.length_cons]
  rw[show k+((cs.length+1:Nat):Int)=k+1+(cs.length:Int) by push_cast;omega]
  split<;>simp
theorem z1o:∀ps:List Pt,D.noIdK (dD ps)=true
 | []=>rfl
 | p::ps=>by show(true&&D.noIdK (dD ps))=true;rw[z1o ps];rfl
structure Cts (cs:List Int):Prop where
 pos:1≤cs.length
 few:cs.length≤64
 bd:∀c∈cs,0≤c∧c≤1000
 sum:cs.sum≤1000
def wt (ps:List Pt) (k:Int):Int:=(vlP ps k).getD 0
def z4f (n:Int) (ps:List Pt) (q:Pt):List Pt:=drP (drP ps q.1) q.2++[(n,wt ps q.1+wt ps q.2)]
structure OkS (ps:List Pt) (q:Pt):Prop where
 ne:q.1≠q.2
 m1:(q.1,wt ps q.1)∈ps
 m2:(q.2,wt ps q.2)∈ps
 le:∀r∈drP (drP ps q.1) q.2,wt ps q.1≤r.2∧wt ps q.2≤r.2
def stP (n:Int) (ps qs:List Pt):Nat→List Pt
 | 0=>ps
 | k+1=>z4f (n+k) (stP n ps qs k) (qs.getD k (0,0))
def Gd (n:Int) (ps qs:List Pt):Prop:=∀k,k<qs.length→OkS (stP n ps qs k) (qs.getD k (0,0))
theorem OkS.in1 {ps:List Pt} {q:Pt} (h:OkS ps q):(q.2,wt ps q.2)∈drP ps q.1:=q4v.mpr ⟨h.m2,fun z=>h.ne z.symm⟩
theorem OkS.len {ps:List Pt} {q:Pt} (h:OkS ps q) (hn:Nd ps):(drP (drP ps q.1) q.2).length+2=ps.length:=by
 have h1:(drP ps q.1).length+1=ps.length:=q5u (p:=(q.1,wt ps q.1)) hn h.m1
 have h2:(drP (drP ps q.1) q.2).length+1=(drP ps q.1).length:=q5u (p:=(q.2,wt ps q.2)) (q8f hn) h.in1
 omega
theorem Pk.step {n:Int} {k:Nat} {ps:List Pt} {q:Pt} (h:Pk n k ps) (hs:OkS ps q):Pk n (k+1) (z4f (n+k) ps q)∧(z4f (n+k) ps q).length+1=ps.length:=by
 have hr:∀p∈drP (drP ps q.1) q.2,p∈ps:=fun p hp=>(q4v.mp (q4v.mp hp).1).1
 have w1:0≤wt ps q.1:=h.ge _ hs.m1
 have w2:0≤wt ps q.2:=h.ge _ hs.m2
 refine⟨⟨?_,fun p hp=>?_,fun p hp=>?_⟩,?_⟩
 ·show((drP (drP ps q.1) q.2++[(n+k,_)]).map Prod.fst).Nodup
  rw[List.map_append,List.nodup_append]
  refine⟨q8f (q8f h.nd),by simp,fun a ha b hb=>?_⟩
  obtain⟨p,hp,rfl⟩:=List.mem_map.mp ha
  simp at hb
  subst hb
  have:=h.lt p (hr p hp)
  omega
 ·rcases List.mem_append.mp hp with hp|hp
  ·have:=h.lt p (hr p hp);push_cast;omega
  ·simp at hp;subst hp;show n+k<n+((k+1:Nat):Int);push_cast;omega
 ·rcases List.mem_append.mp hp with hp|hp
  ·exact h.ge p (hr p hp)
  ·simp at hp;subst hp;show 0≤wt ps q.1+wt ps q.2;omega
 ·unfold z4f;rw[List.length_append];have:=hs.len h.nd;show _+1+1=_;omega
theorem z7a {n:Int} {ps qs rs:List Pt}:∀k,k≤qs.length→stP n ps (qs++rs) k=stP n ps qs k
 | 0,_=>rfl
 | k+1,hk=>by
  show z4f _ (stP n ps (qs++rs) k) _=z4f _ (stP n ps qs k) _
  rw[z7a k (by omega),List.getD_eq_getElem?_getD,List.getD_eq_getElem?_getD,List.getElem?_append_left (by omega)]
theorem Gd.take {n:Int} {ps qs:List Pt} (h:Gd n ps qs) (j:Nat):Gd n ps (qs.take j)∧(∀k,k≤j→k≤qs.length→stP n ps (qs.take j) k=stP n ps qs k):=by
 have e:∀k,k≤j→k≤qs.length→stP n ps (qs.take j) k=stP n ps qs k:=fun k hk hl=>by
  conv=>rhs;rw[←List.take_append_drop j qs]
  rw[z7a];rw[List.length_take];omega
 refine⟨fun k hk=>?_,e⟩
 rw[List.length_take] at hk
 rw[e k (by omega) (by omega),List.getD_eq_getElem?_getD,List.getElem?_take,if_pos (by omega),←List.getD_eq_getElem?_getD]
 exact h k (by omega)
theorem z8a {l m:List Int} (h:l.Perm m):l.sum=m.sum:=by
 induction h with
 | nil=>rfl
 | cons x _ ih=>rw[List.sum_cons,List.sum_cons,ih]
 | swap x y l=>rw[List.sum_cons,List.sum_cons,List.sum_cons,List.sum_cons];omega
 | trans _ _ h1 h2=>exact h1.trans h2
theorem z5l (n:Int) (ps:List Pt):(paper n ps).length=ps.length-1:=by unfold paper;rw[List.length_map,List.length_range]
def rmL (ls:List Int):Int:=((ls.filter fun l=>decide (0<l)).map fun l=>(2:Int)^(15-l).toNat).sum
def dotL:List Int→List Int→Int
 | c::cs,l::ls=>c*l+dotL cs ls
 | _,_=>0
def tw (p:Pt):Int:=(2:Int)^(15-p.1).toNat
def sumQ (P:List Pt) (c:Pt→Bool):Int:=(P.map fun p=>if 0<p.1∧c p=true then tw p else 0).sum
theorem j8x (p:Pt):0<tw p:=Int.pow_pos (by decide)
theorem q5f (p:Pt) (P:List Pt) (c:Pt→Bool):sumQ (p::P) c=(if 0<p.1∧c p=true then tw p else 0)+sumQ P c:=by unfold sumQ;rw[List.map_cons,List.sum_cons]
theorem q9p (P Q:List Pt) (c:Pt→Bool):sumQ (P++Q) c=sumQ P c+sumQ Q c:=by unfold sumQ;rw[List.map_append,List.sum_append]
theorem z0l {P Q:List Pt} (h:P.Perm Q) (c:Pt→Bool):sumQ P c=sumQ Q c:=z8a (h.map _)
theorem z5g:∀(P:List Pt) (c:Pt→Bool),0≤sumQ P c
 | [],_=>Int.le_refl _
 | p::P,c=>by
  rw[q5f]
  have:=z5g P c
  have:=j8x p
  split<;>omega
theorem z4a {P:List Pt} {c d:Pt→Bool} (h:∀p∈P,c p=d p):sumQ P c=sumQ P d:=by
 unfold sumQ
 congr 1
 exact List.map_congr_left fun p hp=>by rw[h p hp]
theorem z4u {P:List Pt} {c:Pt→Bool} (h:∀p∈P,c p=false):sumQ P c=0:=by
 induction P with
 | nil=>rfl
 | cons p P ih =>
  rw[q5f,ih fun x hx=>h x (List.mem_cons_of_mem _ hx),h p (List.mem_cons_self ..),if_neg (fun z=>by cases z.2)];rfl
theorem z2d {m:Int} (hm:m≤15):∀{P:List Pt} {c:Pt→Bool},(∀p∈P,c p=true→0<p.1→p.1≤m)→∃t:Int,0≤t∧sumQ P c=t*(2:Int)^(15-m).toNat
  | [],_,_=>⟨0,Int.le_refl _,by rw[Int.zero_mul];rfl⟩
  | p::P,c,h=>by
    obtain⟨t,ht0,ht⟩:=z2d hm (P:=P) (c:=c) fun x hx=>h x (List.mem_cons_of_mem _ hx)
    rw[q5f,ht]
    by_cases h1:0<p.1∧c p=true
    · have h2:=h p (List.mem_cons_self ..) h1.2 h1.1
      refine ⟨2 ^ (m - p.1).toNat + t, by have:0<(2:Int)^(m-p.1).toNat:=Int.pow_pos (by decide)
                                          omega,?_⟩
      rw[if_pos h1,Int.add_mul,←Int.pow_add,show(m-p.1).toNat+(15-m).toNat=(15-p.1).toNat by omega];rfl
    · exact⟨t,ht0,by rw[if_neg h1,Int.zero_add]⟩
/-- lengths and symbols -/
def enP (ls:List Int):List Pt:=(List.range ls.length).map fun(s:Nat)=>(ls.getD s 0,(s:Int))
theorem z6m {ls:List Int} {p:Pt}:p∈enP ls↔0≤p.2∧p.2<ls.length∧p.1=ls.getD p.2.toNat 0:=by
 unfold enP
 rw[List.mem_map]
 constructor
 ·rintro⟨s,hs,rfl⟩
  have hs:=List.mem_range.mp hs
  exact⟨by show 0≤(s:Int);omega,by show(s:Int)<_;omega,by show ls.getD s 0=ls.getD (s:Int).toNat 0;rw[Int.toNat_natCast]⟩
 ·rintro⟨h0,h1,h2⟩
  refine⟨p.2.toNat,List.mem_range.mpr (by omega),?_⟩
  rw[←h2,show((p.2.toNat:Nat):Int)=p.2 by omega]
def plc (ls:List Int) (s:Int):Int:=sumQ (enP ls) fun p=>Y.ltP p (ls.getD s.toNat 0,s)
theorem j0s (ls:List Int):rmL ls=sumQ (enP ls) fun _=>true:=by
 unfold rmL sumQ enP
 rw[List.map_map]
 have:∀l:List Int,((l.filter fun l=>decide (0<l)).map fun l=>(2:Int)^(15-l).toNat).sum=(l.map fun x=>if 0<x∧true=true then(2:Int)^(15-x).toNat else 0).sum:=fun l=>by
  induction l with
  | nil=>rfl
  | cons x l ih =>
   rw[List.filter_cons,List.map_cons,List.sum_cons,←ih]
   by_cases h:0<x
   ·rw[if_pos (decide_eq_true h),if_pos ⟨h,rfl⟩,List.map_cons,List.sum_cons]
   ·rw[if_neg (fun z=>h (of_decide_eq_true z)),if_neg (fun z=>h z.1),Int.zero_add]
 rw[this]
 congr 1
 refine List.ext_getElem (by simp) fun i h1 h2=>?_
 have hi:i<ls.length:=by simpa using h1
 simp only[List.getElem_map,List.getElem_range,Function.comp]
 rw[List.getD_eq_getElem?_getD,List.getElem?_eq_getElem hi];rfl
/-- the word of a symbol -/
def q6i (ls:List Int) (s:Int):Int:=plc ls s/(2:Int)^(15-ls.getD s.toNat 0).toNat
structure Ln (ls:List Int):Prop where
 bd:∀l∈ls,0≤l∧l≤15
 room:rmL ls≤32768
theorem Ln.at {ls:List Int} (h:Ln ls) {s:Int} (h0:0≤s) (h1:s<ls.length):0≤ls.getD s.toNat 0∧ls.getD s.toNat 0≤15:=by
 rw[List.getD_eq_getElem?_getD,List.getElem?_eq_getElem (show s.toNat<ls.length by omega)]
 exact h.bd _ (List.getElem_mem _)
section
variable {ls:List Int} (h:Ln ls) {s:Int} (h0:0≤s) (h1:s<ls.length) (hl:0<ls.getD s.toNat 0)
include h h0 h1 hl
theorem j2o:plc ls s=q6i ls s*(2:Int)^(15-ls.getD s.toNat 0).toNat∧0≤q6i ls s:=by
 have hb:=h.at h0 h1
 obtain⟨t,ht0,ht⟩:=z2d (m:=ls.getD s.toNat 0) (by omega) (P:=enP ls) (c:=fun p=>Y.ltP p (ls.getD s.toNat 0,s)) (fun p hp hc h0=>by
  have:=of_decide_eq_true hc
  have:p.1<ls.getD s.toNat 0∨(p.1=ls.getD s.toNat 0∧p.2<s):=this
  omega)
 have hp:(0:Int)<2^(15-ls.getD s.toNat 0).toNat:=Int.pow_pos (by decide)
 have e:q6i ls s=t:=by
  unfold q6i plc
  rw[ht,Int.mul_ediv_cancel _ (by omega)]
 rw[e]
 exact⟨ht,ht0⟩
end
theorem j9y (ls:List Int):(enP ls).Nodup:=by
 unfold enP
 refine List.Pairwise.map _ (fun a b hab=>?_) List.nodup_range
 intro z
 have:(a:Int)=b:=congrArg Prod.snd z
 exact hab (by omega)
theorem z1d (P:List Pt) (hn:P.Nodup):(P.mergeSort lePp).Pairwise fun x y=>Y.ltP x y=true:=by
 have h1:=j1i P
 have h2:(P.mergeSort lePp).Nodup:=(z1b P).nodup_iff.mpr hn
 refine(h1.and h2).imp fun {a b} h=>?_
 obtain⟨h,hne⟩:=h
 unfold Y.ltP
 refine decide_eq_true ?_
 rcases h with h|⟨h,h'⟩
 ·exact .inl h
 ·refine .inr ⟨h,?_⟩
  have:a.2≠b.2:=fun z=>hne (Prod.ext h z)
  omega
theorem z9b {P:List Pt} (hs:P.Pairwise fun x y=>Y.ltP x y=true) {i:Nat} {p:Pt} (hi:P[i]? = some p):sumQ (P.take i) (fun _=>true)=sumQ P fun x=>Y.ltP x p:=by
 obtain⟨hil,he⟩:=List.getElem?_eq_some_iff.mp hi
 have hsp:P=P.take i++p::P.drop (i+1):=by
  conv=>lhs;rw[←List.take_append_drop i P,List.drop_eq_getElem_cons hil,he]
 rw[hsp] at hs
 obtain⟨_,h2,h3⟩:=List.pairwise_append.mp hs
 obtain⟨h4,_⟩:=List.pairwise_cons.mp h2
 conv=>rhs;rw[hsp,q9p,q5f]
 rw[z4u (P:=P.drop (i+1)) (c:=fun x=>Y.ltP x p) (fun q hq=>by
  have:=h4 q hq
  unfold Y.ltP at *
  simp at *
  omega),if_neg (fun z=>by
  have:=of_decide_eq_true z.2
  omega),z4a (P:=P.take i) (c:=fun x=>Y.ltP x p) (d:=fun _=>true) fun q hq=>h3 q hq p (List.mem_cons_self ..)]
 omega
theorem q9a:kitB "int" "int" = some true:=by decide +kernel
theorem q7q:kitB "int" "bool" = some false:=by decide +kernel
theorem q7b (i:Int) (M:List Cn):q4l [.int i] M = .ok (.val (.bl true)) M:=by
 refine q6j (P:=fun _ _=>True) ?_
 walk_at "f0";unfold b_is_whole
 walk_at "w"
 refine q9r (by exact rfl) (by exact rfl) q9a ?_
 walk_at "w"
 refine q9r (by exact rfl) (by exact rfl) q7q ?_
 walk_at "w"
 exact⟨rfl,rfl⟩
theorem z2m (bs:List Bool):blsD (bs.map D.bl)=some bs:=by
 induction bs with
 | nil=>rfl
 | cons n ns ih=>show(blsD (ns.map D.bl)).map (n::·)=_;rw[ih];rfl
theorem q5k {ns:List Int} {lo hi:Int} (h1:1≤ns.length) (h2:ns.length≤64) (hb:∀n∈ns,lo≤n∧n≤hi) (M:List Cn):q3a [.lst (ns.map D.int),.int lo,.int hi] M = .ok (.val (.bl true)) M:=by
 refine q6j (P:=fun _ _=>True) ?_
 walk_at "f0";unfold b_is_list_of
 walk_at "w"
 refine q9r (b:=true) (by exact rfl) (by exact rfl) (by decide +kernel) ?_
 walk_at "w"
 rw[List.length_map]
 walk_at "w"
 refine q5y (fun _=>.bl true) ?_ ?_ ?_
 ·rw[List.length_map];show ns.length≤16777216;omega
 ·intro x hx
  obtain⟨n,hn,rfl⟩:=List.mem_map.mp hx
  obtain⟨b1,b2⟩:=hb n hn
  walk_at "w"
  refine q4x (q7b n M) ?_
  walk_at "w"
  rw[decide_eq_true b2]
  exact⟨rfl,rfl⟩
 ·walk_at "w"
  have e:(ns.map D.int).map (fun _=>D.bl true)=(ns.map fun _=>true).map D.bl:=by rw[List.map_map,List.map_map];rfl
  refine w0g (bs:=ns.map fun _=>true) rfl (by rw[e];exact z2m _) ?_
  walk_at "w"
  rw[List.all_map,show(ns.all (id∘fun _=>true))=true by rw[List.all_eq_true];intro _ _;rfl]
  exact⟨rfl,rfl⟩
theorem q2l {cs:List Int} (h:Cts cs) (M:List Cn):q0o [.lst (cs.map D.int)] M = .ok (.val .non) M:=by
 refine q6j (P:=fun _ _=>True) ?_
 walk_at "f0";unfold b_check_counts
 walk_at "w"
 refine q4x (q5k h.pos h.few h.bd M) ?_
 walk_at "w"
 refine z2q (ns:=cs) (d:=.int cs.sum) rfl (q6e cs) rfl ?_
 walk_at "w"
 have hs:=h.sum
 walk_at "w"
 exact⟨trivial,rfl⟩
theorem q8l {cs:List Int} (hf:cs.length≤64) (M:List Cn):q3e [.lst (cs.map D.int)] M = .ok (.new (.dK (dD (fpF 0 cs)))) M:=by
 refine q6j (P:=fun _ _=>True) ?_
 walk_at "f0";unfold b_first_parts
 walk_at "w"
 refine z6v (fun i s=>∃e2 e3:Option Ent,s=⟨[some (.fz (.lst (cs.map D.int))),some (.ow (.dK (dD (fpF 0 (cs.take i))))),e2,e3],M⟩) ⟨none,none,rfl⟩ ?_ ?_
 ·rintro i x s hi ⟨e2,e3,rfl⟩
  obtain⟨y,hy,rfl⟩:=q9g hi
  obtain⟨c,hc,rfl⟩:=z6h hy
  have hil:i<cs.length:=(List.getElem?_eq_some_iff.mp hc).1
  have hnext:fpF 0 (cs.take (i+1))=fpF 0 (cs.take i)++(if 0<c then[((i:Int),c)] else[]):=by
   rw[List.take_add_one,hc]
   show fpF 0 (cs.take i++[c])=_
   rw[z3c,List.length_take,Nat.min_eq_left (by omega),Int.zero_add]
  have hlen:(fpF 0 (cs.take i)).length≤64:=by have:=z1n (cs.take i) 0;rw[List.length_take] at this;omega
  have hlt:∀p∈fpF 0 (cs.take i),p.1≠(i:Int):=fun p hp=>by have:=q6z hp;rw[List.length_take] at this;omega
  rw[hnext]
  walk_at "w"
  refine z_if (fun h=>?_) (fun h=>?_)
  ·rw[if_pos h]
   walk_at "w"
   refine z6s rfl rfl (by rw[z2z];show _<16777216;omega) ?_
   rw[z9v hlt]
   walk_at "ds"
   exact⟨_,_,rfl⟩
  ·rw[if_neg h,List.append_nil]
   walk_at "w"
   exact⟨_,_,rfl⟩
 ·rintro s ⟨e2,e3,rfl⟩
  rw[q7o,List.length_map,List.take_length]
  walk_at "w"
  exact⟨rfl,rfl⟩
theorem z3a {ps:List Pt} (h:ps≠[]) (hz:ps.length≤100) (M:List Cn):q4d [.dK (dD ps)] M = .ok (.val (.int (least ps).1)) M:=by
 refine q6j (P:=fun _ _=>True) ?_
 walk_at "f0";unfold b_least_part
 walk_at "w"
 refine q5y (fun d=>match d with|.tup [a,b]=>.tup [b,a]|d=>d) ?_ ?_ ?_
 ·show((dD ps).map _).length≤16777216;rw[List.length_map,z2z];omega
 ·intro x hx
  obtain⟨q,hq,rfl⟩:=List.mem_map.mp hx
  obtain⟨p,hp,rfl⟩:=List.mem_map.mp hq
  walk_at "w"
  exact⟨rfl,rfl⟩
 ·walk_at "w"
  have e:(dIt .items (dD ps)).map (fun d=>match d with|.tup [a,b]=>D.tup [b,a]|d=>d)=(ps.map sw).map tP:=by
   show((dD ps).map fun p=>D.tup [kD p.1,p.2]).map _=_
   unfold dD
   rw[List.map_map,List.map_map,List.map_map];rfl
  rw[e]
  cases ps with
  | nil=>exact absurd rfl h
  | cons p ps =>
   refine j5g (p:=sw p) (ps:=ps.map sw) rfl ?_
   walk_at "w"
   refine w0v (d:=.int (minP (sw p) (ps.map sw)).2) rfl rfl rfl rfl rfl ?_
   walk_at "w"
   exact⟨rfl,rfl⟩
theorem z2c {cs:List Int} (h:Cts cs) (M:List Cn):q3u [.lst (cs.map D.int)] M = .ok (.new (.lst ((paper (cs.length:Int) (fpF 0 cs)).map tP))) M:=by
 refine j0o ?_
 walk_at "fx";unfold b_pairs_of
 walk_at "w"
 refine q9m (q2l h M) ?_
 walk_at "w"
 refine q4x (q8l h.few M) ?_
 walk_at "w"
 have hpk:=j4y cs
 have hfl:=z1n cs 0
 have hfew:=h.few
 generalize fpF 0 cs=ps at hpk hfl ⊢
 generalize hn:(cs.length:Int)=n at hpk ⊢
 refine j4f (fun m s=>∃(k:Nat) (e3 e4 e5:Option Ent),m=ps.length-k∧(ps.length=0∨k+1≤ps.length)∧(ps.length=0→k=0)∧s=⟨[some (.fz (.lst (cs.map D.int))),some (.ow (.dK (dD (stF n ps k)))),some (.ow (.lst (((List.range k).map (q7p n ps)).map tP))),e3,e4,e5],M⟩) _ ⟨0,none,none,none,rfl,by omega,fun _=>rfl,rfl⟩ ?_ ?_
 ·rintro m s ⟨k,e3,e4,e5,rfl,hk,hk0,rfl⟩
  have hst:(stF n ps k).length+k=ps.length∧(1<(stF n ps k).length→Pk n k (stF n ps k)):=by
   rcases hk with h0|h1
   ·have:=hk0 h0;subst this;exact⟨rfl,fun hh=>by have:1<ps.length:=hh;omega⟩
   ·exact⟨(z4x hpk k h1).2,fun _=>(z4x hpk k h1).1⟩
  obtain⟨hl,hP⟩:=hst
  walk_at "w"
  rw[z2z]
  refine z_if (fun hc=>?_) (fun hc=>?_)
  ·have hc':1<(stF n ps k).length:=by omega
   have hp:=hP hc'
   have hnil:stF n ps k≠[]:=fun z=>by rw[z] at hc';simp at hc'
   have hstep:stF n ps (k+1)=nxt (n+k) (stF n ps k):=rfl
   have hpair:q7p n ps k=((one (stF n ps k)).1,(oth (stF n ps k)).1):=rfl
   have hrange:(List.range (k+1)).map (q7p n ps)=(List.range k).map (q7p n ps)++[q7p n ps k]:=by rw[List.range_succ,List.map_append];rfl
   have hrl:((List.range k).map (q7p n ps)).length=k:=by rw[List.length_map,List.length_range]
   walk_at "w"
   refine⟨_,_,_,rfl,by show(D.noIdK _&&true)=true;rw[z1o];rfl,z3a hnil (by omega) [],rfl,?_⟩
   have ho:=q9h hc'
   have hq:=z1z hp.nd hc'
   have hl1:=q5u hp.nd ho
   have hnil2:drP (stF n ps k) (one (stF n ps k)).1≠[]:=fun z=>by rw[z] at hq;cases hq
   have v1:vl (dD (stF n ps k)) (.inl (one (stF n ps k)).1)=some (.int (one (stF n ps k)).2):=by rw[j5m,z1k hp.nd ho];rfl
   have v2:vl (dD (drP (stF n ps k) (one (stF n ps k)).1)) (.inl (oth (stF n ps k)).1)=some (.int (oth (stF n ps k)).2):=by rw[j5m,z1k (q8f hp.nd) hq];rfl
   have hrst:drP (drP (stF n ps k) (one (stF n ps k)).1) (oth (stF n ps k)).1=rst (stF n ps k):=rfl
   have hlr:=z4q hp.nd hc'
   have hfr:∀p∈rst (stF n ps k),p.1≠n+k:=fun p hpp=>by
    have:=hp.lt p (q4v.mp (q4v.mp hpp).1).1
    omega
   rw[show(least (stF n ps k)).1=(one (stF n ps k)).1 from rfl]
   walk_at "w"
   refine⟨_,_,_,rfl,rfl,v1,?_⟩
   walk_at "ds"
   rw[j8l]
   walk_at "w"
   refine⟨_,_,_,rfl,by show(D.noIdK _&&true)=true;rw[z1o];rfl,z3a hnil2 (by omega) [],rfl,?_⟩
   rw[show(least (drP (stF n ps k) (one (stF n ps k)).1)).1=(oth (stF n ps k)).1 from rfl]
   walk_at "w"
   refine⟨_,_,_,rfl,rfl,v2,?_⟩
   walk_at "ds"
   rw[j8l,hrst]
   refine⟨_,rfl,?_⟩
   walk_at "w"
   rw[List.length_map,List.length_map,hrl,hn]
   refine z6s rfl rfl (by rw[z2z];show _<16777216;omega) ?_
   rw[z9v hfr]
   walk_at "ds"
   walk_at "w"
   refine z2a rfl (by rw[List.length_map,hrl];show _<16777216;omega) ?_
   walk_at "ds"
   exact⟨ps.length-(k+1),by omega,k+1,_,_,_,rfl,by omega,by omega,by rw[hstep,hrange,List.map_append,hpair];rfl⟩
  ·have hk2:k=ps.length-1:=by omega
   subst hk2
   walk_at "w"
   exact⟨rfl,rfl⟩
 ·intro r hr e;subst e;exact hr
theorem j2s {ls:List Int} (hb:∀l∈ls,0≤l∧l≤15) (hz:ls.length≤1000) (M:List Cn):q8b [.lst (ls.map D.int)] M = .ok (.val (.int (rmL ls))) M:=by
 refine q6j (P:=fun _ _=>True) ?_
 walk_at "f0";unfold b_room_of
 walk_at "w"
 refine z2b (fun d=>match d with|.int i=>decide (0<i)|_=>false) (fun d=>match d with|.int i=>D.int (2^(15-i).toNat)|d=>d) ?_ ?_ ?_
 ·rw[List.length_map];show _≤16777216;omega
 ·intro x hx
  obtain⟨l,hl,rfl⟩:=List.mem_map.mp hx
  have:=hb l hl
  have sh:CShl 1 (15-l):=j0f (by omega) (by omega)
  walk_at "w"
  refine⟨rfl,?_⟩
  refine z_if (fun h=>?_) (fun h=>?_)
  ·walk_at "w"
   rw[Int.one_mul]
   exact⟨rfl,rfl⟩
  ·rfl
 have e:(((ls.map D.int).filter (fun d=>match d with|.int i=>decide (0<i)|_=>false)).map (fun d=>match d with|.int i=>D.int (2^(15-i).toNat)|d=>d))=((ls.filter fun l=>decide (0<l)).map fun l=>(2:Int)^(15-l).toNat).map D.int:=by
  rw[List.filter_map,List.map_map,List.map_map];rfl
 rw[e]
 walk_at "ds"
 walk_at "w"
 refine z2q (ns:=(ls.filter fun l=>decide (0<l)).map fun l=>(2:Int)^(15-l).toNat) (d:=.int (rmL ls)) rfl (q6e _) rfl ?_
 walk_at "w"
 exact⟨rfl,rfl⟩
theorem z6j {ls:List Int} (hb:∀l∈ls,0≤l∧l≤15) (hz:ls.length≤1000) (M:List Cn):z6b [.lst (ls.map D.int)] M = .ok (.val (.bl (decide (rmL ls≤32768)))) M:=by
 refine q6j (P:=fun _ _=>True) ?_
 have sh:CShl 1 15:=j0f (by omega) (by omega)
 walk_at "f0";unfold b_fits
 walk_at "w"
 refine q4x (j2s hb hz M) ?_
 walk_at "w"
 exact⟨rfl,rfl⟩
theorem q2w {ls:List Int} (h1:1≤ls.length) (h2:ls.length≤64) (hb:∀l∈ls,0≤l∧l≤15) (hr:rmL ls≤32768) (M:List Cn):q0s [.lst (ls.map D.int)] M = .ok (.val .non) M:=by
 refine q6j (P:=fun _ _=>True) ?_
 walk_at "f0";unfold b_check_lengths
 walk_at "w"
 refine q4x (q5k h1 h2 hb M) ?_
 walk_at "w"
 refine q4x (z6j hb (by omega) M) ?_
 rw[decide_eq_true hr]
 walk_at "w"
 exact⟨trivial,rfl⟩
theorem z6q (is:List Int) (s:Stt):eqOf s (.new (.lst (is.map D.int))) (.new (.lst []))=some (decide (is=[])):=by
 refine z1v (x:=.list (is.map PyData.int)) (y:=.list []) ?_ rfl (z1a is) (by decide) ?_
 ·show(D.pyL (is.map D.int)).map PyData.list=_
  rw[z8n];rfl
 ·exact z7j is []
theorem z7e:∀(cs ls:List Int),((cs.zip ls).map fun p=>p.1*p.2).sum=dotL cs ls
 | [],_=>rfl
 | _::_,[]=>rfl
 | c::cs,l::ls=>by
  show(c*l::(cs.zip ls).map fun p=>p.1*p.2).sum=c*l+dotL cs ls
  rw[List.sum_cons,z7e cs ls]
theorem z8h (cs ls:List Int):zipL (cs.map D.int) (ls.map D.int)=(cs.zip ls).map tP:=by
 unfold zipL
 rw[List.zip_map,List.map_map];rfl
theorem cmul {a b:Int} (ha:0≤a∧a≤1000) (hb:0≤b∧b≤15):CMul a b:=by
 exact .inl ⟨by omega,by omega⟩
inductive El:D→Prop
 | int (i:Int):El (.int i)
 | bl (b:Bool):El (.bl b)
 | non:El .non
 | str (x:Str):El (.str x)
 | tup (l:List D):El (.tup l)
 | lst (l:List D):El (.lst l)
def isI:D→Bool
 | .int _=>true
 | _=>false
theorem z1t {d:D} (h:El d) (M:List Cn):q4l [d] M = .ok (.val (.bl (isI d))) M:=by
 cases h with
 | int i=>exact q7b i M
 | bl b =>
  refine q6j (P:=fun _ _=>True) ?_
  walk_at "f0";unfold b_is_whole
  walk_at "w"
  refine q9r (b:=true) (by exact rfl) (by exact rfl) (by decide +kernel) ?_
  walk_at "w"
  refine q9r (b:=true) (by exact rfl) (by exact rfl) (by decide +kernel) ?_
  walk_at "w"
  exact⟨rfl,rfl⟩
 | _ =>
  refine q6j (P:=fun _ _=>True) ?_
  walk_at "f0";unfold b_is_whole
  walk_at "w"
  refine q9r (b:=false) (by exact rfl) (by exact rfl) (by decide +kernel) ?_
  walk_at "w"
  exact⟨rfl,rfl⟩
def numB (lo hi:Int):D→Bool
 | .int i=>decide (lo≤i)&&decide (i≤hi)
 | _=>false
theorem z1l {l:List D} (h:∀x∈l,El x) (h1:1≤l.length) (h2:l.length≤64) (lo hi:Int) (M:List Cn):q3a [.lst l,.int lo,.int hi] M = .ok (.val (.bl (l.all (numB lo hi)))) M:=by
 refine q6j (P:=fun _ _=>True) ?_
 walk_at "f0";unfold b_is_list_of
 walk_at "w"
 refine q9r (b:=true) (by exact rfl) (by exact rfl) (by decide +kernel) ?_
 walk_at "w"
 refine q5y (fun d=>.bl (numB lo hi d)) ?_ ?_ ?_
 ·show l.length≤16777216;omega
 ·intro x hx
  have hel:=h x hx
  walk_at "w"
  refine q4x (z1t hel M) ?_
  cases hel with
  | int i =>
   refine⟨true,rfl,?_⟩
   rw[if_pos rfl]
   walk_at "w"
   refine z_if (fun q=>?_) (fun q=>?_)
   ·walk_at "w"
    show _=D.bl (decide (lo≤i)&&_)∧_
    rw[decide_eq_true q]
    exact⟨rfl,rfl⟩
   ·walk_at "w"
    show _=D.bl (decide (lo≤i)&&_)∧_
    rw[decide_eq_false q]
    exact⟨rfl,rfl⟩
  | _ =>
   refine⟨false,rfl,?_⟩
   rw[if_neg (by decide)]
   exact⟨rfl,rfl⟩
 ·walk_at "w"
  have e:l.map (fun d=>D.bl (numB lo hi d))=(l.map (numB lo hi)).map D.bl:=by rw[List.map_map];rfl
  refine w0g (bs:=l.map (numB lo hi)) rfl (by rw[e];exact z2m _) ?_
  walk_at "w"
  rw[List.all_map]
  exact⟨rfl,rfl⟩
/-- what is no list of one to sixty-four numbers from lo to hi -/
inductive Bad (lo hi:Int):D→Prop
 | non:Bad lo hi .non
 | int (i:Int):Bad lo hi (.int i)
 | bl (b:Bool):Bad lo hi (.bl b)
 | str (x:Str):Bad lo hi (.str x)
 | tup (l:List D):Bad lo hi (.tup l)
 | dK (l:List (Key×D)):Bad lo hi (.dK l)
 | len {l:List D} (h:¬(1≤l.length∧l.length≤64)):Bad lo hi (.lst l)
 | lst {l:List D} (h:∀x∈l,El x) (h1:1≤l.length) (h2:l.length≤64) (h3:l.all (numB lo hi)=false):Bad lo hi (.lst l)
theorem q8x {lo hi:Int} {d:D} (h:Bad lo hi d) (M:List Cn):q3a [d,.int lo,.int hi] M = .ok (.val (.bl false)) M:=by
 cases h with
 | lst h h1 h2 h3=>rw[z1l h h1 h2,h3]
 | len h =>
  refine q6j (P:=fun _ _=>True) ?_
  walk_at "f0";unfold b_is_list_of
  walk_at "w"
  refine q9r (b:=true) (by exact rfl) (by exact rfl) (by decide +kernel) ?_
  walk_at "w"
  refine z_if (fun q=>?_) (fun q=>?_)
  ·walk_at "w"
   exact⟨rfl,rfl⟩
  ·walk_at "w"
   exact⟨rfl,rfl⟩
 | _ =>
  refine q6j (P:=fun _ _=>True) ?_
  walk_at "f0";unfold b_is_list_of
  walk_at "w"
  refine q9r (b:=false) (by exact rfl) (by exact rfl) (by decide +kernel) ?_
  walk_at "w"
  exact⟨rfl,rfl⟩
def wrd (ls:List Int) (s:Nat):D:=if 0<ls.getD s 0 then tP (ls.getD s 0,q6i ls (s:Int)) else .non
theorem z3f {n i:Nat} {f:Nat→D} {v:D}:((List.range n).map f).set i v=(List.range n).map fun s=>if s=i then v else f s:=by
 refine List.ext_getElem (by simp) fun k h1 h2=>?_
 rw[List.getElem_set]
 simp only[List.getElem_map,List.getElem_range]
 by_cases h:i=k
 ·rw[if_pos h,if_pos h.symm]
 ·rw[if_neg h,if_neg (fun z=>h z.symm)]
theorem z8c (ls:List Int):(q7x (ls.map D.int)).map (fun d=>match d with|.tup [a,b]=>D.tup [b,a]|d=>d)=(enP ls).map tP:=by
 refine List.ext_getElem? fun i=>?_
 rw[List.getElem?_map]
 by_cases hi:i<ls.length
 ·have h1:(q7x (ls.map D.int))[i]? = some (.tup [.int (i:Nat),.int ls[i]]):=by
   cases q:(q7x (ls.map D.int))[i]? with
   | none=>rw[List.getElem?_eq_none_iff,q7o,List.length_map] at q;omega
   | some d =>
    obtain⟨x,hx,rfl⟩:=q9g q
    rw[List.getElem?_map,List.getElem?_eq_getElem hi] at hx
    rw[←Option.some.inj hx]
  rw[h1]
  unfold enP
  rw[List.map_map,List.getElem?_map,List.getElem?_range hi]
  show some (D.tup [.int ls[i],.int (i:Nat)])=some (tP (ls.getD i 0,(i:Int)))
  rw[List.getD_eq_getElem?_getD,List.getElem?_eq_getElem hi];rfl
 ·rw[List.getElem?_eq_none_iff.mpr (by rw[q7o,List.length_map];omega),List.getElem?_eq_none_iff.mpr (by unfold enP;simp;omega)];rfl
theorem z2l {ls:List Int} (h1:1≤ls.length) (h2:ls.length≤64) (h:Ln ls) (M:List Cn):q3k [.lst (ls.map D.int)] M = .ok (.new (.lst ((List.range ls.length).map (wrd ls)))) M:=by
 refine j0o ?_
 walk_at "fx";unfold b_words_of
 walk_at "w"
 refine q9m (q2w h1 h2 h.bd h.room M) ?_
 walk_at "w"
 refine q5y (fun _=>.non) ?_ ?_ ?_
 ·rw[List.length_map];show _≤16777216;omega
 ·intro x hx
  walk_at "w"
  exact⟨rfl,rfl⟩
 walk_at "w"
 refine q5y (fun d=>match d with|.tup [a,b]=>D.tup [b,a]|d=>d) ?_ ?_ ?_
 ·rw[q7o,List.length_map];show _≤16777216;omega
 ·intro x hx
  obtain⟨i,hi⟩:=List.mem_iff_getElem?.mp hx
  obtain⟨y,hy,rfl⟩:=q9g hi
  walk_at "w"
  exact⟨rfl,rfl⟩
 rw[z8c]
 walk_at "ds"
 walk_at "w"
 refine j9i rfl (z0q _) ?_
 rw[z3w]
 have hstr:=z1d (enP ls) (j9y ls)
 have hprm:=z1b (enP ls)
 generalize (enP ls).mergeSort lePp=P at *
 have hPl:P.length=ls.length:=by rw[hprm.length_eq];unfold enP;simp
 have hPm:∀p∈P,0≤p.2∧p.2<ls.length∧p.1=ls.getD p.2.toNat 0:=fun p hp=>z6m.mp (hprm.mem_iff.mp hp)
 have hroom:sumQ P (fun _=>true)≤32768:=by rw[z0l hprm,←j0s];exact h.room
 walk_at "w"
 refine⟨_,rfl,?_⟩
 refine z6v (fun i s=>∃(nu la:Int) (e4 e5:Option Ent),((la=0∧nu=0∧sumQ (P.take i) (fun _=>true)=0)∨(0<la∧la≤15∧0≤nu∧(nu+1)*(2:Int)^(15-la).toNat=sumQ (P.take i) (fun _=>true)∧∀j p,i≤j→P[j]? = some p→la≤p.1))∧s=⟨[some (.fz (.lst (ls.map D.int))),some (.ow (.lst ((List.range ls.length).map fun s=>if(ls.getD s 0,(s:Int))∈P.take i then wrd ls s else .non))),some (.fz (.int nu)),some (.fz (.int la)),e4,e5],M⟩) ⟨0,0,none,none,.inl ⟨rfl,rfl,rfl⟩,?_⟩ ?_ ?_
 ·have e:(ls.map D.int).map (fun _=>D.non)=(List.range ls.length).map fun s=>if(ls.getD s 0,(s:Int))∈P.take 0 then wrd ls s else .non:=by
   refine List.ext_getElem (by simp) fun i q1 q2=>?_
   simp
  rw[←e];rfl
 ·rintro i y s hi ⟨nu,la,e4,e5,hst,rfl⟩
  obtain⟨p,hp,rfl⟩:=z6h hi
  obtain⟨hil,hie⟩:=List.getElem?_eq_some_iff.mp hp
  obtain⟨p0,p1,p2⟩:=hPm p (List.mem_of_getElem? hp)
  have htk:P.take (i+1)=P.take i++[p]:=by rw[List.take_add_one,hp];rfl
  have hsm:sumQ (P.take (i+1)) (fun _=>true)=sumQ (P.take i) (fun _=>true)+(if 0<p.1 then tw p else 0):=by
   rw[htk,q9p,q5f]
   show _+((if 0<p.1∧true=true then tw p else 0)+0)=_
   by_cases q:0<p.1
   ·rw[if_pos q,if_pos ⟨q,rfl⟩];omega
   ·rw[if_neg q,if_neg (fun z=>q z.1)];omega
  have hpl:sumQ (P.take i) (fun _=>true)=plc ls p.2:=by
   rw[z9b hstr hp]
   unfold plc
   rw[z0l hprm,←p2]
  have hb:=h.at p0 p1
  have hmono:∀j q,i+1≤j→P[j]? = some q→p.1≤q.1:=fun j q hj hq=>by
   obtain⟨hjl,hje⟩:=List.getElem?_eq_some_iff.mp hq
   have:=List.pairwise_iff_getElem.mp hstr i j hil hjl (by omega)
   rw[hie,hje] at this
   have:=of_decide_eq_true this
   omega
  have hnx:p.1≤0→((List.range ls.length).map fun s=>if(ls.getD s 0,(s:Int))∈P.take (i+1) then wrd ls s else D.non)=(List.range ls.length).map fun s=>if(ls.getD s 0,(s:Int))∈P.take i then wrd ls s else D.non:=fun hz=>by
   refine List.map_congr_left fun s hs=>?_
   rw[htk]
   by_cases q:(ls.getD s 0,(s:Int))∈P.take i
   ·rw[if_pos q,if_pos (List.mem_append_left _ q)]
   ·rw[if_neg q]
    by_cases q2:(ls.getD s 0,(s:Int))=p
    ·rw[if_pos (List.mem_append_right _ (List.mem_singleton.mpr q2))]
     unfold wrd
     rw[if_neg (by have:ls.getD s 0=p.1:=congrArg Prod.fst q2;omega)]
    ·rw[if_neg (fun z=>by
      rcases List.mem_append.mp z with z|z
      ·exact q z
      ·exact q2 (List.mem_singleton.mp z))]
  have hset:∀n:Int,0<p.1→n=q6i ls p.2→((List.range ls.length).map fun s=>if(ls.getD s 0,(s:Int))∈P.take i then wrd ls s else D.non).set p.2.toNat (tP (p.1,n))=(List.range ls.length).map fun s=>if(ls.getD s 0,(s:Int))∈P.take (i+1) then wrd ls s else D.non:=fun n hpos en=>by
   rw[z3f]
   refine List.map_congr_left fun s hs=>?_
   rw[htk]
   by_cases q:s=p.2.toNat
   ·have ep:(ls.getD s 0,(s:Int))=p:=Prod.ext (by show ls.getD s 0=p.1;rw[p2,q]) (by show(s:Int)=p.2;omega)
    rw[if_pos q,if_pos (List.mem_append_right _ (List.mem_singleton.mpr ep))]
    unfold wrd
    have e1:ls.getD s 0=p.1:=congrArg Prod.fst ep
    have e2:(s:Int)=p.2:=congrArg Prod.snd ep
    rw[e1,if_pos hpos,e2,en]
   ·have q2:(ls.getD s 0,(s:Int))≠p:=fun z=>q (by have:(s:Int)=p.2:=congrArg Prod.snd z;omega)
    rw[if_neg q]
    by_cases q3:(ls.getD s 0,(s:Int))∈P.take i
    ·rw[if_pos q3,if_pos (List.mem_append_left _ q3)]
    ·rw[if_neg q3,if_neg (fun z=>by
      rcases List.mem_append.mp z with z|z
      ·exact q3 z
      ·exact q2 (List.mem_singleton.mp z))]
  walk_at "w"
  refine z_if (fun hpos=>?_) (fun hpos=>?_)
  ·rw[if_pos hpos] at hsm
   have hwm:=j2o h p0 p1 (by rw[←p2];exact hpos)
   rw[←p2,←hpl] at hwm
   obtain⟨hwm,hwn⟩:=hwm
   have hpp:(0:Int)<2^(15-p.1).toNat:=Int.pow_pos (by decide)
   have hfin:(q6i ls p.2+1)*(2:Int)^(15-p.1).toNat=sumQ (P.take (i+1)) fun _=>true:=by
    rw[hsm,hwm,Int.add_mul,Int.one_mul];rfl
   walk_at "w"
   rcases hst with⟨rfl,rfl,hz⟩|⟨hl0,hl1,hn0,hsum,hle⟩
   ·have hw0:(0:Int)=q6i ls p.2:=by
     rw[hz] at hwm
     rcases Int.mul_eq_zero.mp hwm.symm with e|e
     ·exact e.symm
     ·omega
    walk_at "w"
    refine z0g (l:=(List.range ls.length).map fun s=>if(ls.getD s 0,(s:Int))∈P.take i then wrd ls s else .non) rfl (z9n p0 (by simpa using p1)) ?_
    rw[show D.tup [.int p.1,.int 0]=tP (p.1,0) from rfl,hset 0 hpos hw0]
    walk_at "ds"
    walk_at "w"
    exact⟨0,p.1,_,_,.inr ⟨hpos,by omega,by decide,by rw[hw0];exact hfin,hmono⟩,rfl⟩
   ·have hlp:=hle i p (Nat.le_refl _) hp
    have hnum:(nu+1)*(2:Int)^(p.1-la).toNat=q6i ls p.2:=by
     have:((nu+1)*(2:Int)^(p.1-la).toNat)*2^(15-p.1).toNat=q6i ls p.2*2^(15-p.1).toNat:=by
      rw[Int.mul_assoc,←Int.pow_add,show(p.1-la).toNat+(15-p.1).toNat=(15-la).toNat by omega,hsum,hwm]
     exact Int.eq_of_mul_eq_mul_right (by omega) this
    have hnb:nu+1≤32768:=by
     have h15:sumQ (P.take i) (fun _=>true)≤32768:=by
      refine Int.le_trans ?_ hroom
      conv=>rhs;rw[←List.take_append_drop i P,q9p]
      have:=z5g (P.drop i) fun _=>true
      omega
     have hp1:(1:Int)≤2^(15-la).toNat:=Int.add_one_le_of_lt (Int.pow_pos (by decide))
     have:(nu+1)*1≤(nu+1)*2^(15-la).toNat:=Int.mul_le_mul_of_nonneg_left hp1 (by omega)
     omega
    have sh:CShl (nu+1) (p.1-la):=j7j (m:=17) (by have:(2:Nat)^17=131072:=rfl;omega) (by decide) (by omega) (by omega)
    walk_at "w"
    refine z0g (l:=(List.range ls.length).map fun s=>if(ls.getD s 0,(s:Int))∈P.take i then wrd ls s else .non) rfl (z9n p0 (by simpa using p1)) ?_
    rw[hnum,show D.tup [.int p.1,.int (q6i ls p.2)]=tP (p.1,q6i ls p.2) from rfl,hset _ hpos rfl]
    walk_at "ds"
    walk_at "w"
    exact⟨_,p.1,_,_,.inr ⟨hpos,by omega,hwn,hfin,hmono⟩,rfl⟩
  ·rw[if_neg hpos,Int.add_zero] at hsm
   walk_at "w"
   rw[←hnx (by omega)]
   refine⟨nu,la,_,_,?_,rfl⟩
   rcases hst with⟨rfl,rfl,hz⟩|⟨hl0,hl1,hn0,hsum,hle⟩
   ·exact .inl ⟨rfl,rfl,by rw[hsm];exact hz⟩
   ·exact .inr ⟨hl0,hl1,hn0,by rw[hsm];exact hsum,fun j q hj hq=>hle j q (by omega) hq⟩
 ·rintro s ⟨nu,la,e4,e5,hst,rfl⟩
  rw[List.length_map,List.take_length]
  walk_at "w"
  refine⟨?_,rfl⟩
  congr 2
  refine List.map_congr_left fun s hs=>?_
  have hs:=List.mem_range.mp hs
  rw[if_pos (hprm.mem_iff.mpr (z6m.mpr ⟨by show(0:Int)≤(s:Int);omega,by show(s:Int)<_;omega,by show ls.getD s 0=ls.getD (s:Int).toNat 0;rw[Int.toNat_natCast]⟩))]
def eT:Exn:=⟨1,[]⟩
theorem z4l {d:D} (h:Bad 0 1000 d) (M:List Cn):q0o [d] M = .er eT M:=by
 refine q3j ?_
 walk_at "fx";unfold b_check_counts
 walk_at "w"
 refine q4x (q8x h M) ?_
 walk_at "w"
 exact⟨rfl,rfl⟩
theorem z3v {cs:List Int} (h1:1≤cs.length) (h2:cs.length≤64) (hb:∀n∈cs,0≤n∧n≤1000) (hs:1000<cs.sum) (M:List Cn):q0o [.lst (cs.map D.int)] M = .er eT M:=by
 refine q3j ?_
 walk_at "fx";unfold b_check_counts
 walk_at "w"
 refine q4x (q5k h1 h2 hb M) ?_
 walk_at "w"
 refine z2q (ns:=cs) (d:=.int cs.sum) rfl (q6e cs) rfl ?_
 walk_at "w"
 exact⟨rfl,rfl⟩
theorem z4c {d:D} (h:Bad 0 15 d) (M:List Cn):q0s [d] M = .er eT M:=by
 refine q3j ?_
 walk_at "fx";unfold b_check_lengths
 walk_at "w"
 refine q4x (q8x h M) ?_
 walk_at "w"
 exact⟨rfl,rfl⟩
theorem q4h {ls:List Int} (h1:1≤ls.length) (h2:ls.length≤64) (hb:∀l∈ls,0≤l∧l≤15) (hr:32768<rmL ls) (M:List Cn):q0s [.lst (ls.map D.int)] M = .er eT M:=by
 refine q3j ?_
 walk_at "fx";unfold b_check_lengths
 walk_at "w"
 refine q4x (q5k h1 h2 hb M) ?_
 walk_at "w"
 refine q4x (z6j hb (by omega) M) ?_
 rw[decide_eq_false (by omega)]
 walk_at "w"
 exact⟨rfl,rfl⟩
section
variable {d p:D} {M:List Cn}
theorem z2s (h:q0o [d] M = .er eT M):q3u [d] M = .er eT M:=by
 refine q3j ?_
 walk_at "fx";unfold b_pairs_of
 walk_at "w"
 exact q5e h ⟨rfl,rfl⟩
theorem z2f (h:q0o [d] M = .er eT M):q3s [d,p] M = .er eT M:=by
 refine q3j ?_
 walk_at "fx";unfold b_check_paper
 walk_at "w"
 exact q5e h ⟨rfl,rfl⟩
theorem z8x (h:q0o [d] M = .er eT M):q4c [d,p] M = .er eT M:=by
 refine q3j ?_
 walk_at "fx";unfold b_lengths_by
 walk_at "w"
 exact q5e (z2f h) ⟨rfl,rfl⟩
theorem z7t (h:q0o [d] M = .er eT M):q3w [d] M = .er eT M:=by
 refine q3j ?_
 walk_at "fx";unfold b_least_lengths
 walk_at "w"
 exact q5e (z2s h) ⟨rfl,rfl⟩
theorem j4o (h:q0o [d] M = .er eT M):q2i [d,p] M = .er eT M:=by
 refine q3j ?_
 walk_at "fx";unfold b_bits_of
 walk_at "w"
 exact q5e h ⟨rfl,rfl⟩
theorem z2g (h:q0s [d] M = .er eT M):q3k [d] M = .er eT M:=by
 refine q3j ?_
 walk_at "fx";unfold b_words_of
 walk_at "w"
 exact q5e h ⟨rfl,rfl⟩
theorem z8f {cs:List Int} (hc:Cts cs) (h:q0s [d] M = .er eT M):q2i [.lst (cs.map D.int),d] M = .er eT M:=by
 refine q3j ?_
 walk_at "fx";unfold b_bits_of
 walk_at "w"
 refine q9m (q2l hc M) ?_
 walk_at "w"
 exact q5e h ⟨rfl,rfl⟩
theorem z7x (h:∀M,q0s [d] M = .er eT M):Fx (fun _ _=>False) (fun x M'=>x=eT∧∃c,M'=M++c) (q4a [d] M):=by
 walk_at "fx";unfold b_beginnings_of
 walk_at "w"
 refine⟨_,rfl,(by show 1≤15;omega),_,rfl,?_⟩
 walk_at "w"
 refine q5e (z2g (h _)) ?_
 exact⟨rfl,_,List.append_assoc _ _ _⟩
end
theorem z7i {cs ls:List Int} (hc:Cts cs) (hlen:ls.length=cs.length) (hbd:∀l∈ls,0≤l∧l≤15) (has:∀i,i<cs.length→0<cs.getD i 0→0<ls.getD i 0) (hr:rmL ls≤32768) (M:List Cn):q2i [.lst (cs.map D.int),.lst (ls.map D.int)] M = .ok (.val (.int (dotL cs ls))) M:=by
 have hpos:=hc.pos
 have hfew:=hc.few
 refine j0o ?_
 walk_at "fx";unfold b_bits_of
 walk_at "w"
 refine q9m (q2l hc M) ?_
 walk_at "w"
 refine q9m (q2w (by omega) (by omega) hbd hr M) ?_
 walk_at "w"
 rw[List.length_map,List.length_map]
 refine z_b0 (by rw[hlen];simp) ?_
 walk_at "w"
 rw[List.length_map]
 refine q9k (by omega) ?_
 refine z2b (fun _=>false) (fun d=>d) ?_ ?_ ?_
 ·rw[q7r];show _≤16777216;omega
 ·intro x hx
  obtain⟨k,hk⟩:=List.mem_iff_getElem?.mp hx
  obtain⟨hk,rfl⟩:=q8h hk
  walk_at "w"
  refine z6t rfl rfl rfl (by omega) (by omega) ?_
  walk_at "w"
  rw[show(0+(k:Int)).toNat=k by omega]
  refine z_if (fun h1=>?_) (fun h1=>?_)
  ·walk_at "w"
   refine z6t rfl rfl rfl (by omega) (by omega) ?_
   walk_at "w"
   rw[show(0+(k:Int)).toNat=k by omega]
   have:=has k (by omega) h1
   rw[decide_eq_false (by omega)]
   exact⟨rfl,rfl⟩
  ·exact⟨rfl,rfl⟩
 have e:∀l:List D,(l.filter fun _=>false).map (fun d=>d)=([]:List Int).map D.int:=fun l=>by
  rw[List.filter_eq_nil_iff.mpr (fun _ _=>by decide)];rfl
 rw[e]
 walk_at "ds"
 walk_at "w"
 refine w_ne (z6q [] _) ?_
 walk_at "w"
 rw[z8h]
 refine q5y (fun d=>match d with|.tup [.int a,.int b]=>.int (a*b)|d=>d) ?_ ?_ ?_
 ·rw[List.length_map,List.length_zip];show _≤16777216;omega
 ·intro x hx
  obtain⟨p,hp,rfl⟩:=List.mem_map.mp hx
  have h1:=hc.bd _ (List.of_mem_zip hp).1
  have h2:=hbd _ (List.of_mem_zip hp).2
  have hm:=cmul h1 h2
  walk_at "w"
  exact⟨rfl,rfl⟩
 have e2:((cs.zip ls).map tP).map (fun d=>match d with|.tup [.int a,.int b]=>.int (a*b)|d=>d)=((cs.zip ls).map fun p=>p.1*p.2).map D.int:=by
  rw[List.map_map,List.map_map];rfl
 rw[e2]
 walk_at "ds"
 walk_at "w"
 refine z2q (ns:=(cs.zip ls).map fun p=>p.1*p.2) (d:=.int (dotL cs ls)) rfl (q6e _) (by show some (D.int (List.sum _))=_;rw[z7e]) ?_
 walk_at "w"
 exact⟨rfl,rfl⟩
/-- bits_of with lengths that are good, but more than counts -/
theorem z1x {cs ls:List Int} (hc:Cts cs) (h1:1≤ls.length) (h2:ls.length≤64) (hb:∀l∈ls,0≤l∧l≤15) (hr:rmL ls≤32768) (hne:cs.length≠ls.length) (M:List Cn):q2i [.lst (cs.map D.int),.lst (ls.map D.int)] M = .er eT M:=by
 refine q3j ?_
 walk_at "fx";unfold b_bits_of
 walk_at "w"
 refine q9m (q2l hc M) ?_
 walk_at "w"
 refine q9m (q2w h1 h2 hb hr M) ?_
 walk_at "w"
 rw[List.length_map,List.length_map,decide_eq_false (by omega),if_pos (by decide)]
 walk_at "w"
 exact⟨rfl,rfl⟩
/-- bits_of with no word for a wanted symbol -/
theorem z6w {cs ls:List Int} (hc:Cts cs) (h2:ls.length=cs.length) (hb:∀l∈ls,0≤l∧l≤15) (hr:rmL ls≤32768) (hw:0<cs.getD 0 0∧ls.getD 0 0=0) (M:List Cn):q2i [.lst (cs.map D.int),.lst (ls.map D.int)] M = .er eT M:=by
 have hpos:=hc.pos
 have hfew:=hc.few
 refine q3j ?_
 walk_at "fx";unfold b_bits_of
 walk_at "w"
 refine q9m (q2l hc M) ?_
 walk_at "w"
 refine q9m (q2w (by omega) (by omega) hb hr M) ?_
 walk_at "w"
 rw[List.length_map,List.length_map]
 refine z_b0 (by rw[h2];simp) ?_
 walk_at "w"
 rw[List.length_map]
 refine q9k (by omega) ?_
 refine z2b (fun d=>match d with|.int k=>decide (0<cs.getD k.toNat 0)&&decide (ls.getD k.toNat 0=0)|_=>false) (fun d=>d) ?_ ?_ ?_
 ·rw[q7r];show _≤16777216;omega
 ·intro x hx
  obtain⟨k,hk⟩:=List.mem_iff_getElem?.mp hx
  obtain⟨hk,rfl⟩:=q8h hk
  walk_at "w"
  refine z6t rfl rfl rfl (by omega) (by omega) ?_
  walk_at "w"
  refine z_if (fun h1=>?_) (fun h1=>?_)
  ·walk_at "w"
   refine z6t rfl rfl rfl (by omega) (by omega) ?_
   walk_at "w"
   show(_=(decide (_<_)&&_))∧_
   rw[decide_eq_true h1,Bool.true_and]
   refine⟨rfl,?_⟩
   refine z_if (fun h3=>?_) (fun h3=>?_)
   ·walk_at "w"
    exact⟨rfl,rfl⟩
   ·rfl
  ·show(_=(decide (_<_)&&_))∧_
   rw[decide_eq_false h1,Bool.false_and]
   exact⟨rfl,rfl⟩
 have e:∃is:List Int,((rng 0 (cs.length:Int).toNat).filter (fun d=>match d with|.int k=>decide (0<cs.getD k.toNat 0)&&decide (ls.getD k.toNat 0=0)|_=>false)).map (fun d=>d)=is.map D.int∧is≠[]:=by
  refine⟨((List.range (cs.length:Int).toNat).map fun i=>(0+(i:Nat):Int)).filter fun k=>decide (0<cs.getD k.toNat 0)&&decide (ls.getD k.toNat 0=0),?_,?_⟩
  ·unfold rng
   rw[show(List.range (cs.length:Int).toNat).map (fun i=>D.int (0+(i:Nat)))=((List.range (cs.length:Int).toNat).map fun i=>(0+(i:Nat):Int)).map D.int from by rw[List.map_map];rfl,List.filter_map,List.map_map]
   rfl
  ·intro z
   have:(0:Int)∈((List.range (cs.length:Int).toNat).map fun i=>(0+(i:Nat):Int)).filter fun k=>decide (0<cs.getD k.toNat 0)&&decide (ls.getD k.toNat 0=0):=by
    refine List.mem_filter.mpr ⟨List.mem_map.mpr ⟨0,List.mem_range.mpr (by omega),by simp⟩,?_⟩
    show(decide (0<cs.getD 0 0)&&decide (ls.getD 0 0=0))=true
    rw[decide_eq_true hw.1,decide_eq_true hw.2];rfl
   rw[z] at this
   cases this
 obtain⟨is,e,hne⟩:=e
 rw[e]
 walk_at "ds"
 walk_at "w"
 refine w_ne (z6q is _) ?_
 rw[decide_eq_false hne]
 walk_at "w"
 exact⟨rfl,rfl⟩
theorem z9a (c:Int) {k:Int} (hk:0≤k) (hk2:k≤1000) (M:List Cn):Fo (fun a M'=>∃x:Int,a = .val (.int x)∧0≤x∧x<2147483648∧M'=M) (q8d [.int c,.int k] M):=by
 have sh:CShl 1 90:=⟨by decide,by decide +kernel⟩
 walk_at "f0";unfold b_l_mixed
 walk_at "w"
 refine z_if (fun h1=>?_) (fun h1=>?_)
 ·walk_at "w"
  refine z_if (fun h2=>?_) (fun h2=>?_)
  ·walk_at "w"
   refine z_if (fun h3=>?_) (fun h3=>?_)
   ·walk_at "w"
    exact⟨_,rfl,by omega,by omega,rfl⟩
   ·walk_at "w"
    exact⟨_,rfl,by omega,by omega,rfl⟩
  ·walk_at "w"
   exact⟨_,rfl,by omega,by omega,rfl⟩
 ·walk_at "w"
  exact⟨_,rfl,by omega,by omega,rfl⟩
theorem z4e {ns:List Int} {k:Int} (h0:0≤k) (M:List Cn):Fo (fun a M'=>(∃x:Int,a = .val (.int x))∧M'=M) (q5v [.clst (ns.map D.int),.int k] M):=by
 walk_at "f0";unfold b_l_cell_at
 walk_at "w"
 rw[List.length_map]
 refine z_if (fun h=>?_) (fun h=>?_)
 ·walk_at "w"
  exact z6t rfl rfl rfl h0 h ⟨⟨_,rfl⟩,rfl⟩
 ·walk_at "w"
  exact⟨⟨_,rfl⟩,rfl⟩
theorem z0b {P:D→Prop} {L:List D} (h:∀d∈L,P d) {i:Int} (h0:0≤i) (h1:i<L.length):∃d,atI L i=some d∧P d:=by
 rw[z6p h0,List.getElem?_eq_getElem (by omega:i.toNat<L.length)]
 exact⟨_,rfl,h _ (List.getElem_mem _)⟩
/-- a thing that is no number from nought to m -/
def NoN (m:Int) (x:D):Prop:=El x∧numB 0 m x=false
theorem j3p {m:Int} {gs:List Int} {x:D} (hx:NoN m x) {i:Nat} (hi:i<gs.length) (hz:gs.length≤60):Bad 0 m (.lst (((gs.map D.int).take i++[x])++(gs.map D.int).drop (i+1))):=by
 refine .lst (fun y hy=>?_) ?_ ?_ ?_
 ·rcases List.mem_append.mp hy with hy|hy
  ·rcases List.mem_append.mp hy with hy|hy
   ·obtain⟨n,_,rfl⟩:=List.mem_map.mp (List.mem_of_mem_take hy);exact .int n
   ·rw[List.mem_singleton.mp hy];exact hx.1
  ·obtain⟨n,_,rfl⟩:=List.mem_map.mp (List.mem_of_mem_drop hy);exact .int n
 ·simp only[List.length_append,List.length_take,List.length_drop,List.length_map,List.length_singleton];omega
 ·simp only[List.length_append,List.length_take,List.length_drop,List.length_map,List.length_singleton];omega
 ·rw[List.all_append,List.all_append]
  simp[hx.2]
theorem j0a {gs:List Int} {m n:Int} (h1:1≤gs.length) (h2:gs.length≤60) (hm:0≤m) (hm2:m≤1000) (hn:0≤n) (hn2:n<2147483648) (M:List Cn):Fo (fun a M'=>(∃d,(a = .val d∨∃l,d = .lst l∧a = .new (.lst l))∧Bad 0 m d)∧M'=M) (q9u [.lst (gs.map D.int),.int m,.int n] M):=by
 walk_at "f0";unfold b_l_bad
 walk_at "w"
 rw[List.length_map]
 walk_at "w"
 refine z_if (fun q=>?_) (fun q=>?_)
 ·walk_at "w"
  refine q5o (l:=[D.int 1]) rfl rfl ⟨by decide,by decide,by show 1*65≤16777216;decide⟩ ?_
  walk_at "w"
  have hi:0≤n/64%8∧n/64%8<8:=by omega
  obtain⟨d,e1,e2⟩:=z0b (P:=Bad 0 m) (L:=[D.non,D.int 5,D.tup [D.int 1,D.int 2],D.str (Str.ofString "12"),D.lst [],D.lst (List.replicate (65:Int).toNat [D.int 1]).flatten,D.dK [],D.bl true]) (fun d hd=>by
   simp only[List.mem_cons,List.not_mem_nil,or_false] at hd
   rcases hd with rfl|rfl|rfl|rfl|rfl|rfl|rfl|rfl
   ·exact .non
   ·exact .int _
   ·exact .tup _
   ·exact .str _
   ·exact .len (by simp)
   ·exact .len (by decide)
   ·exact .dK _
   ·exact .bl _) (i:=n/64%8) hi.1 hi.2
  refine z3z rfl rfl rfl e1 ?_
  walk_at "w"
  exact⟨⟨d,.inl rfl,e2⟩,rfl⟩
 ·walk_at "w"
  have hi:0≤n/64%7∧n/64%7<7:=by omega
  obtain⟨d,e1,e2⟩:=z0b (P:=NoN m) (L:=[D.int (0-1-n/64%9),D.bl true,D.non,D.str (Str.ofString "1"),D.tup [D.int 1,D.int 2],D.int (m+1),D.lst [D.int 1]]) (fun d hd=>by
   simp only[List.mem_cons,List.not_mem_nil,or_false] at hd
   rcases hd with rfl|rfl|rfl|rfl|rfl|rfl|rfl
   ·refine⟨.int _,?_⟩
    show(decide (0≤0-1-n/64%9)&&_)=false
    rw[decide_eq_false (by omega)];rfl
   ·exact⟨.bl _,rfl⟩
   ·exact⟨.non,rfl⟩
   ·exact⟨.str _,rfl⟩
   ·exact⟨.tup _,rfl⟩
   ·refine⟨.int _,?_⟩
    show(decide (0≤m+1)&&decide (m+1≤m))=false
    rw[decide_eq_false (show ¬m+1≤m by omega),Bool.and_false]
   ·exact⟨.lst _,rfl⟩) (i:=n/64%7) hi.1 hi.2
  refine z3z rfl rfl rfl e1 ?_
  walk_at "w"
  have hr0:0≤n%(gs.length:Int):=Int.emod_nonneg _ (by omega)
  have hr1:n%(gs.length:Int)<gs.length:=Int.emod_lt_of_pos _ (by omega)
  rw[j1p _ hr0]
  refine q7t rfl rfl rfl (by rw[List.length_take,List.length_map];show _+1≤16777216;omega) ?_
  walk_at "w"
  rw[z5t _ (by omega)]
  refine q7t rfl rfl rfl (by rw[List.length_append,List.length_take,List.length_drop,List.length_map];show _+1+_≤16777216;omega) ?_
  walk_at "w"
  have:=j3p (m:=m) e2 (i:=(n%(gs.length:Int)).toNat) (gs:=gs) (by omega) h2
  rw[show(n%(gs.length:Int)+1).toNat=(n%(gs.length:Int)).toNat+1 by omega]
  exact⟨⟨_,.inr ⟨_,rfl,rfl⟩,this⟩,rfl⟩
def M0:List Cn:=[.tb 1000 q0n,.tb 1001 q0p,.tb 1002 z1f]
/-- the cells of the tables are as at first, others may have come -/
def Mo0 (M:List Cn):Prop:=∃c,M=M0++c
theorem z9w {QA:AI→Stt→Prop} {X:Exn→Stt→Prop} {s:Stt} {b:AI} (e:inOf s (.val (.bl false)) b=some false) (q:QA (.val (.bl true)) s):Wo QA X (fNin s (.val (.bl false)) b):=by
 unfold fNin
 rw[e];exact q
theorem z3g {d p:D} (h:∀M,q0o [d] M = .er eT M) {M:List Cn} (hM:Mo0 M):q3d [d,p] M = .ok (.val (.bl true)) M:=by
 obtain⟨c,rfl⟩:=hM
 refine q6j (P:=fun _ _=>True) ?_
 walk_at "f0";unfold b_l_counts_refused
 walk_at "w"
 refine q8k (q:=q0n) rfl ?_
 walk_at "w"
 refine q5e (z2s (h _)) ⟨rfl,?_⟩
 walk_at "w"
 refine q8k (q:=q0n) rfl ?_
 walk_at "w"
 refine q5e (z2f (h _)) ⟨rfl,?_⟩
 walk_at "w"
 refine z2a rfl (by decide) ?_
 walk_at "w"
 refine q8k (q:=q0n) rfl ?_
 walk_at "w"
 refine q5e (z8x (h _)) ⟨rfl,?_⟩
 walk_at "w"
 refine z2a rfl (by decide) ?_
 walk_at "w"
 refine q8k (q:=q0n) rfl ?_
 walk_at "w"
 refine q5e (z7t (h _)) ⟨rfl,?_⟩
 walk_at "w"
 refine z2a rfl (by decide) ?_
 walk_at "w"
 refine q8k (q:=q0n) rfl ?_
 walk_at "w"
 refine q5e (j4o (h _)) ⟨rfl,?_⟩
 walk_at "w"
 refine z2a rfl (by decide) ?_
 walk_at "w"
 refine z9w (by rfl) ?_
 walk_at "w"
 exact⟨rfl,rfl⟩
theorem z1m {d:D} (h:∀M,q0s [d] M = .er eT M) {M:List Cn} (hM:Mo0 M):Fo (fun a M'=>a = .val (.bl true)∧Mo0 M') (q2z [d] M):=by
 obtain⟨c,rfl⟩:=hM
 have c2:Cts [0,0]:=⟨by decide,by decide,by decide,by decide⟩
 walk_at "f0";unfold b_l_lengths_refused
 walk_at "w"
 refine q8k (q:=q0p) rfl ?_
 walk_at "w"
 refine q5e (z2g (h _)) ⟨rfl,?_⟩
 walk_at "w"
 refine q8k (q:=q0p) rfl ?_
 walk_at "w"
 refine j8t (z7x h) (fun _ _ z=>z.elim) ?_
 rintro _ _ ⟨rfl,c3,rfl⟩
 refine⟨rfl,?_⟩
 walk_at "w"
 refine z2a rfl (by decide) ?_
 walk_at "w"
 rw[List.append_assoc]
 refine q8k (q:=q0p) rfl ?_
 walk_at "w"
 refine q5e (z8f c2 (h _)) ⟨rfl,?_⟩
 walk_at "w"
 refine z2a rfl (by decide) ?_
 walk_at "w"
 refine z9w (by rfl) ?_
 walk_at "w"
 exact⟨rfl,_,rfl⟩
theorem q8j (n:Nat) (c:Int):(List.replicate n [D.int c]).flatten=(List.replicate n c).map D.int:=by
 rw[List.flatten_replicate_singleton,List.map_replicate]
theorem z0k {n:Nat} {c lo hi:Int} (h:lo≤c∧c≤hi):∀x∈List.replicate n c,lo≤x∧x≤hi:=fun x hx=>by rw[(List.mem_replicate.mp hx).2];exact h
theorem j3j {n:Nat} {c:Int} (h1:1≤n) (h2:n≤60) (hc:1≤c∧c≤9):Cts (List.replicate n c):=by
 refine⟨by rw[List.length_replicate];exact h1,by rw[List.length_replicate];omega,z0k ⟨by omega,by omega⟩,?_⟩
 rw[List.sum_replicate_int]
 have:(n:Int)*c≤60*9:=Int.mul_le_mul (by omega) hc.2 (by omega) (by omega)
 omega
abbrev CNo (d:D):Prop:=∀M,q0o [d] M = .er eT M
abbrev LNo (d:D):Prop:=∀M,q0s [d] M = .er eT M
theorem j0y {c:Int} (h:1≤c∧c≤900):CNo (.lst ((List.replicate 5 (200:Int)++[c]).map D.int)):=fun M=>by
 refine z3v (by simp) (by simp) (fun x hx=>?_) (by rw[List.sum_append];show 1000<1000+(c+0);omega) M
 rcases List.mem_append.mp hx with hx|hx
 ·exact z0k ⟨by omega,by omega⟩ x hx
 ·rw[List.mem_singleton.mp hx];omega
theorem j1u {c:Int} (h:1≤c∧c≤15):LNo (.lst ((List.replicate 4 (2:Int)++[c]).map D.int)):=fun M=>by
 refine q4h (by simp) (by simp) (fun x hx=>?_) ?_ M
 ·rcases List.mem_append.mp hx with hx|hx
  ·exact z0k ⟨by omega,by omega⟩ x hx
  ·rw[List.mem_singleton.mp hx];omega
 ·have hp:(0:Int)<2^(15-c).toNat:=Int.pow_pos (by decide)
  have e:rmL (List.replicate 4 (2:Int)++[c])=32768+(2^(15-c).toNat+0):=by
   unfold rmL
   rw[List.filter_append,List.map_append,List.sum_append]
   show _+((([c].filter fun l=>decide (0<l)).map fun l=>(2:Int)^(15-l).toNat).sum)=_
   rw[List.filter_cons_of_pos (by simp;omega)]
   rfl
  rw[e];omega
theorem j2y:∀n:Nat,n≤6→rmL (List.replicate n 4)≤32768:=by decide
theorem j0z:∀n:Nat,n≤4→rmL (0::List.replicate n 3)≤32768:=by decide
theorem j6b {s:Stt} {QA:AI→Stt→Prop} {X:Exn→Stt→Prop} {a b:AI} {k:Bool} (e:eqOf s a b=some k) (h:QA (.val (.bl k)) s):Wo QA X (fEq s a b):=by
 unfold fEq;rw[e];exact h
theorem lawT (ns:List Int) (hn:ns.length≤63):∃M',z5n [.clst (ns.map D.int)] M0 = .ok (.val (.bl true)) M':=by
 suffices h:Fo (fun a M'=>a = .val (.bl true)) (z5n [.clst (ns.map D.int)] M0) by
  revert h
  cases z5n [.clst (ns.map D.int)] M0 with
  | ok a M'=>intro h;exact⟨M',by rw[show a=_ from h]⟩
  | er _ _=>intro h;exact h.elim
  | no=>intro h;exact h.elim
 walk_at "f0";unfold b_law
 walk_at "w"
 rw[List.length_map]
 walk_at "w"
 refine z6v (fun i s=>∃(e1 e2 e3 e4 e5 e6 e8:Option Ent) (M:List Cn),Mo0 M∧s=⟨[some (.fz (.clst (ns.map D.int))),e1,e2,e3,e4,e5,e6,none,e8],M⟩) ⟨_,_,_,_,_,_,_,_,⟨[],(List.append_nil _).symm⟩,rfl⟩ ?_ ?_
 ·rintro i y s hi ⟨e1,e2,e3,e4,e5,e6,e8,M,hM,rfl⟩
  obtain⟨hi1,rfl⟩:=q8h hi
  rw[Int.zero_add]
  walk_at "w"
  refine j3q (fun j acc s=>s=⟨[some (.fz (.clst (ns.map D.int))),some (.fz (.int (i:Int))),e2,e3,e4,e5,e6,none,none],M⟩∧∃xs:List Int,acc=xs.map D.int∧xs.length=j∧∀x∈xs,0≤x∧x<2147483648) ⟨rfl,[],rfl,rfl,fun x hx=>by cases hx⟩ (by rw[q7r];decide) ?_ ?_
  ·rintro j y acc s hj ⟨rfl,xs,rfl,hxl,hxb⟩
   obtain⟨hj1,rfl⟩:=q8h hj
   walk_at "w"
   refine q9c (z4e (k:=(i:Int)) (by omega) _) ?_
   rintro _ _ ⟨⟨a,rfl⟩,rfl⟩
   walk_at "w"
   refine q9c (z9a (a+(i:Int)%5) (k:=0+(j:Int)) (by omega) (by omega) _) ?_
   rintro _ _ ⟨b,rfl,hb1,hb2,rfl⟩
   walk_at "w"
   refine⟨rfl,xs++[b],by rw[List.map_append];rfl,by rw[List.length_append,hxl];rfl,fun x hx=>?_⟩
   rcases List.mem_append.mp hx with hx|hx
   ·exact hxb x hx
   ·rw[List.mem_singleton.mp hx];exact⟨hb1,hb2⟩
  rintro l s2 ⟨rfl,xs,rfl,hxl,hxb⟩
  rw[q7r] at hxl
  obtain⟨x,y,rfl⟩:∃x y,xs=[x,y]:=by
   match xs,hxl with
   | [x,y],_=>exact⟨x,y,rfl⟩
  obtain⟨hx1,hx2⟩:=hxb x (by simp)
  obtain⟨hy1,hy2⟩:=hxb y (by simp)
  walk_at "w"
  obtain⟨n,hn1,hn2,hne⟩:∃n:Nat,1≤n∧n≤5∧(1+y/16%5).toNat=n:=⟨_,by omega,by omega,rfl⟩
  obtain⟨c,hc1,hc2,hce⟩:∃c:Int,1≤c∧c≤9∧1+y%9=c:=⟨_,by omega,by omega,rfl⟩
  rw[hce]
  refine q5o (l:=[D.int c]) rfl rfl ⟨by omega,by omega,by show 1*_≤16777216;omega⟩ ?_
  rw[hne,q8j]
  have hcs:=j3j (n:=n) (c:=c) hn1 (by omega) ⟨hc1,hc2⟩
  have hlen:(List.replicate n c).length=n:=List.length_replicate
  have hw0:0<(List.replicate n c).getD 0 0:=by
   obtain⟨k,rfl⟩:∃k,n=k+1:=⟨n-1,by omega⟩
   show(0:Int)<c;omega
  generalize hcse:List.replicate n c=cs at hcs hlen hw0 ⊢
  walk_at "w"
  refine q9c (j0a (gs:=cs) (m:=1000) (n:=x) (by omega) (by omega) (by omega) (by omega) hx1 hx2 M) ?_
  rintro a M ⟨⟨d,hd,hb⟩,rfl⟩
  have ht:∀s,toV a s = .ok d s:=by rcases hd with rfl|⟨l,rfl,rfl⟩<;>intro s<;>rfl
  rw[ht]
  walk_at "wi"
  refine j0b (fun s=>∃d e9,CNo d∧s=⟨[some (.fz (.clst (ns.map D.int))),some (.fz (.int (i:Int))),some (.fz (.int x)),some (.fz (.int y)),some (.fz (.lst (cs.map D.int))),some (.fz d),e6,none,e9],M⟩) ?_ ?_
  ·walk_at "w"
   refine z_if (fun q=>?_) (fun q=>?_)
   ·walk_at "w"
    refine q5o (l:=[D.int 200]) rfl rfl ⟨by decide,by decide,by show 1*5≤16777216;decide⟩ ?_
    walk_at "w"
    refine q7t rfl rfl rfl (by show 5+1≤16777216;decide) ?_
    walk_at "w"
    exact⟨_,_,j0y (c:=1+y%900) (by omega),rfl⟩
   ·walk_at "w"
    exact⟨_,_,fun M=>z4l hb M,rfl⟩
  intro s hs
  obtain⟨d,e9,hd,e⟩:=hs
  subst e
  walk_at "w"
  obtain⟨pp,ep,-⟩:=z0b (P:=fun _=>True) (L:=[D.lst [],D.non,D.lst [D.tup [D.int 0,D.int 1]],D.str (Str.ofString "paper")]) (fun _ _=>trivial) (i:=y/256%4) (by omega) (by show _<4;omega)
  refine z3z rfl rfl rfl ep ?_
  walk_at "w"
  refine q4x (z3g hd hM) ?_
  walk_at "w"
  refine q5o (l:=[D.int 2]) rfl rfl ⟨by decide,by decide,by show 1*4≤16777216;decide⟩ ?_
  walk_at "w"
  refine q7t rfl rfl rfl (by show 4+1≤16777216;decide) ?_
  walk_at "w"
  obtain⟨dl,el,hdl⟩:=z0b (P:=LNo) (L:=[D.lst [D.int 1,D.int 1,D.int 15],D.lst ((List.replicate (4:Int).toNat [D.int 2]).flatten++[D.int (1+y%15)]),D.lst [D.int 1,D.int 2,D.int 3,D.int 3,D.int 15],D.lst [D.int 15,D.int 1,D.int 1]]) (fun z hz=>by
   simp only[List.mem_cons,List.not_mem_nil,or_false] at hz
   rcases hz with rfl|rfl|rfl|rfl
   ·exact fun M=>q4h (ls:=[1,1,15]) (by decide) (by decide) (by decide) (by decide) M
   ·exact j1u (c:=1+y%15) (by omega)
   ·exact fun M=>q4h (ls:=[1,2,3,3,15]) (by decide) (by decide) (by decide) (by decide) M
   ·exact fun M=>q4h (ls:=[15,1,1]) (by decide) (by decide) (by decide) (by decide) M) (i:=y/1024%4) (by omega) (by show _<4;omega)
  refine z3z rfl rfl rfl el ?_
  walk_at "wi"
  refine j0b (fun s=>∃d2,LNo d2∧s=⟨[some (.fz (.clst (ns.map D.int))),some (.fz (.int (i:Int))),some (.fz (.int x)),some (.fz (.int y)),some (.fz (.lst (cs.map D.int))),some (.fz d),some (.fz d2),none,e9],M⟩) ?_ ?_
  ·walk_at "w"
   refine z_if (fun q=>?_) (fun q=>?_)
   ·walk_at "w"
    obtain⟨n2,hn3,hn4,hne2⟩:∃n:Nat,1≤n∧n≤5∧(1+y/16%4).toNat=n:=⟨_,by omega,by omega,rfl⟩
    refine q5o (l:=[D.int (2+y%3)]) rfl rfl ⟨by omega,by omega,by show 1*_≤16777216;omega⟩ ?_
    rw[hne2,q8j]
    walk_at "w"
    refine q9c (j0a (gs:=List.replicate n2 (2+y%3)) (m:=15) (n:=x) (by rw[List.length_replicate];exact hn3) (by rw[List.length_replicate];omega) (by omega) (by omega) hx1 hx2 M) ?_
    rintro a M ⟨⟨d3,hd3,hb3⟩,rfl⟩
    have ht:∀s,toV a s = .ok d3 s:=by rcases hd3 with rfl|⟨l,rfl,rfl⟩<;>intro s<;>rfl
    rw[ht]
    walk_at "w"
    exact⟨_,fun M=>z4c hb3 M,rfl⟩
   ·walk_at "w"
    exact⟨_,hdl,rfl⟩
  intro s hs
  obtain⟨d2,hd2,e⟩:=hs
  subst e
  walk_at "w"
  refine q9c (z1m hd2 hM) ?_
  rintro _ M2 ⟨rfl,c9,rfl⟩
  walk_at "w"
  with_reducible refine q8k (q:=z1f) ?_ ?_
  ·rfl
  walk_at "w"
  rw[List.length_map]
  walk_at "w"
  obtain⟨mi,hmi⟩:∃mi:Int,(cs.length:Int)+1=mi:=⟨_,rfl⟩
  rw[hmi]
  refine q5o (l:=[D.int 4]) rfl rfl ⟨by omega,by omega,by show 1*_≤16777216;omega⟩ ?_
  rw[q8j,show mi.toNat=n+1 by omega]
  walk_at "w"
  refine q5e (z1x hcs (by simp) (by simp;omega) (z0k ⟨by omega,by omega⟩) (j2y (n+1) (by omega)) (by rw[List.length_replicate];omega) _) ⟨rfl,?_⟩
  walk_at "w"
  with_reducible refine q8k (q:=z1f) ?_ ?_
  ·rfl
  walk_at "w"
  rw[List.length_map]
  walk_at "w"
  obtain⟨mj,hmj⟩:∃mj:Int,(cs.length:Int)-1=mj:=⟨_,rfl⟩
  rw[hmj]
  refine q5o (l:=[D.int 3]) rfl rfl ⟨by omega,by omega,by show 1*_≤16777216;omega⟩ ?_
  rw[q8j,show mj.toNat=n-1 by omega]
  walk_at "w"
  refine q7t rfl rfl rfl (by rw[List.length_map,List.length_replicate];show 1+_≤16777216;omega) ?_
  walk_at "w"
  refine q5e (z6w (ls:=0::List.replicate (n-1) 3) hcs (by simp;omega) (fun z hz=>by
   rcases List.mem_cons.mp hz with rfl|hz
   ·omega
   ·exact z0k ⟨by omega,by omega⟩ z hz) (j0z (n-1) (by omega)) ⟨hw0,rfl⟩ _) ⟨rfl,?_⟩
  walk_at "w"
  exact⟨_,_,_,_,_,_,_,_,⟨c9,rfl⟩,rfl⟩
 ·rintro s ⟨e1,e2,e3,e4,e5,e6,e8,M,hM,rfl⟩
  walk_at "w"
  refine q5o (l:=[D.int 15]) rfl rfl ⟨by decide,by decide,by show 1*24≤16777216;decide⟩ ?_
  walk_at "w"
  refine q5o (l:=[D.int 16]) rfl rfl ⟨by decide,by decide,by show 1*40≤16777216;decide⟩ ?_
  walk_at "w"
  refine q7t rfl rfl rfl (by decide) ?_
  walk_at "w"
  rw[show(List.replicate (24:Int).toNat [D.int 15]).flatten++(List.replicate (40:Int).toNat [D.int 16]).flatten=(List.replicate 24 (15:Int)++List.replicate 40 16).map D.int from rfl]
  refine q4x (z2c (cs:=List.replicate 24 (15:Int)++List.replicate 40 16) ⟨by decide,by decide,by decide,by decide⟩ M) ?_
  walk_at "w"
  rw[List.length_map,z5l,show(fpF 0 (List.replicate 24 (15:Int)++List.replicate 40 16)).length=64 by decide +kernel]
  refine z_b0 (by decide) ?_
  walk_at "w"
  refine q4x (z7i (cs:=[1000]) (ls:=[15]) ⟨by decide,by decide,by decide,by decide⟩ rfl (by decide) (fun i hi h=>?_) (by decide) M) ?_
  ·obtain rfl:i=0:=by simp at hi;exact hi
   show(0:Int)<15;decide
  walk_at "w"
  refine z_b0 (by decide) ?_
  walk_at "w"
  refine q5y (fun d=>match d with|.int i=>.int (1+i)|d=>d) (by rw[q7r];decide) (fun z hz=>?_) ?_
  ·obtain⟨j,hj⟩:=List.mem_iff_getElem?.mp hz
   obtain⟨hj,rfl⟩:=q8h hj
   walk_at "w"
   exact⟨rfl,rfl⟩
  walk_at "w"
  refine q7t rfl rfl rfl (by decide) ?_
  walk_at "w"
  refine q5o (l:=[D.int 6]) rfl rfl ⟨by decide,by decide,by show 1*64≤16777216;decide⟩ ?_
  walk_at "w"
  rw[q8j]
  refine q4x (z2l (ls:=List.replicate (64:Int).toNat 6) (by decide) (by decide) ⟨by decide,by decide⟩ M) ?_
  walk_at "w"
  refine z3z (d:=.tup [.int 6,.int 63]) rfl rfl rfl ?_ ?_
  ·rw[z6p (by decide)]
   show some (wrd (List.replicate 64 6) 63)=_
   rw[show wrd (List.replicate 64 6) 63=tP (6,q6i (List.replicate 64 6) 63) from rfl,show q6i (List.replicate 64 6) 63=63 by decide +kernel]
   rfl
  walk_at "w"
  refine j6b (k:=true) (by rfl) ?_
  walk_at "w"
  refine q4x (z2l (ls:=[1,2,3,4,5,6,7,8,9,10,11,12,13,14,15,15]) (by decide) (by decide) ⟨by decide,by decide⟩ M) ?_
  walk_at "w"
  exact rfl
theorem j2t {P:Program} {w:World} {K:PySem.W.Frag} {mg:Str→Option Value} {base:Heap} (hl:∀ns:List Int,ns.length≤63→∃M',z5n [.clst (ns.map D.int)] [.tb 1000 q0n,.tb 1001 q0p,.tb 1002 z1f] = .ok (.val (.bl true)) M') (T:Tx K mg) (B:TbB T base) (Dn:TbD T):FnOk P w K mg base CX0 10 T.a_law T.d_law ["_law_script"] (z6e K [T.tp_l_counts_refused,T.tp_l_lengths_refused,T.tp_law]) :=
 (j4x T B).imp (fun vs H Q E h=>by
  obtain⟨a,ns,rfl,hS,hn,hT,q⟩:=h
  obtain⟨M',e⟩:=hl ns hn
  obtain⟨S,r,g⟩:=rel3 (K:=K) (ct:=ctT T) (q0:=q0n) (q1:=q0p) (q2:=z1f) (hT _ (by simp)) (hT _ (by simp)) (hT _ (by simp)) Dn.1 Dn.2.1 Dn.2.2 rfl rfl rfl rfl
  refine⟨S,_,[.clst (ns.map D.int)],r,.cons (.clst (j7v hS g) (z2y ns)) .nil,?_⟩
  rw[e]
  intro S' v H' st rel it
  cases q8n it
  exact q H')
end K14
theorem PySem.Challenge.cw_tornshelf_k14_tables_refused_holds : PySem.Challenge.rw_tornshelf_k14_tables_refused.Holds :=
 K14.early fun T B D=>K14.j2t K14.lawT T B D
