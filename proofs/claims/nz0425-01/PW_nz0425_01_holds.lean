import PyProof.Rows.All
import Wide.All
import OpenK.AllK
import Wide.FinOn
import KE.KDictSum
import KE.KDictOf
import Lean
import PySem.Challenge.RW_nz0425_01
set_option Elab.async false
set_option linter.unusedVariables false
set_option genInjectivity false
set_option genSizeOf false
set_option bootstrap.genMatcherCode false
namespace Lin.Internal
set_option genCtorIdx false in
inductive E | v (i:Nat) | n (k:Nat) | p (a b:E) | m (k:Nat) (a:E) | r (a:E) (k:Nat) | g (a:E) | c (a:E)
set_option genCtorIdx false in
inductive F | l (a b:E) | q (a b:E) | L (a b:E) | Q (a b:E) | t (f:F) | a (f g:F) | o (f g:F)
section
variable (x:List Nat) (y:List Int)
noncomputable def N:E→Nat
 | .v i=>x.getD i 0 | .n k=>k | .p a b=>N a+N b | .m k a=>k*N a | .r a k=>N a*k | .g _=>0 | .c _=>0
noncomputable def Z:E→Int
 | .v i=>y.getD i 0 | .n k=>k | .p a b=>Z a+Z b | .m k a=>k*Z a | .r a k=>Z a*k | .g a =>-Z a | .c a=>N x a
noncomputable def D:F→Prop
 | .l a b=>N x a≤N x b | .q a b=>N x a=N x b | .L a b=>Z x y a≤Z x y b | .Q a b=>Z x y a=Z x y b
 | .t f=>¬ D f | .a f g=>D f∧D g | .o f g=>D f∨D g
noncomputable def st (g:F):List F→Prop
 | []=>D x y g
 | f::fs=>D x y f→st g fs
end
noncomputable abbrev P:=List Int×List Int
noncomputable def ad:List Int→List Int→List Int
 | [],b=>b
 | a::r,b=>(a+b.headD 0)::ad r b.tail
noncomputable def un:Nat→List Int
 | 0=>[1] | i+1=>0::un i
noncomputable def sc (k:Int) (a:List Int):List Int:=a.map (k*·)
noncomputable def pa (p q:P):P:=(ad p.1 q.1,ad p.2 q.2)
noncomputable def ps (k:Int) (p:P):P:=(sc k p.1,sc k p.2)
noncomputable def fN:E→P
 | .v i=>(un (i+1),[]) | .n k=>([k],[]) | .p a b=>pa (fN a) (fN b) | .m k a=>ps k (fN a) | .r a k=>ps k (fN a) | .g _=>([],[]) | .c _=>([],[])
noncomputable def fZ:E→P
 | .v i=>([],un i) | .n k=>([k],[]) | .p a b=>pa (fZ a) (fZ b) | .m k a=>ps k (fZ a) | .r a k=>ps k (fZ a) | .g a=>ps (-1) (fZ a) | .c a=>fN a
noncomputable def dot:List Int→List Int→Int
 | [],_=>0 | a::r,z=>a*z.headD 0+dot r z.tail
section
variable (x:List Nat) (y:List Int)
noncomputable def pd (p:P):Int:=dot p.1 (1::x.map Int.ofNat)+dot p.2 y
theorem dot_ad:∀ a b z:List Int,dot (ad a b) z=dot a z+dot b z
 | [],b,z=>(Int.zero_add _).symm
 | a::r,b,z=>by
  rw [ad,dot,dot,dot_ad r,Int.add_mul,show dot b z=b.headD 0*z.headD 0+dot b.tail z.tail by cases b;exact (by rw [dot,List.headD_nil,Int.zero_mul];rfl);rfl]
  omega
theorem dot_sc (k:Int):∀ a z:List Int,dot (sc k a) z=k*dot a z
 | [],z=>(Int.mul_zero _).symm
 | a::r,z=>by rw [sc,List.map_cons,dot,dot,← sc,dot_sc k r,Int.mul_add,Int.mul_assoc]
theorem dot_un:∀ (i:Nat) (z:List Int),dot (un i) z=z.getD i 0
 | 0,[]=>rfl
 | 0,c::z=>by rw [un,dot,Int.one_mul];exact Int.add_zero _
 | i+1,z=>by rw [un,dot,dot_un i,Int.zero_mul,Int.zero_add];cases z <;> rfl
theorem pa_d (p q:P):pd x y (pa p q)=pd x y p+pd x y q:=by rw [pd,pa,dot_ad,dot_ad];unfold pd;omega
theorem ps_d (k:Int) (p:P):pd x y (ps k p)=k*pd x y p:=by rw [pd,ps,dot_sc,dot_sc,pd,Int.mul_add]
theorem pn_d (k:Int):pd x y ([k],[])=k:=by
 show k*1+0+0=k
 rw [Int.mul_one,Int.add_zero,Int.add_zero]
theorem fN_d:∀ e:E,pd x y (fN e)=N x e
 | .v i=>by
  show dot (un (i+1)) _+0=((x.getD i 0:Nat):Int)
  rw [dot_un,Int.add_zero,List.getD_cons_succ,List.getD_eq_getElem?_getD,List.getD_eq_getElem?_getD,List.getElem?_map]
  cases x[i]? <;> rfl
 | .n k=>pn_d x y k
 | .p a b=>by rw [fN,pa_d,fN_d a,fN_d b];rfl
 | .m k a=>by rw [fN,ps_d,fN_d a];rfl
 | .r a k=>by rw [fN,ps_d,fN_d a];exact Int.mul_comm ..
 | .g _=>rfl
 | .c _=>rfl
theorem fZ_d:∀ e:E,pd x y (fZ e)=Z x y e
 | .v i=>(Int.zero_add _).trans (dot_un i y)
 | .n k=>pn_d x y k
 | .p a b=>by rw [fZ,pa_d,fZ_d a,fZ_d b];rfl
 | .m k a=>by rw [fZ,ps_d,fZ_d a];rfl
 | .r a k=>by rw [fZ,ps_d,fZ_d a];exact Int.mul_comm ..
 | .g a=>by rw [fZ,ps_d,fZ_d a];exact Int.neg_one_mul _
 | .c a=>fN_d x y a
noncomputable def df (a b:P) (k:Int):P:=pa (pa a (ps (-1) b)) ([k],[])
theorem df_d {a b:P} {k:Int} (h:pd x y a+k≤pd x y b):pd x y (df a b k)≤0:=by
 rw [df,pa_d,pa_d,ps_d,pn_d];omega
noncomputable def Ok (bs:List (List P)):Prop:=∃ b∈bs,∀ p∈b,pd x y p≤0
noncomputable def le (b:Bool) (p q:P):List (List P):=cond b [[df p q 0]] [[df q p 1]]
noncomputable def eq (b:Bool) (p q:P):List (List P):=cond b [[df p q 0,df q p 0]] [[df p q 1],[df q p 1]]
noncomputable def pr (u v:List (List P)):List (List P):=u.flatMap fun a=>v.map (a++·)
noncomputable def dn:Bool→F→List (List P)
 | b,.l e h=>le b (fN e) (fN h) | b,.q e h=>eq b (fN e) (fN h) | b,.L e h=>le b (fZ e) (fZ h) | b,.Q e h=>eq b (fZ e) (fZ h)
 | b,.t f=>dn (!b) f
 | b,.a f g=>cond b (pr (dn b f) (dn b g)) (dn b f++dn b g)
 | b,.o f g=>cond b (dn b f++dn b g) (pr (dn b f) (dn b g))
theorem ok1 {p:P} {r:List (List P)} (h:pd x y p≤0):Ok x y ([p]::r):=⟨_,.head _,fun _ h'=>List.mem_singleton.mp h'▸h⟩
theorem okl {u v:List (List P)}:Ok x y u→Ok x y (u++v):=fun ⟨b,m,h⟩=>⟨b,List.mem_append_left _ m,h⟩
theorem okr {u v:List (List P)}:Ok x y v→Ok x y (u++v):=fun ⟨b,m,h⟩=>⟨b,List.mem_append_right _ m,h⟩
theorem okp {u v:List (List P)}:Ok x y u→Ok x y v→Ok x y (pr u v):=fun ⟨b,m,h⟩ ⟨b',m',h'⟩ =>
 ⟨b++b',List.mem_flatMap.mpr ⟨b,m,List.mem_map.mpr ⟨b',m',rfl⟩⟩,fun p q=>(List.mem_append.mp q).elim (h p) (h' p)⟩
theorem le_ok {p q:P}:∀ b,cond b (pd x y p≤pd x y q) (¬ pd x y p≤pd x y q)→Ok x y (le b p q)
 | true,h=>ok1 x y (df_d x y ((Int.add_zero _).symm▸h))
 | false,h=>ok1 x y (df_d x y (Int.not_le.mp h))
theorem eq_ok {p q:P}:∀ b,cond b (pd x y p=pd x y q) (¬ pd x y p=pd x y q)→Ok x y (eq b p q)
 | true,h=>okp x y (ok1 x y (df_d x y (by rw [Int.add_zero];exact Int.le_of_eq h)):Ok x y [[df p q 0]]) (ok1 x y (df_d x y (by rw [Int.add_zero];exact Int.le_of_eq h.symm)):Ok x y [[df q p 0]])
 | false,h=>(Int.lt_or_gt_of_ne h).elim (fun h=>ok1 x y (df_d x y h)) fun h=>okr x y (u:=[_]) (ok1 x y (df_d x y h))
theorem dn_ok:∀ (f:F) (b:Bool),cond b (D x y f) (¬ D x y f)→Ok x y (dn b f)
 | .l e g,b,h=>le_ok x y b (by rw [fN_d,fN_d];cases b;exact fun q=>h (Int.ofNat_le.mp q);exact Int.ofNat_le.mpr h)
 | .q e g,b,h=>eq_ok x y b (by rw [fN_d,fN_d];cases b;exact fun q=>h (Int.ofNat_inj.mp q);exact Int.ofNat_inj.mpr h)
 | .L e g,b,h=>le_ok x y b (by rw [fZ_d,fZ_d];exact h)
 | .Q e g,b,h=>eq_ok x y b (by rw [fZ_d,fZ_d];exact h)
 | .t f,true,h=>dn_ok f false h
 | .t f,false,h=>dn_ok f true (Classical.not_not.mp h)
 | .a f g,true,h=>okp x y (dn_ok f true h.1) (dn_ok g true h.2)
 | .a f g,false,h=>(Classical.em (D x y f)).elim (fun q=>okr x y (dn_ok g false fun q'=>h ⟨q,q'⟩)) fun q=>okl x y (dn_ok f false q)
 | .o f g,true,h=>Or.elim h (fun h=>okl x y (dn_ok f true h)) fun h=>okr x y (dn_ok g true h)
 | .o f g,false,h=>okp x y (dn_ok f false fun q=>h (.inl q)) (dn_ok g false fun q=>h (.inr q))
end
noncomputable def sm:Nat→List P→P
 | _,[]=>([],[])
 | n,p::r=>pa (ps (n % 1024:Nat) p) (sm (n / 1024) r)
noncomputable def bad (p:P):Bool:=Nat.blt 0 (p.1.headD 0).toNat&&p.1.tail.all (fun k=>Int.decEq k k.natAbs |>.decide)&&p.2.all (fun k=>Int.decEq k 0 |>.decide)
noncomputable def al:List (List P)→List Nat→Bool
 | [],_=>true
 | b::bs,ms=>bad (sm (ms.headD 0) b)&&al bs ms.tail
section
variable (x:List Nat) (y:List Int)
theorem dot_pos:∀ {u:List Int} (x:List Nat),u.all (fun k=>Int.decEq k k.natAbs |>.decide)=true→0≤dot u (x.map Int.ofNat)
 | [],x,_=>Int.le_refl _
 | a::r,z,h=>by
  rw [List.all_cons,Bool.and_eq_true] at h
  have h1:=of_decide_eq_true h.1
  have h2:=dot_pos z.tail h.2
  rw [List.map_tail] at h2
  refine Int.add_nonneg (Int.mul_nonneg (h1▸Int.natCast_nonneg _) ?_) h2
  cases z
  ·exact Int.le_refl _
  ·exact Int.natCast_nonneg _
theorem dot_zero:∀ {u:List Int} (y:List Int),u.all (fun k=>Int.decEq k 0 |>.decide)=true→dot u y=0
 | [],x,_=>rfl
 | a::r,z,h=>by
  rw [List.all_cons,Bool.and_eq_true] at h
  rw [dot,of_decide_eq_true h.1,dot_zero _ h.2,Int.zero_mul];rfl
theorem sm_d:∀ (ps:List P) (n:Nat),(∀ p∈ps,pd x y p≤0)→pd x y (sm n ps)≤0
 | [],n,_=>Int.le_refl _
 | p::r,n,h=>by
  rw [sm,pa_d,ps_d]
  exact Int.add_nonpos (Int.mul_nonpos_of_nonneg_of_nonpos (Int.natCast_nonneg _) (h p (.head _))) (sm_d r _ fun q hq=>h q (.tail _ hq))
theorem bad_d {p:P} (h:bad p=true) (q:pd x y p≤0):False:=by
 rw [bad,Bool.and_eq_true,Bool.and_eq_true] at h
 rw [pd,dot_zero y h.2] at q
 match p,h,q with
 | (c::r,w),h,q =>
  have h2:=dot_pos x h.1.2
  have h3:0<c.toNat:=Nat.le_of_ble_eq_true h.1.1
  have q:c*1+dot r (x.map Int.ofNat)+0≤0:=q
  have h2:0≤dot r (x.map Int.ofNat):=h2
  omega
theorem al_ok:∀ (bs:List (List P)) (ms:List Nat),al bs ms=true→Ok x y bs→False
 | [],_,_,h=>nomatch h
 | b::bs,ms,h,⟨c,hc,hp⟩=>by
  rw [al,Bool.and_eq_true] at h
  cases hc with
  | head=>exact bad_d x y h.1 (sm_d x y _ _ hp)
  | tail _ hc=>exact al_ok bs _ h.2 ⟨c,hc,hp⟩
end
noncomputable def go (g:F) (b:List (List P)):List F→List (List P)
 | []=>pr b (dn false g)
 | f::fs=>go g (pr b (dn true f)) fs
theorem st_ok {x:List Nat} {y:List Int} {g:F} {ms:List Nat}:∀ (fs:List F) (b:List (List P)),Ok x y b→al (go g b fs) ms=true→st x y g fs
 | [],b,ha,h=>Classical.byContradiction fun hg=>al_ok x y _ _ h (okp x y ha (dn_ok x y g false hg))
 | f::fs,b,ha,h=>fun hf=>st_ok fs _ (okp x y ha (dn_ok x y f true hf)) h
theorem lin (x:List Nat) (y:List Int) (fs:List F) (g:F) (ms:List Nat) (h:al (go g [[]] fs) ms=true):st x y g fs:=st_ok fs _ ⟨[],.head _,nofun⟩ h
noncomputable def A:=E.v 0
noncomputable def B:=E.v 1
noncomputable def C:=E.v 2
noncomputable def V:=E.v 3
noncomputable def G:=E.v 4
noncomputable def H:=E.v 5
noncomputable def J:=E.v 6
noncomputable def i (a:E):=E.p a (.n 1)
noncomputable def k (a b:E):=F.l (i a) b
noncomputable def K (a b:E):=F.L (i a) b
noncomputable def M (a b w:E):=F.o (.a (.l a b) (.q w a)) (.a (.l b a) (.q w b))
noncomputable def W (a b w:E):=F.o (.a (.L a b) (.Q w a)) (.a (.L b a) (.Q w b))
noncomputable def Y (a b w:E):=F.o (.a (.L a b) (.Q w b)) (.a (.L b a) (.Q w a))
noncomputable def S (a b w:E):=F.o (.a (.l b a) (.q (.p w b) a)) (.a (.l a b) (.q w (.n 0)))
noncomputable def T (a w:E):=F.o (.a (.L (.n 0) a) (.Q (.c w) a)) (.a (.L a (.n 0)) (.q w (.n 0)))
noncomputable def U (a w:E):=F.o (.a (.L (.n 0) a) (.Q (.c w) a)) (.a (.L a (.n 0)) (.Q (.c w) (.g a)))
noncomputable def R (a w:E) (k:Nat):=F.a (.l (.m k w) a) (.l (i a) (.p (.m k w) (.n k)))
theorem mn (a b:Nat):(a≤b∧min a b=a)∨(b≤a∧min a b=b):=(Nat.le_total a b).imp (fun h=>⟨h,Nat.min_eq_left h⟩) fun h=>⟨h,Nat.min_eq_right h⟩
theorem wn (a b:Int):(a≤b∧min a b=a)∨(b≤a∧min a b=b):=(Int.le_total a b).imp (fun h=>⟨h,Int.min_eq_left h⟩) fun h=>⟨h,Int.min_eq_right h⟩
theorem yn (a b:Int):(a≤b∧max a b=b)∨(b≤a∧max a b=a):=(Int.le_total a b).imp (fun h=>⟨h,Int.max_eq_right h⟩) fun h=>⟨h,Int.max_eq_left h⟩
theorem sb (a b:Nat):(b≤a∧a-b+b=a)∨(a≤b∧a-b=0):=(Nat.le_total b a).imp (fun h=>⟨h,Nat.sub_add_cancel h⟩) fun h=>⟨h,Nat.sub_eq_zero_of_le h⟩
theorem tn (a:Int):(0≤a∧(a.toNat:Int)=a)∨(a≤0∧a.toNat=0):=(Int.le_total 0 a).imp (fun h=>⟨h,Int.toNat_of_nonneg h⟩) fun h=>⟨h,Int.toNat_of_nonpos h⟩
theorem na (a:Int):(0≤a∧(a.natAbs:Int)=a)∨(a≤0∧(a.natAbs:Int) = -a):=(Int.le_total 0 a).imp (fun h=>⟨h,Int.natAbs_of_nonneg h⟩) fun h=>⟨h,Int.ofNat_natAbs_of_nonpos h⟩
theorem dv (a:Nat) (k:Nat) (h:0<k):k*(a / k)≤a∧a<k*(a / k)+k:=⟨Nat.mul_div_le a k,Nat.lt_mul_div_succ a h⟩
example {a b c:Nat}:a≤b→b≤c→a≤c:=lin [a,b,c] [] [.l A B,.l B C] (.l A C) [1049601] rfl
end Lin.Internal
open PySem PySem.W PyProof.Rows PySem.Calls
set_option Elab.async false
set_option maxRecDepth 100000
namespace Mine.Internal.Hd
noncomputable abbrev P0:Program:=PySem.Challenge.pw_nz0425_01
noncomputable def st (i:Nat):Stmt:=P0.main.body.getD i (.Pass default)
noncomputable def sm (i j:Nat):Stmt:=match st i with | .ClassDef _ _ _ b _ _ _ _ _ _ _=>b.getD j (.Pass default) | s=>s
noncomputable abbrev s (x:String) (k:Nat):Value:=.str (Str.ofString x) k
noncomputable abbrev i (n:Int):Value:=.int n 0
noncomputable abbrev r (a:Addr):Value:=.ref a
noncomputable def t (l:List Value):Obj:={ cls:=.type "tuple",data:=.seq l.toArray }
noncomputable def ls (l:List Value) (n:Nat):Obj:={ cls:=.type "list",data:=.seq l.toArray n }
noncomputable def f (l:List Value):Obj:={ cls:=.none,data:=.fields l.toArray }
noncomputable def oo (c:String) (l:List Value):Obj:={ cls:=.type c,data:=.fields l.toArray }
noncomputable def fr (l:List (Option Value)):Obj:={ cls:=.type "frame",slots:=l.toArray }
noncomputable def es (P:Params) (l:List (String×Nat×Value)):List DictEntry:=l.map fun e=>⟨PyData.keyHash P (Str.ofString e.1),s e.1 e.2.1,e.2.2⟩
noncomputable def dd (P:Params) (l:List (String×Nat×Value)) (n:Nat):Obj:={ cls:=.type "dict",data:=.dict (es P l).toArray n }
noncomputable def df (P:Params) (l:List (String×Nat×Value)) (n:Nat):Obj:={ cls:=.type "frame",data:=.dict (es P l).toArray n }
noncomputable def co (n q:String) (k ln ac fl:Nat) (a:Value) (b:Bool) (x:Nat) (c:Value) (l:List Value) (e:Nat):Obj :=
 oo "code" ([s n k,s q (k+1),s "/claim/cut.py" (k+2),i ln,i ac,i 0,i 0,i fl,a,.bool b,i x,c,.none]++l++[i e,i ln,s "/claim/cut.py" (e+1)])
noncomputable def cl (l:List (Option Value)) (n q:String) (ns:Addr) (mro bases sub:List Value):Obj:={ cls:=.type "type",data:=.cls { name:=Str.ofString n,bases:=bases,mro:=mro,ns:=ns,qualname:=Str.ofString q,subclasses:=sub },slots:=l.toArray }
noncomputable def fd0 (st:Stmt) (q:String):FuncData:=match st with
 | .FunctionDef n a b _ _ _ sc _ _ _=>{ name:=n,qualname:=Str.ofString q,params:=a,body:=.stmts b,scope:=sc,globals:=0,closure:=[],defaults:=.none,kwdefaults:=.none }
 | _=>default
noncomputable def fc (st:Stmt) (q:String):Obj:={ cls:=.none,data:=.func (fd0 st q) }
noncomputable def fu (st:Stmt) (q:String) (c d m:Value):Obj:={ cls:=.type "function",data:=.func { fd0 st q with globals:=3,code:=c,defaults:=d,pyModule:=m } }
noncomputable def nms (st:Stmt):List Str:=match st with | .FunctionDef _ _ _ _ _ _ sc _ _ _=>sc.names.filterMap fun p=>if p.2==.local then some p.1 else none | _=>[]
noncomputable def nam (st:Stmt):Str:=match st with | .FunctionDef n _ _ _ _ _ _ _ _ _=>n | _=>default
noncomputable def g (st:Stmt) (q:String) (k ln ac a:Nat) (d m:Value):List Obj :=
 let e:=k+3+(nms st).length
 [t [],f [],t ((nms st).zipIdx.map fun p=>.str p.1 (k+3+p.2)),t [],fc st q,
  oo "code" [.str (nam st) k,s q (k+1),s "/claim/cut.py" (k+2),i ln,i ac,i 0,i 0,i 3,r a,.bool true,i 181,r (a+1),.none,r (a+2),r (a+3),r (a+4),i e,i ln,s "/claim/cut.py" (e+1)],fu st q (r (a+5)) d m]
noncomputable def mainE:List (String×Nat×Value):=[("__doc__",166,.none),("__package__",167,.none),("__loader__",168,.builtin "__main__.__loader__#opaque"),("__spec__",169,.none),("__annotations__",170,r 6),("__builtins__",171,r 4),("__file__",173,s "/claim/cut.py" 172),("__cached__",174,.none),("PressError",216,r 32),("BadSequence",232,r 45),("BadArgument",248,r 57),("NOWHERE",253,.int (-1) 252),("PlaceRow",315,r 97),("Matcher",444,r 188),("Finder",507,r 231),("LEAST_MATCH_parse",511,.int 2 510),("check_range",520,r 240),("step_size",527,r 247),("Trail",583,r 283),("literals",590,r 293),("greedy",605,r 300),("worthy",614,r 307),("lazy",634,r 315),("gain",641,r 322),("better_ahead",655,r 329),("weighed",662,r 335),("Ways",714,r 366),("least",735,r 378),("MOST_OFFSET_CODE",739,.int 31 738),("rows_from",750,r 385),("literal_extras",756,r 392),("match_extras",762,r 399),("Rows",1290,r 544),("code_in",1304,r 555),("ml_code",1311,r 562),("of_code",1319,r 569),("Offsets",1410,r 629),("LEAST_MATCH_zencode",1414,.int 3 1413),("sixteenths",1426,r 640),("counted",1435,r 647),("prices_of",1441,r 652),("BlockPrice",1499,r 683),("first_price",1506,r 694),("learnt_price",1512,r 699),("worth",1520,r 706),("choice_at",1537,r 713),("by_repeats",1554,r 720),("one_parse",1566,r 727),("parses",1583,r 734),("_law_box",1594,r 741),("_law_take",1603,r 748),("_law_text",1615,r 755),("_law_log",1626,r 762),("_law_counted",1635,r 769),("_law_costs",1641,r 774),("_law_code",1647,r 779),("_law_prices",1653,r 784),("_law_price",1665,r 791),("_law_alike",1675,r 798),("_law_records",1690,r 805),("_law_least",1706,r 812),("_law_cost",1712,r 817),("_law_plays",1725,r 824),("_law_meant",1731,r 829),("_law_value",1741,r 836),("_law_worth",1747,r 841),("_law_by_repeats",1768,r 848),("_law_logs_right",1774,r 853),("_law_same_prices",1786,r 860),("law",1792,r 865)]
noncomputable def cods:List (Nat×Nat):=[(2,20),(7,41),(9,53),(13,65),(45,107),(101,198),(132,239),(137,246),(139,253),(159,292),(162,299),(171,306),(173,314),(196,321),(198,328),(206,334),(224,341),(246,377),(263,384),(269,391),(271,398),(273,405),(276,554),(287,561),(289,568),(294,575),(343,639),(356,646),(361,651),(369,658),(389,693),(391,698),(396,705),(398,712),(410,719),(427,726),(438,733),(453,740),(458,747),(465,754),(475,761),(480,768),(485,773),(490,778),(495,783),(502,790),(508,797),(513,804),(523,811),(532,816),(534,823),(543,828),(550,835),(555,840),(557,847),(577,852),(582,859),(588,864)]
noncomputable def mainO (P:Params) (nm:String) (tk k:Nat):Obj:=dd P (("__name__",165,s nm tk)::mainE.take k) (k+1)
noncomputable def codsO (k:Nat):Obj:=f ((cods.take k).flatMap fun p=>[i p.1,i 0,r p.2])
noncomputable def tl (P:Params):List Obj:=[t [.type "ValueError"],oo "builtin_function_or_method" [.builtin "type.__prepare__",.type "type"],dd P [("__module__",196,s "threepress.errors" 187),("__qualname__",198,s "PressError" 197),("__firstlineno__",200,.int 2 199),("__init__",209,r 29),("__static_attributes__",211,r 30)] 5,t [],f [i 4,i 4,r 28],co "PressError" "PressError" 191 2 0 0 (r 18) false 181 (r 19) [.none,.none,.none] 194,fr [some (r 20),some (r 3),some (r 17),none,some (s "threepress.errors" 187),none,some (r 0)],t [s "" 201]]++g (sm 1 0) "PressError.__init__" 202 4 2 23 (r 22) (s "threepress.errors" 187)++[t [s "reason" 210],dd P [("__module__",196,s "threepress.errors" 187),("__firstlineno__",200,.int 2 199),("__init__",209,r 29),("__static_attributes__",211,r 30),("__weakref__",213,r 33),("__doc__",214,.none)] 3,cl [some (r 15),none,some (s "PressError" 189),some (s "PressError" 197),some (.builtin "ValueError.__new__"),some (.bool true)] "PressError" "PressError" 31 [r 32,.type "ValueError",.type "Exception",.type "BaseException",.type "object"] [.type "ValueError"] [r 45,r 57],oo "getset_descriptor" [s "__weakref__" 212,r 32,.builtin "ExceptionGroup.__weakref__",.none],oo "super" [r 32,r 32,r 32],oo "builtin_function_or_method" [.builtin "object.__init_subclass__",r 32],t [r 32],oo "builtin_function_or_method" [.builtin "type.__prepare__",.type "type"],dd P [("__module__",224,s "threepress.errors" 187),("__qualname__",226,s "BadSequence" 225),("__firstlineno__",228,.int 7 227),("__static_attributes__",229,r 43)] 4,t [],f [],co "BadSequence" "BadSequence" 219 7 0 0 (r 39) false 181 (r 40) [.none,.none,.none] 222,fr [some (r 41),some (r 3),some (r 38),none,some (s "threepress.errors" 187),none,some (r 0)],t [],dd P [("__module__",224,s "threepress.errors" 187),("__firstlineno__",228,.int 7 227),("__static_attributes__",229,r 43),("__doc__",230,.none)] 2,cl [some (r 36),none,some (s "BadSequence" 217),some (s "BadSequence" 225),some (.builtin "ValueError.__new__"),some (.bool true)] "BadSequence" "BadSequence" 44 [r 45,r 32,.type "ValueError",.type "Exception",.type "BaseException",.type "object"] [r 32] [],oo "super" [r 45,r 45,r 45],oo "builtin_function_or_method" [.builtin "object.__init_subclass__",r 45],t [r 32],oo "builtin_function_or_method" [.builtin "type.__prepare__",.type "type"],dd P [("__module__",240,s "threepress.errors" 187),("__qualname__",242,s "BadArgument" 241),("__firstlineno__",244,.int 9 243),("__static_attributes__",245,r 55)] 4,t [],f [],co "BadArgument" "BadArgument" 235 9 0 0 (r 51) false 181 (r 52) [.none,.none,.none] 238,fr [some (r 53),some (r 3),some (r 50),none,some (s "threepress.errors" 187),none,some (r 0)],t [],dd P [("__module__",240,s "threepress.errors" 187),("__firstlineno__",244,.int 9 243),("__static_attributes__",245,r 55),("__doc__",246,.none)] 2,cl [some (r 48),none,some (s "BadArgument" 233),some (s "BadArgument" 241),some (.builtin "ValueError.__new__"),some (.bool true)] "BadArgument" "BadArgument" 56 [r 57,r 32,.type "ValueError",.type "Exception",.type "BaseException",.type "object"] [r 32] [],oo "super" [r 57,r 57,r 57],oo "builtin_function_or_method" [.builtin "object.__init_subclass__",r 57],t [],oo "builtin_function_or_method" [.builtin "type.__prepare__",.type "type"],dd P [("__module__",261,s "threepress.matches" 249),("__qualname__",263,s "PlaceRow" 262),("__firstlineno__",265,.int 13 264),("__init__",274,r 73),("key",284,r 80),("put",293,r 87),("newest",303,r 94),("__static_attributes__",308,r 95)] 8,t [],f [i 15,i 4,r 72,i 23,i 4,r 79,i 31,i 4,r 86,i 37,i 4,r 93],co "PlaceRow" "PlaceRow" 256 13 0 0 (r 63) false 181 (r 64) [.none,.none,.none] 259,fr [some (r 65),some (r 3),some (r 62),none,some (s "threepress.matches" 249),none,some (r 0)]]++g (sm 6 0) "PlaceRow.__init__" 266 15 3 67 (.none) (s "threepress.matches" 249)++g (sm 6 1) "PlaceRow.key" 275 23 2 74 (.none) (s "threepress.matches" 249)++g (sm 6 2) "PlaceRow.put" 285 31 2 81 (.none) (s "threepress.matches" 249)++g (sm 6 3) "PlaceRow.newest" 294 37 2 88 (.none) (s "threepress.matches" 249)++[t [s "before" 304,s "last" 305,s "octets" 306,s "size" 307],dd P [("__module__",261,s "threepress.matches" 249),("__firstlineno__",265,.int 13 264),("__init__",274,r 73),("key",284,r 80),("put",293,r 87),("newest",303,r 94),("__static_attributes__",308,r 95),("__dict__",310,r 98),("__weakref__",312,r 99),("__doc__",313,.none)] 4,cl [none,none,some (s "PlaceRow" 254),some (s "PlaceRow" 262),some (.builtin "object.__new__"),some (.bool true)] "PlaceRow" "PlaceRow" 96 [r 97,.type "object"] [.type "object"] [],oo "getset_descriptor" [s "__dict__" 309,r 97,.builtin "function.__dict__",.builtin "function.__dict__#set"],oo "getset_descriptor" [s "__weakref__" 311,r 97,.builtin "ExceptionGroup.__weakref__",.none],oo "super" [r 97,r 97,r 97],oo "builtin_function_or_method" [.builtin "object.__init_subclass__",r 97],t [],oo "builtin_function_or_method" [.builtin "type.__prepare__",.type "type"],dd P [("__module__",323,s "threepress.matches" 249),("__qualname__",325,s "Matcher" 324),("__firstlineno__",327,.int 45 326),("__init__",338,r 115),("put",346,r 122),("enter",354,r 129),("put_all",362,r 136),("limit",371,r 143),("length",381,r 150),("alike",393,r 157),("is_near",402,r 164),("repeat",412,r 171),("every",421,r 178),("best",431,r 185),("__static_attributes__",437,r 186)] 15,t [],f [i 47,i 4,r 114,i 60,i 4,r 121,i 66,i 4,r 128,i 69,i 4,r 135,i 73,i 4,r 142,i 76,i 4,r 149,i 81,i 4,r 156,i 87,i 4,r 163,i 90,i 4,r 170,i 95,i 4,r 177,i 98,i 4,r 184],co "Matcher" "Matcher" 318 45 0 0 (r 105) false 181 (r 106) [.none,.none,.none] 321,fr [some (r 107),some (r 3),some (r 104),none,some (s "threepress.matches" 249),none,some (r 0)]]++g (sm 7 0) "Matcher.__init__" 328 47 5 109 (.none) (s "threepress.matches" 249)++g (sm 7 1) "Matcher.put" 339 60 2 116 (.none) (s "threepress.matches" 249)++g (sm 7 2) "Matcher.enter" 347 66 2 123 (.none) (s "threepress.matches" 249)++g (sm 7 3) "Matcher.put_all" 355 69 2 130 (.none) (s "threepress.matches" 249)++g (sm 7 4) "Matcher.limit" 363 73 3 137 (.none) (s "threepress.matches" 249)++g (sm 7 5) "Matcher.length" 372 76 4 144 (.none) (s "threepress.matches" 249)++g (sm 7 6) "Matcher.alike" 382 81 5 151 (.none) (s "threepress.matches" 249)++g (sm 7 7) "Matcher.is_near" 394 87 3 158 (.none) (s "threepress.matches" 249)++g (sm 7 8) "Matcher.repeat" 403 90 4 165 (.none) (s "threepress.matches" 249)++g (sm 7 9) "Matcher.every" 413 95 3 172 (.none) (s "threepress.matches" 249)++g (sm 7 10) "Matcher.best" 422 98 3 179 (.none) (s "threepress.matches" 249)++[t [s "ahead" 432,s "chain" 433,s "least" 434,s "octets" 435,s "window" 436],dd P [("__module__",323,s "threepress.matches" 249),("__firstlineno__",327,.int 45 326),("__init__",338,r 115),("put",346,r 122),("enter",354,r 129),("put_all",362,r 136),("limit",371,r 143),("length",381,r 150),("alike",393,r 157),("is_near",402,r 164),("repeat",412,r 171),("every",421,r 178),("best",431,r 185),("__static_attributes__",437,r 186),("__dict__",439,r 189),("__weakref__",441,r 190),("__doc__",442,.none)] 4,cl [none,none,some (s "Matcher" 316),some (s "Matcher" 324),some (.builtin "object.__new__"),some (.bool true)] "Matcher" "Matcher" 187 [r 188,.type "object"] [.type "object"] [r 231],oo "getset_descriptor" [s "__dict__" 438,r 188,.builtin "function.__dict__",.builtin "function.__dict__#set"],oo "getset_descriptor" [s "__weakref__" 440,r 188,.builtin "ExceptionGroup.__weakref__",.none],oo "super" [r 188,r 188,r 188],oo "builtin_function_or_method" [.builtin "object.__init_subclass__",r 188],t [r 188],oo "builtin_function_or_method" [.builtin "type.__prepare__",.type "type"],dd P [("__module__",452,s "threepress.matches" 249),("__qualname__",454,s "Finder" 453),("__firstlineno__",456,.int 101 455),("__init__",470,r 207),("enter",478,r 214),("candidates",488,r 221),("every",502,r 228),("__static_attributes__",504,r 229)] 8,t [],f [i 103,i 4,r 206,i 107,i 4,r 213,i 110,i 4,r 220,i 118,i 4,r 227],co "Finder" "Finder" 447 101 0 0 (r 196) false 181 (r 197) [.none,.none,.none] 450,fr [some (r 198),some (r 3),some (r 195),none,some (s "threepress.matches" 249),none,some (r 0)],t [.int 3 457,.int 32768 458,.int 32 459]]++g (sm 8 0) "Finder.__init__" 460 103 5 201 (r 200) (s "threepress.matches" 249)++g (sm 8 1) "Finder.enter" 471 107 2 208 (.none) (s "threepress.matches" 249)++g (sm 8 2) "Finder.candidates" 479 110 2 215 (.none) (s "threepress.matches" 249)++g (sm 8 3) "Finder.every" 489 118 3 222 (.none) (s "threepress.matches" 249)++[t [s "row" 503],dd P [("__module__",452,s "threepress.matches" 249),("__firstlineno__",456,.int 101 455),("__init__",470,r 207),("enter",478,r 214),("candidates",488,r 221),("every",502,r 228),("__static_attributes__",504,r 229),("__doc__",505,.none)] 2,cl [some (r 193),none,some (s "Finder" 445),some (s "Finder" 453),some (.builtin "object.__new__"),some (.bool true)] "Finder" "Finder" 230 [r 231,r 188,.type "object"] [r 188] [],oo "super" [r 231,r 231,r 231],oo "builtin_function_or_method" [.builtin "object.__init_subclass__",r 231]]++g (st 11) "check_range" 512 132 3 234 (.none) (s "threepress.parse" 508)++g (st 12) "step_size" 521 137 1 241 (.none) (s "threepress.parse" 508)++[t [],oo "builtin_function_or_method" [.builtin "type.__prepare__",.type "type"],dd P [("__module__",535,s "threepress.parse" 508),("__qualname__",537,s "Trail" 536),("__firstlineno__",539,.int 139 538),("__init__",547,r 261),("up_to",555,r 268),("best",566,r 275),("every",572,r 280),("__static_attributes__",576,r 281)] 8,t [],f [i 141,i 4,r 260,i 146,i 4,r 267,i 151,i 4,r 274,i 156,i 4,r 279],co "Trail" "Trail" 530 139 0 0 (r 251) false 181 (r 252) [.none,.none,.none] 533,fr [some (r 253),some (r 3),some (r 250),none,some (s "threepress.parse" 508),none,some (r 0)]]++g (sm 13 0) "Trail.__init__" 540 141 2 255 (.none) (s "threepress.parse" 508)++g (sm 13 1) "Trail.up_to" 548 146 2 262 (.none) (s "threepress.parse" 508)++g (sm 13 2) "Trail.best" 556 151 3 269 (.none) (s "threepress.parse" 508)++[t [],f [],fc (sm 13 3) "Trail.every",co "every" "Trail.every" 567 156 3 3 (r 276) true 181 (r 277) [.none,.none,r 278] 570,fu (sm 13 3) "Trail.every" (r 279) (.none) (s "threepress.parse" 508),t [s "finder" 573,s "known" 574,s "shortest" 575],dd P [("__module__",535,s "threepress.parse" 508),("__firstlineno__",539,.int 139 538),("__init__",547,r 261),("up_to",555,r 268),("best",566,r 275),("every",572,r 280),("__static_attributes__",576,r 281),("__dict__",578,r 284),("__weakref__",580,r 285),("__doc__",581,.none)] 4,cl [none,none,some (s "Trail" 528),some (s "Trail" 536),some (.builtin "object.__new__"),some (.bool true)] "Trail" "Trail" 282 [r 283,.type "object"] [.type "object"] [],oo "getset_descriptor" [s "__dict__" 577,r 283,.builtin "function.__dict__",.builtin "function.__dict__#set"],oo "getset_descriptor" [s "__weakref__" 579,r 283,.builtin "ExceptionGroup.__weakref__",.none],oo "super" [r 283,r 283,r 283],oo "builtin_function_or_method" [.builtin "object.__init_subclass__",r 283],t [.int 0 584],t [],f [],fc (st 14) "literals",co "literals" "literals" 585 159 2 3 (r 289) true 181 (r 290) [.none,.none,r 291] 588,fu (st 14) "literals" (r 292) (r 288) (s "threepress.parse" 508)]++g (st 15) "greedy" 591 162 4 294 (.none) (s "threepress.parse" 508)++g (st 16) "worthy" 606 171 3 301 (.none) (s "threepress.parse" 508)++[t [.int 32 615,.int 4096 616]]++g (st 17) "lazy" 617 173 6 309 (r 308) (s "threepress.parse" 508)++g (st 18) "gain" 635 196 1 316 (.none) (s "threepress.parse" 508)++g (st 19) "better_ahead" 642 198 6 323 (.none) (s "threepress.parse" 508)++[t [.int 2 656],t [],f [],fc (st 20) "weighed",co "weighed" "weighed" 657 206 5 3 (r 331) true 181 (r 332) [.none,.none,r 333] 660,fu (st 20) "weighed" (r 334) (r 330) (s "threepress.parse" 508),t [],oo "builtin_function_or_method" [.builtin "type.__prepare__",.type "type"],dd P [("__module__",670,s "threepress.parse" 508),("__qualname__",672,s "Ways" 671),("__firstlineno__",674,.int 224 673),("__init__",682,r 349),("offer",694,r 356),("told",703,r 363),("__static_attributes__",707,r 364)] 7,t [],f [i 226,i 4,r 348,i 231,i 4,r 355,i 240,i 4,r 362],co "Ways" "Ways" 665 224 0 0 (r 339) false 181 (r 340) [.none,.none,.none] 668,fr [some (r 341),some (r 3),some (r 338),none,some (s "threepress.parse" 508),none,some (r 0)]]++g (sm 21 0) "Ways.__init__" 675 226 2 343 (.none) (s "threepress.parse" 508)++g (sm 21 1) "Ways.offer" 683 231 4 350 (.none) (s "threepress.parse" 508)++g (sm 21 2) "Ways.told" 695 240 1 357 (.none) (s "threepress.parse" 508)++[t [s "costs" 704,s "size" 705,s "steps" 706],dd P [("__module__",670,s "threepress.parse" 508),("__firstlineno__",674,.int 224 673),("__init__",682,r 349),("offer",694,r 356),("told",703,r 363),("__static_attributes__",707,r 364),("__dict__",709,r 367),("__weakref__",711,r 368),("__doc__",712,.none)] 4,cl [none,none,some (s "Ways" 663),some (s "Ways" 671),some (.builtin "object.__new__"),some (.bool true)] "Ways" "Ways" 365 [r 366,.type "object"] [.type "object"] [],oo "getset_descriptor" [s "__dict__" 708,r 366,.builtin "function.__dict__",.builtin "function.__dict__#set"],oo "getset_descriptor" [s "__weakref__" 710,r 366,.builtin "ExceptionGroup.__weakref__",.none],oo "super" [r 366,r 366,r 366],oo "builtin_function_or_method" [.builtin "object.__init_subclass__",r 366],t [.none]]++g (st 22) "least" 715 246 6 372 (r 371) (s "threepress.parse" 508)++g (st 25) "rows_from" 740 263 2 379 (.none) (s "threepress.zseq" 736)++g (st 26) "literal_extras" 751 269 0 386 (.none) (s "threepress.zseq" 736)++g (st 27) "match_extras" 757 271 0 393 (.none) (s "threepress.zseq" 736)++[t [],oo "builtin_function_or_method" [.builtin "type.__prepare__",.type "type"],dd P [("__module__",770,s "threepress.zseq" 736),("__qualname__",772,s "Rows" 771),("__firstlineno__",774,.int 273 773),("LITERALS",985,r 422),("MATCHES",1282,r 481),("__static_attributes__",1283,r 542)] 6,t [],f [],co "Rows" "Rows" 765 273 0 0 (r 403) false 181 (r 404) [.none,.none,.none] 768,fr [some (r 405),some (r 3),some (r 402),none,some (s "threepress.zseq" 736),none,some (r 0)],df P [] 0,ls [.int 0 776] 0,ls [.int 0 776,.int 0 776,.int 0 776,.int 0 776,.int 0 776,.int 0 776,.int 0 776,.int 0 776,.int 0 776,.int 0 776,.int 0 776,.int 0 776,.int 0 776,.int 0 776,.int 0 776,.int 0 776] 0,ls [.int 1 778] 0,ls [.int 1 778,.int 1 778,.int 1 778,.int 1 778] 0,ls [.int 0 776,.int 0 776,.int 0 776,.int 0 776,.int 0 776,.int 0 776,.int 0 776,.int 0 776,.int 0 776,.int 0 776,.int 0 776,.int 0 776,.int 0 776,.int 0 776,.int 0 776,.int 0 776,.int 1 778,.int 1 778,.int 1 778,.int 1 778] 0,ls [.int 2 780,.int 2 781,.int 3 782,.int 3 783,.int 4 784] 0,ls [.int 0 776,.int 0 776,.int 0 776,.int 0 776,.int 0 776,.int 0 776,.int 0 776,.int 0 776,.int 0 776,.int 0 776,.int 0 776,.int 0 776,.int 0 776,.int 0 776,.int 0 776,.int 0 776,.int 1 778,.int 1 778,.int 1 778,.int 1 778,.int 2 780,.int 2 781,.int 3 782,.int 3 783,.int 4 784] 0,oo "range" [.int 6 785,.int 17 786,.int 1 787],ls [.int 6 790,.int 7 791,.int 8 792,.int 9 793,.int 10 794,.int 11 795,.int 12 796,.int 13 797,.int 14 798,.int 15 799,.int 16 800] 13,oo "range_iterator" [i 17,i 0,i 1],t [],oo "StopIteration" [r 418,.none,.none,.none,.bool false,.none],ls [.int 0 776,.int 0 776,.int 0 776,.int 0 776,.int 0 776,.int 0 776,.int 0 776,.int 0 776,.int 0 776,.int 0 776,.int 0 776,.int 0 776,.int 0 776,.int 0 776,.int 0 776,.int 0 776,.int 1 778,.int 1 778,.int 1 778,.int 1 778,.int 2 780,.int 2 781,.int 3 782,.int 3 783,.int 4 784,.int 6 790,.int 7 791,.int 8 792,.int 9 793,.int 10 794,.int 11 795,.int 12 796,.int 13 797,.int 14 798,.int 15 799,.int 16 800] 0,df P [("first",801,.int 0 775),("extras",802,r 420),("base",803,.int 131072 983),("rows",804,r 422),("extra",805,.int 16 800)] 5,ls [r 428,r 429,r 430,r 431,r 432,r 433,r 434,r 435,r 436,r 437,r 438,r 439,r 440,r 441,r 442,r 443,r 444,r 445,r 446,r 447,r 448,r 449,r 450,r 451,r 452,r 453,r 454,r 455,r 456,r 457,r 458,r 459,r 460,r 461,r 462,r 463] 36,t [r 422,.int 0 775],oo "tuple_iterator" [.none,i 2],t [],oo "StopIteration" [r 425,.none,.none,.none,.bool false,.none],oo "list_iterator" [.none,i 36],t [.int 0 775,.int 0 776],t [.int 1 808,.int 0 776],t [.int 2 813,.int 0 776],t [.int 3 818,.int 0 776],t [.int 4 823,.int 0 776],t [.int 5 828,.int 0 776],t [.int 6 833,.int 0 776],t [.int 7 838,.int 0 776],t [.int 8 843,.int 0 776],t [.int 9 848,.int 0 776],t [.int 10 853,.int 0 776],t [.int 11 858,.int 0 776],t [.int 12 863,.int 0 776],t [.int 13 868,.int 0 776],t [.int 14 873,.int 0 776],t [.int 15 878,.int 0 776],t [.int 16 883,.int 1 778],t [.int 18 888,.int 1 778],t [.int 20 893,.int 1 778],t [.int 22 898,.int 1 778],t [.int 24 903,.int 2 780],t [.int 28 908,.int 2 781],t [.int 32 913,.int 3 782],t [.int 40 918,.int 3 783],t [.int 48 923,.int 4 784],t [.int 64 928,.int 6 790],t [.int 128 933,.int 7 791],t [.int 256 938,.int 8 792],t [.int 512 943,.int 9 793],t [.int 1024 948,.int 10 794],t [.int 2048 953,.int 11 795],t [.int 4096 958,.int 12 796],t [.int 8192 963,.int 13 797],t [.int 16384 968,.int 14 798],t [.int 32768 973,.int 15 799],t [.int 65536 978,.int 16 800],t [],oo "StopIteration" [r 464,.none,.none,.none,.bool false,.none],df P [] 0,ls [.int 0 987] 0,ls [.int 0 987,.int 0 987,.int 0 987,.int 0 987,.int 0 987,.int 0 987,.int 0 987,.int 0 987,.int 0 987,.int 0 987,.int 0 987,.int 0 987,.int 0 987,.int 0 987,.int 0 987,.int 0 987,.int 0 987,.int 0 987,.int 0 987,.int 0 987,.int 0 987,.int 0 987,.int 0 987,.int 0 987,.int 0 987,.int 0 987,.int 0 987,.int 0 987,.int 0 987,.int 0 987,.int 0 987,.int 0 987] 0,ls [.int 1 989] 0,ls [.int 1 989,.int 1 989,.int 1 989,.int 1 989] 0,ls [.int 0 987,.int 0 987,.int 0 987,.int 0 987,.int 0 987,.int 0 987,.int 0 987,.int 0 987,.int 0 987,.int 0 987,.int 0 987,.int 0 987,.int 0 987,.int 0 987,.int 0 987,.int 0 987,.int 0 987,.int 0 987,.int 0 987,.int 0 987,.int 0 987,.int 0 987,.int 0 987,.int 0 987,.int 0 987,.int 0 987,.int 0 987,.int 0 987,.int 0 987,.int 0 987,.int 0 987,.int 0 987,.int 1 989,.int 1 989,.int 1 989,.int 1 989] 0,ls [.int 2 991,.int 2 992,.int 3 993,.int 3 994,.int 4 995,.int 4 996,.int 5 997] 0,ls [.int 0 987,.int 0 987,.int 0 987,.int 0 987,.int 0 987,.int 0 987,.int 0 987,.int 0 987,.int 0 987,.int 0 987,.int 0 987,.int 0 987,.int 0 987,.int 0 987,.int 0 987,.int 0 987,.int 0 987,.int 0 987,.int 0 987,.int 0 987,.int 0 987,.int 0 987,.int 0 987,.int 0 987,.int 0 987,.int 0 987,.int 0 987,.int 0 987,.int 0 987,.int 0 987,.int 0 987,.int 0 987,.int 1 989,.int 1 989,.int 1 989,.int 1 989,.int 2 991,.int 2 992,.int 3 993,.int 3 994,.int 4 995,.int 4 996,.int 5 997] 0,oo "range" [.int 7 998,.int 17 999,.int 1 1000],ls [.int 7 1003,.int 8 1004,.int 9 1005,.int 10 1006,.int 11 1007,.int 12 1008,.int 13 1009,.int 14 1010,.int 15 1011,.int 16 1012] 12,oo "range_iterator" [i 17,i 0,i 1],t [],oo "StopIteration" [r 477,.none,.none,.none,.bool false,.none],ls [.int 0 987,.int 0 987,.int 0 987,.int 0 987,.int 0 987,.int 0 987,.int 0 987,.int 0 987,.int 0 987,.int 0 987,.int 0 987,.int 0 987,.int 0 987,.int 0 987,.int 0 987,.int 0 987,.int 0 987,.int 0 987,.int 0 987,.int 0 987,.int 0 987,.int 0 987,.int 0 987,.int 0 987,.int 0 987,.int 0 987,.int 0 987,.int 0 987,.int 0 987,.int 0 987,.int 0 987,.int 0 987,.int 1 989,.int 1 989,.int 1 989,.int 1 989,.int 2 991,.int 2 992,.int 3 993,.int 3 994,.int 4 995,.int 4 996,.int 5 997,.int 7 1003,.int 8 1004,.int 9 1005,.int 10 1006,.int 11 1007,.int 12 1008,.int 13 1009,.int 14 1010,.int 15 1011,.int 16 1012] 0,df P [("first",1013,.int 3 986),("extras",1014,r 479),("base",1015,.int 131075 1280),("rows",1016,r 481),("extra",1017,.int 16 1012)] 5,ls [r 487,r 488,r 489,r 490,r 491,r 492,r 493,r 494,r 495,r 496,r 497,r 498,r 499,r 500,r 501,r 502,r 503,r 504,r 505,r 506,r 507,r 508,r 509,r 510,r 511,r 512,r 513,r 514,r 515,r 516,r 517,r 518,r 519,r 520,r 521,r 522,r 523,r 524,r 525,r 526,r 527,r 528,r 529,r 530,r 531,r 532,r 533,r 534,r 535,r 536,r 537,r 538,r 539] 53,t [r 481,.int 3 986],oo "tuple_iterator" [.none,i 2],t [],oo "StopIteration" [r 484,.none,.none,.none,.bool false,.none],oo "list_iterator" [.none,i 53],t [.int 3 986,.int 0 987],t [.int 4 1020,.int 0 987],t [.int 5 1025,.int 0 987],t [.int 6 1030,.int 0 987],t [.int 7 1035,.int 0 987],t [.int 8 1040,.int 0 987],t [.int 9 1045,.int 0 987],t [.int 10 1050,.int 0 987],t [.int 11 1055,.int 0 987],t [.int 12 1060,.int 0 987],t [.int 13 1065,.int 0 987],t [.int 14 1070,.int 0 987],t [.int 15 1075,.int 0 987],t [.int 16 1080,.int 0 987],t [.int 17 1085,.int 0 987],t [.int 18 1090,.int 0 987],t [.int 19 1095,.int 0 987],t [.int 20 1100,.int 0 987],t [.int 21 1105,.int 0 987],t [.int 22 1110,.int 0 987],t [.int 23 1115,.int 0 987],t [.int 24 1120,.int 0 987],t [.int 25 1125,.int 0 987],t [.int 26 1130,.int 0 987],t [.int 27 1135,.int 0 987],t [.int 28 1140,.int 0 987],t [.int 29 1145,.int 0 987],t [.int 30 1150,.int 0 987],t [.int 31 1155,.int 0 987],t [.int 32 1160,.int 0 987],t [.int 33 1165,.int 0 987],t [.int 34 1170,.int 0 987],t [.int 35 1175,.int 1 989],t [.int 37 1180,.int 1 989],t [.int 39 1185,.int 1 989],t [.int 41 1190,.int 1 989],t [.int 43 1195,.int 2 991],t [.int 47 1200,.int 2 992],t [.int 51 1205,.int 3 993],t [.int 59 1210,.int 3 994],t [.int 67 1215,.int 4 995],t [.int 83 1220,.int 4 996],t [.int 99 1225,.int 5 997],t [.int 131 1230,.int 7 1003],t [.int 259 1235,.int 8 1004],t [.int 515 1240,.int 9 1005],t [.int 1027 1245,.int 10 1006],t [.int 2051 1250,.int 11 1007],t [.int 4099 1255,.int 12 1008],t [.int 8195 1260,.int 13 1009],t [.int 16387 1265,.int 14 1010],t [.int 32771 1270,.int 15 1011],t [.int 65539 1275,.int 16 1012],t [],oo "StopIteration" [r 540,.none,.none,.none,.bool false,.none],t [],dd P [("__module__",770,s "threepress.zseq" 736),("__firstlineno__",774,.int 273 773),("LITERALS",985,r 422),("MATCHES",1282,r 481),("__static_attributes__",1283,r 542),("__dict__",1285,r 545),("__weakref__",1287,r 546),("__doc__",1288,.none)] 4,cl [none,none,some (s "Rows" 763),some (s "Rows" 771),some (.builtin "object.__new__"),some (.bool true)] "Rows" "Rows" 543 [r 544,.type "object"] [.type "object"] [],oo "getset_descriptor" [s "__dict__" 1284,r 544,.builtin "function.__dict__",.builtin "function.__dict__#set"],oo "getset_descriptor" [s "__weakref__" 1286,r 544,.builtin "ExceptionGroup.__weakref__",.none],oo "super" [r 544,r 544,r 544],oo "builtin_function_or_method" [.builtin "object.__init_subclass__",r 544]]++g (st 29) "code_in" 1291 276 4 549 (.none) (s "threepress.zseq" 736)++g (st 30) "ml_code" 1305 287 1 556 (.none) (s "threepress.zseq" 736)++g (st 31) "of_code" 1312 289 1 563 (.none) (s "threepress.zseq" 736)++[t [],oo "builtin_function_or_method" [.builtin "type.__prepare__",.type "type"],dd P [("__module__",1327,s "threepress.zseq" 736),("__qualname__",1329,s "Offsets" 1328),("__firstlineno__",1331,.int 294 1330),("__init__",1344,r 584),("row",1351,r 591),("copy",1358,r 598),("told_by",1368,r 605),("move",1377,r 612),("distance",1388,r 619),("value",1399,r 626),("__static_attributes__",1403,r 627)] 11,t [],f [i 296,i 4,r 583,i 303,i 4,r 590,i 306,i 4,r 597,i 309,i 4,r 604,i 319,i 4,r 611,i 325,i 4,r 618,i 332,i 4,r 625],co "Offsets" "Offsets" 1322 294 0 0 (r 573) false 181 (r 574) [.none,.none,.none] 1325,fr [some (r 575),some (r 3),some (r 572),none,some (s "threepress.zseq" 736),none,some (r 0)],t [.int 1 1332,.int 4 1333,.int 8 1334]]++g (sm 32 0) "Offsets.__init__" 1335 296 4 578 (r 577) (s "threepress.zseq" 736)++g (sm 32 1) "Offsets.row" 1345 303 1 585 (.none) (s "threepress.zseq" 736)++g (sm 32 2) "Offsets.copy" 1352 306 1 592 (.none) (s "threepress.zseq" 736)++g (sm 32 3) "Offsets.told_by" 1359 309 3 599 (.none) (s "threepress.zseq" 736)++g (sm 32 4) "Offsets.move" 1369 319 3 606 (.none) (s "threepress.zseq" 736)++g (sm 32 5) "Offsets.distance" 1378 325 3 613 (.none) (s "threepress.zseq" 736)++g (sm 32 6) "Offsets.value" 1389 332 3 620 (.none) (s "threepress.zseq" 736)++[t [s "one" 1400,s "three" 1401,s "two" 1402],dd P [("__module__",1327,s "threepress.zseq" 736),("__firstlineno__",1331,.int 294 1330),("__init__",1344,r 584),("row",1351,r 591),("copy",1358,r 598),("told_by",1368,r 605),("move",1377,r 612),("distance",1388,r 619),("value",1399,r 626),("__static_attributes__",1403,r 627),("__dict__",1405,r 630),("__weakref__",1407,r 631),("__doc__",1408,.none)] 4,cl [none,none,some (s "Offsets" 1320),some (s "Offsets" 1328),some (.builtin "object.__new__"),some (.bool true)] "Offsets" "Offsets" 628 [r 629,.type "object"] [.type "object"] [],oo "getset_descriptor" [s "__dict__" 1404,r 629,.builtin "function.__dict__",.builtin "function.__dict__#set"],oo "getset_descriptor" [s "__weakref__" 1406,r 629,.builtin "ExceptionGroup.__weakref__",.none],oo "super" [r 629,r 629,r 629],oo "builtin_function_or_method" [.builtin "object.__init_subclass__",r 629]]++g (st 35) "sixteenths" 1415 343 2 634 (.none) (s "threepress.zencode" 1411)++g (st 36) "counted" 1427 356 1 641 (.none) (s "threepress.zencode" 1411)++[t [],f [],fc (st 37) "prices_of",co "prices_of" "prices_of" 1436 361 2 3 (r 648) true 181 (r 649) [.none,.none,r 650] 1439,fu (st 37) "prices_of" (r 651) (.none) (s "threepress.zencode" 1411),t [],oo "builtin_function_or_method" [.builtin "type.__prepare__",.type "type"],dd P [("__module__",1449,s "threepress.zencode" 1411),("__qualname__",1451,s "BlockPrice" 1450),("__firstlineno__",1453,.int 369 1452),("__init__",1463,r 666),("literal",1471,r 673),("match",1483,r 680),("__static_attributes__",1492,r 681)] 7,t [],f [i 371,i 4,r 665,i 378,i 4,r 672,i 381,i 4,r 679],co "BlockPrice" "BlockPrice" 1444 369 0 0 (r 656) false 181 (r 657) [.none,.none,.none] 1447,fr [some (r 658),some (r 3),some (r 655),none,some (s "threepress.zencode" 1411),none,some (r 0)]]++g (sm 38 0) "BlockPrice.__init__" 1454 371 4 660 (.none) (s "threepress.zencode" 1411)++g (sm 38 1) "BlockPrice.literal" 1464 378 2 667 (.none) (s "threepress.zencode" 1411)++g (sm 38 2) "BlockPrice.match" 1472 381 3 674 (.none) (s "threepress.zencode" 1411)++[t [s "by_distance" 1484,s "by_length" 1485,s "lengths" 1486,s "new_length" 1487,s "new_octet" 1488,s "new_offset" 1489,s "octets" 1490,s "offsets" 1491],dd P [("__module__",1449,s "threepress.zencode" 1411),("__firstlineno__",1453,.int 369 1452),("__init__",1463,r 666),("literal",1471,r 673),("match",1483,r 680),("__static_attributes__",1492,r 681),("__dict__",1494,r 684),("__weakref__",1496,r 685),("__doc__",1497,.none)] 4,cl [none,none,some (s "BlockPrice" 1442),some (s "BlockPrice" 1450),some (.builtin "object.__new__"),some (.bool true)] "BlockPrice" "BlockPrice" 682 [r 683,.type "object"] [.type "object"] [],oo "getset_descriptor" [s "__dict__" 1493,r 683,.builtin "function.__dict__",.builtin "function.__dict__#set"],oo "getset_descriptor" [s "__weakref__" 1495,r 683,.builtin "ExceptionGroup.__weakref__",.none],oo "super" [r 683,r 683,r 683],oo "builtin_function_or_method" [.builtin "object.__init_subclass__",r 683]]++g (st 39) "first_price" 1500 389 1 688 (.none) (s "threepress.zencode" 1411)++[t [],f [],fc (st 40) "learnt_price",co "learnt_price" "learnt_price" 1507 391 1 3 (r 695) true 181 (r 696) [.none,.none,r 697] 1510,fu (st 40) "learnt_price" (r 698) (.none) (s "threepress.zencode" 1411)]++g (st 41) "worth" 1513 396 2 700 (.none) (s "threepress.zencode" 1411)++g (st 42) "choice_at" 1521 398 5 707 (.none) (s "threepress.zencode" 1411)++g (st 43) "by_repeats" 1538 410 5 714 (.none) (s "threepress.zencode" 1411)++g (st 44) "one_parse" 1555 427 5 721 (.none) (s "threepress.zencode" 1411)++g (st 45) "parses" 1567 438 6 728 (.none) (s "threepress.zencode" 1411)++g (st 47) "_law_box" 1586 453 1 735 (.none) (s "law_nz0425_01" 1584)++g (st 48) "_law_take" 1595 458 2 742 (.none) (s "law_nz0425_01" 1584)++g (st 49) "_law_text" 1604 465 2 749 (.none) (s "law_nz0425_01" 1584)++g (st 50) "_law_log" 1616 475 2 756 (.none) (s "law_nz0425_01" 1584)++g (st 51) "_law_counted" 1627 480 1 763 (.none) (s "law_nz0425_01" 1584)++[t [],f [],fc (st 52) "_law_costs",co "_law_costs" "_law_costs" 1636 485 2 3 (r 770) true 181 (r 771) [.none,.none,r 772] 1639,fu (st 52) "_law_costs" (r 773) (.none) (s "law_nz0425_01" 1584),t [],f [],fc (st 53) "_law_code",co "_law_code" "_law_code" 1642 490 3 3 (r 775) true 181 (r 776) [.none,.none,r 777] 1645,fu (st 53) "_law_code" (r 778) (.none) (s "law_nz0425_01" 1584),t [],f [],fc (st 54) "_law_prices",co "_law_prices" "_law_prices" 1648 495 2 3 (r 780) true 181 (r 781) [.none,.none,r 782] 1651,fu (st 54) "_law_prices" (r 783) (.none) (s "law_nz0425_01" 1584)]++g (st 55) "_law_price" 1654 502 2 785 (.none) (s "law_nz0425_01" 1584)++g (st 56) "_law_alike" 1666 508 3 792 (.none) (s "law_nz0425_01" 1584)++g (st 57) "_law_records" 1676 513 4 799 (.none) (s "law_nz0425_01" 1584)++g (st 58) "_law_least" 1691 523 4 806 (.none) (s "law_nz0425_01" 1584)++[t [],f [],fc (st 59) "_law_cost",co "_law_cost" "_law_cost" 1707 532 2 3 (r 813) true 181 (r 814) [.none,.none,r 815] 1710,fu (st 59) "_law_cost" (r 816) (.none) (s "law_nz0425_01" 1584)]++g (st 60) "_law_plays" 1713 534 3 818 (.none) (s "law_nz0425_01" 1584)++[t [],f [],fc (st 61) "_law_meant",co "_law_meant" "_law_meant" 1726 543 3 3 (r 825) true 181 (r 826) [.none,.none,r 827] 1729,fu (st 61) "_law_meant" (r 828) (.none) (s "law_nz0425_01" 1584)]++g (st 62) "_law_value" 1732 550 3 830 (.none) (s "law_nz0425_01" 1584)++[t [],f [],fc (st 63) "_law_worth",co "_law_worth" "_law_worth" 1742 555 2 3 (r 837) true 181 (r 838) [.none,.none,r 839] 1745,fu (st 63) "_law_worth" (r 840) (.none) (s "law_nz0425_01" 1584)]++g (st 64) "_law_by_repeats" 1748 557 5 842 (.none) (s "law_nz0425_01" 1584)++[t [],f [],fc (st 65) "_law_logs_right",co "_law_logs_right" "_law_logs_right" 1769 577 1 3 (r 849) true 181 (r 850) [.none,.none,r 851] 1772,fu (st 65) "_law_logs_right" (r 852) (.none) (s "law_nz0425_01" 1584)]++g (st 66) "_law_same_prices" 1775 582 3 854 (.none) (s "law_nz0425_01" 1584)++[t [],f [],fc (st 67) "law",co "law" "law" 1787 588 1 3 (r 861) true 181 (r 862) [.none,.none,r 863] 1790,fu (st 67) "law" (r 864) (.none) (s "law_nz0425_01" 1584)]
noncomputable def hL (P:Params) (nm:String) (tk k c n:Nat):List Obj :=
 ([boot_o_0 P,boot_o_1 P,boot_o_2 P,mainO P nm tk k,boot_o_4 P,boot_o_5 P,boot_o_6 P,boot_o_7 P,boot_o_8 P,boot_o_9 P,boot_o_10 P,t [],codsO c,oo "code" [s "<module>" 182,s "<module>" 183,s "/claim/cut.py" 184,i 1,i 0,i 0,i 0,i 0,r 11,.bool false,i 181,r 12,.none,.none,.none,.none,i 185,i 1,s "/claim/cut.py" 186],
  fr [some (r 13),some (r 3),some (r 3),none,some (s "__main__" 164),none,some (r 0)]]++tl P).take n
noncomputable def ev {α:Type}:List α→List α×List α
 | []=>([],[])
 | x::l=>(x::(ev l).2,(ev l).1)
noncomputable def bt:Nat→List Obj→BT
 | 0,_=>.nil
 | _,[]=>.nil
 | n+1,v::l=>.node v (bt n (ev l).1) (bt n (ev l).2)
end Mine.Internal.Hd
open PySem PySem.W PyProof.Rows PySem.Calls
set_option Elab.async false
set_option maxRecDepth 100000
namespace Mine.Internal.Hd
noncomputable def env0:Env:={ scope:=P0.main.scope,locals:=mainNs,globals:=mainNs,cells:=[],code:=.ref 13,frame:=some 14 }
noncomputable def cd0:Code:=.body (behindTheImports P0) env0
noncomputable def ps (a b c d:Nat):Pos:={ line:=a,col:=b,endLine:=c,endCol:=d }
noncomputable def hp (P:Params):Nat→List Obj
 | 0=>hL P "__main__" 164 8 0 15
 | 1=>hL P "threepress.zseq" 736 32 21 400
 | 2=>hL P "threepress.zseq" 736 33 22 549
 | _=>hL P "law_nz0425_01" 1584 70 58 866
noncomputable def nO:Nat→Nat
 | 0=>15 | 1=>400 | 2=>549 | _=>866
noncomputable def tk:Nat→Nat
 | 0=>187 | 1=>763 | 2=>1291 | _=>1793
noncomputable def po:Nat→Pos
 | 0=>ps 0 0 0 0 | 1=>ps 271 0 272 74 | 2=>ps 273 0 275 42 | _=>ps 588 0 613 93
noncomputable def stm:Nat→List Stmt
 | 0=>(behindTheImports P0).take 28 | 1=>((behindTheImports P0).drop 28).take 1 | _=>((behindTheImports P0).drop 28).drop 1
noncomputable def S (k:Nat) (w:World) (os:OsState):SharedT:={ tree:=bt 11 (hp w.params k),n:=nO k,life:={},gens:=#[],drawn:={},toks:=tk k,os:=os }
noncomputable def Seg (run:(String→Option Builtin)→Program→World→Nat→Option Value→Nat→Nat→SharedT→Thread→Option (Flow×SharedT×Code×Pos)) (tb:String→Option Builtin) (k n:Nat) (w:World) (os:OsState):Prop :=
 run tb P0 w 11 (some (.ref 6)) 1 n (S k w os) (piecesOf (stm k) env0 cd0 (po k) [topFrame (ps 0 0 0 0)])=some (.next,S (k+1) w os,cd0,po (k+1))
end Mine.Internal.Hd
open PySem PySem.W PyProof.Rows PySem.Calls
set_option Elab.async false
set_option maxRecDepth 100000
namespace Mine.Internal.Hd
theorem seg0 (w:World) (os:OsState):Seg PySem.W.Fast.tw10110043849684766642 PySem.W.Fast.tw14364793385576792824 0 2997 w os:=by
 show _=_
 kernel_rfl
end Mine.Internal.Hd
open PySem PySem.W PyProof.Rows PySem.Calls
set_option Elab.async false
set_option maxRecDepth 100000
namespace Mine.Internal.Hd
theorem seg1f (w:World) (os:OsState):Seg PySem.W.Fast.tw10110043849684766642 PySem.W.Fast.tw14364793385576792824 1 7004 (w.withFollow "special-get-raises" false) os:=by
 show _=_
 kernel_rfl
end Mine.Internal.Hd
open PySem PySem.W PyProof.Rows PySem.Calls
set_option Elab.async false
set_option maxRecDepth 100000
namespace Mine.Internal.Hd
theorem seg1t (w:World) (os:OsState):Seg PySem.W.Fast.tw10110043849684766642 PySem.W.Fast.tw14364793385576792824 1 7004 (w.withFollow "special-get-raises" true) os:=by
 show _=_
 kernel_rfl
end Mine.Internal.Hd
open PySem PySem.W PyProof.Rows PySem.Calls
set_option Elab.async false
set_option maxRecDepth 100000
namespace Mine.Internal.Hd
theorem seg2 (w:World) (os:OsState):Seg PySem.W.Fast.tw10110043849684766642 PySem.W.Fast.tw14364793385576792824 2 1831 w os:=by
 show _=_
 kernel_rfl
end Mine.Internal.Hd
set_option Elab.async false
set_option linter.unusedVariables false
namespace Mine.Internal
section
open Lin.Internal
theorem oz1 {a b c:Nat}:a<b→c=b→a<c:=by intros;expose_names;exact Nat.lt_of_lt_of_eq h (id (Eq.symm h_1))
theorem oz2 {a b c:Nat}:(a+(4*b))≤900→c≤b→(a+(4*c))≤900:=lin [a,b,c] [] [.l (.p A (.m 4 B)) (.n 900),.l C B] (.l (.p A (.m 4 C)) (.n 900)) [1052673] rfl
theorem oz3 {a b c:Nat}:((a+(40*b))+500)≤9900→c≤b→((a+(40*c))+500)≤9900:=lin [a,b,c] [] [.l (.p (.p A (.m 40 B)) (.n 500)) (.n 9900),.l C B] (.l (.p (.p A (.m 40 C)) (.n 500)) (.n 9900)) [1089537] rfl
theorem oz4 {a b:Nat}:((a+(40*b))+500)≤9900→(a+400)<9900:=lin [a,b] [] [.l (.p (.p A (.m 40 B)) (.n 500)) (.n 9900)] (k (.p A (.n 400)) (.n 9900)) [1025] rfl
theorem oz5 {a b c:Nat}:a≤1500→b≤1500→¬ (((c<a)∧(c<b))∧((134217728:Int)<((a:Int)+(b:Int)))):=lin [a,b,c] [] [.l A (.n 1500),.l B (.n 1500)] (.t (.a (.a (k C A) (k C B)) (K (.n 134217728) (.p (.c A) (.c B))))) [1099511628801] rfl
theorem oz6 {x:Int}:(0:Int)<x→x≠(0:Int):=by intros;expose_names;exact Ne.symm (Int.ne_of_lt h)
theorem oz7 {x:Int}:(0:Int)<x→(0:Int)≤x:=by intros;expose_names;exact Int.le_of_lt h
theorem oz8 {a:Nat}:a<1500→a<9000:=by intros;exact Nat.lt_of_lt_of_le ‹_› (Nat.le_of_ble_eq_true rfl)
theorem oz9 {x:Int}:x≤(1000:Int)→x≤(1000000:Int):=lin [] [x] [.L A (.n 1000)] (.L A (.n 1000000)) [1025] rfl
theorem oz10 {x:Int}:(0:Int)≤x→x≤(1000000:Int)→((-(9223372036854775808:Int))≤x)∧(x<(9223372036854775808:Int)):=lin [] [x] [.L (.n 0) A,.L A (.n 1000000)] (.a (.L (.g (.n 9223372036854775808)) A) (K A (.n 9223372036854775808))) [1048577,1049600] rfl
theorem oz11 {a:Nat}:a≤(2^24)→¬ ((((2^63)-1) / 8)<a):=lin [a] [] [.l A (.n 16777216)] (.t (k (.n 1152921504606846975) A)) [1025] rfl
theorem oz12 {x:Int}:x≤(1000000:Int)→x≤(16777216:Int):=lin [] [x] [.L A (.n 1000000)] (.L A (.n 16777216)) [1025] rfl
theorem oz13 {x:Int}:x≤(1000000:Int)→(Int.toNat x)≤1100000:=lin [(Int.toNat x)] [x] [T A A,.L A (.n 1000000)] (.l A (.n 1100000)) [1100585370624,1099511628800] rfl (tn _)
theorem oz14 {a b c d:Nat}:a=b→b≤1100000→c=d→d≤1100000→(a+c)≤16777216:=lin [a,b,c,d] [] [.q A B,.l B (.n 1100000),.q C V,.l V (.n 1100000)] (.l (.p A C) (.n 16777216)) [1154047405588480001] rfl
theorem oz15 {a b:Nat}:(a+b)≤1000000→(a+b)≤1100000:=by intros;exact Nat.le_trans ‹_› (Nat.le_of_ble_eq_true rfl)
theorem oz16 {a b:Nat} {x:Int}:(0:Int)≤(x+(a:Int))→b=a→(-(b:Int))≤x:=lin [a,b] [x] [.L (.n 0) (.p A (.c A)),.q B A] (.L (.g (.c B)) A) [1074790401] rfl
theorem oz17 {a b:Nat}:a=b→b≤1100000→a≤1099511627776:=lin [a,b] [] [.q A B,.l B (.n 1100000)] (.l A (.n 1099511627776)) [1074790401] rfl
theorem oz18 {a b:Nat} {x:Int}:(Int.toNat x)<a→b=a→x<(b:Int):=lin [a,b,(Int.toNat x)] [x] [T A C,k C A,.q B A] (K A (.c B)) [1154047405588480000,1154047405587431425] rfl (tn _)
theorem oz19 {a b c d:Nat}:(a+400)<b→c≤64→((a+1)+(min d c))<b:=lin [a,b,c,d,(min d c)] [] [M V C G,k (.p A (.n 400)) B,.l C (.n 64)] (k (.p (i A) G) B) [1127000492213249,1127000492213248] rfl (mn _ _)
theorem oz20 {a:Nat}:¬ (a<6)→6≤a:=by intros;expose_names;exact Nat.le_of_not_lt h
theorem oz21 {a b:Nat}:a≤(b+1)→a≤(b+1):=by intros;omega
theorem oz22 {a b c:Nat}:a<90→b=a→c≤(b+1)→c≤(16777216+1):=lin [a,b,c] [] [k A (.n 90),.q B A,.l C (i B)] (.l C (.n 16777217)) [1100585370625] rfl
theorem oz23 {a b:Nat}:a<90→b≤(a+1)→b<100:=lin [a,b] [] [k A (.n 90),.l B (i A)] (k B (.n 100)) [1049601] rfl
theorem oz24 {a b:Nat}:a<1000000→b=a→b≤16777216:=lin [a,b] [] [k A (.n 1000000),.q B A] (.l B (.n 16777216)) [1073742849] rfl
theorem oz25 {a b:Nat}:a<1000000→b=a→(b+1)≤(16777216+1):=lin [a,b] [] [k A (.n 1000000),.q B A] (.l (i B) (.n 16777217)) [1073742849] rfl
theorem oz26 {a:Nat}:a<1000000→a≤1099999:=by intros;exact Nat.le_trans (Nat.le_of_lt ‹_›) (Nat.le_of_ble_eq_true rfl)
theorem oz27 {a:Nat} {x:Int}:(Int.toNat x)<a→(Int.toNat x)<a:=by intros;omega
theorem oz28 {a:Nat}:a≤1100000→a≤1100000:=by intros;omega
theorem oz29 {a:Nat}:a<1000000→a≤16777216:=by intros;exact Nat.le_trans (Nat.le_of_lt ‹_›) (Nat.le_of_ble_eq_true rfl)
theorem oz30 {a b:Nat}:a<1000000→b≤(a+1)→b≤1100000:=lin [a,b] [] [k A (.n 1000000),.l B (i A)] (.l B (.n 1100000)) [1049601] rfl
theorem oz31 {a b c:Nat}:(min (a-b) (c-b))≤c:=lin [a,b,c,(a-b),(c-b),(min (a-b) (c-b))] [] [S C B G,M V G H] (.l H C) [1152922605192217600,1152922604118475776,1152922605192217600,1152922604118475776] rfl (sb _ _) (mn _ _)
theorem oz32 {a:Nat}:a≤1100000→a≤16777216:=by intros;exact Nat.le_trans ‹_› (Nat.le_of_ble_eq_true rfl)
theorem oz33 {a b c:Nat}:a=b→b≤1100000→c≤a→c≤16777216:=lin [a,b,c] [] [.q A B,.l B (.n 1100000),.l C A] (.l C (.n 16777216)) [1100586418177] rfl
theorem oz34 {a b:Nat}:a<(b+1)→a≤b:=by intros;expose_names;exact Nat.le_of_lt_succ h
theorem oz35 {x y z:Int}:x<y→y≤z→x≤z:=lin [] [x,y,z] [K A B,.L B C] (.L A C) [1049601] rfl
theorem oz36 {a b:Nat}:(a+1)≤b→b≤(a+1)→b=(a+1):=by intros;expose_names;exact Eq.symm (Nat.le_antisymm h h_1)
theorem oz37 {a b:Nat}:a≤b→a≤(b+1):=by intros;exact Nat.le_succ_of_le ‹_›
theorem oz38 {x y:Int}:¬ (x<y)→y≤x:=by intros;expose_names;exact Int.not_lt.mp h
theorem oz39 {x:Int}:((0:Int)≤x)∧(x<(256:Int))→x=(((Int.toNat x):Nat):Int):=lin [(Int.toNat x)] [x] [T A A,.a (.L (.n 0) A) (K A (.n 256))] (.Q A (.c A)) [1125899906843648,1125899907891200,1125900980585472,1125899906842625] rfl (tn _)
theorem oz40 {x:Int}:((0:Int)≤x)∧(x<(256:Int))→(Int.toNat x)<256:=by intros;simp_all
theorem oz41 {a b:Nat}:0<a→b≤(a-1)→b<a:=by intros;expose_names;exact Nat.lt_of_le_pred h h_1
theorem oz42 {a b:Nat}:a<b→a≤(b-1):=by intros;expose_names;exact Nat.le_sub_one_of_lt h
theorem oz43 {a:Nat}:a<256→((0:Int)≤(a:Int))∧((a:Int)<(256:Int)):=lin [a] [] [k A (.n 256)] (.a (.L (.n 0) (.c A)) (K (.c A) (.n 256))) [1024,1025] rfl
theorem oz44 {a b c:Nat}:a=b→a=c→b≤1100000→c≤1100000:=by intros;simp_all
theorem oz45 {x y:Int}:x<y→(min y x)=x:=lin [] [x,y,(min y x)] [W B A C,K A B] (.Q C A) [1100586418176,1073741825,1099512676352,1099511628800] rfl (wn _ _)
theorem oz46 {x y:Int}:¬ (x<y)→(min y x)=y:=lin [] [x,y,(min y x)] [W B A C,.t (K A B)] (.Q C B) [1099512676352,1099511628800,1100586418176,1099511628801] rfl (wn _ _)
theorem oz47 {x y:Int}:x<y→(max x y)=y:=lin [] [x,y,(max x y)] [Y A B C,K A B] (.Q C B) [1099512676352,1099511628800,1073741825,1100585370624] rfl (yn _ _)
theorem oz48 {x y:Int}:¬ (x<y)→(max x y)=x:=lin [] [x,y,(max x y)] [Y A B C,.t (K A B)] (.Q C A) [1099512676353,1100585370624,1099512676352,1099511628800] rfl (yn _ _)
theorem oz49 {x:Int}:(x=(1:Int))∨(x=(-(1:Int)))→x≠(0:Int):=lin [] [x] [.o (.Q A (.n 1)) (.Q A (.g (.n 1)))] (.t (.Q A (.n 0))) [1049600,1073741825] rfl
theorem oz50 {a:Nat} {x:Int}:a<(Int.toNat x)→(0:Int)<((((Int.toNat x):Nat):Int)-(a:Int)):=lin [a,(Int.toNat x)] [x] [k A B] (K (.n 0) (.p (.c B) (.g (.c A)))) [1025] rfl
theorem oz51 {x y z:Int}:((x+y)+z)=(x+(y+((1:Int)*z))):=by intros;lia
theorem oz52 {a:Nat} {x:Int}:(((((Int.toNat x):Nat):Int)-(a:Int))-(1:Int))=((((Int.toNat x):Nat):Int)-((a:Int)+(1:Int))):=by intros;exact Int.sub_sub (↑x.toNat) (↑a) 1
theorem oz53 {x:Int}:((((Int.toNat x):Nat):Int)-(((Int.toNat x):Nat):Int))≤(0:Int):=by intros;lia
theorem oz54 {a b:Nat}:((a+(4*b))+3)≤900→(a+(4*b))≤900:=by intros;expose_names;exact Nat.le_of_add_right_le h
theorem oz55 {a b:Nat}:((a+(40*b))+530)≤9900→((a+(40*b))+500)≤9900:=by intros;lia
theorem oz56 {a b:Nat}:(a+(4*(b+1)))≤900→(((a+1)+(4*b))+3)≤900:=lin [a,b] [] [.l (.p A (.m 4 (i B))) (.n 900)] (.l (.p (.p (i A) (.m 4 B)) (.n 3)) (.n 900)) [1025] rfl
theorem oz57 {a b:Nat}:((a+(40*(b+1)))+500)≤9900→(((a+3)+(40*b))+530)≤9900:=lin [a,b] [] [.l (.p (.p A (.m 40 (i B))) (.n 500)) (.n 9900)] (.l (.p (.p (.p A (.n 3)) (.m 40 B)) (.n 530)) (.n 9900)) [1025] rfl
theorem oz58 {a b:Nat}:((a+(4*b))+3)≤900→((a+1)+(4*b))≤900:=lin [a,b] [] [.l (.p (.p A (.m 4 B)) (.n 3)) (.n 900)] (.l (.p (i A) (.m 4 B)) (.n 900)) [1025] rfl
theorem oz59 {a b:Nat}:((a+(40*b))+530)≤9900→(((a+1)+(40*b))+500)≤9900:=lin [a,b] [] [.l (.p (.p A (.m 40 B)) (.n 530)) (.n 9900)] (.l (.p (.p (i A) (.m 40 B)) (.n 500)) (.n 9900)) [1025] rfl
theorem oz60 {a:Nat}:(a+1)≠a:=by intros;exact Ne.symm (Nat.ne_add_one a)
theorem oz61 {a b c:Nat}:a<b→b=c→a<(min b c):=by intros;simp_all
theorem oz62 {a b:Nat}:¬ (a<b)→b≤a:=by intros;expose_names;exact Nat.le_of_not_lt h
theorem oz63 {a b:Nat}:a=(b+1)→b≠a:=by intros;simp_all
theorem oz64 {a:Nat}:(0+a)=a:=by intros;exact Nat.zero_add a
theorem oz65 {a b:Nat}:(a+0)=b→a=b:=by intros;omega
theorem oz66 {a b c:Nat}:(a+(b+1))=c→a<c:=lin [a,b,c] [] [.q (.p A (i B)) C] (k A C) [1048577] rfl
theorem oz67 {a b c:Nat}:(a+(b+1))=c→((a+1)+b)=c:=lin [a,b,c] [] [.q (.p A (i B)) C] (.q (.p (i A) B) C) [1049600,1048577] rfl
theorem oz68 {a:Nat}:a≤1000→a≤16777216:=by intros;exact Nat.le_trans ‹_› (Nat.le_of_ble_eq_true rfl)
theorem oz69 {a:Nat}:a≤1000→a≤1100000:=by intros;exact Nat.le_trans ‹_› (Nat.le_of_ble_eq_true rfl)
theorem oz70 {a b:Nat}:(min a b)=a→a≤b:=lin [a,b,(min a b)] [] [M A B C,.q C A] (.l A B) [1125899906842625,1126999418471424] rfl (mn _ _)
theorem oz71 {a b:Nat}:a<b→a=b→False:=by intros;simp_all
theorem oz72 {a b c d e:Nat}:a=(b+c)→d=b→e=c→a≤(d+e):=by intros;simp_all
theorem oz73 {a b:Nat}:(a+(4*(b+1)))≤900→a<1000:=lin [a,b] [] [.l (.p A (.m 4 (i B))) (.n 900)] (k A (.n 1000)) [1025] rfl
theorem oz74 {a b c d:Nat}:a=(b+c)→a≤d→((b+c)+(d-(b+c)))=d:=by intros;simp_all
theorem oz75 {a b c d:Nat}:a<(b+c)→d=(b+c)→a<d:=by intros;expose_names;exact Nat.lt_of_lt_of_eq h (id (Eq.symm h_1))
theorem oz76 {a b c d:Nat}:a=(b+c)→d=b→(d+c)=a:=by intros;simp_all
theorem oz77 {a:Nat}:¬ ((a:Int)<(0:Int)):=by intros;exact Int.not_ofNat_neg a
theorem oz78 {a b:Nat}:(Int.toNat (max (0:Int) (min (a:Int) (b:Int))))=(min a b):=lin [a,b,(Int.toNat (max (0:Int) (min (a:Int) (b:Int)))),(min a b)] [(min (a:Int) (b:Int)),(max (0:Int) (min (a:Int) (b:Int)))] [W (.c A) (.c B) A,Y (.n 0) A B,T B C,M A B V] (.q C V) [1329229263436725026953949086066147328,1330526069999550760402561501285581824,1329229264674665066239329360965271552,1330526069999550760402561501285581825,1329229263435516102287255961498288128,1329227995784917053495427777691648000,1329229264673456141572636236397412352,1329227995784917053495427777691648000,1329229263435516101133208558058340352,1329227995784917053495428877203275776,1329229264673456140418588832957464576,1329227995784917053495428877203275776,1329229263435516101133208558058340352,1329227995784917053495427777691648000,1329229264673456140418588832957464576,1329227995784917053495427777691648000,1329229264674665066239329360965271552,1330526069999550760402561501285581825,1329229263436725026953949086066147328,1330526069999550760402561501285581824,1329229264673456141572636236397412352,1329227995784917053495427777691648000,1329229263435516102287255961498288128,1329227995784917053495427777691648000,1329229264673456140418588832957464576,1329227995784917053495428877203275776,1329229263435516101133208558058340352,1329227995784917053495428877203275776,1329229264673456140418588832957464576,1329227995784917053495427777691648000,1329229263435516101133208558058340352,1329227995784917053495427777691648000] rfl (wn _ _) (yn _ _) (tn _) (mn _ _)
theorem oz79 {a b:Nat}:¬ (a≤b)→b≤a:=by intros;expose_names;exact Nat.le_of_not_ge h
theorem oz80 {a b c:Nat}:a<b→b≤c→a≤c:=lin [a,b,c] [] [k A B,.l B C] (.l A C) [1049601] rfl
theorem oz81 {a b c d:Nat}:(a+b)=c→c≤d→d≤1000→a<1000000:=lin [a,b,c,d] [] [.q (.p A B) C,.l C V,.l V (.n 1000)] (k A (.n 1000000)) [1100586418177] rfl
theorem oz82 {x y:Int}:¬ (x<y)→(Int.toNat (0:Int))=(Int.toNat (y-x)):=lin [(Int.toNat (y-x))] [x,y] [T (.p B (.g A)) A,.t (K A B)] (.q (.n 0) A) [1100585370624,1099511627776,1099511628800,1099511627776] rfl (tn _)
theorem oz83 {a b:Nat}:(a+400)<b→(a+64)<b:=lin [a,b] [] [k (.p A (.n 400)) B] (k (.p A (.n 64)) B) [1025] rfl
theorem oz84 {a b:Nat}:(a+400)<b→a<b:=by intros;expose_names;exact Nat.lt_of_add_right_lt h
theorem oz85 {a b:Nat}:(a+400)<b→(a+1)<b:=lin [a,b] [] [k (.p A (.n 400)) B] (k (i A) B) [1025] rfl
theorem oz86 {a b c:Nat}:(a≤b)∧(b<c)→a≤(((a+c)-1)-b):=lin [a,b,c,((a+c)-1),(((a+c)-1)-b)] [] [S (.p A C) (.n 1) V,S V B G,.a (.l A B) (k B C)] (.l A G) [1210106412361246493900800,1210106411235347660800000,2419033383771480367562753,2419033383771480367562753] rfl (sb _ _) (sb _ _)
theorem oz87 {a b c:Nat}:(a≤b)∧(b<c)→(((a+c)-1)-b)<c:=lin [a,b,c,((a+c)-1),(((a+c)-1)-b)] [] [S (.p A C) (.n 1) V,S V B G,.a (.l A B) (k B C)] (k G C) [1208926972537233293181952,1210106411236446097637376,1210106411236446097638400,1210106411236446097637376] rfl (sb _ _) (sb _ _)
theorem oz88 {a b c:Nat}:(a≤b)∧(b<c)→a≤b:=by intros;simp_all
theorem oz89 {a b c:Nat}:(a≤b)∧(b<c)→b<c:=by intros;simp_all
theorem oz90 {a b:Nat}:a≤b→¬ (a=b)→a≤(b-1):=lin [a,b,(b-1)] [] [S B (.n 1) C,.l A B,.t (.q A B)] (.l A C) [1126999419518976,1100585369600,1126999418470401,1100585369600] rfl (sb _ _)
theorem oz91 {a:Nat}:1≤a→(a-1)<a:=by intros;expose_names;exact Nat.sub_one_lt_of_lt h
theorem oz92 {a b:Nat}:a<(b+1)→¬ (a=b)→a<b:=lin [a,b] [] [k A (i B),.t (.q A B)] (k A B) [1049600,1025] rfl
theorem oz93 {a b:Nat}:(a+1)≤b→a≤b:=by intros;expose_names;exact Nat.le_of_succ_le h
theorem oz94 {a b c:Nat}:a≤((b+1)+c)→a≤(b+(c+1)):=lin [a,b,c] [] [.l A (.p (i B) C)] (.l A (.p B (i C))) [1025] rfl
theorem oz95 {a b c:Nat}:a<(b+(c+1))→a<((b+1)+c):=lin [a,b,c] [] [k A (.p B (i C))] (k A (.p (i B) C)) [1025] rfl
theorem oz96 {a b c:Nat}:(a+(b+1))≤c→((a+1)+b)≤c:=lin [a,b,c] [] [.l (.p A (i B)) C] (.l (.p (i A) B) C) [1025] rfl
theorem oz97 {a b:Nat}:(a+1)≤(b+(0+1))→b<(a+1)→b=a:=lin [a,b] [] [.l (i A) (i B),k B (i A)] (.q B A) [1048577,1049600] rfl
theorem oz98 {a b c:Nat}:(a+(b+1))≤c→a≤c:=by intros;expose_names;exact Nat.le_of_add_right_le h
theorem oz99 {a b c:Nat}:(a-(b+1))≤c→a≤(c+(b+1)):=by intros;expose_names;exact Nat.le_add_of_sub_le h
theorem oz100 {a:Nat}:0<(a+1):=by intros;exact Nat.succ_pos _
theorem oz101 {a b:Nat}:a<b→(a+1)<(b+1):=by intros;expose_names;exact Nat.add_lt_add_right h 1
theorem oz102 {a b c:Nat}:(a+1)≤(b+((c+1)+1))→a≤(b+(c+1)):=by intros;expose_names;exact Nat.le_of_lt_succ h
theorem oz103 {a b c:Nat}:a<b→c≤a→(0≤c)∧(c<b):=lin [a,b,c] [] [k A B,.l C A] (.a (.l (.n 0) C) (k C B)) [1048576,1049601] rfl
theorem oz104 {a b:Nat}:a<b→(0≤a)∧(a<b):=by intros;expose_names;exact if_false_right.mp h
theorem oz105 {a b c:Nat}:a≤b→(((0+c)-1)-b)≤(((0+c)-1)-a):=by intros;expose_names;exact Nat.sub_le_sub_left h (0+c-1)
theorem oz106 {a b:Nat}:1≤a→(((0+a)-1)-b)<a:=lin [a,b,((0+a)-1),(((0+a)-1)-b)] [] [S (.p (.n 0) A) (.n 1) C,S C B V,.l (.n 1) A] (k V A) [1180591621816922932224,1180591621816922931201,1181744543321529779200,1181744543321529778176] rfl (sb _ _) (sb _ _)
theorem oz107 {a b:Nat}:1≤a→a≤b→1≤b:=by intros;expose_names;exact Nat.le_trans h h_1
theorem oz108 {a b c:Nat}:a≤(b+(c-b))→b≤c→a≤c:=by intros;simp_all
theorem oz109 {a b:Nat}:(a+1)≤b→0<b:=by intros;expose_names;exact Nat.zero_lt_of_lt h
theorem oz110 {a:Nat}:1≤(a+1):=by intros;exact Nat.succ_pos _
theorem oz111 {a b:Nat}:(a+1)≤b→((a+1)+(b-(a+1)))≤b:=by intros;simp_all
theorem oz112 {a b c:Nat}:(a+1)≤b→c≤((a+1)+(b-(a+1)))→c≤b:=by intros;simp_all
theorem oz113 {a b:Nat}:(a+1)≤b→1≤b:=by intros;expose_names;exact Nat.one_le_of_lt h
theorem oz114 {a b:Nat}:a<1→b≤a→b=a:=by intros;simp_all
theorem oz115 {a b:Nat}:0<a→b≤(1+(a-1))→b≤a:=by intros;expose_names;exact oz108 h_1 h
theorem oz116 {a b:Nat}:0<a→b≤(1+(a-1))→¬ (b=a)→b<(1+(a-1)):=lin [a,b,(a-1)] [] [S A (.n 1) C,k (.n 0) A,.l B (.p (.n 1) C),.t (.q B A)] (k B (.p (.n 1) C)) [1154047404514738176,1126999418471424,1154047404513689601,1127000492213248] rfl (sb _ _)
theorem oz117 {a b:Nat}:0<a→b≤(1+(a-1))→¬ (b=a)→(b+1)≤a:=lin [a,b,(a-1)] [] [S A (.n 1) C,k (.n 0) A,.l B (.p (.n 1) C),.t (.q B A)] (.l (i B) A) [1154047404513689600,1126999418471424,1154047404513689600,1127000492213248] rfl (sb _ _)
theorem oz118 {a b c:Nat}:a<b→c≤a→c<b:=by intros;expose_names;exact Nat.lt_of_le_of_lt h_1 h
theorem oz119 {a:Nat}:1≤a→¬ (1<a)→a=1:=lin [a] [] [.l (.n 1) A,.t (k (.n 1) A)] (.q A (.n 1)) [1048577,1049600] rfl
theorem oz120 {a:Nat}:0<a→¬ (1=a)→(1+1)≤a:=lin [a] [] [k (.n 0) A,.t (.q (.n 1) A)] (.l (.n 2) A) [1049600,1025] rfl
theorem oz121 {a b c:Nat}:a≤b→b≤c→a≤c:=by intros;exact Nat.le_trans ‹_› ‹_›
theorem oz122 {a b c:Nat}:(a-b)≤0→b≤c→a≤c:=lin [a,b,c,(a-b)] [] [S A B V,.l V (.n 0),.l B C] (.l A C) [1127000493260800,1126999418470401] rfl (sb _ _)
theorem oz123 {a b:Nat}:a≤b→a≤((a+b) / 2):=lin [a,b,((a+b) / 2)] [] [R (.p A B) C 2,.l A B] (.l A C) [2148533248] rfl (dv _ 2 (by decide))
theorem oz124 {a b c:Nat}:a≤b→b≤c→((a+b) / 2)≤c:=lin [a,b,c,((a+b) / 2)] [] [R (.p A B) V 2,.l A B,.l B C] (.l V C) [2201171787777] rfl (dv _ 2 (by decide))
theorem oz125 {a b c:Nat}:(a-b)≤(c+1)→(((b+a) / 2)-b)≤c:=lin [a,b,c,(a-b),((b+a) / 2),(((b+a) / 2)-b)] [] [S A B V,R (.p B A) G 2,S G B H,.l V (i C)] (.l H C) [2477089006696218189261438976,1237940040438301779505971200,2475880080876603560085684225,1237940040438301779505971200] rfl (sb _ _) (dv _ 2 (by decide)) (sb _ _)
theorem oz126 {a b:Nat}:¬ (a≤b)→(((b+a) / 2)+1)≤a:=lin [a,b,((b+a) / 2)] [] [R (.p B A) C 2,.t (.l A B)] (.l (i C) A) [2148532225] rfl (dv _ 2 (by decide))
theorem oz127 {a b c:Nat}:(a-b)≤(c+1)→(a-(((b+a) / 2)+1))≤c:=lin [a,b,c,(a-b),((b+a) / 2),(a-(((b+a) / 2)+1))] [] [S A B V,R (.p B A) G 2,S A (i G) H,.l V (i C)] (.l H C) [2477089006696219287699324928,1237940040438301779505971200,2475880080876604658523570177,1237940040438301779505971200] rfl (sb _ _) (dv _ 2 (by decide)) (sb _ _)
theorem oz128 {a b c:Nat}:a<(((b+c) / 2)+1)→a≤((b+c) / 2):=by intros;expose_names;exact Nat.le_of_lt_succ h
theorem oz129 {a b c:Nat}:a≤b→¬ (a≤c)→((c+a) / 2)<b:=lin [a,b,c,((c+a) / 2)] [] [R (.p C A) V 2,.l A B,.t (.l A C)] (k V B) [2200099094529] rfl (dv _ 2 (by decide))
theorem oz130 {a b c:Nat}:(a+(b+1))≤c→a<c:=by intros;expose_names;exact Nat.lt_of_add_right_lt h
theorem oz131 {a b c d:Nat}:a<(b+1)→c=(b-(b-d))→c≤a→¬ (a=(b-(b-d)))→((b-(b-d))<a)∧(a≤b):=lin [a,b,c,d,(b-d),(b-(b-d))] [] [k A (i B),.q C H,.l C A,.t (.q A H)] (.a (k H A) (.l A B)) [1100586418176,1125899906842625,1126999418470400,1125899906842625] rfl
theorem oz132 {a b c d:Nat}:a=(b-(b-c))→a≤d→c≤b→¬ (d=(b-(b-c)))→c≤(d-1):=lin [a,b,c,d,(b-c),(b-(b-c)),(d-1)] [] [S B C G,S B G H,S V (.n 1) J,.q A H,.l A V,.l C B,.t (.q V H)] (.l C J) [1361130767025619087788634963847858356224,1395157704375847701408761711210778748519424,1361130767025619087788634963847858356224,1395157704375847700199837044517654180660224,1361129467683753853854651352331191320576,1393796574908163946345982392040523667866624,1361129467683753853853498430826584473600,1393796574908163946345982392040523667866624,1361130767025619087788634963847858356224,1395159033603843486324634615017839028864000,1361130767025619087788634963847858356224,1395159033603843485115709948324714461004800,1361129467683753853854651352331191320576,1393797904136159731261855295847583948211200,1361129467683753853853498430826584473600,1393797904136159731261855295847583948211200] rfl (sb _ _) (sb _ _) (sb _ _)
theorem oz133 {a b c:Nat}:a<(b+1)→¬ (a=(b-(b-c)))→(a-1)<b:=lin [a,b,c,(b-c),(b-(b-c)),(a-1)] [] [S B V G,S A (.n 1) H,k A (i B),.t (.q A G)] (k H B) [1210106411236446097638400,1208926972537233293180928,1210106411236446097638400,1210107564157950704484352,1180591620718485046272,1208926972537233293180928,1180591620717411304448,1210107564157950704484352] rfl (sb _ _) (sb _ _)
theorem oz134 {a b c d:Nat}:((a-(a-b))<c)∧(c≤a)→c≤d→¬ (d=(a-(a-b))):=lin [a,b,c,d,(a-b),(a-(a-b))] [] [.a (k H C) (.l C A),.l C V] (.t (.q V H)) [1074790401] rfl
theorem oz135 {a b c d:Nat}:((a-(a-b))<c)∧(c≤a)→c≤d→d<(a+1)→((a-(a-b))<d)∧(d≤a):=lin [a,b,c,d,(a-b),(a-(a-b))] [] [.a (k H C) (.l C A),.l C V,k V (i A)] (.a (k H V) (.l V A)) [1099512676353,1100585369600] rfl
theorem oz136 {a b:Nat}:a≤b→(a-1)≤(b-1):=by intros;expose_names;exact Nat.sub_le_sub_right h 1
theorem oz137 {a b c d:Nat}:a<(b+1)→c≤a→¬ (c=(b-(b-d)))→(a-1)<b:=lin [a,b,c,d,(b-d),(b-(b-d)),(a-1)] [] [S B G H,S A (.n 1) J,k A (i B),.l C A,.t (.q C H)] (k J B) [1237940040438302879017598976,1237940040438302879017598976,1239148965104996003585459200,1239150146849538225603608576,1208925819614629174707200,1237940040438302879017598976,1208925819614629174707200,1239150146849538225603608576] rfl (sb _ _) (sb _ _)
theorem oz138 {a b c d:Nat}:a<(b+1)→c≤a→¬ (((b-(b-d))<c)∧(c≤b))→¬ (c=(b-(b-d)))→c<d:=lin [a,b,c,d,(b-d),(b-(b-d))] [] [S B V G,S B G H,k A (i B),.l C A,.t (.a (k H C) (.l C B)),.t (.q C H)] (k C V) [1268888540267514782871115005952,1239148965104994904073830400,1239148965104996003585458176,1210107564156851192856576,1237940039285381374410752000,1239148965104994904073830400,1239148965104996003585458176,1210107564156851192856576,1268888540267514782871113957377,1239148965104994904073830400,1239148965104996003585458176,1210107564156851192856576,1237940039285381374410752000,1239148965104994904073830400,1239148965104996003585458176,1210107564156851192856576] rfl (sb _ _) (sb _ _)
theorem oz139 {a b c d:Nat}:((a-(a-b))<c)∧(c≤a)→d≤c→¬ (((a-(a-b))<d)∧(d≤a))→d≤(c-1):=lin [a,b,c,d,(a-b),(a-(a-b)),(c-1)] [] [S C (.n 1) J,.a (k H C) (.l C A),.l V C,.t (.a (k H V) (.l V A))] (.l V J) [1181744542223092940800,1154048504025317376,1181744542223091892225,1154048504025317376] rfl (sb _ _)
theorem oz140 {a b c:Nat}:a<(b+1)→¬ (((b-(b-c))<a)∧(a≤b))→¬ (a=(b-(b-c)))→a<b:=lin [a,b,c,(b-c),(b-(b-c))] [] [S B V G,k A (i B),.t (.a (k G A) (.l A B)),.t (.q A G)] (k A B) [1154047404513690624,1126999418470400,1126999418471424,1100585369600,1125899906843648,1126999418470400,1126999418471424,1100585369600] rfl (sb _ _)
theorem oz141 {a b:Nat}:(a+(b+1))=((a+1)+b):=by intros;exact Eq.symm (Nat.succ_add_eq_add_succ a b)
theorem oz142 {a b:Nat}:a≤b→(a+(b-a))≤b:=by intros;simp_all
theorem oz143 {a b:Nat}:a≤b→(a+(b-a))=b:=by intros;expose_names;exact Nat.add_sub_of_le h
theorem oz144 {a b:Nat}:a≤b→¬ (a<b)→a=b:=lin [a,b] [] [.l A B,.t (k A B)] (.q A B) [1049600,1048577] rfl
theorem oz145 {x y z:Int}:x<y→y<z→¬ (x=z):=lin [] [x,y,z] [K A B,K B C] (.t (.Q A C)) [1073742849] rfl
theorem oz146 {x y:Int}:x<y→¬ (x=y):=by intros;expose_names;exact Int.ne_of_lt h
theorem oz147 {x y z:Int}:x<y→¬ (z<y)→¬ (x=z):=by intros;omega
theorem oz148 {x y z:Int}:x<y→¬ (z<y)→x<z:=lin [] [x,y,z] [K A B,.t (K C B)] (K A C) [1049601] rfl
theorem oz149 {a b:Nat}:a≤b→(a+0)<(b+1):=by intros;expose_names;exact Nat.lt_succ_of_le h
theorem oz150 {a:Nat}:a<64→a≤16777216:=by intros;exact Nat.le_trans (Nat.le_of_lt ‹_›) (Nat.le_of_ble_eq_true rfl)
theorem oz151 {a:Nat}:((a+1)+1)<2→False:=by intros;lia
theorem oz152:1≤(16777216+1):=by intros;exact Nat.succ_pos _
theorem oz153 {a:Nat}:¬ (a<2)→2≤a:=by intros;expose_names;exact oz62 h
theorem oz154 {a b c:Nat}:0<a→a=b→c=b→0<c:=by intros;simp_all
theorem oz155 {a b c d:Nat}:a=4→b=4→c=a→d=b→¬ (c<d):=by intros;simp_all
theorem oz156 {a b:Nat}:a=4→b=4→a=b:=by intros;simp_all
theorem oz157 {a:Nat}:a<64→a≤(16777216+1):=by intros;exact Nat.le_trans (Nat.le_of_lt ‹_›) (Nat.le_of_ble_eq_true rfl)
theorem oz158 {a b:Nat}:a<64→b=a→b≤16777216:=lin [a,b] [] [k A (.n 64),.q B A] (.l B (.n 16777216)) [1073742849] rfl
theorem oz159 {a b:Nat}:a<64→b=a→b<64:=by intros;expose_names;exact lt_of_eq_of_lt h_1 h
theorem oz160 {a b:Nat}:a<64→b=a→b≤1100000:=lin [a,b] [] [k A (.n 64),.q B A] (.l B (.n 1100000)) [1073742849] rfl
theorem oz161 {a b c:Nat}:a<64→b=a→c=b→c<64:=by intros;simp_all
theorem oz162 {a b c:Nat}:a<64→b=a→c=b→c≤1100000:=lin [a,b,c] [] [k A (.n 64),.q B A,.q C B] (.l C (.n 1100000)) [1125900980585473] rfl
theorem oz163 {a b:Nat}:a=b→a≤b:=by intros;expose_names;exact Nat.le_of_eq h
theorem oz164 {a b:Nat}:(a+(b+1))≤16777216→a≤16777216:=by intros;expose_names;exact Nat.le_of_add_right_le h
theorem oz165 {a:Nat}:a≤(a+1):=by intros;exact Nat.le_add_right a 1
theorem oz166 {a b c:Nat}:a=(b+(c+1))→a=((b+1)+c):=lin [a,b,c] [] [.q A (.p B (i C))] (.q A (.p (i B) C)) [1049600,1048577] rfl
theorem oz167 {a b c:Nat}:(a+(b+1))≤16777216→c≤(a+1)→(c+b)≤16777216:=lin [a,b,c] [] [.l (.p A (i B)) (.n 16777216),.l C (i A)] (.l (.p C B) (.n 16777216)) [1049601] rfl
theorem oz168 {a b:Nat}:((a+1)+b)=(a+(b+1)):=by intros;exact Nat.succ_add_eq_add_succ a b
theorem oz169 {a b:Nat}:a=b→a=(0+b):=by intros;simp_all
theorem oz170 {a:Nat}:a≤16777216→(0+a)≤16777216:=by intros;simp_all
theorem oz171 {a b c d:Nat}:a≤(b+1)→c≤(a+d)→c≤(b+(d+1)):=lin [a,b,c,d] [] [.l A (i B),.l C (.p A V)] (.l C (.p B (i V))) [1049601] rfl
theorem oz172 {a b:Nat}:a=b→b≤1100000→a≤16777216:=lin [a,b] [] [.q A B,.l B (.n 1100000)] (.l A (.n 16777216)) [1074790401] rfl
theorem oz173 {a b c:Nat}:a=b→c=b→a=c:=by intros;simp_all
theorem oz174 {a b:Nat}:a≤(0+b)→b≤1100000→a≤1100000:=lin [a,b] [] [.l A (.p (.n 0) B),.l B (.n 1100000)] (.l A (.n 1100000)) [1049601] rfl
theorem oz175 {a b:Nat}:a<b→b≤a→False:=by intros;lia
theorem oz176 {a b:Nat}:a≤b→¬ (b=a)→(a+1)≤b:=by intros;lia
theorem oz177 {a:Nat}:a<(a+0)→False:=by intros;simp_all
theorem oz178 {a b c:Nat}:a≤(0+(b-c))→a≤(b-c):=by intros;simp_all
theorem oz179 {a b c:Nat}:a<(b-c)→a<(0+(b-c)):=by intros;expose_names;exact Nat.lt_add_left 0 h
theorem oz180 {a b:Nat}:(a+3)≤b→a<b:=by intros;expose_names;exact Nat.lt_of_add_right_lt h
theorem oz181 {a b:Nat}:(a+3)≤b→(a+1)<b:=by intros;expose_names;exact Nat.lt_of_succ_lt h
theorem oz182 {a b:Nat}:(a+3)≤b→(a+2)<b:=by intros;assumption
theorem oz183 {a b:Nat}:(a+3)≤b→((a+1)+1)<b:=by intros;assumption
theorem oz184 {a b c:Nat}:(a+3)≤b→c<3→(a+c)<b:=lin [a,b,c] [] [.l (.p A (.n 3)) B,k C (.n 3)] (k (.p A C) B) [1049601] rfl
theorem oz185 {a b c d e f:Nat}:(((((((0:Int)*(256:Int))+(a:Int))*(256:Int))+(b:Int))*(256:Int))+(c:Int))=(((((((0:Int)*(256:Int))+(d:Int))*(256:Int))+(e:Int))*(256:Int))+(f:Int))→b<256→c<256→e<256→f<256→a=d:=by intros;omega
theorem oz186 {a b c d e f:Nat}:(((((((0:Int)*(256:Int))+(a:Int))*(256:Int))+(b:Int))*(256:Int))+(c:Int))=(((((((0:Int)*(256:Int))+(d:Int))*(256:Int))+(e:Int))*(256:Int))+(f:Int))→b<256→c<256→e<256→f<256→b=e:=by intros;omega
theorem oz187 {a b c d e f:Nat}:(((((((0:Int)*(256:Int))+(a:Int))*(256:Int))+(b:Int))*(256:Int))+(c:Int))=(((((((0:Int)*(256:Int))+(d:Int))*(256:Int))+(e:Int))*(256:Int))+(f:Int))→c<256→f<256→c=f:=by intros;lia
theorem oz188:0<3:=by intros;exact Nat.succ_pos _
theorem oz189:1<3:=by intros;exact Nat.one_lt_succ_succ 1
theorem oz190:2<3:=by intros;exact Nat.lt_add_one 2
theorem oz191 {a:Nat}:(-(1:Int))=(a:Int)→False:=by intros;simp_all
theorem oz192 {a b:Nat}:(a:Int)=(b:Int)→a=b:=by intros;lia
theorem oz193 {a b:Nat}:a<(b+1)→b<a→False:=lin [a,b] [] [k A (i B)] (.t (k B A)) [1025] rfl
theorem oz194 {a:Nat}:a<0→False:=by intros;expose_names;exact Nat.not_succ_le_zero a h
theorem oz195 {a:Nat}:(a:Int)=(-(1:Int))→False:=by intros;simp_all
theorem oz196 {a b c:Nat}:(a+3)≤b→((a-c)+3)≤b:=lin [a,b,c,(a-c)] [] [S A C V,.l (.p A (.n 3)) B] (.l (.p V (.n 3)) B) [1100585370624,1100585370624] rfl (sb _ _)
theorem oz197 {a b c:Nat}:a≤b→((b+c)-a)=((b-a)+c):=by intros;expose_names;exact Nat.sub_add_comm h
theorem oz198 {a b:Nat}:(a+3)≤b→3≤(b-a):=by intros;expose_names;exact Nat.le_sub_of_add_le' h
theorem oz199 {a b:Nat}:(a+(b+1))=((a+b)+1):=by intros;exact rfl
theorem oz200 {a b:Nat}:a<((a+b)+1):=lin [a,b] [] [] (k A (i (.p A B))) [1] rfl
theorem oz201 {a b:Nat}:((a+b)+1)≤(a+(b+1)):=by intros;exact Nat.le_refl (a+b+1)
theorem oz202 {a b c:Nat}:a≤(b+c)→a≤(b+(c+1)):=by intros;exact Nat.le_succ_of_le ‹_›
theorem oz203 {a b c:Nat}:(a:Int)<(((b-c):Nat):Int)→a<(b-c):=by intros;expose_names;exact Int.ofNat_lt.mp h
theorem oz204 {a b c:Nat}:(a:Int)<(((b-c):Nat):Int)→c<(b-a):=lin [a,b,c,(b-c),(b-a)] [] [S B C V,S B A G,K (.c A) (.c V)] (k C G) [1181745668121924994048,1152921505680589824,1152921504606848000,1152921504606848000] rfl (sb _ _) (sb _ _)
theorem oz205 {a b c:Nat}:(a:Int)<(((b-c):Nat):Int)→a<b:=lin [a,b,c,(b-c)] [] [S B C V,K (.c A) (.c V)] (k A B) [1100585370624,1073742848] rfl (sb _ _)
theorem oz206 {a b c:Nat}:(a:Int)<(((b-c):Nat):Int)→(b-a)=((c+(((b-a)-c)-1))+1):=lin [a,b,c,(b-c),(b-a),((b-a)-c),(((b-a)-c)-1)] [] [S B C V,S B A G,S G C H,S H (.n 1) J,K (.c A) (.c V)] (.q G (i (.p C J))) [1361129468951404455262319451941187354624,1361130765757969696486225176980329857024,1362458696947189369954632764183963239424,1361129467684993002818603424631146676224,1237941219877000992310427648,1361129467683753853854651351231679692800,1329227995784915874057854464794035200,1361129467683753853854651351231679692800,1237941219877002091822055424,1361129467683753853853498430826584473600,1329227995784915872903807061354087424,1361129467683753853853498430826584473600,1237941219877000992310427648,1361129467683753853853498430826584473600,1329227995784915872903807061354087424,1361129467683753853853498430826584473600,1329227995784915872903807060280345600,1361129467683753853853498430826584473601,1329227995784915872903807060280345600,1361129467683753853853498430826584473601,1237941219877000992310427648,1361129467683753853854651351231679692800,1329227995784915872903807060280345600,1361129467683753853854651351231679692800,1329227995784915872903807060280345600,1361129467683753853853498430826584473600,1329227995784915872903807060280345600,1361129467683753853853498430826584473600,1237941219877000992310427648,1361129467683753853853498430826584473600,1329227995784915872903807060280345600,1361129467683753853853498430826584473600] rfl (sb _ _) (sb _ _) (sb _ _) (sb _ _)
theorem oz207 {a b c d e:Nat}:(a-b)=((c+d)+1)→e≤(c+d)→b<(a-e):=lin [a,b,c,d,e,(a-b),(a-e)] [] [S A B H,S A G J,.q H (i (.p C V)),.l G (.p C V)] (k B J) [1239150145697741521391977472,1210106411235347659752448,1180591620717411304448,1180591620717411304448] rfl (sb _ _) (sb _ _)
theorem oz208 {a b c d:Nat}:(a:Int)<(((b-c):Nat):Int)→c<d→(b-d)<(b-c):=lin [a,b,c,d,(b-c),(b-d)] [] [S B C G,S B V H,K (.c A) (.c G),k C V] (k H G) [1210106411236446098685952,1208926972537233293180928,1152921504606848000,1152921504606848000] rfl (sb _ _) (sb _ _)
theorem oz209 {a b:Nat}:a<b→1≤b:=by intros;expose_names;exact Nat.one_le_of_lt h
theorem oz210 {a b c d e:Nat}:(a-b)=((c+d)+1)→e≤(c+d)→e≤a:=lin [a,b,c,d,e,(a-b)] [] [S A B H,.q H (i (.p C V)),.l G (.p C V)] (.l G A) [1154048504025318400,1099511628800] rfl (sb _ _)
theorem oz211 {a b c:Nat}:(a:Int)<(((b-c):Nat):Int)→1≤(b-a):=lin [a,b,c,(b-c),(b-a)] [] [S B C V,S B A G,K (.c A) (.c V)] (.l (.n 1) G) [1181745668121924994048,1152921505680589824,1152921504606848000,1152921504606848000] rfl (sb _ _) (sb _ _)
theorem oz212 {a b:Nat}:(a-b)≤a:=by intros;exact Nat.sub_le a b
theorem oz213 {a b c:Nat}:(a:Int)<(((b-c):Nat):Int)→(b-(b-a))=a:=lin [a,b,c,(b-c),(b-a),(b-(b-a))] [] [S B C V,S B A G,S B G H,K (.c A) (.c V)] (.q H A) [1267651809154049017225389539328,1267650601408822148114021351424,1267650600229382324100821680128,1267650601408821022214114508800,1268889749193334397500288664576,1237940039285380275972867072,1268888540268667704375720805376,1267650601408821022214114508800,1268888540267514781771602330624,1237940039285380274899125248,1268888540267514781771602330624,1237940039285380274899125248,1268888540267514781771602330624,1237940039285380274899125248,1268888540267514781771602330624,1237940039285380274899125248] rfl (sb _ _) (sb _ _) (sb _ _)
theorem oz214 {a b c:Nat}:a≤(min b c)→(min b c)=(a+((min b c)-a)):=by intros;expose_names;exact Eq.symm (Nat.add_sub_of_le h)
theorem oz215 {a b c d e:Nat}:(min a b)=(c+d)→e≤(c+d)→e≤a:=lin [a,b,c,d,e,(min a b)] [] [M A B H,.q H (.p C V),.l G (.p C V)] (.l G A) [1154048504025318400,1154048504025318401] rfl (mn _ _)
theorem oz216 {a b c d e:Nat}:(min a b)=(c+d)→c<e→e≤(c+d)→(a-e)<(a-c):=lin [a,b,c,d,e,(min a b),(a-e),(a-c)] [] [M A B H,S A G J,S A C (.v 7),.q H (.p C V),k C G,.l G (.p C V)] (k J (.v 7)) [1361130765757969696486225178079841484800,1298074214633708060054129762893824,1362459995021405212587358386636825035776,1330527337650149809193262685672702976,1361130765757969696486225178079841484800,1298074214633708060054129762893824,1362459995021405212587358386636825035777,1330527337650149809193262685672702977] rfl (mn _ _) (sb _ _) (sb _ _)
theorem oz217 {a b:Nat} {x:Int}:((-(1:Int))≤x)∧(x<(((a-b):Nat):Int))→¬ (x=(-(1:Int)))→x=(((Int.toNat x):Nat):Int):=lin [a,b,(a-b),(Int.toNat x)] [x] [T A V,.a (.L (.g (.n 1)) A) (K A (.c C)),.t (.Q A (.g (.n 1)))] (.Q A (.c V)) [1125899906842625,1154047404513689600,1152921504606848000,1152921504607895552,1125900980584448,1154047404513689600,1154047404513690624,1152921504606846977] rfl (tn _)
theorem oz218 {a b c d e:Nat} {x:Int}:(min a b)=(c+d)→e≤(c+d)→(b:Int)<((a:Int)-x)→((-(1:Int))≤x)∧(x<(((a-c):Nat):Int))→¬ (x=(-(1:Int)))→(Int.toNat x)<(a-e):=lin [a,b,c,d,e,(min a b),(a-c),(Int.toNat x),(a-e)] [x] [M A B H,T A (.v 7),S A G (.v 8),.q H (.p C V),.l G (.p C V),K (.c B) (.p (.c A) (.g A)),.a (.L (.g (.n 1)) A) (K A (.c J)),.t (.Q A (.g (.n 1)))] (k (.v 7) (.v 8)) [1427247692705959881058285969449495137456488448,1329227995784915872903807061354086401,1427247692705959881058285969449495137456488448,1329227995784915872903807061354086401,1427249053835427564812139822947924863455592448,1427247694035187876843201842353302196663091201,1427249053835427564812139822947924863455592448,1427247694035187876843201842353302196663091201,1427247692705959881058285969449495137456488448,1461501637332233445541336191450142976565684732928,1427247692705959881058285969449495137456488448,1330527337650149809193262686746444800,1427249053835427564812139822947924863455592448,1462928885024939405422394477419592471702067479552,1427249053835427564812139822947924863455592448,1427247694036487218708435778642757822055449600] rfl (mn _ _) (tn _) (sb _ _)
theorem oz219 {a b c:Nat}:a≤(b-c)→¬ ((c+3)≤b)→a<3:=lin [a,b,c,(b-c)] [] [S B C V,.l A V,.t (.l (.p C (.n 3)) B)] (k A (.n 3)) [1127000492213248,1125900980585472] rfl (sb _ _)
theorem oz220 {a b c d:Nat}:(a-b)≤c→d≤(a-b)→¬ (c<d):=lin [a,b,c,d,(a-b)] [] [.l G C,.l V G] (.t (k C V)) [1049601] rfl
theorem oz221 {a b:Nat}:(a:Int)<((b:Int)+(3:Int))→¬ ((b+3)≤a):=by intros;lia
theorem oz222 {a b:Nat}:¬ ((a:Int)<((b:Int)+(3:Int)))→(b+3)≤a:=lin [a,b] [] [.t (K (.c A) (.p (.c B) (.n 3)))] (.l (.p B (.n 3)) A) [1025] rfl
theorem oz223 {a:Nat}:((a+3)-a)=3:=by intros;exact Nat.add_sub_self_left a 3
theorem oz224 {a:Nat}:(3-(a+1))≤2:=by intros;simp_all
theorem oz225 {x:Int}:(0:Int)≤x→x<(65536:Int)→(Int.natAbs x)<(2^64):=lin [(Int.natAbs x)] [x] [U A A,.L (.n 0) A,K A (.n 65536)] (k A (.n 18446744073709551616)) [1126999418471424,1125900980585472] rfl (na _)
theorem oz226 {a:Nat} {x:Int}:(0:Int)≤x→(0:Int)≤((x*(256:Int))+(a:Int)):=lin [a] [x] [.L (.n 0) A] (.L (.n 0) (.p (.r A 256) (.c A))) [1280] rfl
theorem oz227 {a:Nat}:(a+1)≤3→a≤3:=by intros;exact Nat.le_of_lt ‹_›
theorem oz228 {a:Nat}:(a+1)≤3→(3-a)=((3-(a+1))+1):=lin [a,(3-a),(3-(a+1))] [] [S (.n 3) A B,S (.n 3) (i A) C,.l (i A) (.n 3)] (.q B (i C)) [1180591621816923979776,1180592746617318147072,1181744543321530826752,1180591620718485046272,1073741825,1180591620717411304448,1152921504606846977,1180591620717411304448] rfl (sb _ _) (sb _ _)
theorem oz229 {a:Nat} {x y:Int}:a<256→x<y→((x*(256:Int))+(a:Int))<(y*(256:Int)):=lin [a] [x,y] [k A (.n 256),K A B] (K (.p (.r A 256) (.c A)) (.r B 256)) [1310721] rfl
theorem oz230 {a b c:Nat}:a<b→b≤1000→c≤a→c<1000000:=lin [a,b,c] [] [k A B,.l B (.n 1000),.l C A] (k C (.n 1000000)) [1074791425] rfl
theorem oz231 {a b c:Nat}:a≤(b+1)→b≤c→a≤(c+1):=lin [a,b,c] [] [.l A (i B),.l B C] (.l A (i C)) [1049601] rfl
theorem oz232 {a b c:Nat}:(a+3)≤b→¬ ((c+3)≤b)→a<c:=lin [a,b,c] [] [.l (.p A (.n 3)) B,.t (.l (.p C (.n 3)) B)] (k A C) [1049601] rfl
theorem oz233 {a b:Nat}:a<b→¬ ((b:Int)≤(a:Int)):=by intros;simp_all
theorem oz234 {a b:Nat}:(a:Int)<(b:Int)→a<b:=by intros;expose_names;exact Int.ofNat_lt.mp h
theorem oz235 {a b:Nat}:a<b→(b-(a+1))<(b-a):=by intros;expose_names;exact Nat.sub_succ_lt_self b a h
theorem oz236 {a b:Nat}:a≤b→¬ ((a:Int)<(b:Int))→a=b:=lin [a,b] [] [.l A B,.t (K (.c A) (.c B))] (.q A B) [1049600,1048577] rfl
theorem oz237 {a:Nat}:a≤1000→(a:Int)≤(1000000:Int):=lin [a] [] [.l A (.n 1000)] (.L (.c A) (.n 1000000)) [1025] rfl
theorem oz238 {a:Nat}:1≤a→¬ ((a:Int)<(1:Int)):=lin [a] [] [.l (.n 1) A] (.t (K (.c A) (.n 1))) [1025] rfl
theorem oz239 {a b c:Nat}:(a:Int)<((b:Int)-(c:Int))→(c+a)<b:=lin [a,b,c] [] [K (.c A) (.p (.c B) (.g (.c C)))] (k (.p C A) B) [1025] rfl
theorem oz240 {a b:Nat}:(0:Int)≤((a:Int)+(b:Int)):=by intros;exact Int.zero_le_ofNat (a+b)
theorem oz241 {a b c:Nat}:a≤b→(0:Int)≤(((b:Int)-(a:Int))+(c:Int)):=by intros;lia
theorem oz242 {a b c:Nat}:(Int.toNat (((a:Int)-(b:Int))+(c:Int)))=((a+c)-b):=lin [a,b,c,(Int.toNat (((a:Int)-(b:Int))+(c:Int))),((a+c)-b)] [] [T (.p (.p (.c A) (.g (.c B))) (.c C)) V,S (.p A C) B G] (.q V G) [1152922604119523328,1154047404513690624,1152922604118474752,1152921505680589824,1152922604118474753,1152921504606848000,1152922604118474752,1152921504606848000] rfl (tn _) (sb _ _)
theorem oz243 {a b c:Nat}:(a:Int)<((b:Int)-(c:Int))→a<(b-c):=lin [a,b,c,(b-c)] [] [S B C V,K (.c A) (.p (.c B) (.g (.c C)))] (k A V) [1100586418176,1073741825] rfl (sb _ _)
theorem oz244 {a b c d:Nat}:a≤(b-c)→d≤a→¬ ((d:Int)<((b:Int)-(c:Int)))→d=a:=lin [a,b,c,d,(b-c)] [] [S B C G,.l A G,.l V A,.t (K (.c V) (.p (.c B) (.g (.c C))))] (.q V A) [1154047405587432448,1152922604118474752,1152921505680589824,1152922604118474752] rfl (sb _ _)
theorem oz245 {a b:Nat}:1≤a→((b:Int)-(a:Int))<(b:Int):=lin [a,b] [] [.l (.n 1) A] (K (.p (.c B) (.g (.c A))) (.c B)) [1025] rfl
theorem oz246 {a b:Nat}:a≤b→(0:Int)≤((b:Int)-(a:Int)):=by intros;simp_all
theorem oz247 {x:Int}:(1:Int)≤x→¬ (x<(1:Int)):=by intros;expose_names;exact Int.not_lt_of_ge h
theorem oz248 {a b:Nat} {x:Int}:(a:Int)<x→¬ ((x≤(a:Int))∧(x≤(b:Int))):=lin [a,b] [x] [K (.c A) A] (.t (.a (.L A (.c A)) (.L A (.c B)))) [1025] rfl
theorem oz249 {a b:Nat} {x:Int}:(a:Int)<x→¬ ((x≤(b:Int))∧(x≤(a:Int))):=by intros;simp_all
theorem oz250 {a b:Nat} {x:Int}:¬ ((a:Int)<x)→¬ ((b:Int)<x)→(x≤(a:Int))∧(x≤(b:Int)):=by intros;simp_all
theorem oz251 {x:Int}:(1:Int)≤x→x=(((Int.toNat x):Nat):Int):=lin [(Int.toNat x)] [x] [T A A,.L (.n 1) A] (.Q A (.c A)) [1099511628800,1099512676352,1100585370624,1073741825] rfl (tn _)
theorem oz252 {a b:Nat}:¬ ((a:Int)<(b:Int))→b≤a:=by intros;simp_all
theorem oz253 {a:Nat}:(1:Int)≤(a:Int)→1≤a:=by intros;expose_names;exact Int.ofNat_le.mp h
theorem oz254 {a b:Nat} {x:Int}:(-(1:Int))≤x→(x≠(-(1:Int)))∧(((a:Int)-x)≤(b:Int))→(0:Int)≤x:=lin [a,b] [x] [.L (.g (.n 1)) A,.a (.t (.Q A (.g (.n 1)))) (.L (.p (.c A) (.g A)) (.c B))] (.L (.n 0) A) [1025,1073742848] rfl
theorem oz255 {a b c d:Nat}:(a+3)≤b→b≤1000→c≤(min a d)→c<1000000:=lin [a,b,c,d,(min a d)] [] [M A V G,.l (.p A (.n 3)) B,.l B (.n 1000),.l C G] (k C (.n 1000000)) [1154048505099060224,1154048505099060225] rfl (mn _ _)
theorem oz256 {a b c d e:Nat}:(a+3)≤b→c<(a-d)→e=b→d<e:=lin [a,b,c,d,e,(a-d)] [] [S A V H,.l (.p A (.n 3)) B,k C H,.q G B] (k V G) [1181744543322603521024,1099511628800] rfl (sb _ _)
theorem oz257 {a b c:Nat}:((a:Int)≠(-(1:Int)))∧(((b:Int)-(a:Int))≤(c:Int))→(b-a)≤(min b c):=lin [a,b,c,(b-a),(min b c)] [] [S B A V,M B C G,.a (.t (.Q (.c A) (.g (.n 1)))) (.L (.p (.c B) (.g (.c A))) (.c C))] (.l V G) [1152921504606846976,1208925820740529081549824,1152921504606846976,1210106412361246492853248,1152921504606846976,1208925819614629174707200,1152921504606846976,1208925819614629174707200] rfl (sb _ _) (mn _ _)
theorem oz258 {a b c:Nat}:a<(b-c)→(b-(b-c))<(b-a):=lin [a,b,c,(b-c),(b-(b-c)),(b-a)] [] [S B C V,S B V G,S B A H,k A V] (k G H) [1268889749193334397500288663552,1237940040438301779505972224,1268889749193334397500288664576,1237940040438301779505972224,1237940039285380274899125248,1237940039285380274899125248,1237940039285380274899125248,1237940039285380274899125248] rfl (sb _ _) (sb _ _) (sb _ _)
theorem oz259 {a b c:Nat}:a<(b-c)→(b-(b-c))=c:=lin [a,b,c,(b-c),(b-(b-c))] [] [S B C V,S B V G,k A V] (.q G C) [1180592746617318147072,1180591621816923979776,1180591620718485046272,1180591621816922931200,1152921504606848000,1152921504606848000,1152921504606848000,1152921504606848000] rfl (sb _ _) (sb _ _)
theorem oz260 {a b c:Nat}:a<(b-c)→((b:Int)-(((b-c):Nat):Int))=(c:Int):=lin [a,b,c,(b-c)] [] [S B C V,k A V] (.Q (.p (.c B) (.g (.c V))) (.c C)) [1099511628800,1099512676352,1073742848,1100585369601] rfl (sb _ _)
theorem oz261 {a b:Nat}:a≤b→a≤b:=by intros;omega
theorem oz262 {a:Nat}:0<a→(0:Int)≤((-(1:Int))+(a:Int)):=lin [a] [] [k (.n 0) A] (.L (.n 0) (.p (.g (.n 1)) (.c A))) [1025] rfl
theorem oz263 {a:Nat}:((-(1:Int))+(a:Int))<(a:Int):=by intros;lia
theorem oz264 {a:Nat}:(Int.toNat ((-(1:Int))+(a:Int)))=(a-1):=lin [a,(Int.toNat ((-(1:Int))+(a:Int))),(a-1)] [] [T (.p (.g (.n 1)) (.c A)) B,S A (.n 1) C] (.q B C) [1152922604119523328,1154047404513690624,1152922604118474752,1152921505680589824,1152922604118474753,1152921504606848000,1152922604118474752,1152921504606848000] rfl (tn _) (sb _ _)
theorem oz265 {a b c d e:Nat}:a≤(min b c)→b≤d→d≤1000→(0+(min e a))≤1000:=lin [a,b,c,d,e,(min b c),(min e a)] [] [M B C H,M G A J,.l A H,.l B V,.l V (.n 1000)] (.l (.p (.n 0) J) (.n 1000)) [1239150146849538226677351424,1239150146849538225603609600,1239150146849538226677351425,1239150146849538225603609601] rfl (mn _ _) (mn _ _)
theorem oz266 {a b c:Nat}:((a:Int)-(b:Int))≤(c:Int)→(a-b)≤c:=lin [a,b,c,(a-b)] [] [S A B V,.L (.p (.c A) (.g (.c B))) (.c C)] (.l V C) [1100585370624,1099511628800] rfl (sb _ _)
theorem oz267 {a b c:Nat}:¬ (((a:Int)-(b:Int))≤(c:Int))→(b+c)<a:=lin [a,b,c] [] [.t (.L (.p (.c A) (.g (.c B))) (.c C))] (k (.p B C) A) [1025] rfl
theorem oz268 {a b:Nat}:(a+(b+1))≤1000→(a+b)≤1000:=by intros;exact Nat.le_of_lt ‹_›
theorem oz269 {a b:Nat}:(a+b)≤1000→a<1000000:=by intros;lia
theorem oz270 {a b:Nat}:((a:Int)-((a:Int)-(b:Int)))=(b:Int):=by intros;exact Int.sub_sub_self ↑a ↑b
theorem oz271 {a b:Nat}:(a+(b+1))≤1000→((a+(0+1))+b)≤1000:=by intros;expose_names;exact oz96 h
theorem oz272 {x:Int}:(1:Int)≤x→(1:Int)≤(x+(3:Int)):=lin [] [x] [.L (.n 1) A] (.L (.n 1) (.p A (.n 3))) [1025] rfl
theorem oz273 {x:Int}:(1:Int)≤x→(3:Int)<(x+(3:Int)):=by intros;expose_names;exact Int.sub_lt_iff.mp h
theorem oz274 {x:Int}:((x+(3:Int))-(3:Int))=x:=by intros;exact Int.add_sub_cancel x 3
theorem oz275 {x:Int}:(1:Int)≤x→x≠(0:Int):=by intros;expose_names;exact Ne.symm (Int.ne_of_lt h)
theorem oz276 {a:Nat}:a<60→(a+3)<64:=lin [a] [] [k A (.n 60)] (k (.p A (.n 3)) (.n 64)) [1025] rfl
theorem oz277 {a:Nat} {x:Int}:3≤a→x≤(6:Int)→(0:Int)<(((4:Int)*(a:Int))-x):=lin [a] [x] [.l (.n 3) A,.L A (.n 6)] (K (.n 0) (.p (.m 4 (.c A)) (.g A))) [1049604] rfl
theorem oz278 {x:Int}:(0:Int)<x→1≤(Int.toNat x):=lin [(Int.toNat x)] [x] [T A A,K (.n 0) A] (.l (.n 1) A) [1100586418176,1073741825] rfl (tn _)
theorem oz279 {a:Nat} {x:Int}:x≤(a:Int)→(Int.toNat x)≤a:=by intros;expose_names;exact Int.toNat_le.mpr h
theorem oz280 {a:Nat}:a<1000→(Int.natAbs (a:Int))<(2^64):=by intros;exact Nat.lt_of_lt_of_le ‹_› (Nat.le_of_ble_eq_true rfl)
theorem oz281 {a:Nat}:(0:Int)≤((0:Int)+(a:Int)):=by intros;exact Int.zero_le_ofNat (0+a)
theorem oz282 {a:Nat}:a<20→((0:Int)+(a:Int))≤(1000:Int):=lin [a] [] [k A (.n 20)] (.L (.p (.n 0) (.c A)) (.n 1000)) [1025] rfl
theorem oz283 {a:Nat}:(Int.toNat ((0:Int)+(a:Int)))=a:=by intros;simp_all
theorem oz284 {a:Nat}:a<3→(((0:Int)+(a:Int))=(0:Int))∨((((0:Int)+(a:Int))=(1:Int))∨(((0:Int)+(a:Int))=(2:Int))):=lin [a] [] [k A (.n 3)] (.o (.Q (.p (.n 0) (.c A)) (.n 0)) (.o (.Q (.p (.n 0) (.c A)) (.n 1)) (.Q (.p (.n 0) (.c A)) (.n 2)))) [1024,1073742848,1049600,1073742848,1049600,1074790400,1074790400,1073741825] rfl
theorem oz285 {a:Nat}:a≤3→(1+a)≤1000000:=lin [a] [] [.l A (.n 3)] (.l (.p (.n 1) A) (.n 1000000)) [1025] rfl
theorem oz286 {a b c:Nat}:((a:Int)+(b:Int))<(c:Int)→(a+b)<c:=by intros;expose_names;exact Int.ofNat_lt.mp h
theorem oz287 {a b c:Nat}:a≤b→(0:Int)≤(((b:Int)+(c:Int))-(a:Int)):=lin [a,b,c] [] [.l A B] (.L (.n 0) (.p (.p (.c B) (.c C)) (.g (.c A)))) [1025] rfl
theorem oz288 {a b c:Nat}:(Int.toNat (((a:Int)+(b:Int))-(c:Int)))=((a+b)-c):=lin [a,b,c,(Int.toNat (((a:Int)+(b:Int))-(c:Int))),((a+b)-c)] [] [T (.p (.p (.c A) (.c B)) (.g (.c C))) V,S (.p A B) C G] (.q V G) [1152922604119523328,1154047404513690624,1152922604118474752,1152921505680589824,1152922604118474753,1152921504606848000,1152922604118474752,1152921504606848000] rfl (tn _) (sb _ _)
theorem oz289 {a b c:Nat}:((a:Int)+(b:Int))<(c:Int)→b<(c-a):=lin [a,b,c,(c-a)] [] [S C A V,K (.p (.c A) (.c B)) (.c C)] (k B V) [1100586418176,1073741825] rfl (sb _ _)
theorem oz290 {a b c d:Nat}:a≤(b-c)→d≤a→¬ (((c:Int)+(d:Int))<(b:Int))→d=a:=lin [a,b,c,d,(b-c)] [] [S B C G,.l A G,.l V A,.t (K (.p (.c C) (.c V)) (.c B))] (.q V A) [1154047405587432448,1152922604118474752,1152921505680589824,1152922604118474752] rfl (sb _ _)
theorem oz291 {a b c:Nat}:a≤1000→b≤a→(Int.natAbs ((min (b:Int) (c:Int))+(1:Int)))<(2^60):=lin [a,b,c,(Int.natAbs ((min (b:Int) (c:Int))+(1:Int)))] [(min (b:Int) (c:Int))] [W (.c B) (.c C) A,U (i A) V,.l A (.n 1000),.l B A] (k V (.n 1152921504606846976)) [1210107564157950704485376,1208925819615728687382528,1210107564157950704485377,1208925819615728687382528] rfl (wn _ _) (na _)
theorem oz292 {a b:Nat}:(Int.toNat (((min (a:Int) (b:Int))+(1:Int))-(1:Int)))=(min a b):=lin [a,b,(Int.toNat (((min (a:Int) (b:Int))+(1:Int))-(1:Int))),(min a b)] [(min (a:Int) (b:Int))] [W (.c A) (.c B) A,T (.p (i A) (.g (.n 1))) C,M A B V] (.q C V) [1237941219878126892218318848,1239148965104996003585459200,1237941221031048396825165824,1239148965104996003585459201,1237941219877000993385218048,1237940039285381374410752000,1237941221029922497992065024,1237940039285381374410752000,1237941221031048396825165824,1239148965104996003585459201,1237941219878126892218318848,1239148965104996003585459200,1237941221029922497992065024,1237940039285381374410752000,1237941219877000993385218048,1237940039285381374410752000] rfl (wn _ _) (tn _) (mn _ _)
theorem oz293 {a b c:Nat}:a<(min b c)→(a+1)≤b:=lin [a,b,c,(min b c)] [] [M B C V,k A V] (.l (i A) B) [1100585370624,1100585370625] rfl (mn _ _)
theorem oz294 {a b c:Nat}:a≤1000→b≤a→(0+(min b c))≤1000:=lin [a,b,c,(min b c)] [] [M B C V,.l A (.n 1000),.l B A] (.l (.p (.n 0) V) (.n 1000)) [1127000492213248,1127000492213249] rfl (mn _ _)
theorem oz295 {a b:Nat}:(a+(b+1))≤1000→((a+1)+b)≤1000:=lin [a,b] [] [.l (.p A (i B)) (.n 1000)] (.l (.p (i A) B) (.n 1000)) [1025] rfl
theorem oz296 {a:Nat}:((1:Int)+(a:Int))=(((a+1):Nat):Int):=lin [a] [] [] (.Q (.p (.n 1) (.c A)) (.c (i A))) [1,1] rfl
theorem oz297 {a:Nat}:3≤a→¬ (¬ ((2:Int)<(a:Int))):=lin [a] [] [.l (.n 3) A] (.t (.t (K (.n 2) (.c A)))) [1025] rfl
theorem oz298 {a b:Nat}:(a:Int)<(b:Int)→(b-a)=((b-(a+1))+1):=lin [a,b,(b-a),(b-(a+1))] [] [S B A C,S B (i A) V,K (.c A) (.c B)] (.q C (i V)) [1180591621816923979776,1180592746617318147072,1181744543321530826752,1180591620718485046272,1073741825,1180591620717411304448,1152921504606846977,1180591620717411304448] rfl (sb _ _) (sb _ _)
theorem oz299 {a b:Nat}:(a:Int)<(b:Int)→(a+1)≤b:=by intros;expose_names;exact Int.ofNat_le.mp h
theorem oz300 {a:Nat}:(((a+1):Nat):Int)=((1:Int)+(a:Int)):=lin [a] [] [] (.Q (.c (i A)) (.p (.n 1) (.c A))) [1,1] rfl
theorem oz301 {a b:Nat}:((a+1)+b)≤1000→(a+b)≤1000:=lin [a,b] [] [.l (.p (i A) B) (.n 1000)] (.l (.p A B) (.n 1000)) [1025] rfl
theorem oz302 {a b:Nat}:¬ ((a:Int)<(b:Int))→(b-a)=0:=by intros;simp_all
theorem oz303 {a:Nat}:¬ (3≤a)→¬ ((2:Int)<(a:Int)):=lin [a] [] [.t (.l (.n 3) A)] (.t (K (.n 2) (.c A))) [1025] rfl
theorem oz304 {a:Nat}:a<60→a≤1000:=by intros;exact Nat.le_trans (Nat.le_of_lt ‹_›) (Nat.le_of_ble_eq_true rfl)
theorem oz305 {a b:Nat}:a<b→a≤b:=by intros;expose_names;exact Nat.le_of_succ_le h
theorem oz306 {a:Nat}:1≤a→(1:Int)≤(a:Int):=by intros;expose_names;exact Int.toNat_le.mp h
theorem oz307 {x:Int}:(0:Int)<x→(1:Int)≤x:=by intros;assumption
theorem oz308 {a:Nat}:a<60→a<1000:=by intros;exact Nat.lt_of_lt_of_le ‹_› (Nat.le_of_ble_eq_true rfl)
theorem oz309 {a:Nat}:3≤a→¬ ((a:Int)<(3:Int)):=lin [a] [] [.l (.n 3) A] (.t (K (.c A) (.n 3))) [1025] rfl
theorem oz310 {a b c:Nat}:a<60→b<a→c≤b→c<60:=lin [a,b,c] [] [k A (.n 60),k B A,.l C B] (k C (.n 60)) [1074791425] rfl
theorem oz311 {a b:Nat}:a<b→(b-a)=((b-(a+1))+1):=lin [a,b,(b-a),(b-(a+1))] [] [S B A C,S B (i A) V,k A B] (.q C (i V)) [1180591621816923979776,1180592746617318147072,1181744543321530826752,1180591620718485046272,1073741825,1180591620717411304448,1152921504606846977,1180591620717411304448] rfl (sb _ _) (sb _ _)
theorem oz312 {a b:Nat}:(a-b)≤0→a≤b:=lin [a,b,(a-b)] [] [S A B C,.l C (.n 0)] (.l A B) [1100586418176,1099511627777] rfl (sb _ _)
theorem oz313 {a b c:Nat}:(a-b)≤(c+1)→(a-(b+1))≤c:=lin [a,b,c,(a-b),(a-(b+1))] [] [S A B V,S A (i B) G,.l V (i C)] (.l G C) [1181744543321530826752,1180591621816922931200,1180591621816922931201,1180591621816922931200] rfl (sb _ _) (sb _ _)
theorem oz314 {a b c d:Nat}:(a-b)≤(c+1)→¬ (d=0)→(a-(b+d))≤c:=lin [a,b,c,d,(a-b),(a-(b+d))] [] [S A B G,S A (.p B V) H,.l G (i C),.t (.q V (.n 0))] (.l H C) [1180591620717411303424,1210107564157950705532928,1180591620717411303424,1208925819615728686333952,1180591620717411303424,1210106411236446097637377,1180591620717411303424,1208925819615728686333952] rfl (sb _ _) (sb _ _)
theorem oz315 {a b c:Nat} {x:Int}:((a:Int)-(b:Int))≤x→b≤c→((a:Int)-(c:Int))≤x:=lin [a,b,c] [x] [.L (.p (.c A) (.g (.c B))) A,.l B C] (.L (.p (.c A) (.g (.c C))) A) [1049601] rfl
theorem oz316 {a b:Nat}:a<60→b≤a→b<60:=by intros;exact Nat.lt_of_le_of_lt ‹_› ‹_›
theorem oz317 {x:Int}:(0:Int)≤x→(0:Int)≤(x+(1:Int)):=by intros;expose_names;exact Int.le_add_one h
theorem oz318 {a b c:Nat}:a<60→b≤a→c≤b→c<1000000:=lin [a,b,c] [] [k A (.n 60),.l B A,.l C B] (k C (.n 1000000)) [1074791425] rfl
theorem oz319 {a b c d:Nat}:a=b→b≤(c-d)→d≤c→(d+a)≤c:=lin [a,b,c,d,(c-d)] [] [S C V G,.q A B,.l B G,.l V C] (.l (.p V A) C) [1180592746618391888896,1181745668122998735872] rfl (sb _ _)
theorem oz320 {a b:Nat}:a≠0→(b+1)≤(b+a):=lin [a,b] [] [.t (.q A (.n 0))] (.l (i B) (.p B A)) [1,1025] rfl
theorem oz321 {a b c:Nat}:a≠0→(b-(c+a))≤(b-(c+1)):=lin [a,b,c,(b-(c+a)),(b-(c+1))] [] [S B (.p C A) V,S B (i C) G,.t (.q A (.n 0))] (.l V G) [1152921504606846976,1181745668121924994048,1152921504606846976,1181744542223091893248,1152921504606846976,1180591620717411304448,1152921504606846976,1180591620717411304448] rfl (sb _ _) (sb _ _)
theorem oz322 {a b c:Nat}:a<b→c≠0→(b-(a+c))<(b-a):=lin [a,b,c,(b-(a+c)),(b-a)] [] [S B (.p A C) V,S B A G,k A B,.t (.q C (.n 0))] (k V G) [1180591620717411303424,1210106412361246492853248,1180591620717411303424,1152921505680588800,1180591620717411303424,1208926973662033688396800,1180591620717411303424,1152921505680588800] rfl (sb _ _) (sb _ _)
theorem oz323 {x y z u:Int}:x<y→x=y→z=u:=lin [] [x,y,z,u] [K A B,.Q A B] (.Q C V) [1048577,1048577] rfl
theorem oz324 {a:Nat}:(Int.toNat (max (0:Int) (min ((-(1:Int))+(a:Int)) (a:Int))))=(a-1):=lin [a,(Int.toNat (max (0:Int) (min ((-(1:Int))+(a:Int)) (a:Int)))),(a-1)] [(min ((-(1:Int))+(a:Int)) (a:Int)),(max (0:Int) (min ((-(1:Int))+(a:Int)) (a:Int)))] [W (.p (.g (.n 1)) (.c A)) (.c A) A,Y (.n 0) A B,T B B,S A (.n 1) C] (.q B C) [1329229263436725026953949086066147328,1330526069999550760402561501285581824,1329229263435516101133208556983549952,1329227997022857092780809152102401024,1329229263435516102287255961498288128,1329227995784917053495427777691648000,1329229263435516101133208556983549952,1329227995784917053495427777691648000,1329229263435516101133208558058340352,1329227995784917053495428877203275776,1329229263435516101133208556983549952,1329227995784917053495428877203275776,1329229263435516101133208558058340352,1329227995784917053495427777691648000,1329229263435516101133208556983549952,1329227995784917053495427777691648000,1,1,1,1,1,1,1,1,1,1,1,1,1,1,1,1] rfl (wn _ _) (yn _ _) (tn _) (sb _ _)
theorem oz325 {a b c:Nat} {x:Int}:(((0:Int)<x)∧(x≤(min (a:Int) (b:Int))))∧((2:Int)<(c:Int))→x≤(a:Int):=lin [a,b,c] [x,(min (a:Int) (b:Int))] [W (.c A) (.c B) B,.a (.a (K (.n 0) A) (.L A B)) (K (.n 2) (.c C))] (.L A (.c A)) [1152922604118475776,1152922604118475777] rfl (wn _ _)
theorem oz326 {a b c:Nat} {x:Int}:(((0:Int)<x)∧(x≤(min (a:Int) (b:Int))))∧((2:Int)<(c:Int))→x≤(b:Int):=lin [a,b,c] [x,(min (a:Int) (b:Int))] [W (.c A) (.c B) B,.a (.a (K (.n 0) A) (.L A B)) (K (.n 2) (.c C))] (.L A (.c B)) [1152922604118475777,1152922604118475776] rfl (wn _ _)
theorem oz327 {a b c:Nat} {x:Int}:(((0:Int)<x)∧(x≤(min (a:Int) (b:Int))))∧((2:Int)<(c:Int))→3≤c:=lin [a,b,c] [x,(min (a:Int) (b:Int))] [.a (.a (K (.n 0) A) (.L A B)) (K (.n 2) (.c C))] (.l (.n 3) C) [1074790400] rfl
theorem oz328 {a b c:Nat} {x:Int}:((0:Int)<x)∧((x≤(a:Int))∧((x≤(b:Int))∧(3≤c)))→x≤(min (a:Int) (b:Int)):=lin [a,b,c] [x,(min (a:Int) (b:Int))] [W (.c A) (.c B) B,.a (K (.n 0) A) (.a (.L A (.c A)) (.a (.L A (.c B)) (.l (.n 3) C)))] (.L A B) [1180591621816923979776,1180592746617319194624] rfl (wn _ _)
theorem oz329 {a b c:Nat} {x:Int}:((0:Int)<x)∧((x≤(a:Int))∧((x≤(b:Int))∧(3≤c)))→(2:Int)<(c:Int):=lin [a,b,c] [x] [.a (K (.n 0) A) (.a (.L A (.c A)) (.a (.L A (.c B)) (.l (.n 3) C)))] (K (.n 2) (.c C)) [1100585369600] rfl
theorem oz330 {a b c:Nat}:a<60→b≤a→c≤b→c<60:=lin [a,b,c] [] [k A (.n 60),.l B A,.l C B] (k C (.n 60)) [1074791425] rfl
theorem oz331 {a b c:Nat}:(a+(b+1))=c→c≤1→a<1000000:=lin [a,b,c] [] [.q (.p A (i B)) C,.l C (.n 1)] (k A (.n 1000000)) [1074790401] rfl
theorem oz332 {a:Nat}:a≤1→(a+3)≤4:=by intros;simp_all
theorem oz333 {a b:Nat}:(a+(b+1))≤4→(a+b)≤4:=by intros;exact Nat.le_of_lt ‹_›
theorem oz334 {a b:Nat} {x:Int}:(0:Int)<x→x≤(min (a:Int) (b:Int))→(1≤(Int.toNat x))∧((Int.toNat x)≤a):=lin [a,b,(Int.toNat x)] [x,(min (a:Int) (b:Int))] [W (.c A) (.c B) B,T A C,K (.n 0) A,.L A B] (.a (.l (.n 1) C) (.l C A)) [1208926973662033688395776,1210106411236446097638400,1152921505680588800,1152921505680588800,1208926973662033688395776,1210106411236446097638401,1152921505680588800,1152921505680588800] rfl (wn _ _) (tn _)
theorem oz335 {a b:Nat}:(a+(b+1))≤4→a<1000000:=lin [a,b] [] [.l (.p A (i B)) (.n 4)] (k A (.n 1000000)) [1025] rfl
theorem oz336 {a b:Nat}:(a+(b+1))≤4→((a+1)+b)≤4:=lin [a,b] [] [.l (.p A (i B)) (.n 4)] (.l (.p (i A) B) (.n 4)) [1025] rfl
theorem oz337 {a:Nat}:(a+0)≤4→a<64:=by intros;exact Nat.lt_of_le_of_lt ‹_› (Nat.le_of_ble_eq_true rfl)
theorem oz338 {a:Nat}:3≤a→¬ (a=0):=by intros;expose_names;exact Nat.ne_zero_of_lt h
theorem oz339 {a b:Nat}:3≤a→(b+1)≤(b+a):=by intros;lia
theorem oz340 {a b c:Nat}:3≤a→(b-(c+a))≤(b-(c+1)):=lin [a,b,c,(b-(c+a)),(b-(c+1))] [] [S B (.p C A) V,S B (i C) G,.l (.n 3) A] (.l V G) [1181745668121924994048,1181744542223091893248,1180591620717411304448,1180591620717411304448] rfl (sb _ _) (sb _ _)
theorem oz341 {a b c:Nat}:3≤a→b<c→(c-(b+a))<(c-b):=lin [a,b,c,(c-(b+a)),(c-b)] [] [S C (.p B A) V,S C B G,.l (.n 3) A,k B C] (k V G) [1208926973662033688396800,1152921505680588801,1210106412361246492853248,1180591620718485045248] rfl (sb _ _) (sb _ _)
theorem oz342 {a:Nat}:(0:Int)≤((a:Int)+(1:Int)):=by intros;exact Int.zero_le_ofNat (a+1)
theorem oz343 {a:Nat}:a<512→((a:Int)+(1:Int))≤(1000:Int):=lin [a] [] [k A (.n 512)] (.L (i (.c A)) (.n 1000)) [1025] rfl
theorem oz344 {a:Nat}:a<512→(a+1)<1500:=by intros;exact Nat.lt_of_le_of_lt ‹_› (Nat.le_of_ble_eq_true rfl)
theorem oz345 {a b c:Nat}:a<b→b≤c→(c-(a+1))<(c-a):=lin [a,b,c,(c-(a+1)),(c-a)] [] [S C (i A) V,S C A G,k A B,.l B C] (k V G) [1208925820740529081549824,1073741825,1210107565282751099700224,1181744542223091892224] rfl (sb _ _) (sb _ _)
theorem oz346 {a b:Nat}:((2:Int)*(a:Int))≤(b:Int)→1≤a→(b-(2*a))<(b-a):=lin [a,b,(b-(2*a)),(b-a)] [] [S B (.m 2 A) C,S B A V,.L (.m 2 (.c A)) (.c B),.l (.n 1) A] (k C V) [1210106412361246492853248,1180591620718485045249,1210107565282751099700224,1181744542223091892224] rfl (sb _ _) (sb _ _)
theorem oz347 {a b:Nat}:(a+(b+1))=4→a≤3:=lin [a,b] [] [.q (.p A (i B)) (.n 4)] (.l A (.n 3)) [1048577] rfl
theorem oz348 {a b:Nat}:(a+(b+1))=4→((a+1)+b)=4:=by intros;expose_names;exact Eq.symm (oz166 (id (Eq.symm h)))
theorem oz349 {a:Nat} {x:Int}:(((a:Int)+(1:Int))+x)=(((a:Int)+x)+(1:Int)):=by intros;exact Int.add_right_comm (↑a) 1 x
theorem oz350 {a:Nat} {x y:Int}:((a:Int)+(x+y))=(((a:Int)+x)+y):=by intros;exact Eq.symm (Int.add_assoc (↑a) x y)
theorem oz351 {a b c:Nat}:(a+b)<1000→c≤a→c<1000000:=lin [a,b,c] [] [k (.p A B) (.n 1000),.l C A] (k C (.n 1000000)) [1049601] rfl
theorem oz352 {a b:Nat}:a<64→b=a→b≤1000:=lin [a,b] [] [k A (.n 64),.q B A] (.l B (.n 1000)) [1073742849] rfl
theorem oz353 {a b c d e:Nat}:a<64→b=(c+d)→b=a→e≤c→e<1000000:=lin [a,b,c,d,e] [] [k A (.n 64),.q B (.p C V),.q B A,.l G C] (k G (.n 1000000)) [1154047405588480001] rfl
theorem oz354 {a b:Nat}:a<60→b≤a→b≤1000:=lin [a,b] [] [k A (.n 60),.l B A] (.l B (.n 1000)) [1049601] rfl
theorem oz355 {a:Nat}:(0+(min 24 a))≤24:=lin [a,(min 24 a)] [] [M (.n 24) A B] (.l (.p (.n 0) B) (.n 24)) [1073742848,1073742849] rfl (mn _ _)
theorem oz356 {a b:Nat}:(a+(b+1))≤24→(102+(21*a))≤606:=lin [a,b] [] [.l (.p A (i B)) (.n 24)] (.l (.p (.n 102) (.m 21 A)) (.n 606)) [1045] rfl
theorem oz357 {a b:Nat}:(a+(b+1))≤24→((a+1)+b)≤24:=lin [a,b] [] [.l (.p A (i B)) (.n 24)] (.l (.p (i A) B) (.n 24)) [1025] rfl
theorem oz358 {a:Nat}:(102+(21*(a+1)))=((102+(21*a))+21):=by intros;exact rfl
theorem oz359 {a b:Nat}:(a+b)≤24→(102+(21*a))≤606:=by intros;lia
theorem oz360 {a b:Nat}:a<(2^30)→b≤a→(Int.natAbs ((b:Int)+(1:Int)))<(2^64):=lin [a,b,(Int.natAbs ((b:Int)+(1:Int)))] [] [U (i (.c B)) C,k A (.n 1073741824),.l B A] (k C (.n 18446744073709551616)) [1127000492213248,1125899906843648] rfl (na _)
theorem oz361 {a b:Nat}:a<(2^30)→b≤a→(Int.natAbs ((7:Int)*((b:Int)+(1:Int))))<(2^64):=lin [a,b,(Int.natAbs (7*((b:Int)+(1:Int))))] [] [U (.m 7 (i (.c B))) C,k A (.n 1073741824),.l B A] (k C (.n 18446744073709551616)) [1133604004430848,1125899906843648] rfl (na (7*((b:Int)+(1:Int))))
theorem oz362 {a:Nat}:1≤a→(0:Int)<(a:Int):=by intros;expose_names;exact Int.natCast_pos.mpr h
theorem oz363 {a:Nat}:1≤a→(a:Int)≠(0:Int):=by intros;expose_names;exact Int.natCast_ne_zero_iff_pos.mpr h
theorem oz364 {a:Nat} {x:Int}:1≤a→x<(a:Int)→(Int.toNat x)<a:=by intros;expose_names;exact (Int.toNat_lt' h).mpr h_1
theorem oz365 {a:Nat}:a<(2^60)→(Int.natAbs (a:Int))<(2^64):=by intros;exact Nat.lt_of_lt_of_le ‹_› (Nat.le_of_ble_eq_true rfl)
theorem oz366 {a:Nat}:a<256→(a:Int)<(256:Int):=by intros;expose_names;exact Int.lt_toNat.mp h
theorem oz367 {a:Nat}:a<1000→a<(2^30):=by intros;exact Nat.lt_of_lt_of_le ‹_› (Nat.le_of_ble_eq_true rfl)
theorem oz368 {a:Nat}:a≤40→(Int.natAbs (a:Int))<(2^60):=by intros;exact Nat.lt_of_le_of_lt ‹_› (Nat.le_of_ble_eq_true rfl)
theorem oz369 {a:Nat}:(Int.toNat ((a:Int)-(0:Int)))=a:=by intros;exact rfl
theorem oz370 {a:Nat}:(a+1)≤(a+(3*1)):=by intros;simp_all
theorem oz371 {a b c d:Nat}:(a+(b+1))=(c+1)→c≤40→d<1000→(d+(3*a))<(2^30):=lin [a,b,c,d] [] [.q (.p A (i B)) (i C),.l C (.n 40),k V (.n 1000)] (k (.p V (.m 3 A)) (.n 1073741824)) [1100588515331] rfl
theorem oz372 {a b c d:Nat}:(a+(b+1))=(c+1)→c≤40→d<1000→((d+(3*a))+1)<(2^30):=lin [a,b,c,d] [] [.q (.p A (i B)) (i C),.l C (.n 40),k V (.n 1000)] (k (i (.p V (.m 3 A))) (.n 1073741824)) [1100588515331] rfl
theorem oz373 {a b c d:Nat}:(a+(b+1))=(c+1)→c≤40→d≤(6*a)→d<1000000:=lin [a,b,c,d] [] [.q (.p A (i B)) (i C),.l C (.n 40),.l V (.m 6 A)] (k V (.n 1000000)) [1100591661062] rfl
theorem oz374 {a b c:Nat}:(a+(b+1))=(c+1)→((a+1)+b)=(c+1):=lin [a,b,c] [] [.q (.p A (i B)) (i C)] (.q (.p (i A) B) (i C)) [1049600,1048577] rfl
theorem oz375 {a b:Nat}:(((a+(3*b))+1)+1)≤(a+(3*(b+1))):=by intros;exact oz165
theorem oz376 {a b c:Nat}:(min a b)≤c→(min a (b+1))≤(c+1):=lin [a,b,c,(min a b),(min a (b+1))] [] [M A B V,M A (i B) G,.l V C] (.l G (i C)) [1181744543321530826752,1073741825,1181744543322604568576,1181744543321530826752] rfl (mn _ _) (mn _ _)
theorem oz377 {a b:Nat}:a≤(6*b)→(a+1)≤(6*(b+1)):=lin [a,b] [] [.l A (.m 6 B)] (.l (i A) (.m 6 (i B))) [1025] rfl
theorem oz378 {a:Nat}:(min (a:Int) (7:Int))=(((min a 7):Nat):Int):=lin [a,(min a 7)] [(min (a:Int) (7:Int))] [W (.c A) (.n 7) A,M A (.n 7) B] (.Q A (.c B)) [1152922604119523328,1154047404513690624,1152922605193265152,1154047404513690625,1152922605193265152,1154047404513690625,1152922604119523328,1154047404513690624] rfl (wn _ _) (mn _ _)
theorem oz379 {a:Nat}:1≤a→1≤(min a 7):=lin [a,(min a 7)] [] [M A (.n 7) B,.l (.n 1) A] (.l (.n 1) B) [1100586418176,1099512676352] rfl (mn _ _)
theorem oz380 {a:Nat}:(min a 7)<(2^60):=lin [a,(min a 7)] [] [M A (.n 7) B] (k B (.n 1152921504606846976)) [1073742849,1073742848] rfl (mn _ _)
theorem oz381 {a b c d:Nat}:(a+(b+1))=(c+1)→c≤40→d<1000→(((d+(3*a))+1)+1)<(2^30):=lin [a,b,c,d] [] [.q (.p A (i B)) (i C),.l C (.n 40),k V (.n 1000)] (k (i (i (.p V (.m 3 A)))) (.n 1073741824)) [1100588515331] rfl
theorem oz382 {a:Nat}:a<4→(Int.natAbs ((2:Int)+(a:Int)))<(2^60):=lin [a,(Int.natAbs ((2:Int)+(a:Int)))] [] [U (.p (.n 2) (.c A)) B,k A (.n 4)] (k B (.n 1152921504606846976)) [1100585370624,1099511628800] rfl (na _)
theorem oz383 {a:Nat}:(Int.toNat (((2:Int)+(a:Int))-(0:Int)))=(2+a):=by intros;exact rfl
theorem oz384 {a b c:Nat}:1≤a→a≤b→(b-(1+c))<b:=lin [a,b,c,(b-(1+c))] [] [S B (.p (.n 1) C) V,.l (.n 1) A,.l A B] (k V B) [1125899906843648,1127000492213248] rfl (sb _ _)
theorem oz385 {a b c d e f g:Nat}:a≤40→(b+(c+1))=(a+1)→d≤(6*b)→e<4→(f+(g+1))=(d+(2+e))→f<1000000:=lin [a,b,c,d,e,f,g] [] [.l A (.n 40),.q (.p B (i C)) (i A),.l V (.m 6 B),k G (.n 4),.q (.p H (i J)) (.p V (.p (.n 2) G))] (k H (.n 1000000)) [1180592747717903521798] rfl
theorem oz386 {a b c:Nat}:a<(min b 7)→b≤c→((c:Int)-((1:Int)+(a:Int)))=(((c-(1+a)):Nat):Int):=lin [a,b,c,(min b 7),(c-(1+a))] [] [M B (.n 7) V,S C (.p (.n 1) A) G,k A V,.l B C] (.Q (.p (.c C) (.g (.p (.n 1) (.c A)))) (.c G)) [1208925819615728686333952,1208925820740529081548800,1210107564157950704485376,1208925819614630248448000,1208925819615728686333952,1208925820740529081548800,1210107564157950704485377,1208925819614630248448000] rfl (mn _ _) (sb _ _)
theorem oz387 {a b c d:Nat}:(a+(b+1))=(c+(2+d))→((a+1)+b)=(c+(2+d)):=lin [a,b,c,d] [] [.q (.p A (i B)) (.p C (.p (.n 2) V))] (.q (.p (i A) B) (.p C (.p (.n 2) V))) [1049600,1048577] rfl
theorem oz388 {a b c d e:Nat}:(a+0)=(b+(2+c))→(min d e)≤b→(min d (e+1))≤a:=lin [a,b,c,d,e,(min d e),(min d (e+1))] [] [M V G H,M V (i G) J,.q (.p A (.n 0)) (.p B (.p (.n 2) C)),.l H B] (.l J A) [1239150145696616720997810176,1073741825,1239150145696616722071552000,1239150145696616720997810176] rfl (mn _ _) (mn _ _)
theorem oz389 {a b c d:Nat}:(a+0)=(b+(2+c))→b≤(6*d)→c<4→a≤(6*(d+1)):=lin [a,b,c,d] [] [.q (.p A (.n 0)) (.p B (.p (.n 2) C)),.l B (.m 6 V),k C (.n 4)] (.l A (.m 6 (i V))) [1100586418177] rfl
theorem oz390 {a b:Nat}:((a+(3*b))+3)≤(a+(3*(b+1))):=by intros;exact oz201
theorem oz391 {a b c:Nat}:a≤b→(min a (c+1))≤b:=lin [a,b,c,(min a (c+1))] [] [M A (i C) V,.l A B] (.l V B) [1100585370624,1100585370625] rfl (mn _ _)
theorem oz392 {a b:Nat}:a≤(6*b)→a≤(6*(b+1)):=lin [a,b] [] [.l A (.m 6 B)] (.l A (.m 6 (i B))) [1025] rfl
theorem oz393 {a b:Nat}:(a+(3*b))≤(a+(3*(b+1))):=by intros;lia
theorem oz394 {a b:Nat}:(min a (a+1))≤b→(min a b)=a:=by intros;simp_all
theorem oz395 {a:Nat}:a<9→(Int.natAbs (a:Int))<(2^60):=by intros;exact Nat.lt_of_lt_of_le ‹_› (Nat.le_of_ble_eq_true rfl)
theorem oz396 {a b c d:Nat}:(a+(b+1))≤c→c<9→d<1000→((d+1)+a)<(2^30):=lin [a,b,c,d] [] [.l (.p A (i B)) C,k C (.n 9),k V (.n 1000)] (k (.p (i V) A) (.n 1073741824)) [1074791425] rfl
theorem oz397 {a b c:Nat}:(a+(b+1))≤c→c<9→a<1000000:=lin [a,b,c] [] [.l (.p A (i B)) C,k C (.n 9)] (k A (.n 1000000)) [1049601] rfl
theorem oz398 {a b:Nat}:(((a+1)+b)+1)≤((a+1)+(b+1)):=by intros;exact Nat.le_refl (a+1+b+1)
theorem oz399 {a b:Nat}:a<9→b≤a→b<1000:=lin [a,b] [] [k A (.n 9),.l B A] (k B (.n 1000)) [1049601] rfl
theorem oz400 {a b c:Nat}:a<1000→b<9→c≤b→((a+1)+c)<(2^30):=lin [a,b,c] [] [k A (.n 1000),k B (.n 9),.l C B] (k (.p (i A) C) (.n 1073741824)) [1074791425] rfl
theorem oz401 {a b c:Nat}:a<1000→b<9→c≤b→(((a+1)+c)+1)<(2^30):=lin [a,b,c] [] [k A (.n 1000),k B (.n 9),.l C B] (k (i (.p (i A) C)) (.n 1073741824)) [1074791425] rfl
theorem oz402 {a:Nat}:a<300→(a+1)<(2^60):=by intros;exact Nat.lt_of_le_of_lt ‹_› (Nat.le_of_ble_eq_true rfl)
theorem oz403 {a b:Nat}:a<(b+1)→(a+1)≤(b+1):=by intros;assumption
theorem oz404 {a:Nat}:a<300→(a+1)<(2^32):=by intros;exact Nat.lt_of_le_of_lt ‹_› (Nat.le_of_ble_eq_true rfl)
theorem oz405 {a b:Nat}:a<9→b≤a→b<60:=lin [a,b] [] [k A (.n 9),.l B A] (k B (.n 60)) [1049601] rfl
theorem oz406 {a:Nat} {x:Int}:(35:Int)<x→a<35→(a:Int)<(x+((1:Int)*(65536:Int))):=lin [a] [x] [K (.n 35) A,k A (.n 35)] (K (.c A) (.p A (.m 1 (.n 65536)))) [1049601] rfl
theorem oz407 {a:Nat}:a<35→(a:Int)<((3:Int)+(32:Int)):=by intros;expose_names;exact Int.lt_toNat.mp h
theorem oz408 {a:Nat}:3≤a→(3:Int)≤(a:Int):=by intros;expose_names;exact Int.toNat_le.mp h
theorem oz409 {x:Int}:(x-(1:Int))≤(5:Int)→¬ ((31:Int)<(x-(1:Int))):=by intros;lia
theorem oz410 {x:Int}:(x-(1:Int))≤(5:Int)→(x-(1:Int))≤(1000:Int):=lin [] [x] [.L (.p A (.g (.n 1))) (.n 5)] (.L (.p A (.g (.n 1))) (.n 1000)) [1025] rfl
theorem oz411 {a:Nat}:(0:Int)≤((1:Int)+(a:Int)):=by intros;exact Int.zero_le_ofNat (1+a)
theorem oz412 {a:Nat}:a<19→((1:Int)+(a:Int))≤(1000:Int):=lin [a] [] [k A (.n 19)] (.L (.p (.n 1) (.c A)) (.n 1000)) [1025] rfl
theorem oz413 {a:Nat}:1≤(a+3):=by intros;exact Nat.succ_pos _
theorem oz414 {a:Nat}:a<61→(a+3)<64:=by intros;expose_names;exact Nat.add_lt_of_lt_sub h
theorem oz415 {x:Int}:(0:Int)≤x→x≤(5:Int)→(Int.natAbs x)<(2^64):=lin [(Int.natAbs x)] [x] [U A A,.L (.n 0) A,.L A (.n 5)] (k A (.n 18446744073709551616)) [1126999418471424,1125900980585472] rfl (na _)
theorem oz416 {a:Nat}:a<61→a<64:=by intros;exact Nat.lt_of_lt_of_le ‹_› (Nat.le_of_ble_eq_true rfl)
theorem oz417 {a:Nat}:a<35→a<64:=by intros;exact Nat.lt_of_lt_of_le ‹_› (Nat.le_of_ble_eq_true rfl)
theorem oz418 {a:Nat}:(0:Int)<(a:Int)→¬ (a=0):=lin [a] [] [K (.n 0) (.c A)] (.t (.q A (.n 0))) [1025] rfl
theorem oz419 {a:Nat}:a≤900→(a+3)≤1000000:=lin [a] [] [.l A (.n 900)] (.l (.p A (.n 3)) (.n 1000000)) [1025] rfl
theorem oz420 {x y z:Int}:(((x+((16:Int)*(0:Int)))+(y+((16:Int)*z)))+(32:Int))=(((x+y)+((16:Int)*z))+(32:Int)):=lin [] [x,y,z] [] (.Q (.p (.p (.p A (.m 16 (.n 0))) (.p B (.m 16 C))) (.n 32)) (.p (.p (.p A B) (.m 16 C)) (.n 32))) [1,1] rfl
theorem oz421 {a b c:Nat}:a<(b-2)→b=c→(3+a)≤c:=lin [a,b,c,(b-2)] [] [S B (.n 2) V,k A V,.q B C] (.l (.p (.n 3) A) C) [1152922605192217600,1073742848] rfl (sb _ _)
theorem oz422 {a b c d:Nat}:3≤a→a≤b→b≤(c-d)→(1≤a)∧((d+a)≤c):=lin [a,b,c,d,(c-d)] [] [S C V G,.l (.n 3) A,.l A B,.l B G] (.a (.l (.n 1) A) (.l (.p V A) C)) [1152921505680588800,1154048504025318400,1152921505680588800,1127000492213248] rfl (sb _ _)
theorem oz423 {a b c d:Nat}:a<35→b≤(a-c)→d≤b→d<35:=lin [a,b,c,d,(a-c)] [] [S A C G,k A (.n 35),.l B G,.l V B] (k V (.n 35)) [1154048505099060224,1154048504025318400] rfl (sb _ _)
theorem oz424 {a b c:Nat}:a<35→b<a→c≤b→c<61:=lin [a,b,c] [] [k A (.n 35),k B A,.l C B] (k C (.n 61)) [1074791425] rfl
theorem oz425 {a b c d:Nat}:((a+b)+c)≤d→1≤b→(a+(c+1))≤d:=lin [a,b,c,d] [] [.l (.p (.p A B) C) V,.l (.n 1) B] (.l (.p A (i C)) V) [1049601] rfl
theorem oz426 {a b:Nat}:(a+0)=b→b≤a:=by intros;expose_names;exact Nat.le_of_eq (id (Eq.symm h))
theorem oz427 {a b:Nat}:(a-b)≤0→b≤a→b=a:=lin [a,b,(a-b)] [] [S A B C,.l C (.n 0),.l B A] (.q B A) [1125900981633024,1125899906842625,1125899906842625,1126999418470400] rfl (sb _ _)
theorem oz428 {a b c d:Nat}:(a-b)≤(c+1)→3≤d→(a-(b+d))≤c:=lin [a,b,c,d,(a-b),(a-(b+d))] [] [S A B G,S A (.p B V) H,.l G (i C),.l (.n 3) V] (.l H C) [1210107564157950705532928,1208925819615728686333952,1180591620718485045249,1208925819615728686333952] rfl (sb _ _) (sb _ _)
theorem oz429 {a:Nat}:0<a→a=((a-1)+1):=by intros;expose_names;exact (Nat.sub_eq_iff_eq_add h).mp rfl
theorem oz430 {a b c:Nat}:(a+b)≤c→(a+b)<(c+1):=by intros;expose_names;exact Nat.lt_succ_of_le h
theorem oz431 {a b c:Nat}:1≤a→b≤c→(c+a)≠b:=lin [a,b,c] [] [.l (.n 1) A,.l B C] (.t (.q (.p C A) B)) [1049601] rfl
theorem oz432 {a b c d:Nat}:(a+b)=c→(a+d)=c→b=d:=lin [a,b,c,d] [] [.q (.p A B) C,.q (.p A V) C] (.q B V) [1099512677376,1100585369601] rfl
theorem oz433 {x:Int}:x≤(x+(0:Int)):=by intros;exact Int.le.intro 0 rfl
theorem oz434 {a b c d:Nat}:(a+b)<c→(a+d)=c→b<d:=lin [a,b,c,d] [] [k (.p A B) C,.q (.p A V) C] (k B V) [1074790401] rfl
theorem oz435 {x y z u v:Int}:x≤(y+z)→u≤(x+v)→u≤(y+(z+v)):=lin [] [x,y,z,u,v] [.L A (.p B C),.L V (.p A G)] (.L V (.p B (.p C G))) [1049601] rfl
theorem oz436 {a:Nat}:a≤900→a≤1000:=by intros;exact Nat.le_trans ‹_› (Nat.le_of_ble_eq_true rfl)
theorem oz437 {a b c d e:Nat}:a≤(min b c)→b≤d→d≤900→(min e a)≤1000:=lin [a,b,c,d,e,(min b c),(min e a)] [] [M B C H,M G A J,.l A H,.l B V,.l V (.n 900)] (.l J (.n 1000)) [1239150146849538226677351424,1239150146849538225603609600,1239150146849538226677351425,1239150146849538225603609601] rfl (mn _ _) (mn _ _)
theorem oz438 {a b:Nat}:a≤1000→(a-b)≤1000:=lin [a,b,(a-b)] [] [S A B C,.l A (.n 1000)] (.l C (.n 1000)) [1100585370624,1099511628800] rfl (sb _ _)
theorem oz439 {a:Nat}:a≤1000→(1+a)≤1000000:=lin [a] [] [.l A (.n 1000)] (.l (.p (.n 1) A) (.n 1000000)) [1025] rfl
theorem oz440 {a:Nat}:a≤1000→((a:Int)+(1:Int))≤(1000000:Int):=by intros;lia
theorem oz441 {a:Nat}:(Int.toNat ((a:Int)+(1:Int)))=(a+1):=by intros;exact Int.toNat_natCast_add_one
theorem oz442 {a b c d:Nat}:(a+b)=c→d<b→(a+d)<c:=lin [a,b,c,d] [] [.q (.p A B) C,k V B] (k (.p A V) C) [1074790401] rfl
theorem oz443 {a b c d e:Nat}:((a+b)+c)≤d→(a+e)=d→(b+c)≤e:=lin [a,b,c,d,e] [] [.l (.p (.p A B) C) V,.q (.p A G) V] (.l (.p B C) G) [1074790401] rfl
theorem oz444 {a b c:Nat}:(a+b)≤c→¬ ((c:Int)<((a:Int)+(b:Int))):=lin [a,b,c] [] [.l (.p A B) C] (.t (K (.c C) (.p (.c A) (.c B)))) [1025] rfl
theorem oz445 {a b c:Nat}:(a+b)≤c→(Int.toNat ((a:Int)+(b:Int)))<(c+1):=by intros;expose_names;exact Nat.lt_succ_of_le h
theorem oz446 {a b c:Nat}:1≤a→b≤(c+1)→(b-a)≤c:=lin [a,b,c,(b-a)] [] [S B A V,.l (.n 1) A,.l B (i C)] (.l V C) [1127000492213248,1125899906843648] rfl (sb _ _)
theorem oz447 {a:Nat}:(0+a)≤a:=by intros;simp_all
theorem oz448 {a b c:Nat}:(a+b)≤c→c≤1000→a<1000000:=lin [a,b,c] [] [.l (.p A B) C,.l C (.n 1000)] (k A (.n 1000000)) [1049601] rfl
theorem oz449 {a b c:Nat}:(a+b)=c→((c:Int)-(b:Int))=(a:Int):=by intros;expose_names;exact Int.sub_eq_iff_eq_add.mpr (congrArg Nat.cast (id (Eq.symm h)))
theorem oz450 {a b c d:Nat}:(a+b)=c→c≤d→a≤d:=lin [a,b,c,d] [] [.q (.p A B) C,.l C V] (.l A V) [1074790401] rfl
theorem oz451 {a b c d e:Nat}:(a+b)=c→(d+c)≤e→1≤b→((d+1)+a)≤e:=lin [a,b,c,d,e] [] [.q (.p A B) C,.l (.p V C) G,.l (.n 1) B] (.l (.p (i V) A) G) [1100586418177] rfl
theorem oz452 {a b c:Nat}:(a+b)=c→1≤b→a<c:=lin [a,b,c] [] [.q (.p A B) C,.l (.n 1) B] (k A C) [1074790401] rfl
theorem oz453 {a b c d e f:Nat}:(a+b)=c→(d+e)=f→1≤b→c≤e→(d+a)<f:=lin [a,b,c,d,e,f] [] [.q (.p A B) C,.q (.p V G) H,.l (.n 1) B,.l C G] (k (.p V A) H) [1154048504026365953] rfl
theorem oz454 {x y z:Int}:((x+y)+z)=(y+(z+x)):=by intros;lia
theorem oz455 {a b:Nat}:0<a→(a+b)=(((a+b)-1)+1):=lin [a,b,((a+b)-1)] [] [S (.p A B) (.n 1) C,k (.n 0) A] (.q (.p A B) (i C)) [1099511628800,1099512676352,1100585370624,1099511627777] rfl (sb _ _)
theorem oz456 {a b c:Nat}:(a+b)=c→(c-b)=a:=by intros;expose_names;exact Eq.symm (Nat.eq_sub_of_add_eq h)
theorem oz457 {a b c d:Nat}:(a+b)=c→1≤b→a≤((c+d)-1):=lin [a,b,c,d,((c+d)-1)] [] [S (.p C V) (.n 1) G,.q (.p A B) C,.l (.n 1) B] (.l A G) [1154047405588480000,1154047405587431425] rfl (sb _ _)
theorem oz458 {a:Nat}:3≤a→a≠0:=by intros;lia
theorem oz459 {a b c d e:Nat}:a<35→b=c→c≤(a-(d+e))→(Int.natAbs ((b:Int)+(1:Int)))<(2^60):=lin [a,b,c,d,e,(a-(d+e)),(Int.natAbs ((b:Int)+(1:Int)))] [] [S A (.p V G) H,U (i (.c B)) J,k A (.n 35),.q B C,.l C H] (k J (.n 1152921504606846976)) [1268888541449259325093132108800,1267650600228229402596214833152,1268888541448106403588525261824,1267650600228229402596214833152] rfl (sb _ _) (na _)
theorem oz460 {a:Nat}:(Int.toNat (((a:Int)+(1:Int))-(3:Int)))=(a-2):=lin [a,(Int.toNat (((a:Int)+(1:Int))-(3:Int))),(a-2)] [] [T (.p (i (.c A)) (.g (.n 3))) B,S A (.n 2) C] (.q B C) [1152922604119523328,1154047404513690624,1152922604118474752,1152921505680589824,1152922604118474753,1152921504606848000,1152922604118474752,1152921504606848000] rfl (tn _) (sb _ _)
theorem oz461 {a:Nat}:((3:Int)+(a:Int))=(((3+a):Nat):Int):=by intros;exact rfl
theorem oz462 {a b c d e f:Nat}:a<(b-2)→b=c→c≤(d-(e+f))→d<35→(3+a)<35:=lin [a,b,c,d,e,f,(b-2),(d-(e+f))] [] [S B (.n 2) J,S V (.p G H) (.v 7),k A J,.q B C,.l C (.v 7),k V (.n 35)] (k (.p (.n 3) A) (.n 35)) [1299343103175156166457717214413824,1298075452574927937056220511208448,1298074214633708060054128689153024,1298074214633708060054128689153024] rfl (sb _ _) (sb _ _)
theorem oz463 {a b c d e f:Nat}:a<35→b≤(c+d)→3≤e→e=f→f≤(a-(c+d))→b<61:=lin [a,b,c,d,e,f,(a-(c+d))] [] [S A (.p C V) J,k A (.n 35),.l B (.p C V),.l (.n 3) G,.q G H,.l H J] (k B (.n 61)) [1237940039285381375484493825,1208926973662033688396800] rfl (sb _ _)
theorem oz464 {a b c:Nat}:(a+b)=c→c<35→b≤1000:=lin [a,b,c] [] [.q (.p A B) C,k C (.n 35)] (.l B (.n 1000)) [1074790401] rfl
theorem oz465 {a b:Nat} {x:Int}:((a:Int)-(b:Int))≤x→b≤a→(0:Int)≤x:=lin [a,b] [x] [.L (.p (.c A) (.g (.c B))) A,.l B A] (.L (.n 0) A) [1049601] rfl
theorem oz466 {a b:Nat}:a≤b→((b:Int)-(a:Int))=(((b-a):Nat):Int):=by intros;expose_names;exact Eq.symm (Int.ofNat_sub h)
theorem oz467 {a b:Nat}:a<35→(a-b)≤1000:=lin [a,b,(a-b)] [] [S A B C,k A (.n 35)] (.l C (.n 1000)) [1100585370624,1099511628800] rfl (sb _ _)
theorem oz468 {a b c:Nat}:(a-b)=c→b≤a→(b+c)=a:=lin [a,b,c,(a-b)] [] [S A B V,.q V C,.l B A] (.q (.p B C) A) [1152921505681637376,1152922604118475776,1152921504606846977,1154048504025318400] rfl (sb _ _)
theorem oz469 {a b c d:Nat}:(a-b)=c→d<c→(b+d)<a:=lin [a,b,c,d,(a-b)] [] [S A B G,.q G C,k V C] (k (.p B V) A) [1154048504025318400,1126999418471424] rfl (sb _ _)
theorem oz470 {a:Nat}:a<35→a≤900:=by intros;exact Nat.le_trans (Nat.le_of_lt ‹_›) (Nat.le_of_ble_eq_true rfl)
theorem oz471 {a b c:Nat} {x:Int}:((a:Int)-(b:Int))≤x→((a:Int)-(((b+c):Nat):Int))≤x:=lin [a,b,c] [x] [.L (.p (.c A) (.g (.c B))) A] (.L (.p (.c A) (.g (.c (.p B C)))) A) [1025] rfl
theorem oz472 {a b c:Nat}:(a-b)=c→a<35→c≤1000:=lin [a,b,c,(a-b)] [] [S A B V,.q V C,k A (.n 35)] (.l C (.n 1000)) [1154048504025318400,1152922604118475776] rfl (sb _ _)
theorem oz473 {a b:Nat}:(a+b)≤(a+(b+1)):=by intros;exact oz165
theorem oz474 {a b c:Nat}:a≤(35*b)→c≤35→((c-2)+a)≤(35*(b+1)):=lin [a,b,c,(c-2)] [] [S C (.n 2) V,.l A (.m 35 B),.l C (.n 35)] (.l (.p V A) (.m 35 (i B))) [1127000492213248,1125900980585472] rfl (sb _ _)
theorem oz475 {a b c d:Nat}:a<35→b=c→c≤(a-d)→b≤35:=lin [a,b,c,d,(a-d)] [] [S A V G,k A (.n 35),.q B C,.l C G] (.l B (.n 35)) [1181744543322603521024,1181744543321529779200] rfl (sb _ _)
theorem oz476 {a b c d:Nat}:a≤(min b c)→(min d a)≤b:=lin [a,b,c,d,(min b c),(min d a)] [] [M B C G,M V A H,.l A G] (.l H B) [1181744543322603521024,1181744543321529779200,1181744543322603521025,1181744543321529779201] rfl (mn _ _) (mn _ _)
theorem oz477 {a b:Nat}:(a+3)≤b→b<35→a≤35:=lin [a,b] [] [.l (.p A (.n 3)) B,k B (.n 35)] (.l A (.n 35)) [1049601] rfl
theorem oz478 {a b c d:Nat}:a<35→b=c→c≤(a-d)→(Int.natAbs ((b:Int)+(1:Int)))<(2^60):=lin [a,b,c,d,(a-d),(Int.natAbs ((b:Int)+(1:Int)))] [] [S A V G,U (i (.c B)) H,k A (.n 35),.q B C,.l C G] (k H (.n 1152921504606846976)) [1268888541449259325093132108800,1267650600228229402596214833152,1268888541448106403588525261824,1267650600228229402596214833152] rfl (sb _ _) (na _)
theorem oz479 {a:Nat}:(3+a)≠0:=by intros;exact Ne.symm (NeZero.ne' (3+a))
theorem oz480 {a b c d e:Nat}:a<(b-2)→b=c→c≤(d-e)→d<35→(3+a)<35:=lin [a,b,c,d,e,(b-2),(d-e)] [] [S B (.n 2) H,S V G J,k A H,.q B C,.l C J,k V (.n 35)] (k (.p (.n 3) A) (.n 35)) [1299343103175156166457717214413824,1298075452574927937056220511208448,1298074214633708060054128689153024,1298074214633708060054128689153024] rfl (sb _ _) (sb _ _)
theorem oz481 {a b:Nat}:a<(a+(3+b)):=by intros;lia
theorem oz482 {a b c d e:Nat}:a<(b-2)→b=c→c≤(d-e)→(e+(3+a))≤d:=lin [a,b,c,d,e,(b-2),(d-e)] [] [S B (.n 2) H,S V G J,k A H,.q B C,.l C J] (.l (.p G (.p (.n 3) A)) V) [1268888541449259325093132108800,1237941221029923596428903424,1152921504606848000,1152921504606848000] rfl (sb _ _) (sb _ _)
theorem oz483 {a:Nat}:a<35→(Int.natAbs ((a:Int)-(1:Int)))<(2^60):=lin [a,(Int.natAbs ((a:Int)-(1:Int)))] [] [U (.p (.c A) (.g (.n 1))) B,k A (.n 35)] (k B (.n 1152921504606846976)) [1100585370624,1099511628800] rfl (na _)
theorem oz484 {a b:Nat}:a<35→b≤a→(Int.natAbs ((b:Int)-(1:Int)))<(2^60):=lin [a,b,(Int.natAbs ((b:Int)-(1:Int)))] [] [U (.p (.c B) (.g (.n 1))) C,k A (.n 35),.l B A] (k C (.n 1152921504606846976)) [1127000492213248,1125899906843648] rfl (na _)
theorem oz485 {a b:Nat}:(Int.toNat (((a:Int)-(1:Int))-((b:Int)-(1:Int))))=(a-b):=lin [a,b,(Int.toNat (((a:Int)-(1:Int))-((b:Int)-(1:Int)))),(a-b)] [] [T (.p (.p (.c A) (.g (.n 1))) (.g (.p (.c B) (.g (.n 1))))) C,S A B V] (.q C V) [1152922604119523328,1154047404513690624,1152922604118474752,1152921505680589824,1152922604118474753,1152921504606848000,1152922604118474752,1152921504606848000] rfl (tn _) (sb _ _)
theorem oz486 {a b c:Nat}:(a-b)<(a-c)→b=((b-1)+1):=lin [a,b,c,(a-b),(a-c),(b-1)] [] [S A B V,S A C G,S B (.n 1) H,k V G] (.q B (i H)) [1267650601408821022214114508800,1267651809154049016125877911552,1268888541448106403588526309376,1267650600229382323001310052352,1237940039285381374410752000,1237940039285381374410752000,1237940039285381374410752000,1237940039285381374410752000,1267650601408821022214114508800,1267651809154049016125877911552,1268888541448106403588525260801,1267650600229382323001310052352,1237940039285381374410752000,1237940039285381374410752000,1237940039285381374410752000,1237940039285381374410752000] rfl (sb _ _) (sb _ _) (sb _ _)
theorem oz487 {a b c:Nat}:(a+1)≤b→c=(b-(a+1))→(((b:Int)-(1:Int))-(c:Int))=(a:Int):=lin [a,b,c,(b-(a+1))] [] [S B (i A) V,.l (i A) B,.q C V] (.Q (.p (.p (.c B) (.g (.n 1))) (.g (.c C))) (.c A)) [1152922604118475776,1154047404514738176,1152922605192217600,1152921504606846977] rfl (sb _ _)
theorem oz488 {a b c:Nat}:(a+(b+1))≤(c+1)→c<35→a<1000000:=lin [a,b,c] [] [.l (.p A (i B)) (i C),k C (.n 35)] (k A (.n 1000000)) [1049601] rfl
theorem oz489 {a b c:Nat}:(a-(b+1))<(a-c)→c≤b:=lin [a,b,c,(a-(b+1)),(a-c)] [] [S A (i B) V,S A C G,k V G] (.l C B) [1181744543321530826752,1152922604118474752,1181744543321529778177,1152922604118474752] rfl (sb _ _) (sb _ _)
theorem oz490 {a b c d:Nat}:(a+(b+1))≤(c+1)→d≤(a+1)→(d+b)≤(c+1):=lin [a,b,c,d] [] [.l (.p A (i B)) (i C),.l V (i A)] (.l (.p V B) (i C)) [1049601] rfl
theorem oz491 {a b c:Nat}:(1≤a)∧((b+a)≤c)→(b+1)≤(b+a):=by intros;simp_all
theorem oz492 {a b:Nat}:(a+1)≤b→(b-a)=((b-(a+1))+1):=by intros;lia
theorem oz493 {a b c:Nat}:(a-b)≤(a-c)→b≤c→c≤a→c=b:=lin [a,b,c,(a-b),(a-c)] [] [S A B V,S A C G,.l V G,.l B C,.l C A] (.q C B) [1237941219877000992310427648,1237940040438302879018647552,1237941219877000992310427648,1239148966257917508193353728,1237941219877000992310427648,1237940039285380275972866049,1237941219877000992310427648,1239148965104994904073830401] rfl (sb _ _) (sb _ _)
theorem oz494 {a b c:Nat}:3≤a→a=0→b=c:=by intros;omega
theorem oz495 {a b:Nat}:a<1000→(min b a)<1000000:=lin [a,b,(min b a)] [] [M B A C,k A (.n 1000)] (k C (.n 1000000)) [1100585370625,1100585370624] rfl (mn _ _)
theorem oz496 {a b c d:Nat}:a<1000→b≤(a-c)→d≤b→(Int.natAbs (d:Int))<(2^60):=lin [a,b,c,d,(a-c),(Int.natAbs (d:Int))] [] [S A C G,U (.c V) H,k A (.n 1000),.l B G,.l V B] (k H (.n 1152921504606846976)) [1239150146849538225603609600,1237940039285381374410752000,1239150145696616720996762624,1237940039285381374410752000] rfl (sb _ _) (na _)
theorem oz497 {a b c d:Nat}:(a+(b+1))=c→c≤d→a<d:=lin [a,b,c,d] [] [.q (.p A (i B)) C,.l C V] (k A V) [1074790401] rfl
theorem oz498 {a b c d e f:Nat}:(a+(b+1))=c→c≤d→d≤(e-f)→(f+a)<e:=lin [a,b,c,d,e,f,(e-f)] [] [S G H J,.q (.p A (i B)) C,.l C V,.l V J] (k (.p H A) G) [1181745668122998735872,1154047405587432448] rfl (sb _ _)
theorem oz499 {a b c d e f g:Nat}:(a+(b+1))=c→c≤d→d≤(e-f)→((f+a)-g)<e:=lin [a,b,c,d,e,f,g,(e-f),((f+a)-g)] [] [S G H (.v 7),S (.p H A) J (.v 8),.q (.p A (i B)) C,.l C V,.l V (.v 7)] (k (.v 8) G) [1268889749194487319004895511552,1268889749194487319004895511552,1239148966257916408680678400,1239148966257916408680678400] rfl (sb _ _) (sb _ _)
theorem oz500 {a b c d e f:Nat}:(a+(b+1))=c→c≤d→d≤(e-f)→(min (f+a) e)=(f+a):=lin [a,b,c,d,e,f,(e-f),(min (f+a) e)] [] [S G H J,M (.p H A) G (.v 7),.q (.p A (i B)) C,.l C V,.l V J] (.q (.v 7) (.p H A)) [1267650600228230527396610048000,1267650600228229402596214833152,1268889749194488443805290726400,1267650600228229402597288574976,1267650600228230527396610048000,1267650600228229402596214833152,1239148966257916408680678400,1267650600228229402596214833153] rfl (sb _ _) (mn _ _)
theorem oz501 {a b c d e f:Nat}:(a+(b+1))=c→c≤d→d≤(e-f)→e<1000→(f+a)<1000000:=lin [a,b,c,d,e,f,(e-f)] [] [S G H J,.q (.p A (i B)) C,.l C V,.l V J,k G (.n 1000)] (k (.p H A) (.n 1000000)) [1210107565282752173442048,1154047405587432448] rfl (sb _ _)
theorem oz502 {a b c:Nat}:a≤b→((((b+c):Nat):Int)-(a:Int))=((((b+c)-a):Nat):Int):=lin [a,b,c,((b+c)-a)] [] [S (.p B C) A V,.l A B] (.Q (.p (.c (.p B C)) (.g (.c A))) (.c V)) [1099511628800,1099512676352,1100585370624,1099511627777] rfl (sb _ _)
theorem oz503 {a b c:Nat}:1≤a→a≤b→((b+c)-a)<(b+c):=lin [a,b,c,((b+c)-a)] [] [S (.p B C) A V,.l (.n 1) A,.l A B] (k V (.p B C)) [1125900980585472,1127000492213248] rfl (sb _ _)
theorem oz504 {a b:Nat}:a<(b+3)→¬ ((b+3)≤a):=by intros;expose_names;exact Nat.not_le_of_lt h
theorem oz505 {a b:Nat}:a<(b+3)→a<((b+1)+3):=by intros;expose_names;exact Nat.lt_succ_of_lt h
theorem oz506 {a b:Nat}:(a-b)<3→a<(b+3):=lin [a,b,(a-b)] [] [S A B C,k C (.n 3)] (k A (.p B (.n 3))) [1100586418176,1099511627777] rfl (sb _ _)
theorem oz507 {a b:Nat}:a<35→(a-b)<60:=lin [a,b,(a-b)] [] [S A B C,k A (.n 35)] (k C (.n 60)) [1100585370624,1099511628800] rfl (sb _ _)
theorem oz508 {a b:Nat}:((a:Int)-(b:Int))<(3:Int)→(a-b)<3:=lin [a,b,(a-b)] [] [S A B C,K (.p (.c A) (.g (.c B))) (.n 3)] (k C (.n 3)) [1100585370624,1099511628800] rfl (sb _ _)
theorem oz509 {a:Nat}:a<35→a≤1000:=by intros;exact Nat.le_trans (Nat.le_of_lt ‹_›) (Nat.le_of_ble_eq_true rfl)
theorem oz510 {a b:Nat}:¬ (((a:Int)-(b:Int))<(3:Int))→¬ ((a-b)<3):=lin [a,b,(a-b)] [] [S A B C,.t (K (.p (.c A) (.g (.c B))) (.n 3))] (.t (k C (.n 3))) [1100586418176,1073741825] rfl (sb _ _)
theorem oz511 {a b c:Nat}:(a+b)≤c→c<35→b<60:=lin [a,b,c] [] [.l (.p A B) C,k C (.n 35)] (k B (.n 60)) [1049601] rfl
theorem oz512 {a:Nat}:a<35→a<60:=by intros;exact Nat.lt_of_lt_of_le ‹_› (Nat.le_of_ble_eq_true rfl)
theorem oz513 {a:Nat}:a<35→(Int.natAbs (a:Int))<(2^60):=by intros;exact Nat.lt_of_lt_of_le ‹_› (Nat.le_of_ble_eq_true rfl)
theorem oz514 {a b c:Nat}:a=b→b≤c→a≤c:=by intros;expose_names;exact le_of_eq_of_le h h_1
theorem oz515 {a b:Nat}:a<35→b≤a→b<1000000:=lin [a,b] [] [k A (.n 35),.l B A] (k B (.n 1000000)) [1049601] rfl
theorem oz516 {a b:Nat}:(a-b)<1→¬ (a<b)→a=b:=lin [a,b,(a-b)] [] [S A B C,k C (.n 1),.t (k A B)] (.q A B) [1125899906842625,1125900981633024,1126999418470400,1125899906842625] rfl (sb _ _)
theorem oz517 {a:Nat}:(min (a:Int) (6:Int))=(((min a 6):Nat):Int):=lin [a,(min a 6)] [(min (a:Int) (6:Int))] [W (.c A) (.n 6) A,M A (.n 6) B] (.Q A (.c B)) [1152922604119523328,1154047404513690624,1152922605193265152,1154047404513690625,1152922605193265152,1154047404513690625,1152922604119523328,1154047404513690624] rfl (wn _ _) (mn _ _)
theorem oz518 {a b:Nat}:(((5:Int)+(a:Int))+(b:Int))=((((5+a)+b):Nat):Int):=by intros;exact rfl
theorem oz519 {a b:Nat}:1≤((5+a)+b):=by intros;lia
theorem oz520 {a b c:Nat}:(min (a:Int) (6:Int))=(b:Int)→c<4→((5+b)+c)≤40:=lin [a,b,c] [(min (a:Int) (6:Int))] [W (.c A) (.n 6) A,.Q A (.c B),k C (.n 4)] (.l (.p (.p (.n 5) B) C) (.n 40)) [1154048504025318401,1154048504025318400] rfl (wn _ _)
theorem oz521 {a b c:Nat}:(min (a:Int) (6:Int))=(b:Int)→c<4→((0+1)+(3*(((5+b)+c)+1)))<(2^30):=lin [a,b,c] [(min (a:Int) (6:Int))] [W (.c A) (.n 6) A,.Q A (.c B),k C (.n 4)] (k (.p (.n 1) (.m 3 (i (.p (.p (.n 5) B) C)))) (.n 1073741824)) [1156302502862261251,1156302502862261248] rfl (wn _ _)
theorem oz522 {a:Nat}:1≤(3+(a / 2)):=by intros;lia
theorem oz523 {a b:Nat}:(min (a:Int) (6:Int))=(b:Int)→(3+(b / 2))<(2^60):=lin [a,b,(b / 2)] [(min (a:Int) (6:Int))] [W (.c A) (.n 6) A,R B C 2,.Q A (.c B)] (k (.p (.n 3) C) (.n 1152921504606846976)) [2362336162940503196673,2362336162940503196672] rfl (wn _ _) (dv _ 2 (by decide))
theorem oz524 {a:Nat}:((3:Int)+((a:Int) / (2:Int)))=(((3+(a / 2)):Nat):Int):=by intros;exact rfl
theorem oz525 {a b c:Nat}:(min (a:Int) (6:Int))=(b:Int)→c<4→(((0+1)+(3*(((5+b)+c)+1)))+1)<(2^30):=lin [a,b,c] [(min (a:Int) (6:Int))] [W (.c A) (.n 6) A,.Q A (.c B),k C (.n 4)] (k (i (.p (.n 1) (.m 3 (i (.p (.p (.n 5) B) C))))) (.n 1073741824)) [1156302502862261251,1156302502862261248] rfl (wn _ _)
theorem oz526 {a b c:Nat}:(min (a:Int) (6:Int))=(b:Int)→c<4→((((0+1)+(3*(((5+b)+c)+1)))+1)+1)<(2^30):=lin [a,b,c] [(min (a:Int) (6:Int))] [W (.c A) (.n 6) A,.Q A (.c B),k C (.n 4)] (k (i (i (.p (.n 1) (.m 3 (i (.p (.p (.n 5) B) C)))))) (.n 1073741824)) [1156302502862261251,1156302502862261248] rfl (wn _ _)
theorem oz527 {a:Nat}:a<3→(a=0)∨((a=1)∨(a=2)):=lin [a] [] [k A (.n 3)] (.o (.q A (.n 0)) (.o (.q A (.n 1)) (.q A (.n 2)))) [1024,1073742848,1049600,1073742848,1049600,1074790400,1074790400,1073741825] rfl
theorem oz528 {a b c:Nat}:(min (a:Int) (6:Int))=(b:Int)→c<4→(((((0+1)+(3*(((5+b)+c)+1)))+1)+1)+1)<(2^30):=lin [a,b,c] [(min (a:Int) (6:Int))] [W (.c A) (.n 6) A,.Q A (.c B),k C (.n 4)] (k (i (i (i (.p (.n 1) (.m 3 (i (.p (.p (.n 5) B) C))))))) (.n 1073741824)) [1156302502862261251,1156302502862261248] rfl (wn _ _)
theorem oz529 {a b c:Nat}:(min (a:Int) (6:Int))=(b:Int)→c<4→((((((0+1)+(3*(((5+b)+c)+1)))+1)+1)+1)+1)<(2^30):=lin [a,b,c] [(min (a:Int) (6:Int))] [W (.c A) (.n 6) A,.Q A (.c B),k C (.n 4)] (k (i (i (i (i (.p (.n 1) (.m 3 (i (.p (.p (.n 5) B) C)))))))) (.n 1073741824)) [1156302502862261251,1156302502862261248] rfl (wn _ _)
theorem oz530 {a b c:Nat}:(min (a:Int) (6:Int))=(b:Int)→c<4→(((((((0+1)+(3*(((5+b)+c)+1)))+1)+1)+1)+1)+1)<(2^30):=lin [a,b,c] [(min (a:Int) (6:Int))] [W (.c A) (.n 6) A,.Q A (.c B),k C (.n 4)] (k (i (i (i (i (i (.p (.n 1) (.m 3 (i (.p (.p (.n 5) B) C))))))))) (.n 1073741824)) [1156302502862261251,1156302502862261248] rfl (wn _ _)
theorem oz531 {a:Nat}:a<4→(a=0)∨((a=1)∨((a=2)∨(a=3))):=lin [a] [] [k A (.n 4)] (.o (.q A (.n 0)) (.o (.q A (.n 1)) (.o (.q A (.n 2)) (.q A (.n 3))))) [1024,1099511628800,1073742848,1099511628800,1049600,1099511628800,1073742848,1099511628800,1049600,1099512676352,1074790400,1099512676352,1074790400,1100585369600,1100585369600,1099511627777] rfl
theorem oz532 {a b c d:Nat}:(min (a:Int) (6:Int))=(b:Int)→c<4→d=((5+b)+c)→d<35:=lin [a,b,c,d] [(min (a:Int) (6:Int))] [W (.c A) (.n 6) A,.Q A (.c B),k C (.n 4),.q V (.p (.p (.n 5) B) C)] (k V (.n 35)) [1208926973663133200024577,1208926973663133200024576] rfl (wn _ _)
theorem oz533 {a b c d:Nat}:a<(3+(b / 2))→c=((5+b)+d)→a≤c:=lin [a,b,c,d,(b / 2)] [] [R B G 2,k A (.p (.n 3) G),.q C (.p (.p (.n 5) B) V)] (.l A C) [2253998839037953] rfl (dv _ 2 (by decide))
theorem oz534 {a:Nat}:((1:Int)+(a:Int))=(((1+a):Nat):Int):=by intros;exact rfl
theorem oz535 {a b c d:Nat}:(min (a:Int) (6:Int))=(b:Int)→c<4→d=((5+b)+c)→(Int.natAbs (d:Int))<(2^60):=lin [a,b,c,d,(Int.natAbs (d:Int))] [(min (a:Int) (6:Int))] [W (.c A) (.n 6) A,U (.c V) G,.Q A (.c B),k C (.n 4),.q V (.p (.p (.n 5) B) C)] (k G (.n 1152921504606846976)) [1298075453783852603749345079067649,1298074214633706907133723593932800,1298075453783852603749345079067648,1298074214633706907133723593932800] rfl (wn _ _) (na _)
theorem oz536 {a b c d:Nat}:(min (a:Int) (6:Int))=(b:Int)→c<4→d=((5+b)+c)→d<60:=lin [a,b,c,d] [(min (a:Int) (6:Int))] [W (.c A) (.n 6) A,.Q A (.c B),k C (.n 4),.q V (.p (.p (.n 5) B) C)] (k V (.n 60)) [1208926973663133200024577,1208926973663133200024576] rfl (wn _ _)
theorem oz537 {a:Nat}:(1:Int)≤((1:Int)+(a:Int)):=by intros;exact Int.le.intro a rfl
theorem oz538 {a b c d:Nat}:(min (a:Int) (6:Int))=(b:Int)→c<4→d=((5+b)+c)→d≤1000:=lin [a,b,c,d] [(min (a:Int) (6:Int))] [W (.c A) (.n 6) A,.Q A (.c B),k C (.n 4),.q V (.p (.p (.n 5) B) C)] (.l V (.n 1000)) [1208926973663133200024577,1208926973663133200024576] rfl (wn _ _)
theorem oz539 {a:Nat}:1≤(1+a):=by intros;exact Nat.le_add_right 1 a
theorem oz540 {a b c:Nat}:(min (a:Int) (6:Int))=(b:Int)→c<4→((((((((0+1)+(3*(((5+b)+c)+1)))+1)+1)+1)+1)+1)+1)≤100:=lin [a,b,c] [(min (a:Int) (6:Int))] [W (.c A) (.n 6) A,.Q A (.c B),k C (.n 4)] (.l (i (i (i (i (i (i (.p (.n 1) (.m 3 (i (.p (.p (.n 5) B) C)))))))))) (.n 100)) [1156302502862261251,1156302502862261248] rfl (wn _ _)
theorem oz541 {a b c d:Nat}:3≤a→a≤b→b≤(c-d)→c<(d+3)→False:=lin [a,b,c,d,(c-d)] [] [S C V G,.l (.n 3) A,.l A B,.l B G] (.t (k C (.p V (.n 3)))) [1154048505099060224,1127000492213248] rfl (sb _ _)
theorem oz542 {a:Nat}:a<35→a<1000:=by intros;exact Nat.lt_of_lt_of_le ‹_› (Nat.le_of_ble_eq_true rfl)
theorem oz543 {a b c:Nat}:(a+b)≤c→c<35→b≤900:=lin [a,b,c] [] [.l (.p A B) C,k C (.n 35)] (.l B (.n 900)) [1049601] rfl
theorem oz544 {a b c:Nat}:(a+b)≤c→c<35→b≤1000:=by intros;lia
theorem oz545 {a b c d:Nat}:(a+b)≤c→(a+d)≤c→c<35→(b+d)≤1000000:=lin [a,b,c,d] [] [.l (.p A B) C,.l (.p A V) C,k C (.n 35)] (.l (.p B V) (.n 1000000)) [1075840001] rfl
theorem oz546 {a b c d:Nat}:(a+b)≤c→(a+d)≤c→c<35→(b+d)≤900:=lin [a,b,c,d] [] [.l (.p A B) C,.l (.p A V) C,k C (.n 35)] (.l (.p B V) (.n 900)) [1075840001] rfl
theorem oz547 {a:Nat}:a≤4→a≤1000:=by intros;exact Nat.le_trans ‹_› (Nat.le_of_ble_eq_true rfl)
theorem oz548 {a:Nat}:(a+1)≤4→a≤1000:=by intros;exact Nat.le_trans (Nat.le_of_lt ‹_›) (Nat.le_of_ble_eq_true rfl)
theorem oz549 {a:Nat}:(1:Int)<(a:Int)→a≤1→False:=lin [a] [] [K (.n 1) (.c A)] (.t (.l A (.n 1))) [1025] rfl
end
universe u1 u2 u3 u4 u5
theorem ex1 {α:Sort u1} {Q:α→Prop} {P:Prop} (h:∃ a,Q a) (k:∀ a,Q a→P):P:=by
 obtain ⟨a,h⟩:=h;exact k a h
theorem ex2 {α:Sort u1} {β:Sort u2} {Q:α→β→Prop} {P:Prop} (h:∃ a b,Q a b) (k:∀ a b,Q a b→P):P:=by
 obtain ⟨a,b,h⟩:=h;exact k a b h
theorem ex3 {α:Sort u1} {β:Sort u2} {γ:Sort u3} {Q:α→β→γ→Prop} {P:Prop} (h:∃ a b c,Q a b c) (k:∀ a b c,Q a b c→P):P:=by
 obtain ⟨a,b,c,h⟩:=h;exact k a b c h
theorem ex4 {α:Sort u1} {β:Sort u2} {γ:Sort u3} {δ:Sort u4} {Q:α→β→γ→δ→Prop} {P:Prop} (h:∃ a b c d,Q a b c d) (k:∀ a b c d,Q a b c d→P):P:=by
 obtain ⟨a,b,c,d,h⟩:=h;exact k a b c d h
theorem ex5 {α:Sort u1} {β:Sort u2} {γ:Sort u3} {δ:Sort u4} {ε:Sort u5} {Q:α→β→γ→δ→ε→Prop} {P:Prop} (h:∃ a b c d e,Q a b c d e) (k:∀ a b c d e,Q a b c d e→P):P:=by
 obtain ⟨a,b,c,d,e,h⟩:=h;exact k a b c d e h
open PySem PySem.W PyProof.Rows PySem.Calls
noncomputable def fieldNames:List String:=["octets","size","last","before","least","window","chain","ahead","row","finder","shortest","known","costs","steps","one","two","three",
 "new_octet","lengths","new_length","offsets","new_offset","by_length","by_distance"]
noncomputable def fname (n:Nat):Str:=Str.ofString (fieldNames.getD n "")
noncomputable def methNames:List String:=["__init__","key","put","newest","put_all","limit","length","alike","is_near","repeat","best","enter","candidates","every","up_to","offer","told",
 "row","copy","told_by","move","distance","value","literal","match"]
noncomputable def mname (n:Nat):Str:=Str.ofString (methNames.getD n "")
noncomputable def classNames:List String:=["PlaceRow","Finder","Trail","Ways","Offsets","BlockPrice","Matcher"]
noncomputable def flds:Nat→List Nat
 | 0=>[0,1,2,3]
 | 1=>[0,4,5,6,7,8]
 | 2=>[9,10,11]
 | 3=>[1,12,13]
 | 4=>[14,15,16]
 | 5=>[0,17,18,19,20,21,22,23]
 | _=>[]
noncomputable def mtL:List (List (Nat×Nat)):=[[(0,0),(1,1),(2,2),(3,3)],[(0,13),(2,5),(4,6),(5,7),(6,8),(7,9),(8,10),(9,11),(10,12),(11,14),(12,15),(13,16)],[(0,19),(14,20),(13,21)],[(0,23),(15,24),(16,25)],
 [(0,30),(17,31),(18,32),(19,33),(20,34),(21,35),(22,36)],[(0,40),(23,41),(24,42)]]
noncomputable def mt (c m:Nat):Option Nat:=(mtL.getD c []).lookup m
noncomputable def funNames:List (Nat×String):=[(17,"check_range"),(18,"step_size"),(22,"literals"),(26,"least"),(27,"code_in"),(28,"ml_code"),(29,"of_code"),(37,"sixteenths"),(38,"counted"),(39,"prices_of"),
 (43,"first_price"),(44,"learnt_price"),(45,"worth"),(46,"choice_at"),(47,"by_repeats"),(48,"one_parse"),(49,"parses"),(50,"_law_box"),(51,"_law_take"),(52,"_law_text"),(53,"_law_log"),(54,"_law_counted"),
 (55,"_law_costs"),(56,"_law_code"),(57,"_law_prices"),(58,"_law_price"),(59,"_law_alike"),(60,"_law_records"),(61,"_law_least"),(62,"_law_cost"),(63,"_law_plays"),(64,"_law_meant"),(65,"_law_value"),(66,"_law_worth"),
 (67,"_law_by_repeats"),(68,"_law_logs_right"),(69,"_law_same_prices"),(70,"law"),(71,"greedy"),(72,"lazy"),(73,"weighed")]
noncomputable def clsFuns:List (String×String×Nat):=[("Matcher","__init__",4)]
set_option maxRecDepth 4000
inductive V where
 | none
 | bool (b:Bool)
 | int (i:Int)
 | str (s:Str)
 | bytes (l:List Nat)
 | tup (l:List V)
 | ref (a:Addr)
 | flist (l:List V)
 | range (a b c:Int)
 deriving Inhabited
inductive O where
 | list (l:List V)
 | dict (es:List (Int×V)) (n:Nat)
 | inst (c:Nat) (fs:List (Nat×V))
 | aux (a:Addr)
 deriving Inhabited
noncomputable abbrev St:=Addr→Option O
noncomputable def St.set (st:St) (a:Addr) (o:O):St:=fun b=>if b=a then some o else st b
@[simp] theorem St.set_same (st:St) (a:Addr) (o:O):st.set a o a=some o:=by simp [St.set]
theorem St.set_other (st:St) {a b:Addr} (o:O) (h:b≠a):st.set a o b=st b:=by simp [St.set,h]
theorem St.set_dom (st:St) (a b:Addr) (o:O) (h:st b≠Option.none):st.set a o b≠Option.none:=by
 unfold St.set;split <;> simp_all
theorem St.set_some {st:St} {a b:Addr} {o o':O} (h:st.set a o b=some o'):(b=a∧o'=o)∨(b≠a∧st b=some o'):=by
 unfold St.set at h;split at h
 ·rename_i e;cases h;exact .inl ⟨e,rfl⟩
 ·rename_i e;exact .inr ⟨e,h⟩
theorem St.set_none {st:St} {a b:Addr} {o:O} (h:st.set a o b=Option.none):b≠a∧st b=Option.none:=by
 unfold St.set at h;split at h
 ·cases h
 ·rename_i e;exact ⟨e,h⟩
structure Cx where
 prog:Program
 w:World
 h0:Heap
 K:Frag
 mg:Str→Option Value
 mb:Str→Option Value
 fn:Nat→Addr
 cl:Nat→Addr
 inK:K.In h0
 gl:h0.Ns mainGlobals mg
 bl:h0.Ns builtinsNs mb
 mbx:∀ x:Str,x≠"__name__"→mb x=bootBuiltins x
 nolim:h0.NoLimit
 mods:h0.get? sysModules≠none
noncomputable abbrev Cx.M (C:Cx):Model:=model C.prog C.w
noncomputable def still (o:Obj):Bool:=match o.cls,o.data with
 | .type c,.seq ..=>c=="tuple" || c=="list"
 | .type c,.fields ..=>c=="range"
 | _,_=>false
mutual
noncomputable def VR (st:St) (h:Heap):V→Value→Prop
 | .none,v=>v=.none
 | .bool b,v=>v=.bool b
 | .int i,v=>∃ t,v=.int i t
 | .str x,v=>∃ t,v=.str x t
 | .bytes l,v=>∃ b t,v=.bytes b t∧b.toList.map UInt8.toNat=l∧l.length≤1100000
 | .tup l,v=>∃ a o vs n,v=.ref a∧st a=Option.none∧h.get? a=some o∧o.cls=.type "tuple"∧o.data=.seq vs n∧VRs st h l vs.toList∧l.length≤1100000
 | .ref a,v=>v=.ref a∧st a≠Option.none
 | .flist l,v=>∃ a o vs n,v=.ref a∧st a=Option.none∧h.get? a=some o∧o.cls=.type "list"∧o.data=.seq vs n∧VRs st h l vs.toList∧l.length≤1100000
 | .range a b c,v=>∃ r t u z,v=.ref r∧st r=Option.none∧IsRange h r a b c t u z
noncomputable def VRs (st:St) (h:Heap):List V→List Value→Prop
 | [],vs=>vs=[]
 | x::xs,vs=>∃ v r,vs=v::r∧VR st h x v∧VRs st h xs r
end
structure Step (φ:List Addr) (st:St) (s:Shared) (st':St) (s':Shared):Prop where
 dom:∀ b,st b≠Option.none→st' b≠Option.none
 new:∀ b,st b=Option.none→s.heap.get? b≠Option.none→st' b=Option.none
 keep:∀ b o,st b=Option.none→b∉φ→s.heap.get? b=some o→s'.heap.get? b=some o
 kseq:∀ b o,st b=Option.none→s.heap.get? b=some o→still o=true→s'.heap.get? b=some o
 live:∀ b,s.heap.get? b≠Option.none→s'.heap.get? b≠Option.none
 gens:s'.gens=s.gens
 os:s'.os=s.os
theorem Step.refl (φ:List Addr) (st:St) (s:Shared):Step φ st s st s :=
 ⟨fun _ h=>h,fun _ h _=>h,fun _ _ _ _ h=>h,fun _ _ _ h _=>h,fun _ h=>h,rfl,rfl⟩
theorem Step.trans {φ:List Addr} {st st' st'':St} {s s' s'':Shared} (x:Step φ st s st' s') (y:Step φ st' s' st'' s''):Step φ st s st'' s'' where
 dom b h:=y.dom b (x.dom b h)
 new b h a:=y.new b (x.new b h a) (x.live b a)
 keep b o h n e:=y.keep b o (x.new b h (by rw [e];simp)) n (x.keep b o h n e)
 kseq b o h e d:=y.kseq b o (x.new b h (by rw [e];simp)) (x.kseq b o h e d) d
 live b h:=y.live b (x.live b h)
 gens:=y.gens.trans x.gens
 os:=y.os.trans x.os
theorem Step.wide {φ φ':List Addr} {st st':St} {s s':Shared} (x:Step φ st s st' s') (h:∀ a∈φ,a∈φ'):Step φ' st s st' s' :=
 ⟨x.dom,x.new,fun b o e n g=>x.keep b o e (fun m=>n (h b m)) g,x.kseq,x.live,x.gens,x.os⟩
theorem Step.nil {φ:List Addr} {st st':St} {s s':Shared} (x:Step [] st s st' s'):Step φ st s st' s':=x.wide (fun _ h=>nomatch h)
mutual
theorem VR.mono {st st':St} {h h':Heap} (hd:∀ b,st b≠Option.none→st' b≠Option.none)
  (hk:∀ b o,st b=Option.none→h.get? b=some o→still o=true→st' b=Option.none∧h'.get? b=some o) :
  ∀ (x:V) {v:Value},VR st h x v→VR st' h' x v
 | .none,_,e=>e
 | .bool _,_,e=>e
 | .int _,_,e=>e
 | .str _,_,e=>e
 | .bytes _,_,e=>e
 | .tup l,v,e=>by
  refine ex4 e fun a o vs n zq0=>?_;have e1:=zq0.1;have e2:=zq0.2.1;have e3:=zq0.2.2.1;have e4:=zq0.2.2.2.1;have e5:=zq0.2.2.2.2.1;have e6:=zq0.2.2.2.2.2.1;have e7:=zq0.2.2.2.2.2.2;clear zq0 e
  obtain ⟨f1,f2⟩:=hk a o e2 e3 (by unfold still;rw [e4,e5];rfl)
  exact ⟨a,o,vs,n,e1,f1,f2,e4,e5,VRs.mono hd hk l e6,e7⟩
 | .ref a,v,e=>⟨e.1,hd a e.2⟩
 | .flist l,v,e=>by
  refine ex4 e fun a o vs n zq0=>?_;have e1:=zq0.1;have e2:=zq0.2.1;have e3:=zq0.2.2.1;have e4:=zq0.2.2.2.1;have e5:=zq0.2.2.2.2.1;have e6:=zq0.2.2.2.2.2.1;have e7:=zq0.2.2.2.2.2.2;clear zq0 e
  obtain ⟨f1,f2⟩:=hk a o e2 e3 (by unfold still;rw [e4,e5];rfl)
  exact ⟨a,o,vs,n,e1,f1,f2,e4,e5,VRs.mono hd hk l e6,e7⟩
 | .range a b c,v,e=>by
  refine ex4 e fun r t u z zq0=>?_;have e1:=zq0.1;have e2:=zq0.2.1;have e3:=zq0.2.2;clear zq0 e
  obtain ⟨f1,f2⟩:=hk r _ e2 e3 (by unfold still;rfl)
  exact ⟨r,t,u,z,e1,f1,f2⟩
theorem VRs.mono {st st':St} {h h':Heap} (hd:∀ b,st b≠Option.none→st' b≠Option.none)
  (hk:∀ b o,st b=Option.none→h.get? b=some o→still o=true→st' b=Option.none∧h'.get? b=some o) :
  ∀ (xs:List V) {vs:List Value},VRs st h xs vs→VRs st' h' xs vs
 | [],_,e=>e
 | x::xs,vs,e=>by
  refine ex2 e fun v r zq0=>?_;have e1:=zq0.1;have e2:=zq0.2.1;have e3:=zq0.2.2;clear zq0 e
  exact ⟨v,r,e1,VR.mono hd hk x e2,VRs.mono hd hk xs e3⟩
end
theorem Step.vr {φ:List Addr} {st st':St} {s s':Shared} (x:Step φ st s st' s') {v:V} {u:Value} (h:VR st s.heap v u):VR st' s'.heap v u :=
 VR.mono x.dom (fun b o e1 e2 e3=>⟨x.new b e1 (by rw [e2];simp),x.kseq b o e1 e2 e3⟩) v h
theorem Step.vrs {φ:List Addr} {st st':St} {s s':Shared} (x:Step φ st s st' s') {v:List V} {u:List Value} (h:VRs st s.heap v u):VRs st' s'.heap v u :=
 VRs.mono x.dom (fun b o e1 e2 e3=>⟨x.new b e1 (by rw [e2];simp),x.kseq b o e1 e2 e3⟩) v h
theorem VRs.length {st:St} {h:Heap}:∀ {xs:List V} {vs:List Value},VRs st h xs vs→vs.length=xs.length
 | [],_,e=>by obtain rfl:=e;rfl
 | x::xs,_,e=>by
  refine ex2 e fun v r zq0=>?_;obtain rfl:=zq0.1;have e3:=zq0.2.2;clear zq0 e
  simp [VRs.length e3]
theorem VRs.get {st:St} {h:Heap}:∀ {xs:List V} {vs:List Value},VRs st h xs vs→∀ {i:Nat} {x:V},xs[i]?=some x→∃ v,vs[i]?=some v∧VR st h x v
 | [],_,_,i,x,hx=>by simp at hx
 | y::ys,_,e,i,x,hx=>by
  refine ex2 e fun v r zq0=>?_;obtain rfl:=zq0.1;have e2:=zq0.2.1;have e3:=zq0.2.2;clear zq0 e
  cases i with
  | zero=>simp at hx;subst hx;exact ⟨v,rfl,e2⟩
  | succ i=>simp at hx ⊢;exact e3.get hx
theorem VRs.app {st:St} {h:Heap}:∀ {xs ys:List V} {vs us:List Value},VRs st h xs vs→VRs st h ys us→VRs st h (xs++ys) (vs++us)
 | [],ys,vs,us,e,f=>by obtain rfl:=e;exact f
 | x::xs,ys,vs,us,e,f=>by
  refine ex2 e fun v r zq0=>?_;obtain rfl:=zq0.1;have e2:=zq0.2.1;have e3:=zq0.2.2;clear zq0 e
  exact ⟨v,r++us,rfl,e2,e3.app f⟩
theorem VRs.one {st:St} {h:Heap} {x:V} {v:Value} (e:VR st h x v):VRs st h [x] [v]:=⟨v,[],rfl,e,rfl⟩
theorem VRs.cons {st:St} {h:Heap} {x:V} {v:Value} {xs:List V} {vs:List Value} (e:VR st h x v) (f:VRs st h xs vs):VRs st h (x::xs) (v::vs):=⟨v,vs,rfl,e,f⟩
theorem VRs.set {st:St} {h:Heap} {x:V} {v:Value} (e:VR st h x v):∀ {xs:List V} {vs:List Value} (i:Nat),VRs st h xs vs→VRs st h (xs.set i x) (vs.set i v)
 | [],_,i,f=>by obtain rfl:=f;rfl
 | y::ys,_,i,f=>by
  refine ex2 f fun u r zq0=>?_;obtain rfl:=zq0.1;have f2:=zq0.2.1;have f3:=zq0.2.2;clear zq0 f
  cases i with
  | zero=>exact .cons e f3
  | succ i=>exact .cons f2 (VRs.set e i f3)
theorem VRs.iff {st:St} {h:Heap}:∀ {xs:List V} {vs:List Value},VRs st h xs vs↔xs.length=vs.length∧∀ (i:Nat) (x:V) (v:Value),xs[i]?=some x→vs[i]?=some v→VR st h x v
 | [],vs=>⟨fun e=>by obtain rfl:=e;exact ⟨rfl,fun _ _ _ h=>nomatch h⟩,fun e=>List.length_eq_zero_iff.mp e.1.symm⟩
 | x::xs,vs=>by
  constructor
  ·intro e
   have l:=e.length
   refine ⟨l.symm,fun i y v hy hv=>?_⟩
   refine ex1 (e.get hy) fun v' zq0=>?_;have h1:=zq0.1;have h2:=zq0.2;clear zq0
   rw [hv] at h1;cases h1;exact h2
  ·rintro ⟨hl,hg⟩
   cases vs with
   | nil=>simp at hl
   | cons v vs =>
    refine .cons (hg 0 x v rfl rfl) (VRs.iff.mpr ⟨by simpa using hl,fun i y u hy hu=>hg (i+1) y u (by simpa using hy) (by simpa using hu)⟩)
theorem VRs.rev {st:St} {h:Heap} {xs:List V} {vs:List Value} (e:VRs st h xs vs):VRs st h xs.reverse vs.reverse:=by
 have hl:=e.length
 refine VRs.iff.mpr ⟨by simp [hl],fun i x v hx hv=>?_⟩
 have hi:i<xs.length:=by
  have:=(List.getElem?_eq_some_iff.mp hx).1;simpa using this
 rw [List.getElem?_reverse hi] at hx
 rw [List.getElem?_reverse (by exact oz1 hi hl),hl] at hv
 exact (VRs.iff.mp e).2 _ _ _ hx hv
theorem VRs.take {st:St} {h:Heap} {xs:List V} {vs:List Value} (e:VRs st h xs vs) (n:Nat):VRs st h (xs.take n) (vs.take n):=by
 refine VRs.iff.mpr ⟨by simp [e.length],fun i x v hx hv=>?_⟩
 rw [List.getElem?_take] at hx hv
 split at hx
 ·rename_i hi;rw [if_pos hi] at hv;exact (VRs.iff.mp e).2 _ _ _ hx hv
 ·cases hx
theorem VRs.drop {st:St} {h:Heap} {xs:List V} {vs:List Value} (e:VRs st h xs vs) (n:Nat):VRs st h (xs.drop n) (vs.drop n):=by
 refine VRs.iff.mpr ⟨by simp [e.length],fun i x v hx hv=>?_⟩
 rw [List.getElem?_drop] at hx hv
 exact (VRs.iff.mp e).2 _ _ _ hx hv
noncomputable def DP (st:St) (h:Heap):List (Int×V)→List (Int×Value)→Prop
 | [],es=>es=[]
 | (k,x)::r,es=>∃ v r',es=(k,v)::r'∧VR st h x v∧DP st h r r'
noncomputable def FsR (C:Cx) (st:St) (h:Heap):List (Nat×V)→List DictEntry→Prop
 | [],es=>es=[]
 | (k,x)::r,es=>∃ t v r',es=⟨PyData.keyHash C.w.params (fname k),.str (fname k) t,v⟩::r'∧VR st h x v∧FsR C st h r r'
noncomputable abbrev seqO (c:String) (vs:List Value) (n:Nat):Obj:={ cls:=.type c,data:=.seq vs.toArray n }
noncomputable abbrev dicO (es:List DictEntry) (n:Nat):Obj:={ cls:=.type "dict",data:=.dict es.toArray n }
noncomputable def OR (C:Cx) (st:St) (h:Heap) (a:Addr):O→Prop
 | .list l=>∃ vs n,h.get? a=some (seqO "list" vs n)∧VRs st h l vs∧l.length≤1100000
 | .dict es n=>∃ kvs,h.DictAt (intKind C.prog C.w) a kvs n∧DP st h es kvs∧es.length≤1100000
 | .inst c fs=>∃ d ds n,h.get? a=some (instObj (C.cl c) d)∧h.get? d=some (dicO ds n)∧st d=some (.aux a)∧FsR C st h fs ds∧(∀ p∈fs,(flds c).contains p.1=true)∧fs.length<100
 | .aux _=>h.get? a≠Option.none
structure WR (C:Cx) (st:St) (h:Heap):Prop where
 keep:∀ b o,C.h0.get? b=some o→h.get? b=some o
 obj:∀ a o,st a=some o→C.h0.get? a=Option.none∧OR C st h a o
theorem OR.there {C:Cx} {st:St} {h:Heap} {a:Addr}:∀ {o:O},OR C st h a o→h.get? a≠Option.none:=by
 intro o h
 cases o with
 | list=>obtain ⟨_,_,e,_⟩:=h;exact e▸Option.some_ne_none _
 | dict=>obtain ⟨_,⟨_,_,e,_⟩,_⟩:=h;exact e▸Option.some_ne_none _
 | inst=>obtain ⟨_,_,_,e,_⟩:=h;exact e▸Option.some_ne_none _
 | aux=>exact h
theorem WR.there {C:Cx} {st:St} {h:Heap} (W:WR C st h) {a:Addr} (e:st a≠Option.none):h.get? a≠Option.none:=by
 cases q:st a with
 | none=>exact absurd q e
 | some o=>exact (W.obj a o q).2.there
theorem WR.fresh {C:Cx} {st:St} {h:Heap} (W:WR C st h) {a:Addr} (e:h.get? a=Option.none):st a=Option.none:=by
 cases q:st a with
 | none=>rfl
 | some o=>exact absurd e (W.obj a o q).2.there
theorem get?_ge {h:Heap} {a:Addr} (e:h.objs.size≤a):h.get? a=Option.none:=by
 cases q:h.get? a with
 | none=>rfl
 | some o=>exact absurd (Heap.lt_size q) (Nat.not_lt.mpr e)
theorem DP.mono {st st':St} {h h':Heap} (hv:∀ x v,VR st h x v→VR st' h' x v):∀ {es:List (Int×V)} {ds:List (Int×Value)},DP st h es ds→DP st' h' es ds
 | [],_,e=>e
 | (k,x)::r,_,⟨v,r',e1,e2,e3⟩=>⟨v,r',e1,hv _ _ e2,DP.mono hv e3⟩
theorem FsR.mono {C:Cx} {st st':St} {h h':Heap} (hv:∀ x v,VR st h x v→VR st' h' x v):∀ {es:List (Nat×V)} {ds:List DictEntry},FsR C st h es ds→FsR C st' h' es ds
 | [],_,e=>e
 | (k,x)::r,_,⟨t,v,r',e1,e2,e3⟩=>⟨t,v,r',e1,hv _ _ e2,FsR.mono hv e3⟩
theorem OR.mono {C:Cx} {st st':St} {h h':Heap} (hd:∀ b,st b≠Option.none→st' b≠Option.none)
  (hs:∀ b o,st b=Option.none→h.get? b=some o→still o=true→st' b=Option.none∧h'.get? b=some o)
  {a:Addr} {o:O} (ha:∀ x,h.get? a=some x→h'.get? a=some x) (hx:∀ d,st d=some (.aux a)→st' d=some (.aux a)∧∀ x,h.get? d=some x→h'.get? d=some x)
  (e:OR C st h a o):OR C st' h' a o:=by
 have hv:∀ x v,VR st h x v→VR st' h' x v:=fun x v=>VR.mono hd hs x
 cases o with
 | list l=>obtain ⟨vs,n,e1,e2,e3⟩:=e;exact ⟨vs,n,ha _ e1,VRs.mono hd hs l e2,e3⟩
 | dict es n=>obtain ⟨kvs,⟨ob,ds,e1,r⟩,e2,e3⟩:=e;exact ⟨kvs,⟨ob,ds,ha _ e1,r⟩,e2.mono hv,e3⟩
 | inst c fs=>obtain ⟨d,ds,n,e1,e2,e3,e4,e5⟩:=e;exact ⟨d,ds,n,ha _ e1,(hx d e3).2 _ e2,(hx d e3).1,e4.mono hv,e5⟩
 | aux b =>
  cases q:h.get? a with
  | none=>exact absurd q e
  | some x=>show h'.get? a≠Option.none;rw [ha x q];simp
theorem WR.keeps {C:Cx} {st:St} {h h':Heap} (W:WR C st h) (k0:∀ b o,C.h0.get? b=some o→h.get? b=some o→h'.get? b=some o)
  (ks:∀ b o,st b=Option.none→h.get? b=some o→still o=true→h'.get? b=some o) (kd:∀ b o,st b≠Option.none→h.get? b=some o→h'.get? b=some o):WR C st h' where
 keep b o e:=k0 b o e (W.keep b o e)
 obj a o e:=⟨(W.obj a o e).1,(W.obj a o e).2.mono (fun _ h=>h) (fun b o e1 e2 e3=>⟨e1,ks b o e1 e2 e3⟩) (fun x q=>kd a x (by rw [e];simp) q)
  (fun d hd=>⟨hd,fun x q=>kd d x (by rw [hd];simp) q⟩)⟩
theorem WR.all {C:Cx} {st:St} {h h':Heap} (W:WR C st h) (k:∀ b o,h.get? b=some o→h'.get? b=some o):WR C st h' :=
 W.keeps (fun b o _ e=>k b o e) (fun b o _ e _=>k b o e) (fun b o _ e=>k b o e)
theorem Step.all {st:St} {s s':Shared} (k:∀ b o,s.heap.get? b=some o→s'.heap.get? b=some o) (hg:s'.gens=s.gens:=by rfl) (ho:s'.os=s.os:=by rfl):Step [] st s st s' where
 dom _ h:=h
 new _ h _:=h
 keep b o _ _ e:=k b o e
 kseq b o _ e _:=k b o e
 live b e:=by
  cases q:s.heap.get? b with
  | none=>exact absurd q e
  | some o=>rw [k b o q];simp
 gens:=hg
 os:=ho
theorem WR.alloc {C:Cx} {st:St} {h h':Heap} (W:WR C st h) (k:∀ b o,h.get? b=some o→h'.get? b=some o) {a:Addr} {o:O} (ha:h.get? a=Option.none) (e:OR C (st.set a o) h' a o):WR C (st.set a o) h' where
 keep b o e:=k b o (W.keep b o e)
 obj b ob eb:=by
  have fa:st a=Option.none:=W.fresh ha
  rcases St.set_some eb with ⟨rfl,rfl⟩ | ⟨hb,q⟩
  ·refine ⟨?_,e⟩
   cases z:C.h0.get? b with
   | none=>rfl
   | some x=>rw [W.keep _ _ z] at ha;cases ha
  ·refine ⟨(W.obj b ob q).1,(W.obj b ob q).2.mono (fun c hc=>St.set_dom st a c o hc) (fun c x e1 e2 e3=>⟨?_,k c x e2⟩) (fun x z=>k b x z) (fun d hd=>⟨?_,fun x z=>k d x z⟩)⟩
   ·rw [St.set_other];exact e1
    rintro rfl;rw [ha] at e2;cases e2
   ·rw [St.set_other];exact hd
    rintro rfl;rw [fa] at hd;cases hd
theorem Step.alloc {st:St} {s s':Shared} {a:Addr} {o:O} (k:∀ b o,s.heap.get? b=some o→s'.heap.get? b=some o) (ha:s.heap.get? a=Option.none) (hg:s'.gens=s.gens:=by rfl) (ho:s'.os=s.os:=by rfl):Step [] st s (st.set a o) s' where
 dom b h:=St.set_dom st a b o h
 new b h e:=by
  rw [St.set_other];exact h
  rintro rfl;exact e ha
 keep b o _ _ e:=k b o e
 kseq b o _ e _:=k b o e
 live b e:=by
  cases q:s.heap.get? b with
  | none=>exact absurd q e
  | some o=>rw [k b o q];simp
 gens:=hg
 os:=ho
theorem WR.change {C:Cx} {st:St} {h h':Heap} (W:WR C st h) {a d:Addr} {o:O} (hs:Heap.SameBut d h h') (ha:st a≠Option.none) (hna:∀ b,st a≠some (.aux b)) (hd:d=a∨st d=some (.aux a)) (ho:∀ b,o≠.aux b)
  (hl:h'.get? d≠Option.none) (hq:st d≠Option.none) (e:OR C (st.set a o) h' a o):WR C (st.set a o) h' where
 keep b x eb:=by
  have hbd:b≠d:=by
   rintro rfl
   rcases hd with rfl | hd
   ·cases q:st b with
    | none=>exact ha q
    | some y=>rw [(W.obj _ _ q).1] at eb;cases eb
   ·rw [(W.obj _ _ hd).1] at eb;cases eb
  rw [hs.2 b hbd];exact W.keep b x eb
 obj b ob eb:=by
  have dom:∀ c,st c≠Option.none→st.set a o c≠Option.none:=fun c hc=>St.set_dom st a c o hc
  have sq:∀ c x,st c=Option.none→h.get? c=some x→still x=true→st.set a o c=Option.none∧h'.get? c=some x:=fun c x e1 e2 e3=>by
   have hca:c≠a:=by rintro rfl;exact ha e1
   have hcd:c≠d:=by rintro rfl;exact hq e1
   exact ⟨by rw [St.set_other st o hca];exact e1,by rw [hs.2 c hcd];exact e2⟩
  rcases St.set_some eb with ⟨rfl,rfl⟩ | ⟨hb,q⟩
  ·refine ⟨?_,e⟩
   cases q:st b with
   | none=>exact absurd q ha
   | some y=>exact (W.obj b y q).1
  ·refine ⟨(W.obj b ob q).1,?_⟩
   have W1:=(W.obj b ob q).2
   by_cases hbd:b=d
   ·subst hbd
    rcases hd with rfl | hd
    ·exact absurd rfl hb
    ·rw [q] at hd;cases hd;exact hl
   ·refine W1.mono dom sq (fun x z=>by rw [hs.2 b hbd];exact z) (fun c hc=>⟨?_,fun x z=>?_⟩)
    ·rw [St.set_other];exact hc
     rintro rfl;exact hna _ hc
    ·rw [hs.2 c];exact z
     rintro rfl
     rcases hd with rfl | hd
     ·exact hna _ hc
     ·rw [hc] at hd;cases hd;exact hb rfl
theorem Step.change {st:St} {s s':Shared} {a d:Addr} {o:O} (hs:Heap.SameBut d s.heap s'.heap) (ha:st a≠Option.none) (hd:st d≠Option.none) (hl:s'.heap.get? d≠Option.none) (hg:s'.gens=s.gens:=by rfl) (ho:s'.os=s.os:=by rfl) :
  Step [] st s (st.set a o) s' where
 dom b h:=St.set_dom st a b o h
 new b h _:=by rw [St.set_other];exact h;rintro rfl;exact ha h
 keep b x e _ z:=by rw [hs.2 b];exact z;rintro rfl;exact hd e
 kseq b x e z _:=by rw [hs.2 b];exact z;rintro rfl;exact hd e
 live b e:=by
  by_cases hb:b=d
  ·subst hb;exact hl
  ·rw [hs.2 b hb];exact e
 gens:=hg
 os:=ho
noncomputable def EP (C:Cx) (st:St) (s:Shared) (P:V→St→Prop):Value→Shared→Prop:=fun v s'=>∃ x st',WR C st' s'.heap∧Step [] st s st' s'∧VR st' s'.heap x v∧P x st'
noncomputable def EPs (C:Cx) (st:St) (s:Shared) (P:List V→St→Prop):List Value→Shared→Prop:=fun v s'=>∃ x st',WR C st' s'.heap∧Step [] st s st' s'∧VRs st' s'.heap x v∧P x st'
noncomputable def BP {α:Type} (C:Cx) (st:St) (s:Shared) (P:α→St→Prop):α→Shared→Prop:=fun b s'=>∃ st',WR C st' s'.heap∧Step [] st s st' s'∧P b st'
noncomputable def NoE:Value→Shared→Prop:=fun _ _=>False
theorem EP.trans {C:Cx} {st st₁:St} {s s₁:Shared} {P:V→St→Prop} (x:Step [] st s st₁ s₁) {v:Value} {s':Shared} (h:EP C st₁ s₁ P v s'):EP C st s P v s' :=
 let ⟨y,st',w,z,r⟩:=h;⟨y,st',w,x.trans z,r⟩
theorem EP.now {C:Cx} {st:St} {s:Shared} {P:V→St→Prop} {x:V} {v:Value} {s':Shared} (W:WR C st s'.heap) (x1:Step [] st s st s') (x2:VR st s'.heap x v) (p:P x st):EP C st s P v s':=⟨x,st,W,x1,x2,p⟩
inductive Bop | add | sub | mul | fdiv | mod | pow | shl
 deriving DecidableEq
inductive Cop | eq | ne | lt | le | gt | ge | is_ | isNot | in_ | notIn
 deriving DecidableEq
inductive Bi | len | min_ | max_ | abs | int_ | sum | sorted | bytes | list | tuple | dict | range
 deriving DecidableEq
inductive Bm | append | get | count | bitLen
 deriving DecidableEq
inductive X where
 | lit (v:V)
 | rows
 | var (n:Nat)
 | bin (o:Bop) (a b:X)
 | neg (a:X)
 | not (a:X)
 | bool (isAnd:Bool) (as:List X)
 | cmp (a:X) (ops:List Cop) (cs:List X)
 | ite (t a b:X)
 | call (f:Nat) (as:List X)
 | new (c:Nat) (as:List X)
 | bi (b:Bi) (as:List X)
 | meth (o:X) (m:Nat) (as:List X)
 | bmeth (o:X) (m:Bm) (as:List X)
 | attr (o:X) (f:Nat)
 | idx (o i:X)
 | slc (o lo hi st:X)
 | list (as:List X)
 | tup (as:List X)
 | dict0
 | dict1 (k v:X)
 | comp (e:X) (one:Bool) (t:List Nat) (src:X) (ifs:List X)
 deriving Inhabited
inductive T where
 | var (n:Nat)
 | attr (o:X) (f:Nat)
 | idx (o i:X)
 | tup (ts:List T)
 deriving Inhabited
inductive S where
 | assign (t:T) (x:X)
 | aug (n:Nat) (o:Bop) (x:X)
 | expr (x:X)
 | ret (x:X)
 | ite (t:X) (a b:List S)
 | whl (t:X) (b:List S)
 | for_ (one:Bool) (t:List Nat) (src:X) (b:List S)
 | brk | cont | pass | fail
 deriving Inhabited
inductive Fl where
 | next | brk | cont
 | ret (v:V)
noncomputable abbrev Ls:=List (Option V)
noncomputable abbrev CallSem:=Nat→List V→St→(V→St→Prop)→Prop
mutual
inductive Rep (st:St):V→PyData→Prop
 | none:Rep st .none .none
 | bool (b):Rep st (.bool b) (.bool b)
 | int (i):Rep st (.int i) (.int i)
 | tup {l ds}:Reps st l ds→Rep st (.tup l) (.tuple ds)
 | list {a l ds}:st a=some (.list l)→Reps st l ds→Rep st (.ref a) (.list ds)
 | flist {l ds}:Reps st l ds→Rep st (.flist l) (.list ds)
inductive Reps (st:St):List V→List PyData→Prop
 | nil:Reps st [] []
 | cons {x xs d ds}:Rep st x d→Reps st xs ds→Reps st (x::xs) (d::ds)
end
noncomputable def dints:List (Int×V)→Option (List (Int×Int))
 | []=>some []
 | (k,.int i)::r=>(dints r).map ((k,i)::·)
 | _=>none
noncomputable def dictEqB (a b:List (Int×Int)):Bool:=a.length==b.length&&a.all fun p=>b.lookup p.1==some p.2
inductive EqV (st:St):V→V→Bool→Prop
 | data {v w d e}:Rep st v d→Rep st w e→SeqAt.shaped d=true→SeqAt.shaped e=true→EqV st v w (PyData.eqv d e)
 | dict {a b es fs ms ns n n'}:st a=some (.dict es n)→st b=some (.dict fs n')→dints es=some ms→dints fs=some ns→EqV st (.ref a) (.ref b) (dictEqB ms ns)
 | pair {a b es fs ms ns i j n n'}:st a=some (.dict es n)→st b=some (.dict fs n')→dints es=some ms→dints fs=some ns→EqV st (.tup [.ref a,.int i]) (.tup [.ref b,.int j]) (dictEqB ms ns&&i==j)
noncomputable def eqW (v w:V) (st:St) (P:Bool→Prop):Prop:=match v,w with
 | .int i,.int j=>P (i==j)
 | .str x,.str y=>P (x==y)
 | .bytes x,.bytes y=>P (x==y)
 | v,w=>∃ b,EqV st v w b∧P b
noncomputable def itemsOf (v:V) (st:St):Option (List V):=match v with
 | .tup l=>some l
 | .flist l=>some l
 | .ref a=>match st a with | some (.list l)=>some l | _=>none
 | _=>none
noncomputable def dhas (k:Int) (es:List (Int×V)):Bool:=es.any fun p=>p.1==k
noncomputable def dget (k:Int):List (Int×V)→Option V
 | []=>none
 | (j,v)::r=>if j=k then some v else dget k r
noncomputable def dset (k:Int) (v:V):List (Int×V)→List (Int×V)
 | []=>[(k,v)]
 | (j,u)::r=>if j=k then (j,v)::r else (j,u)::dset k v r
@[irreducible] noncomputable def inR (v:V) (a:Addr) (st:St) (P:Bool→Prop):Prop:=match st a with
 | some (.dict es _)=>(match v with | .int k=>P (dhas k es) | _=>False)
 | some (.list l)=>∃ d ds,Rep st v d∧Reps st l ds∧SeqAt.shaped d=true∧SeqAt.shaped (.list ds)=true∧P (ds.any fun y=>PyData.eqv y d)
 | _=>False
noncomputable def inW (v w:V) (st:St) (P:Bool→Prop):Prop:=match w with
 | .ref a=>inR v a st P
 | _=>False
noncomputable def isNone:V→Bool
 | .none=>true
 | _=>false
noncomputable def ordW (v w:V) (K:Int→Int→Prop):Prop:=match v with
 | .int i=>(match w with | .int j=>K i j | _=>False)
 | _=>False
noncomputable def cmp1 (o:Cop) (v w:V) (st:St) (P:Bool→Prop):Prop:=match o with
 | .eq=>eqW v w st P
 | .ne=>eqW v w st fun b=>P (!b)
 | .lt=>ordW v w fun i j=>P (decide (i<j))
 | .le=>ordW v w fun i j=>P (decide (i≤j))
 | .gt=>ordW v w fun i j=>P (decide (j<i))
 | .ge=>ordW v w fun i j=>P (decide (j≤i))
 | .is_=>match w with | .none=>P (isNone v) | _=>False
 | .isNot=>match w with | .none=>P (!isNone v) | _=>False
 | .in_=>inW v w st P
 | .notIn=>inW v w st fun b=>P (!b)
noncomputable def truthW (v:V) (P:Bool→Prop):Prop:=match v with
 | .bool b=>P b
 | .none=>P false
 | _=>False
noncomputable def small (i:Int):Prop:=i.natAbs<2^1500
noncomputable def newW (o:O) (st:St) (P:V→St→Prop):Prop:=∀ a,st a=none→P (.ref a) (st.set a o)
noncomputable def binI (o:Bop) (i j:Int) (K:Int→Prop):Prop:=match o with
 | .add=>K (i+j)
 | .sub=>K (i-j)
 | .mul=>small i∧small j∧K (i*j)
 | .fdiv=>0<j∧small j∧K (i / j)
 | .mod=>0<j∧K (i % j)
 | .pow=>0≤j∧j≤1000∧i.natAbs<2^64∧K (i^j.toNat)
 | .shl=>0≤j∧j≤1000∧i.natAbs<2^64∧K (i*2^j.toNat)
@[irreducible] noncomputable def mulR (a:Addr) (j:Int) (st:St) (P:V→St→Prop):Prop:=match st a with
 | some (.list l)=>∃ x,l=[x]∧0≤j∧j≤1000000∧newW (.list (List.replicate j.toNat x)) st P
 | _=>False
@[irreducible] noncomputable def addR (a b:Addr) (st:St) (P:V→St→Prop):Prop:=match st a with
 | some (.list l)=>(match st b with
  | some (.list m)=>l.length+m.length≤1000000∧newW (.list (l++m)) st P
  | _=>False)
 | _=>False
noncomputable def binW (o:Bop) (v w:V) (st:St) (P:V→St→Prop):Prop:=match v with
 | .int i=>(match w with | .int j=>binI o i j fun r=>P (.int r) st | _=>False)
 | .ref a=>(match o with
  | .mul=>(match w with | .int j=>mulR a j st P | _=>False)
  | .add=>(match w with | .ref b=>addR a b st P | _=>False)
  | _=>False)
 | _=>False
noncomputable def place (n:Nat) (i:Int):Option Nat:=seqIndex? i n
noncomputable def nth {α:Type} (l:List α) (i:Int):Option α:=match place l.length i with | some k=>l[k]? | none=>none
@[irreducible] noncomputable def idxR (a:Addr) (i:Int) (st:St) (P:V→St→Prop):Prop:=match st a with
 | some (.list l)=>∃ x,nth l i=some x∧P x st
 | some (.dict es _)=>∃ x,dget i es=some x∧P x st
 | _=>False
noncomputable def idxI (o:V) (i:Int) (st:St) (P:V→St→Prop):Prop:=match o with
 | .bytes l=>∃ x,0≤i∧l[i.toNat]?=some x∧P (.int x) st
 | .tup l=>∃ x,nth l i=some x∧P x st
 | .flist l=>∃ x,nth l i=some x∧P x st
 | .ref a=>idxR a i st P
 | _=>False
noncomputable def idxW (o i:V) (st:St) (P:V→St→Prop):Prop:=match i with
 | .int i=>idxI o i st P
 | _=>False
noncomputable def part:V→Option (Option Int)
 | .none=>some none
 | .int i=>some (some i)
 | _=>none
noncomputable def cutL {α:Type} (l:List α) (lo hi:Option Int):List α:=(l.drop (lo.elim 0 (clipAt l.length))).take (hi.elim l.length (clipAt l.length)-lo.elim 0 (clipAt l.length))
noncomputable def cut {α:Type} (l:List α) (lo hi:V):Option (List α):=match part lo,part hi with
 | some a,some b=>some (cutL l a b)
 | _,_=>none
@[irreducible] noncomputable def slcW (o lo hi step:V) (st:St) (P:V→St→Prop):Prop:=match step with
 | .none=>match o with
  | .bytes l=>∃ m,cut l lo hi=some m∧P (.bytes m) st
  | o=>∃ l m,itemsOf o st=some l∧(∀ l,o≠.tup l)∧cut l lo hi=some m∧newW (.list m) st P
 | .int s=>s = -1∧lo=.none∧hi=.none∧∃ a l,o=.ref a∧st a=some (.list l)∧newW (.list l.reverse) st P
 | _=>False
noncomputable def intsOf:List V→Option (List Int)
 | []=>some []
 | .int i::r=>(intsOf r).map (i::·)
 | _=>none
noncomputable def intTup:V→Option (List Int)
 | .tup l=>intsOf l
 | _=>none
noncomputable def intTups:List V→Option (List (List Int))
 | []=>some []
 | x::r=>match intTup x,intTups r with
  | some a,some b=>some (a::b)
  | _,_=>none
noncomputable def lexLt:List Int→List Int→Bool
 | [],[]=>false
 | [],_::_=>true
 | _::_,[]=>false
 | x::xs,y::ys=>if x=y then lexLt xs ys else decide (x<y)
noncomputable def octs:List V→Option (List Nat)
 | []=>some []
 | .int i::r=>if 0≤i∧i<256 then (octs r).map (i.toNat::·) else none
 | _=>none
@[irreducible] noncomputable def lenR (a:Addr) (st:St) (P:V→St→Prop):Prop:=match st a with
 | some (.list l)=>P (.int l.length) st
 | some (.dict es _)=>P (.int es.length) st
 | _=>False
noncomputable def lenW (v:V) (st:St) (P:V→St→Prop):Prop:=match v with
 | .bytes l=>P (.int l.length) st
 | .tup l=>P (.int l.length) st
 | .flist l=>P (.int l.length) st
 | .ref a=>lenR a st P
 | _=>False
@[irreducible] noncomputable def minR (a:Addr) (st:St) (P:V→St→Prop):Prop:=match st a with
 | some (.list l)=>∃ ns,intsOf l=some ns∧ns≠[]∧∀ m∈ns,(∀ x∈ns,m≤x)→P (.int m) st
 | _=>False
@[irreducible] noncomputable def sumR (a:Addr) (st:St) (P:V→St→Prop):Prop:=match st a with
 | some (.list l)=>∃ ns,intsOf l=some ns∧P (.int ns.sum) st
 | _=>False
@[irreducible] noncomputable def sortedR (a:Addr) (st:St) (P:V→St→Prop):Prop:=match st a with
 | some (.dict es _)=>es.length<64∧∀ ks:List Int,ks.Perm (es.map (·.1))→ks.Pairwise (·≤·)→newW (.list (ks.map .int)) st P
 | some (.list l)=>l.length<64∧∃ ts,intTups l=some ts∧ts≠[]∧(∀ t∈ts,∃ x y z u,t=[x,y,z,u])∧∀ us:List (List Int),us.Perm ts→us.Pairwise (fun x y=>lexLt y x=false)→newW (.list (us.map fun t=>.tup (t.map .int))) st P
 | _=>False
@[irreducible] noncomputable def bytesR (a:Addr) (st:St) (P:V→St→Prop):Prop:=match st a with
 | some (.list l)=>∃ ns,octs l=some ns∧P (.bytes ns) st
 | _=>False
@[irreducible] noncomputable def tupleR (a:Addr) (st:St) (P:V→St→Prop):Prop:=match st a with
 | some (.list l)=>P (.tup l) st
 | _=>False
@[irreducible] noncomputable def dictR (a:Addr) (st:St) (P:V→St→Prop):Prop:=match st a with
 | some (.list l)=>∃ ps:List (Int×V),l=ps.map (fun p=>.tup [.int p.1,p.2])∧∀ n,newW (.dict (ps.foldl (fun d p=>dset p.1 p.2 d) []) n) st P
 | _=>False
noncomputable def onR (v:V) (K:Addr→Prop):Prop:=match v with | .ref a=>K a | _=>False
noncomputable def onI (v:V) (K:Int→Prop):Prop:=match v with | .int i=>K i | _=>False
noncomputable def bytesW (v:V) (st:St) (P:V→St→Prop):Prop:=match v with
 | .bytes l=>P (.bytes l) st
 | .ref a=>bytesR a st P
 | _=>False
noncomputable def listW (v:V) (st:St) (P:V→St→Prop):Prop:=match v with
 | .bytes l=>newW (.list (l.map fun (n:Nat)=>.int (n:Int))) st P
 | _=>False
noncomputable def boolW (v:V) (st:St) (P:V→St→Prop):Prop:=match v with
 | .bool b=>P (.int (if b then 1 else 0)) st
 | _=>False
noncomputable def bi1 (b:Bi) (v:V) (st:St) (P:V→St→Prop):Prop:=match b with
 | .len=>lenW v st P
 | .min_=>onR v fun a=>minR a st P
 | .max_=>False
 | .abs=>onI v fun i=>P (.int (if i<0 then -i else i)) st
 | .int_=>boolW v st P
 | .sum=>onR v fun a=>sumR a st P
 | .sorted=>onR v fun a=>sortedR a st P
 | .bytes=>bytesW v st P
 | .list=>listW v st P
 | .tuple=>onR v fun a=>tupleR a st P
 | .dict=>onR v fun a=>dictR a st P
 | .range=>onI v fun b=>b.natAbs<2^60∧P (.range 0 b 1) st
noncomputable def bi2 (b:Bi) (v w:V) (st:St) (P:V→St→Prop):Prop:=match b with
 | .min_=>onI v fun i=>onI w fun j=>P (.int (min i j)) st
 | .max_=>onI v fun i=>onI w fun j=>P (.int (max i j)) st
 | .range=>onI v fun a=>onI w fun b=>a.natAbs<2^60∧b.natAbs<2^60∧P (.range a b 1) st
 | _=>False
noncomputable def bi3 (b:Bi) (u v w:V) (st:St) (P:V→St→Prop):Prop:=match b with
 | .range=>onI u fun a=>onI v fun b=>onI w fun c=>a.natAbs<2^60∧b.natAbs<2^60∧(c=1∨c = -1)∧P (.range a b c) st
 | _=>False
noncomputable def biW (b:Bi) (vs:List V) (st:St) (P:V→St→Prop):Prop:=match vs with
 | []=>False
 | v::r=>match r with
  | []=>bi1 b v st P
  | w::r=>match r with
   | []=>bi2 b v w st P
   | x::r=>match r with
    | []=>bi3 b v w x st P
    | _::_=>False
@[irreducible] noncomputable def appendR (a:Addr) (x:V) (st:St) (P:V→St→Prop):Prop:=match st a with
 | some (.list l)=>l.length<1000000∧P .none (st.set a (.list (l++[x])))
 | _=>False
@[irreducible] noncomputable def getR (a:Addr) (k:Int) (d:V) (st:St) (P:V→St→Prop):Prop:=match st a with
 | some (.dict es _)=>P ((dget k es).getD d) st
 | _=>False
@[irreducible] noncomputable def countR (a:Addr) (v:V) (st:St) (P:V→St→Prop):Prop:=match st a with
 | some (.list l)=>∃ d ds,Rep st v d∧Reps st l ds∧SeqAt.shaped d=true∧SeqAt.shaped (.list ds)=true∧P (.int (ds.countP fun y=>PyData.eqv y d)) st
 | _=>False
noncomputable def on1 (vs:List V) (K:V→Prop):Prop:=match vs with
 | []=>False
 | v::r=>match r with | []=>K v | _::_=>False
noncomputable def on2 (vs:List V) (K:V→V→Prop):Prop:=match vs with
 | []=>False
 | v::r=>on1 r (K v)
noncomputable def bmW (m:Bm) (o:V) (vs:List V) (st:St) (P:V→St→Prop):Prop:=match m with
 | .append=>onR o fun a=>on1 vs fun x=>appendR a x st P
 | .get=>onR o fun a=>on2 vs fun k d=>onI k fun k=>getR a k d st P
 | .count=>onR o fun a=>on1 vs fun x=>countR a x st P
 | .bitLen=>onI o fun i=>vs=[]∧P (.int (Builtin.Int.intBits i)) st
noncomputable def fget (k:Nat):List (Nat×V)→Option V
 | []=>none
 | (j,v)::r=>if j=k then some v else fget k r
noncomputable def fset (k:Nat) (v:V):List (Nat×V)→List (Nat×V)
 | []=>[(k,v)]
 | (j,u)::r=>if j=k then (j,v)::r else (j,u)::fset k v r
@[irreducible] noncomputable def attrR (a:Addr) (f:Nat) (st:St) (P:V→St→Prop):Prop:=match st a with
 | some (.inst c fs)=>(flds c).contains f=true∧∃ v,fget f fs=some v∧P v st
 | _=>False
noncomputable def attrW (o:V) (f:Nat) (st:St) (P:V→St→Prop):Prop:=onR o fun a=>attrR a f st P
@[irreducible] noncomputable def setAttrR (a:Addr) (f:Nat) (v:V) (st:St) (P:St→Prop):Prop:=match st a with
 | some (.inst c fs)=>(flds c).contains f=true∧fs.length<90∧P (st.set a (.inst c (fset f v fs)))
 | _=>False
noncomputable def setAttrW (o:V) (f:Nat) (v:V) (st:St) (P:St→Prop):Prop:=onR o fun a=>setAttrR a f v st P
@[irreducible] noncomputable def setItemR (a:Addr) (i:Int) (v:V) (st:St) (P:St→Prop):Prop:=match st a with
 | some (.list l)=>0≤i∧i.toNat<l.length∧P (st.set a (.list (l.set i.toNat v)))
 | some (.dict es _)=>es.length<1000000∧∀ n,P (st.set a (.dict (dset i v es) n))
 | _=>False
noncomputable def setItemW (o i v:V) (st:St) (P:St→Prop):Prop:=onR o fun a=>onI i fun i=>setItemR a i v st P
@[irreducible] noncomputable def methR (a:Addr) (m:Nat) (st:St) (K:Nat→Prop):Prop:=match st a with
 | some (.inst c fs)=>(match mt c m with | some f=>K f | none=>False)
 | _=>False
noncomputable def methC (o:V) (m:Nat) (st:St) (K:Nat→Prop):Prop:=onR o fun a=>methR a m st K
@[irreducible] noncomputable def isLs (a:Addr) (st:St):Prop:=match st a with | some (.list _)=>True | _=>False
@[irreducible] noncomputable def isDc (a:Addr) (st:St):Prop:=match st a with | some (.dict _ _)=>True | _=>False
noncomputable def bmK (m:Bm) (o:V) (st:St):Prop:=match m with
 | .append=>onR o fun a=>isLs a st
 | .count=>onR o fun a=>isLs a st
 | .get=>onR o fun a=>isDc a st
 | .bitLen=>onI o fun _=>True
@[irreducible] noncomputable def makeW (Φ:CallSem) (c:Nat) (vs:List V) (st:St) (P:V→St→Prop):Prop :=
 ∃ f,mt c 0=some f∧∀ a d,a≠d→st a=none→st d=none→Φ f (.ref a::vs) ((st.set d (.aux a)).set a (.inst c [])) fun r st'=>r=.none∧P (.ref a) st'
noncomputable def rangeL (a b c:Int):List Int:=(List.range (Builtin.Range.rangeSize a b c).toNat).map fun (i:Nat)=>a+(i:Int)*c
@[irreducible] noncomputable def iterRef (a:Addr) (st:St) (K:List V→(St→Prop)→Prop):Prop:=match st a with
 | some (.list l)=>K l fun st'=>st' a=some (.list l)
 | some (.dict es n)=>K (es.map fun p=>.int p.1) fun st'=>st' a=some (.dict es n)
 | _=>False
noncomputable def iterW (v:V) (st:St) (K:List V→(St→Prop)→Prop):Prop:=match v with
 | .tup l=>K l fun _=>True
 | .flist l=>K l fun _=>True
 | .bytes l=>K (l.map fun (n:Nat)=>.int (n:Int)) fun _=>True
 | .range a b c=>a.natAbs<2^60∧b.natAbs<2^60∧(c=1∨c = -1)∧K ((rangeL a b c).map .int) fun _=>True
 | .ref a=>iterRef a st K
 | _=>False
noncomputable def setAll:Ls→List Nat→List V→Option Ls
 | ls,[],[]=>some ls
 | ls,n::ns,v::vs=>setAll (ls.set n (some v)) ns vs
 | _,[],_::_=>none
 | _,_::_,[]=>none
noncomputable def bindT (one:Bool) (ns:List Nat) (v:V) (ls:Ls) (P:Ls→Prop):Prop:=match one with
 | true=>match ns with | [n]=>P (ls.set n (some v)) | _=>False
 | false=>match v with | .tup l=>∃ ls',setAll ls ns l=some ls'∧P ls' | _=>False
noncomputable def kSeq (r:Ls→St→(Fl→Ls→St→Prop)→Prop) (P:Fl→Ls→St→Prop):Fl→Ls→St→Prop:=fun fl ls st=>match fl with
 | .next=>r ls st P
 | .brk=>P .brk ls st
 | .cont=>P .cont ls st
 | .ret v=>P (.ret v) ls st
noncomputable def kLoop (N:Ls→St→Prop) (R:Fl→Ls→St→Prop):Fl→Ls→St→Prop:=fun fl ls st=>match fl with
 | .next=>N ls st
 | .brk=>R .next ls st
 | .cont=>N ls st
 | .ret v=>R (.ret v) ls st
noncomputable def kIf {α:Type} (a b:St→α→Prop) (P:α):Bool→St→Prop:=fun c st=>if c then a st P else b st P
noncomputable def kWh (body:St→(Fl→Ls→St→Prop)→Prop) (ls:Ls) (N:Ls→St→Prop) (R:Fl→Ls→St→Prop):Bool→St→Prop:=fun c st=>if c then body st (kLoop N R) else R .next ls st
noncomputable def kFor (body:Ls→St→(Fl→Ls→St→Prop)→Prop) (st:St) (P:Fl→Ls→St→Prop):Ls→Prop:=fun ls=>body ls st P
noncomputable def kEl (r:St→(V→St→Prop)→Prop) (Nt:V→St→Prop) (Nf:St→Prop):Bool→St→Prop:=fun c st=>if c then r st Nt else Nf st
noncomputable def kCo (elt:Ls→St→(V→St→Prop)→Prop) (test:Ls→St→(Bool→St→Prop)→Prop) (st:St) (Nt:V→St→Prop) (Nf:St→Prop):Ls→Prop:=fun ls=>test ls st (kEl (elt ls) Nt Nf)
@[irreducible] noncomputable def compW (elt:Ls→St→(V→St→Prop)→Prop) (test:Ls→St→(Bool→St→Prop)→Prop) (one:Bool) (ns:List Nat) (v:V) (ls:Ls) (st:St) (P:V→St→Prop):Prop :=
 iterW v st fun items chk=>∀ a,st a=none→∃ I:Nat→List V→St→Prop,I 0 [] (st.set a (.list [])) ∧
  (∀ k acc st1 x,items[k]?=some x→I k acc st1→chk st1∧st1 a=some (.list acc)∧bindT one ns x ls (kCo elt test st1 (fun y st3=>st3 a=some (.list acc)∧acc.length<1000000∧I (k+1) (acc++[y]) (st3.set a (.list (acc++[y])))) fun st2=>I (k+1) acc st2)) ∧
  ∀ acc st1,I items.length acc st1→chk st1∧st1 a=some (.list acc)∧P (.ref a) st1
@[irreducible] noncomputable def whileW (test:Ls→St→(Bool→St→Prop)→Prop) (body:Ls→St→(Fl→Ls→St→Prop)→Prop) (ls:Ls) (st:St) (P:Fl→Ls→St→Prop):Prop :=
 ∃ (I:Ls→St→Prop) (μ:Ls→St→Nat),I ls st∧∀ ls st,I ls st→test ls st (kWh (body ls) ls (fun ls' st'=>I ls' st'∧μ ls' st'<μ ls st) P)
@[irreducible] noncomputable def forW (body:Ls→St→(Fl→Ls→St→Prop)→Prop) (one:Bool) (ns:List Nat) (v:V) (ls:Ls) (st:St) (P:Fl→Ls→St→Prop):Prop :=
 iterW v st fun items chk=>∃ I:Nat→Ls→St→Prop,I 0 ls st ∧
  (∀ k ls st x,items[k]?=some x→I k ls st→chk st∧bindT one ns x ls (kFor body st (kLoop (I (k+1)) P))) ∧
  ∀ ls st,I items.length ls st→chk st∧P .next ls st
noncomputable def rowsM:List (Int×Int):=(List.range 32).map (fun (i:Nat)=>((i:Int)+3,(0:Int)))++[(35,1),(37,1),(39,1),(41,1),(43,2),(47,2),(51,3),(59,3),(67,4),(83,4),(99,5),(131,7),(259,8),(515,9),(1027,10),(2051,11),(4099,12),(8195,13),(16387,14),(32771,15),(65539,16)]
noncomputable def rowsV:V:=.flist (rowsM.map fun p=>.tup [.int p.1,.int p.2])
section
variable (Φ:CallSem)
noncomputable def k1 (f:V→St→(V→St→Prop)→Prop) (P:V→St→Prop):V→St→Prop:=fun v st=>f v st P
noncomputable def k2b (f:V→V→St→(V→St→Prop)→Prop) (v:V) (P:V→St→Prop):V→St→Prop:=fun w st=>f v w st P
noncomputable def k2 (f:V→V→St→(V→St→Prop)→Prop) (r:St→(V→St→Prop)→Prop) (P:V→St→Prop):V→St→Prop:=fun v st=>r st (k2b f v P)
noncomputable def negW (v:V) (st:St) (P:V→St→Prop):Prop:=match v with | .int i=>P (.int (-i)) st | _=>False
noncomputable def kNot (P:V→St→Prop) (st:St):Bool→Prop:=fun b=>P (.bool (!b)) st
noncomputable def notW (v:V) (st:St) (P:V→St→Prop):Prop:=truthW v (kNot P st)
noncomputable def kB (P:V→St→Prop):Bool→St→Prop:=fun b st=>P (.bool b) st
noncomputable def kTr (P:Bool→St→Prop):V→St→Prop:=fun v st=>truthW v fun b=>P b st
noncomputable def kTn (P:Bool→St→Prop):Bool→St→Prop:=fun b st=>P (!b) st
noncomputable def kVs (v:V) (P:List V→St→Prop):List V→St→Prop:=fun vs st=>P (v::vs) st
noncomputable def kEs (r:St→(List V→St→Prop)→Prop) (P:List V→St→Prop):V→St→Prop:=fun v st=>r st (kVs v P)
noncomputable def kCall (f:Nat) (P:V→St→Prop):List V→St→Prop:=fun vs st=>Φ f vs st P
noncomputable def kNew (c:Nat) (P:V→St→Prop):List V→St→Prop:=fun vs st=>makeW Φ c vs st P
noncomputable def kBi (b:Bi) (P:V→St→Prop):List V→St→Prop:=fun vs st=>biW b vs st P
noncomputable def kMf (r:St→(List V→St→Prop)→Prop) (v:V) (st:St) (P:V→St→Prop):Nat→Prop:=fun f=>r st (kVs v (kCall Φ f P))
noncomputable def kMe (m:Nat) (r:St→(List V→St→Prop)→Prop) (P:V→St→Prop):V→St→Prop:=fun v st=>methC v m st (kMf Φ r v st P)
noncomputable def kBm (m:Bm) (v:V) (P:V→St→Prop):List V→St→Prop:=fun vs st=>bmW m v vs st P
noncomputable def kBo (m:Bm) (r:St→(List V→St→Prop)→Prop) (P:V→St→Prop):V→St→Prop:=fun v st=>bmK m v st∧r st (kBm m v P)
noncomputable def kS4 (v l h:V) (P:V→St→Prop):V→St→Prop:=fun t st=>slcW v l h t st P
noncomputable def kS3 (c:St→(V→St→Prop)→Prop) (v l:V) (P:V→St→Prop):V→St→Prop:=fun h st=>c st (kS4 v l h P)
noncomputable def kS2 (b c:St→(V→St→Prop)→Prop) (v:V) (P:V→St→Prop):V→St→Prop:=fun l st=>b st (kS3 c v l P)
noncomputable def kS1 (a b c:St→(V→St→Prop)→Prop) (P:V→St→Prop):V→St→Prop:=fun v st=>a st (kS2 b c v P)
noncomputable def kLi (P:V→St→Prop):List V→St→Prop:=fun vs st=>vs.length≤1000∧newW (.list vs) st P
noncomputable def kTu (P:V→St→Prop):List V→St→Prop:=fun vs st=>vs.length≤1000∧P (.tup vs) st
noncomputable def dic1 (k v:V) (st:St) (P:V→St→Prop):Prop:=match k with
 | .int i=>∀ n,newW (.dict [(i,v)] n) st P
 | _=>False
noncomputable def kAO (r:St→(V→St→Prop)→Prop) (c:Bool) (v:V) (st:St) (P:V→St→Prop):Bool→Prop:=fun b=>if b==c then r st P else P v st
noncomputable def kBo2 (r:St→(V→St→Prop)→Prop) (c:Bool) (P:V→St→Prop):V→St→Prop:=fun v st=>truthW v (kAO r c v st P)
noncomputable def kTs (r:St→(Bool→St→Prop)→Prop) (c:Bool) (P:Bool→St→Prop):Bool→St→Prop:=fun b st=>if b==c then r st P else P (!c) st
noncomputable def kC3 (r:St→(Bool→St→Prop)→Prop) (st:St) (P:Bool→St→Prop):Bool→Prop:=fun b=>if b then r st P else P false st
noncomputable def kC2 (st:St) (P:Bool→St→Prop):Bool→Prop:=fun b=>P b st
noncomputable def kC1 (o:Cop) (last:Bool) (r:V→St→(Bool→St→Prop)→Prop) (v:V) (P:Bool→St→Prop):V→St→Prop:=fun w st=>cmp1 o v w st (cond last (kC2 st P) (kC3 (r w) st P))
noncomputable def kCm (r:V→St→(Bool→St→Prop)→Prop) (P:Bool→St→Prop):V→St→Prop:=fun v st=>r v st P
noncomputable def kIx (v:V) (P:V→St→Prop):V→St→Prop:=fun w st=>idxW v w st P
mutual
noncomputable def wpE:X→Ls→St→(V→St→Prop)→Prop
 | .lit v,_,st,P=>P v st
 | .rows,_,st,P=>P rowsV st
 | .var n,ls,st,P=>match ls[n]? with | some (some v)=>P v st | some none=>False | none=>False
 | .bin o a b,ls,st,P=>wpE a ls st (k2 (binW o) (wpE b ls) P)
 | .neg a,ls,st,P=>wpE a ls st (k1 negW P)
 | .not a,ls,st,P=>wpE a ls st (k1 notW P)
 | .bool c as,ls,st,P=>wpB c as ls st P
 | .cmp a ops cs,ls,st,P=>wpE a ls st (kCm (wpC ops cs ls) (kB P))
 | .ite t a b,ls,st,P=>wpT t ls st (kIf (wpE a ls) (wpE b ls) P)
 | .call f as,ls,st,P=>wpEs as ls st (kCall Φ f P)
 | .new c as,ls,st,P=>wpEs as ls st (kNew Φ c P)
 | .bi b as,ls,st,P=>wpEs as ls st (kBi b P)
 | .meth o m as,ls,st,P=>wpE o ls st (kMe Φ m (wpEs as ls) P)
 | .bmeth o m as,ls,st,P=>wpE o ls st (kBo m (wpEs as ls) P)
 | .attr o f,ls,st,P=>wpE o ls st (k1 (attrW · f) P)
 | .idx o i,ls,st,P=>wpE o ls st (k2 idxW (wpE i ls) P)
 | .slc o lo hi s,ls,st,P=>wpE o ls st (kS1 (wpE lo ls) (wpE hi ls) (wpE s ls) P)
 | .list as,ls,st,P=>wpEs as ls st (kLi P)
 | .tup as,ls,st,P=>wpEs as ls st (kTu P)
 | .dict0,_,st,P=>∀ n,newW (.dict [] n) st P
 | .dict1 k v,ls,st,P=>wpE k ls st (k2 dic1 (wpE v ls) P)
 | .comp e one t src ifs,ls,st,P=>wpE src ls st (k1 (fun v st P=>compW (wpE e) (wpTs true ifs) one t v ls st P) P)
noncomputable def wpEs:List X→Ls→St→(List V→St→Prop)→Prop
 | [],_,st,P=>P [] st
 | x::xs,ls,st,P=>wpE x ls st (kEs (wpEs xs ls) P)
noncomputable def wpB:Bool→List X→Ls→St→(V→St→Prop)→Prop
 | _,[],_,_,_=>False
 | c,x::xs,ls,st,P=>wpE x ls st (cond xs.isEmpty P (kBo2 (wpB c xs ls) c P))
noncomputable def wpC:List Cop→List X→Ls→V→St→(Bool→St→Prop)→Prop
 | os,[],_,_,_,_=>False
 | os,x::xs,ls,v,st,P=>match os with
  | []=>False
  | o::os=>wpE x ls st (kC1 o (os.isEmpty&&xs.isEmpty) (wpC os xs ls) v P)
noncomputable def wpT:X→Ls→St→(Bool→St→Prop)→Prop
 | .not a,ls,st,P=>wpT a ls st (kTn P)
 | .bool c as,ls,st,P=>wpTs c as ls st P
 | .ite t a b,ls,st,P=>wpT t ls st (kIf (wpT a ls) (wpT b ls) P)
 | .cmp a ops cs,ls,st,P=>wpE a ls st (kCm (wpC ops cs ls) P)
 | .call f as,ls,st,P=>wpEs as ls st (kCall Φ f (kTr P))
 | .meth o m as,ls,st,P=>wpE o ls st (kMe Φ m (wpEs as ls) (kTr P))
 | .var n,ls,st,P=>match ls[n]? with | some (some v)=>kTr P v st | some none=>False | none=>False
 | .lit _,_,_,_ | .rows,_,_,_ | .bin ..,_,_,_ | .neg _,_,_,_ | .new ..,_,_,_ | .bi ..,_,_,_ | .bmeth ..,_,_,_ | .attr ..,_,_,_ | .idx ..,_,_,_ | .slc ..,_,_,_ | .list _,_,_,_ | .tup _,_,_,_ | .dict0,_,_,_ | .dict1 ..,_,_,_ | .comp ..,_,_,_=>False
noncomputable def wpTs:Bool→List X→Ls→St→(Bool→St→Prop)→Prop
 | c,[],_,st,P=>P c st
 | c,x::xs,ls,st,P=>wpT x ls st (kTs (wpTs c xs ls) c P)
end
noncomputable def kSt (ls:Ls) (P:Ls→St→Prop):St→Prop:=fun st=>P ls st
noncomputable def kAt (f:Nat) (v:V) (ls:Ls) (P:Ls→St→Prop):V→St→Prop:=fun a st=>setAttrW a f v st (kSt ls P)
noncomputable def kA2 (a v:V) (ls:Ls) (P:Ls→St→Prop):V→St→Prop:=fun w st=>setItemW a w v st (kSt ls P)
noncomputable def kA1 (r:St→(V→St→Prop)→Prop) (v:V) (ls:Ls) (P:Ls→St→Prop):V→St→Prop:=fun a st=>r st (kA2 a v ls P)
noncomputable def kAs (r:List V→Ls→St→(Ls→St→Prop)→Prop) (vs:List V) (P:Ls→St→Prop):Ls→St→Prop:=fun ls st=>r vs ls st P
mutual
noncomputable def wpA:T→V→Ls→St→(Ls→St→Prop)→Prop
 | .var n,v,ls,st,P=>P (ls.set n (some v)) st
 | .attr o f,v,ls,st,P=>wpE Φ o ls st (kAt f v ls P)
 | .idx o i,v,ls,st,P=>wpE Φ o ls st (kA1 (wpE Φ i ls) v ls P)
 | .tup ts,v,ls,st,P=>match v with | .tup vs=>ts.length=vs.length∧wpAs ts vs ls st P | _=>False
noncomputable def wpAs:List T→List V→Ls→St→(Ls→St→Prop)→Prop
 | [],_,ls,st,P=>P ls st
 | t::ts,vs,ls,st,P=>match vs with | v::vs=>wpA t v ls st (kAs (wpAs ts) vs P) | []=>False
end
noncomputable def kN (P:Fl→Ls→St→Prop):Ls→St→Prop:=fun ls st=>P .next ls st
noncomputable def kAg (r:V→Ls→St→(Ls→St→Prop)→Prop) (ls:Ls) (P:Ls→St→Prop):V→St→Prop:=fun v st=>r v ls st P
noncomputable def kEx (ls:Ls) (P:Fl→Ls→St→Prop):V→St→Prop:=fun _ st=>P .next ls st
noncomputable def kRe (ls:Ls) (P:Fl→Ls→St→Prop):V→St→Prop:=fun v st=>P (.ret v) ls st
noncomputable def augW (n:Nat) (o:Bop) (i:Int) (ls:Ls) (w:V) (st:St) (P:Fl→Ls→St→Prop):Prop:=match w with
 | .int j=>(match o with
  | .add=>P .next (ls.set n (some (.int (i+j)))) st
  | .sub=>P .next (ls.set n (some (.int (i-j)))) st
  | _=>False)
 | _=>False
noncomputable def kAu (n:Nat) (o:Bop) (i:Int) (ls:Ls) (P:Fl→Ls→St→Prop):V→St→Prop:=fun w st=>augW n o i ls w st P
noncomputable def kFo (body:Ls→St→(Fl→Ls→St→Prop)→Prop) (one:Bool) (t:List Nat) (ls:Ls) (P:Fl→Ls→St→Prop):V→St→Prop:=fun v st=>forW body one t v ls st P
mutual
noncomputable def wpS:S→Ls→St→(Fl→Ls→St→Prop)→Prop
 | .assign t x,ls,st,P=>wpE Φ x ls st (kAg (wpA Φ t) ls (kN P))
 | .aug n o x,ls,st,P=>match ls[n]? with
  | some (some (.int i))=>wpE Φ x ls st (kAu n o i ls P)
  | _=>False
 | .expr x,ls,st,P=>wpE Φ x ls st (kEx ls P)
 | .ret x,ls,st,P=>wpE Φ x ls st (kRe ls P)
 | .ite t a b,ls,st,P=>wpT Φ t ls st (kIf (wpSs a ls) (wpSs b ls) P)
 | .whl t b,ls,st,P=>whileW (wpT Φ t) (wpSs b) ls st P
 | .for_ one t src b,ls,st,P=>wpE Φ src ls st (kFo (wpSs b) one t ls P)
 | .brk,ls,st,P=>P .brk ls st
 | .cont,ls,st,P=>P .cont ls st
 | .pass,ls,st,P=>P .next ls st
 | .fail,_,_,_=>False
noncomputable def wpSs:List S→Ls→St→(Fl→Ls→St→Prop)→Prop
 | [],ls,st,P=>P .next ls st
 | s::ss,ls,st,P=>wpS s ls st (kSeq (wpSs ss) P)
end
end
structure Good (A:Around) (k:Nat):Prop where
 depth:A.depth+4*k≤900
 units:A.units+40*k+500≤9900
 hand:A.handled=none
theorem Good.le {A:Around} {k j:Nat} (g:Good A k) (h:j≤k):Good A j:=⟨by have:=g.depth;exact oz2 this h,by have:=g.units;exact oz3 this h,g.hand⟩
theorem Good.u {A:Around} {k:Nat} (g:Good A k):A.units+400<cLine:=by have:=g.units;show _<9900;exact oz4 this
noncomputable def sB:Bop→Operator
 | .add=>.Add | .sub=>.Sub | .mul=>.Mult | .fdiv=>.FloorDiv | .mod=>.Mod | .pow=>.Pow | .shl=>.LShift
section
variable {C:Cx} {st:St} {s:Shared} {A:Around} {P:V→St→Prop}
theorem small_mul {i j:Int} (a:small i) (b:small j):IntMulOk i j:=by
 unfold IntMulOk Builtin.Int.intTooBig
 have h1:=intBits_le a
 have h2:=intBits_le b
 have h3:bitsLine=134217728:=by decide
 simp only [Bool.and_eq_true,decide_eq_true_eq,h3]
 exact oz5 h1 h2
theorem EP.num {s':Shared} (W:WR C st s.heap) {x:V} {v:Value} (hh:s'.heap=s.heap) (x2:VR st s.heap x v) (p:P x st) (hg:s'.gens=s.gens:=by rfl) (ho:s'.os=s.os:=by rfl):EP C st s P v s' :=
 ⟨x,st,hh▸W,Step.all (fun b o e=>by rw [hh];exact e) hg ho,by rw [hh];exact x2,p⟩
theorem EP.new {h':Heap} {tk:Nat} (W:WR C st s.heap) {o:O} (p:newW o st P) (a:Addr) (ha:s.heap.get? a=none) (k:∀ b o,s.heap.get? b=some o→h'.get? b=some o)
  (e:OR C (st.set a o) h' a o):EP C st s P (.ref a) { s with heap:=h',toks:=tk } :=
 ⟨.ref a,st.set a o,W.alloc k ha e,Step.alloc k ha,⟨rfl,by simp⟩,p a (W.fresh ha)⟩
theorem VRs.alloc {h h':Heap} (W:WR C st h) (k:∀ b o,h.get? b=some o→h'.get? b=some o) {a:Addr} {o:O} (ha:h.get? a=none) {xs:List V} {vs:List Value} (e:VRs st h xs vs):VRs (st.set a o) h' xs vs :=
 VRs.mono (fun b hb=>St.set_dom st a b o hb) (fun b ob e1 e2 _=>⟨(by rw [St.set_other];exact e1;rintro rfl;rw [ha] at e2;cases e2),k b ob e2⟩) xs e
theorem VR.alloc {h h':Heap} (W:WR C st h) (k:∀ b o,h.get? b=some o→h'.get? b=some o) {a:Addr} {o:O} (ha:h.get? a=none) {x:V} {v:Value} (e:VR st h x v):VR (st.set a o) h' x v :=
 VR.mono (fun b hb=>St.set_dom st a b o hb) (fun b ob e1 e2 _=>⟨(by rw [St.set_other];exact e1;rintro rfl;rw [ha] at e2;cases e2),k b ob e2⟩) x e
theorem isList {a:Addr} {l:List V} (W:WR C st s.heap) (e:st a=some (.list l)):∃ vs n,s.heap.get? a=some (seqO "list" vs n)∧s.heap.IsList a vs.toArray∧VRs st s.heap l vs∧l.length≤1100000∧vs.length=l.length:=by
 refine ex2 ((W.obj a _ e).2) fun vs n zq0=>?_;have e1:=zq0.1;have e2:=zq0.2.1;have e3:=zq0.2.2;clear zq0
 exact ⟨vs,n,e1,⟨_,e1,rfl,n,rfl⟩,e2,e3,e2.length⟩
theorem VR.shape {h:Heap} {m:V→Value→Prop} (h0:m .none .none) (h1:∀ b,m (.bool b) (.bool b)) (h2:∀ i t,m (.int i) (.int i t)) (h3:∀ i t,m (.str i) (.str i t)) (h4:∀ l b t,m (.bytes l) (.bytes b t))
  (h5:∀ l a,m (.tup l) (.ref a)) (h6:∀ a,m (.ref a) (.ref a)) (h7:∀ l a,m (.flist l) (.ref a)) (h8:∀ a b c r,m (.range a b c) (.ref r)) {x:V} {v:Value} (e:VR st h x v):m x v:=by
 cases x with
 | none=>obtain rfl:=e;exact h0
 | bool b=>obtain rfl:=e;exact h1 b
 | int i=>refine ex1 e fun t e=>?_;subst e;exact h2 i t
 | str i=>refine ex1 e fun t e=>?_;subst e;exact h3 i t
 | bytes l=>refine ex2 e fun b t e=>?_;have e:=e.1;subst e;exact h4 l b t
 | tup l=>refine ex4 e fun a _ _ _ e=>?_;have e:=e.1;subst e;exact h5 l a
 | ref a=>have e:v=.ref a:=e.1;subst e;exact h6 a
 | flist l=>refine ex4 e fun a _ _ _ e=>?_;have e:=e.1;subst e;exact h7 l a
 | range a b c=>refine ex4 e fun r _ _ _ e=>?_;have e:=e.1;subst e;exact h8 a b c r
theorem VR.isRef {h:Heap} {a:Addr} {v:Value} (e:VR st h (.ref a) v):v=.ref a∧st a≠none:=e
theorem VR.isInt {h:Heap} {i:Int} {v:Value} (e:VR st h (.int i) v):∃ t,v=.int i t:=e
theorem onR_ok {h:Heap} {v:V} {a:Value} {K:Addr→Prop} (e:VR st h v a) (p:onR v K):∃ r,v=.ref r∧a=.ref r∧K r:=by
 cases v with
 | ref r=>exact ⟨r,rfl,e.isRef.1,p⟩
 | _=>exact p.elim
theorem onI_ok {h:Heap} {v:V} {a:Value} {K:Int→Prop} (e:VR st h v a) (p:onI v K):∃ i t,v=.int i∧a=.int i t∧K i:=by
 cases v with
 | int i=>exact ⟨i,_,rfl,e.isInt.choose_spec,p⟩
 | _=>exact p.elim
theorem on1_ok {h:Heap} {vs:List V} {us:List Value} {K:V→Prop} (e:VRs st h vs us) (p:on1 vs K):∃ v a,vs=[v]∧us=[a]∧VR st h v a∧K v:=by
 cases vs with
 | nil=>exact p.elim
 | cons v r =>
  cases r with
  | nil =>
   refine ex2 e fun a _ zq0=>?_;obtain rfl:=zq0.1;have e1:=zq0.2.1;obtain rfl:=zq0.2.2;clear zq0 e
   exact ⟨v,a,rfl,rfl,e1,p⟩
  | cons _ _=>exact p.elim
theorem VR.mkInt {h:Heap} {i:Int} {t:Tok}:VR st h (.int i) (.int i t):=⟨t,rfl⟩
theorem VR.mkBool {h:Heap} {b:Bool}:VR st h (.bool b) (.bool b):=rfl
theorem VRs.repl {h:Heap} {x:V} {v:Value} (e:VR st h x v):∀ n:Nat,VRs st h (List.replicate n x) (List.replicate n v)
 | 0=>rfl
 | n+1=>by rw [List.replicate_succ,List.replicate_succ];exact .cons e (VRs.repl e n)
theorem bin_ok {o:Bop} {v w:V} {a b:Value} (W:WR C st s.heap) (ha:VR st s.heap v a) (hb:VR st s.heap w b) (p:binW o v w st P):wpAny C.M A (binaryOp (sB o) a b) (EP C st s P) NoE s:=by
 have two:∀ {i j:Int},v=.int i→w=.int j→∃ t u,a=.int i t∧b=.int j u:=fun {i j} e1 e2=>by
  subst e1 e2
  obtain ⟨t,rfl⟩:=ha.isInt
  obtain ⟨u,rfl⟩:=hb.isInt
  exact ⟨t,u,rfl,rfl⟩
 unfold binW at p
 cases v with
 | int i =>
  cases w with
  | int j =>
   refine ex2 (two rfl rfl) fun t u zq0=>?_;obtain rfl:=zq0.1;obtain rfl:=zq0.2;clear zq0
   cases o with
   | add=>exact PyProof.Rows.add_int (EP.num W rfl .mkInt p)
   | sub=>exact PyProof.Rows.sub_int (EP.num W rfl .mkInt p)
   | mul=>exact PyProof.Rows.mul_int (EP.num W rfl .mkInt p.2.2) (small_mul p.1 p.2.1)
   | fdiv =>
    have p1:=p.1;have p2:=p.2.1;have p3:=p.2.2;clear p
    refine PyProof.Rows.floordiv_int (by exact oz6 p1) (EP.num W rfl ?_ p3) (.inl (PyProof.noPylong_of_log2 ?_))
    ·rw [Int.fdiv_eq_ediv_of_nonneg _ (by exact oz7 p1)];exact .mkInt
    ·by_cases h0:j.natAbs=0
     ·rw [h0];decide
     ·have:j.natAbs.log2<1500:=(Nat.log2_lt h0).mpr p2
      exact oz8 this
   | mod =>
    have p1:=p.1
    refine PyProof.Rows.mod_int' (by exact oz6 p1) (EP.num W rfl ?_ p.2)
    rw [Int.fmod_eq_emod_of_nonneg _ (by exact oz7 p1)];exact .mkInt
   | pow =>
    have p1:=p.1;have p2:=p.2.1;have p3:=p.2.2.1;have p4:=p.2.2.2;clear p
    exact PyProof.Rows.pow_int_small p1 (by exact oz9 p2) p3 (EP.num W rfl .mkInt p4)
   | shl =>
    have p1:=p.1;have p2:=p.2.1;have p3:=p.2.2.1;have p4:=p.2.2.2;clear p
    exact PyProof.Rows.lshift_int_small p1 (by exact oz9 p2) p3 (EP.num W rfl .mkInt p4)
  | _=>exact p.elim
 | ref r =>
  have zq0:=ha.isRef;obtain rfl:=zq0.1;clear zq0
  cases o with
  | mul =>
   cases w with
   | int j =>
    obtain ⟨u,rfl⟩:=hb.isInt
    unfold mulR at p
    dsimp only at p
    split at p
    ·rename_i l e
     refine ex1 p fun x zq0=>?_;obtain rfl:=zq0.1;have p1:=zq0.2.1;have p2:=zq0.2.2.1;have p3:=zq0.2.2.2;clear zq0 p
     refine ex2 (isList W e) fun vs n zq0=>?_;have e1:=zq0.1;have e2:=zq0.2.2.1;clear zq0
     have hl:=e2.length
     refine ex2 e2 fun xv r' zq0=>?_;obtain rfl:=zq0.1;have x1:=zq0.2.1;have x2:=zq0.2.2;clear zq0 e2
     subst x2
     have hT:s.TypeIs (.ref r) "list":=⟨_,e1,rfl⟩
     have hsz:([xv]:List Value).toArray.size*j.toNat≤2^24:=by simp only [List.size_toArray,List.length_cons,List.length_nil];omega
     refine wpAny_binaryOp_repeat_ref (T:="list") (U:="int") (by decide) hT (fun s'=>typeIs_int s' j u) noFill_list_mul F.fills_int_mul F.slot_int_rmul repeat_list F.slot_int_index.lookup
      (call_meets F.slot_int_rmul (typeIs_int s j u) F.entry_int_rmul (F.args_int_rmul_2 _ _) (int___rmul___int_list j u r _ n)
       ⟨e1,rfl,hT,call_meets F.slot_list_mul hT F.entry_list_mul (F.args_list_mul_2 _ _)
        (AutoListH.list___mul___list_int_3 r _ n j u (by simp [Builtin.List.listFitsIndex];exact oz10 p1 p2) (by exact oz11 hsz) (by simp [Builtin.List.listTooLong,sizeLine];exact oz12 p2))
        ⟨e1,?_⟩⟩)
     have e3:(List.foldl (fun x1 x2=>x1++x2) #[] (List.replicate (if (([xv]:List Value).toArray).isEmpty=true then 0 else j.toNat) ([xv]:List Value).toArray))=(List.replicate j.toNat xv).toArray:=by
      rw [if_neg (by simp)]
      generalize j.toNat=q
      suffices h:∀ q (acc:Array Value),List.foldl (fun x1 x2=>x1++x2) acc (List.replicate q ([xv]:List Value).toArray)=acc++(List.replicate q xv).toArray by rw [h];simp
      intro q
      induction q with
      | zero=>intro acc;simp
      | succ q ih=>intro acc;rw [List.replicate_succ,List.foldl_cons,ih,List.replicate_succ];apply Array.toList_inj.mp;simp
     rw [e3]
     have k:∀ b o,s.heap.get? b=some o→(s.heap.push { cls:=.type "list",data:=.seq (List.replicate j.toNat xv).toArray }).get? b=some o:=fun b o z=>Heap.get?_push_of_some _ z
     refine EP.new W p3 s.heap.objs.size (get?_ge (Nat.le_refl _)) k ⟨List.replicate j.toNat xv,0,Heap.get?_push_size _ rfl,?_,by simp only [List.length_replicate];exact oz13 p2⟩
     have x3:=VR.alloc (o:=.list (List.replicate j.toNat x)) W k (get?_ge (Nat.le_refl _)) x1
     exact VRs.repl x3 _
    ·exact p.elim
   | _=>exact p.elim
  | add =>
   cases w with
   | ref q =>
    have zq0:=hb.isRef;obtain rfl:=zq0.1;clear zq0
    unfold addR at p
    dsimp only at p
    split at p
    ·rename_i l e1
     split at p
     ·rename_i m e2
      refine ex2 (isList W e1) fun vs n zq0=>?_;have a1:=zq0.1;have a3:=zq0.2.2.1;have a4:=zq0.2.2.2.1;have a5:=zq0.2.2.2.2;clear zq0
      refine ex2 (isList W e2) fun us n' zq0=>?_;have b1:=zq0.1;have b3:=zq0.2.2.1;have b4:=zq0.2.2.2.1;have b5:=zq0.2.2.2.2;clear zq0
      have p1:=p.1;have p2:=p.2;clear p
      have e:vs.toArray++us.toArray=(vs++us).toArray:=by simp
      refine concat_meets (show s.TypeIs (.ref r) "list" from ⟨_,a1,rfl⟩) (show s.TypeIs (.ref q) "list" from ⟨_,b1,rfl⟩) noFill_list_add seq_list_add PySem.F.slot_list_add PySem.F.entry_list_add (PySem.F.args_list_add_2 _ _)
       (list_addW r q vs.toArray us.toArray n n' none none #[] #[] (by simp only [List.size_toArray];rw [sizeLine_eq];exact oz14 a5 a4 b5 b4)) ⟨a1,b1,?_⟩
      rw [e]
      have k:∀ b o,s.heap.get? b=some o→(s.heap.push { cls:=.type "list",data:=.seq (vs++us).toArray }).get? b=some o:=fun b o z=>Heap.get?_push_of_some _ z
      refine EP.new W p2 s.heap.objs.size (get?_ge (Nat.le_refl _)) k ⟨vs++us,0,Heap.get?_push_size _ rfl,?_,by simp only [List.length_append];exact oz15 p1⟩
      exact (VRs.alloc W k (get?_ge (Nat.le_refl _)) a3).app (VRs.alloc W k (get?_ge (Nat.le_refl _)) b3)
     ·exact p.elim
    ·exact p.elim
   | _=>exact p.elim
  | _=>exact p.elim
 | _=>exact p.elim
end
section
variable {C:Cx} {st:St} {s:Shared} {A:Around} {P:V→St→Prop}
theorem Rep.reads {h:Heap} (W:WR C st h) {x:V} {d:PyData} (r:Rep st x d):∀ {v:Value},VR st h x v→∃ as,Reads h v d as:=by
 refine Rep.rec (motive_1:=fun x d _=>∀ {v:Value},VR st h x v→∃ as,Reads h v d as) (motive_2:=fun xs ds _=>∀ {vs:List Value},VRs st h xs vs→∃ as,ReadsAll h vs ds as) ?_ ?_ ?_ ?_ ?_ ?_ ?_ ?_ r
 ·intro v e;cases (show v=Value.none from e);exact ⟨_,.none⟩
 ·intro b v e;cases (show v=Value.bool b from e);exact ⟨_,.bool b⟩
 ·intro i v e;refine ex1 (show ∃ t,v=Value.int i t from e) fun t e=>?_;subst e;exact ⟨_,.int i t⟩
 ·intro l ds r ih v e
  refine ex4 e fun a o vs n z=>?_;have e0:=z.1;subst e0
  exact (ih z.2.2.2.2.2.1).elim fun _ ra=>⟨_,.tuple z.2.2.1 z.2.2.2.1 z.2.2.2.2.1 ra⟩
 ·intro a l ds q r ih v e
  refine ex2 ((W.obj _ _ q).2) fun vs n z=>?_
  rw [show v=.ref a from And.left e];exact (ih z.2.1).elim fun _ ra=>⟨_,.list z.1 rfl rfl ra⟩
 ·intro l ds r ih v e
  refine ex4 e fun a o vs n z=>?_;have e0:=z.1;subst e0
  exact (ih z.2.2.2.2.2.1).elim fun _ ra=>⟨_,.list z.2.2.1 z.2.2.2.1 z.2.2.2.2.1 ra⟩
 ·intro vs e;cases (show vs=[] from e);exact ⟨_,.nil⟩
 ·intro x xs d ds r rs i1 i2 vs e
  refine ex2 e fun v w z=>?_;have e0:=z.1;subst e0
  exact (i1 z.2.1).elim fun _ ra=>(i2 z.2.2).elim fun _ rb=>⟨_,.cons ra rb⟩
theorem Reps.reads {h:Heap} (W:WR C st h) {xs:List V} {ds:List PyData} (r:Reps st xs ds):∀ {vs:List Value},VRs st h xs vs→∃ as,ReadsAll h vs ds as:=by
 refine Reps.rec (motive_1:=fun _ _ _=>True) (motive_2:=fun xs ds _=>∀ {vs:List Value},VRs st h xs vs→∃ as,ReadsAll h vs ds as) trivial (fun _=>trivial) (fun _=>trivial) (fun _ _=>trivial) (fun _ _ _=>trivial) (fun _ _=>trivial) ?_ ?_ r
 ·intro vs e;cases (show vs=[] from e);exact ⟨_,.nil⟩
 ·intro x xs d ds r rs _ i2 vs e
  refine ex2 e fun v w z=>?_;have e0:=z.1;subst e0
  exact (r.reads W z.2.1).elim fun _ ra=>(i2 z.2.2).elim fun _ rb=>⟨_,.cons ra rb⟩
noncomputable def BQ (C:Cx) (st:St) (s:Shared) (P:Bool→Prop):Value→Shared→Prop:=fun v s'=>∃ b,v=.bool b∧P b∧WR C st s'.heap∧Step [] st s st s'
theorem BQ.same {P:Bool→Prop} {s':Shared} (W:WR C st s.heap) {b:Bool} (hh:s'.heap=s.heap) (p:P b) (hg:s'.gens=s.gens:=by rfl) (ho:s'.os=s.os:=by rfl):BQ C st s P (.bool b) s' :=
 ⟨b,rfl,p,hh▸W,Step.all (fun b o e=>by rw [hh];exact e) hg ho⟩
noncomputable def EqOk (C:Cx):Prop:=∀ {st:St} {s:Shared} {A:Around} {k:Nat} {v w:V} {a b:Value} {r:Bool},Good A k→WR C st s.heap→VR st s.heap v a→VR st s.heap w b→EqV st v w r →
 ∀ neg:Bool,wpAny C.M A (compareOp (if neg then .NotEq else .Eq) a b) (BQ C st s fun x=>x=(if neg then !r else r)) NoE s
theorem seqIndex?_place (n:Nat) (i:Int):seqIndex? i n=place n i:=rfl
theorem place_some {n:Nat} {i:Int} {k:Nat} (h:place n i=some k):(0≤i∧i<n∧k=i.toNat)∨(i<0∧0≤i+n∧k=(i+n).toNat):=by
 unfold place seqIndex? at h
 by_cases hi:i<0
 ·simp only [hi,if_true] at h
  split at h
  ·rename_i q
   simp only [Bool.and_eq_true,decide_eq_true_eq] at q
   have:=Option.some.inj h
   exact .inr ⟨hi,q.1,this.symm⟩
  ·exact absurd h (by simp)
 ·simp only [hi,if_false] at h
  split at h
  ·rename_i q
   simp only [Bool.and_eq_true,decide_eq_true_eq] at q
   have:=Option.some.inj h
   exact .inl ⟨q.1,q.2,this.symm⟩
  ·exact absurd h (by simp)
theorem EP.same {s':Shared} (W:WR C st s.heap) {x:V} {v:Value} (hh:s'.heap=s.heap) (x2:VR st s.heap x v) (p:P x st) (hg:s'.gens=s.gens:=by rfl) (ho:s'.os=s.os:=by rfl):EP C st s P v s':=EP.num W hh x2 p hg ho
theorem intKind_is {C:Cx} (k:Int) (t:Tok):(intKind C.prog C.w).is k (.int k t)=true:=by simp [intKind,Value.isInt]
theorem DP.length {h:Heap}:∀ {es:List (Int×V)} {ds:List (Int×Value)},DP st h es ds→ds.length=es.length
 | [],_,e=>by simp only [DP] at e;subst e;rfl
 | (k,x)::r,_,⟨v,r',e1,e2,e3⟩=>by subst e1;simp [e3.length]
theorem DP.keys {h:Heap}:∀ {es:List (Int×V)} {ds:List (Int×Value)},DP st h es ds→ds.map (·.1)=es.map (·.1)
 | [],_,e=>by simp only [DP] at e;subst e;rfl
 | (k,x)::r,_,⟨v,r',e1,e2,e3⟩=>by subst e1;simp [e3.keys]
theorem DP.find {h:Heap} (k:Int):∀ {es:List (Int×V)} {ds:List (Int×Value)},DP st h es ds→match dget k es with
  | some x=>∃ v,valueAt ds k=some v∧VR st h x v
  | none=>valueAt ds k=none
 | [],_,e=>by simp only [DP] at e;subst e;simp [dget,valueAt]
 | (j,x)::r,_,⟨v,r',e1,e2,e3⟩=>by
  subst e1
  have ih:=DP.find k e3
  unfold dget
  by_cases hj:j=k
  ·subst hj
   rw [if_pos rfl]
   exact ⟨v,by simp [valueAt],e2⟩
  ·rw [if_neg hj]
   have hq:valueAt ((j,v)::r') k=valueAt r' k:=by simp [valueAt,List.find?_cons,hj]
   rw [hq];exact ih
theorem dget_dhas (k:Int):∀ es:List (Int×V),(dget k es).isSome=dhas k es
 | []=>rfl
 | (j,v)::r=>by
  unfold dget dhas
  rw [List.any_cons]
  by_cases hj:j=k
  ·simp [hj]
  ·have:(j==k)=false:=by simpa using hj
   rw [if_neg hj]
   show _=((j==k) || _)
   rw [this,Bool.false_or];exact dget_dhas k r
theorem isDict {C:Cx} {a:Addr} {es:List (Int×V)} {n:Nat} (W:WR C st s.heap) (e:st a=some (.dict es n)):∃ kvs,s.heap.DictAt (intKind C.prog C.w) a kvs n∧DP st s.heap es kvs∧es.length≤1100000 ∧
  s.heap.MapOf (intKind C.prog C.w) a (valueAt kvs):=by
 refine ex1 ((W.obj a _ e).2) fun kvs zq0=>?_;have e1:=zq0.1;have e2:=zq0.2.1;have e3:=zq0.2.2;clear zq0
 exact ⟨kvs,e1,e2,e3,e1.dictOf.mapOf⟩
theorem list_at {r:Addr} {items:Array Value} {l:List V} {i:Int} {u:Tok} {x:V} (W:WR C st s.heap) (hl:s.heap.IsList r items) (hv:VRs st s.heap l items.toList) (hz:l.length≤1100000)
  (p1:nth l i=some x) (p2:P x st):wpAny C.M A (getItem (.ref r) (.int i u)) (EP C st s P) NoE s:=by
 unfold nth at p1
 split at p1
 ·rename_i k hk
  refine ex1 (hv.get p1) fun v zq0=>?_;have z1:=zq0.1;have z2:=zq0.2;clear zq0
  have hlen:=hv.length
  rw [Array.length_toList] at hlen
  rcases place_some hk with ⟨h1,h2,rfl⟩ | ⟨h1,h2,rfl⟩
  ·exact wpAny_getItem_list hl h1 (by omega) (by simpa using z1) (EP.same W rfl z2 p2)
  ·exact wpAny_getItem_list_neg hl h1 (by exact oz16 h2 hlen) (by omega) (by rw [hlen];simpa using z1) (EP.same W rfl z2 p2)
 ·cases p1
theorem idx_ok {o i:V} {a b:Value} (W:WR C st s.heap) (ha:VR st s.heap o a) (hb:VR st s.heap i b) (p:idxW o i st P):wpAny C.M A (getItem a b) (EP C st s P) NoE s:=by
 unfold idxW at p
 cases i with
 | int i =>
  obtain ⟨u,rfl⟩:=hb.isInt
  dsimp only at p
  unfold idxI at p
  cases o with
  | bytes l =>
   refine ex1 p fun x zq0=>?_;have p1:=zq0.1;have p2:=zq0.2.1;have p3:=zq0.2.2;clear zq0 p
   refine ex2 ha fun bs t zq0=>?_;obtain rfl:=zq0.1;have q1:=zq0.2.1;have q2:=zq0.2.2;clear zq0 ha
   have hlen:bs.toList.length=l.length:=by rw [← q1,List.length_map]
   have hi:i.toNat<l.length:=(List.getElem?_eq_some_iff.mp p2).1
   obtain ⟨bl⟩:=bs
   simp only [] at hlen q1
   refine PySem.W.getItem_bytes (l:=bl) (by exact oz17 hlen q2) p1 (by exact oz18 hi hlen) (EP.num W rfl ?_ p3)
   have:x=(bl.getD i.toNat 0).toNat:=by
    rw [← q1,List.getElem?_map] at p2
    rw [List.getD_eq_getElem?_getD]
    cases q:bl[i.toNat]? with
    | none=>rw [q] at p2;cases p2
    | some y=>rw [q] at p2;simp at p2;rw [← p2];rfl
   rw [this];exact .mkInt
  | tup l =>
   refine ex1 p fun x zq0=>?_;have p1:=zq0.1;have p2:=zq0.2;clear zq0 p
   refine ex4 ha fun r o vs n zq0=>?_;obtain rfl:=zq0.1;have q1:=zq0.2.1;have q2:=zq0.2.2.1;have q3:=zq0.2.2.2.1;have q4:=zq0.2.2.2.2.1;have q5:=zq0.2.2.2.2.2.1;have q6:=zq0.2.2.2.2.2.2;clear zq0 ha
   unfold nth at p1
   split at p1
   ·rename_i k hk
    refine ex1 (q5.get p1) fun v zq0=>?_;have z1:=zq0.1;have z2:=zq0.2;clear zq0
    have hl:=q5.length
    have hkk:=hk
    have hb:=place_some hk
    rw [Array.length_toList] at hl
    refine PyProof.Rows.getItem_tuple (items:=vs) (j:=k) ⟨o,q2,q3,n,q4⟩ (by omega) (by omega) (by rw [seqIndex?_place,hl];exact hk) (by simpa using z1) (EP.same W rfl z2 p2)
   ·cases p1
  | flist l =>
   refine ex1 p fun x zq0=>?_;have p1:=zq0.1;have p2:=zq0.2;clear zq0 p
   refine ex4 ha fun r o vs n zq0=>?_;obtain rfl:=zq0.1;have q1:=zq0.2.1;have q2:=zq0.2.2.1;have q3:=zq0.2.2.2.1;have q4:=zq0.2.2.2.2.1;have q5:=zq0.2.2.2.2.2.1;have q6:=zq0.2.2.2.2.2.2;clear zq0 ha
   exact list_at W ⟨o,q2,q3,n,q4⟩ (by simpa using q5) q6 p1 p2
  | ref r =>
   have zq0:=ha.isRef;obtain rfl:=zq0.1;clear zq0
   dsimp only at p
   unfold idxR at p
   split at p
   ·rename_i l e
    refine ex1 p fun x zq0=>?_;have p1:=zq0.1;have p2:=zq0.2;clear zq0 p
    refine ex2 (isList W e) fun vs n zq0=>?_;have e1:=zq0.1;have e2:=zq0.2.1;have e3:=zq0.2.2.1;have e4:=zq0.2.2.2.1;have e5:=zq0.2.2.2.2;clear zq0
    exact list_at W e2 (by simpa using e3) e4 p1 p2
   ·rename_i es e
    refine ex1 p fun x zq0=>?_;have p1:=zq0.1;have p2:=zq0.2;clear zq0 p
    refine ex1 (isDict W e) fun ds zq0=>?_;have e1:=zq0.1;have e2:=zq0.2.1;have e3:=zq0.2.2.1;have e4:=zq0.2.2.2;clear zq0
    have hf:=e2.find i
    rw [p1] at hf
    refine ex1 hf fun v zq0=>?_;have f1:=zq0.1;have f2:=zq0.2;clear zq0 hf
    exact wpAny_getItem_of (intKind_is i u) e4 f1 (EP.num W rfl f2 p2)
   ·exact p.elim
  | _=>exact p.elim
 | _=>exact p.elim
end
section
variable {C:Cx} {st:St} {s:Shared} {A:Around}
noncomputable def sC:Cop→CmpOp
 | .eq=>.Eq | .ne=>.NotEq | .lt=>.Lt | .le=>.LtE | .gt=>.Gt | .ge=>.GtE | .is_=>.Is | .isNot=>.IsNot | .in_=>.In | .notIn=>.NotIn
theorem VR.isStr {h:Heap} {i:Str} {v:Value} (e:VR st h (.str i) v):∃ t,v=.str i t:=e
theorem bytes_eq {b c:Array UInt8}:(b.toList==c.toList)=((b.toList.map UInt8.toNat)==(c.toList.map UInt8.toNat)):=by
 rw [Bool.eq_iff_iff,beq_iff_eq,beq_iff_eq]
 constructor
 ·intro e;rw [e]
 ·intro e;exact (List.map_inj_right (fun x y h=>UInt8.toNat_inj.mp h)).mp e
theorem eq_int_ok {P:Bool→Prop} {i j:Int} {t u:Tok} (W:WR C st s.heap) (p:P (i==j)):wpAny C.M A (compareOp .Eq (.int i t) (.int j u)) (BQ C st s P) NoE s:=PyProof.Rows.eq_int (BQ.same W rfl p)
theorem eqW_ok {k:Nat} (EQ:EqOk C) {P:Bool→Prop} {v w:V} {a b:Value} (g:Good A k) (W:WR C st s.heap) (ha:VR st s.heap v a) (hb:VR st s.heap w b) (neg:Bool)
  (p:eqW v w st fun r=>P (if neg then !r else r)):wpAny C.M A (compareOp (if neg then .NotEq else .Eq) a b) (BQ C st s P) NoE s:=by
 unfold eqW at p
 split at p
 ·obtain ⟨t,rfl⟩:=ha.isInt
  obtain ⟨u,rfl⟩:=hb.isInt
  cases neg
  ·exact PyProof.Rows.eq_int (BQ.same W rfl p)
  ·exact PyProof.Rows.ne_int (BQ.same W rfl p)
 ·obtain ⟨t,rfl⟩:=ha.isStr
  obtain ⟨u,rfl⟩:=hb.isStr
  cases neg
  ·exact PyProof.Rows.eq_str (BQ.same W rfl p)
  ·exact PyProof.Rows.ne_str (BQ.same W rfl p)
 ·refine ex2 ha fun b1 t1 zq0=>?_;obtain rfl:=zq0.1;have q1:=zq0.2.1;clear zq0 ha
  refine ex2 hb fun b2 t2 zq0=>?_;obtain rfl:=zq0.1;have q2:=zq0.2.1;clear zq0 hb
  cases neg
  ·exact PySem.W.eq_bytes (BQ.same W rfl (by rw [bytes_eq,q1,q2];exact p))
  ·refine PySem.W.ne_bytes (BQ.same W rfl ?_)
   have:(b1.toList != b2.toList)=!(b1.toList==b2.toList):=rfl
   rw [this,bytes_eq,q1,q2];exact p
 ·obtain ⟨r,e,p⟩:=p
  refine wpAny_mono (EQ g W ha hb e neg) (fun v s' h=>?_) fun _ _ h=>h
  obtain ⟨x,rfl,rfl,h3,h4⟩:=h
  exact ⟨_,rfl,p,h3,h4⟩
theorem notMods (W:WR C st s.heap) {a:Addr} (e:st a≠none):(a==sysModules)=false:=by
 cases q:st a with
 | none=>exact absurd q e
 | some o =>
  have h1:=(W.obj a o q).1
  cases hb:a==sysModules with
  | false=>rfl
  | true=>rw [beq_iff_eq.mp hb] at h1;exact absurd h1 C.mods
theorem find_isSome {es:List (Int×V)} {ds:List (Int×Value)} (e:DP st s.heap es ds) (k:Int):(valueAt ds k).isSome=dhas k es:=by
 have hf:=e.find k
 rw [← dget_dhas]
 cases q:dget k es with
 | none=>rw [q] at hf;rw [hf];rfl
 | some x=>rw [q] at hf;obtain ⟨v,f1,_⟩:=hf;rw [f1];rfl
theorem inW_ok {k:Nat} {P:Bool→Prop} {v w:V} {a b:Value} (g:Good A k) (W:WR C st s.heap) (ha:VR st s.heap v a) (hb:VR st s.heap w b) (neg:Bool)
  (p:inW v w st fun r=>P (if neg then !r else r)):wpAny C.M A (compareOp (if neg then .NotIn else .In) a b) (BQ C st s P) NoE s:=by
 have hu:=g.u
 have lst:∀ {r:Addr} {l:List V} {d:PyData} {ds:List PyData},b=.ref r→st r=some (.list l)→Rep st v d→Reps st l ds→SeqAt.shaped d=true→SeqAt.shaped (.list ds)=true→P (if neg then !(ds.any fun y=>PyData.eqv y d) else ds.any fun y=>PyData.eqv y d) →
   wpAny C.M A (compareOp (if neg then .NotIn else .In) a b) (BQ C st s P) NoE s:=fun {r l d ds} hr e r1 r2 s1 s2 p=>by
  subst hr
  refine ex1 (r1.reads W ha) fun as rd=>?_
  obtain ⟨bs,rl⟩:=(Rep.list e r2).reads (v:=.ref r) W (And.intro rfl (by rw [e];exact Option.some_ne_none _))
  have c1:=SeqAt.canLay_of_shaped s1
  have c2:PyData.canLayAll0 ds=true:=SeqAt.canLay_of_shaped s2
  have d1:=SeqAt.depth_of_shaped s1
  have hm:A.units+1+min (PyData.depthAll ds) d.depth<cLine:=by
   have:min (PyData.depthAll ds) d.depth≤d.depth:=Nat.min_le_right _ _
   exact oz19 hu d1
  cases neg
  ·exact SeqAt.in_list_reads rl rd c2 c1 hm (BQ.same W rfl p)
  ·exact SeqAt.notIn_list_reads rl rd c2 c1 hm (BQ.same W rfl p)
 unfold inW at p
 cases w with
 | ref r =>
  have zq0:=hb.isRef;obtain rfl:=zq0.1;have hr:=zq0.2;clear zq0
  dsimp only at p
  unfold inR at p
  split at p
  ·rename_i es n e
   cases v with
   | int k =>
    obtain ⟨t,rfl⟩:=ha.isInt
    refine ex1 (isDict W e) fun ds zq0=>?_;have e1:=zq0.1;have e2:=zq0.2.1;have e3:=zq0.2.2.1;have e4:=zq0.2.2.2;clear zq0
    cases neg
    ·exact wpAny_in_of (intKind_is k t) (notMods W hr) e4 (BQ.same W rfl (by rw [find_isSome e2];exact p))
    ·exact wpAny_notIn_of (intKind_is k t) (notMods W hr) e4 (BQ.same W rfl (by rw [find_isSome e2];exact p))
   | _=>exact p.elim
  ·rename_i e
   refine ex2 p fun d ds zq0=>?_;have p1:=zq0.1;have p2:=zq0.2.1;have p3:=zq0.2.2.1;have p4:=zq0.2.2.2.1;have p5:=zq0.2.2.2.2;clear zq0 p
   exact lst rfl e p1 p2 p3 p4 p5
  ·exact p.elim
 | _=>exact p.elim
theorem cmp_ok {k:Nat} (EQ:EqOk C) {P:Bool→Prop} {o:Cop} {v w:V} {a b:Value} (g:Good A k) (W:WR C st s.heap) (ha:VR st s.heap v a) (hb:VR st s.heap w b) (p:cmp1 o v w st P) :
  wpAny C.M A (compareOp (sC o) a b) (BQ C st s P) NoE s:=by
 have none_of:∀ {x:V} {y:Value},VR st s.heap x y→(y==Value.none)=isNone x:=fun {x y} h=>by
  exact h.shape (m:=fun x y=>(y==Value.none)=isNone x) rfl (fun _=>rfl) (fun _ _=>rfl) (fun _ _=>rfl) (fun _ _ _=>rfl) (fun _ _=>rfl) (fun _=>rfl) (fun _ _=>rfl) fun _ _ _ _=>rfl
 have ord:∀ {K:Int→Int→Prop},ordW v w K→∃ i t j u,a=.int i t∧b=.int j u∧K i j:=fun {K} q=>by
  unfold ordW at q
  cases v with
  | int i =>
   cases w with
   | int j =>
    obtain ⟨t,rfl⟩:=ha.isInt
    obtain ⟨u,rfl⟩:=hb.isInt
    exact ⟨_,_,_,_,rfl,rfl,q⟩
   | _=>exact q.elim
  | _=>exact q.elim
 have nn:(match w with | .none=>True | _=>False)→b=.none:=fun q=>by
  cases w with
  | none=>exact hb
  | _=>exact q.elim
 unfold cmp1 at p
 cases o with
 | eq=>exact eqW_ok EQ g W ha hb false p
 | ne=>exact eqW_ok EQ g W ha hb true p
 | lt=>obtain ⟨i,t,j,u,rfl,rfl,p⟩:=ord p;exact PyProof.Rows.lt_int (BQ.same W rfl p)
 | le=>obtain ⟨i,t,j,u,rfl,rfl,p⟩:=ord p;exact PySem.P.le_int (BQ.same W rfl p)
 | gt=>obtain ⟨i,t,j,u,rfl,rfl,p⟩:=ord p;exact PyProof.Rows.gt_int (BQ.same W rfl p)
 | ge=>obtain ⟨i,t,j,u,rfl,rfl,p⟩:=ord p;exact PySem.P.ge_int (BQ.same W rfl p)
 | is_ =>
  cases w with
  | none=>cases nn trivial;exact is_none (BQ.same W rfl (by rw [none_of ha];exact p))
  | _=>exact p.elim
 | isNot =>
  cases w with
  | none=>cases nn trivial;exact isNot_none (BQ.same W rfl (by rw [none_of ha];exact p))
  | _=>exact p.elim
 | in_=>exact inW_ok g W ha hb false p
 | notIn=>exact inW_ok g W ha hb true p
theorem neg_ok {P:V→St→Prop} {i:Int} {a:Value} (W:WR C st s.heap) (ha:VR st s.heap (.int i) a) (p:P (.int (-i)) st):wpAny C.M A (unaryOp .USub a) (EP C st s P) NoE s:=by
 obtain ⟨t,rfl⟩:=ha.isInt
 exact PySem.P.neg_int (EP.num W rfl .mkInt p)
noncomputable def TQ (C:Cx) (st:St) (s:Shared) (P:Bool→Prop):Bool→Shared→Prop:=fun b s'=>P b∧WR C st s'.heap∧Step [] st s st s'
theorem truth_ok {P:Bool→Prop} {v:V} {a:Value} (W:WR C st s.heap) (ha:VR st s.heap v a) (p:truthW v P):wpAny C.M A (truthy a) (TQ C st s P) NoE s:=by
 unfold truthW at p
 split at p
 ·obtain rfl:=ha
  exact wpAny_truthy_bool ⟨p,W,.refl ..⟩
 ·obtain rfl:=ha
  exact PyProof.Rows.truthy_none ⟨p,W,.refl ..⟩
 ·exact p.elim
end
theorem fname_inj:∀ j<24,∀ k<24,fname j=fname k→j=k:=by decide +kernel
theorem flds_lt:∀ c<6,∀ f∈flds c,f<24:=by decide
theorem flds_any {c f:Nat} (h:(flds c).contains f=true):c<6∧f<24:=by
 have hc:c<6:=by
  cases Nat.lt_or_ge c 6 with
  | inl h=>exact h
  | inr q =>
   have:flds c=[]:=by
    match c,q with
    | n+6,_=>rfl
   rw [this] at h;simp at h
 exact ⟨hc,flds_lt c hc f (by simpa using h)⟩
theorem meth_field:∀ c<6,∀ m<25,(mt c m).isSome=true→∀ f∈flds c,fname f≠mname m:=by decide +kernel
theorem mt_lt {c m f:Nat} (h:mt c m=some f):c<6∧m<25:=by
 unfold mt at h
 have hc:c<6:=by
  by_cases hc:c<6
  ·exact hc
  ·have:mtL.getD c []=[]:=by rw [List.getD_eq_getElem?_getD,List.getElem?_eq_none (by show 6≤c;exact oz20 hc)];rfl
   rw [this] at h;cases h
 have all:∀ c<6,∀ p∈mtL.getD c [],p.1<25:=by decide
 have mem:∀ (l:List (Nat×Nat)),l.lookup m=some f→(m,f)∈l:=by
  intro l
  induction l with
  | nil=>intro e;cases e
  | cons p r ih =>
   intro e
   rw [List.lookup_cons] at e
   split at e
   ·rename_i q;cases e;rw [beq_iff_eq.mp q];exact List.mem_cons_self ..
   ·exact List.mem_cons_of_mem _ (ih e)
 exact ⟨hc,all c hc _ (mem _ h)⟩
structure ClsOk (C:Cx):Prop where
 get:∀ c<6,findIn C.K (.ref (C.cl c)) "__getattribute__"=some (some (.builtin "object.__getattribute__"))
 geta:∀ c<6,findIn C.K (.ref (C.cl c)) "__getattr__"=some none
 dict:∀ c<6,hasDictIn C.K (C.cl c)=true
 set:∀ c<6,findIn C.K (.ref (C.cl c)) "__setattr__"=some (some (.builtin "object.__setattr__"))
 over:∀ c<6,plainOver C.K (C.cl c)=true
 fld:∀ c<6,∀ f∈flds c,findIn C.K (.ref (C.cl c)) (fname f)=some none
 meth:∀ c m f,mt c m=some f→findIn C.K (.ref (C.cl c)) (mname m)=some (some (.ref (C.fn f)))∧typeIn C.K (.ref (C.fn f))=some (.type "function")
 make:∀ c<6,makesIn C.K (C.cl c)=true
section
variable {C:Cx} {st:St} {s:Shared} {A:Around}
theorem WR.inK {h:Heap} (W:WR C st h):C.K.In h:=C.inK.keeps W.keep
theorem isInst {a:Addr} {c:Nat} {fs:List (Nat×V)} (W:WR C st s.heap) (e:st a=some (.inst c fs)):∃ d ds n,s.heap.get? a=some (instObj (C.cl c) d)∧s.heap.get? d=some (dicO ds n)∧st d=some (.aux a)∧FsR C st s.heap fs ds ∧
  (∀ p∈fs,(flds c).contains p.1=true)∧fs.length<100∧InstAt s.heap a (instObj (C.cl c) d) (C.cl c) (some (dicO ds n)):=by
 refine ex3 ((W.obj a _ e).2) fun d ds n zq0=>?_;have e1:=zq0.1;have e2:=zq0.2.1;have e3:=zq0.2.2.1;have e4:=zq0.2.2.2.1;have e5:=zq0.2.2.2.2.1;have e6:=zq0.2.2.2.2.2;clear zq0
 exact ⟨d,ds,n,e1,e2,e3,e4,e5,e6,⟨e1,rfl,rfl,e2⟩⟩
theorem VR.handed {h:Heap} {x:V} {v:Value} (e:VR st h x v):handedIn v=true :=
 e.shape (m:=fun _ v=>handedIn v=true) rfl (fun _=>rfl) (fun _ _=>rfl) (fun _ _=>rfl) (fun _ _ _=>rfl) (fun _ _=>rfl) (fun _=>rfl) (fun _ _=>rfl) fun _ _ _ _=>rfl
theorem isStr_same (x:Str) (t:Tok):(Value.str x t).isStr x=true:=by simp [Value.isStr]
theorem isStr_ne {x y:Str} (t:Tok) (h:y≠x):(Value.str y t).isStr x=false:=by simp [Value.isStr,h]
theorem FsR.length {h:Heap}:∀ {fs:List (Nat×V)} {ds:List DictEntry},FsR C st h fs ds→ds.length=fs.length
 | [],_,e=>by simp only [FsR] at e;subst e;rfl
 | (k,x)::r,_,⟨t,v,r',e1,e2,e3⟩=>by subst e1;simp [e3.length]
theorem FsR.noRef {h:Heap}:∀ {fs:List (Nat×V)} {ds:List DictEntry},FsR C st h fs ds→ds.any (·.refKey)=false
 | [],_,e=>by simp only [FsR] at e;subst e;rfl
 | (k,x)::r,_,⟨t,v,r',e1,e2,e3⟩=>by subst e1;rw [List.any_cons,e3.noRef];rfl
theorem FsR.find {h:Heap} {f:Nat} (hf:f<24):∀ {fs:List (Nat×V)} {ds:List DictEntry},(∀ p∈fs,p.1<24)→FsR C st h fs ds→match fget f fs with
  | some x=>∃ v,getL (fname f) ds=some (some v)∧VR st h x v
  | none=>getL (fname f) ds=some none
 | [],_,_,e=>by simp only [FsR] at e;subst e;simp [fget,getL]
 | (j,x)::r,_,hb,⟨t,v,r',e1,e2,e3⟩=>by
  subst e1
  have ih:=FsR.find hf (fun p hp=>hb p (List.mem_cons_of_mem _ hp)) e3
  unfold fget
  by_cases hj:j=f
  ·subst hj
   rw [if_pos rfl]
   exact ⟨v,by simp [getL,List.find?_cons,isStr_same],e2⟩
  ·rw [if_neg hj]
   have hn:fname j≠fname f:=fun e=>hj (fname_inj j (hb _ (List.mem_cons_self ..)) f hf e)
   have hq:∀ rr:List DictEntry,getL (fname f) (⟨PyData.keyHash C.w.params (fname j),.str (fname j) t,v⟩::rr)=getL (fname f) rr:=fun rr=>by
    unfold getL
    have hk:DictEntry.refKey ⟨PyData.keyHash C.w.params (fname j),.str (fname j) t,v⟩=false:=rfl
    rw [List.find?_cons,List.any_cons,hk,Bool.false_or,isStr_ne t hn]
   rw [hq];exact ih
theorem FsR.shadow {h:Heap} {x:Str}:∀ {fs:List (Nat×V)} {ds:List DictEntry},(∀ p∈fs,fname p.1≠x)→FsR C st h fs ds→getL x ds=some none
 | [],_,_,e=>by simp only [FsR] at e;subst e;simp [getL]
 | (j,y)::r,_,hb,⟨t,v,r',e1,e2,e3⟩=>by
  subst e1
  have ih:=FsR.shadow (fun p hp=>hb p (List.mem_cons_of_mem _ hp)) e3
  unfold getL at ih ⊢
  have hk:DictEntry.refKey ⟨PyData.keyHash C.w.params (fname j),.str (fname j) t,v⟩=false:=rfl
  rw [List.find?_cons,List.any_cons,hk,Bool.false_or,isStr_ne t (hb _ (List.mem_cons_self ..))]
  exact ih
theorem attr_ok (K0:ClsOk C) {P:V→St→Prop} {o:V} {f:Nat} {a:Value} {expr:Bool} (W:WR C st s.heap) (ha:VR st s.heap o a) (p:attrW o f st P):wpAny C.M A (getAttr a (fname f) expr) (EP C st s P) NoE s:=by
 unfold attrW at p
 refine ex1 (onR_ok ha p) fun r zq0=>?_;obtain rfl:=zq0.1;obtain rfl:=zq0.2.1;have p:=zq0.2.2;clear zq0
 unfold attrR at p
 split at p
 ·rename_i c fs e
  have p1:=p.1;refine ex1 p.2 fun x zq0=>?_;have p2:=zq0.1;have p3:=zq0.2;clear zq0 p
  have zq0:=flds_any p1;have hc:=zq0.1;have hf:=zq0.2;clear zq0
  refine ex3 (isInst W e) fun d ds n zq0=>?_;have e1:=zq0.1;have e2:=zq0.2.1;have e3:=zq0.2.2.1;have e4:=zq0.2.2.2.1;have e5:=zq0.2.2.2.2.1;have e6:=zq0.2.2.2.2.2.1;have I:=zq0.2.2.2.2.2.2;clear zq0
  have q:=e4.find hf (fun p hp=>(flds_any (e5 p hp)).2)
  rw [p2] at q
  refine ex1 q fun v zq0=>?_;have q1:=zq0.1;have q2:=zq0.2;clear zq0 q
  refine get_value W.inK I (K0.get c hc) (findObj_own (K0.dict c hc) (K0.fld c hc f (by simpa using p1)) rfl (by rw [lookIn_dict];exact q1)) q2.handed (EP.num W rfl q2 p3)
 ·exact p.elim
theorem meth_ok (K0:ClsOk C) {c m f:Nat} {fs:List (Nat×V)} {r:Addr} {pl:Sem Bool} {Q:Value×List Value→Shared→Prop} (W:WR C st s.heap) (e:st r=some (.inst c fs)) (hm:mt c m=some f)
  (h:Q (.ref (C.fn f),[.ref r]) s):wpAny C.M A (getMethod (.ref r) (mname m) pl) Q NoE s:=by
 have zq0:=mt_lt hm;have hc:=zq0.1;have hm':=zq0.2;clear zq0
 refine ex3 (isInst W e) fun d ds n zq0=>?_;have e1:=zq0.1;have e2:=zq0.2.1;have e3:=zq0.2.2.1;have e4:=zq0.2.2.2.1;have e5:=zq0.2.2.2.2.1;have e6:=zq0.2.2.2.2.2.1;have I:=zq0.2.2.2.2.2.2;clear zq0
 have zq0:=K0.meth c m f hm;have k1:=zq0.1;have k2:=zq0.2;clear zq0
 refine method_fn W.inK I (K0.get c hc) (K0.geta c hc) k1 k2 ?_ h
 show (lookIn (mname m) (dictOf ds n)).map _=_
 rw [lookIn_dict,FsR.shadow (fun p hp=>meth_field c hc m hm' (by rw [hm];rfl) p.1 (by simpa using e5 p hp)) e4];rfl
theorem nsSet_at {x:Str} {v:Value} {d:Addr} {ds:List DictEntry} {n:Nat} {Q:Unit→Shared→Prop} (hd:s.heap.get? d=some (dicO ds n)) (hr:ds.any (·.refKey)=false)
  (h:Q () { s with heap:=s.heap.update d (Obj.putName x (PyData.keyHash C.w.params x) (.str x s.toks) v),toks:=s.toks+1 }):wpAny C.M A (nsSet d x v) Q NoE s:=by
 unfold nsSet
 refine wpAny_bind (wpAny_bind (wpAny_askSetting (wpAny_pure (wpAny_bind (wpAny_mkText (wpAny_bind (wpAny_loadPart hd ?_)))))))
 dsimp only
 have c:(!(ds.toArray).any (·.key.isStr x)&&(ds.toArray).any (·.refKey))=false:=by
  rw [← Array.any_toList (p:=fun e:DictEntry=>e.refKey),List.toList_toArray,hr,Bool.and_false]
 rw [aRefKeyMayBeTheName_at,c]
 exact wpAny_updatePart hd h
theorem putL_len {x:Str} {k:Int} {key v:Value} (es:List DictEntry):(putL x k key v es).length≤es.length+1:=by
 induction es with
 | nil=>simp [putL]
 | cons a r ih=>unfold putL;split <;> simp <;> exact oz21 ih
theorem FsR.put {h:Heap} {f:Nat} {x:V} {v:Value} {t:Tok} (hf:f<24) (e:VR st h x v):∀ {fs:List (Nat×V)} {ds:List DictEntry},(∀ p∈fs,p.1<24)→FsR C st h fs ds →
  FsR C st h (fset f x fs) (putL (fname f) (PyData.keyHash C.w.params (fname f)) (.str (fname f) t) v ds)
 | [],_,_,q=>by simp only [FsR] at q;subst q;exact ⟨t,v,[],rfl,e,rfl⟩
 | (j,y)::r,_,hb,⟨t',u,r',e1,e2,e3⟩=>by
  subst e1
  have ih:=FsR.put (t:=t) hf e (fun p hp=>hb p (List.mem_cons_of_mem _ hp)) e3
  unfold fset putL
  by_cases hj:j=f
  ·subst hj
   rw [if_pos rfl,if_pos (isStr_same ..)]
   exact ⟨t',v,r',rfl,e,e3⟩
  ·have hn:fname j≠fname f:=fun z=>hj (fname_inj j (hb _ (List.mem_cons_self ..)) f hf z)
   rw [if_neg hj,if_neg (by rw [isStr_ne t' hn];simp)]
   exact ⟨t',u,_,rfl,e2,ih⟩
theorem fset_mem {f:Nat} {x:V} {Q:Nat→Prop} (hf:Q f):∀ {fs:List (Nat×V)},(∀ p∈fs,Q p.1)→∀ p∈fset f x fs,Q p.1
 | [],_,p,m=>by simp [fset] at m;subst m;exact hf
 | (j,y)::r,h,p,m=>by
  unfold fset at m
  split at m
  ·rcases List.mem_cons.mp m with rfl | m
   ·exact h (j,y) (List.mem_cons_self ..)
   ·exact h _ (List.mem_cons_of_mem _ m)
  ·rcases List.mem_cons.mp m with rfl | m
   ·exact h _ (List.mem_cons_self ..)
   ·exact fset_mem hf (fun p hp=>h p (List.mem_cons_of_mem _ hp)) p m
theorem fset_len {f:Nat} {x:V}:∀ fs:List (Nat×V),(fset f x fs).length≤fs.length+1
 | []=>by simp [fset]
 | (j,y)::r=>by
  unfold fset
  split
  ·simp
  ·have:=fset_len (f:=f) (x:=x) r
   simp;exact oz21 this
noncomputable def UQ (C:Cx) (st:St) (s:Shared) (P:St→Prop):Unit→Shared→Prop:=fun _ s'=>∃ st',WR C st' s'.heap∧Step [] st s st' s'∧P st'
theorem setAttr_ok (K0:ClsOk C) {P:St→Prop} {o x:V} {f:Nat} {a v:Value} (W:WR C st s.heap) (ha:VR st s.heap o a) (hv:VR st s.heap x v) (p:setAttrW o f x st P):wpAny C.M A (setAttr a (fname f) v) (UQ C st s P) NoE s:=by
 unfold setAttrW at p
 refine ex1 (onR_ok ha p) fun r zq0=>?_;obtain rfl:=zq0.1;obtain rfl:=zq0.2.1;have p:=zq0.2.2;clear zq0
 ·unfold setAttrR at p
  split at p
  ·rename_i c fs e
   have p1:=p.1;have p2:=p.2.1;have p3:=p.2.2;clear p
   have zq0:=flds_any p1;have hc:=zq0.1;have hf:=zq0.2;clear zq0
   refine ex3 (isInst W e) fun d ds n zq0=>?_;have e1:=zq0.1;have e2:=zq0.2.1;have e3:=zq0.2.2.1;have e4:=zq0.2.2.2.1;have e5:=zq0.2.2.2.2.1;have e6:=zq0.2.2.2.2.2.1;have I:=zq0.2.2.2.2.2.2;clear zq0
   have hlt:∀ p∈fs,p.1<24:=fun p hp=>(flds_any (e5 p hp)).2
   have hdl:=e4.length
   refine set_plain W.inK I (K0.set c hc) (osa_open (s:={ s with toks:=s.toks+1 }) W.inK I (K0.over c hc) (r:=none) (by unfold takerIn;rw [K0.fld c hc f (by simpa using p1)];rfl) fun b=>?_)
   refine ex1 (any_some (K0.dict c hc)) fun cd zq0=>?_;have hcd:=zq0.1;have hd':=zq0.2;clear zq0
   refine wpAny_bind (wpAny_pure (wpAny_bind (wpAny_bind (wpAny_loadPart e1 (wpAny_bind (Looks.here (s:={ s with toks:=s.toks+1 }) (looks_clsIn W.inK hcd) ?_))))))
   rw [hd']
   refine wpAny_pure (a:=some d) (wpAny_bind (wpAny_pure (wpAny_bind ?_)))
   refine wpAny_mono (nsSet_at (C:=C) (s:={ s with toks:=s.toks+1 }) (Q:=fun _ s'=>s'={ s with heap:=s.heap.update d (Obj.putName (fname f) (PyData.keyHash C.w.params (fname f)) (.str (fname f) (s.toks+1)) v),toks:=s.toks+1+1 }) e2 e4.noRef rfl) (fun _ s' hs'=>?_) fun _ _ h=>h.elim
   subst hs'
   have hpn:Obj.putName (fname f) (PyData.keyHash C.w.params (fname f)) (.str (fname f) (s.toks+1)) v (dicO ds n)=dicO (putL (fname f) (PyData.keyHash C.w.params (fname f)) (.str (fname f) (s.toks+1)) v ds) (putN (fname f) ds n):=putName_dict ..
   have hnew:(s.heap.update d (Obj.putName (fname f) (PyData.keyHash C.w.params (fname f)) (.str (fname f) (s.toks+1)) v)).get? d=some (dicO (putL (fname f) (PyData.keyHash C.w.params (fname f)) (.str (fname f) (s.toks+1)) v ds) (putN (fname f) ds n)):=by
    rw [← hpn];exact Heap.get?_update_self _ e2 (by rw [hpn];rfl)
   have hs:Heap.SameBut d s.heap (s.heap.update d (Obj.putName (fname f) (PyData.keyHash C.w.params (fname f)) (.str (fname f) (s.toks+1)) v)):=Heap.SameBut.update ..
   have hdr:d≠r:=by rintro rfl;rw [e] at e3;cases e3
   have hstep:Step [] st s (st.set r (.inst c (fset f x fs))) { s with heap:=s.heap.update d (Obj.putName (fname f) (PyData.keyHash C.w.params (fname f)) (.str (fname f) (s.toks+1)) v),toks:=s.toks+1+1 } :=
    Step.change hs (by rw [e];simp) (by rw [e3];simp) (by rw [hnew];simp)
   refine wpAny_bind (wpAny_lookBehind hnew (pastItsLine_dict (by rw [List.size_toArray,sizeLine_eq];have:=putL_len (x:=fname f) (k:=PyData.keyHash C.w.params (fname f)) (key:=.str (fname f) (s.toks+1)) (v:=v) ds;exact oz22 p2 hdl this)) (wpAny_pure ?_))
   refine ⟨st.set r (.inst c (fset f x fs)),W.change hs (by rw [e];simp) (fun b=>by rw [e];simp) (.inr e3) (fun b=>by simp) (by rw [hnew];simp) (by rw [e3];simp) ?_,hstep,p3⟩
   refine ⟨d,_,_,(hs.2 r (Ne.symm hdr)).trans e1,hnew,by rw [St.set_other _ _ hdr];exact e3,?_,fset_mem (Q:=fun q=>(flds c).contains q=true) p1 e5,by have:=fset_len (f:=f) (x:=x) fs;exact oz23 p2 this⟩
   exact FsR.put hf (hstep.vr hv) hlt (e4.mono fun y u q=>hstep.vr q)
  ·exact p.elim
end
set_option linter.unusedSimpArgs false
section
variable {C:Cx} {st:St} {s:Shared} {A:Around}
theorem intsAre:∀ {l:List V} {ns:List Int} {vs:List Value} {h:Heap},intsOf l=some ns→VRs st h l vs→IntsAre vs ns
 | [],ns,vs,h,e,r=>by
  simp only [intsOf,Option.some.injEq] at e
  subst e
  obtain rfl:=r;exact .nil
 | x::xs,ns,vs,h,e,r=>by
  refine ex2 r fun v vs' zq0=>?_;obtain rfl:=zq0.1;have r1:=zq0.2.1;have r2:=zq0.2.2;clear zq0 r
  have hx:∃ i,x=.int i:=by cases x <;> first | exact ⟨_,rfl⟩ | (simp [intsOf] at e)
  obtain ⟨i,rfl⟩:=hx
  simp only [intsOf] at e
  obtain ⟨t,rfl⟩:=r1.isInt
  refine ex1 (Option.map_eq_some_iff.mp e) fun ms zq0=>?_;have q:=zq0.1;obtain rfl:=zq0.2;clear zq0
  exact .cons i t (intsAre q r2)
theorem IntsAre.vrs {h:Heap}:∀ {vs:List Value} {ns:List Int},IntsAre vs ns→VRs st h (ns.map .int) vs
 | _,_,.nil=>rfl
 | _,_,.cons n t r=>by rw [List.map_cons];exact .cons .mkInt (IntsAre.vrs r)
theorem EP.keep {P:V→St→Prop} {h':Heap} {tk:Nat} (W:WR C st s.heap) (k:∀ b o,s.heap.get? b=some o→h'.get? b=some o) {x:V} {v:Value} (x2:VR st h' x v) (p:P x st):EP C st s P v { s with heap:=h',toks:=tk } :=
 ⟨x,st,W.all k,Step.all k,x2,p⟩
theorem listSet {a:Addr} {l m:List V} {vs us:List Value} {n n':Nat} {f:Array Value→Array Value} (W:WR C st s.heap) (e:st a=some (.list l)) (h1:s.heap.get? a=some (seqO "list" vs n))
  (hf:Obj.mapSeq f (seqO "list" vs n)=seqO "list" us n') (hm:∀ st' h',(∀ x v,VR st s.heap x v→VR st' h' x v)→VRs st' h' m us) (hz:m.length≤1100000) :
  WR C (st.set a (.list m)) (s.heap.update a (Obj.mapSeq f))∧∀ tk,Step [] st s (st.set a (.list m)) { s with heap:=s.heap.update a (Obj.mapSeq f),toks:=tk }:=by
 have hnew:(s.heap.update a (Obj.mapSeq f)).get? a=some (seqO "list" us n'):=by rw [← hf];exact Heap.get?_update_self _ h1 (by rw [hf];rfl)
 have hs:Heap.SameBut a s.heap (s.heap.update a (Obj.mapSeq f)):=Heap.SameBut.update ..
 have hst:∀ tk,Step [] st s (st.set a (.list m)) { s with heap:=s.heap.update a (Obj.mapSeq f),toks:=tk }:=fun tk=>Step.change hs (by rw [e];simp) (by rw [e];simp) (by rw [hnew];simp)
 refine ⟨W.change hs (by rw [e];simp) (fun b=>by rw [e];simp) (.inl rfl) (fun b=>by simp) (by rw [hnew];simp) (by rw [e];simp) ⟨us,n',hnew,hm _ _ fun x v h=>(hst 0).vr h,hz⟩,hst⟩
theorem mapSeq_seqO (f:Array Value→Array Value) (vs us:List Value) (n:Nat) (hf:f vs.toArray=us.toArray):∃ n',Obj.mapSeq f (seqO "list" vs n)=seqO "list" us n':=by
 exact ⟨_,by show Obj.mk _ _ (Data.seq (f vs.toArray) _) _=_;rw [hf]⟩
theorem append_ok {P:V→St→Prop} {a:Addr} {x:V} {v:Value} {l:List V} (W:WR C st s.heap) (e:st a=some (.list l)) (hv:VR st s.heap x v) (hz:l.length<1000000) (p:P .none (st.set a (.list (l++[x])))) :
  wpAny C.M A (call (.builtin "list.append") [.ref a,v]) (EP C st s P) NoE s:=by
 refine ex2 (isList W e) fun vs n zq0=>?_;have e1:=zq0.1;have e2:=zq0.2.1;have e3:=zq0.2.2.1;have e4:=zq0.2.2.2.1;have e5:=zq0.2.2.2.2;clear zq0
 obtain ⟨n',hf⟩:=mapSeq_seqO (·.push v) vs (vs++[v]) n (by simp)
 refine wpAny_call_entry slot_list_append e2.typeIs entry_list_append ?_ (args_list_append _ _)
 show wpAny _ _ (updateSeq a (·.push v) >>= fun _=>ret .none) _ _ s
 refine wpAny_bind (wpAny_updateSeq e1 rfl (wpAny_pure ⟨.none,rfl,?_⟩) (by rw [List.size_toArray,sizeLine_eq];exact oz24 hz e5) (by simp only [Array.size_push,List.size_toArray];rw [sizeLine_eq];exact oz25 hz e5))
 obtain ⟨w1,w2⟩:=listSet (m:=l++[x]) W e e1 hf (fun st' h' f=>VRs.app (VRs.iff.mpr ⟨e5.symm,fun i y u hy hu=>f _ _ ((VRs.iff.mp e3).2 i y u hy hu)⟩) (VRs.one (f _ _ hv))) (by simp;exact oz26 hz)
 exact ⟨.none,_,w1,w2 _,rfl,p⟩
theorem dset_len (k:Int) (x:V):∀ es:List (Int×V),(dset k x es).length≤es.length+1
 | []=>by simp [dset]
 | (j,y)::r=>by
  unfold dset
  split
  ·simp
  ·have:=dset_len k x r
   simp;exact oz21 this
theorem stored_cons {j k:Int} {u v:Value} {r:List (Int×Value)} (h:j≠k):stored ((j,u)::r) k v=(j,u)::stored r k v:=by
 unfold stored
 simp only [List.any_cons,h,decide_false,Bool.false_or,List.map_cons,if_false]
 split <;> simp
theorem DP.store {h:Heap} {x:V} {v:Value} (k:Int) (hv:VR st h x v):∀ {es:List (Int×V)} {kvs:List (Int×Value)},DP st h es kvs→(kvs.map (·.1)).Nodup→DP st h (dset k x es) (stored kvs k v)
 | [],_,e,_=>by simp only [DP] at e;subst e;exact ⟨v,[],by simp [stored],hv,rfl⟩
 | (j,y)::r,_,⟨u,r',e1,e2,e3⟩,nd=>by
  subst e1
  unfold dset
  rw [List.map_cons,List.nodup_cons] at nd
  by_cases hj:j=k
  ·subst hj
   rw [if_pos rfl]
   refine ⟨v,r',?_,hv,e3⟩
   have hn:∀ kv∈r',kv.1≠j:=fun kv hm e=>nd.1 (List.mem_map.mpr ⟨kv,hm,e⟩)
   unfold stored
   rw [if_pos (by simp)]
   simp only [List.map_cons,if_true,List.cons.injEq,true_and]
   exact List.map_congr_left (g:=id) (fun kv hm=>by simp [hn kv hm]) |>.trans (List.map_id r')
  ·rw [if_neg hj,stored_cons hj]
   exact ⟨u,_,rfl,e2,DP.store k hv e3 nd.2⟩
theorem setItem_list_at {r:Addr} {vs:List Value} {n:Nat} {k:Int} {t:Tok} {v:Value} {Q:Unit→Shared→Prop} (e1:s.heap.get? r=some (seqO "list" vs n)) (h0:0≤k) (hfit:k<2^63) (hn:k.toNat<vs.length)
  (hQ:∀ n',Obj.mapSeq (·.setIfInBounds k.toNat v) (seqO "list" vs n)=seqO "list" (vs.set k.toNat v) n'→Q () { s with heap:=s.heap.update r (Obj.mapSeq (·.setIfInBounds k.toNat v)) }) :
  wpAny C.M A (setItem (.ref r) (.int k t) v) Q NoE s:=by
 have hl:s.heap.IsList r vs.toArray:=⟨_,e1,rfl,n,rfl⟩
 unfold setItem
 try with_reducible refine wpAny_holding ?_
 first | refine wpAny_bind (wpAny_pure ?_) | skip
 refine wpAny_bind (wpAny_sequenceKey hl.typeIs (by decide) ?_)
 refine wpAny_bind (wpAny_callSpecial?_slot (name:=Str.ofString "__setitem__") hl.typeIs slot_list_setitem
  (wpAny_call_entry slot_list_setitem hl.typeIs entry_list_setitem ?_ (args_list_setitem _ _ _)))
 show wpAny _ _ (Builtin.List.listSubscript? (.int k t) >>= _) _ _ s
 refine wpAny_bind (wpAny_listSubscript_int (fitsIndex_of h0 hfit) ?_)
 clear hfit
 obtain ⟨j,rfl⟩:=Int.eq_ofNat_of_zero_le h0
 have hj:j<vs.toArray.size:=by simpa using hn
 have hx':vs.toArray[j]?=some vs.toArray[j]:=Array.getElem?_eq_getElem hj
 show wpAny _ _ ((seqItemAt r j >>= fun r=>pure (r.map (j,·))) >>= _) _ _ s
 refine wpAny_bind (wpAny_bind (wpAny_seqItemAt e1 rfl (wpAny_pure ?_)))
 rw [hx']
 show wpAny _ _ (setSeqItemAt r j v >>= _) _ _ s
 obtain ⟨n',hf⟩:=mapSeq_seqO (·.setIfInBounds j v) vs (vs.set j v) n (by simp)
 refine wpAny_bind (wpAny_setSeqItemAt e1 rfl ?_)
 first
  | exact wpAny_bind (wpAny_pure (wpAny_pure ⟨.none,rfl,wpAny_pure (hQ _ hf)⟩))
  | exact wpAny_pure ⟨.none,rfl,wpAny_pure (hQ _ hf)⟩
theorem setItem_ok {P:St→Prop} {o i x:V} {a b v:Value} (W:WR C st s.heap) (ha:VR st s.heap o a) (hb:VR st s.heap i b) (hv:VR st s.heap x v) (p:setItemW o i x st P):wpAny C.M A (setItem a b v) (UQ C st s P) NoE s:=by
 unfold setItemW at p
 refine ex1 (onR_ok ha p) fun r zq0=>?_;obtain rfl:=zq0.1;obtain rfl:=zq0.2.1;have p:=zq0.2.2;clear zq0
 refine ex2 (onI_ok hb p) fun i t zq0=>?_;obtain rfl:=zq0.1;obtain rfl:=zq0.2.1;have p:=zq0.2.2;clear zq0
 ·unfold setItemR at p
  split at p
  ·rename_i l e
   have h1:=p.1;have h2:=p.2.1;have p2:=p.2.2;clear p
   refine ex2 (isList W e) fun vs n zq0=>?_;have e1:=zq0.1;have e2:=zq0.2.1;have e3:=zq0.2.2.1;have e4:=zq0.2.2.2.1;have e5:=zq0.2.2.2.2;clear zq0
   ·refine setItem_list_at (v:=v) e1 h1 (by omega) (by rw [e5];exact oz27 h2) fun n' hf=>?_
    obtain ⟨w1,w2⟩:=listSet (m:=l.set i.toNat x) W e e1 hf (fun st' h' f=>VRs.set (f _ _ hv) _ (VRs.iff.mpr ⟨e5.symm,fun i y u hy hu=>f _ _ ((VRs.iff.mp e3).2 i y u hy hu)⟩)) (by simp;exact oz28 e4)
    exact ⟨_,w1,w2 _,p2⟩
  ·rename_i es n e
   have p1:=p.1;have p2:=p.2;clear p
   refine ex1 (isDict W e) fun kvs zq0=>?_;have e1:=zq0.1;have e2:=zq0.2.1;have e3:=zq0.2.2.1;have e4:=zq0.2.2.2;clear zq0
   have hl:=e2.length
   refine wpAny_setItem_pairs (hsz:=by rw [hl,sizeLine_eq];exact oz29 p1) (intKind_is i t) e1.dictOf fun h' hd hs=>?_
   refine ex1 (hd.dictAt) fun n' hd'=>?_
   have hl':h'.get? r≠none:=by obtain ⟨ob,_,z,_⟩:=hd';rw [z];simp
   have hst:∀ tk,Step [] st s (st.set r (.dict (dset i x es) n')) { s with heap:=h',toks:=tk }:=fun tk=>Step.change hs (by rw [e];simp) (by rw [e];simp) hl'
   refine ⟨_,W.change (o:=.dict (dset i x es) n') hs (by rw [e];simp) (fun b=>by rw [e];simp) (.inl rfl) (fun b=>by simp) hl' (by rw [e];simp) ⟨_,hd',?_,?_⟩,hst _,p2 n'⟩
   ·exact DP.store i ((hst 0).vr hv) (DP.mono (fun y u q=>(hst 0).vr q) e2) e1.nodup
   ·have:=dset_len i x es;exact oz30 p1 this
  ·exact p.elim
end
section
variable {C:Cx} {st:St} {s:Shared} {A:Around}
noncomputable def bmName:Bm→Str
 | .append=>"append" | .get=>"get" | .count=>"count" | .bitLen=>"bit_length"
noncomputable def bmId:Bm→String
 | .append=>"list.append" | .get=>"dict.get" | .count=>"list.count" | .bitLen=>"int.bit_length"
theorem bmK_ok {m:Bm} {o:V} {a:Value} {pl:Sem Bool} {Q:Value×List Value→Shared→Prop} {E:Value→Shared→Prop} (W:WR C st s.heap) (ha:VR st s.heap o a) (p:bmK m o st) (q:Q (.builtin (bmId m),[a]) s) :
  wpAny C.M A (getMethod a (bmName m) pl) Q E s:=by
 have lst:∀ {r:Addr} {name:Str} {id:String},(∃ l,st r=some (.list l))→Slot "list" name id→typeOf (.builtin id)=pure (.type "method_descriptor")→Q (.builtin id,[.ref r]) s→wpAny C.M A (getMethod (.ref r) name pl) Q E s:=by
  rintro r name id ⟨l,e⟩ sl ty h
  refine ex2 (isList W e) fun vs n zq0=>?_;have e1:=zq0.1;have e2:=zq0.2.1;clear zq0
  exact getMethod_list_of sl ty e2 ⟨_,e1,rfl⟩ h
 have ils:∀ {r:Addr},isLs r st→∃ l,st r=some (.list l):=fun {r} h=>by
  unfold isLs at h
  split at h
  ·rename_i l e;exact ⟨l,e⟩
  ·exact h.elim
 unfold bmK at p
 cases m with
 | append=>obtain ⟨r,rfl,rfl,p⟩:=onR_ok ha p;exact lst (ils p) slot_list_append type_list_append q
 | count=>obtain ⟨r,rfl,rfl,p⟩:=onR_ok ha p;exact lst (ils p) F.slot_list_count F.type_list_count q
 | get =>
  refine ex1 (onR_ok ha p) fun r zq0=>?_;obtain rfl:=zq0.1;obtain rfl:=zq0.2.1;have p:=zq0.2.2;clear zq0
  unfold isDc at p
  split at p
  ·rename_i es n e
   refine ex1 (isDict W e) fun kvs zq0=>?_;have e1:=zq0.1;have e2:=zq0.2.1;have e3:=zq0.2.2.1;have e4:=zq0.2.2.2;clear zq0
   exact getMethod_builtin e4.typeIs PySem.F.plainAttrs_dict F.slot_dict_get F.type_dict_get e4.noDict q
  ·exact p.elim
 | bitLen=>obtain ⟨i,t,rfl,rfl,p⟩:=onI_ok ha p;exact getMethod_int_bit_length q
theorem count_data {vs:List Value} {xs:List PyData} {as:List Addr} {d:PyData} {h:Heap} (rs:ReadsAll h vs xs as) (hxs:PyData.canLayAll0 xs=true) :
  vs.countP (fun y=>PyData.eqv (SeqAt.readOf h y) d)=xs.countP (fun y=>PyData.eqv y d):=by
 rw [← SeqAt.readsAll_map xs _ _ hxs rs,List.countP_map];rfl
theorem bm_ok {k:Nat} {P:V→St→Prop} {m:Bm} {o:V} {a:Value} {vs:List V} {us:List Value} (g:Good A k) (W:WR C st s.heap) (ha:VR st s.heap o a) (hv:VRs st s.heap vs us) (p:bmW m o vs st P) :
  wpAny C.M A (call (.builtin (bmId m)) (a::us)) (EP C st s P) NoE s:=by
 have hgu:=g.u
 unfold bmW at p
 cases m with
 | append =>
  refine ex1 (onR_ok ha p) fun r zq0=>?_;obtain rfl:=zq0.1;obtain rfl:=zq0.2.1;have p:=zq0.2.2;clear zq0
  refine ex2 (on1_ok hv p) fun x v zq0=>?_;obtain rfl:=zq0.1;obtain rfl:=zq0.2.1;have v1:=zq0.2.2.1;have p:=zq0.2.2.2;clear zq0
  unfold appendR at p
  split at p
  ·rename_i l e
   exact append_ok W e v1 p.1 p.2
  ·exact p.elim
 | get =>
  refine ex1 (onR_ok ha p) fun r zq0=>?_;obtain rfl:=zq0.1;obtain rfl:=zq0.2.1;have p:=zq0.2.2;clear zq0
  cases vs with
  | nil=>exact p.elim
  | cons kv vs =>
  obtain ⟨v,r',rfl,v1,hv⟩:=hv
  obtain ⟨d,w,rfl,rfl,v2,p⟩:=on1_ok hv p
  refine ex2 (onI_ok v1 p) fun k t zq0=>?_;obtain rfl:=zq0.1;obtain rfl:=zq0.2.1;have p:=zq0.2.2;clear zq0
  unfold getR at p
  split at p
  ·rename_i es n e
   refine ex1 (isDict W e) fun kvs zq0=>?_;have e1:=zq0.1;have e2:=zq0.2.1;have e3:=zq0.2.2.1;have e4:=zq0.2.2.2;clear zq0
   have hr:st r≠none:=by rw [e];simp
   refine call_meetsIn PySem.F.slot_dict_get e4.typeIs PySem.F.entry_dict_get (PySem.F.args_dict_get_3 _ _ _) (meets_dict_get_default (intKind C.prog C.w) r (intKind_is k t) (notMods W hr) w) ⟨_,e4,?_⟩
   have hf:=e2.find k
   cases q:dget k es with
   | none=>rw [q] at hf p;rw [hf];exact EP.num W rfl v2 p
   | some x=>rw [q] at hf p;obtain ⟨u,f1,f2⟩:=hf;rw [f1];exact EP.num W rfl f2 p
  ·exact p.elim
 | count =>
  refine ex1 (onR_ok ha p) fun r zq0=>?_;obtain rfl:=zq0.1;obtain rfl:=zq0.2.1;have p:=zq0.2.2;clear zq0
  refine ex2 (on1_ok hv p) fun x v zq0=>?_;obtain rfl:=zq0.1;obtain rfl:=zq0.2.1;have v1:=zq0.2.2.1;have p:=zq0.2.2.2;clear zq0
  unfold countR at p
  split at p
  ·rename_i l e
   refine ex2 p fun d ds zq0=>?_;have p1:=zq0.1;have p2:=zq0.2.1;have p3:=zq0.2.2.1;have p4:=zq0.2.2.2.1;have p5:=zq0.2.2.2.2;clear zq0 p
   refine ex2 (isList W e) fun vs n zq0=>?_;have e1:=zq0.1;have e2:=zq0.2.1;have e3:=zq0.2.2.1;have e4:=zq0.2.2.2.1;have e5:=zq0.2.2.2.2;clear zq0
   refine ex1 (p1.reads W v1) fun as rd=>?_
   refine ex1 (p2.reads W e3) fun bs rl=>?_
   have c1:=SeqAt.canLay_of_shaped p3
   have c2:PyData.canLayAll0 ds=true:=SeqAt.canLay_of_shaped p4
   have d1:=SeqAt.depth_of_shaped p3
   have hm:A.units+1+min (PyData.depthAll ds) d.depth<cLine:=by
    have:min (PyData.depthAll ds) d.depth≤d.depth:=Nat.min_le_right _ _
    exact oz19 hgu d1
   refine call_meets F.slot_list_count e2.typeIs F.entry_list_count (F.args_list_count_2 _ _) (SeqAt.list_countAt r vs.toArray n none #[] v (fun y=>PyData.eqv (SeqAt.readOf s.heap y) d)) ⟨e1,SeqAt.items_eqAt (by simpa using rl) rd c2 c1 hm,?_⟩
   have hc:List.countP (fun y=>PyData.eqv (SeqAt.readOf s.heap y) d) vs.toArray.toList=ds.countP (fun y=>PyData.eqv y d):=count_data rl c2
   rw [hc]
   exact EP.num W rfl .mkInt p5
  ·exact p.elim
 | bitLen =>
  refine ex2 (onI_ok ha p) fun i t zq0=>?_;obtain rfl:=zq0.1;obtain rfl:=zq0.2.1;have p1:=zq0.2.2.1;have p2:=zq0.2.2.2;clear zq0
  subst p1
  subst hv
  exact call_int_bit_length (EP.num W rfl .mkInt p2)
end
section
variable {C:Cx} {st:St} {s:Shared} {A:Around}
theorem part_is {x:V} {v:Value} {lo:Option Int} {h:Heap} (hv:VR st h x v) (e:part x=some lo):IsPart v lo:=by
 cases x <;> simp only [part,Option.some.injEq,reduceCtorEq] at e
 ·subst e;obtain rfl:=hv;exact .none
 ·subst e;obtain ⟨t,rfl⟩:=hv.isInt;exact .int _ _
theorem cutL_map {α β:Type} (f:α→β) (l:List α) (lo hi:Option Int):(cutL l lo hi).map f=cutL (l.map f) lo hi:=by
 unfold cutL;rw [List.map_take,List.map_drop,List.length_map]
theorem cutL_len {α:Type} (l:List α) (lo hi:Option Int):(cutL l lo hi).length≤l.length:=by
 unfold cutL;rw [List.length_take,List.length_drop];exact oz31
theorem slc_ok {P:V→St→Prop} {o lo hi t:V} {a vl vu vs:Value} {sl:Addr} (W:WR C st s.heap) (ha:VR st s.heap o a) (hl:VR st s.heap lo vl) (hu:VR st s.heap hi vu) (ht:VR st s.heap t vs)
  (hs:s.heap.IsSliceOf sl vl vu vs) (p:slcW o lo hi t st P):wpAny C.M A (getItem a (.ref sl)) (EP C st s P) NoE s:=by
 have lst:∀ {r:Addr} {items:Array Value} {l:List V} {a b:Option Int},IsPart vl a→IsPart vu b→vs=.none→s.heap.IsList r items→VRs st s.heap l items.toList→l.length≤1100000→newW (.list (cutL l a b)) st P →
   wpAny C.M A (getItem (.ref r) (.ref sl)) (EP C st s P) NoE s:=fun {r items l a b} i1 i2 hv il vr hz p=>by
  subst hv
  have hlen:=vr.length
  rw [Array.length_toList] at hlen
  refine wpAny_getItem_list_slice il hs i1 i2 .none (by simp) ?_ (by rw [hlen,sizeLine_eq];exact oz32 hz)
  rw [slicePick_plain]
  have hc:(items.toList.drop (a.elim 0 (clipAt items.size))).take (b.elim items.size (clipAt items.size)-a.elim 0 (clipAt items.size))=cutL items.toList a b:=by unfold cutL;rw [Array.length_toList]
  rw [hc]
  have k:∀ b' o,s.heap.get? b'=some o→(s.heap.push { cls:=.type "list",data:=.seq (cutL items.toList a b).toArray }).get? b'=some o:=fun b o z=>Heap.get?_push_of_some _ z
  refine EP.new W p s.heap.objs.size (get?_ge (Nat.le_refl _)) k ⟨cutL items.toList a b,0,Heap.get?_push_size _ rfl,?_,Nat.le_trans (cutL_len ..) hz⟩
  have h3:=VRs.alloc (o:=.list (cutL l a b)) W k (get?_ge (Nat.le_refl _)) vr
  have h4:∀ {st':St} {h':Heap},VRs st' h' l items.toList→VRs st' h' (cutL l a b) (cutL items.toList a b):=fun h=>by
   have hl2:items.toList.length=l.length:=h.length
   simp only [cutL,hl2]
   exact (h.drop _).take _
  exact h4 h3
 unfold slcW at p
 split at p
 ·have hvs:vs=.none:=ht
  split at p
  ·rename_i l
   refine ex1 p fun m zq0=>?_;have p1:=zq0.1;have p2:=zq0.2;clear zq0 p
   refine ex2 ha fun bs t zq0=>?_;obtain rfl:=zq0.1;have q1:=zq0.2.1;have q2:=zq0.2.2;clear zq0 ha
   unfold cut at p1
   split at p1
   ·rename_i x y hx hy
    simp only [Option.some.injEq] at p1
    subst p1 hvs
    have hlen:bs.size=l.length:=by rw [← q1,List.length_map,Array.length_toList]
    refine getItem_meets (typeIs_bytes _ _ _) (by decide) FB.slot_bytes_getitem FB.entry_bytes_getitem (FB.args_bytes_getitem_2 _ _) (PySem.W.KBc.meets_slice2 bs t sl (part_is hl hx) (part_is hu hy)) ⟨hs,?_,fun t' k=>?_⟩
    ·have:=PySem.W.KBc.size_picked_le bs x y
     rw [sizeLine_eq];exact oz33 hlen q2 this
    ·refine EP.num W rfl ?_ p2
     refine ⟨_,_,rfl,?_,Nat.le_trans (cutL_len ..) q2⟩
     rw [PySem.W.KBc.picked_eq,← q1,← cutL_map]
     unfold cutL
     simp
   ·cases p1
  ·rename_i o' hne
   refine ex2 p fun l m zq0=>?_;have p1:=zq0.1;have p2:=zq0.2.1;have p3:=zq0.2.2.1;have p4:=zq0.2.2.2;clear zq0 p
   unfold cut at p3
   split at p3
   ·rename_i x y hx hy
    simp only [Option.some.injEq] at p3
    subst p3
    unfold itemsOf at p1
    split at p1
    ·exact absurd rfl (p2 _)
    ·simp only [Option.some.injEq] at p1
     subst p1
     refine ex4 ha fun r o us n zq0=>?_;obtain rfl:=zq0.1;have q1:=zq0.2.1;have q2:=zq0.2.2.1;have q3:=zq0.2.2.2.1;have q4:=zq0.2.2.2.2.1;have q5:=zq0.2.2.2.2.2.1;have q6:=zq0.2.2.2.2.2.2;clear zq0 ha
     exact lst (part_is hl hx) (part_is hu hy) hvs ⟨o,q2,q3,n,q4⟩ q5 q6 p4
    ·have zq0:=ha.isRef;obtain rfl:=zq0.1;clear zq0
     split at p1
     ·rename_i l' e
      simp only [Option.some.injEq] at p1
      subst p1
      refine ex2 (isList W e) fun us n zq0=>?_;have e1:=zq0.1;have e2:=zq0.2.1;have e3:=zq0.2.2.1;have e4:=zq0.2.2.2.1;have e5:=zq0.2.2.2.2;clear zq0
      exact lst (part_is hl hx) (part_is hu hy) hvs e2 (by simpa using e3) e4 p4
     ·cases p1
    ·cases p1
   ·cases p3
 ·obtain ⟨rfl,rfl,rfl,r,l,rfl,e,p⟩:=p
  obtain ⟨rfl,_⟩:=ha.isRef
  obtain ⟨us,n,e1,e2,e3,e4,e5⟩:=isList W e
  obtain ⟨t,rfl⟩:=ht.isInt
  refine wpAny_getItem_list_slice e2 hs (part_is hl rfl) (part_is hu rfl) (.int _ _) (by simp) ?_ (by rw [List.size_toArray,e5,sizeLine_eq];exact oz32 e4)
  rw [krv_pick]
  have k:∀ b' o,s.heap.get? b'=some o→(s.heap.push { cls:=.type "list",data:=.seq us.toArray.toList.reverse.toArray }).get? b'=some o:=fun b o z=>Heap.get?_push_of_some _ z
  refine EP.new W p s.heap.objs.size (get?_ge (Nat.le_refl _)) k ⟨us.reverse,0,Heap.get?_push_size _ rfl,?_,by rw [List.length_reverse];exact oz28 e4⟩
  exact (VRs.alloc W k (get?_ge (Nat.le_refl _)) e3).rev
 ·exact p.elim
noncomputable def biF:Bi→Value
 | .len=>.builtin "len" | .min_=>.builtin "min" | .max_=>.builtin "max" | .abs=>.builtin "abs" | .int_=>.type "int" | .sum=>.builtin "sum" | .sorted=>.builtin "sorted"
 | .bytes=>.type "bytes" | .list=>.type "list" | .tuple=>.type "tuple" | .dict=>.type "dict" | .range=>.type "range"
noncomputable def biName:Bi→String
 | .len=>"len" | .min_=>"min" | .max_=>"max" | .abs=>"abs" | .int_=>"int" | .sum=>"sum" | .sorted=>"sorted"
 | .bytes=>"bytes" | .list=>"list" | .tuple=>"tuple" | .dict=>"dict" | .range=>"range"
theorem ints_items:∀ {vs:List Value} {ns:List Int},IntsAre vs ns→∃ xs:List (Int×Tok),vs.toArray=intItems xs.toArray∧xs.map (·.1)=ns
 | _,_,.nil=>⟨[],by simp [intItems],rfl⟩
 | _,_,.cons n t r=>by
  refine ex1 (ints_items r) fun xs zq0=>?_;have e1:=zq0.1;have e2:=zq0.2;clear zq0
  refine ⟨(n,t)::xs,?_,by simp [e2]⟩
  have:=congrArg Array.toList e1
  apply Array.toList_inj.mp
  simp only [intItems,Array.toList_map] at this ⊢
  simpa using this
theorem argBest_min (f:Nat→Int):∀ k:Nat,argBest (fun i j=>decide (f i<f j)) k≤k∧∀ j,j≤k→f (argBest (fun i j=>decide (f i<f j)) k)≤f j
 | 0=>⟨Nat.le_refl _,fun j hj=>by rw [Nat.le_zero.mp hj];exact Int.le_refl _⟩
 | k+1=>by
  have zq0:=argBest_min f k;have h1:=zq0.1;have h2:=zq0.2;clear zq0
  unfold argBest
  by_cases hb:f (k+1)<f (argBest (fun i j=>decide (f i<f j)) k)
  ·simp only [hb,decide_true,if_true]
   refine ⟨Nat.le_refl _,fun j hj=>?_⟩
   rcases Nat.lt_or_ge j (k+1) with h | h
   ·have:=h2 j (by exact oz34 h);exact oz35 hb this
   ·have:j=k+1:=by exact oz36 h hj
    subst this;exact Int.le_refl _
  ·simp only [hb,decide_false,if_false,Bool.false_eq_true]
   refine ⟨by exact oz37 h1,fun j hj=>?_⟩
   rcases Nat.lt_or_ge j (k+1) with h | h
   ·exact h2 j (by exact oz34 h)
   ·have:j=k+1:=by exact oz36 h hj
    subst this;exact oz38 hb
theorem octsAre:∀ {l:List V} {ns:List Nat} {vs:List Value} {h:Heap},octs l=some ns→VRs st h l vs→IntsAre vs (ns.map fun (n:Nat)=>(n:Int))∧∀ n∈ns,n<256
 | [],ns,vs,h,e,r=>by
  simp only [octs,Option.some.injEq] at e
  subst e
  obtain rfl:=r;exact ⟨.nil,fun _ h=>nomatch h⟩
 | x::xs,ns,vs,h,e,r=>by
  refine ex2 r fun v vs' zq0=>?_;obtain rfl:=zq0.1;have r1:=zq0.2.1;have r2:=zq0.2.2;clear zq0 r
  have hx:∃ i,x=.int i:=by cases x <;> first | exact ⟨_,rfl⟩ | (simp [octs] at e)
  obtain ⟨i,rfl⟩:=hx
  simp only [octs] at e
  obtain ⟨t,rfl⟩:=r1.isInt
  split at e
  ·rename_i hi
   refine ex1 (Option.map_eq_some_iff.mp e) fun ms zq0=>?_;have q:=zq0.1;obtain rfl:=zq0.2;clear zq0
   have zq0:=octsAre q r2;have ih1:=zq0.1;have ih2:=zq0.2;clear zq0
   have:i=((i.toNat:Nat):Int):=by exact oz39 hi
   refine ⟨?_,fun n hn=>?_⟩
   ·rw [List.map_cons,← this];exact .cons i t ih1
   ·rcases List.mem_cons.mp hn with rfl | hn
    ·exact oz40 hi
    ·exact ih2 n hn
  ·cases e
noncomputable def BiLate (C:Cx):Prop:=∀ {st:St} {s:Shared} {A:Around} {k:Nat} {P:V→St→Prop} {b:Bi} {vs:List V} {us:List Value},Good A k→WR C st s.heap→VRs st s.heap vs us→biW b vs st P →
 (b=.sorted∨(b=.bytes∧∃ l,vs=[.bytes l])∨b=.list∨b=.dict)→wpAny C.M A (call (biF b) us) (EP C st s P) NoE s
theorem EP.range {P:V→St→Prop} {h':Heap} {tk:Nat} {r:Addr} {a b c:Int} {t u z:Tok} (W:WR C st s.heap) (hr:s.heap.get? r=none) (k:∀ b o,s.heap.get? b=some o→h'.get? b=some o) (hn:IsRange h' r a b c t u z) (p:P (.range a b c) st) :
  EP C st s P (.ref r) { s with heap:=h',toks:=tk }:=EP.keep W k (by exact ⟨r,t,u,z,rfl,W.fresh hr,hn⟩) p
theorem len_ok {P:V→St→Prop} {v:V} {a:Value} (W:WR C st s.heap) (hv:VR st s.heap v a) (p:lenW v st P):wpAny C.M A (call (.builtin "len") [a]) (EP C st s P) NoE s:=by
 unfold lenW at p
 cases v with
 | bytes l =>
  refine ex2 hv fun bs t zq0=>?_;obtain rfl:=zq0.1;have q1:=zq0.2.1;have q2:=zq0.2.2;clear zq0 hv
  have hlen:bs.size=l.length:=by rw [← q1,List.length_map,Array.length_toList]
  exact len_bytes (by exact oz17 hlen q2) (EP.num W rfl (by rw [hlen];exact .mkInt) p)
 | tup l =>
  refine ex4 hv fun r o us n zq0=>?_;obtain rfl:=zq0.1;have q1:=zq0.2.1;have q2:=zq0.2.2.1;have q3:=zq0.2.2.2.1;have q4:=zq0.2.2.2.2.1;have q5:=zq0.2.2.2.2.2.1;have q6:=zq0.2.2.2.2.2.2;clear zq0 hv
  have hlen:=q5.length
  rw [Array.length_toList] at hlen
  exact PyProof.Rows.len_tuple ⟨o,q2,q3,n,q4⟩ (by omega) (EP.num W rfl (by rw [hlen];exact .mkInt) p)
 | flist l =>
  refine ex4 hv fun r o us n zq0=>?_;obtain rfl:=zq0.1;have q1:=zq0.2.1;have q2:=zq0.2.2.1;have q3:=zq0.2.2.2.1;have q4:=zq0.2.2.2.2.1;have q5:=zq0.2.2.2.2.2.1;have q6:=zq0.2.2.2.2.2.2;clear zq0 hv
  have hlen:=q5.length
  rw [Array.length_toList] at hlen
  exact PySem.Calls.call_len_list ⟨o,q2,q3,n,q4⟩ (by omega) (EP.num W rfl (by rw [hlen];exact .mkInt) p)
 | ref r =>
  have zq0:=hv.isRef;obtain rfl:=zq0.1;have hst:=zq0.2;clear zq0
  dsimp only at p
  unfold lenR at p
  split at p
  ·rename_i l e
   refine ex2 (isList W e) fun us n zq0=>?_;have e1:=zq0.1;have e2:=zq0.2.1;have e3:=zq0.2.2.1;have e4:=zq0.2.2.2.1;have e5:=zq0.2.2.2.2;clear zq0
   exact PySem.Calls.call_len_list e2 (by rw [List.size_toArray];omega) (EP.num W rfl (by rw [List.size_toArray,e5];exact .mkInt) p)
  ·rename_i es n e
   refine ex1 (isDict W e) fun kvs zq0=>?_;have e1:=zq0.1;have e2:=zq0.2.1;have e3:=zq0.2.2.1;have e4:=zq0.2.2.2;clear zq0
   have hl:=e2.length
   exact PySem.call_len_dict (knd:=intKind C.prog C.w) (notMods W hst) e1.dictOf (by omega) (EP.num W rfl (by rw [hl];exact .mkInt) p)
  ·exact p.elim
 | _=>exact p.elim
theorem minR_ok {k:Nat} {P:V→St→Prop} {r:Addr} (g:Good A k) (W:WR C st s.heap) (p:minR r st P):wpAny C.M A (call (.builtin "min") [.ref r]) (EP C st s P) NoE s:=by
 unfold minR at p
 split at p
 ·rename_i l e
  refine ex1 p fun ns zq0=>?_;have p1:=zq0.1;have p2:=zq0.2.1;have p3:=zq0.2.2;clear zq0 p
  refine ex2 (isList W e) fun us n zq0=>?_;have e1:=zq0.1;have e2:=zq0.2.1;have e3:=zq0.2.2.1;have e4:=zq0.2.2.2.1;have e5:=zq0.2.2.2.2;clear zq0
  refine ex1 (ints_items (intsAre p1 e3)) fun xs zq0=>?_;have x1:=zq0.1;have x2:=zq0.2;clear zq0
  rw [x1] at e2
  have hne:0<xs.toArray.size:=by
   rw [List.size_toArray]
   cases xs with
   | nil=>exact absurd (show ns=[] by rw [← x2];rfl) p2
   | cons _ _=>simp
  refine min_intList g.hand e2 hne fun v h' tk hv k=>?_
  obtain ⟨t,rfl⟩:=intItems_at hv
  have zq0:=argBest_min (numAt xs.toArray) (xs.toArray.size-1);have b1:=zq0.1;have b2:=zq0.2;clear zq0
  refine EP.keep W k .mkInt (p3 _ ?_ fun x hx=>?_)
  ·have hi:argBest (fun i j=>decide (numAt xs.toArray i<numAt xs.toArray j)) (xs.toArray.size-1)<xs.length:=by rw [List.size_toArray] at b1 hne ⊢;exact oz41 hne b1
   rw [← x2]
   refine List.mem_map.mpr ⟨xs[_]'hi,List.getElem_mem hi,?_⟩
   have hq:∀ j (hj:j<xs.length),numAt xs.toArray j=xs[j].1:=fun j hj=>by simp [numAt,List.getElem?_toArray,List.getElem?_eq_getElem hj]
   exact (hq _ hi).symm
  ·rw [← x2] at hx
   refine ex1 (List.mem_map.mp hx) fun q zq0=>?_;have hq:=zq0.1;obtain rfl:=zq0.2;clear zq0
   obtain ⟨j,hj,rfl⟩:=List.mem_iff_getElem.mp hq
   have:=b2 j (by rw [List.size_toArray];exact oz42 hj)
   have hn:numAt xs.toArray j=xs[j].1:=by simp only [numAt,List.getElem?_toArray,List.getElem?_eq_getElem hj];rfl
   rw [hn] at this;exact this
 ·exact p.elim
theorem sumR_ok {k:Nat} {P:V→St→Prop} {r:Addr} (g:Good A k) (W:WR C st s.heap) (p:sumR r st P):wpAny C.M A (call (.builtin "sum") [.ref r]) (EP C st s P) NoE s:=by
 unfold sumR at p
 split at p
 ·rename_i l e
  refine ex1 p fun ns zq0=>?_;have p1:=zq0.1;have p2:=zq0.2;clear zq0 p
  refine ex2 (isList W e) fun us n zq0=>?_;have e1:=zq0.1;have e2:=zq0.2.1;have e3:=zq0.2.2.1;have e4:=zq0.2.2.2.1;have e5:=zq0.2.2.2.2;clear zq0
  refine ex1 (ints_items (intsAre p1 e3)) fun xs zq0=>?_;have x1:=zq0.1;have x2:=zq0.2;clear zq0
  rw [x1] at e2
  refine PySem.sum_intListG g.hand e2 fun h' tk t k=>EP.keep W k ?_ p2
  rw [preSum_eq,List.size_toArray,← x2]
  simp only [List.take_of_length_le (Nat.le_of_eq (List.length_map ..))]
  exact .mkInt
 ·exact p.elim
theorem bytesR_ok {k:Nat} {P:V→St→Prop} {r:Addr} (g:Good A k) (W:WR C st s.heap) (p:bytesR r st P):wpAny C.M A (call (biF .bytes) [.ref r]) (EP C st s P) NoE s:=by
 unfold bytesR at p
 split at p
 ·rename_i l e
  refine ex1 p fun ns zq0=>?_;have p1:=zq0.1;have p2:=zq0.2;clear zq0 p
  refine ex2 (isList W e) fun us n zq0=>?_;have e1:=zq0.1;have e2:=zq0.2.1;have e3:=zq0.2.2.1;have e4:=zq0.2.2.2.1;have e5:=zq0.2.2.2.2;clear zq0
  have zq0:=octsAre p1 e3;have x1:=zq0.1;have x2:=zq0.2;clear zq0
  refine call_bytes_ints e2 x1 (fun n hn=>?_) (by rw [e5,sizeLine_eq];exact oz32 e4) g.hand fun h' t tk k=>EP.keep W k ?_ p2
  ·refine ex1 (List.mem_map.mp hn) fun m zq0=>?_;have hm:=zq0.1;obtain rfl:=zq0.2;clear zq0
   have:=x2 m hm
   exact oz43 this
  ·have hlen:=x1.length
   rw [List.length_map] at hlen
   refine ⟨_,_,rfl,?_,by exact oz44 e5 hlen e4⟩
   unfold byteArr
   rw [List.map_map,List.map_map]
   conv=>rhs;rw [← List.map_id ns]
   refine List.map_congr_left fun m hm=>?_
   have:=x2 m hm
   simp [Nat.mod_eq_of_lt this]
 ·exact p.elim
theorem tupleR_ok {P:V→St→Prop} {r:Addr} (W:WR C st s.heap) (p:tupleR r st P):wpAny C.M A (call (biF .tuple) [.ref r]) (EP C st s P) NoE s:=by
 unfold tupleR at p
 split at p
 ·rename_i l e
  refine ex2 (isList W e) fun us n zq0=>?_;have e1:=zq0.1;have e2:=zq0.2.1;have e3:=zq0.2.2.1;have e4:=zq0.2.2.2.1;have e5:=zq0.2.2.2.2;clear zq0
  refine call_tuple_list e2 (fun h' k=>?_) (by rw [List.size_toArray,e5,sizeLine_eq];exact oz32 e4)
  have k2:∀ b o,s.heap.get? b=some o→(h'.push { cls:=.type "tuple",data:=.seq us.toArray }).get? b=some o:=fun b o z=>Heap.get?_push_of_some _ (k b o z)
  have hn:s.heap.get? h'.objs.size=none:=by
   cases q:s.heap.get? h'.objs.size with
   | none=>rfl
   | some o=>exact absurd (Heap.lt_size (k _ _ q)) (Nat.lt_irrefl _)
  refine EP.keep (tk:=s.toks) W k2 ?_ p
  exact ⟨_,_,us.toArray,0,rfl,W.fresh hn,Heap.get?_push_size _ rfl,rfl,rfl,VRs.mono (fun _ h=>h) (fun b o e1 e2 _=>⟨e1,k2 b o e2⟩) l (by simpa using e3),e4⟩
 ·exact p.elim
theorem two_ok {h:Heap} {v w:V} {a b:Value} {K:Int→Int→Prop} (e:VR st h v a) (f:VR st h w b) (p:onI v fun i=>onI w fun j=>K i j):∃ i t j u,a=.int i t∧b=.int j u∧K i j:=by
 refine ex2 (onI_ok e p) fun i t zq0=>?_;obtain rfl:=zq0.1;obtain rfl:=zq0.2.1;have p:=zq0.2.2;clear zq0
 refine ex2 (onI_ok f p) fun j u zq0=>?_;obtain rfl:=zq0.1;obtain rfl:=zq0.2.1;have p:=zq0.2.2;clear zq0
 exact ⟨i,t,j,u,rfl,rfl,p⟩
theorem bi_ok {k:Nat} {P:V→St→Prop} {b:Bi} {vs:List V} {us:List Value} (BL:BiLate C) (g:Good A k) (W:WR C st s.heap) (hv:VRs st s.heap vs us) (p:biW b vs st P):wpAny C.M A (call (biF b) us) (EP C st s P) NoE s:=by
 have p0:=p
 have hv0:=hv
 cases vs with
 | nil=>exact p.elim
 | cons v vs =>
  obtain ⟨a,us,rfl,h1,hv⟩:=hv
  cases vs with
  | nil =>
   subst hv
   have p:bi1 b v st P:=p
   unfold bi1 at p
   cases b with
   | len=>exact len_ok W h1 p
   | min_=>obtain ⟨r,rfl,rfl,p⟩:=onR_ok h1 p;exact minR_ok g W p
   | max_=>exact p.elim
   | abs=>obtain ⟨i,t,rfl,rfl,p⟩:=onI_ok h1 p;exact call_abs_int fun u tk=>EP.num W rfl .mkInt p
   | int_ =>
    cases v with
    | bool b=>obtain rfl:=h1;exact call_int_bool (EP.num W rfl .mkInt p)
    | _=>exact p.elim
   | sum=>obtain ⟨r,rfl,rfl,p⟩:=onR_ok h1 p;exact sumR_ok g W p
   | sorted=>exact BL g W hv0 p0 (.inl rfl)
   | bytes =>
    cases v with
    | bytes l=>exact BL g W hv0 p0 (.inr (.inl ⟨rfl,_,rfl⟩))
    | ref r=>obtain ⟨rfl,_⟩:=h1.isRef;exact bytesR_ok g W p
    | _=>exact p.elim
   | list=>exact BL g W hv0 p0 (.inr (.inr (.inl rfl)))
   | tuple=>obtain ⟨r,rfl,rfl,p⟩:=onR_ok h1 p;exact tupleR_ok W p
   | dict=>exact BL g W hv0 p0 (.inr (.inr (.inr rfl)))
   | range=>obtain ⟨i,t,rfl,rfl,p⟩:=onI_ok h1 p;exact PySem.call_range_1 (EP.range W (get?_ge (Nat.le_refl _)) (fun b o z=>Heap.get?_push_of_some _ z) (IsRange.new ..) p.2)
  | cons w vs =>
   obtain ⟨a2,us,rfl,h2,hv⟩:=hv
   cases vs with
   | nil =>
    subst hv
    have p:bi2 b v w st P:=p
    unfold bi2 at p
    cases b with
    | min_ =>
     refine ex4 (two_ok h1 h2 p) fun i t j u zq0=>?_;obtain rfl:=zq0.1;obtain rfl:=zq0.2.1;have p:=zq0.2.2;clear zq0
     refine min_two_ints g.hand fun h' tk k=>EP.keep W k ?_ p
     split
     ·rename_i hb
      rw [show min i j=j by exact oz45 hb];exact .mkInt
     ·rw [show min i j=i by exact oz46 ‹_›];exact .mkInt
    | max_ =>
     refine ex4 (two_ok h1 h2 p) fun i t j u zq0=>?_;obtain rfl:=zq0.1;obtain rfl:=zq0.2.1;have p:=zq0.2.2;clear zq0
     refine max_two_ints g.hand fun h' tk k=>EP.keep W k ?_ p
     split
     ·rename_i hb
      rw [show max i j=j by exact oz47 hb];exact .mkInt
     ·rw [show max i j=i by exact oz48 ‹_›];exact .mkInt
    | range =>
     refine ex4 (two_ok h1 h2 p) fun i t j u zq0=>?_;obtain rfl:=zq0.1;obtain rfl:=zq0.2.1;have p:=zq0.2.2;clear zq0
     exact PySem.call_range_2 (EP.range W (get?_ge (Nat.le_refl _)) (fun b o z=>Heap.get?_push_of_some _ z) (IsRange.new ..) p.2.2)
    | _=>exact p.elim
   | cons x vs =>
    obtain ⟨a3,us,rfl,h3,hv⟩:=hv
    cases vs with
    | nil =>
     subst hv
     have p:bi3 b v w x st P:=p
     unfold bi3 at p
     cases b with
     | range =>
      refine ex2 (onI_ok h1 p) fun i t zq0=>?_;obtain rfl:=zq0.1;obtain rfl:=zq0.2.1;have p:=zq0.2.2;clear zq0
      refine ex4 (two_ok h2 h3 p) fun j u l z zq0=>?_;obtain rfl:=zq0.1;obtain rfl:=zq0.2.1;have p1:=zq0.2.2.1;have p2:=zq0.2.2.2.1;have p3:=zq0.2.2.2.2.1;have p4:=zq0.2.2.2.2.2;clear zq0
      exact PySem.call_range_3 (by exact oz49 p3) (EP.range W (get?_ge (Nat.le_refl _)) (fun b o z=>Heap.get?_push_of_some _ z) (IsRange.new ..) p4) (.inl (PyProof.noPylong_of_log2 (by rcases p3 with rfl | rfl <;> decide +kernel)))
     | _=>exact p.elim
    | cons _ _=>exact p.elim
end
structure Sc where
 nm:List (Option Str)
 names:List (Str×NameKind)
structure EnvOk (sc:Sc) (env:Env):Prop where
 fn:env.scope.kind=.function
 nms:env.scope.names=sc.names
 gl:env.globals=mainGlobals
 bi:env.builtins=builtinsNs
 inj:∀ (i j:Nat) (x:Str),sc.nm[i]?=some (some x)→sc.nm[j]?=some (some x)→i=j
 slot:∀ x,some x∈sc.nm→sc.names.lookup x=some .local∨((sc.names.lookup x=some .cell∨sc.names.lookup x=some .free)∧∃ c,env.cells.lookup x=some c)
 nd:∀ x,some x∈sc.nm→(x==("__debug__":Str))=false∧(x==("__classdict__":Str))=false
 apart:env.cells.Pairwise fun x y=>x.2≠y.2
 cl:∀ p∈env.cells,p.2≠env.locals
noncomputable def fp (env:Env):List Addr:=env.locals::env.cells.map (·.2)
structure FrR (C:Cx) (st:St) (h:Heap) (sc:Sc) (env:Env) (ls:Ls):Prop where
 len:ls.length=sc.nm.length
 out:∀ a∈fp env,st a=none∧C.h0.get? a=none∧h.get? a≠none
 ns:∃ m cm:Str→Option Value,h.Ns env.locals m∧(∀ x c,env.cells.lookup x=some c→h.IsCell c (cm x)) ∧
  ∀ (i:Nat) (x:Str) (v:V),sc.nm[i]?=some (some x)→ls[i]?=some (some v)→∃ u,(if sc.names.lookup x=some .local then m x else cm x)=some u∧VR st h v u
section
variable {C:Cx} {st st':St} {s s':Shared} {A:Around} {sc:Sc} {env:Env} {ls:Ls}
theorem still_dict {o:Obj} {es:Array DictEntry} {ep:Nat} (h:o.data=.dict es ep):still o=false:=by
 unfold still;rw [h]
 cases o.cls <;> rfl
theorem still_cell {o:Obj} {v:Option Value} (h:o.data=.cell v):still o=false:=by
 unfold still;rw [h]
 cases o.cls <;> rfl
theorem EnvOk.kind {sc:Sc} {env:Env} (E:EnvOk sc env) (x:Str):env.kindOf x=sc.names.lookup x:=by unfold Env.kindOf;rw [E.nms]
theorem fp_cell {env:Env} {x:Str} {c:Addr} (h:env.cells.lookup x=some c):c∈fp env:=List.mem_cons_of_mem _ (List.mem_map.mpr ⟨(x,c),mem_of_lookup h,rfl⟩)
theorem FrR.step {φ:List Addr} (F:FrR C st s.heap sc env ls) (S:Step φ st s st' s') (hφ:∀ a∈fp env,a∉φ):FrR C st' s'.heap sc env ls where
 len:=F.len
 out a ha:=let ⟨h1,h2,h3⟩:=F.out a ha;⟨S.new a h1 h3,h2,S.live a h3⟩
 ns:=by
  refine ex2 (F.ns) fun m cm zq0=>?_;have n1:=zq0.1;have n2:=zq0.2.1;have n3:=zq0.2.2;clear zq0
  refine ⟨m,cm,n1.at' fun o e=>S.keep _ o (F.out _ (List.mem_cons_self ..)).1 (hφ _ (List.mem_cons_self ..)) e,fun x c hc=>?_,fun i x v h1 h2=>?_⟩
  ·refine ex1 (n2 x c hc) fun o zq0=>?_;have h1:=zq0.1;have h2:=zq0.2;clear zq0
   have hm:=fp_cell hc
   exact ⟨o,S.keep _ o (F.out _ hm).1 (hφ _ hm) h1,h2⟩
  ·refine ex1 (n3 i x v h1 h2) fun u zq0=>?_;have u1:=zq0.1;have u2:=zq0.2;clear zq0
   exact ⟨u,u1,S.vr u2⟩
theorem FrR.stp (F:FrR C st s.heap sc env ls) (S:Step [] st s st' s'):FrR C st' s'.heap sc env ls:=F.step S fun _ _ h=>nomatch h
theorem ld_ok {Q:Value→Shared→Prop} {E:Value→Shared→Prop} {n:Nat} {x:Str} {v:V} (O:EnvOk sc env) (F:FrR C st s.heap sc env ls) (hx:sc.nm[n]?=some (some x)) (hv:ls[n]?=some (some v))
  (h:∀ u,VR st s.heap v u→Q u s):wpAny C.M A (loadName env x) Q E s:=by
 refine ex2 (F.ns) fun m cm zq0=>?_;have n1:=zq0.1;have n2:=zq0.2.1;have n3:=zq0.2.2;clear zq0
 refine ex1 (n3 n x v hx hv) fun u zq0=>?_;have u1:=zq0.1;have u2:=zq0.2;clear zq0
 have hm:some x∈sc.nm:=List.mem_of_getElem? hx
 rcases O.slot x hm with hl | ⟨hk,c,hc⟩
 ·rw [if_pos hl] at u1
  exact wpAny_loadName_local O.fn (by rw [O.kind];exact hl) n1 u1 (h u u2)
 ·have hnl:¬ sc.names.lookup x=some .local:=by rcases hk with e | e <;> rw [e] <;> simp
  rw [if_neg hnl] at u1
  have hic:s.heap.IsCell c (some u):=u1▸n2 x c hc
  rcases hk with e | e
  ·exact wpAny_loadName_cell O.fn (by rw [O.kind];exact e) hc hic (h u u2)
  ·exact wpAny_loadName_free O.fn (by rw [O.kind];exact e) hc hic (h u u2) (O.nd x hm).2
theorem var_ok {P:V→St→Prop} {n:Nat} {x:Str} {v:V} {pos:Pos} (O:EnvOk sc env) (W:WR C st s.heap) (F:FrR C st s.heap sc env ls) (hx:sc.nm[n]?=some (some x)) (hv:ls[n]?=some (some v)) (p:P v st) :
  wpAny C.M A (eval (.Name x pos) env) (EP C st s P) NoE s :=
 wpAny_Name (ld_ok O F hx hv fun u h=>EP.now W (.refl ..) h p) (O.nd x (List.mem_of_getElem? hx)).1
theorem st_ok {φ:List Addr} {Q:Unit→Shared→Prop} {E:Value→Shared→Prop} {n:Nat} {x:Str} {v:V} {u:Value} (O:EnvOk sc env) (W:WR C st s.heap) (F:FrR C st s.heap sc env ls) (hx:sc.nm[n]?=some (some x)) (hf:sc.names.lookup x≠some .free)
  (hφ:(sc.names.lookup x=some .local→env.locals∈φ)∧∀ c,sc.names.lookup x=some .cell→env.cells.lookup x=some c→c∈φ)
  (hv:VR st s.heap v u) (h:∀ s',WR C st s'.heap→Step φ st s st s'→FrR C st s'.heap sc env (ls.set n (some v))→Q () s'):wpAny C.M A (storeName env x u) Q E s:=by
 refine ex2 (F.ns) fun m cm zq0=>?_;have n1:=zq0.1;have n2:=zq0.2.1;have n3:=zq0.2.2;clear zq0
 have hm:some x∈sc.nm:=List.mem_of_getElem? hx
 have inj:∀ {i:Nat} {y:Str},sc.nm[i]?=some (some y)→y=x→i=n:=fun {i y} h e=>O.inj i n x (e▸h) hx
 have fin:∀ {a:Addr} {h':Heap} {tk:Nat} (m' cm':Str→Option Value),a∈fp env→a∈φ→(∀ o,s.heap.get? a=some o→still o=false)→h'.get? a≠none→Heap.SameBut a s.heap h'→h'.Ns env.locals m'→(∀ x c,env.cells.lookup x=some c→h'.IsCell c (cm' x)) →
   (∀ y,(if sc.names.lookup y=some .local then m' y else cm' y)=if y=x then some u else (if sc.names.lookup y=some .local then m y else cm y))→Q () { s with heap:=h',toks:=tk }:=by
  intro a h' tk m' cm' ha haφ hst hlive hs q1 q2 q3
  have zq0:=F.out a ha;have o1:=zq0.1;have o2:=zq0.2.1;have o3:=zq0.2.2;clear zq0
  have S:Step φ st s st { s with heap:=h',toks:=tk }:={
   dom:=fun _ h=>h
   new:=fun _ h _=>h
   keep:=fun b o _ hb e=>(hs.2 b (by rintro rfl;exact hb haφ)).trans e
   kseq:=fun b o _ e hso=>(hs.2 b (by rintro rfl;rw [hst o e] at hso;cases hso)).trans e
   live:=fun b e=>by
    by_cases hb:b=a
    ·subst hb;exact hlive
    ·rw [hs.2 b hb];exact e
   gens:=rfl
   os:=rfl }
  refine h _ (W.keeps (fun b o e z=>?_) (fun b o e z w=>S.kseq b o e z w) (fun b o e z=>?_)) S ⟨?_,fun b hb=>?_,m',cm',q1,q2,fun i y w hy hw=>?_⟩
  ·rw [hs.2 b];exact z
   rintro rfl;rw [o2] at e;cases e
  ·rw [hs.2 b];exact z
   rintro rfl;exact e o1
  ·rw [List.length_set];exact F.len
  ·have zq0:=F.out b hb;have p1:=zq0.1;have p2:=zq0.2.1;have p3:=zq0.2.2;clear zq0
   exact ⟨p1,p2,S.live b p3⟩
  ·rw [q3 y]
   by_cases hyx:y=x
   ·rw [if_pos hyx]
    have hi:=inj hy hyx
    subst hi
    rw [List.getElem?_set_self (by have:=(List.getElem?_eq_some_iff.mp hx).1;rw [F.len];exact this)] at hw
    cases hw
    exact ⟨u,rfl,S.vr hv⟩
   ·rw [if_neg hyx]
    rw [List.getElem?_set_ne (by rintro rfl;rw [hx] at hy;cases hy;exact hyx rfl)] at hw
    refine ex1 (n3 i y w hy hw) fun z zq0=>?_;have z1:=zq0.1;have z2:=zq0.2;clear zq0
    exact ⟨z,z1,S.vr z2⟩
 rcases O.slot x hm with hl | ⟨hk,c,hc⟩
 ·refine wpAny_storeName_local (by rw [O.kind];exact hl) n1 (fun h' hn hs=>?_) (by rw [O.fn];rfl)
  refine fin (a:=env.locals) (fun y=>if y=x then some u else m y) cm (List.mem_cons_self ..) (hφ.1 hl) (fun o e=>?_) (by obtain ⟨o,_,_,e,_⟩:=hn;rw [e];simp) hs hn (fun y c hc=>?_) fun y=>?_
  ·refine ex3 n1 fun o' es ep zq0=>?_;have e':=zq0.1;have hd:=zq0.2.1;clear zq0 n1
   rw [e] at e';cases e';exact still_dict hd
  ·exact (n2 y c hc).sameBut hs (O.cl _ (mem_of_lookup hc))
  ·by_cases hy:y=x
   ·subst hy;rw [if_pos hl,if_pos rfl,if_pos rfl]
   ·rw [if_neg hy,if_neg hy]
 ·have hkc:sc.names.lookup x=some .cell:=by rcases hk with e | e <;> first | exact e | exact absurd e hf
  refine wpAny_storeName_cell O.fn (by rw [O.kind];exact hkc) hc (n2 x c hc) fun h' hn hs=>?_
  refine fin (a:=c) m (fun y=>if y=x then some u else cm y) (fp_cell hc) (hφ.2 c hkc hc) (fun o e=>?_) (by obtain ⟨o,e,_⟩:=hn;rw [e];simp) hs (n1.sameBut hs (Ne.symm (O.cl _ (mem_of_lookup hc)))) (fun y c' hc'=>?_) fun y=>?_
  ·refine ex1 (n2 x c hc) fun o' zq0=>?_;have e':=zq0.1;have hd:=zq0.2;clear zq0
   rw [e] at e';cases e';exact still_cell hd
  ·by_cases hy:y=x
   ·subst hy
    rw [hc] at hc';cases hc'
    rw [if_pos rfl];exact hn
   ·rw [if_neg hy]
    exact (n2 y c' hc').sameBut hs fun e=>hy (name_of_addr O.apart (mem_of_lookup hc') (e▸mem_of_lookup hc))
  ·by_cases hy:y=x
   ·subst hy;rw [hkc];simp
   ·rw [if_neg hy,if_neg hy]
theorem glob_ok {Q:Value→Shared→Prop} {E:Value→Shared→Prop} {x:Str} {u:Value} {pos:Pos} (O:EnvOk sc env) (W:WR C st s.heap) (hk:sc.names.lookup x=some .globalImplicit) (hx:(x==("__debug__":Str))=false) (hg:C.mg x=some u) (h:Q u s) :
  wpAny C.M A (eval (.Name x pos) env) Q E s :=
 Name_function_global O.fn (by rw [O.kind];exact hk) (loadGlobal_global (by rw [O.gl];exact C.gl.keeps W.keep) hg h) hx
theorem bglob_ok {Q:Value→Shared→Prop} {E:Value→Shared→Prop} {x:Str} {u:Value} {pos:Pos} (O:EnvOk sc env) (W:WR C st s.heap) (hk:sc.names.lookup x=some .globalImplicit) (hx:(x==("__debug__":Str))=false) (hx2:x≠"__name__") (hg:C.mg x=none) (hb:bootBuiltins x=some u) (h:Q u s) :
  wpAny C.M A (eval (.Name x pos) env) Q E s :=
 Name_function_global O.fn (by rw [O.kind];exact hk) (loadGlobal_builtin (by rw [O.gl];exact C.gl.keeps W.keep) hg (by rw [O.bi];exact C.bl.keeps W.keep) (by rw [C.mbx x hx2];exact hb) h) hx
end
structure IterOk (C:Cx) (k:Nat) (v:V) (u:Value) (I:Addr) (items:List V) (chk:St→Prop) (T:Nat→Heap→Prop):Prop where
 frame:∀ i h h',T i h→(∀ o,h.get? I=some o→h'.get? I=some o)→T i h'
 live:∀ i h,T i h→∃ o,h.get? I=some o∧still o=false
 item:∀ {i:Nat} {A:Around} {st:St} {s:Shared} {x:V} {Q:Option Value→Shared→Prop} {E:Value→Shared→Prop},Good A k→T i s.heap→WR C st s.heap→VR st s.heap v u→st I=none→chk st→items[i]?=some x →
  (∀ w h' tk,VR st s.heap x w→T (i+1) h'→Heap.SameBut I s.heap h'→Q (some w) { s with heap:=h',toks:=tk })→wpAny C.M A (pyNext (.ref I)) Q E s
 done:∀ {A:Around} {st:St} {s:Shared} {Q:Option Value→Shared→Prop} {E:Value→Shared→Prop},Good A k→T items.length s.heap→WR C st s.heap→VR st s.heap v u→chk st →
  (∀ h' tk,(∀ b o,b≠I→s.heap.get? b=some o→h'.get? b=some o)→Q none { s with heap:=h',toks:=tk })→wpAny C.M A (pyNext (.ref I)) Q E s
 self:∀ {i:Nat} {A:Around} {s:Shared} {Q:Value→Shared→Prop} {E:Value→Shared→Prop},T i s.heap→Q (.ref I) s→wpAny C.M A (pyIter (.ref I)) Q E s
 go:∀ {i:Nat} {A:Around} {s:Shared} {Q:Unit→Shared→Prop} {E:Value→Shared→Prop} {elts:List Expr} {x1:Nat} {pos:Pos} {w:Value},T i s.heap→(∃ T,w=.ref T)→Q () s→wpAny C.M A (letOwnedTupleGo (.Tuple elts x1 pos) (.ref I) w) Q E s
section
variable {C:Cx} {st:St} {s:Shared} {A:Around}
theorem go_plain {c:String} {I:Addr} {vs:Array Value} {elts:List Expr} {x1:Nat} {pos:Pos} {w:Value} {Q:Unit→Shared→Prop} {E:Value→Shared→Prop} {o:Obj} (ho:s.heap.get? I=some o) (hc:o.cls=.type c) (hd:o.data=.fields vs)
  (hn:(["enumerate","zip","dict_itemiterator","dict_reverseitemiterator","odict_iterator","itertools.zip_longest","itertools.pairwise"].contains c)=false) (hw:∃ T,w=.ref T) (h:Q () s) :
  wpAny C.M A (letOwnedTupleGo (.Tuple elts x1 pos) (.ref I) w) Q E s:=by
 obtain ⟨T,rfl⟩:=hw
 unfold letOwnedTupleGo
 refine wpAny_bind (wpAny_load ho ?_)
 rw [hc,hd]
 show wpAny _ A (if (["enumerate","zip","dict_itemiterator","dict_reverseitemiterator","odict_iterator","itertools.zip_longest","itertools.pairwise"].contains c&&vs[0]?==some (rawInt T))=true then _ else _) Q E s
 rw [hn,Bool.false_and,if_neg Bool.false_ne_true]
 exact wpAny_pure h
theorem still_iter {o:Obj} {c:String} {vs:Array Value} (hc:o.cls=.type c) (hd:o.data=.fields vs) (hn:(c=="range")=false):still o=false:=by
 unfold still;rw [hc,hd];exact hn
theorem iter_list (k:Nat) (l I:Addr) (hne:l≠I) {items:List V} {v:V} {u:Value} {chk:St→Prop}
  (hl:∀ {st:St} {s:Shared},WR C st s.heap→VR st s.heap v u→chk st→∃ vs:Array Value,s.heap.IsList l vs∧VRs st s.heap items vs.toList) :
  IterOk C k v u I items chk (fun i h=>h.IsListIter I l i) where
 frame:=fun i h h' ⟨o,e,r⟩ hk=>⟨o,hk o e,r⟩
 live:=fun i h ⟨o,e,hc,hd⟩=>⟨o,e,still_iter hc hd (by decide)⟩
 item:=by
  intro i A st s x Q E g hT W hv hI hc hx h
  refine ex1 (hl W hv hc) fun vs zq0=>?_;have h1:=zq0.1;have h2:=zq0.2;clear zq0
  refine ex1 (h2.get hx) fun w zq0=>?_;have w1:=zq0.1;have w2:=zq0.2;clear zq0
  exact wpAny_pyNext_list_item hT h1 (by simpa using w1) fun h' hi hs=>h w h' _ w2 hi hs
 done:=by
  intro A st s Q E g hT W hv hc h
  refine ex1 (hl W hv hc) fun vs zq0=>?_;have h1:=zq0.1;have h2:=zq0.2;clear zq0
  have hlen:=h2.length
  rw [Array.length_toList] at hlen
  exact wpAny_pyNext_list_end g.hand hT h1 (by rw [← hlen];simp) fun h' hs=>h h' _ fun b o hb e=>hs b o hb e
 self:=fun hT h=>wpAny_pyIter_listiter hT h
 go:=fun ⟨o,e,hc,hd⟩ hw h=>go_plain e hc hd (by decide) hw h
theorem iter_tuple (k:Nat) (l I:Addr) (hne:l≠I) {items:List V} {v:V} {u:Value} {chk:St→Prop}
  (hl:∀ {st:St} {s:Shared},WR C st s.heap→VR st s.heap v u→chk st→∃ vs:Array Value,s.heap.IsTuple l vs∧VRs st s.heap items vs.toList) :
  IterOk C k v u I items chk (fun i h=>h.IsTupleIter I l i) where
 frame:=fun i h h' ⟨o,e,r⟩ hk=>⟨o,hk o e,r⟩
 live:=fun i h ⟨o,e,hc,hd⟩=>⟨o,e,still_iter hc hd (by decide)⟩
 item:=by
  intro i A st s x Q E g hT W hv hI hc hx h
  refine ex1 (hl W hv hc) fun vs zq0=>?_;have h1:=zq0.1;have h2:=zq0.2;clear zq0
  refine ex1 (h2.get hx) fun w zq0=>?_;have w1:=zq0.1;have w2:=zq0.2;clear zq0
  exact wpAny_pyNext_tuple_item hT h1 (by simpa using w1) fun h' hi hs=>h w h' _ w2 hi hs
 done:=by
  intro A st s Q E g hT W hv hc h
  refine ex1 (hl W hv hc) fun vs zq0=>?_;have h1:=zq0.1;have h2:=zq0.2;clear zq0
  have hlen:=h2.length
  rw [Array.length_toList] at hlen
  exact wpAny_pyNext_tuple_end g.hand hT h1 (by rw [← hlen];simp) fun h' hs=>h h' _ fun b o hb e=>hs b o hb e
 self:=fun hT h=>wpAny_pyIter_tupleiter hT h
 go:=fun ⟨o,e,hc,hd⟩ hw h=>go_plain e hc hd (by decide) hw h
theorem iter_bytes (k:Nat) (I:Addr) {b:Array UInt8} {t:Tok} {l:List Nat} {v:V} {chk:St→Prop} (hl:b.toList.map UInt8.toNat=l) :
  IterOk C k v (.bytes b t) I (l.map fun (n:Nat)=>.int (n:Int)) chk (fun i h=>KBw.IsBytesIter h I b t i) where
 frame:=fun i h h' ⟨o,e,r⟩ hk=>⟨o,hk o e,r⟩
 live:=fun i h ⟨o,e,hc,hd⟩=>⟨o,e,still_iter hc hd (by decide)⟩
 item:=by
  intro i A st s x Q E g hT W hv hI hc hx h
  subst hl
  rw [List.map_map,List.getElem?_map,Array.getElem?_toList] at hx
  refine ex1 (Option.map_eq_some_iff.mp hx) fun c zq0=>?_;have c1:=zq0.1;have c2:=zq0.2;clear zq0
  subst c2
  exact KBw.next_item hT c1 fun h' hi hs=>h _ h' _ .mkInt hi hs
 done:=by
  intro A st s Q E g hT W hv hc h
  subst hl
  refine KBw.next_end g.hand hT ?_ fun h' hs=>h h' _ fun b o hb e=>hs b o hb e
  rw [← Array.getElem?_toList];simp
 self:=fun hT h=>KBw.pyIter_self hT h
 go:=fun ⟨o,e,hc,hd⟩ hw h=>go_plain e hc hd (by decide) hw h
theorem iter_range (k:Nat) (I:Addr) {a b c:Int} {v:V} {u:Value} {chk:St→Prop} :
  IterOk C k v u I ((rangeL a b c).map .int) chk (fun i h=>IsRangeIter h I (a+i*c) ((Builtin.Range.rangeSize a b c).toNat-i:Int) c) where
 frame:=fun i h h' e hk=>hk _ e
 live:=fun i h e=>⟨_,e,by unfold still;rfl⟩
 item:=by
  intro i A st s x Q E g hT W hv hI hc hx h
  simp only [rangeL,List.map_map,List.getElem?_map] at hx
  refine ex1 (Option.map_eq_some_iff.mp hx) fun j zq0=>?_;have j1:=zq0.1;have j2:=zq0.2;clear zq0
  have hj:=List.getElem?_eq_some_iff.mp j1
  refine ex1 hj fun j3 j4=>?_;clear hj
  rw [List.length_range] at j3
  rw [List.getElem_range] at j4
  subst j4 j2
  refine wpAny_pyNext_range_item hT (by exact oz50 j3) fun h' hi hs=>h _ h' _ .mkInt ?_ hs
  have e1:a+(i:Int)*c+c=a+((i+1:Nat):Int)*c:=by push_cast;rw [Int.add_mul];exact oz51
  have e2:((Builtin.Range.rangeSize a b c).toNat-i:Int)-1=((Builtin.Range.rangeSize a b c).toNat-(i+1:Nat):Int):=by push_cast;exact oz52
  rw [e1,e2] at hi
  exact hi
 done:=by
  intro A st s Q E g hT W hv hc h
  have hlen:((rangeL a b c).map V.int).length=(Builtin.Range.rangeSize a b c).toNat:=by simp [rangeL]
  rw [hlen] at hT
  exact wpAny_pyNext_range_end g.hand hT (by exact oz53) fun h' hs=>h h' _ fun b o hb e=>hs b o hb e
 self:=fun hT h=>wpAny_pyIter_rangeiter hT h
 go:=fun e hw h=>go_plain (c:="range_iterator") e rfl rfl (by decide) hw h
theorem iter_dict (k:Nat) (d I:Addr) (hne:d≠I) {es:List (Int×V)} {n:Nat} {v:V} {u:Value} :
  IterOk C k v u I (es.map fun p=>.int p.1) (fun st=>st d=some (.dict es n)) (fun i h=>h.IsKeyIter I d i es.length n) where
 frame:=fun i h h' ⟨o,e,r⟩ hk=>⟨o,hk o e,r⟩
 live:=fun i h ⟨o,e,hc,hd⟩=>⟨o,e,still_iter hc hd (by decide)⟩
 item:=by
  intro i A st s x Q E g hT W hv hI hc hx h
  refine ex1 (isDict W hc) fun kvs zq0=>?_;have e1:=zq0.1;have e2:=zq0.2.1;have e3:=zq0.2.2.1;have e4:=zq0.2.2.2;clear zq0
  have hk:=e2.keys
  have hlen:=e2.length
  have hx2:∃ q,kvs[i]?=some q∧x=.int q.1:=by
   have:(es.map (·.1))[i]?=(kvs.map (·.1))[i]?:=by rw [hk]
   rw [List.getElem?_map,List.getElem?_map] at this
   rw [List.getElem?_map] at hx
   refine ex1 (Option.map_eq_some_iff.mp hx) fun p zq0=>?_;have p1:=zq0.1;have p2:=zq0.2;clear zq0
   rw [p1] at this
   refine ex1 (Option.map_eq_some_iff.mp this.symm) fun q zq0=>?_;have q1:=zq0.1;have q2:=zq0.2;clear zq0
   exact ⟨q,q1,by rw [← p2,q2]⟩
  refine ex1 hx2 fun q zq0=>?_;have q1:=zq0.1;obtain rfl:=zq0.2;clear zq0 hx2
  rw [← hlen] at hT
  refine wpAny_pyNext_dict_item hT e1 q1 fun key h' hkey hi hs=>h key h' _ ?_ (hlen▸hi) hs
  have:∃ t,key=.int q.1 t:=by
   cases key <;> simp [intKind,Value.isInt] at hkey
   subst hkey
   exact ⟨_,rfl⟩
  obtain ⟨t,rfl⟩:=this
  exact .mkInt
 done:=by
  intro A st s Q E g hT W hv hc h
  refine ex1 (isDict W hc) fun kvs zq0=>?_;have e1:=zq0.1;have e2:=zq0.2.1;have e3:=zq0.2.2.1;have e4:=zq0.2.2.2;clear zq0
  have hlen:=e2.length
  have hl2:(es.map fun p=>V.int p.1).length=kvs.length:=by rw [List.length_map,hlen]
  rw [← hlen,hl2] at hT
  exact wpAny_pyNext_dict_end g.hand hT e1 (by simp) fun h' hs=>h h' _ fun b o hb e=>hs b o hb e
 self:=fun hT h=>wpAny_pyIter_keyiter hT h
 go:=fun ⟨o,e,hc,hd⟩ hw h=>go_plain e hc hd (by decide) hw h
end
section
variable {C:Cx} {st:St} {s:Shared} {A:Around}
noncomputable def IQ (C:Cx) (k:Nat) (st:St) (s:Shared) (v:V) (u:Value) (K:List V→(St→Prop)→Prop):Value→Shared→Prop:=fun it s1=>∃ I items chk T,it=.ref I∧K items chk∧WR C st s1.heap∧Step [] st s st s1∧s.heap.get? I=none∧st I=none∧T 0 s1.heap∧IterOk C k v u I items chk T
theorem IQ.mk {k:Nat} {v:V} {u:Value} {K:List V→(St→Prop)→Prop} {items:List V} {chk:St→Prop} {T:Nat→Heap→Prop} {o:Obj} (W:WR C st s.heap) (hK:K items chk) (hT:T 0 (s.heap.push o)) (hI:IterOk C k v u s.heap.objs.size items chk T) :
  IQ C k st s v u K (.ref s.heap.objs.size) { s with heap:=s.heap.push o } :=
 have k2:∀ b o',s.heap.get? b=some o'→(s.heap.push o).get? b=some o':=fun b o' z=>Heap.get?_push_of_some _ z
 ⟨_,items,chk,T,rfl,hK,W.all k2,Step.all k2,get?_ge (Nat.le_refl _),W.fresh (get?_ge (Nat.le_refl _)),hT,hI⟩
theorem lt_of_get {h:Heap} {a:Addr} {o:Obj} (e:h.get? a=some o):a≠h.objs.size:=Nat.ne_of_lt (Heap.lt_size e)
theorem iter_ok {k:Nat} {v:V} {u:Value} {K:List V→(St→Prop)→Prop} (W:WR C st s.heap) (hv:VR st s.heap v u) (p:iterW v st K):wpAny C.M A (pyIter u) (IQ C k st s v u K) NoE s:=by
 unfold iterW at p
 cases v with
 | tup l =>
  refine ex4 hv fun a o vs n zq0=>?_;obtain rfl:=zq0.1;have q2:=zq0.2.1;have q3:=zq0.2.2.1;have q4:=zq0.2.2.2.1;have q5:=zq0.2.2.2.2.1;have q6:=zq0.2.2.2.2.2.1;have q7:=zq0.2.2.2.2.2.2;clear zq0 hv
  refine wpAny_pyIter_tuple ⟨o,q3,q4,n,q5⟩ (IQ.mk W p ⟨_,Heap.get?_push_size _ rfl,rfl,rfl⟩ (iter_tuple k a _ (lt_of_get q3) ?_))
  intro st s W hv _
  refine ex4 hv fun a' o vs n zq0=>?_;have e:=zq0.1;have q2:=zq0.2.1;have q3:=zq0.2.2.1;have q4:=zq0.2.2.2.1;have q5:=zq0.2.2.2.2.1;have q6:=zq0.2.2.2.2.2.1;have q7:=zq0.2.2.2.2.2.2;clear zq0 hv
  cases e
  exact ⟨vs,⟨o,q3,q4,n,q5⟩,q6⟩
 | flist l =>
  refine ex4 hv fun a o vs n zq0=>?_;obtain rfl:=zq0.1;have q2:=zq0.2.1;have q3:=zq0.2.2.1;have q4:=zq0.2.2.2.1;have q5:=zq0.2.2.2.2.1;have q6:=zq0.2.2.2.2.2.1;have q7:=zq0.2.2.2.2.2.2;clear zq0 hv
  refine wpAny_pyIter_list ⟨o,q3,q4,n,q5⟩ (IQ.mk W p ⟨_,Heap.get?_push_size _ rfl,rfl,rfl⟩ (iter_list k a _ (lt_of_get q3) ?_))
  intro st s W hv _
  refine ex4 hv fun a' o vs n zq0=>?_;have e:=zq0.1;have q2:=zq0.2.1;have q3:=zq0.2.2.1;have q4:=zq0.2.2.2.1;have q5:=zq0.2.2.2.2.1;have q6:=zq0.2.2.2.2.2.1;have q7:=zq0.2.2.2.2.2.2;clear zq0 hv
  cases e
  exact ⟨vs,⟨o,q3,q4,n,q5⟩,q6⟩
 | bytes l =>
  refine ex2 hv fun bs t zq0=>?_;obtain rfl:=zq0.1;have q1:=zq0.2.1;have q2:=zq0.2.2;clear zq0 hv
  exact KBw.pyIter_bytes (IQ.mk W p ⟨_,Heap.get?_push_size _ rfl,rfl,rfl⟩ (iter_bytes k _ q1))
 | range a b c =>
  have p1:=p.1;have p2:=p.2.1;have p3:=p.2.2.1;have p4:=p.2.2.2;clear p
  refine ex4 hv fun r t u z zq0=>?_;obtain rfl:=zq0.1;have q2:=zq0.2.1;have q3:=zq0.2.2;clear zq0 hv
  refine wpAny_pyIter_range q3 ?_ (IQ.mk W p4 ?_ (iter_range k _))
  ·have hs:Builtin.Range.rangeSize a b c=0∨(0≤Builtin.Range.rangeSize a b c∧Builtin.Range.rangeSize a b c<2^62):=by
    rcases p3 with rfl | rfl <;> simp only [Builtin.Range.rangeSize,Int.neg_neg,Int.ediv_one] <;> split <;> omega
   unfold Builtin.Range.small Builtin.Range.rangeFitsLong
   generalize Builtin.Range.rangeSize a b c=z at hs
   rcases p3 with rfl | rfl <;> simp <;> omega
  ·have e:IsRangeIter (s.heap.push { cls:=.type "range_iterator",data:=.fields #[rawInt a,rawInt (Builtin.Range.rangeSize a b c),rawInt c] }) s.heap.objs.size a (Builtin.Range.rangeSize a b c) c:=Heap.get?_push_size _ rfl
   have h0:((Builtin.Range.rangeSize a b c).toNat:Int)=Builtin.Range.rangeSize a b c:=by
    refine Int.toNat_of_nonneg ?_
    rcases p3 with rfl | rfl <;> simp [Builtin.Range.rangeSize] <;> split <;> omega
   simpa [h0] using e
 | ref a =>
  have zq0:=hv.isRef;obtain rfl:=zq0.1;have hst:=zq0.2;clear zq0
  have p:iterRef a st K:=p
  unfold iterRef at p
  split at p
  ·rename_i l e
   refine ex2 (isList W e) fun vs n zq0=>?_;have e1:=zq0.1;have e2:=zq0.2.1;have e3:=zq0.2.2.1;have e4:=zq0.2.2.2.1;have e5:=zq0.2.2.2.2;clear zq0
   refine wpAny_pyIter_list e2 (IQ.mk W p ⟨_,Heap.get?_push_size _ rfl,rfl,rfl⟩ (iter_list k a _ (lt_of_get e1) ?_))
   intro st s W hv hc
   refine ex2 (isList W hc) fun vs n zq0=>?_;have e1:=zq0.1;have e2:=zq0.2.1;have e3:=zq0.2.2.1;have e4:=zq0.2.2.2.1;have e5:=zq0.2.2.2.2;clear zq0
   exact ⟨_,e2,by simpa using e3⟩
  ·rename_i es n e
   refine ex1 (isDict W e) fun kvs zq0=>?_;have e1:=zq0.1;have e2:=zq0.2.1;have e3:=zq0.2.2.1;have e4:=zq0.2.2.2;clear zq0
   have hlen:=e2.length
   refine ex2 (id e1) fun od _ zq0=>?_;have z:=zq0.1;clear zq0
   refine wpAny_pyIter_dict (notMods W hst) e1 (IQ.mk W p ⟨_,Heap.get?_push_size _ rfl,rfl,?_⟩ (iter_dict k a _ (lt_of_get z)))
   rw [← hlen];rfl
  ·exact p.elim
 | _ =>
  exact p.elim
end
noncomputable def vAttribute (e:Expr) (p:Expr→Str→Pos→Bool):Bool:=if h:e.ctorIdx=20 then Expr.Attribute.elim (motive_1:=fun _=>Bool) e h fun value attr pos=>p value attr pos else false
@[elab_as_elim] theorem vAttribute_k {e:Expr} {m:Expr→Prop} {p:Expr→Str→Pos→Bool} (h:vAttribute e p=true) (k:∀ value attr pos,p value attr pos=true→m (.Attribute value attr pos)):m e:=by
 by_cases q:e.ctorIdx=20
 ·exact Expr.Attribute.elim (motive_1:=fun e=>vAttribute e p=true→m e) e q k h
 ·rw [show vAttribute e p=false from dif_neg q] at h;cases h
noncomputable def vName (e:Expr) (p:Str→Bool):Bool:=if h:e.ctorIdx=23 then Expr.Name.elim (motive_1:=fun _=>Bool) e h fun x _=>p x else false
@[elab_as_elim] theorem vName_k {e:Expr} {m:Expr→Prop} {p:Str→Bool} (h:vName e p=true) (k:∀ x pos,p x=true→m (.Name x pos)):m e:=by
 by_cases q:e.ctorIdx=23
 ·exact Expr.Name.elim (motive_1:=fun e=>vName e p=true→m e) e q k h
 ·rw [show vName e p=false from dif_neg q] at h;cases h
noncomputable def vBinOp (e:Expr) (p:Expr→Operator→Expr→Bool):Bool:=if h:e.ctorIdx=2 then Expr.BinOp.elim (motive_1:=fun _=>Bool) e h fun l op r _=>p l op r else false
@[elab_as_elim] theorem vBinOp_k {e:Expr} {m:Expr→Prop} {p:Expr→Operator→Expr→Bool} (h:vBinOp e p=true) (k:∀ l op r pos,p l op r=true→m (.BinOp l op r pos)):m e:=by
 by_cases q:e.ctorIdx=2
 ·exact Expr.BinOp.elim (motive_1:=fun e=>vBinOp e p=true→m e) e q k h
 ·rw [show vBinOp e p=false from dif_neg q] at h;cases h
noncomputable def vUnaryOp (e:Expr) (p:UnaryOp→Expr→Bool):Bool:=if h:e.ctorIdx=3 then Expr.UnaryOp.elim (motive_1:=fun _=>Bool) e h fun op x _=>p op x else false
@[elab_as_elim] theorem vUnaryOp_k {e:Expr} {m:Expr→Prop} {p:UnaryOp→Expr→Bool} (h:vUnaryOp e p=true) (k:∀ op x pos,p op x=true→m (.UnaryOp op x pos)):m e:=by
 by_cases q:e.ctorIdx=3
 ·exact Expr.UnaryOp.elim (motive_1:=fun e=>vUnaryOp e p=true→m e) e q k h
 ·rw [show vUnaryOp e p=false from dif_neg q] at h;cases h
noncomputable def vBoolOp (e:Expr) (p:BoolOp→List Expr→Bool):Bool:=if h:e.ctorIdx=0 then Expr.BoolOp.elim (motive_1:=fun _=>Bool) e h fun op vs _=>p op vs else false
@[elab_as_elim] theorem vBoolOp_k {e:Expr} {m:Expr→Prop} {p:BoolOp→List Expr→Bool} (h:vBoolOp e p=true) (k:∀ op vs pos,p op vs=true→m (.BoolOp op vs pos)):m e:=by
 by_cases q:e.ctorIdx=0
 ·exact Expr.BoolOp.elim (motive_1:=fun e=>vBoolOp e p=true→m e) e q k h
 ·rw [show vBoolOp e p=false from dif_neg q] at h;cases h
noncomputable def vCompare (e:Expr) (p:Expr→List CmpOp→List Expr→Bool):Bool:=if h:e.ctorIdx=15 then Expr.Compare.elim (motive_1:=fun _=>Bool) e h fun l os rs _=>p l os rs else false
@[elab_as_elim] theorem vCompare_k {e:Expr} {m:Expr→Prop} {p:Expr→List CmpOp→List Expr→Bool} (h:vCompare e p=true) (k:∀ l os rs pos,p l os rs=true→m (.Compare l os rs pos)):m e:=by
 by_cases q:e.ctorIdx=15
 ·exact Expr.Compare.elim (motive_1:=fun e=>vCompare e p=true→m e) e q k h
 ·rw [show vCompare e p=false from dif_neg q] at h;cases h
noncomputable def vIfExp (e:Expr) (p:Expr→Expr→Expr→Bool):Bool:=if h:e.ctorIdx=5 then Expr.IfExp.elim (motive_1:=fun _=>Bool) e h fun t a b _=>p t a b else false
@[elab_as_elim] theorem vIfExp_k {e:Expr} {m:Expr→Prop} {p:Expr→Expr→Expr→Bool} (h:vIfExp e p=true) (k:∀ t a b pos,p t a b=true→m (.IfExp t a b pos)):m e:=by
 by_cases q:e.ctorIdx=5
 ·exact Expr.IfExp.elim (motive_1:=fun e=>vIfExp e p=true→m e) e q k h
 ·rw [show vIfExp e p=false from dif_neg q] at h;cases h
noncomputable def vCall (e:Expr) (p:Expr→List Expr→List Keyword→Pos→Bool):Bool:=if h:e.ctorIdx=16 then Expr.Call.elim (motive_1:=fun _=>Bool) e h fun f as ks pos=>p f as ks pos else false
@[elab_as_elim] theorem vCall_k {e:Expr} {m:Expr→Prop} {p:Expr→List Expr→List Keyword→Pos→Bool} (h:vCall e p=true) (k:∀ f as ks pos,p f as ks pos=true→m (.Call f as ks pos)):m e:=by
 by_cases q:e.ctorIdx=16
 ·exact Expr.Call.elim (motive_1:=fun e=>vCall e p=true→m e) e q k h
 ·rw [show vCall e p=false from dif_neg q] at h;cases h
noncomputable def vSubscript (e:Expr) (p:Expr→Expr→Bool):Bool:=if h:e.ctorIdx=21 then Expr.Subscript.elim (motive_1:=fun _=>Bool) e h fun v i _=>p v i else false
@[elab_as_elim] theorem vSubscript_k {e:Expr} {m:Expr→Prop} {p:Expr→Expr→Bool} (h:vSubscript e p=true) (k:∀ v i pos,p v i=true→m (.Subscript v i pos)):m e:=by
 by_cases q:e.ctorIdx=21
 ·exact Expr.Subscript.elim (motive_1:=fun e=>vSubscript e p=true→m e) e q k h
 ·rw [show vSubscript e p=false from dif_neg q] at h;cases h
noncomputable def vList (e:Expr) (p:List Expr→Bool):Bool:=if h:e.ctorIdx=24 then Expr.List.elim (motive_1:=fun _=>Bool) e h fun es _=>p es else false
@[elab_as_elim] theorem vList_k {e:Expr} {m:Expr→Prop} {p:List Expr→Bool} (h:vList e p=true) (k:∀ es pos,p es=true→m (.List es pos)):m e:=by
 by_cases q:e.ctorIdx=24
 ·exact Expr.List.elim (motive_1:=fun e=>vList e p=true→m e) e q k h
 ·rw [show vList e p=false from dif_neg q] at h;cases h
noncomputable def vTuple (e:Expr) (p:List Expr→Bool):Bool:=if h:e.ctorIdx=25 then Expr.Tuple.elim (motive_1:=fun _=>Bool) e h fun es _ _=>p es else false
@[elab_as_elim] theorem vTuple_k {e:Expr} {m:Expr→Prop} {p:List Expr→Bool} (h:vTuple e p=true) (k:∀ es n pos,p es=true→m (.Tuple es n pos)):m e:=by
 by_cases q:e.ctorIdx=25
 ·exact Expr.Tuple.elim (motive_1:=fun e=>vTuple e p=true→m e) e q k h
 ·rw [show vTuple e p=false from dif_neg q] at h;cases h
noncomputable def vDict (e:Expr) (p:List (Option Expr)→List Expr→Bool):Bool:=if h:e.ctorIdx=6 then Expr.Dict.elim (motive_1:=fun _=>Bool) e h fun ks vs _=>p ks vs else false
@[elab_as_elim] theorem vDict_k {e:Expr} {m:Expr→Prop} {p:List (Option Expr)→List Expr→Bool} (h:vDict e p=true) (k:∀ ks vs pos,p ks vs=true→m (.Dict ks vs pos)):m e:=by
 by_cases q:e.ctorIdx=6
 ·exact Expr.Dict.elim (motive_1:=fun e=>vDict e p=true→m e) e q k h
 ·rw [show vDict e p=false from dif_neg q] at h;cases h
noncomputable def vListComp (e:Expr) (p:Expr→List Comprehension→Scope→Bool):Bool:=if h:e.ctorIdx=8 then Expr.ListComp.elim (motive_1:=fun _=>Bool) e h fun e gs scope _=>p e gs scope else false
@[elab_as_elim] theorem vListComp_k {e:Expr} {m:Expr→Prop} {p:Expr→List Comprehension→Scope→Bool} (h:vListComp e p=true) (k:∀ e gs scope pos,p e gs scope=true→m (.ListComp e gs scope pos)):m e:=by
 by_cases q:e.ctorIdx=8
 ·exact Expr.ListComp.elim (motive_1:=fun e=>vListComp e p=true→m e) e q k h
 ·rw [show vListComp e p=false from dif_neg q] at h;cases h
noncomputable def vConstant (e:Expr) (p:Const→Bool):Bool:=if h:e.ctorIdx=19 then Expr.Constant.elim (motive_1:=fun _=>Bool) e h fun c _ _=>p c else false
@[elab_as_elim] theorem vConstant_k {e:Expr} {m:Expr→Prop} {p:Const→Bool} (h:vConstant e p=true) (k:∀ c n pos,p c=true→m (.Constant c n pos)):m e:=by
 by_cases q:e.ctorIdx=19
 ·exact Expr.Constant.elim (motive_1:=fun e=>vConstant e p=true→m e) e q k h
 ·rw [show vConstant e p=false from dif_neg q] at h;cases h
noncomputable def vSlice (e:Expr) (p:Option Expr→Option Expr→Option Expr→Bool):Bool:=if h:e.ctorIdx=26 then Expr.Slice.elim (motive_1:=fun _=>Bool) e h fun l u s _=>p l u s else false
@[elab_as_elim] theorem vSlice_k {e:Expr} {m:Expr→Prop} {p:Option Expr→Option Expr→Option Expr→Bool} (h:vSlice e p=true) (k:∀ l u s pos,p l u s=true→m (.Slice l u s pos)):m e:=by
 by_cases q:e.ctorIdx=26
 ·exact Expr.Slice.elim (motive_1:=fun e=>vSlice e p=true→m e) e q k h
 ·rw [show vSlice e p=false from dif_neg q] at h;cases h
noncomputable def zAssign (e:Stmt) (p:List Expr→Expr→Bool):Bool:=if h:e.ctorIdx=5 then Stmt.Assign.elim (motive_2:=fun _=>Bool) e h fun ts v _=>p ts v else false
@[elab_as_elim] theorem zAssign_k {e:Stmt} {m:Stmt→Prop} {p:List Expr→Expr→Bool} (h:zAssign e p=true) (k:∀ ts v pos,p ts v=true→m (.Assign ts v pos)):m e:=by
 by_cases q:e.ctorIdx=5
 ·exact Stmt.Assign.elim (motive_2:=fun e=>zAssign e p=true→m e) e q k h
 ·rw [show zAssign e p=false from dif_neg q] at h;cases h
noncomputable def zAugAssign (e:Stmt) (p:Expr→Operator→Expr→Bool):Bool:=if h:e.ctorIdx=7 then Stmt.AugAssign.elim (motive_2:=fun _=>Bool) e h fun t op v _=>p t op v else false
@[elab_as_elim] theorem zAugAssign_k {e:Stmt} {m:Stmt→Prop} {p:Expr→Operator→Expr→Bool} (h:zAugAssign e p=true) (k:∀ t op v pos,p t op v=true→m (.AugAssign t op v pos)):m e:=by
 by_cases q:e.ctorIdx=7
 ·exact Stmt.AugAssign.elim (motive_2:=fun e=>zAugAssign e p=true→m e) e q k h
 ·rw [show zAugAssign e p=false from dif_neg q] at h;cases h
noncomputable def zExpr (e:Stmt) (p:Expr→Bool):Bool:=if h:e.ctorIdx=24 then Stmt.Expr.elim (motive_2:=fun _=>Bool) e h fun v _=>p v else false
@[elab_as_elim] theorem zExpr_k {e:Stmt} {m:Stmt→Prop} {p:Expr→Bool} (h:zExpr e p=true) (k:∀ v pos,p v=true→m (.Expr v pos)):m e:=by
 by_cases q:e.ctorIdx=24
 ·exact Stmt.Expr.elim (motive_2:=fun e=>zExpr e p=true→m e) e q k h
 ·rw [show zExpr e p=false from dif_neg q] at h;cases h
noncomputable def zReturn (e:Stmt) (p:Option Expr→Bool):Bool:=if h:e.ctorIdx=3 then Stmt.Return.elim (motive_2:=fun _=>Bool) e h fun v _=>p v else false
@[elab_as_elim] theorem zReturn_k {e:Stmt} {m:Stmt→Prop} {p:Option Expr→Bool} (h:zReturn e p=true) (k:∀ v pos,p v=true→m (.Return v pos)):m e:=by
 by_cases q:e.ctorIdx=3
 ·exact Stmt.Return.elim (motive_2:=fun e=>zReturn e p=true→m e) e q k h
 ·rw [show zReturn e p=false from dif_neg q] at h;cases h
noncomputable def zIf (e:Stmt) (p:Expr→List Stmt→List Stmt→Bool):Bool:=if h:e.ctorIdx=12 then Stmt.If.elim (motive_2:=fun _=>Bool) e h fun t a b _=>p t a b else false
@[elab_as_elim] theorem zIf_k {e:Stmt} {m:Stmt→Prop} {p:Expr→List Stmt→List Stmt→Bool} (h:zIf e p=true) (k:∀ t a b pos,p t a b=true→m (.If t a b pos)):m e:=by
 by_cases q:e.ctorIdx=12
 ·exact Stmt.If.elim (motive_2:=fun e=>zIf e p=true→m e) e q k h
 ·rw [show zIf e p=false from dif_neg q] at h;cases h
noncomputable def zWhile (e:Stmt) (p:Expr→List Stmt→List Stmt→Bool):Bool:=if h:e.ctorIdx=11 then Stmt.While.elim (motive_2:=fun _=>Bool) e h fun t a b _=>p t a b else false
@[elab_as_elim] theorem zWhile_k {e:Stmt} {m:Stmt→Prop} {p:Expr→List Stmt→List Stmt→Bool} (h:zWhile e p=true) (k:∀ t a b pos,p t a b=true→m (.While t a b pos)):m e:=by
 by_cases q:e.ctorIdx=11
 ·exact Stmt.While.elim (motive_2:=fun e=>zWhile e p=true→m e) e q k h
 ·rw [show zWhile e p=false from dif_neg q] at h;cases h
noncomputable def zFor (e:Stmt) (p:Expr→Expr→List Stmt→List Stmt→Bool):Bool:=if h:e.ctorIdx=9 then Stmt.For.elim (motive_2:=fun _=>Bool) e h fun t i a b _=>p t i a b else false
@[elab_as_elim] theorem zFor_k {e:Stmt} {m:Stmt→Prop} {p:Expr→Expr→List Stmt→List Stmt→Bool} (h:zFor e p=true) (k:∀ t i a b pos,p t i a b=true→m (.For t i a b pos)):m e:=by
 by_cases q:e.ctorIdx=9
 ·exact Stmt.For.elim (motive_2:=fun e=>zFor e p=true→m e) e q k h
 ·rw [show zFor e p=false from dif_neg q] at h;cases h
noncomputable def isStar (e:Expr):Bool:=e.ctorIdx==22
noncomputable def isSlice (e:Expr):Bool:=e.ctorIdx==26
noncomputable def isSet (e:Expr):Bool:=e.ctorIdx==7
noncomputable def isComp (e:Expr):Bool:=e.ctorIdx==8 || e.ctorIdx==9 || e.ctorIdx==10
noncomputable def isCall0 (e:Expr):Bool:=vCall e fun f as ks _=>as.isEmpty&&(ks.isEmpty&&f.ctorIdx==23)
noncomputable def oName (e:Expr):Option Str:=if h:e.ctorIdx=23 then Expr.Name.elim (motive_1:=fun _=>Option Str) e h fun x _=>some x else none
noncomputable def oTuple (e:Expr):Option (List Expr):=if h:e.ctorIdx=25 then Expr.Tuple.elim (motive_1:=fun _=>Option (List Expr)) e h fun es _ _=>some es else none
noncomputable def sing {α:Type} (l:List α) (p:α→Bool):Bool:=match l with
 | []=>false
 | x::r=>r.isEmpty&&p x
@[elab_as_elim] theorem sing_k {α:Type} {l:List α} {m:List α→Prop} {p:α→Bool} (h:sing l p=true) (k:∀ x,p x=true→m [x]):m l:=by
 cases l with
 | nil=>cases h
 | cons x r=>cases r with
  | nil=>exact k x h
  | cons _ _=>cases h
theorem b2 {a b:Bool} {m:Prop} (h:(a&&b)=true) (k:a=true→b=true→m):m:=by
 cases a
 ·cases h
 ·exact k rfl h
theorem b3 {a b c:Bool} {m:Prop} (h:(a&&(b&&c))=true) (k:a=true→b=true→c=true→m):m:=b2 h fun h1 h2=>b2 h2 (k h1)
theorem b4 {a b c d:Bool} {m:Prop} (h:(a&&(b&&(c&&d)))=true) (k:a=true→b=true→c=true→d=true→m):m:=b2 h fun h1 h2=>b3 h2 (k h1)
theorem nt {b:Bool} (h:(!b)=true):b=false:=by cases b <;> first | rfl | cases h
theorem em_k {α:Type} {l:List α} (h:l.isEmpty=true):l=[]:=by cases l <;> first | rfl | cases h
noncomputable def gN (sc:Sc) (x:Str) (y:Str):Bool:=x==y&&sc.names.lookup x==some .globalImplicit&&!(x==("__debug__":Str))
noncomputable def consts:List (Str×Int):=[("NOWHERE",-1),("LEAST_MATCH_parse",2),("LEAST_MATCH_zencode",3),("MOST_OFFSET_CODE",31)]
noncomputable def funName (f:Nat):Str:=match funNames.lookup f with | some x=>Str.ofString x | none=>Str.ofString "?"
noncomputable def clsName (c:Nat):Str:=Str.ofString (classNames.getD c "?")
noncomputable def mLit (sc:Sc) (v:V) (e:Expr):Bool:=match v with
 | .none=>vConstant e (·==.none)
 | .bool b=>vConstant e (·==.bool b)
 | .int i=>vConstant e (·==.int i) || vName e fun x=>gN sc x x&&consts.lookup x==some i
 | .str x=>vConstant e (·==.str x)
 | .bytes _ | .tup _ | .ref _ | .flist _ | .range ..=>false
noncomputable def tNames:Bool→Expr→Option (List Str)
 | true,e=>(oName e).map ([·])
 | false,e=>(oTuple e).bind fun es=>es.mapM oName
noncomputable def nthName (ns:List Nat) (xs:List Str) (i:Nat):Option Str:=(ns.zip xs).lookup i
noncomputable def cKinds (sc:Sc) (scope:Scope):List (Str×NameKind):=scope.names.map fun p=>if p.2==.free&&sc.names.lookup p.1==some .cell then (p.1,.cell) else p
noncomputable def cNm (sc:Sc) (ks:List (Str×NameKind)) (ns:List Nat) (xs:List Str):List (Option Str) :=
 (List.range sc.nm.length).map fun i=>match nthName ns xs i with
  | some x=>some x
  | none=>match sc.nm[i]? with
   | some (some x)=>if ks.lookup x==some .cell || ks.lookup x==some .free then some x else none
   | _=>none
noncomputable def cSc (sc:Sc) (scope:Scope) (ns:List Nat) (xs:List Str):Sc:=⟨cNm sc (cKinds sc scope) ns xs,cKinds sc scope⟩
noncomputable def cOk (sc:Sc) (scope:Scope) (ns:List Nat) (xs:List Str):Bool :=
 scope.kind==.function&&decide ((scope.names.map (·.1)).Nodup)&&scope.names.all (fun p=>p.2 != .cell) &&
 scope.names.all (fun p=>p.2 != .free || ((sc.names.lookup p.1==some .cell || sc.names.lookup p.1==some .free)&&sc.nm.contains (some p.1))) &&
 decide ns.Nodup&&decide xs.Nodup&&ns.length==xs.length&&ns.all (fun n=>sc.nm[n]?==some none) &&
 xs.all (fun x=>scope.names.lookup x==some .local&&!(x==("__debug__":Str))&&!(x==("__classdict__":Str)))
noncomputable def noneLit (x:X):Bool:=if h:x.ctorIdx=0 then X.lit.elim (motive_1:=fun _=>Bool) x h fun v=>v.ctorIdx==0 else false
@[elab_as_elim] theorem noneLit_k {x:X} {m:X→Prop} (h:noneLit x=true) (k:m (.lit .none)):m x:=by
 by_cases q:x.ctorIdx=0
 ·refine X.lit.elim (motive_1:=fun x=>noneLit x=true→m x) x q (fun v h=>?_) h
  have h:(v.ctorIdx==0)=true:=h
  cases v <;> first | exact k | cases h
 ·rw [show noneLit x=false from dif_neg q] at h;cases h
noncomputable def oE (n:Bool) (r:Expr→Bool):Option Expr→Bool
 | none=>n
 | some e=>r e
noncomputable def line1 (as:List Expr) (a p:Pos):Bool:=decide (as.length<30)&&a.endLine==p.line
mutual
noncomputable def mE (sc:Sc):X→Expr→Bool
 | .lit v,e=>mLit sc v e
 | .rows,e=>vAttribute e fun o a _=>a==("MATCHES":Str)&&vName o fun y=>gN sc y "Rows"
 | .var n,e=>vName e fun x=>sc.nm[n]?==some (some x)
 | .bin o a b,e=>vBinOp e fun l op r=>op==sB o&&(mE sc a l&&mE sc b r)
 | .neg a,e=>vUnaryOp e fun op x=>op==.USub&&mE sc a x
 | .not a,e=>vUnaryOp e fun op x=>op==.Not&&mE sc a x
 | .bool c as,e=>vBoolOp e fun op vs=>op==(if c then .And else .Or)&&mEs sc as vs
 | .cmp a ops cs,e=>vCompare e fun l os rs=>os==ops.map sC&&(mE sc a l&&(mEs sc cs rs&&!lastMarks os rs))
 | .ite t a b,e=>vIfExp e fun x y z=>mE sc t x&&(mE sc a y&&mE sc b z)
 | .call f as,e=>vCall e fun g es ks pos=>ks.isEmpty&&(mEs sc as es&&(vName g (fun y=>gN sc y (funName f)&&(funNames.lookup f).isSome) ||
   vAttribute g fun o a ap=>f==4&&(vName o (fun z=>gN sc z "Matcher")&&(a==("__init__":Str)&&line1 es ap pos))))
 | .new c as,e=>vCall e fun g es ks _=>ks.isEmpty&&(mEs sc as es&&vName g fun y=>gN sc y (clsName c)&&decide (c<6))
 | .bi b as,e=>vCall e fun g es ks _=>ks.isEmpty&&(mEs sc as es&&vName g fun y=>gN sc y (Str.ofString (biName b)))
 | .meth o m as,e=>vCall e fun g es ks pos=>ks.isEmpty&&(mEs sc as es&&vAttribute g fun v a ap=>a==mname m&&(mE sc o v&&(!isCall0 v&&line1 es ap pos)))
 | .bmeth o m as,e=>vCall e fun g es ks pos=>ks.isEmpty&&(mEs sc as es&&vAttribute g fun v a ap=>a==bmName m&&(mE sc o v&&(!isCall0 v&&line1 es ap pos)))
 | .attr o f,e=>vAttribute e fun v a _=>a==fname f&&(mE sc o v&&!isCall0 v)
 | .idx o i,e=>vSubscript e fun v w=>mE sc o v&&(mE sc i w&&!isSlice w)
 | .slc o lo hi st,e=>vSubscript e fun v w=>mE sc o v&&vSlice w fun l u s=>oE (noneLit lo) (mE sc lo) l&&(oE (noneLit hi) (mE sc hi) u&&oE (noneLit st) (mE sc st) s)
 | .list as,e=>vList e (mEs sc as)
 | .tup as,e=>vTuple e (mEs sc as)
 | .dict0,e=>vDict e fun ks vs=>ks.isEmpty&&vs.isEmpty
 | .dict1 k v,e=>vDict e fun ks vs=>sing ks (oE false (mE sc k))&&sing vs (mE sc v)
 | .comp e1 one ns src ifs,e=>vListComp e fun el gs scope=>sing gs fun g=>g.is_async==0&&(!isSet g.iter&&(mE sc src g.iter&&(tNames one g.target).any fun xs =>
   cOk sc scope ns xs&&(mE (cSc sc scope ns xs) e1 el&&mEs (cSc sc scope ns xs) ifs g.ifs)))
noncomputable def mEs (sc:Sc):List X→List Expr→Bool
 | [],es=>es.isEmpty
 | x::xs,es=>match es with
  | e::es=>!isStar e&&(mE sc x e&&mEs sc xs es)
  | []=>false
end
noncomputable def tgK (sc:Sc) (n:Nat) (x:Str):Bool:=sc.nm[n]?==some (some x)&&(sc.names.lookup x==some .local || sc.names.lookup x==some .cell)
mutual
noncomputable def mT (sc:Sc):T→Expr→Bool
 | .var n,e=>vName e (tgK sc n)
 | .attr o f,e=>vAttribute e fun v a _=>a==fname f&&mE sc o v
 | .idx o i,e=>vSubscript e fun v w=>mE sc o v&&mE sc i w
 | .tup ts,e=>vTuple e (mTs sc ts)
noncomputable def mTs (sc:Sc):List T→List Expr→Bool
 | [],es=>es.isEmpty
 | t::ts,es=>match es with
  | e::es=>!isStar e&&(mT sc t e&&mTs sc ts es)
  | []=>false
end
noncomputable def mTgt (sc:Sc) (one:Bool) (ns:List Nat) (e:Expr):Bool:=(tNames one e).any fun xs=>ns.length==xs.length&&(ns.zip xs).all fun p=>tgK sc p.1 p.2
noncomputable def swapOk (target value:Expr):Bool:=!(target.ctorIdx==24)&&(!(target.ctorIdx==25) || vTuple target fun ts=>decide (ts.filterMap oName).Nodup&&(!(value.ctorIdx==25) || vTuple value fun vs=>!(vs.all (constantsAlone 8)) || vs.all (foldedForSure 8)))
mutual
noncomputable def mS (sc:Sc):S→Stmt→Bool
 | .assign t x,s=>zAssign s fun ts v=>sing ts fun tg=>mT sc t tg&&(mE sc x v&&swapOk tg v)
 | .aug n o x,s=>zAugAssign s fun y op v=>vName y (tgK sc n)&&(op==sB o&&mE sc x v)
 | .expr x,s=>zExpr s fun v=>mE sc x v&&!isComp v
 | .ret x,s=>zReturn s (oE (noneLit x) (mE sc x))
 | .ite t a b,s=>zIf s fun x y z=>mE sc t x&&(mSs sc a y&&mSs sc b z)
 | .whl t b,s=>zWhile s fun x y z=>z.isEmpty&&(mE sc t x&&mSs sc b y)
 | .for_ one ns src b,s=>zFor s fun tg it bo el=>el.isEmpty&&(mTgt sc one ns tg&&(mE sc src it&&(!isSet it&&mSs sc b bo)))
 | .brk,s=>s.ctorIdx==26
 | .cont,s=>s.ctorIdx==27
 | .pass,s=>s.ctorIdx==25
 | .fail,s=>s.ctorIdx==16
noncomputable def mSs (sc:Sc):List S→List Stmt→Bool
 | [],ss=>ss.isEmpty
 | x::xs,ss=>match ss with
  | s::ss=>mS sc x s&&mSs sc xs ss
  | []=>false
end
structure Body (A:Around) (k:Nat):Prop where
 depth:A.depth+4*k+3≤900
 units:A.units+40*k+530≤9900
 hand:A.handled=none
theorem Body.good {A:Around} {k:Nat} (b:Body A k):Good A k:=⟨by have:=b.depth;exact oz54 this,by have:=b.units;exact oz55 this,b.hand⟩
theorem Good.deeper {A:Around} {k:Nat} (g:Good A (k+1)) (env:Env):Body (A.deeper env) k :=
 ⟨by show A.depth+1+4*k+3≤900;have:=g.depth;exact oz56 this,by show A.units+3+40*k+530≤9900;have:=g.units;exact oz57 this,g.hand⟩
noncomputable def CP (C:Cx) (st:St) (s:Shared) (P:V→St→Prop):Result→Shared→Prop:=fun r s'=>∃ v,r=.ok (.ret v)∧EP C st s P v s'
noncomputable def CallF (C:Cx) (k:Nat):CallSem:=fun f vs st P=>∀ (A:Around) (s:Shared) (us:List Value),Good A k→WR C st s.heap→VRs st s.heap vs us→codeAny C.M A (.call (.ref (C.fn f)) ⟨us,[]⟩) (CP C st s P) s
structure CxOk (C:Cx):Prop where
 cls:ClsOk C
 eq:EqOk C
 late:BiLate C
 consts:∀ x i,consts.lookup x=some i→∃ t,C.mg x=some (.int i t)
 funs:∀ f,(funNames.lookup f).isSome=true→C.mg (funName f)=some (.ref (C.fn f))∧keepIn C.K (.ref (C.fn f))=true
 meths:∀ c m f,mt c m=some f→keepIn C.K (.ref (C.fn f))=true
 clss:∀ c<6,C.mg (clsName c)=some (.ref (C.cl c))∧keepIn C.K (.ref (C.cl c))=true
 init:∀ c f,mt c 0=some f→∀ h,C.K.In h→Looks C.M h (typeLookup (.ref (C.cl c)) "__init__") (some (.ref (C.fn f)))∧∀ self,Looks C.M h (bindSpecial (.ref (C.fn f)) self) (.ref (C.fn f),[self])
 mat:∃ m,C.mg "Matcher"=some (.ref m)∧keepIn C.K (.ref (C.fn 4))=true∧∀ {A:Around} {s:Shared} {pl:Sem Bool} {Q:Value×List Value→Shared→Prop} {E:Value→Shared→Prop},C.K.In s.heap→(∀ tk,Q (.ref (C.fn 4),[]) { s with toks:=tk }) →
  wpAny C.M A (getMethod (.ref m) "__init__" pl) Q E s
 rows:∃ m v,C.mg "Rows"=some (.ref m)∧(∀ st h,WR C st h→VR st h rowsV v)∧∀ {A:Around} {s:Shared} {Q:Value→Shared→Prop} {E:Value→Shared→Prop},C.K.In s.heap→(∀ tk,Q v { s with toks:=tk })→wpAny C.M A (getAttr (.ref m) "MATCHES" true) Q E s
 bis:∀ b,C.mg (Str.ofString (biName b))=none∧bootBuiltins (Str.ofString (biName b))=some (biF b)
section
variable {C:Cx} {st:St} {s:Shared} {A:Around} {sc:Sc} {env:Env} {ls:Ls} {k:Nat}
theorem EP.out {α:Type} {st1:St} {s1:Shared} {P:V→St→Prop} {m:Sem Value} (S:Step [] st s st1 s1) (h:wpAny C.M A m (EP C st1 s1 P) NoE s1):wpAny C.M A m (EP C st s P) NoE s1 :=
 wpAny_mono h (fun _ _ x=>EP.trans S x) fun _ _ x=>x
theorem seqE {α:Type} {P1:V→St→Prop} {m:Sem Value} {f:Value→Sem α} {Q:α→Shared→Prop} {E:Value→Shared→Prop} (h:wpAny C.M A m (EP C st s P1) NoE s)
  (n:∀ x st1 v s1,WR C st1 s1.heap→Step [] st s st1 s1→VR st1 s1.heap x v→P1 x st1→wpAny C.M A (f v) Q E s1):wpAny C.M A (m >>= f) Q E s :=
 wpAny_bind (wpAny_mono h (fun v s1 ⟨x,st1,w,z,r,p⟩=>n x st1 v s1 w z r p) fun _ _ e=>e.elim)
theorem seqH {α:Type} {P1:V→St→Prop} {l:List Value} {m:Sem Value} {f:Value→Sem α} {Q:α→Shared→Prop} {E:Value→Shared→Prop} (h:wpAny C.M A m (EP C st s P1) NoE s)
  (n:∀ x st1 v s1,WR C st1 s1.heap→Step [] st s st1 s1→VR st1 s1.heap x v→P1 x st1→wpAny C.M A (f v) Q E s1):wpAny C.M A (holding l m >>= f) Q E s :=
 wpAny_bind (wpAny_holding (wpAny_mono h (fun v s1 ⟨x,st1,w,z,r,p⟩=>n x st1 v s1 w z r p) fun _ _ e=>e.elim))
theorem starEach_plain {e:Expr} (h:isStar e=false) (r:List Expr) (env:Env):starEach (e::r) env=(false,eval e env)::starEach r env:=by
 cases e <;> first | rfl | cases h
theorem plain_any {pos:Pos} {env:Env}:∀ {es:List Expr},(∀ e∈es,isStar e=false)→(backTo pos (starEach es env)).any (·.1)=false
 | [],_=>rfl
 | e::r,h=>by
  rw [starEach_plain (h e (List.mem_cons_self ..))]
  show (false || (backTo pos (starEach r env)).any (·.1))=false
  rw [plain_any fun e he=>h e (List.mem_cons_of_mem _ he)];rfl
theorem cw_ok {f:Value} {first:List Value} {pos:Pos} {es:List Expr} {Q:Value→Shared→Prop} {E:Value→Shared→Prop} (hk:∀ h,C.K.In h→∃ k,(k=Keeper.frame∨k=Keeper.machine∨k=Keeper.boundFrame)∧Looks C.M h (keeperOf f) k)
  (hs:∀ e∈es,isStar e=false) (h:wpAny C.M A (spliced (backTo pos (starEach es env))) (fun vs s₁=>C.K.In s₁.heap∧wpAny C.M A (call f (first++vs)) Q E s₁) E s) :
  wpAny C.M A (callWith pos f first (backTo pos (starEach es env)) []) Q E s:=by
 refine callWith_of (P:=C.K.In) (by rw [plain_any hs];rfl) hk ?_
 cases es with
 | nil =>
  have h':wpAny C.M A (spliced []) (fun vs s₁=>C.K.In s₁.heap∧wpAny C.M A (call f (first++vs)) Q E s₁) E s:=h
  show wpAny C.M A (evalArgs f true [] []) _ E s
  unfold evalArgs
  show wpAny C.M A (spliced [] >>= _) _ E s
  refine wpAny_bind (wpAny_mono h' (fun vs s' h'=>?_) fun _ _ x=>x)
  refine wpAny_bind (wpAny_pure (wpAny_holding ?_))
  exact wpAny_bind (wpAny_pure (wpAny_bind (wpAny_pure (wpAny_pure h'))))
 | cons e r =>
  rw [starEach_plain (hs e (List.mem_cons_self ..))] at h ⊢
  exact evalArgs_plain h
theorem keep_machine {f:Value} (h:∀ a,f≠.ref a):∀ h,C.K.In h→∃ k,(k=Keeper.frame∨k=Keeper.machine∨k=Keeper.boundFrame)∧Looks C.M h (keeperOf f) k:=fun h' _ =>
 ⟨.machine,.inr (.inl rfl),Looks.of_pure (by cases f <;> first | rfl | exact absurd rfl (h _))⟩
theorem fn_ok {P:V→St→Prop} {f:Nat} {vs:List V} {us:List Value} (g:Good A k) (W:WR C st s.heap) (hv:VRs st s.heap vs us) (p:CallF C k f vs st P):wpAny C.M A (call (.ref (C.fn f)) us) (EP C st s P) NoE s:=by
 refine wpAny_call (codeAny_mono (p A s us g W hv) fun r s' h=>?_)
 obtain ⟨v,rfl,h⟩:=h
 exact h
theorem Body.under {A:Around} (b:Body A k) (a:Addr) (rest:List Value) (kw:List (Str×Value)):Good (A.under (.builtin "type.__call__" ⟨.ref a::rest,kw⟩)) k:=by
 have h1:=b.depth
 have h2:=b.units
 have w:(Code.builtin "type.__call__" ⟨.ref a::rest,kw⟩).weight=1:=by
  have h3:(Code.builtin "type.__call__" ⟨.ref a::rest,kw⟩).frames=0:=rfl
  have h4:(Code.builtin "type.__call__" ⟨.ref a::rest,kw⟩).isCreation=true:=rfl
  have h5:(Code.builtin "type.__call__" ⟨.ref a::rest,kw⟩).isGuard=false:=by unfold Code.isGuard;exact (by decide +kernel:guardIds.contains "type.__call__"=false)
  have h6:(Code.builtin "type.__call__" ⟨.ref a::rest,kw⟩).isCaller=false:=rfl
  unfold Code.weight
  rw [h3,h4,h5,h6];rfl
 have u:(Code.builtin "type.__call__" ⟨.ref a::rest,kw⟩).cUnits=1:=rfl
 refine ⟨?_,?_,b.hand⟩
 ·show A.depth+_+4*k≤900
  rw [w];exact oz58 h1
 ·show A.units+_+40*k+500≤9900
  rw [u];exact oz59 h2
theorem make_ok {P:V→St→Prop} {c:Nat} {vs:List V} {us:List Value} (X:CxOk C) (b:Body A k) (W:WR C st s.heap) (hv:VRs st s.heap vs us) (p:makeW (CallF C k) c vs st P):wpAny C.M A (call (.ref (C.cl c)) us) (EP C st s P) NoE s:=by
 unfold makeW at p
 obtain ⟨f,hm,p⟩:=p
 have hc:=(mt_lt hm).1
 obtain ⟨i1,i2⟩:=X.init c f hm s.heap W.inK
 refine wpAny_call ?_
 obtain ⟨h,g,d,t,os⟩:=s
 refine make_core (makes_of W.inK (X.cls.make c hc)) i1 i2 (.inl rfl) ?_
 have k2:∀ b o,h.get? b=some o→((h.push emptyDict).push (instObj (C.cl c) h.objs.size)).get? b=some o:=fun b o e=>Heap.get?_push_of_some _ (Heap.get?_push_of_some _ e)
 have ne:h.objs.size+1≠h.objs.size:=by exact oz60
 have hd:h.get? h.objs.size=none:=get?_ge (Nat.le_refl _)
 have ha:h.get? (h.objs.size+1)=none:=get?_ge (Nat.le_succ _)
 have sz:(h.push emptyDict).objs.size=h.objs.size+1:=Heap.size_push ..
 have ga:((h.push emptyDict).push (instObj (C.cl c) h.objs.size)).get? (h.objs.size+1)=some (instObj (C.cl c) h.objs.size):=by rw [← sz];exact Heap.get?_push_size _ rfl
 have gd:((h.push emptyDict).push (instObj (C.cl c) h.objs.size)).get? h.objs.size=some (dicO [] 0):=Heap.get?_push_of_some _ (Heap.get?_push_size _ rfl)
 have fa:=W.fresh ha
 have fd:=W.fresh hd
 have S1:Step [] st ⟨h,g,d,t,os⟩ (st.set h.objs.size (.aux (h.objs.size+1))) ⟨(h.push emptyDict).push (instObj (C.cl c) h.objs.size),g,d,t,os⟩:=Step.alloc k2 hd
 have W1:WR C ((st.set h.objs.size (.aux (h.objs.size+1)))) ((h.push emptyDict).push (instObj (C.cl c) h.objs.size)):=W.alloc k2 hd (by show Heap.get? _ _≠none;rw [gd];simp)
 have fa1:(st.set h.objs.size (.aux (h.objs.size+1))) (h.objs.size+1)=none:=by rw [St.set_other _ _ ne];exact fa
 have z0:C.h0.get? (h.objs.size+1)=none:=by
  cases q:C.h0.get? (h.objs.size+1) with
  | none=>rfl
  | some o=>rw [W.keep _ _ q] at ha;cases ha
 have W2:WR C ((st.set h.objs.size (.aux (h.objs.size+1))).set (h.objs.size+1) (.inst c [])) ((h.push emptyDict).push (instObj (C.cl c) h.objs.size)):={
  keep:=W1.keep
  obj:=fun a o e=>by
   rcases St.set_some e with ⟨rfl,rfl⟩ | ⟨hb,q⟩
   ·refine ⟨z0,h.objs.size,[],0,ga,gd,?_,rfl,fun _ hp=>(nomatch hp),by decide⟩
    rw [St.set_other _ _ (Ne.symm ne)];exact St.set_same ..
   ·refine ⟨(W1.obj a o q).1,(W1.obj a o q).2.mono (fun b hb=>St.set_dom _ _ _ _ hb) (fun b ob e1 e2 e3=>⟨?_,e2⟩) (fun _ e=>e) fun b hb=>⟨?_,fun _ e=>e⟩⟩
    ·rw [St.set_other];exact e1
     rintro rfl
     rw [ga] at e2;cases e2;cases e3
    ·rw [St.set_other];exact hb
     rintro rfl
     rw [fa1] at hb;cases hb }
 have S2:Step [] st ⟨h,g,d,t,os⟩ ((st.set h.objs.size (.aux (h.objs.size+1))).set (h.objs.size+1) (.inst c [])) ⟨(h.push emptyDict).push (instObj (C.cl c) h.objs.size),g,d,t,os⟩:={
  dom:=fun b hb=>St.set_dom _ _ _ _ (St.set_dom _ _ _ _ hb)
  new:=fun b hb e=>by
   have e':h.get? b≠none:=e
   rw [St.set_other,St.set_other];exact hb
   ·rintro rfl;exact e' hd
   ·rintro rfl;exact e' ha
  keep:=fun b o _ _ e=>k2 b o e
  kseq:=fun b o _ e _=>k2 b o e
  live:=S1.live
  gens:=rfl
  os:=rfl }
 have hst:((st.set h.objs.size (.aux (h.objs.size+1))).set (h.objs.size+1) (.inst c [])) (h.objs.size+1)≠none:=by rw [St.set_same];simp
 refine codeAny_mono (p (h.objs.size+1) h.objs.size ne fa fd _ _ _ (b.under _ _ _) W2 (.cons (And.intro rfl hst) (S2.vrs hv))) fun r s' hr=>?_
 refine ex1 hr fun v zq0=>?_;obtain rfl:=zq0.1;refine ex2 zq0.2 fun x st' zq1=>?_;have w:=zq1.1;have z:=zq1.2.1;have vr:=zq1.2.2.1;obtain rfl:=zq1.2.2.2.1;have q:=zq1.2.2.2.2;clear zq1 zq0 hr
 refine ⟨vr,.ref (h.objs.size+1),st',w,S2.trans z,?_,q⟩
 exact ⟨rfl,z.dom _ hst⟩
end
section
variable {C:Cx} {st:St} {s:Shared} {A:Around} {sc:Sc} {env:Env} {ls:Ls} {k:Nat}
theorem offWR {h h':Heap} {I:Addr} (W:WR C st h) (hk:∀ b o,b≠I→h.get? b=some o→h'.get? b=some o) (hI:st I=none) (h0:C.h0.get? I=none) (hs:∀ o,h.get? I=some o→still o=false):WR C st h' :=
 W.keeps (fun b o e z=>hk b o (by rintro rfl;rw [h0] at e;cases e) z) (fun b o e z w=>hk b o (by rintro rfl;rw [hs o z] at w;cases w) z) (fun b o e z=>hk b o (by rintro rfl;exact e hI) z)
theorem offVR {h h':Heap} {I:Addr} (hk:∀ b o,b≠I→h.get? b=some o→h'.get? b=some o) (hs:∀ o,h.get? I=some o→still o=false) {x:V} {v:Value} (e:VR st h x v):VR st h' x v :=
 VR.mono (fun _ h=>h) (fun b o e1 e2 e3=>⟨e1,hk b o (by rintro rfl;rw [hs o e2] at e3;cases e3) e2⟩) x e
theorem offStep {φ:List Addr} {stb:St} {sb:Shared} {h':Heap} {tk:Nat} {I:Addr} (S:Step φ stb sb st s) (hk:∀ b o,b≠I→s.heap.get? b=some o→h'.get? b=some o) (hI:sb.heap.get? I=none):Step φ stb sb st { s with heap:=h',toks:=tk } where
 dom:=S.dom
 new:=S.new
 keep b o e n z:=hk b o (by rintro rfl;rw [hI] at z;cases z) (S.keep b o e n z)
 kseq b o e z w:=hk b o (by rintro rfl;rw [hI] at z;cases z) (S.kseq b o e z w)
 live b e:=by
  cases q:s.heap.get? b with
  | none=>exact absurd q (S.live b e)
  | some o =>
   show h'.get? b≠none
   rw [hk b o (by rintro rfl;exact e hI) q];simp
 gens:=S.gens
 os:=S.os
theorem offFrR {h h':Heap} {I:Addr} (F:FrR C st h sc env ls) (hn:I∉fp env) (hk:∀ b o,b≠I→h.get? b=some o→h'.get? b=some o) (hs:∀ o,h.get? I=some o→still o=false):FrR C st h' sc env ls where
 len:=F.len
 out a ha:=by
  have zq0:=F.out a ha;have h1:=zq0.1;have h2:=zq0.2.1;have h3:=zq0.2.2;clear zq0
  refine ⟨h1,h2,?_⟩
  cases q:h.get? a with
  | none=>exact absurd q h3
  | some o=>rw [hk a o (by rintro rfl;exact hn ha) q];simp
 ns:=by
  refine ex2 (F.ns) fun m cm zq0=>?_;have n1:=zq0.1;have n2:=zq0.2.1;have n3:=zq0.2.2;clear zq0
  refine ⟨m,cm,n1.at' fun o e=>hk _ o (by rintro rfl;exact hn (List.mem_cons_self ..)) e,fun x c hc=>?_,fun i x v h1 h2=>?_⟩
  ·refine ex1 (n2 x c hc) fun o zq0=>?_;have h1:=zq0.1;have h2:=zq0.2;clear zq0
   exact ⟨o,hk c o (by rintro rfl;exact hn (fp_cell hc)) h1,h2⟩
  ·refine ex1 (n3 i x v h1 h2) fun u zq0=>?_;have u1:=zq0.1;have u2:=zq0.2;clear zq0
   exact ⟨u,u1,offVR hk hs u2⟩
noncomputable def clGo (env:Env):List (Str×NameKind)→List (Str×Addr)→List (Str×Addr)
 | [],acc=>acc
 | (n,k)::r,acc=>if k==.free then clGo env r ((n,(env.cells.lookup n).getD 0)::acc) else clGo env r acc
theorem clGo_pure (env:Env) (f:Str×NameKind→List (Str×Addr)→Sem (ForInStep (List (Str×Addr)))) (hf:∀ n k acc,f (n,k) acc=if k==.free then (do let a ← cellOf env n;pure (.yield ((n,a)::acc))) else pure (.yield acc)) :
  ∀ (names:List (Str×NameKind)) (acc:List (Str×Addr)),(∀ p∈names,p.2=.free→∃ c,env.cells.lookup p.1=some c)→forIn names acc f=pure (clGo env names acc)
 | [],acc,_=>rfl
 | (n,k)::r,acc,h=>by
  rw [List.forIn_cons,hf]
  unfold clGo
  by_cases hk:k==.free
  ·obtain ⟨c,hc⟩:=h (n,k) (List.mem_cons_self ..) (by simpa using hk)
   simp only [] at hc
   rw [if_pos hk,if_pos hk]
   unfold cellOf
   rw [hc]
   simp only [pure_bind]
   exact clGo_pure env f hf r _ fun p hp=>h p (List.mem_cons_of_mem _ hp)
  ·rw [if_neg hk,if_neg hk]
   simp only [pure_bind]
   exact clGo_pure env f hf r _ fun p hp=>h p (List.mem_cons_of_mem _ hp)
theorem clGo_mem (env:Env):∀ (names:List (Str×NameKind)) (acc:List (Str×Addr)),(∀ p∈names,p.2=.free→∃ c,env.cells.lookup p.1=some c)→(∀ p∈acc,env.cells.lookup p.1=some p.2) →
  (∀ p∈clGo env names acc,env.cells.lookup p.1=some p.2)∧(∀ p∈acc,p∈clGo env names acc)∧∀ p∈names,p.2=.free→∃ q∈clGo env names acc,q.1=p.1
 | [],acc,_,h=>⟨h,fun _ h=>h,fun _ h=>nomatch h⟩
 | (n,k)::r,acc,h,ha=>by
  unfold clGo
  have hr:∀ p∈r,p.2=.free→∃ c,env.cells.lookup p.1=some c:=fun p hp=>h p (List.mem_cons_of_mem _ hp)
  by_cases hk:k==.free
  ·obtain ⟨c,hc⟩:=h (n,k) (List.mem_cons_self ..) (by simpa using hk)
   simp only [] at hc
   rw [if_pos hk,hc]
   obtain ⟨i1,i2,i3⟩:=clGo_mem env r ((n,(some c).getD 0)::acc) hr (fun p hp=>by
    rcases List.mem_cons.mp hp with rfl | hp
    ·exact hc
    ·exact ha p hp)
   refine ⟨i1,fun p hp=>i2 p (List.mem_cons_of_mem _ hp),fun p hp hf=>?_⟩
   rcases List.mem_cons.mp hp with rfl | hp
   ·exact ⟨_,i2 _ (List.mem_cons_self ..),rfl⟩
   ·exact i3 p hp hf
  ·rw [if_neg hk]
   have zq0:=clGo_mem env r acc hr ha;have i1:=zq0.1;have i2:=zq0.2.1;have i3:=zq0.2.2;clear zq0
   refine ⟨i1,i2,fun p hp hf=>?_⟩
   rcases List.mem_cons.mp hp with rfl | hp
   ·exact absurd (by simp [show k=.free from hf]) hk
   ·exact i3 p hp hf
theorem clGo_apart (env:Env) (hap:env.cells.Pairwise fun x y=>x.2≠y.2):∀ (names:List (Str×NameKind)) (acc:List (Str×Addr)),(names.map (·.1)).Nodup→(∀ p∈names,p.2=.free→∃ c,env.cells.lookup p.1=some c)→(∀ p∈acc,env.cells.lookup p.1=some p.2) →
  (∀ p∈acc,p.1∉names.map (·.1))→acc.Pairwise (fun x y=>x.2≠y.2)→(clGo env names acc).Pairwise fun x y=>x.2≠y.2
 | [],acc,_,_,_,_,h=>h
 | (n,k)::r,acc,nd,h,ha,hn,hp=>by
  unfold clGo
  rw [List.map_cons,List.nodup_cons] at nd
  have hr:∀ p∈r,p.2=.free→∃ c,env.cells.lookup p.1=some c:=fun p hp=>h p (List.mem_cons_of_mem _ hp)
  have hn':∀ p∈acc,p.1∉r.map (·.1):=fun p hp hm=>hn p hp (List.mem_cons_of_mem _ hm)
  by_cases hk:k==.free
  ·obtain ⟨c,hc⟩:=h (n,k) (List.mem_cons_self ..) (by simpa using hk)
   simp only [] at hc
   rw [if_pos hk,hc]
   refine clGo_apart env hap r _ nd.2 hr (fun p hp=>?_) (fun p hp=>?_) (List.pairwise_cons.mpr ⟨fun y hy e=>?_,hp⟩)
   ·rcases List.mem_cons.mp hp with rfl | hp
    ·exact hc
    ·exact ha p hp
   ·rcases List.mem_cons.mp hp with rfl | hp
    ·exact nd.1
    ·exact hn' p hp
   ·have e':c=y.2:=e
    have h1:=mem_of_lookup hc
    have h2:=mem_of_lookup (ha y hy)
    have:=name_of_addr hap h1 (e'▸h2)
    exact hn y hy (by rw [← this];exact List.mem_cons_self ..)
  ·rw [if_neg hk]
   exact clGo_apart env hap r acc nd.2 hr ha hn' hp
theorem lookup_of_mem {α:Type}:∀ {l:List (Str×α)} {p:Str×α},p∈l→∃ c,l.lookup p.1=some c
 | q::r,p,h=>by
  rw [List.lookup_cons]
  cases hb:p.1==q.1 with
  | true=>exact ⟨_,rfl⟩
  | false =>
   rcases List.mem_cons.mp h with rfl | h
   ·simp at hb
   ·exact lookup_of_mem h
theorem closure_ok {scope:Scope} (hap:env.cells.Pairwise fun x y=>x.2≠y.2) (nd:(scope.names.map (·.1)).Nodup) (h:∀ p∈scope.names,p.2=.free→∃ c,env.cells.lookup p.1=some c) :
  ∃ cl,closureFor scope env=pure cl∧(∀ x c,cl.lookup x=some c→env.cells.lookup x=some c)∧(∀ p∈cl,env.cells.lookup p.1=some p.2)∧(∀ x,scope.names.lookup x=some .free→∃ c,cl.lookup x=some c)∧cl.Pairwise fun x y=>x.2≠y.2:=by
 have zq0:=clGo_mem env scope.names [] h (fun _ h=>nomatch h);have i1:=zq0.1;have i2:=zq0.2.1;have i3:=zq0.2.2;clear zq0
 refine ⟨clGo env scope.names [],?_,fun x c hc=>i1 _ (mem_of_lookup hc),i1,fun x hx=>?_,clGo_apart env hap _ _ nd h (fun _ h=>nomatch h) (fun _ h=>nomatch h) .nil⟩
 ·unfold closureFor
  simp only [pure_bind]
  rw [clGo_pure env _ (fun n k acc=>by cases hk:k==NameKind.free <;> simp [hk]) scope.names [] h]
  rfl
 ·refine ex1 (i3 (x,.free) (mem_of_lookup hx) rfl) fun q zq0=>?_;have q1:=zq0.1;have q2:=zq0.2;clear zq0
  refine ex1 (lookup_of_mem q1) fun c hc=>?_
  have q3:q.1=x:=q2
  exact ⟨c,q3▸hc⟩
noncomputable def mask (ls:Ls) (ns:List Nat):Ls:=(List.range ls.length).map fun i=>if ns.contains i then none else (ls[i]?).getD none
theorem mask_len (ls:Ls) (ns:List Nat):(mask ls ns).length=ls.length:=by simp [mask]
theorem mask_get (ls:Ls) (ns:List Nat) (i:Nat):(mask ls ns)[i]?=if i<ls.length then some (if ns.contains i then none else (ls[i]?).getD none) else none:=by
 unfold mask
 rw [List.getElem?_map]
 by_cases h:i<ls.length
 ·simp [h]
 ·simp [h]
theorem ckinds_eq {scope:Scope} (O:EnvOk sc env):(relabel scope env).names=cKinds sc scope:=by
 unfold relabel cKinds
 simp only
 refine List.map_congr_left fun p _=>?_
 obtain ⟨n,kd⟩:=p
 have:=O.kind n
 simp only [O.fn,this,beq_self_eq_true,Bool.and_true]
theorem ckinds_lookup {scope:Scope} (x:Str):(cKinds sc scope).lookup x=(scope.names.lookup x).map fun k=>if k==.free&&sc.names.lookup x==some .cell then .cell else k:=by
 unfold cKinds
 induction scope.names with
 | nil=>rfl
 | cons p r ih =>
  obtain ⟨n,kd⟩:=p
  rw [List.map_cons]
  by_cases hc:(kd==.free&&sc.names.lookup n==some .cell)=true
  ·simp only [hc,if_true,List.lookup_cons]
   cases hx:x==n with
   | true=>rw [beq_iff_eq.mp hx];simp only [Option.map_some,hc,if_true]
   | false=>exact ih
  ·have hc':(kd==.free&&sc.names.lookup n==some .cell)=false:=by simpa using hc
   simp only [hc',Bool.false_eq_true,if_false,List.lookup_cons]
   cases hx:x==n with
   | true=>rw [beq_iff_eq.mp hx];simp only [Option.map_some,hc',Bool.false_eq_true,if_false]
   | false=>exact ih
theorem zip_lookup_mem {ns:List Nat} {xs:List Str} {i:Nat} {x:Str} (h:nthName ns xs i=some x):(i,x)∈ns.zip xs:=by
 unfold nthName at h
 revert h
 generalize ns.zip xs=z
 induction z with
 | nil=>intro h;simp at h
 | cons p r ih =>
  intro h
  rw [List.lookup_cons] at h
  cases hb:i==p.1 with
  | true=>rw [hb] at h;cases h;rw [beq_iff_eq.mp hb];exact List.mem_cons_self ..
  | false=>rw [hb] at h;exact List.mem_cons_of_mem _ (ih h)
theorem zip_inj {ns:List Nat} {xs:List Str} (hx:xs.Nodup):∀ {i j:Nat} {x:Str},(i,x)∈ns.zip xs→(j,x)∈ns.zip xs→i=j:=by
 induction ns generalizing xs with
 | nil=>intro i j x h;simp at h
 | cons n r ih =>
  cases xs with
  | nil=>intro i j x h;simp at h
  | cons y ys =>
   intro i j x h1 h2
   rw [List.nodup_cons] at hx
   rw [List.zip_cons_cons] at h1 h2
   rcases List.mem_cons.mp h1 with e1 | h1 <;> rcases List.mem_cons.mp h2 with e2 | h2
   ·cases e1;cases e2;rfl
   ·cases e1;exact absurd (List.of_mem_zip h2).2 hx.1
   ·cases e2;exact absurd (List.of_mem_zip h1).2 hx.1
   ·exact ih hx.2 h1 h2
structure COk (sc:Sc) (scope:Scope) (ns:List Nat) (xs:List Str):Prop where
 fn:scope.kind=.function
 nd:(scope.names.map (·.1)).Nodup
 nocell:∀ p∈scope.names,p.2≠.cell
 free:∀ p∈scope.names,p.2=.free→sc.names.lookup p.1=some .cell∨sc.names.lookup p.1=some .free
 slot:∀ p∈scope.names,p.2=.free→some p.1∈sc.nm
 nns:ns.Nodup
 nxs:xs.Nodup
 len:ns.length=xs.length
 out:∀ n∈ns,sc.nm[n]?=some none
 loc:∀ x∈xs,scope.names.lookup x=some .local∧(x==("__debug__":Str))=false∧(x==("__classdict__":Str))=false
theorem COk.of {scope:Scope} {ns:List Nat} {xs:List Str} (h:cOk sc scope ns xs=true):COk sc scope ns xs:=by
 unfold cOk at h
 simp only [Bool.and_eq_true,decide_eq_true_eq,beq_iff_eq,List.all_eq_true,Bool.or_eq_true,bne_iff_ne,Bool.not_eq_true',ne_eq,List.contains_iff_mem] at h
 obtain ⟨⟨⟨⟨⟨⟨⟨⟨h1,h2⟩,h3⟩,h4⟩,h5⟩,h6⟩,h7⟩,h8⟩,h9⟩:=h
 exact ⟨h1,h2,h3,fun p hp hf=>(h4 p hp).elim (fun h=>absurd hf h) (fun h=>h.1),fun p hp hf=>(h4 p hp).elim (fun h=>absurd hf h) (fun h=>h.2),h5,h6,h7,h8,fun x hx=>⟨(h9 x hx).1.1,(h9 x hx).1.2,(h9 x hx).2⟩⟩
theorem cnm_get {ks:List (Str×NameKind)} {ns:List Nat} {xs:List Str} {i:Nat} {x:Str} (h:(cNm sc ks ns xs)[i]?=some (some x)) :
  (nthName ns xs i=some x)∨(nthName ns xs i=none∧sc.nm[i]?=some (some x)∧(ks.lookup x=some .cell∨ks.lookup x=some .free)):=by
 unfold cNm at h
 rw [List.getElem?_map] at h
 refine ex1 (Option.map_eq_some_iff.mp h) fun j zq0=>?_;have hj:=zq0.1;have h2:=zq0.2;clear zq0
 clear h
 have hji:j=i:=by
  have:=List.getElem?_eq_some_iff.mp hj
  refine ex1 this fun a b=>?_;clear this
  rw [List.getElem_range] at b;exact b.symm
 subst hji
 cases q:nthName ns xs j with
 | some y=>rw [q] at h2;exact .inl (by simpa using h2)
 | none =>
  rw [q] at h2
  refine .inr ⟨rfl,?_⟩
  simp only [] at h2
  split at h2
  ·rename_i y hy
   split at h2
   ·rename_i hk
    simp only [Option.some.injEq] at h2
    subst h2
    simp only [Bool.or_eq_true,beq_iff_eq] at hk
    exact ⟨hy,hk⟩
   ·cases h2
  ·cases h2
theorem nth_none {ns:List Nat} {xs:List Str} (hl:ns.length=xs.length) {i:Nat} (h:nthName ns xs i=none):i∉ns:=by
 intro hm
 unfold nthName at h
 obtain ⟨j,hj,rfl⟩:=List.mem_iff_getElem.mp hm
 have:(ns[j],xs[j]'(hl▸hj))∈ns.zip xs:=by
  have hz:j<(ns.zip xs).length:=by rw [List.length_zip];exact oz61 hj hl
  have:=List.getElem_mem hz
  rwa [List.getElem_zip] at this
 have:=List.lookup_eq_none_iff.mp h _ this
 simp at this
theorem comp_env {scope:Scope} {ns:List Nat} {xs:List Str} {cl:List (Str×Addr)} {cA:Addr} {h h':Heap} (O:EnvOk sc env) (K:COk sc scope ns xs) (F:FrR C st h sc env ls)
  (hc1:∀ x c,cl.lookup x=some c→env.cells.lookup x=some c) (hc2:∀ p∈cl,env.cells.lookup p.1=some p.2) (hc3:∀ x,scope.names.lookup x=some .free→∃ c,cl.lookup x=some c) (hc4:cl.Pairwise fun x y=>x.2≠y.2)
  (hn:h'.Ns cA fun _=>none) (hst:st cA=none) (h0:C.h0.get? cA=none) (hf:h.get? cA=none) (hk:∀ b o,h.get? b=some o→h'.get? b=some o) :
  EnvOk (cSc sc scope ns xs) (compEnvC scope cl cA env)∧FrR C st h' (cSc sc scope ns xs) (compEnvC scope cl cA env) (mask ls ns):=by
 have hloc:∀ {i:Nat} {x:Str},nthName ns xs i=some x→(cKinds sc scope).lookup x=some .local∧x∈xs:=fun {i x} h=>by
  have hx:=(List.of_mem_zip (zip_lookup_mem h)).2
  rw [ckinds_lookup,(K.loc x hx).1]
  exact ⟨by simp,hx⟩
 have hcap:∀ {x:Str},((cKinds sc scope).lookup x=some .cell∨(cKinds sc scope).lookup x=some .free)→scope.names.lookup x=some .free:=fun {x} h=>by
  rw [ckinds_lookup] at h
  cases q:scope.names.lookup x with
  | none=>rw [q] at h;simp at h
  | some kd =>
   rw [q] at h
   have hnc:=K.nocell _ (mem_of_lookup q)
   simp only [Option.map_some,Option.some.injEq] at h
   by_cases hk:(kd==.free&&sc.names.lookup x==some .cell)=true
   ·simp only [Bool.and_eq_true,beq_iff_eq] at hk;rw [hk.1]
   ·simp only [hk,Bool.false_eq_true,if_false] at h
    rcases h with h | h
    ·exact absurd h hnc
    ·rw [h]
 have live:∀ {x:Str} {c:Addr},env.cells.lookup x=some c→h.get? c≠none:=fun {x c} e=>(F.out c (fp_cell e)).2.2
 constructor
 ·refine ⟨K.fn,ckinds_eq O,O.gl,O.bi,fun i j x hi hj=>?_,fun x hx=>?_,fun x hx=>?_,hc4,fun p hp e=>?_⟩
  ·rcases cnm_get hi with hi | ⟨_,hi,hki⟩ <;> rcases cnm_get hj with hj | ⟨_,hj,hkj⟩
   ·exact zip_inj K.nxs (zip_lookup_mem hi) (zip_lookup_mem hj)
   ·rw [(hloc hi).1] at hkj;simp at hkj
   ·rw [(hloc hj).1] at hki;simp at hki
   ·exact O.inj i j x hi hj
  ·refine ex1 (List.mem_iff_getElem?.mp hx) fun i hi=>?_
   rcases cnm_get hi with hi | ⟨_,hi,hki⟩
   ·exact .inl (hloc hi).1
   ·exact .inr ⟨hki,hc3 x (hcap hki)⟩
  ·refine ex1 (List.mem_iff_getElem?.mp hx) fun i hi=>?_
   rcases cnm_get hi with hi | ⟨_,hi,hki⟩
   ·exact (K.loc x (hloc hi).2).2
   ·exact O.nd x (List.mem_of_getElem? hi)
  ·have e':p.2=cA:=e
   exact live (hc2 p hp) (e'▸hf)
 ·refine ex2 (F.ns) fun m cm zq0=>?_;have n1:=zq0.1;have n2:=zq0.2.1;have n3:=zq0.2.2;clear zq0
  refine ⟨?_,fun a ha=>?_,fun _=>none,cm,hn,fun x c hc=>?_,fun i x v hi hv=>?_⟩
  ·rw [mask_len,F.len];simp [cSc,cNm]
  ·rcases List.mem_cons.mp ha with ea | ha
   ·have ea':a=cA:=ea
    rw [ea']
    exact ⟨hst,h0,by obtain ⟨o,_,_,e,_⟩:=hn;rw [e];simp⟩
   ·refine ex1 (List.mem_map.mp ha) fun p zq0=>?_;have hp:=zq0.1;obtain rfl:=zq0.2;clear zq0
    have zq0:=F.out p.2 (fp_cell (hc2 p hp));have q1:=zq0.1;have q2:=zq0.2.1;have q3:=zq0.2.2;clear zq0
    refine ⟨q1,q2,?_⟩
    cases q:h.get? p.2 with
    | none=>exact absurd q q3
    | some o=>rw [hk _ o q];simp
  ·refine ex1 (n2 x c (hc1 x c hc)) fun o zq0=>?_;have e:=zq0.1;have d:=zq0.2;clear zq0
   exact ⟨o,hk c o e,d⟩
  ·rw [mask_get] at hv
   split at hv
   ·rename_i hlt
    simp only [Option.some.injEq] at hv
    split at hv
    ·cases hv
    ·rename_i hni
     rcases cnm_get hi with hi | ⟨_,hi,hki⟩
     ·exact absurd (by simpa using (List.of_mem_zip (zip_lookup_mem hi)).1) hni
     ·have hfree:=hcap hki
      have hout:=K.free _ (mem_of_lookup hfree) rfl
      have hnl:¬ sc.names.lookup x=some .local:=by rcases hout with e | e <;> rw [show sc.names.lookup x=_ from e] <;> simp
      have hnl2:¬ (cSc sc scope ns xs).names.lookup x=some .local:=by
       show ¬ (cKinds sc scope).lookup x=some .local
       rcases hki with e | e <;> rw [e] <;> simp
      have hl:ls[i]?=some (some v):=by
       cases q:ls[i]? with
       | none=>rw [q] at hv;simp at hv
       | some w=>rw [q] at hv;simp only [Option.getD_some] at hv;rw [hv]
      refine ex1 (n3 i x v hi hl) fun u zq0=>?_;have u1:=zq0.1;have u2:=zq0.2;clear zq0
      rw [if_neg hnl] at u1
      exact ⟨u,by rw [if_neg hnl2];exact u1,VR.mono (fun _ h=>h) (fun b o e1 e2 _=>⟨e1,hk b o e2⟩) v u2⟩
   ·cases hv
end
section
variable {C:Cx} {st:St} {s:Shared} {A:Around} {sc:Sc} {env:Env} {ls:Ls} {k:Nat}
theorem Step.fresh {φ:List Addr} {stb st':St} {sb s':Shared} (S:Step [] stb sb st s) (S':Step φ st s st' s') (h:∀ a∈φ,sb.heap.get? a=none):Step [] stb sb st' s' where
 dom b e:=S'.dom b (S.dom b e)
 new b e z:=S'.new b (S.new b e z) (S.live b z)
 keep b o e _ z:=S'.keep b o (S.new b e (by rw [z];simp)) (fun hm=>by rw [h b hm] at z;cases z) (S.keep b o e (fun h=>nomatch h) z)
 kseq b o e z w:=S'.kseq b o (S.new b e (by rw [z];simp)) (S.kseq b o e z w) w
 live b e:=S'.live b (S.live b e)
 gens:=S'.gens.trans S.gens
 os:=S'.os.trans S.os
theorem FrR.less {h:Heap} {ls':Ls} (F:FrR C st h sc env ls) (hl:ls'.length=ls.length) (hm:∀ (i:Nat) (v:V),ls'[i]?=some (some v)→ls[i]?=some (some v)):FrR C st h sc env ls' where
 len:=hl.trans F.len
 out:=F.out
 ns:=by
  refine ex2 (F.ns) fun m cm zq0=>?_;have n1:=zq0.1;have n2:=zq0.2.1;have n3:=zq0.2.2;clear zq0
  exact ⟨m,cm,n1,n2,fun i x v h1 h2=>n3 i x v h1 (hm i v h2)⟩
theorem setAll_len:∀ {ns:List Nat} {vs:List V} {ls ls':Ls},setAll ls ns vs=some ls'→ls'.length=ls.length
 | [],[],ls,ls',h=>by simp only [setAll,Option.some.injEq] at h;rw [h]
 | n::ns,v::vs,ls,ls',h=>by
  simp only [setAll] at h
  rw [setAll_len h,List.length_set]
 | [],_::_,_,_,h=>by simp [setAll] at h
 | _::_,[],_,_,h=>by simp [setAll] at h
theorem setAll_other:∀ {ns:List Nat} {vs:List V} {ls ls':Ls},setAll ls ns vs=some ls'→∀ i,i∉ns→ls'[i]?=ls[i]?
 | [],[],ls,ls',h,i,_=>by simp only [setAll,Option.some.injEq] at h;rw [h]
 | n::ns,v::vs,ls,ls',h,i,hi=>by
  simp only [setAll] at h
  rw [setAll_other h i (fun hm=>hi (List.mem_cons_of_mem _ hm)),List.getElem?_set_ne (by rintro rfl;exact hi (List.mem_cons_self ..))]
 | [],_::_,_,_,h,_,_=>by simp [setAll] at h
 | _::_,[],_,_,h,_,_=>by simp [setAll] at h
theorem setAll_agree:∀ {ns:List Nat} {vs:List V} {l1 l2 l':Ls},l1.length=l2.length→(∀ i,i∉ns→l1[i]?=l2[i]?)→setAll l1 ns vs=some l'→setAll l2 ns vs=some l'
 | [],[],l1,l2,l',_,ha,h=>by
  simp only [setAll,Option.some.injEq] at h ⊢
  rw [← h];exact (List.ext_getElem? fun i=>ha i (fun h=>nomatch h)).symm
 | n::ns,v::vs,l1,l2,l',hl,ha,h=>by
  simp only [setAll] at h ⊢
  refine setAll_agree (by rw [List.length_set,List.length_set,hl]) (fun i hi=>?_) h
  by_cases hn:n=i
  ·subst hn
   rw [List.getElem?_set,List.getElem?_set,hl,if_pos rfl,if_pos rfl]
  ·rw [List.getElem?_set_ne hn,List.getElem?_set_ne hn]
   exact ha i (fun hm=>(List.mem_cons.mp hm).elim (fun e=>hn e.symm) hi)
 | [],_::_,_,_,_,_,_,h=>by simp [setAll] at h
 | _::_,[],_,_,_,_,_,h=>by simp [setAll] at h
theorem mask_other (ls:Ls) (ns:List Nat) (i:Nat) (h:i∉ns):ls[i]?=(mask ls ns)[i]?:=by
 rw [mask_get]
 by_cases hi:i<ls.length
 ·rw [if_pos hi,if_neg (by simpa using h),List.getElem?_eq_getElem hi];rfl
 ·rw [if_neg hi,List.getElem?_eq_none (by exact oz62 hi)]
theorem mask_none (ls:Ls) (ns:List Nat) (i:Nat) (v:V) (h:(mask ls ns)[i]?=some (some v)):i∉ns:=by
 intro hm
 rw [mask_get] at h
 split at h
 ·rw [if_pos (by simpa using hm)] at h;cases h
 ·cases h
noncomputable def bindL (one:Bool) (ns:List Nat) (v:V) (ls ls':Ls):Prop:=match one with
 | true=>∃ n,ns=[n]∧setAll ls [n] [v]=some ls'
 | false=>∃ l,v=.tup l∧setAll ls ns l=some ls'
theorem bindT_L {one:Bool} {ns:List Nat} {v:V} {P:Ls→Prop} (h:bindT one ns v ls P):∃ ls',bindL one ns v ls ls'∧P ls':=by
 unfold bindT at h
 unfold bindL
 split at h
 ·split at h
  ·exact ⟨_,⟨_,rfl,rfl⟩,h⟩
  ·exact h.elim
 ·split at h
  ·refine ex1 h fun ls' zq0=>?_;have h1:=zq0.1;have h2:=zq0.2;clear zq0 h
   exact ⟨ls',⟨_,rfl,h1⟩,h2⟩
  ·exact h.elim
theorem bindL_mask {one:Bool} {ns:List Nat} {v:V} {ls':Ls} (h:bindL one ns v ls ls'):bindL one ns v (mask ls ns) ls':=by
 unfold bindL at h ⊢
 split at h
 ·obtain ⟨n,rfl,h⟩:=h
  exact ⟨n,rfl,setAll_agree (mask_len ls _).symm (fun i hi=>mask_other ls _ i hi) h⟩
 ·obtain ⟨l,rfl,h⟩:=h
  exact ⟨l,rfl,setAll_agree (mask_len ls _).symm (fun i hi=>mask_other ls _ i hi) h⟩
theorem bindL_less {h:Heap} {one:Bool} {ns:List Nat} {v:V} {ls':Ls} (b:bindL one ns v (mask ls ns) ls') (F:FrR C st h sc env ls'):FrR C st h sc env (mask ls ns):=by
 unfold bindL at b
 split at b
 ·obtain ⟨n,rfl,b⟩:=b
  exact F.less (setAll_len b).symm fun i v hv=>(setAll_other b i (mask_none _ _ _ _ hv)).trans hv
 ·obtain ⟨l,rfl,b⟩:=b
  exact F.less (setAll_len b).symm fun i v hv=>(setAll_other b i (mask_none _ _ _ _ hv)).trans hv
theorem unpack_ok {l:List V} {u:Value} {Q:List Value→Shared→Prop} {E:Value→Shared→Prop} (g:Good A k) (W:WR C st s.heap) (hv:VR st s.heap (.tup l) u)
  (h:∀ us s',WR C st s'.heap→Step [] st s st s'→VRs st s'.heap l us→Q us s'):wpAny C.M A (unpackItems u l.length none) Q E s:=by
 refine ex4 hv fun a o vs n zq0=>?_;obtain rfl:=zq0.1;have q2:=zq0.2.1;have q3:=zq0.2.2.1;have q4:=zq0.2.2.2.1;have q5:=zq0.2.2.2.2.1;have q6:=zq0.2.2.2.2.2.1;have q7:=zq0.2.2.2.2.2.2;clear zq0 hv
 have hl:=q6.length
 rw [Array.length_toList] at hl
 rw [← hl]
 refine wpAny_unpackItems_tuple g.hand ⟨o,q3,q4,n,q5⟩ fun h' hs=>?_
 have kk:∀ b o,s.heap.get? b=some o→h'.get? b=some o:=fun b o e=>hs b o (lt_of_get e) e
 exact h _ _ (W.all kk) (Step.all kk) (VRs.mono (fun _ h=>h) (fun b o e1 e2 _=>⟨e1,kk b o e2⟩) l q6)
inductive Nms:List Expr→List Str→Prop
 | nil:Nms [] []
 | cons (x:Str) (p:Pos) (es:List Expr) (xs:List Str) (r:Nms es xs):Nms (.Name x p::es) (x::xs)
@[elab_as_elim] theorem oName_s {e:Expr} {x:Str} {m:Expr→Prop} (h:oName e=some x) (k:∀ p,m (.Name x p)):m e:=by
 by_cases q:e.ctorIdx=23
 ·refine Expr.Name.elim (motive_1:=fun e=>oName e=some x→m e) e q (fun y p h=>?_) h
  have h:some y=some x:=h
  cases h;exact k p
 ·rw [show oName e=none from dif_neg q] at h;cases h
theorem nms_of:∀ {es:List Expr} {xs:List Str},es.mapM oName=some xs→Nms es xs
 | [],xs,h=>by cases h;exact .nil
 | e::es,xs,h=>by
  rw [List.mapM_cons] at h
  refine ex1 (Option.bind_eq_some_iff.mp h) fun x zq0=>?_;have h1:=zq0.1;have h:=zq0.2;clear zq0
  refine ex1 (Option.bind_eq_some_iff.mp h) fun ys zq0=>?_;have h2:=zq0.1;have h:=zq0.2;clear zq0
  cases h
  exact oName_s h1 fun p=>.cons x p es ys (nms_of h2)
inductive SA:Ls→List Nat→List V→Ls→Prop
 | nil (ls:Ls):SA ls [] [] ls
 | cons {n:Nat} {v:V} {ls ls':Ls} {ns:List Nat} {l:List V} (r:SA (ls.set n (some v)) ns l ls'):SA ls (n::ns) (v::l) ls'
theorem sa_of:∀ {ns:List Nat} {l:List V} {ls ls':Ls},setAll ls ns l=some ls'→SA ls ns l ls'
 | [],[],_,_,h=>by cases h;exact .nil _
 | _::_,_::_,_,_,h=>.cons (sa_of h)
 | [],_::_,_,_,h=>nomatch h
 | _::_,[],_,_,h=>nomatch h
theorem SA.len {ns:List Nat} {l:List V} {ls ls':Ls} (h:SA ls ns l ls'):l.length=ns.length:=by
 induction h with
 | nil=>rfl
 | cons _ ih=>exact congrArg Nat.succ ih
@[elab_as_elim] theorem VRs.unc {st:St} {h:Heap} {x:V} {xs:List V} {us:List Value} {m:List Value→Prop} (e:VRs st h (x::xs) us) (k:∀ v r,VR st h x v→VRs st h xs r→m (v::r)):m us:=by
 refine ex2 e fun v r zq0=>?_;obtain rfl:=zq0.1;have e1:=zq0.2.1;have e2:=zq0.2.2;clear zq0 e
 exact k v r e1 e2
@[elab_as_elim] theorem tn_cases {b:Bool} {e:Expr} {xs:List Str} (h:tNames b e=some xs) {m:Bool→Expr→List Str→Prop} (h1:∀ x p,m true (.Name x p) [x]) (h2:∀ es n p,Nms es xs→m false (.Tuple es n p) xs):m b e xs:=by
 cases b
 ·by_cases q:e.ctorIdx=25
  ·refine Expr.Tuple.elim (motive_1:=fun e=>tNames false e=some xs→m false e xs) e q (fun es n p h=>?_) h
   have h:es.mapM oName=some xs:=h
   exact h2 es n p (nms_of h)
  ·rw [show tNames false e=none from by show (oTuple e).bind _=_;rw [show oTuple e=none from dif_neg q];rfl] at h;cases h
 ·refine ex1 (Option.map_eq_some_iff.mp h) fun x zq0=>?_;have h3:=zq0.1;have h4:=zq0.2;clear zq0
  cases h4
  exact oName_s h3 fun p=>h1 x p
structure TgtOk (sc:Sc) (env:Env) (φ:List Addr) (n:Nat) (x:Str):Prop where
 at_:sc.nm[n]?=some (some x)
 nf:sc.names.lookup x≠some .free
 loc:(sc.names.lookup x=some .local→env.locals∈φ)∧∀ c,sc.names.lookup x=some .cell→env.cells.lookup x=some c→c∈φ
theorem names_ok {φ:List Addr} (O:EnvOk sc env) {es:List Expr} {xs:List Str} (hn:Nms es xs):∀ {ns:List Nat} {l:List V} {us:List Value} {s:Shared} {ls ls':Ls} {Q:Unit→Shared→Prop} {E:Value→Shared→Prop},
  (∀ p∈ns.zip xs,TgtOk sc env φ p.1 p.2)→ns.length=xs.length→WR C st s.heap→FrR C st s.heap sc env ls→VRs st s.heap l us→SA ls ns l ls' →
  (∀ s',WR C st s'.heap→Step φ st s st s'→FrR C st s'.heap sc env ls'→Q () s')→wpAny C.M A (assignInOrder ((assignEach es env).map (·.2)) us) Q E s:=by
 induction hn with
 | nil =>
  intro ns l us s ls ls' Q E ht hl W F hv hs h
  cases hs with
  | nil=>exact wpAny_pure (h s W (.refl ..) F)
  | cons _=>cases hl
 | cons x p es xs _ ih =>
  intro ns l us s ls ls' Q E ht hl W F hv hs h
  cases hs with
  | nil=>cases hl
  | cons hs =>
   refine hv.unc fun u us' v1 v2=>?_
   obtain ⟨t1,t2,t3⟩:=ht _ (List.mem_cons_self ..)
   show wpAny C.M A (do holding us' (assign (.Name x p) env u);assignInOrder ((assignEach es env).map (·.2)) us') Q E s
   refine wpAny_bind (wpAny_holding (wpAny_assign_Name (st_ok O W F t1 t2 t3 v1 fun s' W' S' F'=>?_)))
   exact ih (fun q hq=>ht q (List.mem_cons_of_mem _ hq)) (Nat.succ.inj hl) W' F' (S'.vrs v2) hs fun s'' W'' S'' F''=>h s'' W'' (S'.trans S'') F''
theorem assignEach_plain (env:Env) {es:List Expr} {xs:List Str} (h:Nms es xs):(assignEach es env).findIdx? (·.1)=none∧(assignEach es env).length=xs.length:=by
 induction h with
 | nil=>exact ⟨rfl,rfl⟩
 | cons x p es xs _ ih =>
  have i1:=ih.1;have i2:=ih.2;clear ih
  constructor
  ·show List.findIdx? (·.1) ((false,assign (.Name x p) env)::assignEach es env)=none
   rw [List.findIdx?_cons,i1];rfl
  ·exact congrArg Nat.succ i2
theorem bind_ok {φ:List Addr} {one:Bool} {ns:List Nat} {xs:List Str} {target:Expr} {v:V} {u:Value} {ls':Ls} {Q:Unit→Shared→Prop} {E:Value→Shared→Prop} (g:Good A k) (O:EnvOk sc env) (W:WR C st s.heap) (F:FrR C st s.heap sc env ls) (hv:VR st s.heap v u)
  (htn:tNames one target=some xs) (hl:ns.length=xs.length) (ht:∀ p∈ns.zip xs,TgtOk sc env φ p.1 p.2) (hb:bindL one ns v ls ls') (h:∀ s',WR C st s'.heap→Step φ st s st s'→FrR C st s'.heap sc env ls'→Q () s'):wpAny C.M A (assign target env u) Q E s:=by
 refine tn_cases (m:=fun one target xs=>ns.length=xs.length→(∀ p∈ns.zip xs,TgtOk sc env φ p.1 p.2)→bindL one ns v ls ls'→wpAny C.M A (assign target env u) Q E s) htn (fun x p hl ht hb=>?_) (fun es e1 e2 hn hl ht hb=>?_) hl ht hb
 ·obtain ⟨n,rfl,hc⟩:∃ n',ns=[n']∧setAll ls [n'] [v]=some ls':=hb
  cases hc
  obtain ⟨t1,t2,t3⟩:=ht _ (List.mem_cons_self ..)
  exact wpAny_assign_Name (st_ok O W F t1 t2 t3 hv h)
 ·obtain ⟨l,rfl,hc⟩:∃ l,v=.tup l∧setAll ls ns l=some ls':=hb
  have zq0:=assignEach_plain env hn;have a1:=zq0.1;have a2:=zq0.2;clear zq0
  have hs:=sa_of hc
  show wpAny C.M A (do standAt e2;unpack u (assignEach es env)) Q E s
  refine wpAny_bind (wpAny_standAt ?_)
  unfold unpack
  rw [a1,a2,← hl,← hs.len]
  refine wpAny_bind (wpAny_holding (unpack_ok g W hv fun us s' W' S' V'=>?_))
  exact names_ok O hn ht hl W' (F.stp S') V' hs fun s'' W'' S'' F''=>h s'' W'' (S'.nil.trans S'') F''
end
noncomputable abbrev testsOf (fs:List Expr) (env:Env):Sem Bool:=forIn fs true fun c r=>if r=true then do let ok ← isTrue c env (eval c env);pure (ForInStep.yield ok) else pure (ForInStep.yield r)
theorem comp_turns {C:Cx} {A:Around} {R:Result→Shared→Prop} {s:Shared} {elt target iter:Expr} {ifs:List Expr} {scope:Scope} {pos:Pos} {it acc:Value} {env:Env} (I:Nat→Shared→Prop)
  (turn:∀ n s,I n s→wpAny C.M A (pyNext it) (fun r s₁=>match r with
   | none=>R (.ok .next) s₁
   | some v=>wpAny C.M A (letOwnedTupleGo target it v) (fun _ s₁'=>wpAny C.M A (assign target env v) (fun _ s₂ =>
     wpAny C.M A (testsOf ifs env) (fun ok s₃ =>
      if ok=true then wpAny C.M A (eval elt env) (fun x s₄ =>
       wpAny C.M A (call (.builtin "list.append") [acc,x]) (fun _ s₅=>∃ m,m<n∧I m s₅) NoE s₄) NoE s₃
      else ∃ m,m<n∧I m s₃) NoE s₂) NoE s₁') NoE s₁) NoE s)
  (n:Nat) (h:I n s):codeAny C.M A (.compLoop (.ListComp elt [⟨target,iter,ifs,0⟩] scope pos) 0 it acc env) R s:=by
 have no:∀ {E:Value→Shared→Prop} (e:Value) (s:Shared),NoE e s→E e s:=fun _ _ h=>h.elim
 refine codeAny_loop rfl I (fun n s hI=>?_) n h
 show wpAny _ A ((compTurn (.ListComp elt [⟨target,iter,ifs,0⟩] scope pos) 0 it acc env).onRaise (fun x=>do noteFrame x env;theTreesLotGoes x)) _ _ s
 refine wpAny_noted ?_
 rw [compTurn_list]
 refine wpAny_bind (wpAny_standAt (wpAny_bind (wpAny_mono (turn n s hI) (fun r s₁ h₁=>?_) no)))
 cases r with
 | none=>exact wpAny_pure h₁
 | some v =>
  refine wpAny_bind (wpAny_mono h₁ (fun _ s₁' h₁'=>?_) no)
  refine wpAny_bind (wpAny_mono h₁' (fun _ s₂ h₂=>wpAny_bind (wpAny_mono h₂ (fun ok s₃ h₃=>?_) no)) no)
  cases ok with
  | false=>exact wpAny_pure ⟨rfl,h₃⟩
  | true =>
   exact wpAny_bind (wpAny_bind (wpAny_mono h₃ (fun x s₄ h₄=>wpAny_bind (wpAny_mono h₄ (fun _ s₅ h₅=>wpAny_pure (wpAny_pure ⟨rfl,h₅⟩)) no)) no))
section
variable {C:Cx} {st:St} {s:Shared} {A:Around} {sc:Sc} {env:Env} {ls:Ls} {k:Nat}
theorem zip_lookup:∀ {ns:List Nat} {xs:List Str} {p:Nat×Str},ns.Nodup→p∈ns.zip xs→nthName ns xs p.1=some p.2
 | [],xs,p,_,h=>by simp at h
 | n::ns,[],p,_,h=>by simp at h
 | n::ns,x::xs,p,nd,h=>by
  rw [List.nodup_cons] at nd
  rw [List.zip_cons_cons] at h
  unfold nthName
  rw [List.zip_cons_cons,List.lookup_cons]
  rcases List.mem_cons.mp h with rfl | h
  ·simp
  ·have hne:(p.1==n)=false:=by
    cases hb:p.1==n with
    | false=>rfl
    | true=>exact absurd (beq_iff_eq.mp hb▸(List.of_mem_zip h).1) nd.1
   rw [hne]
   exact zip_lookup nd.2 h
theorem BP.mk {α:Type} {P:α→St→Prop} {b:α} {s':Shared} {st':St} (W:WR C st' s'.heap) (S:Step [] st s st' s') (p:P b st'):BP C st s P b s':=⟨st',W,S,p⟩
theorem lookup_nodup {α:Type}:∀ {l:List (Str×α)} {p:Str×α} {v:α},(l.map (·.1)).Nodup→p∈l→p.2=v→l.lookup p.1=some v
 | q::r,p,v,nd,h,e=>by
  rw [List.map_cons,List.nodup_cons] at nd
  rw [List.lookup_cons]
  rcases List.mem_cons.mp h with rfl | h
  ·simp [e]
  ·have:(p.1==q.1)=false:=by
    cases hb:p.1==q.1 with
    | false=>rfl
    | true=>exact absurd (List.mem_map.mpr ⟨p,h,beq_iff_eq.mp hb⟩) nd.1
   rw [this]
   exact lookup_nodup nd.2 h e
theorem notSet {iter:Expr} {env:Env} (h:isSet iter=false) (x:Value):foldedSetIterable iter env x=pure x:=by
 cases iter <;> first | rfl | cases h
theorem go_ok {one:Bool} {target:Expr} {xs:List Str} {ns:List Nat} {v:V} {ls ls':Ls} {h:Heap} {w i:Value} {Q:Unit→Shared→Prop} {E:Value→Shared→Prop} (htn:tNames one target=some xs) (hb:bindL one ns v ls ls') (hw:VR st h v w) (hq:Q () s)
  (hgo:∀ es n p,(∃ r,w=.ref r)→wpAny C.M A (letOwnedTupleGo (.Tuple es n p) i w) Q E s):wpAny C.M A (letOwnedTupleGo target i w) Q E s:=by
 refine tn_cases (m:=fun one target _=>bindL one ns v ls ls'→wpAny C.M A (letOwnedTupleGo target i w) Q E s) htn (fun x p _=>wpAny_pure hq) (fun es n p _ hb=>hgo es n p ?_) hb
 obtain ⟨l,rfl,_⟩:∃ l,v=.tup l∧setAll ls ns l=some ls':=hb
 refine ex4 hw fun r _ _ _ zq0=>?_;have e:=zq0.1;clear zq0 hw
 exact ⟨r,e⟩
theorem and3 {a b c P:Prop} (h:a∧b∧c) (k:a→b→c→P):P:=k h.1 h.2.1 h.2.2
theorem and4 {a b c d P:Prop} (h:a∧b∧c∧d) (k:a→b→c→d→P):P:=k h.1 h.2.1 h.2.2.1 h.2.2.2
theorem and8 {a b c d e f g i P:Prop} (h:a∧b∧c∧d∧e∧f∧g∧i) (k:a→b→c→d→e→f→g→i→P):P:=and4 h fun h1 h2 h3 h=>k h1 h2 h3 h.1 h.2.1 h.2.2.1 h.2.2.2.1 h.2.2.2.2
theorem and9 {a b c d e f g i j P:Prop} (h:a∧b∧c∧d∧e∧f∧g∧i∧j) (k:a→b→c→d→e→f→g→i→j→P):P:=and4 h fun h1 h2 h3 h=>k h1 h2 h3 h.1 h.2.1 h.2.2.1 h.2.2.2.1 h.2.2.2.2.1 h.2.2.2.2.2
theorem comp_core {P:V→St→Prop} {Q:Value→Shared→Prop} {E:Value→Shared→Prop} {elt iter target:Expr} {fs:List Expr} {scope:Scope} {pos spos:Pos} {use:Option (Value→Sem Unit)} {one:Bool} {ns:List Nat} {xs:List Str} {e1:X} {ifs:List X}
  (b:Body A k) (O:EnvOk sc env) (K:COk sc scope ns xs) (htn:tNames one target=some xs) (hset:isSet iter=false) (F:FrR C st s.heap sc env ls)
  (hsrc:wpAny C.M A (eval iter env) (EP C st s fun v st=>compW (wpE (CallF C k) e1) (wpTs (CallF C k) true ifs) one ns v ls st P) NoE s)
  (helt:∀ {env':Env} {st:St} {s:Shared} {ls:Ls} {P:V→St→Prop},EnvOk (cSc sc scope ns xs) env'→WR C st s.heap→FrR C st s.heap (cSc sc scope ns xs) env' ls→wpE (CallF C k) e1 ls st P→wpAny C.M A (eval elt env') (EP C st s P) NoE s)
  (htest:∀ {env':Env} {st:St} {s:Shared} {ls:Ls} {P:Bool→St→Prop},EnvOk (cSc sc scope ns xs) env'→WR C st s.heap→FrR C st s.heap (cSc sc scope ns xs) env' ls→wpTs (CallF C k) true ifs ls st P→wpAny C.M A (testsOf fs env') (BP C st s P) NoE s)
  (hend:∀ a st' s' cA m,WR C st' s'.heap→Step [] st s st' s'→st' a≠none→P (.ref a) st'→s.heap.get? cA=none→C.h0.get? cA=none→st' cA=none→s'.heap.Ns cA m→compPost C.M A E use Q (.ref a) cA (.ok .next) s') :
  wpAny C.M A (comprehension (.ListComp elt [⟨target,iter,fs,0⟩] scope pos) scope env spos (newList []) false (eval iter env) use) Q E s:=by
 have no:∀ {E:Value→Shared→Prop} (e:Value) (s:Shared),NoE e s→E e s:=fun _ _ h=>h.elim
 have hfree:∀ p∈scope.names,p.2=.free→∃ c,env.cells.lookup p.1=some c:=fun p hp hf=>by
  have h1:=K.free p hp hf
  rcases O.slot p.1 (K.slot p hp hf) with hl | ⟨_,hc⟩
  ·rcases h1 with e | e <;> rw [hl] at e <;> cases e
  ·exact hc
 refine ex1 (closure_ok O.apart K.nd hfree) fun cl zq0=>?_;have c0:=zq0.1;have c1:=zq0.2.1;have c2:=zq0.2.2.1;have c3:=zq0.2.2.2.1;have c4:=zq0.2.2.2.2;clear zq0
 have hset':=notSet (env:=env) hset
 refine wpAny_comprehension_free rfl hset' c0 K.fn (fun y hy hl=>?_) (wpAny_mono hsrc (fun xv s₁ ⟨x,st1,W1,S1,V1,p1⟩=>?_) no)
 ·exact lookup_nodup K.nd hy hl
 unfold compW at p1
 refine wpAny_mono (iter_ok (k:=k) W1 V1 p1) (fun it s₂ hI=>?_) no
 refine ex4 hI fun I items chk T hI=>and8 hI fun e hK W2 S2 fI1 fI2 T0 IO=>?_
 subst e
 refine wpAny_newList ?_ (Nat.zero_le _)
 have k3:∀ b o,s₂.heap.get? b=some o→(s₂.heap.push { cls:=.type "list",data:=.seq ([]:List Value).toArray }).get? b=some o:=fun b o z=>Heap.get?_push_of_some _ z
 have fa:s₂.heap.get? s₂.heap.objs.size=none:=get?_ge (Nat.le_refl _)
 generalize hH:s₂.heap.push { cls:=.type "list",data:=.seq ([]:List Value).toArray }=H2 at k3 ⊢
 have hA:H2.objs.size=s₂.heap.objs.size+1:=by rw [← hH,Heap.size_push]
 have ga2:H2.get? s₂.heap.objs.size=some (seqO "list" [] 0):=by rw [← hH];exact Heap.get?_push_size _ rfl
 refine wpAny_newFunctionEnv K.nocell (fun y hy=>by simp at hy) (fun h₁ hns hsb=>?_) K.fn
 dsimp only at hns hsb ⊢
 generalize ha:s₂.heap.objs.size=a at *
 generalize hc:H2.objs.size=cA at *
 have hac:a≠cA:=by exact oz63 hA
 have fc:H2.get? cA=none:=by rw [← hc];exact get?_ge (Nat.le_refl _)
 have k4:∀ b o,H2.get? b=some o→h₁.get? b=some o:=fun b o e=>hsb.extBut b o (by rintro rfl;rw [fc] at e;cases e) (Heap.get?_push_of_some _ e)
 have fc2:s₂.heap.get? cA=none:=by
  cases q:s₂.heap.get? cA with
  | none=>rfl
  | some o=>rw [k3 _ _ q] at fc;cases fc
 have old:∀ b o,s₂.heap.get? b=some o→h₁.get? b=some o:=fun b o e=>k4 b o (k3 b o e)
 have sa:st1 a=none:=W2.fresh fa
 have c0h:C.h0.get? cA=none:=by
  cases q:C.h0.get? cA with
  | none=>rfl
  | some o=>rw [W2.keep _ _ q] at fc2;cases fc2
 refine ex1 (hK a sa) fun Inv zq0=>?_;have i0:=zq0.1;have i1:=zq0.2.1;have i2:=zq0.2.2;clear zq0
 have orl:∀ st h,h.get? a=some (seqO "list" [] 0)→OR C st h a (.list []):=fun st h e=>⟨[],0,e,rfl,by simp⟩
 have SH:Step [] st1 s₂ (st1.set a (.list [])) { s₂ with heap:=H2 }:=Step.alloc k3 fa
 have S3:Step [] st1 s₂ (st1.set a (.list [])) { s₂ with heap:=h₁,toks:=s₂.toks+([]:List (Str×Value)).length }:=Step.alloc old fa
 have W3:WR C (st1.set a (.list [])) h₁:=W2.alloc old fa (orl _ _ (k4 _ _ ga2))
 have FH:FrR C (st1.set a (.list [])) H2 sc env ls:=((F.stp S1).stp S2).stp SH
 have scA:(st1.set a (.list [])) cA=none:=by rw [St.set_other _ _ (Ne.symm hac)];exact W2.fresh fc2
 have zq0:=comp_env (cA:=cA) O K FH c1 c2 c3 c4 hns scA c0h fc k4;have O':=zq0.1;have F':=zq0.2;clear zq0
 have frI:∀ c,c∈fp (compEnvC scope cl cA env)→I≠c:=fun c hm e=>by
  subst e
  refine ex1 (IO.live _ _ T0) fun o zq0=>?_;have e:=zq0.1;clear zq0
  rcases List.mem_cons.mp hm with e2 | hm
  ·have e2':I=cA:=e2
   rw [e2',fc2] at e;cases e
  ·refine ex1 (List.mem_map.mp hm) fun p zq0=>?_;have hp:=zq0.1;have e2:=zq0.2;clear zq0
   have e2':p.2=I:=e2
   have hz:=((F.stp S1).out p.2 (fp_cell (c2 p hp))).2.2
   rw [e2'] at hz;exact hz fI1
 have frI':I∉fp (compEnvC scope cl cA env):=fun hm=>frI I hm rfl
 have cA1:s₁.heap.get? cA=none:=by
  cases q:s₁.heap.get? cA with
  | none=>rfl
  | some o=>exact absurd fc2 (S2.live cA (by rw [q];simp))
 have cI0:C.h0.get? I=none:=by
  cases q:C.h0.get? I with
  | none=>rfl
  | some o=>rw [W1.keep _ _ q] at fI1;cases fI1
 have loop:∀ s₃:Shared,s₃={ s₂ with heap:=h₁,toks:=s₂.toks+([]:List (Str×Value)).length } →
   codeAny C.M A (.compLoop (.ListComp elt [⟨target,iter,fs,0⟩] scope pos) 0 (.ref I) (.ref a) (compEnvC scope cl cA env)) (compPost C.M A E use Q (.ref a) cA) s₃:=by
  rintro s₃ rfl
  refine comp_turns (fun n s=>∃ i acc st',i+n=items.length∧Inv i acc st'∧WR C st' s.heap∧Step [] st1 s₁ st' s∧T i s.heap∧st' I=none∧st' cA=none∧FrR C st' s.heap (cSc sc scope ns xs) (compEnvC scope cl cA env) (mask ls ns)∧VR st' s.heap x xv)
   ?_ items.length ⟨0,[],_,by exact oz64,i0,W3,S2.trans S3,IO.frame _ _ _ T0 (fun o e=>old _ _ e),?_,scA,F',S3.vr (S2.vr V1)⟩
  ·intro n s3 hI
   refine ex3 hI fun i acc st' hI=>and9 hI fun hn hinv W4 S4 T4 sI sC F4 V4=>?_
   have hst4:∀ o,s3.heap.get? I=some o→still o=false:=fun o e=>by
    refine ex1 (IO.live _ _ T4) fun o' zq0=>?_;have e':=zq0.1;have h':=zq0.2;clear zq0
    rw [e] at e';cases e';exact h'
   cases n with
   | zero =>
    have hi:i=items.length:=by exact oz65 hn
    subst hi
    have zq0:=i2 acc st' hinv;have q1:=zq0.1;have q2:=zq0.2.1;have q3:=zq0.2.2;clear zq0
    refine IO.done b.good T4 W4 V4 q1 fun h' tk hk=>?_
    have F5:=offFrR F4 frI' hk hst4
    refine ex2 (F5.ns) fun m _ zq0=>?_;have n1:=zq0.1;clear zq0
    exact hend a st' _ cA m (offWR W4 hk sI cI0 hst4) (S1.trans (offStep S4 hk fI1)) (by rw [q2];simp) q3 (by
     cases q:s.heap.get? cA with
     | none=>rfl
     | some o=>exact absurd cA1 (S1.live cA (by rw [q];simp))) c0h sC n1
   | succ n =>
    have hi:i<items.length:=by exact oz66 hn
    have zq0:=i1 i acc st' items[i] (List.getElem?_eq_getElem hi) hinv;have q1:=zq0.1;have q2:=zq0.2.1;have q3:=zq0.2.2;clear zq0
    refine ex1 (bindT_L q3) fun ls' zq0=>?_;have hb:=zq0.1;have q4:=zq0.2;clear zq0
    refine IO.item b.good T4 W4 V4 sI q1 (List.getElem?_eq_getElem hi) fun w h' tk hw T5 hs=>?_
    have hk:∀ b o,b≠I→s3.heap.get? b=some o→h'.get? b=some o:=fun b o hne e=>(hs.2 b hne).trans e
    have W5:WR C st' h':=offWR W4 hk sI cI0 hst4
    have F5:=offFrR F4 frI' hk hst4
    have V5:=offVR hk hst4 V4
    have w5:=offVR hk hst4 hw
    have S5:Step [] st1 s₁ st' { s3 with heap:=h',toks:=tk }:=offStep S4 hk fI1
    have go:wpAny C.M A (letOwnedTupleGo target (.ref I) w) (fun _ s'=>s'={ s3 with heap:=h',toks:=tk }) NoE { s3 with heap:=h',toks:=tk }:=go_ok htn hb w5 rfl fun _ _ _ hr=>IO.go T5 hr rfl
    refine wpAny_mono go (fun _ s' hs'=>?_) no
    subst hs'
    refine bind_ok (φ:=[cA]) b.good O' W5 F5 w5 htn K.len (fun p hp=>?_) (bindL_mask hb) fun s6 W6 S6 F6=>?_
    ·refine ex1 (List.mem_iff_getElem?.mp hp) fun j hj=>?_
     have hx:=(List.of_mem_zip hp).2
     have hlk:(cKinds sc scope).lookup p.2=some .local:=by rw [ckinds_lookup,(K.loc p.2 hx).1];simp
     refine ⟨?_,?_,fun _=>List.mem_cons_self ..,fun c hc=>?_⟩
     ·show (cNm sc (cKinds sc scope) ns xs)[p.1]?=some (some p.2)
      have hn1:nthName ns xs p.1=some p.2:=zip_lookup K.nns hp
      have hlt:p.1<sc.nm.length:=by
       have:=K.out p.1 (List.of_mem_zip hp).1
       exact (List.getElem?_eq_some_iff.mp this).1
      unfold cNm
      rw [List.getElem?_map,List.getElem?_range hlt]
      simp only [Option.map_some,hn1]
     ·show (cKinds sc scope).lookup p.2≠some .free
      rw [hlk];simp
     ·have hc':(cKinds sc scope).lookup p.2=some .cell:=hc
      rw [hlk] at hc';cases hc'
    have S6':Step [] st1 s₁ st' s6:=S5.fresh S6 (fun c hc=>by rw [List.mem_singleton.mp hc];exact cA1)
    refine wpAny_mono (htest O' W6 F6 q4) (fun c s7 ⟨st7,W7,S7,q7⟩=>?_) no
    have F7:=F6.stp S7
    have aI:∀ {st'':St} {s'':Shared},Step [] st' s6 st'' s''→st'' I=none∧st'' cA=none∧T (i+1) s''.heap∧VR st'' s''.heap x xv:=fun {st'' s''} S=>by
     have T6:T (i+1) s6.heap:=IO.frame _ _ _ T5 fun o e=>S6.keep I o sI (by
      intro hm;exact frI cA (List.mem_cons_self ..) (List.mem_singleton.mp hm)) e
     refine ex1 (IO.live _ _ T6) fun o zq0=>?_;have e:=zq0.1;clear zq0
     refine ex2 (F6.ns) fun m6 _ zq0=>?_;have n6:=zq0.1;clear zq0
     refine ex3 n6 fun o2 _ _ zq0=>?_;have e2:=zq0.1;clear zq0 n6
     have e2':s6.heap.get? cA=some o2:=e2
     exact ⟨S.new I sI (by rw [e];simp),S.new cA sC (by rw [e2'];simp),IO.frame _ _ _ T6 fun o e=>S.keep I o sI (fun h=>nomatch h) e,S.vr (S6.vr V5)⟩
    cases c with
    | false =>
     have zq0:=aI S7;have r1:=zq0.1;have r2:=zq0.2.1;have r3:=zq0.2.2.1;have r4:=zq0.2.2.2;clear zq0
     exact ⟨n,Nat.lt_succ_self _,i+1,acc,st7,by exact oz67 hn,q7,W7,S6'.trans S7,r3,r1,r2,bindL_less (bindL_mask hb) F7,r4⟩
    | true =>
     refine wpAny_mono (helt O' W7 F7 q7) (fun y s8 ⟨y',st8,W8,S8,V8,q8⟩=>?_) no
     obtain ⟨q8,q9,q10⟩:=q8
     refine wpAny_mono (append_ok (P:=fun _ st=>st=st8.set a (.list (acc++[y']))) W8 q8 V8 q9 rfl) (fun _ s9 ⟨_,st9,W9,S9,_,q11⟩=>?_) no
     subst q11
     have zq0:=aI ((S7.trans S8).trans S9);have r1:=zq0.1;have r2:=zq0.2.1;have r3:=zq0.2.2.1;have r4:=zq0.2.2.2;clear zq0
     exact ⟨n,Nat.lt_succ_self _,i+1,_,_,by exact oz67 hn,q10,W9,((S6'.trans S7).trans S8).trans S9,r3,r1,r2,bindL_less (bindL_mask hb) ((F7.stp S8).stp S9),r4⟩
  ·refine ex1 (IO.live _ _ T0) fun o zq0=>?_;have e:=zq0.1;clear zq0
   rw [St.set_other];exact fI2
   rintro rfl;rw [fa] at e;cases e
 exact codeAny_compStart_list (loop _ rfl) (IO.self (IO.frame _ _ _ T0 fun o e=>old _ _ e) (loop _ rfl))
end
section
variable {C:Cx} {st:St} {s:Shared} {A:Around} {sc:Sc} {env:Env} {ls:Ls} {k:Nat}
theorem noE {E:Value→Shared→Prop} (e:Value) (s:Shared) (h:NoE e s):E e s:=h.elim
theorem EP.out' {st1:St} {s1:Shared} {P:V→St→Prop} {m:Sem Value} (S:Step [] st s st1 s1) (h:wpAny C.M A m (EP C st1 s1 P) NoE s1):wpAny C.M A m (EP C st s P) NoE s1 :=
 wpAny_mono h (fun _ _ x=>EP.trans S x) fun _ _ x=>x
theorem EPs.out {st1:St} {s1:Shared} {P:List V→St→Prop} {m:Sem (List Value)} (S:Step [] st s st1 s1) (h:wpAny C.M A m (EPs C st1 s1 P) NoE s1):wpAny C.M A m (EPs C st s P) NoE s1 :=
 wpAny_mono h (fun _ _ ⟨x,st',w,z,r⟩=>⟨x,st',w,S.trans z,r⟩) fun _ _ x=>x
theorem BP.out {α:Type} {st1:St} {s1:Shared} {P:α→St→Prop} {m:Sem α} (S:Step [] st s st1 s1) (h:wpAny C.M A m (BP C st1 s1 P) NoE s1):wpAny C.M A m (BP C st s P) NoE s1 :=
 wpAny_mono h (fun _ _ ⟨st',w,z,r⟩=>⟨st',w,S.trans z,r⟩) fun _ _ x=>x
theorem seqEs {α:Type} {P1:List V→St→Prop} {m:Sem (List Value)} {f:List Value→Sem α} {Q:α→Shared→Prop} {E:Value→Shared→Prop} (h:wpAny C.M A m (EPs C st s P1) NoE s)
  (n:∀ x st1 v s1,WR C st1 s1.heap→Step [] st s st1 s1→VRs st1 s1.heap x v→P1 x st1→wpAny C.M A (f v) Q E s1):wpAny C.M A (m >>= f) Q E s :=
 wpAny_bind (wpAny_mono h (fun v s1 ⟨x,st1,w,z,r,p⟩=>n x st1 v s1 w z r p) noE)
theorem seqB {α β:Type} {P1:β→St→Prop} {m:Sem β} {f:β→Sem α} {Q:α→Shared→Prop} {E:Value→Shared→Prop} (h:wpAny C.M A m (BP C st s P1) NoE s)
  (n:∀ b st1 s1,WR C st1 s1.heap→Step [] st s st1 s1→P1 b st1→wpAny C.M A (f b) Q E s1):wpAny C.M A (m >>= f) Q E s :=
 wpAny_bind (wpAny_mono h (fun v s1 ⟨st1,w,z,p⟩=>n v st1 s1 w z p) noE)
noncomputable def hasItems (o:V) (st:St):Prop:=match o with
 | .bytes _=>True
 | .tup _=>True
 | .flist _=>True
 | .ref a=>(∃ l,st a=some (.list l))∨∃ es n,st a=some (.dict es n)
 | _=>False
theorem idxW_items {o i:V} {P:V→St→Prop} (p:idxW o i st P):hasItems o st:=by
 unfold idxW at p
 cases i with
 | int i =>
  have p:idxI o i st P:=p
  unfold idxI at p
  cases o with
  | bytes _=>trivial
  | tup _=>trivial
  | flist _=>trivial
  | ref a =>
   dsimp only at p
   unfold idxR at p
   split at p
   ·rename_i e;exact .inl ⟨_,e⟩
   ·rename_i e;exact .inr ⟨_,_,e⟩
   ·exact p.elim
  | _=>exact p.elim
 | _=>exact p.elim
theorem slcW_items {o l h t:V} {P:V→St→Prop} (p:slcW o l h t st P):hasItems o st:=by
 unfold slcW at p
 split at p
 ·split at p
  ·trivial
  ·refine ex2 p fun l m zq0=>?_;have p1:=zq0.1;clear zq0 p
   unfold itemsOf at p1
   split at p1
   ·trivial
   ·trivial
   ·split at p1
    ·rename_i e;exact .inl ⟨_,e⟩
    ·cases p1
   ·cases p1
 ·refine ex2 p.2.2.2 fun a l zq0=>?_;obtain rfl:=zq0.1;have e:=zq0.2.1;clear zq0 p
  exact .inl ⟨_,e⟩
 ·exact p.elim
theorem items_type {o:V} {a:Value} (W:WR C st s.heap) (ha:VR st s.heap o a) (h:hasItems o st):∃ T id,s.TypeIs a T∧typeLookup (.type T) "__getitem__"=pure (some (.builtin id)):=by
 cases o <;> simp only [hasItems] at h
 ·refine ex2 ha fun b t zq0=>?_;obtain rfl:=zq0.1;clear zq0 ha
  exact ⟨_,_,typeIs_bytes _ _ _,FB.slot_bytes_getitem.lookup⟩
 ·refine ex4 ha fun r o vs n zq0=>?_;obtain rfl:=zq0.1;have q1:=zq0.2.1;have q2:=zq0.2.2.1;have q3:=zq0.2.2.2.1;have q4:=zq0.2.2.2.2.1;clear zq0 ha
  exact ⟨_,_,⟨o,q2,q3⟩,F.slot_tuple_getitem.lookup⟩
 ·have zq0:=ha.isRef;obtain rfl:=zq0.1;clear zq0
  rcases h with ⟨l,e⟩ | ⟨es,n,e⟩
  ·refine ex2 (isList W e) fun vs n zq0=>?_;have e1:=zq0.1;clear zq0
   exact ⟨_,_,⟨_,e1,rfl⟩,slot_list_getitem.lookup⟩
  ·refine ex1 (isDict W e) fun kvs zq0=>?_;have e1:=zq0.1;have e2:=zq0.2.1;have e3:=zq0.2.2.1;have e4:=zq0.2.2.2;clear zq0
   exact ⟨_,_,e4.typeIs,slot_dict_getitem.lookup⟩
 ·refine ex4 ha fun r o vs n zq0=>?_;obtain rfl:=zq0.1;have q1:=zq0.2.1;have q2:=zq0.2.2.1;have q3:=zq0.2.2.2.1;have q4:=zq0.2.2.2.2.1;clear zq0 ha
  exact ⟨_,_,⟨o,q2,q3⟩,slot_list_getitem.lookup⟩
theorem sub_by (m:Sem Value→Prop) {slice:Expr} {o i:Value} (a:m (operate [i,o] (getItem o i))) (b:m (operate [o,i] (getItem o i))):m (subscripted slice false o i):=by
 cases slice <;> first | exact b | (rename_i x _;cases x <;> first | exact a | exact b)
theorem sub_end {e slice:Expr} {o i:Value} {Q:Value→Shared→Prop} {E:Value→Shared→Prop} {T id:String} (hT:s.TypeIs o T) (hl:typeLookup (.type T) "__getitem__"=pure (some (.builtin id))) (h:wpAny C.M A (getItem o i) Q E s) :
  wpAny C.M A (do let r ← subscripted slice (← getitemInPython o) o i;letTemporaryGo e o r;pure r) Q E s:=by
 have g:wpAny C.M A (getitemInPython o) (fun b s'=>b=false∧s'=s) E s:=by
  unfold getitemInPython
  exact wpAny_bind (wpAny_specialOf hT hl (wpAny_pure ⟨rfl,rfl⟩))
 refine wpAny_bind (wpAny_mono g (fun b s' ⟨e1,e2⟩=>?_) fun _ _ x=>x)
 subst e1 e2
 have h2:wpAny C.M A (subscripted slice false o i) Q E s':=sub_by (fun x=>wpAny C.M A x Q E s') (wpAny_operate' h) (wpAny_operate' h)
 exact wpAny_bind (wpAny_mono h2 (fun v s' hv=>wpAny_bind (wpAny_letTemporaryGo (wpAny_pure hv))) fun _ _ x=>x)
theorem gN_of {x y:Str} (h:gN sc x y=true):x=y∧sc.names.lookup x=some .globalImplicit∧(x==("__debug__":Str))=false:=by
 unfold gN at h
 simp only [Bool.and_eq_true,beq_iff_eq,Bool.not_eq_true'] at h
 exact ⟨h.1.1,h.1.2,h.2⟩
theorem lit_ok {P:V→St→Prop} {v:V} {e:Expr} (X:CxOk C) (O:EnvOk sc env) (W:WR C st s.heap) (hm:mLit sc v e=true) (p:P v st):wpAny C.M A (eval e env) (EP C st s P) NoE s:=by
 cases v with
 | none =>
  refine vConstant_k hm fun c n pos hm=>?_
  cases eq_of_beq hm
  exact wpAny_pure (EP.now W (.refl ..) (by exact rfl) p)
 | bool b =>
  refine vConstant_k hm fun c n pos hm=>?_
  cases eq_of_beq hm
  exact wpAny_pure (EP.now W (.refl ..) .mkBool p)
 | int i =>
  rcases Bool.or_eq_true_iff.mp hm with hm | hm
  ·refine vConstant_k hm fun c n pos hm=>?_
   cases eq_of_beq hm
   rw [arm_eval_Constant]
   exact wpAny_mkInt (EP.num W rfl .mkInt p)
  ·refine vName_k hm fun x pos hm=>?_
   refine b2 hm fun h1 h2=>?_
   have zq0:=gN_of h1;have h2':=zq0.2.1;have h3:=zq0.2.2;clear zq0
   refine ex1 (X.consts _ _ (eq_of_beq h2)) fun t ht=>?_
   exact glob_ok O W h2' h3 ht (EP.now W (.refl ..) .mkInt p)
 | str x =>
  refine vConstant_k hm fun c n pos hm=>?_
  cases eq_of_beq hm
  exact Constant_str (EP.num W rfl (by exact Exists.intro _ rfl) p)
 | _=>cases hm
theorem attrBase_eq {o:Expr} {name:Str} {whole:Sem Value} (h:isCall0 o=false):attributeBase o name env whole=whole:=by
 cases o with
 | Call f as ks pos=>cases f with
  | Name x p=>cases as with
   | nil=>cases ks with
    | nil=>cases h
    | cons _ _=>rfl
   | cons _ _=>rfl
  | _=>rfl
 | _=>rfl
theorem plain_of_mEs:∀ {xs:List X} {es:List Expr},mEs sc xs es=true→∀ e∈es,isStar e=false
 | [],es,h,e,he=>by rw [em_k h] at he;cases he
 | x::xs,[],h,e,he=>nomatch he
 | x::xs,f::es,h,e,he=>b3 h fun h1 _ h3=>(List.mem_cons.mp he).elim (fun q=>q▸nt h1) (plain_of_mEs h3 e)
theorem keep_ref {a:Addr} (h:keepIn C.K (.ref a)=true):∀ h,C.K.In h→∃ k,(k=Keeper.frame∨k=Keeper.machine∨k=Keeper.boundFrame)∧Looks C.M h (keeperOf (.ref a)) k:=fun h' X=>keeps_K h h' X
theorem backTo_plain {pos:Pos} (es:List Expr) (h:∀ e∈es,isStar e=false):(backTo pos (starEach es env)).all (!·.1)=true:=by
 have:=plain_any (pos:=pos) (env:=env) h
 rw [List.all_eq_not_any_not]
 simp only [Bool.not_not]
 rw [this];rfl
theorem methodCall_ok {o:Expr} {name:Str} {apos pos:Pos} {es:List Expr} {ov:Value} {Q:Value→Shared→Prop} {E:Value→Shared→Prop} (hs:∀ e∈es,isStar e=false) (hl:line1 es apos pos=true)
  (h:∀ pl,wpAny C.M A (getMethod ov name pl) (fun fx s₂=>wpAny C.M A (callWith pos fx.1 fx.2 (backTo pos (starEach es env)) []) Q E s₂) E s) :
  wpAny C.M A (methodCall o name apos pos env ov (es.length+0) (backTo pos (starEach es env)) []) Q E s:=by
 unfold line1 at hl
 rw [Bool.and_eq_true,decide_eq_true_eq,beq_iff_eq] at hl
 have hn:=hl.1;have hp:=hl.2;clear hl
 have hf:methodCallForm (es.length+0) (backTo pos (starEach es env)) []=true:=by
  unfold methodCallForm
  rw [backTo_plain es hs]
  simpa using hn
 unfold methodCall
 rw [hf]
 unfold calleeOf methodCallPos
 simp only [if_true,hp,beq_self_eq_true,Bool.or_true,Bool.not_true]
 exact wpAny_bind (wpAny_holding (wpAny_mono (h _) (fun fx s₂ h₂=>wpAny_bind (wpAny_pure h₂)) fun _ _ x=>x))
end
set_option linter.unusedSectionVars false
noncomputable def PE (C:Cx) (x:X):Prop:=∀ {k:Nat} {A:Around} {sc:Sc} {env:Env} {st:St} {s:Shared} {ls:Ls} {e:Expr} {P:V→St→Prop},Body A k→EnvOk sc env→WR C st s.heap→FrR C st s.heap sc env ls→mE sc x e=true→wpE (CallF C k) x ls st P→wpAny C.M A (eval e env) (EP C st s P) NoE s
noncomputable def PT (C:Cx) (x:X):Prop:=∀ {k:Nat} {A:Around} {sc:Sc} {env:Env} {st:St} {s:Shared} {ls:Ls} {e:Expr} {P:Bool→St→Prop},Body A k→EnvOk sc env→WR C st s.heap→FrR C st s.heap sc env ls→mE sc x e=true→wpT (CallF C k) x ls st P→wpAny C.M A (isTrue e env (eval e env)) (BP C st s P) NoE s
noncomputable def PEs (C:Cx) (xs:List X):Prop:=∀ {k:Nat} {A:Around} {sc:Sc} {env:Env} {st:St} {s:Shared} {ls:Ls} {es:List Expr} {pos:Pos} {P:List V→St→Prop},Body A k→EnvOk sc env→WR C st s.heap→FrR C st s.heap sc env ls→mEs sc xs es=true→wpEs (CallF C k) xs ls st P→wpAny C.M A (spliced (backTo pos (starEach es env))) (EPs C st s P) NoE s
noncomputable def PB (C:Cx) (xs:List X):Prop:=∀ {k:Nat} {A:Around} {sc:Sc} {env:Env} {st:St} {s:Shared} {ls:Ls} {es:List Expr} {pos:Pos} {c:Bool} {P:V→St→Prop},Body A k→EnvOk sc env→WR C st s.heap→FrR C st s.heap sc env ls→mEs sc xs es=true→wpB (CallF C k) c xs ls st P→wpAny C.M A (boolOp pos (if c then .And else .Or) (evalEach es env)) (EP C st s P) NoE s
noncomputable def PC (C:Cx) (xs:List X):Prop:=∀ {k:Nat} {A:Around} {sc:Sc} {env:Env} {st:St} {s:Shared} {ls:Ls} {es:List Expr} {pos:Pos} {os:List Cop} {v:V} {a:Value} {P:Bool→St→Prop},Body A k→EnvOk sc env→WR C st s.heap→FrR C st s.heap sc env ls→VR st s.heap v a→mEs sc xs es=true→wpC (CallF C k) os xs ls v st P →
 wpAny C.M A (compareChain pos a (os.map sC) (evalEach es env)) (EP C st s fun v st=>∃ b,v=.bool b∧P b st) NoE s∧wpAny C.M A (testChain pos a (os.map sC) (evalEach es env)) (BP C st s P) NoE s
noncomputable def PTs (C:Cx) (xs:List X):Prop:=∀ {k:Nat} {A:Around} {sc:Sc} {env:Env} {st:St} {s:Shared} {ls:Ls} {es:List Expr} {c:Bool} {P:Bool→St→Prop},Body A k→EnvOk sc env→WR C st s.heap→FrR C st s.heap sc env ls→mEs sc xs es=true→wpTs (CallF C k) c xs ls st P→wpAny C.M A (allTrue (if c then .And else .Or) es env) (BP C st s P) NoE s
noncomputable def PF (C:Cx) (xs:List X):Prop:=∀ {k:Nat} {A:Around} {sc:Sc} {env:Env} {st:St} {s:Shared} {ls:Ls} {es:List Expr} {P:Bool→St→Prop},Body A k→EnvOk sc env→WR C st s.heap→FrR C st s.heap sc env ls→mEs sc xs es=true→wpTs (CallF C k) true xs ls st P→wpAny C.M A (testsOf es env) (BP C st s P) NoE s
section
variable {C:Cx} (X0:CxOk C)
include X0
theorem cLit (v:V):PE C (.lit v):=fun b O W F hm p=>lit_ok X0 O W hm p
theorem cRows:PE C .rows:=by
 intro k A sc env st s ls e P b O W F hm p
 refine vAttribute_k hm fun a x pos hm=>?_
 refine b2 hm fun h1 h2=>?_
 cases eq_of_beq h1
 refine vName_k h2 fun y py h2=>?_
 have zq0:=gN_of h2;obtain rfl:=zq0.1;have h2:=zq0.2.1;have h3:=zq0.2.2;clear zq0
 obtain ⟨m,v,r1,r2,r3⟩:=X0.rows
 rw [arm_eval_Attribute,attrBase_eq rfl]
 refine wpAny_bind (glob_ok O W h2 h3 r1 (wpAny_bind (wpAny_standAt (wpAny_bind (wpAny_holding (r3 W.inK fun tk=>?_))))))
 exact wpAny_bind (wpAny_letTemporaryGo (wpAny_pure (EP.num W rfl (r2 st s.heap W) p)))
theorem ls_at {ls:Ls} {n:Nat} {f:V→Prop} (p:match ls[n]? with | some (some v)=>f v | some none=>False | none=>False):∃ v,ls[n]?=some (some v)∧f v:=by
 cases q:ls[n]? with
 | none=>rw [q] at p;exact p.elim
 | some o=>cases o with
  | none=>rw [q] at p;exact p.elim
  | some v=>rw [q] at p;exact ⟨v,rfl,p⟩
theorem cVar (n:Nat):PE C (.var n):=by
 intro k A sc env st s ls e P b O W F hm p
 refine vName_k hm fun x pos hm=>?_
 refine ex1 (ls_at X0 (f:=fun v=>P v st) p) fun v zq0=>?_;have hv:=zq0.1;have p:=zq0.2;clear zq0
 exact var_ok O W F (eq_of_beq hm) hv p
theorem cBin {o:Bop} {a b:X} (ha:PE C a) (hb:PE C b):PE C (.bin o a b):=by
 intro k A sc env st s ls e P bd O W F hm p
 refine vBinOp_k hm fun l op r pos hm=>?_
 refine b3 hm fun h0 h1 h2=>?_
 cases eq_of_beq h0
 rw [arm_eval_BinOp]
 refine seqE (ha bd O W F h1 p) fun v st1 va s1 W1 S1 V1 p1=>?_
 refine seqH (hb bd O W1 (F.stp S1) h2 p1) fun w st2 wa s2 W2 S2 V2 p2=>?_
 exact wpAny_bind (wpAny_standAt (wpAny_operate' (EP.out' (S1.trans S2) (bin_ok W2 (S2.vr V1) V2 p2))))
theorem cNeg {a:X} (ha:PE C a):PE C (.neg a):=by
 intro k A sc env st s ls e P bd O W F hm p
 refine vUnaryOp_k hm fun op x pos hm=>?_
 refine b2 hm fun h0 h1=>?_
 cases eq_of_beq h0
 refine wpAny_UnaryOp (wpAny_mono (ha bd O W F h1 p) (fun v s1 ⟨x,st1,W1,S1,V1,p1⟩=>?_) noE)
 cases x <;> first | exact EP.out' S1 (neg_ok W1 V1 p1) | exact False.elim p1
theorem cNot {a:X} (ha:PE C a):PE C (.not a):=by
 intro k A sc env st s ls e P bd O W F hm p
 refine vUnaryOp_k hm fun op x pos hm=>?_
 refine b2 hm fun h0 h1=>?_
 cases eq_of_beq h0
 refine wpAny_UnaryOp (wpAny_mono (ha bd O W F h1 p) (fun v s1 ⟨x,st1,W1,S1,V1,p1⟩=>EP.out' S1 ?_) noE)
 unfold unaryOp
 refine wpAny_holding ?_
 show wpAny C.M A (truthy v >>= fun b=>pure (Value.bool (!b))) _ _ _
 exact wpAny_bind (wpAny_mono (truth_ok W1 V1 p1) (fun b s2 ⟨q1,q2,q3⟩=>wpAny_pure ⟨.bool (!b),st1,q2,q3,.mkBool,q1⟩) noE)
theorem tNot {a:X} (ha:PT C a):PT C (.not a):=by
 intro k A sc env st s ls e P bd O W F hm p
 refine vUnaryOp_k hm fun op x pos hm=>?_
 refine b2 hm fun h0 h1=>?_
 cases eq_of_beq h0
 rw [arm_isTrue_UnaryOp]
 exact seqB (ha bd O W F h1 p) fun c st1 s1 W1 S1 p1=>wpAny_pure ⟨st1,W1,S1,p1⟩
theorem cBool {c:Bool} {as:List X} (h:PB C as):PE C (.bool c as):=by
 intro k A sc env st s ls e P bd O W F hm p
 refine vBoolOp_k hm fun op vs pos hm=>?_
 refine b2 hm fun h0 h1=>?_
 cases eq_of_beq h0
 rw [arm_eval_BoolOp]
 exact h bd O W F h1 p
theorem tBool {c:Bool} {as:List X} (h:PTs C as):PT C (.bool c as):=by
 intro k A sc env st s ls e P bd O W F hm p
 refine vBoolOp_k hm fun op vs pos hm=>?_
 refine b2 hm fun h0 h1=>?_
 cases eq_of_beq h0
 rw [arm_isTrue_BoolOp]
 exact h bd O W F h1 p
theorem cCmp {a:X} {ops:List Cop} {cs:List X} (ha:PE C a) (h:PC C cs):PE C (.cmp a ops cs):=by
 intro k A sc env st s ls e P bd O W F hm p
 refine vCompare_k hm fun l os rs pos hm=>?_
 refine b4 hm fun h0 h1 h2 h3=>?_
 cases eq_of_beq h0
 rw [arm_eval_Compare]
 refine seqE (ha bd O W F h1 p) fun v st1 va s1 W1 S1 V1 p1=>?_
 rw [markedEach_of_false _ _ _ (nt h3)]
 refine EP.out' S1 (wpAny_mono (h bd O W1 (F.stp S1) V1 h2 p1).1 (fun v s2 ⟨x,st2,W2,S2,V2,b,hb,p2⟩=>?_) noE)
 cases hb
 exact ⟨.bool b,st2,W2,S2,V2,p2⟩
theorem tCmp {a:X} {ops:List Cop} {cs:List X} (ha:PE C a) (h:PC C cs):PT C (.cmp a ops cs):=by
 intro k A sc env st s ls e P bd O W F hm p
 refine vCompare_k hm fun l os rs pos hm=>?_
 refine b4 hm fun h0 h1 h2 h3=>?_
 cases eq_of_beq h0
 rw [arm_isTrue_Compare]
 refine seqE (ha bd O W F h1 p) fun v st1 va s1 W1 S1 V1 p1=>?_
 rw [markedEach_of_false _ _ _ (nt h3)]
 exact BP.out S1 (h bd O W1 (F.stp S1) V1 h2 p1).2
theorem cIte {t a b:X} (ht:PT C t) (ha:PE C a) (hb:PE C b):PE C (.ite t a b):=by
 intro k A sc env st s ls e P bd O W F hm p
 refine vIfExp_k hm fun et ea eb pos hm=>?_
 refine b3 hm fun h1 h2 h3=>?_
 refine wpAny_IfExp (wpAny_mono (ht bd O W F h1 p) (fun c s1 ⟨st1,W1,S1,p1⟩=>?_) noE)
 cases c
 ·exact EP.out' S1 (hb bd O W1 (F.stp S1) h3 p1)
 ·exact EP.out' S1 (ha bd O W1 (F.stp S1) h2 p1)
theorem tIte {t a b:X} (ht:PT C t) (ha:PT C a) (hb:PT C b):PT C (.ite t a b):=by
 intro k A sc env st s ls e P bd O W F hm p
 refine vIfExp_k hm fun et ea eb pos hm=>?_
 refine b3 hm fun h1 h2 h3=>?_
 rw [arm_isTrue_IfExp]
 refine seqB (ht bd O W F h1 p) fun c st1 s1 W1 S1 p1=>?_
 cases c
 ·exact BP.out S1 (hb bd O W1 (F.stp S1) h3 p1)
 ·exact BP.out S1 (ha bd O W1 (F.stp S1) h2 p1)
theorem args_ok {k:Nat} {A:Around} {sc:Sc} {env:Env} {st:St} {s:Shared} {ls:Ls} {es:List Expr} {as:List X} {f:Value} {first:List Value} {pos:Pos} {P:V→St→Prop} {P1:List V→St→Prop} (h:PEs C as) (bd:Body A k) (O:EnvOk sc env) (W:WR C st s.heap) (F:FrR C st s.heap sc env ls)
  (hk:∀ h,C.K.In h→∃ k,(k=Keeper.frame∨k=Keeper.machine∨k=Keeper.boundFrame)∧Looks C.M h (keeperOf f) k) (hm:mEs sc as es=true) (p:wpEs (CallF C k) as ls st P1)
  (hc:∀ vs st1 us s1,WR C st1 s1.heap→Step [] st s st1 s1→VRs st1 s1.heap vs us→P1 vs st1→wpAny C.M A (call f (first++us)) (EP C st1 s1 P) NoE s1) :
  wpAny C.M A (callWith pos f first (backTo pos (starEach es env)) []) (EP C st s P) NoE s:=by
 refine cw_ok hk (plain_of_mEs hm) (wpAny_mono (h bd O W F hm p) (fun us s1 ⟨vs,st1,W1,S1,V1,p1⟩=>⟨W1.inK,?_⟩) noE)
 exact EP.out' S1 (hc vs st1 us s1 W1 S1 V1 p1)
theorem cCall {f:Nat} {as:List X} (h:PEs C as):PE C (.call f as):=by
 intro k A sc env st s ls e P bd O W F hm p
 refine vCall_k hm fun g args ks pos hm=>?_
 refine b3 hm fun h0 h3 hq=>?_
 cases em_k h0
 rcases Bool.or_eq_true_iff.mp hq with hm | hm
 ·refine vName_k hm fun x px hm=>?_
  refine b2 hm fun h1 h2=>?_
  have zq0:=gN_of h1;obtain rfl:=zq0.1;have g1:=zq0.2.1;have g2:=zq0.2.2;clear zq0
  have zq0:=X0.funs f h2;have f1:=zq0.1;have f2:=zq0.2;clear zq0
  rw [arm_eval_Call_Name']
  refine wpAny_bind (glob_ok O W g1 g2 f1 ?_)
  exact args_ok X0 h bd O W F (keep_ref f2) h3 p fun vs st1 us s1 W1 S1 V1 p1=>fn_ok bd.good W1 V1 p1
 ·refine vAttribute_k hm fun o a apos hm=>?_
  refine b4 hm fun h1 h2 h4 h5=>?_
  cases eq_of_beq h1
  cases eq_of_beq h4
  refine vName_k h2 fun x px h2=>?_
  have zq0:=gN_of h2;obtain rfl:=zq0.1;have g1:=zq0.2.1;have g2:=zq0.2.2;clear zq0
  obtain ⟨m,m1,m2,m3⟩:=X0.mat
  rw [arm_eval_Call,attrBase_eq rfl]
  refine wpAny_bind (glob_ok O W g1 g2 m1 (wpAny_bind (wpAny_standAt ?_)))
  refine methodCall_ok (plain_of_mEs h3) h5 fun pl=>m3 W.inK fun tk=>?_
  have W':WR C st { s with toks:=tk }.heap:=W
  have S':Step [] st s st { s with toks:=tk }:=Step.all fun _ _ e=>e
  exact EP.out' S' (args_ok X0 h bd O W' (F.stp S') (keep_ref m2) h3 p fun vs st1 us s1 W1 S1 V1 p1=>fn_ok bd.good W1 V1 p1)
theorem cNew {c:Nat} {as:List X} (h:PEs C as):PE C (.new c as):=by
 intro k A sc env st s ls e P bd O W F hm p
 refine vCall_k hm fun g args ks pos hm=>?_
 refine b3 hm fun h0 h3 hq=>?_
 cases em_k h0
 refine vName_k hq fun x px hm=>?_
 refine b2 hm fun h1 h2=>?_
 have zq0:=gN_of h1;obtain rfl:=zq0.1;have g1:=zq0.2.1;have g2:=zq0.2.2;clear zq0
 have zq0:=X0.clss c (of_decide_eq_true h2);have f1:=zq0.1;have f2:=zq0.2;clear zq0
 rw [arm_eval_Call_Name']
 refine wpAny_bind (glob_ok O W g1 g2 f1 ?_)
 exact args_ok X0 h bd O W F (keep_ref f2) h3 p fun vs st1 us s1 W1 S1 V1 p1=>make_ok X0 bd W1 V1 p1
theorem biName_ne (b:Bi):Str.ofString (biName b)≠"__name__":=by cases b <;> decide
theorem biF_ref (b:Bi):∀ a,biF b≠.ref a:=by intro a;cases b <;> simp [biF]
theorem cBi {f:Bi} {as:List X} (h:PEs C as):PE C (.bi f as):=by
 intro k A sc env st s ls e P bd O W F hm p
 refine vCall_k hm fun g args ks pos hm=>?_
 refine b3 hm fun h0 h3 hq=>?_
 cases em_k h0
 refine vName_k hq fun x px hm=>?_
 have zq0:=gN_of hm;obtain rfl:=zq0.1;have g1:=zq0.2.1;have g2:=zq0.2.2;clear zq0
 have zq0:=X0.bis f;have f1:=zq0.1;have f2:=zq0.2;clear zq0
 rw [arm_eval_Call_Name']
 refine wpAny_bind (bglob_ok O W g1 g2 (biName_ne X0 f) f1 f2 ?_)
 exact args_ok X0 h bd O W F (keep_machine (biF_ref X0 f)) h3 p fun vs st1 us s1 W1 S1 V1 p1=>bi_ok X0.late bd.good W1 V1 p1
theorem methR_at {a:Addr} {m:Nat} {st:St} {K:Nat→Prop} (p:methR a m st K):∃ c fs f,st a=some (.inst c fs)∧mt c m=some f∧K f:=by
 unfold methR at p
 split at p
 ·rename_i c fs e1
  split at p
  ·rename_i f hf;exact ⟨c,fs,f,e1,hf,p⟩
  ·exact p.elim
 ·exact p.elim
theorem cMeth {o:X} {m:Nat} {as:List X} (ho:PE C o) (h:PEs C as):PE C (.meth o m as):=by
 intro k A sc env st s ls e P bd O W F hm p
 refine vCall_k hm fun g args ks pos hm=>?_
 refine b3 hm fun h0 h2 hq=>?_
 cases em_k h0
 refine vAttribute_k hq fun eo a apos hm=>?_
 refine b4 hm fun h1 h3 h4 h5=>?_
 cases eq_of_beq h1
 rw [arm_eval_Call,attrBase_eq (nt h4)]
 refine seqE (ho bd O W F h3 p) fun v st1 va s1 W1 S1 V1 p1=>wpAny_bind (wpAny_standAt ?_)
 refine ex1 (onR_ok V1 p1) fun r zq0=>?_;obtain rfl:=zq0.1;obtain rfl:=zq0.2.1;have p1:=zq0.2.2;clear zq0
 refine ex3 (methR_at X0 p1) fun c fs f zq0=>?_;have e1:=zq0.1;have hf:=zq0.2.1;have p1:=zq0.2.2;clear zq0
 refine methodCall_ok (plain_of_mEs h2) h5 fun pl=>meth_ok X0.cls W1 e1 hf ?_
 exact EP.out' S1 (args_ok X0 h bd O W1 (F.stp S1) (keep_ref (X0.meths c m f hf)) h2 p1 fun vs st2 us s2 W2 S2 V2 p2=>fn_ok bd.good W2 (.cons (S2.vr V1) V2) p2)
theorem cBmeth {o:X} {m:Bm} {as:List X} (ho:PE C o) (h:PEs C as):PE C (.bmeth o m as):=by
 intro k A sc env st s ls e P bd O W F hm p
 refine vCall_k hm fun g args ks pos hm=>?_
 refine b3 hm fun h0 h2 hq=>?_
 cases em_k h0
 refine vAttribute_k hq fun eo a apos hm=>?_
 refine b4 hm fun h1 h3 h4 h5=>?_
 cases eq_of_beq h1
 rw [arm_eval_Call,attrBase_eq (nt h4)]
 refine seqE (ho bd O W F h3 p) fun v st1 va s1 W1 S1 V1 p1=>wpAny_bind (wpAny_standAt ?_)
 refine methodCall_ok (plain_of_mEs h2) h5 fun pl=>bmK_ok W1 V1 p1.1 ?_
 exact EP.out' S1 (args_ok X0 h bd O W1 (F.stp S1) (keep_machine (fun a e=>nomatch e)) h2 p1.2 fun vs st2 us s2 W2 S2 V2 p2=>bm_ok bd.good W2 (S2.vr V1) V2 p2)
theorem cAttr {o:X} {f:Nat} (ho:PE C o):PE C (.attr o f):=by
 intro k A sc env st s ls e P bd O W F hm p
 refine vAttribute_k hm fun eo a apos hm=>?_
 refine b3 hm fun h0 h1 h3=>?_
 cases eq_of_beq h0
 rw [arm_eval_Attribute,attrBase_eq (nt h3)]
 refine seqE (ho bd O W F h1 p) fun v st1 va s1 W1 S1 V1 p1=>wpAny_bind (wpAny_standAt ?_)
 refine seqH (attr_ok X0.cls W1 V1 p1) fun x st2 xa s2 W2 S2 V2 p2=>?_
 exact wpAny_bind (wpAny_letTemporaryGo (wpAny_pure ⟨x,st2,W2,S1.trans S2,V2,p2⟩))
theorem cIdx {o i:X} (ho:PE C o) (hi:PE C i):PE C (.idx o i):=by
 intro k A sc env st s ls e P bd O W F hm p
 refine vSubscript_k hm fun eo ei pos hm=>?_
 refine b3 hm fun h1 h2 h3=>?_
 rw [arm_eval_Subscript]
 refine seqE (ho bd O W F h1 p) fun v st1 va s1 W1 S1 V1 p1=>?_
 refine seqH (hi bd O W1 (F.stp S1) h2 p1) fun w st2 wa s2 W2 S2 V2 p2=>wpAny_bind (wpAny_standAt ?_)
 refine ex2 (items_type W2 (S2.vr V1) (idxW_items p2)) fun T id zq0=>?_;have t1:=zq0.1;have t2:=zq0.2;clear zq0
 exact sub_end t1 t2 (EP.out' (S1.trans S2) (idx_ok W2 (S2.vr V1) V2 p2))
theorem cOpt {x:X} (hx:PE C x) {k:Nat} {A:Around} {sc:Sc} {env:Env} {st:St} {s:Shared} {ls:Ls} {o:Option Expr} {P:V→St→Prop} (bd:Body A k) (O:EnvOk sc env) (W:WR C st s.heap) (F:FrR C st s.heap sc env ls)
  (hm:oE (noneLit x) (mE sc x) o=true) (p:wpE (CallF C k) x ls st P):wpAny C.M A (valueOrNone (evalOpt o env)) (EP C st s P) NoE s:=by
 cases o with
 | none=>exact noneLit_k (m:=fun x=>wpE (CallF C k) x ls st P→wpAny C.M A (valueOrNone (evalOpt none env)) (EP C st s P) NoE s) hm (fun p=>wpAny_pure (EP.now W (.refl ..) (by exact rfl) p)) p
 | some e=>exact hx bd O W F hm p
theorem cSlc {o lo hi t:X} (ho:PE C o) (hl:PE C lo) (hh:PE C hi) (ht:PE C t):PE C (.slc o lo hi t):=by
 intro k A sc env st s ls e P bd O W F hm p
 refine vSubscript_k hm fun eo ei pos hm=>?_
 refine b2 hm fun h1 hm=>?_
 refine vSlice_k hm fun l u z p1 hm=>?_
 refine b3 hm fun h2 h3 h4=>?_
 rw [arm_eval_Subscript]
 refine seqE (ho bd O W F h1 p) fun v st1 va s1 W1 S1 V1 p1=>?_
 rw [arm_eval_Slice]
 refine wpAny_bind (wpAny_holding ?_)
 refine seqE (cOpt X0 hl bd O W1 (F.stp S1) h2 p1) fun v2 st2 va2 s2 W2 S2 V2 p2=>?_
 refine seqH (cOpt X0 hh bd O W2 ((F.stp S1).stp S2) h3 p2) fun v3 st3 va3 s3 W3 S3 V3 p3=>?_
 refine seqH (cOpt X0 ht bd O W3 (((F.stp S1).stp S2).stp S3) h4 p3) fun v4 st4 va4 s4 W4 S4 V4 p4=>?_
 refine wpAny_newObj_type ?_
 have kk:∀ b o,s4.heap.get? b=some o→(s4.heap.push { cls:=.type "slice",data:=.fields ([va2,va3,va4]:List Value).toArray }).get? b=some o:=fun b o z=>Heap.get?_push_of_some _ z
 have S5:Step [] st4 s4 st4 { s4 with heap:=s4.heap.push { cls:=.type "slice",data:=.fields ([va2,va3,va4]:List Value).toArray } }:=Step.all kk
 have W5:WR C st4 (s4.heap.push { cls:=.type "slice",data:=.fields ([va2,va3,va4]:List Value).toArray }):=W4.all kk
 refine wpAny_bind (wpAny_standAt ?_)
 have V1':=S5.vr (S4.vr (S3.vr (S2.vr V1)))
 refine ex2 (items_type (s:={ s4 with heap:=s4.heap.push { cls:=.type "slice",data:=.fields ([va2,va3,va4]:List Value).toArray } }) W5 V1' (slcW_items p4)) fun T id zq0=>?_;have t1:=zq0.1;have t2:=zq0.2;clear zq0
 refine sub_end t1 t2 (EP.out' (((((S1.trans S2).trans S3).trans S4).trans S5)) (slc_ok W5 V1' (S5.vr (S4.vr (S3.vr V2))) (S5.vr (S4.vr V3)) (S5.vr V4) ⟨_,Heap.get?_push_size _ rfl,rfl,rfl⟩ p4))
theorem cList {as:List X} (h:PEs C as):PE C (.list as):=by
 intro k A sc env st s ls e P bd O W F hm p
 refine vList_k hm fun es pos hm=>?_
 rw [arm_eval_List]
 refine wpAny_bind (wpAny_standAt ?_)
 refine seqEs (h bd O W F hm p) fun vs st1 us s1 W1 S1 V1 p1=>?_
 have hl:=V1.length
 have hp:=p1.1
 refine wpAny_newList ?_ (by rw [hl,sizeLine_eq];exact oz68 hp)
 have kk:∀ b o,s1.heap.get? b=some o→(s1.heap.push { cls:=.type "list",data:=.seq us.toArray }).get? b=some o:=fun b o z=>Heap.get?_push_of_some _ z
 exact EP.trans S1 (EP.new W1 p1.2 s1.heap.objs.size (get?_ge (Nat.le_refl _)) kk ⟨us,0,Heap.get?_push_size _ rfl,VRs.alloc W1 kk (get?_ge (Nat.le_refl _)) V1,by exact oz69 hp⟩)
theorem cTup {as:List X} (h:PEs C as):PE C (.tup as):=by
 intro k A sc env st s ls e P bd O W F hm p
 refine vTuple_k hm fun es x1 pos hm=>?_
 rw [arm_eval_Tuple]
 refine wpAny_bind (wpAny_standAt ?_)
 refine seqEs (h bd O W F hm p) fun vs st1 us s1 W1 S1 V1 p1=>?_
 have hl:=V1.length
 have hp:=p1.1
 refine wpAny_newTuple ?_ (by rw [hl,sizeLine_eq];exact oz68 hp)
 have kk:∀ b o,s1.heap.get? b=some o→(s1.heap.push { cls:=.type "tuple",data:=.seq us.toArray }).get? b=some o:=fun b o z=>Heap.get?_push_of_some _ z
 refine EP.trans S1 (EP.keep W1 kk ?_ p1.2)
 exact ⟨_,_,us.toArray,0,rfl,W1.fresh (get?_ge (Nat.le_refl _)),Heap.get?_push_size _ rfl,rfl,rfl,VRs.mono (fun _ h=>h) (fun b o e1 e2 _=>⟨e1,kk b o e2⟩) vs V1,by exact oz69 hp⟩
end
noncomputable def plainT (e:Expr):Bool:=e.ctorIdx==16 || e.ctorIdx==23
theorem isTrue_plain {e:Expr} (h:plainT e=true) (env:Env) (w:Sem Value):isTrue e env w=(do let v ← w;standAt e.pos;holding [v] (truthy v)):=by
 cases e <;> first | rfl | cases h
section
variable {C:Cx} (X0:CxOk C)
include X0
theorem tGen {x:X} (hx:PE C x) (hp:∀ sc e,mE sc x e=true→plainT e=true) (hw:∀ k ls st P,wpT (CallF C k) x ls st P→wpE (CallF C k) x ls st (kTr P)):PT C x:=by
 intro k A sc env st s ls e P bd O W F hm p
 rw [isTrue_plain (hp sc e hm)]
 refine seqE (hx bd O W F hm (hw _ _ _ _ p)) fun v st1 va s1 W1 S1 V1 p1=>wpAny_bind (wpAny_standAt (wpAny_holding ?_))
 exact wpAny_mono (truth_ok W1 V1 p1) (fun b s2 ⟨q1,q2,q3⟩=>⟨st1,q2,S1.trans q3,q1⟩) noE
theorem tCall {f:Nat} {as:List X} (h:PEs C as):PT C (.call f as) :=
 tGen X0 (cCall X0 h) (fun sc e hm=>vCall_k hm fun _ _ _ _ _=>rfl) fun k ls st P p=>p
theorem tMeth {o:X} {m:Nat} {as:List X} (ho:PE C o) (h:PEs C as):PT C (.meth o m as) :=
 tGen X0 (cMeth X0 ho h) (fun sc e hm=>vCall_k hm fun _ _ _ _ _=>rfl) fun k ls st P p=>p
theorem tVar (n:Nat):PT C (.var n) :=
 tGen X0 (cVar X0 n) (fun sc e hm=>vName_k hm fun _ _ _=>rfl) fun k ls st P p=>p
theorem esNil:PEs C []:=by
 intro k A sc env st s ls es pos P bd O W F hm p
 cases em_k hm
 exact wpAny_pure ⟨[],st,W,.refl ..,rfl,p⟩
theorem esCons {x:X} {xs:List X} (hx:PE C x) (hs:PEs C xs):PEs C (x::xs):=by
 intro k A sc env st s ls es pos P bd O W F hm p
 cases es with
 | nil=>cases hm
 | cons e es =>
  refine b3 hm fun h1 h2 h3=>?_
  rw [starEach_plain (nt h1)]
  refine spliced_cons (wpAny_mono (hx bd O W F h2 p) (fun v s1 ⟨y,st1,W1,S1,V1,p1⟩=>?_) noE)
  exact wpAny_mono (hs bd O W1 (F.stp S1) h3 p1) (fun us s2 ⟨ys,st2,W2,S2,V2,p2⟩=>⟨y::ys,st2,W2,S1.trans S2,.cons (S2.vr V1) V2,p2⟩) noE
theorem bNil:PB C []:=fun _ _ _ _ _ p=>p.elim
theorem bCons {x:X} {xs:List X} (hx:PE C x) (hs:PB C xs):PB C (x::xs):=by
 intro k A sc env st s ls es pos c P bd O W F hm p
 cases es with
 | nil=>cases hm
 | cons e es =>
  refine b3 hm fun h1 h2 h3=>?_
  rw [arm_evalEach_cons]
  cases xs with
  | nil =>
   cases em_k h3
   exact hx bd O W F h2 p
  | cons y ys =>
   cases es with
   | nil=>cases h3
   | cons f fs =>
    rw [arm_evalEach_cons]
    show wpAny C.M A (do
     let v ← eval e env
     standAt pos
     let t ← holding [v] (truthy v)
     match (if c=true then BoolOp.And else BoolOp.Or),t with
     | .And,false | .Or,true=>pure v
     | _,_=>boolOp pos (if c=true then BoolOp.And else BoolOp.Or) (eval f env::evalEach fs env)) _ _ s
    refine seqE (hx bd O W F h2 p) fun v st1 va s1 W1 S1 V1 p1=>wpAny_bind (wpAny_standAt ?_)
    refine wpAny_bind (wpAny_holding (wpAny_mono (truth_ok W1 V1 p1) (fun b s2 ⟨q1,q2,q3⟩=>?_) noE))
    have go:wpB (CallF C k) c (y::ys) ls st1 P→wpAny C.M A (boolOp pos (if c=true then BoolOp.And else BoolOp.Or) (eval f env::evalEach fs env)) (EP C st s P) NoE s2:=fun q1 =>
     EP.out' (S1.trans q3) (hs bd O q2 ((F.stp S1).stp q3) h3 q1)
    have stop:P v st1→wpAny C.M A (pure va) (EP C st s P) NoE s2:=fun q1=>wpAny_pure ⟨v,st1,q2,S1.trans q3,q3.vr V1,q1⟩
    cases c <;> cases b <;> first | exact go q1 | exact stop q1
theorem cNil:PC C []:=fun _ _ _ _ _ _ p=>p.elim
theorem cCons {x:X} {xs:List X} (hx:PE C x) (hs:PC C xs):PC C (x::xs):=by
 intro k A sc env st s ls es pos os v a P bd O W F hv hm p
 cases os with
 | nil=>exact False.elim p
 | cons o os =>
  cases es with
  | nil=>cases hm
  | cons e es =>
   refine b3 hm fun h1 h2 h3=>?_
   rw [arm_evalEach_cons,List.map_cons]
   have one:∀ w st1 wa s1,WR C st1 s1.heap→Step [] st s st1 s1→VR st1 s1.heap w wa→∀ {K:Bool→Prop} {Q:Value→Shared→Prop},cmp1 o v w st1 K→(∀ b s2,K b→WR C st1 s2.heap→Step [] st1 s1 st1 s2→Q (.bool b) s2)→wpAny C.M A (compareOp (sC o) a wa) Q NoE s1 :=
    fun w st1 wa s1 W1 S1 V1 K Q p1 h=>wpAny_mono (cmp_ok X0.eq bd.good W1 (S1.vr hv) V1 p1) (fun c s2 ⟨b,q1,q2,q3,q4⟩=>q1▸h b s2 q2 q3 q4) noE
   cases hl:(os.isEmpty&&xs.isEmpty)
   ·
    have p':wpE (CallF C k) x ls st fun w st=>cmp1 o v w st (kC3 (wpC (CallF C k) os xs ls w) st P):=by
     have q:wpE (CallF C k) x ls st (kC1 o (os.isEmpty&&xs.isEmpty) (wpC (CallF C k) os xs ls) v P):=p
     rw [hl] at q;exact q
    have hne:os.map sC=[]→evalEach es env=[]→False:=fun e1 e2=>by
     cases os with
     | cons _ _=>cases e1
     | nil=>cases es with
      | cons _ _=>cases e2
      | nil=>cases xs with
       | nil=>cases hl
       | cons _ _=>cases h3
    constructor
    ·have heq:compareChain pos a (sC o::os.map sC) (eval e env::evalEach es env)=(do
      let rv ← holding [a] (eval e env)
      standAt pos
      let c ← holding [a,rv] (compareOp (sC o) a rv)
      release [a,rv] [c]
      if ← holding [c,rv] (truthy c) then compareChain pos rv (os.map sC) (evalEach es env) else pure c):=by
      cases h1:os.map sC with
      | nil=>cases h2:evalEach es env with
       | nil=>exact (hne h1 h2).elim
       | cons _ _=>rfl
      | cons _ _=>cases h2:evalEach es env <;> rfl
     rw [heq]
     refine seqH (hx bd O W F h2 p') fun w st1 wa s1 W1 S1 V1 p1=>wpAny_bind (wpAny_standAt (wpAny_bind (wpAny_holding (one w st1 wa s1 W1 S1 V1 p1 fun b s2 q2 q3 q4=>?_))))
     refine wpAny_bind (wpAny_release' (wpAny_bind (wpAny_holding (wpAny_truthy_bool ?_))))
     cases b
     ·exact wpAny_pure ⟨.bool false,st1,q3,S1.trans q4,.mkBool,false,rfl,q2⟩
     ·exact EP.out' (S1.trans q4) (hs bd O q3 ((F.stp S1).stp q4) (q4.vr V1) h3 q2).1
    ·have heq:testChain pos a (sC o::os.map sC) (eval e env::evalEach es env)=(do
      let rv ← holding [a] (eval e env)
      standAt pos
      let c ← holding [a,rv] (compareOp (sC o) a rv)
      release [a,rv] [c]
      if ← holding [c,rv] (truthy c) then testChain pos rv (os.map sC) (evalEach es env) else pure false):=by
      cases h1:os.map sC with
      | nil=>cases h2:evalEach es env with
       | nil=>exact (hne h1 h2).elim
       | cons _ _=>rfl
      | cons _ _=>cases h2:evalEach es env <;> rfl
     rw [heq]
     refine seqH (hx bd O W F h2 p') fun w st1 wa s1 W1 S1 V1 p1=>wpAny_bind (wpAny_standAt (wpAny_bind (wpAny_holding (one w st1 wa s1 W1 S1 V1 p1 fun b s2 q2 q3 q4=>?_))))
     refine wpAny_bind (wpAny_release' (wpAny_bind (wpAny_holding (wpAny_truthy_bool ?_))))
     cases b
     ·exact wpAny_pure ⟨st1,q3,S1.trans q4,q2⟩
     ·exact BP.out (S1.trans q4) (hs bd O q3 ((F.stp S1).stp q4) (q4.vr V1) h3 q2).2
   ·
    rw [Bool.and_eq_true] at hl
    cases em_k hl.1
    cases em_k hl.2
    cases em_k h3
    constructor
    ·show wpAny C.M A (do
      let rv ← holding [a] (eval e env)
      standAt pos
      operate [a,rv] (compareOp (sC o) a rv)) _ _ s
     exact seqH (hx bd O W F h2 p) fun w st1 wa s1 W1 S1 V1 p1=>wpAny_bind (wpAny_standAt (wpAny_operate' (one w st1 wa s1 W1 S1 V1 p1 fun b s2 q2 q3 q4=>⟨.bool b,st1,q3,S1.trans q4,.mkBool,b,rfl,q2⟩)))
    ·show wpAny C.M A (do
      let rv ← holding [a] (eval e env)
      standAt pos
      let c ← operate [a,rv] (compareOp (sC o) a rv)
      holding [c] (truthy c)) _ _ s
     exact seqH (hx bd O W F h2 p) fun w st1 wa s1 W1 S1 V1 p1=>wpAny_bind (wpAny_standAt (wpAny_bind (wpAny_operate' (one w st1 wa s1 W1 S1 V1 p1 fun b s2 q2 q3 q4=>wpAny_holding (wpAny_truthy_bool ⟨st1,q3,S1.trans q4,q2⟩)))))
theorem tsNil:PTs C []:=by
 intro k A sc env st s ls es c P bd O W F hm p
 cases em_k hm
 rw [arm_allTrue_nil]
 cases c <;> exact wpAny_pure ⟨st,W,.refl ..,p⟩
theorem tsCons {x:X} {xs:List X} (hx:PT C x) (hs:PTs C xs):PTs C (x::xs):=by
 intro k A sc env st s ls es c P bd O W F hm p
 cases es with
 | nil=>cases hm
 | cons e es =>
  refine b3 hm fun h1 h2 h3=>?_
  rw [arm_allTrue_cons]
  refine seqB (hx bd O W F h2 p) fun b st1 s1 W1 S1 p1=>?_
  have go:wpTs (CallF C k) c xs ls st1 P→wpAny C.M A (allTrue (if c=true then BoolOp.And else BoolOp.Or) es env) (BP C st s P) NoE s1:=fun p1=>BP.out S1 (hs bd O W1 (F.stp S1) h3 p1)
  cases c <;> cases b <;> first | exact go p1 | exact wpAny_pure ⟨st1,W1,S1,p1⟩
theorem fNil:PF C []:=by
 intro k A sc env st s ls es P bd O W F hm p
 cases em_k hm
 exact wpAny_pure ⟨st,W,.refl ..,p⟩
theorem tests_false {A:Around} {s:Shared} {Q:Bool→Shared→Prop} {E:Value→Shared→Prop} (env:Env):∀ (es:List Expr),Q false s→wpAny C.M A (forIn es false fun c r=>if r=true then do let ok ← isTrue c env (eval c env);pure (ForInStep.yield ok) else pure (ForInStep.yield r)) Q E s
 | [],h=>wpAny_pure h
 | e::es,h=>by
  rw [List.forIn_cons]
  exact wpAny_bind (wpAny_pure (tests_false env es h))
theorem fCons {x:X} {xs:List X} (hx:PT C x) (hs:PF C xs):PF C (x::xs):=by
 intro k A sc env st s ls es P bd O W F hm p
 cases es with
 | nil=>cases hm
 | cons e es =>
  refine b3 hm fun h1 h2 h3=>?_
  unfold testsOf
  rw [List.forIn_cons]
  refine wpAny_bind (wpAny_bind (wpAny_mono (hx bd O W F h2 p) (fun b s1 ⟨st1,W1,S1,p1⟩=>wpAny_pure ?_) noE))
  cases b
  ·exact tests_false X0 env es ⟨st1,W1,S1,p1⟩
  ·exact BP.out S1 (hs bd O W1 (F.stp S1) h3 p1)
theorem cDict0:PE C .dict0:=by
 intro k A sc env st s ls e P bd O W F hm p
 refine vDict_k hm fun ks vs pos hm=>?_
 refine b2 hm fun h1 h2=>?_
 cases em_k h1
 cases em_k h2
 have k3:∀ b o,s.heap.get? b=some o→(s.heap.push { cls:=.type "dict",data:=.dict #[] }).get? b=some o:=fun b o z=>Heap.get?_push_of_some _ z
 refine wpAny_Dict_empty ?_
 refine ex1 ((Heap.DictOf.new (knd:=intKind C.prog C.w) s.heap).dictAt) fun n hd=>?_
 exact EP.new (tk:=s.toks) W (p n) s.heap.objs.size (get?_ge (Nat.le_refl _)) k3 ⟨[],hd,rfl,Nat.zero_le _⟩
theorem cDict1 {x y:X} (hx:PE C x) (hy:PE C y):PE C (.dict1 x y):=by
 intro k A sc env st s ls e P bd O W F hm p
 refine vDict_k hm fun ks vs pos hm=>?_
 refine b2 hm fun h1 h2=>?_
 refine sing_k h1 fun ke h1=>?_
 refine sing_k h2 fun ve h2=>?_
 cases ke with
 | none=>cases h1
 | some ke =>
  have k3:∀ b o,s.heap.get? b=some o→(s.heap.push { cls:=.type "dict",data:=.dict #[] }).get? b=some o:=fun b o z=>Heap.get?_push_of_some _ z
  have fa:s.heap.get? s.heap.objs.size=none:=get?_ge (Nat.le_refl _)
  have ga:(s.heap.push { cls:=.type "dict",data:=.dict #[] }).get? s.heap.objs.size=some { cls:=.type "dict",data:=.dict #[] }:=Heap.get?_push_size _ rfl
  refine wpAny_Dict_pairs (knd:=intKind C.prog C.w) (pairs:=[(eval ke env,do let x ← eval ve env;standAt pos;pure x)]) rfl (by simp) (by simp) ?_
  have S0:Step [] st s st { s with heap:=s.heap.push { cls:=.type "dict",data:=.dict #[] } }:=Step.all k3
  have W0:WR C st (s.heap.push { cls:=.type "dict",data:=.dict #[] }):=W.all k3
  show wpAny C.M A (do
   let kv ← eval ke env
   let vv ← holding [kv] (do let x ← eval ve env;standAt pos;pure x)
   return (kv,vv)::(← holding [kv,vv] (evalPairs []))) _ _ _
  refine seqE (hx (s:={ s with heap:=s.heap.push { cls:=.type "dict",data:=.dict #[] } }) bd O W0 (F.stp S0) h1 p) fun kv st1 ka s1 W1 S1 V1 p1=>?_
  refine wpAny_bind (wpAny_holding (seqE (hy bd O W1 ((F.stp S0).stp S1) h2 p1) fun vv st2 va s2 W2 S2 V2 p2=>wpAny_bind (wpAny_standAt (wpAny_pure ?_))))
  refine wpAny_bind (wpAny_holding (wpAny_pure (wpAny_pure ?_)))
  cases kv with
  | int i =>
   have p2:∀ n,newW (.dict [(i,vv)] n) st2 P:=p2
   obtain ⟨t,rfl⟩:=V1.isInt
   have S3:=(S0.trans S1).trans S2
   have sa0:st s.heap.objs.size=none:=W.fresh fa
   have sa:st2 s.heap.objs.size=none:=(S1.trans S2).new _ sa0 (by show Heap.get? _ _≠none;rw [ga];simp)
   have g2:s2.heap.get? s.heap.objs.size=some { cls:=.type "dict",data:=.dict #[] }:=(S1.trans S2).keep _ _ sa0 (fun h=>nomatch h) ga
   refine ⟨[(i,va)],⟨intKind_is i t,rfl,trivial⟩,?_,fun h' hd hs=>?_⟩
   ·exact Heap.dictOf_iff.mpr (by
     refine ex1 (Heap.dictOf_iff.mp (Heap.DictOf.new (knd:=intKind C.prog C.w) s.heap)) fun o zq0=>?_;have ho:=zq0.1;have hd:=zq0.2;clear zq0
     rw [ga] at ho;cases ho
     exact ⟨_,g2,hd⟩)
   ·refine ex1 (hd.dictAt) fun n hd'=>?_
    have hl':h'.get? s.heap.objs.size≠none:=by obtain ⟨o,_,z,_⟩:=hd';rw [z];simp
    have c0:C.h0.get? s.heap.objs.size=none:=by
     cases q:C.h0.get? s.heap.objs.size with
     | none=>rfl
     | some o=>rw [W.keep _ _ q] at fa;cases fa
    have nst:∀ o,s2.heap.get? s.heap.objs.size=some o→still o=false:=fun o e=>by rw [g2] at e;cases e;rfl
    have hk:∀ b o,b≠s.heap.objs.size→s2.heap.get? b=some o→h'.get? b=some o:=fun b o hb e=>(hs.2 b hb).trans e
    have W3:WR C st2 h':=offWR W2 hk sa c0 nst
    have V3:=offVR hk nst V2
    have S4:Step [] st s st2 { s2 with heap:=h',toks:=s2.toks+1 }:=offStep S3 hk fa
    have hv:∀ {x:V} {v:Value},VR st2 h' x v→VR (st2.set s.heap.objs.size (.dict [(i,vv)] n)) h' x v:=fun {x v} h=>VR.mono (fun b hb=>St.set_dom _ _ _ _ hb) (fun b o e1 e2 e3=>⟨by
     rw [St.set_other];exact e1
     rintro rfl
     refine ex2 hd' fun o' _ zq0=>?_;have z:=zq0.1;have zd:=zq0.2.2.1;clear zq0 hd'
     rw [z] at e2;cases e2
     rw [still_dict zd] at e3;exact absurd e3 (by simp),e2⟩) x h
    refine ⟨.ref s.heap.objs.size,st2.set s.heap.objs.size (.dict [(i,vv)] n),?_,?_,?_,p2 n _ sa⟩
    ·refine ⟨W3.keep,fun a o e=>?_⟩
     rcases St.set_some e with ⟨rfl,rfl⟩ | ⟨hb,q⟩
     ·exact ⟨c0,_,hd',⟨va,[],by simp [merged,stored],hv V3,rfl⟩,by simp⟩
     ·refine ⟨(W3.obj a o q).1,(W3.obj a o q).2.mono (fun b hb=>St.set_dom _ _ _ _ hb) (fun b ob e1 e2 e3=>⟨?_,e2⟩) (fun _ e=>e) fun b hb=>⟨?_,fun _ e=>e⟩⟩
      ·rw [St.set_other];exact e1
       rintro rfl
       refine ex2 hd' fun o' _ zq0=>?_;have z:=zq0.1;have zd:=zq0.2.2.1;clear zq0 hd'
       rw [z] at e2;cases e2
       rw [still_dict zd] at e3;cases e3
      ·rw [St.set_other];exact hb
       rintro rfl
       rw [sa] at hb;cases hb
    ·exact {
      dom:=fun b hb=>St.set_dom _ _ _ _ (S4.dom b hb)
      new:=fun b hb e=>by
       rw [St.set_other];exact S4.new b hb e
       rintro rfl;exact e fa
      keep:=S4.keep
      kseq:=S4.kseq
      live:=S4.live
      gens:=S4.gens
      os:=S4.os }
    ·exact ⟨rfl,by rw [St.set_same];simp⟩
  | _=>exact False.elim p2
theorem comp_in {ns:List Nat} {sc:Sc} {one:Bool} {e1 src:X} {ifs:List X} {e:Expr} {m:Expr→Prop} (hm:mE sc (.comp e1 one ns src ifs) e=true)
  (k:∀ elt target iter fs scope pos xs,isSet iter=false→mE sc src iter=true→tNames one target=some xs→cOk sc scope ns xs=true→mE (cSc sc scope ns xs) e1 elt=true→mEs (cSc sc scope ns xs) ifs fs=true→m (.ListComp elt [⟨target,iter,fs,0⟩] scope pos)):m e:=by
 refine vListComp_k hm fun elt gs scope pos hm=>?_
 refine sing_k hm fun g hm=>?_
 obtain ⟨target,iter,fs,asy⟩:=g
 refine b4 hm fun h0 h1 h2 h3=>?_
 cases eq_of_beq h0
 cases hx:tNames one target with
 | none=>rw [show (Comprehension.mk target iter fs 0).target=target from rfl,hx] at h3;cases h3
 | some xs =>
  rw [show (Comprehension.mk target iter fs 0).target=target from rfl,hx] at h3
  exact b3 h3 fun h4 h5 h6=>k _ _ _ _ _ _ xs (nt h1) h2 hx h4 h5 h6
theorem cComp {e1 src:X} {one:Bool} {ns:List Nat} {ifs:List X} (hs:PE C src) (he:PE C e1) (hf:PF C ifs):PE C (.comp e1 one ns src ifs):=by
 intro k A sc env st s ls e P bd O W F hm p
 refine comp_in X0 (m:=fun e=>wpAny C.M A (eval e env) (EP C st s P) NoE s) hm fun elt target iter fs scope pos xs h1 h2 hx h4 h5 h6=>?_
 rw [arm_eval_ListComp]
 show wpAny C.M A (comprehension (.ListComp elt [⟨target,iter,fs,0⟩] scope pos) scope env _ (newList []) false (eval iter env) none) _ _ _
 refine comp_core bd O (COk.of h4) hx h1 F (hs bd O W F h2 p) (fun O' W' F' p'=>he bd O' W' F' h5 p') (fun O' W' F' p'=>hf bd O' W' F' h6 p') ?_
 intro a st' s' cA m W' S' ha p' c1 c2 c3 hn
 refine ⟨m,hn,fun h' hs'=>?_⟩
 have hk:∀ b o,b≠cA→s'.heap.get? b=some o→h'.get? b=some o:=fun b o hb e=>(hs'.2 b hb).trans e
 have nst:∀ o,s'.heap.get? cA=some o→still o=false:=fun o e=>by
  refine ex3 hn fun o' _ _ zq0=>?_;have z:=zq0.1;have zd:=zq0.2.1;clear zq0 hn
  rw [e] at z;cases z;exact still_dict zd
 exact ⟨.ref a,st',offWR W' hk c3 c2 nst,offStep S' hk c1,And.intro rfl ha,p'⟩
theorem tNo {x:X} (h:∀ k ls st P,wpT (CallF C k) x ls st P→False):PT C x:=fun _ _ _ _ _ p=>(h _ _ _ _ p).elim
mutual
theorem snd:∀ x:X,PE C x∧PT C x
 | .lit v=>⟨cLit X0 v,tNo X0 fun _ _ _ _ p=>by exact p⟩
 | .rows=>⟨cRows X0,tNo X0 fun _ _ _ _ p=>by exact p⟩
 | .var n=>⟨cVar X0 n,tVar X0 n⟩
 | .bin o a b=>⟨cBin X0 (snd a).1 (snd b).1,tNo X0 fun _ _ _ _ p=>by exact p⟩
 | .neg a=>⟨cNeg X0 (snd a).1,tNo X0 fun _ _ _ _ p=>by exact p⟩
 | .not a=>⟨cNot X0 (snd a).1,tNot X0 (snd a).2⟩
 | .bool c as=>⟨cBool X0 (sndL as).2.1,tBool X0 (sndL as).2.2.2.1⟩
 | .cmp a ops cs=>⟨cCmp X0 (snd a).1 (sndL cs).2.2.1,tCmp X0 (snd a).1 (sndL cs).2.2.1⟩
 | .ite t a b=>⟨cIte X0 (snd t).2 (snd a).1 (snd b).1,tIte X0 (snd t).2 (snd a).2 (snd b).2⟩
 | .call f as=>⟨cCall X0 (sndL as).1,tCall X0 (sndL as).1⟩
 | .new c as=>⟨cNew X0 (sndL as).1,tNo X0 fun _ _ _ _ p=>by exact p⟩
 | .bi b as=>⟨cBi X0 (sndL as).1,tNo X0 fun _ _ _ _ p=>by exact p⟩
 | .meth o m as=>⟨cMeth X0 (snd o).1 (sndL as).1,tMeth X0 (snd o).1 (sndL as).1⟩
 | .bmeth o m as=>⟨cBmeth X0 (snd o).1 (sndL as).1,tNo X0 fun _ _ _ _ p=>by exact p⟩
 | .attr o f=>⟨cAttr X0 (snd o).1,tNo X0 fun _ _ _ _ p=>by exact p⟩
 | .idx o i=>⟨cIdx X0 (snd o).1 (snd i).1,tNo X0 fun _ _ _ _ p=>by exact p⟩
 | .slc o l h t=>⟨cSlc X0 (snd o).1 (snd l).1 (snd h).1 (snd t).1,tNo X0 fun _ _ _ _ p=>by exact p⟩
 | .list as=>⟨cList X0 (sndL as).1,tNo X0 fun _ _ _ _ p=>by exact p⟩
 | .tup as=>⟨cTup X0 (sndL as).1,tNo X0 fun _ _ _ _ p=>by exact p⟩
 | .dict0=>⟨cDict0 X0,tNo X0 fun _ _ _ _ p=>by exact p⟩
 | .dict1 a b=>⟨cDict1 X0 (snd a).1 (snd b).1,tNo X0 fun _ _ _ _ p=>by exact p⟩
 | .comp e one t src ifs=>⟨cComp X0 (snd src).1 (snd e).1 (sndL ifs).2.2.2.2,tNo X0 fun _ _ _ _ p=>by exact p⟩
theorem sndL:∀ xs:List X,PEs C xs∧PB C xs∧PC C xs∧PTs C xs∧PF C xs
 | []=>⟨esNil X0,bNil X0,cNil X0,tsNil X0,fNil X0⟩
 | x::xs=>⟨esCons X0 (snd x).1 (sndL xs).1,bCons X0 (snd x).1 (sndL xs).2.1,cCons X0 (snd x).1 (sndL xs).2.2.1,tsCons X0 (snd x).2 (sndL xs).2.2.2.1,fCons X0 (snd x).2 (sndL xs).2.2.2.2⟩
end
end
noncomputable def AQ (C:Cx) (env:Env) (sc:Sc) (st:St) (s:Shared) (P:Ls→St→Prop):Unit→Shared→Prop:=fun _ s'=>∃ ls' st',WR C st' s'.heap∧Step (fp env) st s st' s'∧FrR C st' s'.heap sc env ls'∧P ls' st'
noncomputable def PA (C:Cx) (t:T):Prop:=∀ {k:Nat} {A:Around} {sc:Sc} {env:Env} {st:St} {s:Shared} {ls:Ls} {e:Expr} {v:V} {u:Value} {P:Ls→St→Prop},Body A k→EnvOk sc env→WR C st s.heap→FrR C st s.heap sc env ls→VR st s.heap v u→mT sc t e=true→wpA (CallF C k) t v ls st P→wpAny C.M A (assign e env u) (AQ C env sc st s P) NoE s
noncomputable def PAs (C:Cx) (ts:List T):Prop:=∀ {k:Nat} {A:Around} {sc:Sc} {env:Env} {st:St} {s:Shared} {ls:Ls} {es:List Expr} {vs:List V} {us:List Value} {P:Ls→St→Prop},Body A k→EnvOk sc env→WR C st s.heap→FrR C st s.heap sc env ls→VRs st s.heap vs us→mTs sc ts es=true→wpAs (CallF C k) ts vs ls st P →
 wpAny C.M A (assignInOrder ((assignEach es env).map (·.2)) us) (AQ C env sc st s P) NoE s
theorem tgt_fp {sc:Sc} {env:Env} (x:Str):(sc.names.lookup x=some .local→env.locals∈fp env)∧∀ c,sc.names.lookup x=some .cell→env.cells.lookup x=some c→c∈fp env:=⟨fun _=>List.mem_cons_self ..,fun _ _ h=>fp_cell h⟩
theorem assignEach_star {e:Expr} (h:isStar e=false) (r:List Expr) (env:Env):assignEach (e::r) env=(false,assign e env)::assignEach r env:=by
 cases e <;> first | rfl | cases h
theorem assignEach_shape {sc:Sc} (env:Env):∀ {ts:List T} {es:List Expr},mTs sc ts es=true→(assignEach es env).findIdx? (·.1)=none∧(assignEach es env).length=ts.length
 | [],es,h=>by cases em_k h;exact ⟨rfl,rfl⟩
 | t::ts,[],h=>by cases h
 | t::ts,e::es,h=>b3 h fun h1 _ h3=>by
  have zq0:=assignEach_shape env h3;have i1:=zq0.1;have i2:=zq0.2;clear zq0
  rw [assignEach_star (nt h1)]
  exact ⟨by rw [List.findIdx?_cons,i1];rfl,congrArg Nat.succ i2⟩
section
variable {C:Cx} (X0:CxOk C)
include X0
theorem AQ.out {env:Env} {sc:Sc} {st st1:St} {s s1:Shared} {A:Around} {P:Ls→St→Prop} {m:Sem Unit} (S:Step (fp env) st s st1 s1) (h:wpAny C.M A m (AQ C env sc st1 s1 P) NoE s1):wpAny C.M A m (AQ C env sc st s P) NoE s1 :=
 wpAny_mono h (fun _ _ ⟨ls',st',w,z,r⟩=>⟨ls',st',w,S.trans z,r⟩) fun _ _ x=>x
theorem tg_of {sc:Sc} {n:Nat} {x:Str} (h:tgK sc n x=true):sc.nm[n]?=some (some x)∧sc.names.lookup x≠some .free:=b2 h fun h1 h2=>⟨eq_of_beq h1,fun e=>by rw [e] at h2;cases h2⟩
theorem aVar (n:Nat):PA C (.var n):=by
 intro k A sc env st s ls e v u P bd O W F hv hm p
 refine vName_k hm fun x px hm=>?_
 have zq0:=tg_of X0 hm;have h1:=zq0.1;have h2:=zq0.2;clear zq0
 exact wpAny_assign_Name (st_ok (φ:=fp env) O W F h1 h2 (tgt_fp x) hv fun s' W' S' F'=>⟨_,st,W',S',F',p⟩)
theorem aAttr {o:X} {f:Nat}:PA C (.attr o f):=by
 intro k A sc env st s ls e v u P bd O W F hv hm p
 refine vAttribute_k hm fun eo a pos hm=>?_
 refine b2 hm fun h0 h1=>?_
 cases eq_of_beq h0
 show wpAny C.M A (do
  let ov ← holding [u] (eval eo env)
  standAt pos.atName
  holding [u,ov] (setAttr ov (fname f) u)
  release [u,ov] []) _ _ s
 refine seqH ((snd X0 o).1 bd O W F h1 p) fun w st1 wa s1 W1 S1 V1 p1=>wpAny_bind (wpAny_standAt ?_)
 refine wpAny_bind (wpAny_holding (wpAny_mono (setAttr_ok X0.cls W1 V1 (S1.vr hv) p1) (fun _ s2 ⟨st2,W2,S2,p2⟩=>?_) noE))
 exact wpAny_release' ⟨ls,st2,W2,(S1.trans S2).nil,(F.stp S1).stp S2,p2⟩
theorem aIdx {o i:X}:PA C (.idx o i):=by
 intro k A sc env st s ls e v u P bd O W F hv hm p
 refine vSubscript_k hm fun eo ei pos hm=>?_
 refine b2 hm fun h1 h2=>?_
 rw [arm_assign_Subscript]
 refine seqH ((snd X0 o).1 bd O W F h1 p) fun w st1 wa s1 W1 S1 V1 p1=>?_
 refine seqH ((snd X0 i).1 bd O W1 (F.stp S1) h2 p1) fun z st2 za s2 W2 S2 V2 p2=>wpAny_bind (wpAny_standAt ?_)
 refine wpAny_bind (wpAny_holding (wpAny_mono (setItem_ok W2 (S2.vr V1) V2 ((S1.trans S2).vr hv) p2) (fun _ s3 ⟨st3,W3,S3,p3⟩=>?_) noE))
 exact wpAny_release' ⟨ls,st3,W3,((S1.trans S2).trans S3).nil,((F.stp S1).stp S2).stp S3,p3⟩
theorem aTup {ts:List T} (h:PAs C ts):PA C (.tup ts):=by
 intro k A sc env st s ls e v u P bd O W F hv hm p
 refine vTuple_k hm fun es e1 pos hm=>?_
 cases v with
 | tup vs =>
  have p:ts.length=vs.length∧wpAs (CallF C k) ts vs ls st P:=p
  have zq0:=assignEach_shape env hm;have i1:=zq0.1;have i2:=zq0.2;clear zq0
  show wpAny C.M A (do standAt pos;unpack u (assignEach es env)) _ _ s
  refine wpAny_bind (wpAny_standAt ?_)
  unfold unpack
  rw [i1,i2,p.1]
  exact wpAny_bind (wpAny_holding (unpack_ok bd.good W hv fun us s1 W1 S1 V1=>AQ.out X0 S1.nil (h bd O W1 (F.stp S1) V1 hm p.2)))
 | _=>exact False.elim p
theorem asNil:PAs C []:=by
 intro k A sc env st s ls es vs us P bd O W F hv hm p
 cases em_k hm
 exact wpAny_pure ⟨ls,st,W,.refl ..,F,p⟩
theorem asCons {t:T} {ts:List T} (ht:PA C t) (h:PAs C ts):PAs C (t::ts):=by
 intro k A sc env st s ls es vs us P bd O W F hv hm p
 cases es with
 | nil=>cases hm
 | cons e es =>
  refine b3 hm fun h1 h2 h3=>?_
  cases vs with
  | nil=>exact False.elim p
  | cons v vs =>
   refine hv.unc fun u us' v1 v2=>?_
   rw [assignEach_star (nt h1)]
   show wpAny C.M A (do holding us' (assign e env u);assignInOrder ((assignEach es env).map (·.2)) us') _ _ s
   refine wpAny_bind (wpAny_holding (wpAny_mono (ht bd O W F v1 h2 p) (fun _ s1 ⟨ls1,st1,W1,S1,F1,p1⟩=>?_) noE))
   exact AQ.out X0 S1 (h bd O W1 F1 (S1.vrs v2) h3 p1)
mutual
theorem sndA:∀ t:T,PA C t
 | .var n=>aVar X0 n
 | .attr o f=>aAttr X0
 | .idx o i=>aIdx X0
 | .tup ts=>aTup X0 (sndAs ts)
theorem sndAs:∀ ts:List T,PAs C ts
 | []=>asNil X0
 | t::ts=>asCons X0 (sndA t) (sndAs ts)
end
end
theorem setAll_snoc:∀ (ns:List Nat) (vs:List V) (ls:Ls) (n:Nat) (v:V),ns.length=vs.length→n∉ns→setAll ls (ns++[n]) (vs++[v])=setAll (ls.set n (some v)) ns vs
 | [],[],ls,n,v,_,_=>rfl
 | m::ns,u::vs,ls,n,v,h,hn=>by
  rw [List.cons_append,List.cons_append]
  simp only [setAll]
  rw [setAll_snoc ns vs _ n v (by simpa using h) (fun hm=>hn (List.mem_cons_of_mem _ hm)),List.set_comm _ _ (by rintro rfl;exact hn (List.mem_cons_self ..))]
 | [],_::_,_,_,_,h,_=>by simp at h
 | _::_,[],_,_,_,h,_=>by simp at h
theorem setAll_rev:∀ (ns:List Nat) (vs:List V) (ls:Ls),ns.length=vs.length→ns.Nodup→setAll ls ns.reverse vs.reverse=setAll ls ns vs
 | [],[],_,_,_=>rfl
 | n::ns,v::vs,ls,h,nd=>by
  rw [List.nodup_cons] at nd
  rw [List.reverse_cons,List.reverse_cons,setAll_snoc _ _ _ _ _ (by simpa using h) (by simpa using nd.1)]
  simp only [setAll]
  exact setAll_rev ns vs _ (by simpa using h) nd.2
 | [],_::_,_,h,_=>by simp at h
 | _::_,[],_,h,_=>by simp at h
theorem tgtNames {C:Cx} {k:Nat} {sc:Sc} {P:Ls→St→Prop} {es:List Expr} {xs:List Str} (hn:Nms es xs):∀ {ts:List T} {vs:List V} {ls:Ls} {st:St},mTs sc ts es=true→ts.length=vs.length→wpAs (CallF C k) ts vs ls st P →
  ∃ ns ls',ns.length=xs.length∧(∀ p∈ns.zip xs,sc.nm[p.1]?=some (some p.2))∧setAll ls ns vs=some ls'∧P ls' st:=by
 induction hn with
 | nil =>
  intro ts vs ls st hm hl p
  cases ts with
  | cons _ _=>cases hm
  | nil=>cases vs with
   | cons _ _=>cases hl
   | nil=>exact ⟨[],ls,rfl,fun _ h=>(nomatch h),rfl,p⟩
 | cons x pos es xs _ ih =>
  intro ts vs ls st hm hl p
  cases ts with
  | nil=>cases hm
  | cons t ts=>cases vs with
   | nil=>cases hl
   | cons v vs =>
    have hm:(!isStar (.Name x pos)&&(mT sc t (.Name x pos)&&mTs sc ts es))=true:=hm
    refine b3 hm fun _ h2 h3=>?_
    cases t with
    | var n =>
     have h2:tgK sc n x=true:=h2
     refine ex2 (ih h3 (Nat.succ.inj hl) p) fun ns ls' zq0=>?_;have i1:=zq0.1;have i2:=zq0.2.1;have i3:=zq0.2.2.1;have i4:=zq0.2.2.2;clear zq0
     exact ⟨n::ns,ls',congrArg Nat.succ i1,fun q hq=>(List.mem_cons.mp hq).elim (fun e=>e▸b2 h2 fun h1 _=>eq_of_beq h1) (i2 q),i3,i4⟩
    | _=>cases h2
noncomputable def FlR (st:St) (h:Heap):Fl→Flow→Prop
 | .next,f=>f=.next
 | .brk,f=>f=.brk
 | .cont,f=>f=.cont
 | .ret v,f=>∃ u,f=.ret u∧VR st h v u
noncomputable def SQ (C:Cx) (env:Env) (sc:Sc) (st:St) (s:Shared) (P:Fl→Ls→St→Prop):Flow→Shared→Prop:=fun f s'=>∃ fl ls' st',FlR st' s'.heap fl f∧WR C st' s'.heap∧Step (fp env) st s st' s'∧FrR C st' s'.heap sc env ls'∧P fl ls' st'
noncomputable def PS (C:Cx) (x:S):Prop:=∀ {k:Nat} {A:Around} {sc:Sc} {env:Env} {st:St} {s:Shared} {ls:Ls} {e:Stmt} {P:Fl→Ls→St→Prop},Body A k→EnvOk sc env→WR C st s.heap→FrR C st s.heap sc env ls→mS sc x e=true→wpS (CallF C k) x ls st P→wpAny C.M A (exec e env) (SQ C env sc st s P) NoE s
noncomputable def PSs (C:Cx) (xs:List S):Prop:=∀ {k:Nat} {A:Around} {sc:Sc} {env:Env} {st:St} {s:Shared} {ls:Ls} {es:List Stmt} {P:Fl→Ls→St→Prop},Body A k→EnvOk sc env→WR C st s.heap→FrR C st s.heap sc env ls→mSs sc xs es=true→wpSs (CallF C k) xs ls st P→wpAny C.M A (execs es env) (SQ C env sc st s P) NoE s
section
variable {C:Cx} {st:St} {s:Shared} {A:Around} {sc:Sc} {env:Env} {ls:Ls} {k:Nat}
theorem SQ.out {st1:St} {s1:Shared} {P:Fl→Ls→St→Prop} {m:Sem Flow} (S:Step (fp env) st s st1 s1) (h:wpAny C.M A m (SQ C env sc st1 s1 P) NoE s1):wpAny C.M A m (SQ C env sc st s P) NoE s1 :=
 wpAny_mono h (fun _ _ ⟨fl,ls',st',a,w,z,r⟩=>⟨fl,ls',st',a,w,S.trans z,r⟩) fun _ _ x=>x
theorem SQ.next {st':St} {s':Shared} {ls':Ls} {P:Fl→Ls→St→Prop} (W:WR C st' s'.heap) (S:Step (fp env) st s st' s') (F:FrR C st' s'.heap sc env ls') (p:P .next ls' st'):SQ C env sc st s P .next s':=⟨.next,ls',st',rfl,W,S,F,p⟩
theorem bindNames_ok {φ:List Addr} (O:EnvOk sc env) {ns:List Nat} {l:List V} {ls ls':Ls} (hs:SA ls ns l ls'):∀ {xs:List Str} {us:List Value} {s:Shared} {Q:Unit→Shared→Prop} {E:Value→Shared→Prop},
  ns.length=xs.length→(∀ p∈ns.zip xs,TgtOk sc env φ p.1 p.2)→WR C st s.heap→FrR C st s.heap sc env ls→VRs st s.heap l us →
  (∀ s',WR C st s'.heap→Step φ st s st s'→FrR C st s'.heap sc env ls'→Q () s')→wpAny C.M A (assignInOrder (xs.map fun n=>bindName env n) us) Q E s:=by
 induction hs with
 | nil ls =>
  intro xs us s Q E hl ht W F hv h
  cases xs with
  | cons _ _=>cases hl
  | nil=>exact wpAny_pure (h s W (.refl ..) F)
 | cons r ih =>
  intro xs us s Q E hl ht W F hv h
  cases xs with
  | nil=>cases hl
  | cons x xs =>
   refine hv.unc fun u us' v1 v2=>?_
   obtain ⟨t1,t2,t3⟩:=ht _ (List.mem_cons_self ..)
   show wpAny C.M A (do holding us' (bindName env x u);assignInOrder (xs.map fun n=>bindName env n) us') Q E s
   refine wpAny_bind (wpAny_holding (wpAny_bindName (st_ok O W F t1 t2 t3 v1 fun s' W' S' F'=>?_)))
   exact ih (Nat.succ.inj hl) (fun q hq=>ht q (List.mem_cons_of_mem _ hq)) W' F' (S'.vrs v2) fun s'' W'' S'' F''=>h s'' W'' (S'.trans S'') F''
theorem fm_nms {f:Expr→Option Str} (hf:∀ e x,f e=some x→oName e=some x∧env.kindOf x=some .local):∀ {es:List Expr},(es.filterMap f).length=es.length→Nms es (es.filterMap f)∧(∀ n∈es.filterMap f,env.kindOf n=some .local)∧es.filterMap oName=es.filterMap f
 | [],_=>⟨.nil,(fun _ h=>nomatch h),rfl⟩
 | e::es,h=>by
  cases q:f e with
  | none =>
   rw [List.filterMap_cons_none q] at h
   exact absurd (h▸List.length_filterMap_le f es) (Nat.not_succ_le_self _)
  | some x =>
   rw [List.filterMap_cons_some q] at h ⊢
   have zq0:=hf e x q;have h1:=zq0.1;have h2:=zq0.2;clear zq0
   have zq0:=fm_nms hf (Nat.succ.inj h);have i1:=zq0.1;have i2:=zq0.2.1;have i3:=zq0.2.2;clear zq0
   rw [List.filterMap_cons_some h1,i3]
   exact ⟨oName_s h1 fun p=>.cons x p es _ i1,fun n hn=>(List.mem_cons.mp hn).elim (fun e=>e▸h2) (i2 n),rfl⟩
theorem ite_or {α:Type} {c:Prop} [Decidable c] {a b:α} {Q:α→Prop} (h1:c→Q a) (h2:¬ c→Q b):Q (if c then a else b):=by
 by_cases h:c
 ·rw [if_pos h];exact h1 h
 ·rw [if_neg h];exact h2 h
noncomputable def SwQ (env:Env) (es:List Expr) (X:Sem (Option (List Str))):Prop:=X=pure none∨∃ f:Expr→Option Str,(∀ e x,f e=some x→oName e=some x∧env.kindOf x=some .local)∧(es.filterMap f).length=es.length∧X=pure (some (es.filterMap f))
theorem sw_tup {es vs:List Expr} {x1 x2:Nat} {p1 p2:Pos} (h:(!(vs.all (constantsAlone 8)) || vs.all (foldedForSure 8))=true):swappedStores [.Tuple es x1 p1] (.Tuple vs x2 p2) env=pure none ∨
  ∃ f:Expr→Option Str,(∀ e x,f e=some x→oName e=some x∧env.kindOf x=some .local)∧(es.filterMap f).length=es.length∧swappedStores [.Tuple es x1 p1] (.Tuple vs x2 p2) env=pure (some (es.filterMap f)):=by
 delta swappedStores;dsimp only
 refine ite_or (Q:=SwQ env es) (fun _=>Or.inl rfl) fun _=>?_
 refine ite_or (Q:=SwQ env es) (fun _=>Or.inl rfl) fun _=>?_
 refine ite_or (Q:=SwQ env es) (fun _=>Or.inl rfl) fun c3=>?_
 refine ite_or (Q:=SwQ env es) (fun _=>Or.inl rfl) fun c4=>?_
 have c5:¬ vs.all (constantsAlone 8)=true:=fun q=>by rw [q] at h;exact c4 h
 rw [if_neg c5]
 simp only [Bool.or_eq_true,bne_iff_ne,ne_eq,not_or,Decidable.not_not] at c3
 refine Or.inr ⟨_,fun e x he=>?_,c3.1,rfl⟩
 cases e <;> first | (cases he;done) | skip
 dsimp only at he
 rw [Option.ite_none_right_eq_some,Bool.and_eq_true,beq_iff_eq] at he
 exact ⟨congrArg some (Option.some.inj he.2),Option.some.inj he.2▸he.1.1⟩
theorem sw_no {target value:Expr} (h:(target.ctorIdx==24)=false) (h':(target.ctorIdx==25&&value.ctorIdx==25)=false):swappedStores [target] value env=pure none:=by
 cases target with
 | List=>cases h
 | Tuple=>cases value <;> first | rfl | cases h'
 | _=>rfl
theorem swapped {target value:Expr} {m:Prop} (h:swapOk target value=true) (k0:swappedStores [target] value env=pure none→m)
  (k1:∀ es x p names,target=.Tuple es x p→swappedStores [target] value env=pure (some names)→Nms es names→names.Nodup→(∀ n∈names,env.kindOf n=some .local)→m):m:=by
 refine b2 h fun h1 h2=>?_
 have h1:=nt h1
 cases q:(target.ctorIdx==25&&value.ctorIdx==25) with
 | false=>exact k0 (sw_no h1 q)
 | true =>
  rw [Bool.and_eq_true] at q
  rw [q.1,q.2] at h2
  revert k0 k1
  refine vTuple_k (m:=fun target=>(swappedStores [target] value env=pure none→m)→(∀ es x p names,target=.Tuple es x p→swappedStores [target] value env=pure (some names)→Nms es names→names.Nodup→(∀ n∈names,env.kindOf n=some .local)→m)→m) h2 fun ts n p h2=>?_
  refine b2 h2 fun h3 h2=>?_
  refine vTuple_k (m:=fun value=>(swappedStores [.Tuple ts n p] value env=pure none→m)→(∀ es x p' names,Expr.Tuple ts n p=.Tuple es x p'→swappedStores [.Tuple ts n p] value env=pure (some names)→Nms es names→names.Nodup→(∀ n∈names,env.kindOf n=some .local)→m)→m) h2 fun vs n' p' h2 k0 k1=>?_
  rcases sw_tup (env:=env) h2 with e | ⟨f,f1,f2,f3⟩
  ·exact k0 e
  ·obtain ⟨g1,g2,g3⟩:=fm_nms f1 f2
   exact k1 _ _ _ _ rfl f3 g1 (g3▸of_decide_eq_true h3) g2
end
set_option maxHeartbeats 1000000
section
variable {C:Cx} (X0:CxOk C)
include X0
theorem swaps_plain {value:Expr} {t:Option Expr} {line:Nat} {env:Env} (h:isComp value=false):swapsWith value t line env=pure false:=by
 cases value <;> first | rfl | cases h
theorem comp_of {sc:Sc} {x:X} {elt:Expr} {gens:List Comprehension} {scope:Scope} {cpos:Pos} (h:mE sc x (.ListComp elt gens scope cpos)=true):∃ e1 one ns src ifs,x=.comp e1 one ns src ifs:=by
 cases x with
 | comp=>exact ⟨_,_,_,_,_,rfl⟩
 | lit v=>cases v <;> cases h
 | _=>cases h
theorem no_comp {sc:Sc} {x:X} {e:Expr} (h:mE sc x e=true) (h':e.ctorIdx=9∨e.ctorIdx=10):False:=by
 rcases h' with q | q
 ·revert h
  refine Expr.SetComp.elim (motive_1:=fun e=>mE sc x e=true→False) e q fun _ _ _ _ h=>?_
  cases x with
  | lit v=>cases v <;> cases h
  | _=>cases h
 ·revert h
  refine Expr.DictComp.elim (motive_1:=fun e=>mE sc x e=true→False) e q fun _ _ _ _ _ h=>?_
  cases x with
  | lit v=>cases v <;> cases h
  | _=>cases h
theorem star_mT {sc:Sc} {t:T} {e:Expr} (h:mT sc t e=true):isStar e=false:=by
 cases t with
 | var n=>exact vName_k h fun _ _ _=>rfl
 | attr o f=>exact vAttribute_k h fun _ _ _ _=>rfl
 | idx o i=>exact vSubscript_k h fun _ _ _ _=>rfl
 | tup ts=>exact vTuple_k h fun _ _ _ _=>rfl
theorem comp_store {k:Nat} {A:Around} {sc:Sc} {env:Env} {st:St} {s:Shared} {ls:Ls} {target elt:Expr} {gens:List Comprehension} {scope:Scope} {cpos:Pos} {t:T} {x:X} {P:Fl→Ls→St→Prop}
  (bd:Body A k) (O:EnvOk sc env) (W:WR C st s.heap) (F:FrR C st s.heap sc env ls) (h1:mT sc t target=true) (h2:mE sc x (.ListComp elt gens scope cpos)=true)
  (p:wpE (CallF C k) x ls st (kAg (wpA (CallF C k) t) ls (kN P))) :
  wpAny C.M A (do evalThenUse (.ListComp elt gens scope cpos) env fun v=>assignAll v ((assignEach [target] env).map (·.2));pure .next) (SQ C env sc st s P) NoE s:=by
 obtain ⟨e1,one,ns,src,ifs,rfl⟩:=comp_of X0 h2
 have main:∀ e,e=.ListComp elt gens scope cpos→mE sc (.comp e1 one ns src ifs) e=true→wpAny C.M A (do evalThenUse e env fun v=>assignAll v ((assignEach [target] env).map (·.2));pure Flow.next) (SQ C env sc st s P) NoE s:=by
  intro e _ he
  refine comp_in X0 (m:=fun e=>wpAny C.M A (do evalThenUse e env fun v=>assignAll v ((assignEach [target] env).map (·.2));pure Flow.next) (SQ C env sc st s P) NoE s) he fun elt target' iter fs scope cpos xs g1 g2 hx g4 g5 g6=>?_
  have he:evalThenUse (.ListComp elt [⟨target',iter,fs,0⟩] scope cpos) env (fun v=>assignAll v ((assignEach [target] env).map (·.2))) =
   (do let _ ← comprehension (.ListComp elt [⟨target',iter,fs,0⟩] scope cpos) scope env (firstIterPos [⟨target',iter,fs,0⟩] cpos) (newList []) false (eval iter env) (some fun v=>assignAll v ((assignEach [target] env).map (·.2)))):=by
   rfl
  rw [he]
  refine wpAny_bind (wpAny_bind (wpAny_mono (comp_core (Q:=fun _ s'=>SQ C env sc st s P .next s') (E:=NoE) bd O (COk.of g4) hx g1 F ((snd X0 src).1 bd O W F g2 p) (fun O' W' F' p'=>(snd X0 e1).1 bd O' W' F' g5 p') (fun O' W' F' p'=>(sndL X0 ifs).2.2.2.2 bd O' W' F' g6 p') ?_) (fun _ s' h=>wpAny_pure (wpAny_pure h)) noE))
  intro a st' s' cA m W' S' ha p' c1 c2 c3 hn
  show wpAny C.M A (assignAll (.ref a) ((assignEach [target] env).map (·.2))) _ _ s'
  rw [assignEach_star (star_mT X0 h1)]
  show wpAny C.M A (assign target env (.ref a)) _ _ s'
  have F':=F.stp S'
  refine wpAny_mono (sndA X0 t bd O W' F' (by exact And.intro rfl ha) h1 p') (fun _ s2 ⟨ls2,st2,W2,S2,F2,p2⟩=>?_) noE
  have cfp:cA∉fp env:=fun hm=>(F.out cA hm).2.2 c1
  refine ex3 hn fun o' es' ep' zq0=>?_;have z:=zq0.1;have zd:=zq0.2.1;have zr:=zq0.2.2;clear zq0 hn
  have z2:=S2.keep cA o' c3 cfp z
  refine ⟨m,⟨o',es',ep',z2,zd,zr⟩,fun h' hs'=>?_⟩
  have hk:∀ b o,b≠cA→s2.heap.get? b=some o→h'.get? b=some o:=fun b o hb e=>(hs'.2 b hb).trans e
  have nst:∀ o,s2.heap.get? cA=some o→still o=false:=fun o e=>by rw [z2] at e;cases e;exact still_dict zd
  have c4:st2 cA=none:=S2.new cA c3 (by rw [z];exact Option.some_ne_none _)
  exact SQ.next (offWR W2 hk c4 c2 nst) (offStep (S'.nil.trans S2) hk c1) (offFrR F2 cfp hk nst) p2
 exact main _ rfl h2
theorem setAll_nodup {sc:Sc} {names:List Str} {ns:List Nat} (h1:ns.length=names.length) (h2:∀ p∈ns.zip names,sc.nm[p.1]?=some (some p.2)) (nd:names.Nodup):ns.Nodup:=by
 induction ns generalizing names with
 | nil=>exact List.nodup_nil
 | cons n ns ih =>
  cases names with
  | nil=>cases h1
  | cons x names =>
   rw [List.nodup_cons] at nd ⊢
   refine ⟨fun hm=>?_,ih (Nat.succ.inj h1) (fun p hp=>h2 p (List.mem_cons_of_mem _ hp)) nd.2⟩
   obtain ⟨i,hi,e⟩:=List.getElem_of_mem hm
   have hj:i<names.length:=Nat.succ.inj h1▸hi
   have hz:i<(ns.zip names).length:=by rw [List.length_zip];exact Nat.lt_min.mpr ⟨hi,hj⟩
   have hm:=List.getElem_mem hz
   rw [List.getElem_zip] at hm
   have e1:=h2 (ns[i],names[i]) (List.mem_cons_of_mem _ hm)
   have e2:=h2 (n,x) (List.mem_cons_self ..)
   dsimp only at e1 e2
   rw [e,e2] at e1
   cases e1
   exact nd.1 (List.getElem_mem hj)
theorem sAssign {t:T} {x:X}:PS C (.assign t x):=by
 intro k A sc env st s ls e P bd O W F hm p
 refine zAssign_k hm fun ts value pos hm=>?_
 refine sing_k hm fun target hm=>?_
 refine b3 hm fun h1 h2 h3=>?_
 rw [exec_Assign_arm]
 refine wpAny_bind (wpAny_standAt ?_)
 have plain:wpAny C.M A (do
   let v ← eval value env
   assignStores env v (← swappedStores [target] value env) ((assignEach [target] env).map (·.2))) (SQ C env sc st s P) NoE s:=by
  refine seqE ((snd X0 x).1 bd O W F h2 p) fun v st1 va s1 W1 S1 V1 p1=>?_
  have F1:=F.stp S1
  refine swapped (env:=env) h3 (fun hs=>?_) fun es x1 q1 names hte hs hmap hnd hloc=>?_
  ·refine wpAny_bind (wpAny_of_eq hs ?_)
   rw [assignEach_star (star_mT X0 h1)]
   show wpAny C.M A (do assign target env va;pure Flow.next) _ _ s1
   exact wpAny_bind (wpAny_mono (sndA X0 t bd O W1 F1 V1 h1 p1) (fun _ s2 ⟨ls2,st2,W2,S2,F2,p2⟩=>wpAny_pure (SQ.next W2 (S1.nil.trans S2) F2 p2)) noE)
  ·refine wpAny_bind (wpAny_of_eq hs ?_)
   cases hte
   cases t with
   | tup ts =>
    cases v with
    | tup l =>
     have p1:ts.length=l.length∧wpAs (CallF C k) ts l ls st1 (kN P):=p1
     refine ex2 (tgtNames hmap h1 p1.1 p1.2) fun ns ls' zq0=>?_;have n1:=zq0.1;have n2:=zq0.2.1;have n3:=zq0.2.2.1;have n4:=zq0.2.2.2;clear zq0
     have hln:=(sa_of n3).len.symm
     have nnd:=setAll_nodup X0 n1 n2 hnd
     unfold assignStores
     refine wpAny_bind (wpAny_rule ?_)
     rw [← n1,hln]
     refine wpAny_bind (unpack_ok bd.good W1 V1 fun us s2 W2 S2 V2=>?_)
     rw [← setAll_rev ns l ls hln nnd] at n3
     refine wpAny_bind (bindNames_ok (φ:=fp env) O (sa_of n3) (by rw [List.length_reverse,List.length_reverse];exact n1) (fun q hq=>?_) W2 (F1.stp S2) V2.rev fun s3 W3 S3 F3=>wpAny_pure (SQ.next W3 ((S1.trans S2).nil.trans S3) F3 n4))
     have hq':q∈ns.zip names:=by
      have hz:=List.reverse_zipWith (f:=Prod.mk) n1
      have hq2:q∈List.zipWith Prod.mk ns.reverse names.reverse:=hq
      rw [← hz] at hq2
      exact List.mem_reverse.mp hq2
     exact ⟨n2 q hq',(by rw [← O.kind,hloc q.2 (List.of_mem_zip hq').2];exact fun e=>nomatch e),tgt_fp _⟩
    | _=>exact False.elim p1
   | _=>cases h1
 show wpAny C.M A (do
  if ← swapsWith value (some target) pos.line env then do
   evalThenUse value env fun v=>assignAll v ((assignEach [target] env).map (·.2))
   pure .next
  else do
   let v ← eval value env
   assignStores env v (← swappedStores [target] value env) ((assignEach [target] env).map (·.2))) _ _ s
 cases hc:isComp value
 ·exact wpAny_bind (wpAny_of_eq (swaps_plain X0 hc) plain)
 ·by_cases h8:value.ctorIdx=8
  ·obtain ⟨elt,gens,scope,cpos,rfl⟩:=Expr.ListComp.elim (motive_1:=fun v=>∃ a b c d,v=.ListComp a b c d) value h8 fun a b c d=>⟨a,b,c,d,rfl⟩
   have hb:∃ b,swapsWith (.ListComp elt gens scope cpos) (some target) pos.line env=pure b:=by
    unfold swapsWith
    cases target <;> exact ⟨_,rfl⟩
   obtain ⟨b,hb⟩:=hb
   refine wpAny_bind (wpAny_of_eq hb ?_)
   cases b
   ·exact plain
   ·exact comp_store X0 bd O W F h1 h2 p
  ·unfold isComp at hc
   rw [Bool.or_eq_true,Bool.or_eq_true,beq_iff_eq,beq_iff_eq,beq_iff_eq] at hc
   exact (no_comp X0 h2 (hc.elim (fun q=>q.elim (fun q=>absurd q h8) .inl) .inr)).elim
theorem sAug {n:Nat} {o:Bop} {x:X}:PS C (.aug n o x):=by
 intro k A sc env st s ls e P bd O W F hm p
 refine zAugAssign_k hm fun y op value pos hm=>?_
 refine b3 hm fun h1 h0 h3=>?_
 cases eq_of_beq h0
 refine vName_k h1 fun y npos h1=>?_
 have zq0:=tg_of X0 h1;have h1:=zq0.1;have h2:=zq0.2;clear zq0
 have p:match ls[n]? with | some (some (.int i))=>wpE (CallF C k) x ls st (kAu n o i ls P) | _=>False:=p
 split at p
 ·rename_i i hv
  show wpAny C.M A (do
   standAt npos
   let old ← loadName env y
   let v ← holding [old] (eval value env)
   standAt pos
   let new ← operate [old,v] (inplaceOp (sB o) old v)
   standAt npos
   bindName env y new
   pure Flow.next) _ _ s
  refine wpAny_bind (wpAny_standAt (wpAny_bind (ld_ok O F h1 hv fun u hu=>?_)))
  obtain ⟨t,rfl⟩:=hu.isInt
  refine seqH ((snd X0 x).1 bd O W F h3 p) fun w st1 wa s1 W1 S1 V1 p1=>wpAny_bind (wpAny_standAt ?_)
  have fin:∀ {r:Int} {tk:Tok} {t':Nat},P .next (ls.set n (some (.int r))) st1→wpAny C.M A (do standAt npos;bindName env y (.int r tk);pure Flow.next) (SQ C env sc st s P) NoE { s1 with toks:=t' }:=fun {r tk t'} q=>by
   have S2:Step [] st1 s1 st1 { s1 with toks:=t' }:=Step.all fun _ _ e=>e
   have W2:WR C st1 { s1 with toks:=t' }.heap:=W1
   exact wpAny_bind (wpAny_standAt (wpAny_bind (wpAny_bindName (st_ok (φ:=fp env) O W2 ((F.stp S1).stp S2) h1 h2 (tgt_fp y) (v:=.int r) .mkInt fun s3 W3 S3 F3=>wpAny_pure (SQ.next W3 ((S1.trans S2).nil.trans S3) F3 q)))))
  cases w with
  | int j =>
   obtain ⟨u,rfl⟩:=V1.isInt
   cases o with
   | add=>exact wpAny_bind (wpAny_operate' (PyProof.Rows.iadd_int (fin p1)))
   | sub=>exact wpAny_bind (wpAny_operate' (PyProof.Rows.isub_int (fin p1)))
   | _=>exact False.elim p1
  | _=>exact False.elim p1
 ·exact p.elim
theorem sExpr {x:X}:PS C (.expr x):=by
 intro k A sc env st s ls e P bd O W F hm p
 refine zExpr_k hm fun value pos hm=>?_
 refine b2 hm fun h1 h2=>?_
 refine wpAny_Expr_any (wpAny_mono ((snd X0 x).1 bd O W F h1 p) (fun v s1 ⟨y,st1,W1,S1,V1,p1⟩=>SQ.next W1 S1.nil (F.stp S1) p1) noE) ?_ (swaps_plain X0 (nt h2))
 unfold interactive
 rw [O.fn];rfl
theorem sRet {x:X}:PS C (.ret x):=by
 intro k A sc env st s ls e P bd O W F hm p
 refine zReturn_k hm fun v pos hm=>?_
 cases v with
 | none=>exact noneLit_k (m:=fun x=>wpS (CallF C k) (.ret x) ls st P→wpAny C.M A (exec (.Return none pos) env) (SQ C env sc st s P) NoE s) hm (fun p=>wpAny_Return_none ⟨.ret .none,ls,st,⟨_,rfl,rfl⟩,W,.refl ..,F,p⟩) p
 | some v=>exact wpAny_Return_some (wpAny_mono ((snd X0 x).1 bd O W F hm p) (fun v s1 ⟨y,st1,W1,S1,V1,p1⟩=>⟨.ret y,ls,st1,⟨_,rfl,V1⟩,W1,S1.nil,F.stp S1,p1⟩) noE)
theorem sIte {t:X} {a b:List S} (ha:PSs C a) (hb:PSs C b):PS C (.ite t a b):=by
 intro k A sc env st s ls e P bd O W F hm p
 refine zIf_k hm fun test body orelse pos hm=>?_
 refine b3 hm fun h1 h2 h3=>?_
 show wpAny C.M A (do
  standAt pos
  if ← isTrue test env (eval test env) then execs body env else execs orelse env) _ _ s
 refine wpAny_bind (wpAny_standAt (seqB ((snd X0 t).2 bd O W F h1 p) fun c st1 s1 W1 S1 p1=>?_))
 cases c
 ·exact SQ.out S1.nil (hb bd O W1 (F.stp S1) h3 p1)
 ·exact SQ.out S1.nil (ha bd O W1 (F.stp S1) h2 p1)
theorem sWhl {t:X} {b:List S} (hb:PSs C b):PS C (.whl t b):=by
 intro k A sc env st s ls e P bd O W F hm p
 refine zWhile_k hm fun test body orelse pos hm=>?_
 refine b3 hm fun h0 h1 h2=>?_
 cases em_k h0
 have p:whileW (wpT (CallF C k) t) (wpSs (CallF C k) b) ls st P:=p
 unfold whileW at p
 refine ex2 p fun Inv μ zq0=>?_;have i0:=zq0.1;have i1:=zq0.2;clear zq0 p
 refine wpAny_While (codeAny_whileLoop (fun n s'=>∃ ls' st',Inv ls' st'∧n=μ ls' st'∧WR C st' s'.heap∧Step (fp env) st s st' s'∧FrR C st' s'.heap sc env ls') ?_ (μ ls st) ⟨ls,st,i0,rfl,W,.refl ..,F⟩)
 rintro n s1 ⟨ls1,st1,j0,rfl,W1,S1,F1⟩
 refine wpAny_mono ((snd X0 t).2 bd O W1 F1 h1 (i1 ls1 st1 j0)) (fun c s2 ⟨st2,W2,S2,p2⟩=>?_) noE
 cases c
 ·exact wpAny_execs_nil ⟨.next,ls1,st2,rfl,W2,S1.trans S2.nil,F1.stp S2,p2⟩
 ·refine wpAny_mono (hb bd O W2 (F1.stp S2) h2 p2) (fun f s3 ⟨fl,ls3,st3,r,W3,S3,F3,p3⟩=>?_) noE
  have S4:=S1.trans (S2.nil.trans S3)
  cases fl with
  | next=>cases r;exact ⟨_,p3.2,ls3,st3,p3.1,rfl,W3,S4,F3⟩
  | cont=>cases r;exact ⟨_,p3.2,ls3,st3,p3.1,rfl,W3,S4,F3⟩
  | brk=>cases r;exact ⟨.next,ls3,st3,rfl,W3,S4,F3,p3⟩
  | ret v=>obtain ⟨u,rfl,r⟩:=r;exact ⟨.ret v,ls3,st3,⟨u,rfl,r⟩,W3,S4,F3,p3⟩
theorem sFor {one:Bool} {ns:List Nat} {src:X} {b:List S} (hb:PSs C b):PS C (.for_ one ns src b):=by
 intro k A sc env st s ls e P bd O W F hm p
 refine zFor_k hm fun target iter body orelse pos hm=>?_
 refine b4 hm fun h0 h1 h2 hm=>?_
 refine b2 hm fun h3 h4=>?_
 cases em_k h0
 have hset':=notSet (env:=env) (nt h3)
 unfold mTgt at h1
 cases htn:tNames one target with
 | none=>rw [htn] at h1;cases h1
 | some xs =>
  rw [htn] at h1
  refine b2 h1 fun hlen htg=>?_
  have hlen:=eq_of_beq hlen
  refine wpAny_For (wpAny_mono ((snd X0 src).1 bd O W F h2 p) (fun xv s1 ⟨x,st1,W1,S1,V1,p1⟩=>?_) noE) hset'
  have F1:=F.stp S1
  have p1:forW (wpSs (CallF C k) b) one ns x ls st1 P:=p1
  unfold forW at p1
  refine wpAny_mono (iter_ok (k:=k) W1 V1 p1) (fun it s₂ hI=>?_) noE
  refine ex4 hI fun I items chk T zq0=>?_;obtain rfl:=zq0.1;have hK:=zq0.2.1;have W2:=zq0.2.2.1;have S2:=zq0.2.2.2.1;have fI1:=zq0.2.2.2.2.1;have fI2:=zq0.2.2.2.2.2.1;have T0:=zq0.2.2.2.2.2.2.1;have IO:=zq0.2.2.2.2.2.2.2;clear zq0 hI
  refine ex1 hK fun Inv zq0=>?_;have i0:=zq0.1;have i1:=zq0.2.1;have i2:=zq0.2.2;clear zq0 hK
  have frI:I∉fp env:=fun hm=>(F1.out I hm).2.2 fI1
  have cI0:C.h0.get? I=none:=by
   cases q:C.h0.get? I with
   | none=>rfl
   | some o=>rw [W1.keep _ _ q] at fI1;cases fI1
  refine codeAny_forLoop_any (fun n s'=>∃ i ls' st',i+n=items.length∧Inv i ls' st'∧WR C st' s'.heap∧Step (fp env) st1 s1 st' s'∧T i s'.heap∧st' I=none∧FrR C st' s'.heap sc env ls'∧VR st' s'.heap x xv)
   ?_ items.length ⟨0,ls,st1,by exact oz64,i0,W2,S2.nil,T0,fI2,F1.stp S2,S2.vr V1⟩
  rintro n s3 ⟨i,ls',st',hn,hinv,W4,S4,T4,sI,F4,V4⟩
  have hst4:∀ o,s3.heap.get? I=some o→still o=false:=fun o e=>by
   refine ex1 (IO.live _ _ T4) fun o' zq0=>?_;have e':=zq0.1;have h':=zq0.2;clear zq0
   rw [e] at e';cases e';exact h'
  cases n with
  | zero =>
   have hi:i=items.length:=by exact oz65 hn
   subst hi
   have zq0:=i2 ls' st' hinv;have q1:=zq0.1;have q2:=zq0.2;clear zq0
   refine IO.done bd.good T4 W4 V4 q1 fun h' tk hk=>wpAny_execs_nil ?_
   exact ⟨.next,ls',st',rfl,offWR W4 hk sI cI0 hst4,S1.nil.trans (offStep S4 hk fI1),offFrR F4 frI hk hst4,q2⟩
  | succ n =>
   have hi:i<items.length:=by exact oz66 hn
   have zq0:=i1 i ls' st' items[i] (List.getElem?_eq_getElem hi) hinv;have q1:=zq0.1;have q3:=zq0.2;clear zq0
   refine ex1 (bindT_L q3) fun ls2 zq0=>?_;have hbd:=zq0.1;have q4:=zq0.2;clear zq0
   refine IO.item bd.good T4 W4 V4 sI q1 (List.getElem?_eq_getElem hi) fun w h' tk hw T5 hs=>?_
   have hk:∀ b o,b≠I→s3.heap.get? b=some o→h'.get? b=some o:=fun b o hne e=>(hs.2 b hne).trans e
   have W5:WR C st' h':=offWR W4 hk sI cI0 hst4
   have F5:=offFrR F4 frI hk hst4
   have V5:=offVR hk hst4 V4
   have w5:=offVR hk hst4 hw
   have S5:Step (fp env) st1 s1 st' { s3 with heap:=h',toks:=tk }:=offStep S4 hk fI1
   have go:wpAny C.M A (letOwnedTupleGo target (.ref I) w) (fun _ s'=>s'={ s3 with heap:=h',toks:=tk }) NoE { s3 with heap:=h',toks:=tk }:=go_ok htn hbd w5 rfl fun _ _ _ hr=>IO.go T5 hr rfl
   refine wpAny_mono go (fun _ s' hs'=>?_) noE
   subst hs'
   refine bind_ok (φ:=fp env) bd.good O W5 F5 w5 htn hlen (fun q hq=>?_) hbd fun s6 W6 S6 F6=>?_
   ·have zq0:=tg_of X0 (List.all_eq_true.mp htg q hq);have t1:=zq0.1;have t2:=zq0.2;clear zq0
    exact ⟨t1,t2,tgt_fp _⟩
   have T6:T (i+1) s6.heap:=IO.frame _ _ _ T5 fun o e=>S6.keep I o sI frI e
   refine wpAny_mono (hb bd O W6 F6 h4 q4) (fun f s7 ⟨fl,ls7,st7,r,W7,S7,F7,p7⟩=>?_) noE
   have S8:=(S5.trans S6).trans S7
   have aI:st7 I=none:=S7.new I sI (by obtain ⟨o,e,_⟩:=IO.live _ _ T6;rw [e];simp)
   have T7:T (i+1) s7.heap:=IO.frame _ _ _ T6 fun o e=>S7.keep I o sI frI e
   have V7:=S7.vr (S6.vr V5)
   cases fl with
   | next=>cases r;exact ⟨n,Nat.lt_succ_self _,i+1,ls7,st7,by exact oz67 hn,p7,W7,S8,T7,aI,F7,V7⟩
   | cont=>cases r;exact ⟨n,Nat.lt_succ_self _,i+1,ls7,st7,by exact oz67 hn,p7,W7,S8,T7,aI,F7,V7⟩
   | brk=>cases r;exact ⟨.next,ls7,st7,rfl,W7,S1.nil.trans S8,F7,p7⟩
   | ret v =>
    obtain ⟨u,rfl,r⟩:=r
    exact ⟨.ret v,ls7,st7,⟨u,rfl,r⟩,W7,S1.nil.trans S8,F7,p7⟩
theorem ssNil:PSs C []:=by
 intro k A sc env st s ls es P bd O W F hm p
 cases em_k hm
 exact wpAny_execs_nil (SQ.next W (.refl ..) F p)
theorem ssCons {x:S} {xs:List S} (hx:PS C x) (hs:PSs C xs):PSs C (x::xs):=by
 intro k A sc env st s ls es P bd O W F hm p
 cases es with
 | nil=>cases hm
 | cons e es =>
  refine b2 hm fun h1 h2=>?_
  refine wpAny_execs_cons (wpAny_mono (hx bd O W F h1 p) (fun f s1 ⟨fl,ls1,st1,r,W1,S1,F1,p1⟩=>?_) noE)
  cases fl with
  | next=>cases r;exact SQ.out S1 (hs bd O W1 F1 h2 p1)
  | cont=>cases r;exact ⟨.cont,ls1,st1,rfl,W1,S1,F1,p1⟩
  | brk=>cases r;exact ⟨.brk,ls1,st1,rfl,W1,S1,F1,p1⟩
  | ret v=>obtain ⟨u,rfl,r⟩:=r;exact ⟨.ret v,ls1,st1,⟨u,rfl,r⟩,W1,S1,F1,p1⟩
theorem sBrk:PS C .brk:=by
 intro k A sc env st s ls e P bd O W F hm p
 exact Stmt.Break.elim (motive_2:=fun e=>wpAny C.M A (exec e env) (SQ C env sc st s P) NoE s) e (eq_of_beq hm) fun _=>wpAny_Break ⟨.brk,_,_,rfl,W,.refl ..,F,p⟩
theorem sCont:PS C .cont:=by
 intro k A sc env st s ls e P bd O W F hm p
 exact Stmt.Continue.elim (motive_2:=fun e=>wpAny C.M A (exec e env) (SQ C env sc st s P) NoE s) e (eq_of_beq hm) fun _=>wpAny_Continue ⟨.cont,_,_,rfl,W,.refl ..,F,p⟩
theorem sPass:PS C .pass:=by
 intro k A sc env st s ls e P bd O W F hm p
 exact Stmt.Pass.elim (motive_2:=fun e=>wpAny C.M A (exec e env) (SQ C env sc st s P) NoE s) e (eq_of_beq hm) fun _=>wpAny_Pass (SQ.next W (.refl ..) F p)
mutual
theorem sndS:∀ x:S,PS C x
 | .assign t x=>sAssign X0
 | .aug n o x=>sAug X0
 | .expr x=>sExpr X0
 | .ret x=>sRet X0
 | .ite t a b=>sIte X0 (sndSs a) (sndSs b)
 | .whl t b=>sWhl X0 (sndSs b)
 | .for_ one t src b=>sFor X0 (sndSs b)
 | .brk=>sBrk X0
 | .cont=>sCont X0
 | .pass=>sPass X0
 | .fail=>fun _ _ _ _ _ p=>by exact False.elim p
theorem sndSs:∀ xs:List S,PSs C xs
 | []=>ssNil X0
 | x::xs=>ssCons X0 (sndS x) (sndSs xs)
end
end
theorem bindL_other {kf:Str→Option NameKind} {x:Str}:∀ {bs:List (Str×Value)} {m:Str→Option Value},x∉bs.map (·.1)→PySem.bindL kf bs m x=m x
 | [],m,_=>rfl
 | (n,v)::r,m,h=>by
  rw [List.map_cons,List.mem_cons,not_or] at h
  unfold PySem.bindL
  rw [bindL_other h.2]
  split
  ·exact if_neg h.1
  ·rfl
theorem bindL_get {kf:Str→Option NameKind} {x:Str} {u:Value} (hk:kf x=some .local):∀ {bs:List (Str×Value)} {m:Str→Option Value},(bs.map (·.1)).Nodup→(x,u)∈bs→PySem.bindL kf bs m x=some u
 | (n,v)::r,m,nd,h=>by
  rw [List.map_cons,List.nodup_cons] at nd
  unfold PySem.bindL
  rcases List.mem_cons.mp h with e | h
  ·cases e
   rw [bindL_other nd.1,if_pos hk,if_pos rfl]
  ·exact bindL_get hk nd.2 h
theorem bindC_other {kf:Str→Option NameKind} {x:Str}:∀ {bs:List (Str×Value)} {m:Str→Option Value},x∉bs.map (·.1)→PySem.bindC kf bs m x=m x
 | [],m,_=>rfl
 | (n,v)::r,m,h=>by
  rw [List.map_cons,List.mem_cons,not_or] at h
  unfold PySem.bindC
  rw [bindC_other h.2]
  split
  ·rfl
  ·exact if_neg h.1
theorem bindC_get {kf:Str→Option NameKind} {x:Str} {u:Value} (hk:¬ kf x=some .local):∀ {bs:List (Str×Value)} {m:Str→Option Value},(bs.map (·.1)).Nodup→(x,u)∈bs→PySem.bindC kf bs m x=some u
 | (n,v)::r,m,nd,h=>by
  rw [List.map_cons,List.nodup_cons] at nd
  unfold PySem.bindC
  rcases List.mem_cons.mp h with e | h
  ·cases e
   rw [bindC_other nd.1,if_neg hk,if_pos rfl]
  ·exact bindC_get hk nd.2 h
theorem cellsFrom_mem:∀ (names:List (Str×NameKind)) (n:Nat) (acc:List (Str×Addr)) (x:Str),((x,NameKind.cell)∈names∨∃ c,(x,c)∈acc)→∃ c,(x,c)∈cellsFrom n names acc
 | [],n,acc,x,h=>by
  rcases h with h | h
  ·cases h
  ·exact h
 | (y,kd)::r,n,acc,x,h=>by
  unfold cellsFrom
  split
  ·refine cellsFrom_mem r (n+1) _ x ?_
   rcases h with h | ⟨c,h⟩
   ·rcases List.mem_cons.mp h with e | h
    ·cases e;exact .inr ⟨n,List.mem_cons_self ..⟩
    ·exact .inl h
   ·exact .inr ⟨c,List.mem_cons_of_mem _ h⟩
  ·rename_i hk
   refine cellsFrom_mem r n acc x ?_
   rcases h with h | h
   ·rcases List.mem_cons.mp h with e | h
    ·cases e;exact absurd rfl hk
    ·exact .inl h
   ·exact .inr h
theorem cellsFrom_nodup:∀ (names:List (Str×NameKind)) (n:Nat) (acc:List (Str×Addr)),(names.map (·.1)).Nodup→(∀ p∈acc,p.1∉names.map (·.1))→(acc.map (·.1)).Nodup→((cellsFrom n names acc).map (·.1)).Nodup
 | [],n,acc,_,_,h=>h
 | (y,kd)::r,n,acc,nd,ha,h=>by
  rw [List.map_cons,List.nodup_cons] at nd
  unfold cellsFrom
  have ha':∀ p∈acc,p.1∉r.map (·.1):=fun p hp hm=>ha p hp (List.mem_cons_of_mem _ hm)
  split
  ·refine cellsFrom_nodup r (n+1) _ nd.2 (fun p hp=>?_) ?_
   ·rcases List.mem_cons.mp hp with rfl | hp
    ·exact nd.1
    ·exact ha' p hp
   ·rw [List.map_cons,List.nodup_cons]
    refine ⟨fun hm=>?_,h⟩
    refine ex1 (List.mem_map.mp hm) fun q zq0=>?_;have hq:=zq0.1;have e:=zq0.2;clear zq0
    exact ha q hq (by rw [e];exact List.mem_cons_self ..)
  ·exact cellsFrom_nodup r n acc nd.2 ha' h
noncomputable def scFn (sc:Sc) (params:List Str):Bool :=
 sc.nm.take params.length==params.map some&&decide ((sc.names.map (·.1)).Nodup)&&decide ((sc.nm.filterMap id).Nodup) &&
 (sc.nm.filterMap id).all (fun x=>(sc.names.lookup x==some .local || sc.names.contains (x,.cell)&&sc.names.lookup x==some .cell)&&!(x==("__debug__":Str))&&!(x==("__classdict__":Str)))
structure ScFn (sc:Sc) (params:List Str):Prop where
 par:∀ (i:Nat) (x:Str),params[i]?=some x→sc.nm[i]?=some (some x)
 len:params.length≤sc.nm.length
 nod:(sc.names.map (·.1)).Nodup
 inj:∀ (i j:Nat) (x:Str),sc.nm[i]?=some (some x)→sc.nm[j]?=some (some x)→i=j
 kind:∀ x,some x∈sc.nm→(sc.names.lookup x=some .local∨((x,NameKind.cell)∈sc.names∧sc.names.lookup x=some .cell))∧(x==("__debug__":Str))=false∧(x==("__classdict__":Str))=false
theorem inj_of_nodup:∀ {l:List (Option Str)},(l.filterMap id).Nodup→∀ (i j:Nat) (x:Str),l[i]?=some (some x)→l[j]?=some (some x)→i=j
 | [],_,i,j,x,hi,_=>by simp at hi
 | o::l,nd,i,j,x,hi,hj=>by
  have hin:∀ {k:Nat},l[k]?=some (some x)→x∈l.filterMap id:=fun h=>List.mem_filterMap.mpr ⟨some x,List.mem_of_getElem? h,rfl⟩
  cases o with
  | none =>
   rw [List.filterMap_cons_none rfl] at nd
   cases i with
   | zero=>simp at hi
   | succ i=>cases j with
    | zero=>simp at hj
    | succ j=>simp at hi hj;rw [inj_of_nodup nd i j x hi hj]
  | some y =>
   have nd:(y::l.filterMap id).Nodup:=nd
   rw [List.nodup_cons] at nd
   cases i with
   | zero =>
    simp at hi
    subst hi
    cases j with
    | zero=>rfl
    | succ j=>simp at hj;exact absurd (hin hj) nd.1
   | succ i =>
    simp at hi
    cases j with
    | zero=>simp at hj;subst hj;exact absurd (hin hi) nd.1
    | succ j=>simp at hj;rw [inj_of_nodup nd.2 i j x hi hj]
theorem ScFn.of {sc:Sc} {params:List Str} (h:scFn sc params=true):ScFn sc params:=by
 unfold scFn at h
 rw [Bool.and_eq_true,Bool.and_eq_true,Bool.and_eq_true,beq_iff_eq,decide_eq_true_eq,decide_eq_true_eq,List.all_eq_true] at h
 obtain ⟨⟨⟨h1,h0⟩,h2⟩,h3⟩:=h
 have hp:∀ (i:Nat) (x:Str),params[i]?=some x→sc.nm[i]?=some (some x):=fun i x hi=>by
  have hlt:=(List.getElem?_eq_some_iff.mp hi).1
  have:=congrArg (·[i]?) h1
  simp only [List.getElem?_take,hlt,if_true,List.getElem?_map,hi,Option.map_some] at this
  exact this
 refine ⟨hp,?_,h0,inj_of_nodup h2,fun x hx=>?_⟩
 ·have:=congrArg List.length h1
  rw [List.length_take,List.length_map] at this
  exact oz70 this
 ·have:=h3 x (List.mem_filterMap.mpr ⟨some x,hx,rfl⟩)
  simp only [Bool.and_eq_true,Bool.or_eq_true,beq_iff_eq,Bool.not_eq_true',List.contains_iff_mem] at this
  obtain ⟨⟨q1,q2⟩,q3⟩:=this
  exact ⟨q1,q2,q3⟩
noncomputable def initLs (n:Nat) (vs:List V):Ls:=vs.map some++List.replicate (n-vs.length) none
section
variable {C:Cx} {st:St}
theorem call_cells {A:Around} {s:Shared} {R:Result→Shared→Prop} {a:Addr} {o:Obj} {fd:FuncData} {body:List Stmt} {vals:List Value} {binds:List (Str×Value)}
  (hroom:A.depth<recursionLimit) (ho:s.heap.get? a=some o) (hdata:o.data=.func fd) (hlim:s.heap.NoLimit) (hcd:s.heap.CodeRec fd.code fd.qualname)
  (hbody:fd.body=.stmts body) (hbind:BindsTo s fd ⟨vals,[]⟩ binds) (hclo:fd.closure=[])
  (hkind:∀ x∈binds,fd.scope.names.lookup x.1=some .local∨(fd.scope.names.lookup x.1=some .cell∧((cellsFrom (s.heap.objs.size+1) fd.scope.names []).lookup x.1).isSome=true))
  (h:∀ s₁,InCallC s (callEnvC fd s.heap.objs.size a).locals (PySem.bindL (callEnvC fd s.heap.objs.size a).kindOf binds fun _=>none) (callEnvC fd s.heap.objs.size a).cells
    (PySem.bindC (callEnvC fd s.heap.objs.size a).kindOf binds fun _=>none) s₁ →
   wpAny C.M (A.deeper (callEnvC fd s.heap.objs.size a)) (execs body (callEnvC fd s.heap.objs.size a)) (fun f s'=>R (.ok (.ret (match f with | .ret v=>v | _=>.none))) s') NoE s₁)
  (hco:fd.scope.isCoroutine=false) (hgen:fd.scope.isGenerator=false) (hk:fd.scope.kind=.function):codeAny C.M A (.call (.ref a) ⟨vals,[]⟩) R s:=by
 refine codeAny_call_function hroom ho hdata hco hgen hbody hcd ?_
 rw [hclo]
 refine hbind _ _ _ _ (wpAny_newFunctionEnv_cells hk hkind fun env he s' x=>?_)
 subst he
 exact ⟨hlim.keeps x.toInCall.keep,codeAny_func (wpAny_mono (h s' x) (fun _ _ h=>h) noE)⟩
noncomputable def RetP (P:V→St→Prop):Fl→Ls→St→Prop:=fun fl _ st=>match fl with
 | .ret v=>P v st
 | .next=>P .none st
 | _=>False
theorem entry (X0:CxOk C) {f k:Nat} {sc:Sc} {b:List S} {fd:FuncData} {o:Obj} {stmts:List Stmt} {params:List Str} {dvs:List V} {vs:List V} {P:V→St→Prop}
  (ho:C.h0.get? (C.fn f)=some o) (hd:o.data=.func fd) (hb:fd.body=.stmts stmts) (hcode:C.h0.CodeRec fd.code fd.qualname) (hclo:fd.closure=[]) (hgl:fd.globals=mainGlobals) (hbi:fd.builtins=builtinsNs)
  (hsc:fd.scope.names=sc.names) (hk:fd.scope.kind=.function) (hco:fd.scope.isCoroutine=false) (hgen:fd.scope.isGenerator=false) (hm:mSs sc b stmts=true) (hok:scFn sc params=true)
  (hbind:∀ (s:Shared) (vals:List Value),C.K.In s.heap→vals.length=vs.length→∃ ds,BindsTo s fd ⟨vals,[]⟩ (params.zip (vals++ds))∧∀ st,WR C st s.heap→VRs st s.heap dvs ds) (hpl:params.length=vs.length+dvs.length)
  (p:wpSs (CallF C k) b (initLs sc.nm.length (vs++dvs)) st (RetP P)):CallF C (k+1) f vs st P:=by
 intro A s us g W hv
 have hvl:=hv.length
 have SF:=ScFn.of hok
 refine ex1 (hbind s us W.inK hvl) fun ds zq0=>?_;have hbt:=zq0.1;have hds:=zq0.2;clear zq0
 have hD:=hds st W
 have hdl:=hD.length
 have hall:=hv.app hD
 have pnd:params.Nodup:=by
  refine List.pairwise_iff_getElem.mpr fun i j hi hj hlt e=>?_
  have e1:=SF.par i params[i] (List.getElem?_eq_getElem hi)
  have e2:=SF.par j params[j] (List.getElem?_eq_getElem hj)
  rw [← e] at e2
  have:=SF.inj i j _ e1 e2
  exact oz71 hlt this
 have hzl:(params.zip (us++ds)).map (·.1)=params:=List.map_fst_zip (by rw [List.length_append];exact oz72 hpl hvl hdl)
 have hcells:∀ (n:Nat) (x:Str),(x,NameKind.cell)∈sc.names→∃ c,(cellsFrom n sc.names []).lookup x=some c:=fun n x hx=>by
  refine ex1 (cellsFrom_mem sc.names n [] x (.inl hx)) fun c hc=>?_
  exact lookup_of_mem hc
 have hko:∀ x∈params,(sc.names.lookup x=some .local∨((x,NameKind.cell)∈sc.names∧sc.names.lookup x=some .cell)):=fun x hx=>by
  refine ex1 (List.mem_iff_getElem?.mp hx) fun i hi=>?_
  exact (SF.kind x (List.mem_of_getElem? (SF.par i x hi))).1
 refine call_cells (o:=o) (fd:=fd) (body:=stmts) (binds:=params.zip (us++ds)) (by have:=g.depth;show A.depth<1000;exact oz73 this) (W.keep _ _ ho) hd (C.nolim.keeps W.keep)
  (by obtain ⟨c,oc,vv,tq,e1,e2,e3⟩:=hcode;exact ⟨c,oc,vv,tq,e1,W.keep _ _ e2,e3⟩) hb hbt hclo (fun x hx=>?_) (fun s₁ IC=>?_) hco hgen hk
 ·rw [hsc]
  rcases hko x.1 (List.of_mem_zip hx).1 with h | ⟨h1,h2⟩
  ·exact .inl h
  ·refine ex1 (hcells (s.heap.objs.size+1) x.1 h1) fun c hc=>?_
   exact .inr ⟨h2,by rw [hc];rfl⟩
 ·have hkf:∀ x,(callEnvC fd s.heap.objs.size (C.fn f)).kindOf x=sc.names.lookup x:=fun x=>by show fd.scope.names.lookup x=_;rw [hsc]
  have hlo:(callEnvC fd s.heap.objs.size (C.fn f)).locals=s.heap.objs.size:=rfl
  have hce:(callEnvC fd s.heap.objs.size (C.fn f)).cells=cellsFrom (s.heap.objs.size+1) fd.scope.names []:=rfl
  generalize he:callEnvC fd s.heap.objs.size (C.fn f)=env at *
  have O:EnvOk sc env:=by
   refine ⟨by rw [← he];exact hk,by rw [← he];exact hsc,by rw [← he];exact hgl,by rw [← he];exact hbi,SF.inj,fun x hx=>?_,fun x hx=>(SF.kind x hx).2,IC.apart,fun q hq e=>?_⟩
   ·rcases (SF.kind x hx).1 with h | ⟨h1,h2⟩
    ·exact .inl h
    ·refine .inr ⟨.inl h2,?_⟩
     rw [hce,hsc];exact hcells _ x h1
   ·have:=IC.above q.1 q.2 hq
    rw [e] at this;exact absurd this (Nat.lt_irrefl _)
  have kk:=IC.toInCall.keep
  refine ex2 (IC.toInCall.same) fun h1 tk e1=>?_
  have S0:Step [] st s st s₁:=by subst e1;exact Step.all kk
  have W1:WR C st s₁.heap:=W.all kk
  have fresh:∀ a∈fp env,s.heap.get? a=none:=fun a ha=>by
   rcases List.mem_cons.mp ha with e | ha
   ·rw [e,hlo];exact get?_ge (Nat.le_refl _)
   ·refine ex1 (List.mem_map.mp ha) fun q zq0=>?_;have hq:=zq0.1;obtain rfl:=zq0.2;clear zq0
    have:=IC.above q.1 q.2 hq
    rw [hlo] at this
    exact get?_ge (Nat.le_of_lt this)
  have h0n:∀ a∈fp env,C.h0.get? a=none:=fun a ha=>by
   cases q:C.h0.get? a with
   | none=>rfl
   | some o=>have:=fresh a ha;rw [W.keep _ _ q] at this;cases this
  have F:FrR C st s₁.heap sc env (initLs sc.nm.length (vs++dvs)):=by
   refine ⟨?_,fun a ha=>⟨W.fresh (fresh a ha),h0n a ha,?_⟩,_,_,IC.toInCall.ns,IC.cell,fun i x v hx hv'=>?_⟩
   ·unfold initLs
    rw [List.length_append,List.length_map,List.length_replicate,List.length_append]
    have:=SF.len
    exact oz74 hpl this
   ·rcases List.mem_cons.mp ha with e | ha
    ·refine ex3 (IC.toInCall.ns) fun o _ _ zq0=>?_;have e2:=zq0.1;clear zq0
     rw [e,e2];simp
    ·refine ex1 (List.mem_map.mp ha) fun q zq0=>?_;have hq:=zq0.1;obtain rfl:=zq0.2;clear zq0
     refine ex1 (lookup_of_mem hq) fun c hc=>?_
     have hcq:c=q.2:=by
      have hnd:(env.cells.map (·.1)).Nodup:=by
       rw [hce,hsc]
       exact cellsFrom_nodup sc.names _ [] SF.nod (fun _ h=>nomatch h) List.nodup_nil
      have:=lookup_nodup hnd hq rfl
      rw [this] at hc;cases hc;rfl
     refine ex1 (IC.cell q.1 c hc) fun o zq0=>?_;have e2:=zq0.1;clear zq0
     rw [← hcq,e2];simp
   ·have hiv:(vs++dvs)[i]?=some v:=by
     unfold initLs at hv'
     rw [List.getElem?_append] at hv'
     split at hv'
     ·rw [List.getElem?_map] at hv'
      refine ex1 (Option.map_eq_some_iff.mp hv') fun w zq0=>?_;have w1:=zq0.1;have w2:=zq0.2;clear zq0
      cases w2;exact w1
     ·rw [List.getElem?_replicate] at hv'
      split at hv' <;> cases hv'
    refine ex1 (hall.get hiv) fun u zq0=>?_;have u1:=zq0.1;have u2:=zq0.2;clear zq0
    have hil:=(List.getElem?_eq_some_iff.mp hiv).1
    rw [List.length_append] at hil
    have hpi:params[i]?=some params[i]:=List.getElem?_eq_getElem (by exact oz75 hil hpl)
    have hxe:x=params[i]:=by
     have:=SF.par i _ hpi
     rw [hx] at this;cases this;rfl
    have hmem:(x,u)∈params.zip (us++ds):=by
     refine List.mem_iff_getElem?.mpr ⟨i,?_⟩
     rw [List.getElem?_zip_eq_some]
     exact ⟨hxe▸hpi,u1⟩
    have nd:((params.zip (us++ds)).map (·.1)).Nodup:=by rw [hzl];exact pnd
    refine ⟨u,?_,S0.vr u2⟩
    split
    ·rename_i hl
     exact bindL_get (by rw [hkf];exact hl) nd hmem
    ·rename_i hl
     exact bindC_get (by rw [hkf];exact hl) nd hmem
  refine wpAny_mono (sndSs X0 b (g.deeper env) O W1 F hm p) (fun fl s' ⟨fl',ls',st',r,W',S',F',p'⟩=>?_) noE
  have S2:Step [] st s st' s':=S0.fresh S' fresh
  unfold RetP at p'
  cases fl' with
  | next=>simp only [FlR] at r;subst r;exact ⟨_,rfl,.none,st',W',S2,rfl,p'⟩
  | cont=>exact p'.elim
  | brk=>exact p'.elim
  | ret v =>
   simp only [FlR] at r
   obtain ⟨u,rfl,r⟩:=r
   exact ⟨_,rfl,v,st',W',S2,r,p'⟩
end
open PySem
set_option maxRecDepth 8000
noncomputable def nm0:List (Option Str):=[some "self",some "octets",some "size"]
noncomputable def par0:List Str:=["self","octets","size"]
noncomputable def ir0:List S:=[
 .ite (.cmp (.var 2) [.lt] [.lit (.int 1)]) [
  .fail] [],
 .assign (.attr (.var 0) 0) (.var 1),
 .assign (.attr (.var 0) 1) (.var 2),
 .assign (.attr (.var 0) 2) (.dict0),
 .assign (.attr (.var 0) 3) (.bin .mul (.list [.lit (.int (-1))]) (.bi .len [.var 1]))]
noncomputable def nm1:List (Option Str):=[some "self",some "place",some "number",some "octet"]
noncomputable def par1:List Str:=["self","place"]
noncomputable def ir1:List S:=[
 .ite (.cmp (.bin .add (.var 1) (.attr (.var 0) 1)) [.gt] [.bi .len [.attr (.var 0) 0]]) [
  .ret (.lit .none)] [],
 .assign (.var 2) (.lit (.int 0)),
 .for_ true [3] (.slc (.attr (.var 0) 0) (.var 1) (.bin .add (.var 1) (.attr (.var 0) 1)) (.lit .none)) [
  .assign (.var 2) (.bin .add (.bin .mul (.var 2) (.lit (.int 256))) (.var 3))],
 .ret (.var 2)]
noncomputable def nm2:List (Option Str):=[some "self",some "place",some "number"]
noncomputable def par2:List Str:=["self","place"]
noncomputable def ir2:List S:=[
 .assign (.var 2) (.meth (.var 0) 1 [.var 1]),
 .ite (.cmp (.var 2) [.isNot] [.lit .none]) [
  .assign (.idx (.attr (.var 0) 3) (.var 1)) (.bmeth (.attr (.var 0) 2) .get [.var 2,.lit (.int (-1))]),
  .assign (.idx (.attr (.var 0) 2) (.var 2)) (.var 1)] []]
noncomputable def nm3:List (Option Str):=[some "self",some "place",some "number",some "other"]
noncomputable def par3:List Str:=["self","place"]
noncomputable def ir3:List S:=[
 .assign (.var 2) (.meth (.var 0) 1 [.var 1]),
 .ite (.cmp (.var 2) [.is_] [.lit .none]) [
  .ret (.lit (.int (-1)))] [],
 .assign (.var 3) (.bmeth (.attr (.var 0) 2) .get [.var 2,.lit (.int (-1))]),
 .whl (.cmp (.var 3) [.ge] [.var 1]) [
  .assign (.var 3) (.idx (.attr (.var 0) 3) (.var 3))],
 .ret (.var 3)]
noncomputable def nm4:List (Option Str):=[some "self",some "octets",some "least",some "window",some "chain"]
noncomputable def par4:List Str:=["self","octets","least","window","chain"]
noncomputable def ir4:List S:=[
 .ite (.cmp (.var 2) [.lt] [.lit (.int 1)]) [
  .fail] [],
 .ite (.cmp (.var 3) [.lt] [.lit (.int 1)]) [
  .fail] [],
 .ite (.cmp (.var 4) [.lt] [.lit (.int 1)]) [
  .fail] [],
 .assign (.attr (.var 0) 0) (.bi .bytes [.var 1]),
 .assign (.attr (.var 0) 4) (.var 2),
 .assign (.attr (.var 0) 5) (.var 3),
 .assign (.attr (.var 0) 6) (.var 4),
 .assign (.attr (.var 0) 7) (.lit (.int 0))]
noncomputable def nm5:List (Option Str):=[some "self",some "place"]
noncomputable def par5:List Str:=["self","place"]
noncomputable def ir5:List S:=[
 .ite (.bool false [.cmp (.var 1) [.lt] [.attr (.var 0) 7],.cmp (.var 1) [.ge] [.bi .len [.attr (.var 0) 0]]]) [
  .fail] [],
 .assign (.attr (.var 0) 7) (.bin .add (.var 1) (.lit (.int 1))),
 .expr (.meth (.var 0) 11 [.var 1])]
noncomputable def nm6:List (Option Str):=[some "self",some "end"]
noncomputable def par6:List Str:=["self","end"]
noncomputable def ir6:List S:=[
 .whl (.cmp (.attr (.var 0) 7) [.lt] [.var 1]) [
  .expr (.meth (.var 0) 2 [.attr (.var 0) 7])]]
noncomputable def nm7:List (Option Str):=[some "self",some "place",some "most"]
noncomputable def par7:List Str:=["self","place","most"]
noncomputable def ir7:List S:=[
 .ret (.bi .min_ [.var 2,.bin .sub (.bi .len [.attr (.var 0) 0]) (.var 1)])]
noncomputable def nm8:List (Option Str):=[some "self",some "place",some "other",some "most"]
noncomputable def par8:List Str:=["self","place","other","most"]
noncomputable def ir8:List S:=[
 .ite (.not (.cmp (.lit (.int 0)) [.le,.lt] [.var 2,.var 1])) [
  .fail] [],
 .ret (.meth (.var 0) 7 [.var 1,.var 2,.lit (.int 0),.meth (.var 0) 5 [.var 1,.var 3]])]
noncomputable def nm9:List (Option Str):=[some "self",some "place",some "other",some "known",some "limit",some "octets"]
noncomputable def par9:List Str:=["self","place","other","known","limit"]
noncomputable def ir9:List S:=[
 .assign (.var 5) (.attr (.var 0) 0),
 .whl (.bool true [.cmp (.var 3) [.lt] [.var 4],.cmp (.idx (.var 5) (.bin .add (.var 1) (.var 3))) [.eq] [.idx (.var 5) (.bin .add (.var 2) (.var 3))]]) [
  .aug 3 .add (.lit (.int 1))],
 .ret (.var 3)]
noncomputable def nm10:List (Option Str):=[some "self",some "place",some "other"]
noncomputable def par10:List Str:=["self","place","other"]
noncomputable def ir10:List S:=[
 .ret (.bool true [.cmp (.var 2) [.ne] [.lit (.int (-1))],.cmp (.bin .sub (.var 1) (.var 2)) [.le] [.attr (.var 0) 5]])]
noncomputable def nm11:List (Option Str):=[some "self",some "place",some "distance",some "most"]
noncomputable def par11:List Str:=["self","place","distance","most"]
noncomputable def ir11:List S:=[
 .ite (.bool false [.cmp (.var 2) [.lt] [.lit (.int 1)],.cmp (.var 2) [.gt] [.var 1],.cmp (.var 2) [.gt] [.attr (.var 0) 5]]) [
  .ret (.lit (.int 0))] [],
 .ret (.meth (.var 0) 6 [.var 1,.bin .sub (.var 1) (.var 2),.var 3])]
noncomputable def nm12:List (Option Str):=[some "self",some "place",some "most",some "found"]
noncomputable def par12:List Str:=["self","place","most"]
noncomputable def ir12:List S:=[
 .assign (.var 3) (.meth (.var 0) 13 [.var 1,.var 2]),
 .ret (.ite (.cmp (.bi .len [.var 3]) [.gt] [.lit (.int 0)]) (.idx (.var 3) (.neg (.lit (.int 1)))) (.tup [.lit (.int 0),.lit (.int 0)]))]
noncomputable def nm13:List (Option Str):=[some "self",some "octets",some "least",some "window",some "chain"]
noncomputable def par13:List Str:=["self","octets","least","window","chain"]
noncomputable def ir13:List S:=[
 .expr (.call 4 [.var 0,.var 1,.var 2,.var 3,.var 4]),
 .assign (.attr (.var 0) 8) (.new 0 [.attr (.var 0) 0,.var 2])]
noncomputable def nm14:List (Option Str):=[some "self",some "place"]
noncomputable def par14:List Str:=["self","place"]
noncomputable def ir14:List S:=[
 .expr (.meth (.attr (.var 0) 8) 2 [.var 1])]
noncomputable def nm15:List (Option Str):=[some "self",some "place",some "found",some "other"]
noncomputable def par15:List Str:=["self","place"]
noncomputable def ir15:List S:=[
 .assign (.var 2) (.list []),
 .assign (.var 3) (.meth (.attr (.var 0) 8) 3 [.var 1]),
 .whl (.bool true [.meth (.var 0) 8 [.var 1,.var 3],.cmp (.bi .len [.var 2]) [.lt] [.attr (.var 0) 6]]) [
  .expr (.bmeth (.var 2) .append [.var 3]),
  .assign (.var 3) (.idx (.attr (.attr (.var 0) 8) 3) (.var 3))],
 .ret (.var 2)]
noncomputable def nm16:List (Option Str):=[some "self",some "place",some "most",some "longest",some "other",some "found",some "limit",some "count"]
noncomputable def par16:List Str:=["self","place","most"]
noncomputable def ir16:List S:=[
 .assign (.tup [.var 5,.var 6]) (.tup [.list [],.meth (.var 0) 5 [.var 1,.var 2]]),
 .assign (.var 3) (.bin .sub (.attr (.var 0) 4) (.lit (.int 1))),
 .for_ true [4] (.meth (.var 0) 12 [.var 1]) [
  .ite (.cmp (.var 3) [.ge] [.var 6]) [
   .brk] [],
  .ite (.cmp (.idx (.attr (.var 0) 0) (.bin .add (.var 4) (.var 3))) [.eq] [.idx (.attr (.var 0) 0) (.bin .add (.var 1) (.var 3))]) [
   .assign (.var 7) (.meth (.var 0) 7 [.var 1,.var 4,.lit (.int 0),.var 6]),
   .ite (.cmp (.var 7) [.gt] [.var 3]) [
    .expr (.bmeth (.var 5) .append [.tup [.var 7,.bin .sub (.var 1) (.var 4)]]),
    .assign (.var 3) (.var 7)] []] []],
 .ret (.var 5)]
noncomputable def nm17:List (Option Str):=[some "octets",some "start",some "most"]
noncomputable def par17:List Str:=["octets","start","most"]
noncomputable def ir17:List S:=[
 .ite (.not (.cmp (.lit (.int 0)) [.le,.le] [.var 1,.bi .len [.var 0]])) [
  .fail] [],
 .ite (.cmp (.var 2) [.lt] [.lit (.int 0)]) [
  .fail] []]
noncomputable def nm18:List (Option Str):=[some "step"]
noncomputable def par18:List Str:=["step"]
noncomputable def ir18:List S:=[
 .ret (.ite (.cmp (.idx (.var 0) (.lit (.int 0))) [.eq] [.lit (.int 0)]) (.lit (.int 1)) (.idx (.var 0) (.lit (.int 0))))]
noncomputable def nm19:List (Option Str):=[some "self",some "finder"]
noncomputable def par19:List Str:=["self","finder"]
noncomputable def ir19:List S:=[
 .assign (.attr (.var 0) 9) (.var 1),
 .assign (.attr (.var 0) 10) (.bi .max_ [.attr (.var 1) 4,.lit (.int (2))]),
 .assign (.attr (.var 0) 11) (.lit (.int 0))]
noncomputable def nm20:List (Option Str):=[some "self",some "place"]
noncomputable def par20:List Str:=["self","place"]
noncomputable def ir20:List S:=[
 .whl (.cmp (.attr (.var 0) 11) [.lt] [.var 1]) [
  .expr (.meth (.attr (.var 0) 9) 2 [.attr (.var 0) 11]),
  .assign (.attr (.var 0) 11) (.bin .add (.attr (.var 0) 11) (.lit (.int 1)))]]
noncomputable def nm21:List (Option Str):=[some "self",some "place",some "most",none]
noncomputable def par21:List Str:=["self","place","most"]
noncomputable def ir21:List S:=[
 .expr (.meth (.var 0) 14 [.var 1]),
 .ret (.comp (.var 3) true [3] (.meth (.attr (.var 0) 9) 13 [.var 1,.var 2]) [.cmp (.idx (.var 3) (.lit (.int 0))) [.ge] [.attr (.var 0) 10]])]
noncomputable def nm22:List (Option Str):=[some "octets",some "start",none]
noncomputable def par22:List Str:=["octets","start"]
noncomputable def ir22:List S:=[
 .expr (.call 17 [.var 0,.var 1,.lit (.int 0)]),
 .ret (.comp (.tup [.lit (.int 0),.var 2]) true [2] (.slc (.var 0) (.var 1) (.lit .none) (.lit .none)) [])]
noncomputable def nm23:List (Option Str):=[some "self",some "size"]
noncomputable def par23:List Str:=["self","size"]
noncomputable def ir23:List S:=[
 .assign (.attr (.var 0) 1) (.var 1),
 .assign (.attr (.var 0) 12) (.bin .add (.list [.lit (.int 0)]) (.bin .mul (.list [.lit .none]) (.var 1))),
 .assign (.attr (.var 0) 13) (.bin .mul (.list [.lit .none]) (.bin .add (.var 1) (.lit (.int 1))))]
noncomputable def nm24:List (Option Str):=[some "self",some "at",some "step",some "cost",some "there",some "whole"]
noncomputable def par24:List Str:=["self","at","step","cost"]
noncomputable def ir24:List S:=[
 .assign (.var 4) (.bin .add (.var 1) (.call 18 [.var 2])),
 .ite (.cmp (.var 4) [.gt] [.attr (.var 0) 1]) [
  .ret (.lit .none)] [],
 .assign (.var 5) (.bin .add (.idx (.attr (.var 0) 12) (.var 1)) (.var 3)),
 .ite (.bool false [.cmp (.idx (.attr (.var 0) 12) (.var 4)) [.is_] [.lit .none],.cmp (.var 5) [.lt] [.idx (.attr (.var 0) 12) (.var 4)]]) [
  .assign (.idx (.attr (.var 0) 12) (.var 4)) (.var 5),
  .assign (.idx (.attr (.var 0) 13) (.var 4)) (.var 2)] []]
noncomputable def nm25:List (Option Str):=[some "self",some "found",some "at"]
noncomputable def par25:List Str:=["self"]
noncomputable def ir25:List S:=[
 .assign (.tup [.var 1,.var 2]) (.tup [.list [],.attr (.var 0) 1]),
 .whl (.cmp (.var 2) [.gt] [.lit (.int 0)]) [
  .expr (.bmeth (.var 1) .append [.idx (.attr (.var 0) 13) (.var 2)]),
  .assign (.var 2) (.bin .sub (.var 2) (.call 18 [.idx (.attr (.var 0) 13) (.var 2)]))],
 .ret (.slc (.var 1) (.lit .none) (.lit .none) (.neg (.lit (.int 1))))]
noncomputable def nm26:List (Option Str):=[some "octets",some "start",some "finder",some "most",some "price",some "enough",some "trail",some "ways",some "at",some "place",some "matches",some "taken",some "length",some "distance",some "part"]
noncomputable def par26:List Str:=["octets","start","finder","most","price","enough"]
noncomputable def ir26:List S:=[
 .expr (.call 17 [.var 0,.var 1,.var 3]),
 .assign (.tup [.var 6,.var 7,.var 8]) (.tup [.new 2 [.var 2],.new 3 [.bin .sub (.bi .len [.var 0]) (.var 1)],.lit (.int 0)]),
 .whl (.cmp (.var 8) [.lt] [.attr (.var 7) 1]) [
  .assign (.var 9) (.bin .add (.var 1) (.var 8)),
  .assign (.var 10) (.meth (.var 6) 13 [.var 9,.var 3]),
  .expr (.meth (.var 7) 15 [.var 8,.tup [.lit (.int 0),.idx (.var 0) (.var 9)],.meth (.var 4) 23 [.idx (.var 0) (.var 9)]]),
  .for_ false [12,13] (.var 10) [
   .for_ true [14] (.bi .range [.attr (.var 6) 10,.bin .add (.var 12) (.lit (.int 1))]) [
    .expr (.meth (.var 7) 15 [.var 8,.tup [.var 14,.var 13],.meth (.var 4) 24 [.var 14,.var 13]])]],
  .assign (.var 11) (.lit (.int 1)),
  .ite (.bool true [.cmp (.var 5) [.isNot] [.lit .none],.cmp (.var 10) [.ne] [.list []],.cmp (.idx (.idx (.var 10) (.neg (.lit (.int 1)))) (.lit (.int 0))) [.ge] [.var 5]]) [
   .assign (.var 11) (.idx (.idx (.var 10) (.neg (.lit (.int 1)))) (.lit (.int 0)))] [],
  .assign (.var 8) (.bin .add (.var 8) (.var 11))],
 .ret (.meth (.var 7) 16 [])]
noncomputable def nm27:List (Option Str):=[some "rows",some "plain",some "value",some "what",some "first",some "code",some "last",some "extra"]
noncomputable def par27:List Str:=["rows","plain","value","what"]
noncomputable def ir27:List S:=[
 .assign (.var 4) (.idx (.idx (.var 0) (.lit (.int 0))) (.lit (.int 0))),
 .assign (.tup [.var 6,.var 7]) (.idx (.var 0) (.neg (.lit (.int 1)))),
 .ite (.not (.cmp (.var 4) [.le,.lt] [.var 2,.bin .add (.var 6) (.bin .shl (.lit (.int 1)) (.var 7))])) [
  .fail] [],
 .ite (.cmp (.var 2) [.lt] [.bin .add (.var 4) (.var 1)]) [
  .ret (.tup [.bin .sub (.var 2) (.var 4),.lit (.int 0),.lit (.int 0)])] [],
 .assign (.var 5) (.bin .sub (.bi .len [.var 0]) (.lit (.int 1))),
 .whl (.cmp (.idx (.idx (.var 0) (.var 5)) (.lit (.int 0))) [.gt] [.var 2]) [
  .aug 5 .sub (.lit (.int 1))],
 .ret (.tup [.var 5,.idx (.idx (.var 0) (.var 5)) (.lit (.int 1)),.bin .sub (.var 2) (.idx (.idx (.var 0) (.var 5)) (.lit (.int 0)))])]
noncomputable def nm28:List (Option Str):=[some "value"]
noncomputable def par28:List Str:=["value"]
noncomputable def ir28:List S:=[
 .ret (.call 27 [.rows,.lit (.int 32),.var 0,.lit (.str "match length")])]
noncomputable def nm29:List (Option Str):=[some "value",some "code"]
noncomputable def par29:List Str:=["value"]
noncomputable def ir29:List S:=[
 .ite (.bool false [.cmp (.var 0) [.lt] [.lit (.int 1)],.cmp (.bin .sub (.bmeth (.var 0) .bitLen []) (.lit (.int 1))) [.gt] [.lit (.int (31))]]) [
  .fail] [],
 .assign (.var 1) (.bin .sub (.bmeth (.var 0) .bitLen []) (.lit (.int 1))),
 .ret (.tup [.var 1,.var 1,.bin .sub (.var 0) (.bin .shl (.lit (.int 1)) (.var 1))])]
noncomputable def nm30:List (Option Str):=[some "self",some "one",some "two",some "three"]
noncomputable def par30:List Str:=["self","one","two","three"]
noncomputable def ir30:List S:=[
 .ite (.bool false [.cmp (.var 1) [.lt] [.lit (.int 1)],.cmp (.var 2) [.lt] [.lit (.int 1)],.cmp (.var 3) [.lt] [.lit (.int 1)]]) [
  .fail] [],
 .assign (.attr (.var 0) 14) (.var 1),
 .assign (.attr (.var 0) 15) (.var 2),
 .assign (.attr (.var 0) 16) (.var 3)]
noncomputable def nm31:List (Option Str):=[some "self"]
noncomputable def par31:List Str:=["self"]
noncomputable def ir31:List S:=[
 .ret (.tup [.attr (.var 0) 14,.attr (.var 0) 15,.attr (.var 0) 16])]
noncomputable def nm32:List (Option Str):=[some "self"]
noncomputable def par32:List Str:=["self"]
noncomputable def ir32:List S:=[
 .ret (.new 4 [.attr (.var 0) 14,.attr (.var 0) 15,.attr (.var 0) 16])]
noncomputable def nm33:List (Option Str):=[some "self",some "value",some "literals",some "place"]
noncomputable def par33:List Str:=["self","value","literals"]
noncomputable def ir33:List S:=[
 .ite (.bool false [.cmp (.var 1) [.lt] [.lit (.int 1)],.cmp (.var 2) [.lt] [.lit (.int 0)]]) [
  .fail] [],
 .ite (.cmp (.var 1) [.gt] [.lit (.int 3)]) [
  .ret (.tup [.bin .sub (.var 1) (.lit (.int 3)),.lit (.int 3)])] [],
 .assign (.var 3) (.ite (.cmp (.var 2) [.gt] [.lit (.int 0)]) (.bin .sub (.var 1) (.lit (.int 1))) (.var 1)),
 .ite (.cmp (.var 3) [.eq] [.lit (.int 3)]) [
  .ret (.tup [.bin .sub (.attr (.var 0) 14) (.lit (.int 1)),.lit (.int 3)])] [],
 .ret (.tup [.idx (.meth (.var 0) 17 []) (.var 3),.var 3])]
noncomputable def nm34:List (Option Str):=[some "self",some "distance",some "place"]
noncomputable def par34:List Str:=["self","distance","place"]
noncomputable def ir34:List S:=[
 .ite (.cmp (.var 2) [.eq] [.lit (.int 1)]) [
  .assign (.tup [.attr (.var 0) 14,.attr (.var 0) 15]) (.tup [.var 1,.attr (.var 0) 14])] [
  .ite (.cmp (.var 2) [.gt] [.lit (.int 1)]) [
   .assign (.tup [.attr (.var 0) 14,.attr (.var 0) 15,.attr (.var 0) 16]) (.tup [.var 1,.attr (.var 0) 14,.attr (.var 0) 15])] []]]
noncomputable def nm35:List (Option Str):=[some "self",some "value",some "literals",some "distance",some "place"]
noncomputable def par35:List Str:=["self","value","literals"]
noncomputable def ir35:List S:=[
 .assign (.tup [.var 3,.var 4]) (.meth (.var 0) 19 [.var 1,.var 2]),
 .ite (.cmp (.var 3) [.eq] [.lit (.int 0)]) [
  .fail] [],
 .expr (.meth (.var 0) 20 [.var 3,.var 4]),
 .ret (.var 3)]
noncomputable def nm36:List (Option Str):=[some "self",some "distance",some "literals",some "value",some "near"]
noncomputable def par36:List Str:=["self","distance","literals"]
noncomputable def ir36:List S:=[
 .ite (.cmp (.var 1) [.lt] [.lit (.int 1)]) [
  .fail] [],
 .assign (.var 3) (.bin .add (.var 1) (.lit (.int 3))),
 .for_ true [4] (.tup [.lit (.int 3),.lit (.int 2),.lit (.int 1)]) [
  .ite (.cmp (.idx (.meth (.var 0) 19 [.var 4,.var 2]) (.lit (.int 0))) [.eq] [.var 1]) [
   .assign (.var 3) (.var 4)] []],
 .expr (.meth (.var 0) 21 [.var 3,.var 2]),
 .ret (.var 3)]
noncomputable def nm37:List (Option Str):=[some "count",some "total",some "found",some "turn",some "low",some "top"]
noncomputable def par37:List Str:=["count","total"]
noncomputable def ir37:List S:=[
 .assign (.var 2) (.lit (.int 0)),
 .assign (.tup [.var 4,.var 5]) (.tup [.var 0,.var 1]),
 .whl (.cmp (.var 5) [.ge] [.bin .mul (.lit (.int 2)) (.var 4)]) [
  .assign (.var 4) (.bin .mul (.lit (.int 2)) (.var 4)),
  .aug 2 .add (.lit (.int 1))],
 .for_ true [3] (.bi .range [.lit (.int 4)]) [
  .assign (.tup [.var 4,.var 5]) (.tup [.bin .mul (.var 4) (.var 4),.bin .mul (.var 5) (.var 5)]),
  .assign (.var 2) (.bin .mul (.lit (.int 2)) (.var 2)),
  .ite (.cmp (.var 5) [.ge] [.bin .mul (.lit (.int 2)) (.var 4)]) [
   .assign (.var 4) (.bin .mul (.lit (.int 2)) (.var 4)),
   .aug 2 .add (.lit (.int 1))] []],
 .ret (.var 2)]
noncomputable def nm38:List (Option Str):=[some "items",some "found",some "item"]
noncomputable def par38:List Str:=["items"]
noncomputable def ir38:List S:=[
 .assign (.var 1) (.dict0),
 .for_ true [2] (.var 0) [
  .assign (.idx (.var 1) (.var 2)) (.bin .add (.bmeth (.var 1) .get [.var 2,.lit (.int 0)]) (.lit (.int 1)))],
 .ret (.var 1)]
noncomputable def nm39:List (Option Str):=[some "counts",some "plain",some "total",some "found",some "item",none]
noncomputable def par39:List Str:=["counts","plain"]
noncomputable def ir39:List S:=[
 .ite (.cmp (.var 0) [.eq] [.dict0]) [
  .ret (.tup [.dict0,.var 1])] [],
 .assign (.var 2) (.bin .add (.bi .sum [.comp (.idx (.var 0) (.var 5)) true [5] (.bi .sorted [.var 0]) []]) (.lit (.int 1))),
 .assign (.var 3) (.dict0),
 .for_ true [4] (.bi .sorted [.var 0]) [
  .assign (.idx (.var 3) (.var 4)) (.call 37 [.idx (.var 0) (.var 4),.var 2])],
 .ret (.tup [.var 3,.bin .add (.call 37 [.lit (.int 1),.var 2]) (.lit (.int 16))])]
noncomputable def nm40:List (Option Str):=[some "self",some "octets",some "lengths",some "offsets"]
noncomputable def par40:List Str:=["self","octets","lengths","offsets"]
noncomputable def ir40:List S:=[
 .assign (.tup [.attr (.var 0) 0,.attr (.var 0) 17]) (.call 39 [.var 1,.lit (.int 96)]),
 .assign (.tup [.attr (.var 0) 18,.attr (.var 0) 19]) (.call 39 [.var 2,.lit (.int 64)]),
 .assign (.tup [.attr (.var 0) 20,.attr (.var 0) 21]) (.call 39 [.var 3,.lit (.int 64)]),
 .assign (.attr (.var 0) 22) (.dict0),
 .assign (.attr (.var 0) 23) (.dict0)]
noncomputable def nm41:List (Option Str):=[some "self",some "octet"]
noncomputable def par41:List Str:=["self","octet"]
noncomputable def ir41:List S:=[
 .ret (.bi .min_ [.lit (.int 128),.bmeth (.attr (.var 0) 0) .get [.var 1,.attr (.var 0) 17]])]
noncomputable def nm42:List (Option Str):=[some "self",some "length",some "distance",some "code",some "count",some "rest"]
noncomputable def par42:List Str:=["self","length","distance"]
noncomputable def ir42:List S:=[
 .ite (.cmp (.var 1) [.notIn] [.attr (.var 0) 22]) [
  .assign (.tup [.var 3,.var 4,.var 5]) (.call 28 [.var 1]),
  .assign (.idx (.attr (.var 0) 22) (.var 1)) (.bin .add (.bmeth (.attr (.var 0) 18) .get [.var 3,.attr (.var 0) 19]) (.bin .mul (.lit (.int 16)) (.var 4)))] [],
 .ite (.cmp (.var 2) [.notIn] [.attr (.var 0) 23]) [
  .assign (.tup [.var 3,.var 4,.var 5]) (.call 29 [.bin .add (.var 2) (.lit (.int 3))]),
  .assign (.idx (.attr (.var 0) 23) (.var 2)) (.bin .add (.bmeth (.attr (.var 0) 20) .get [.var 3,.attr (.var 0) 21]) (.bin .mul (.lit (.int 16)) (.var 4)))] [],
 .ret (.bin .add (.bin .add (.idx (.attr (.var 0) 22) (.var 1)) (.idx (.attr (.var 0) 23) (.var 2))) (.lit (.int 32)))]
noncomputable def nm43:List (Option Str):=[some "octets"]
noncomputable def par43:List Str:=["octets"]
noncomputable def ir43:List S:=[
 .ret (.new 5 [.call 38 [.var 0],.dict0,.dict0])]
noncomputable def nm44:List (Option Str):=[some "steps",some "octets",some "lengths",some "offsets",none,none]
noncomputable def par44:List Str:=["steps"]
noncomputable def ir44:List S:=[
 .assign (.var 1) (.call 38 [.comp (.var 5) false [4,5] (.var 0) [.cmp (.var 4) [.eq] [.lit (.int 0)]]]),
 .assign (.var 2) (.call 38 [.comp (.idx (.call 28 [.var 4]) (.lit (.int 0))) false [4,5] (.var 0) [.cmp (.var 4) [.gt] [.lit (.int 0)]]]),
 .assign (.var 3) (.call 38 [.comp (.idx (.call 29 [.bin .add (.var 5) (.lit (.int 3))]) (.lit (.int 0))) false [4,5] (.var 0) [.cmp (.var 4) [.gt] [.lit (.int 0)]]]),
 .ret (.new 5 [.var 1,.var 2,.var 3])]
noncomputable def nm45:List (Option Str):=[some "length",some "value"]
noncomputable def par45:List Str:=["length","value"]
noncomputable def ir45:List S:=[
 .ret (.bin .sub (.bin .mul (.lit (.int 4)) (.var 0)) (.bmeth (.var 1) .bitLen []))]
noncomputable def nm46:List (Option Str):=[some "finder",some "place",some "most",some "offsets",some "run",some "value",some "length",some "distance",some "top",some "other",some "count"]
noncomputable def par46:List Str:=["finder","place","most","offsets","run"]
noncomputable def ir46:List S:=[
 .assign (.tup [.var 6,.var 7]) (.meth (.var 0) 10 [.var 1,.var 2]),
 .ite (.cmp (.var 6) [.lt] [.lit (.int (3))]) [
  .assign (.tup [.var 6,.var 7,.var 8]) (.tup [.lit (.int 0),.lit (.int 0),.lit (.int 0)])] [
  .assign (.var 8) (.call 45 [.var 6,.meth (.meth (.var 3) 18 []) 22 [.var 7,.var 4]])],
 .for_ true [5] (.tup [.lit (.int 1),.lit (.int 2),.lit (.int 3)]) [
  .assign (.var 9) (.idx (.meth (.var 3) 19 [.var 5,.var 4]) (.lit (.int 0))),
  .assign (.var 10) (.ite (.cmp (.var 9) [.gt] [.lit (.int 0)]) (.meth (.var 0) 9 [.var 1,.var 9,.var 2]) (.lit (.int 0))),
  .ite (.bool true [.cmp (.var 10) [.ge] [.lit (.int (3))],.cmp (.call 45 [.var 10,.var 5]) [.gt] [.var 8]]) [
   .assign (.tup [.var 6,.var 7,.var 8]) (.tup [.var 10,.var 9,.call 45 [.var 10,.var 5]])] []],
 .ret (.tup [.var 6,.var 7])]
noncomputable def nm47:List (Option Str):=[some "text",some "start",some "finder",some "most",some "offsets",some "held",some "steps",some "place",some "run",some "length",some "distance"]
noncomputable def par47:List Str:=["text","start","finder","most","offsets"]
noncomputable def ir47:List S:=[
 .assign (.var 5) (.meth (.var 4) 18 []),
 .assign (.var 6) (.list []),
 .assign (.tup [.var 7,.var 8]) (.tup [.var 1,.lit (.int 0)]),
 .whl (.cmp (.var 7) [.lt] [.bi .len [.var 0]]) [
  .expr (.meth (.var 2) 4 [.var 7]),
  .assign (.tup [.var 9,.var 10]) (.call 46 [.var 2,.var 7,.var 3,.var 5,.var 8]),
  .ite (.cmp (.var 9) [.eq] [.lit (.int 0)]) [
   .expr (.bmeth (.var 6) .append [.tup [.lit (.int 0),.idx (.var 0) (.var 7)]]),
   .aug 7 .add (.lit (.int 1)),
   .aug 8 .add (.lit (.int 1))] [
   .expr (.bmeth (.var 6) .append [.tup [.var 9,.var 10]]),
   .expr (.meth (.var 5) 22 [.var 10,.var 8]),
   .aug 7 .add (.var 9),
   .assign (.var 8) (.lit (.int 0))]],
 .ret (.var 6)]
noncomputable def nm48:List (Option Str):=[some "text",some "start",some "way",some "finder",some "offsets",some "most"]
noncomputable def par48:List Str:=["text","start","way","finder","offsets"]
noncomputable def ir48:List S:=[
 .assign (.var 5) (.bin .sub (.bi .len [.var 0]) (.var 1)),
 .ite (.cmp (.var 2) [.eq] [.lit (.str "greedy")]) [
  .ret (.call 71 [.var 0,.var 1,.var 3,.var 5])] [],
 .ite (.cmp (.var 2) [.eq] [.lit (.str "lazy")]) [
  .ret (.call 72 [.var 0,.var 1,.var 3,.var 5])] [],
 .ite (.cmp (.var 2) [.eq] [.lit (.str "weighed")]) [
  .ret (.call 73 [.var 0,.var 1,.var 3,.var 5])] [],
 .ite (.cmp (.var 2) [.eq] [.lit (.str "repeats")]) [
  .ret (.call 47 [.var 0,.var 1,.var 3,.var 5,.var 4])] [],
 .ret (.call 26 [.var 0,.var 1,.var 3,.var 5,.call 43 [.slc (.var 0) (.var 1) (.lit .none) (.lit .none)]])]
noncomputable def nm49:List (Option Str):=[some "text",some "start",some "way",some "reach",some "chain",some "offsets",some "steps",some "again",some "others",some "found",some "other"]
noncomputable def par49:List Str:=["text","start","way","reach","chain","offsets"]
noncomputable def ir49:List S:=[
 .ite (.bool false [.cmp (.var 2) [.eq] [.lit (.str "none")],.cmp (.bin .sub (.bi .len [.var 0]) (.var 1)) [.lt] [.lit (.int (3))]]) [
  .ret (.list [.call 22 [.var 0,.var 1]])] [],
 .assign (.var 6) (.call 48 [.var 0,.var 1,.var 2,.new 1 [.var 0,.lit (.int (3)),.var 3,.var 4],.var 5]),
 .ite (.cmp (.var 2) [.ne] [.lit (.str "best")]) [
  .ret (.list [.var 6])] [],
 .assign (.var 7) (.new 1 [.var 0,.lit (.int (3)),.var 3,.var 4]),
 .assign (.var 8) (.list [.call 22 [.var 0,.var 1],.call 26 [.var 0,.var 1,.var 7,.bin .sub (.bi .len [.var 0]) (.var 1),.call 44 [.var 6]]]),
 .expr (.bmeth (.var 8) .append [.call 48 [.var 0,.var 1,.lit (.str "repeats"),.new 1 [.var 0,.lit (.int (3)),.var 3,.var 4],.var 5]]),
 .assign (.var 9) (.list [.var 6]),
 .for_ true [10] (.var 8) [
  .ite (.cmp (.var 10) [.notIn] [.var 9]) [
   .expr (.bmeth (.var 9) .append [.var 10])] []],
 .ret (.var 9)]
noncomputable def nm50:List (Option Str):=[some "script",some "whole_one",some "cell"]
noncomputable def par50:List Str:=["script"]
noncomputable def ir50:List S:=[
 .assign (.var 1) (.lit (.int 0)),
 .for_ true [2] (.slc (.var 0) (.lit .none) (.lit (.int 24)) (.lit .none)) [
  .assign (.var 1) (.bin .add (.bin .add (.bin .mul (.var 1) (.lit (.int 1000003))) (.bin .mul (.bin .mod (.bi .abs [.var 2]) (.bin .pow (.lit (.int 10)) (.lit (.int 30)))) (.lit (.int 2)))) (.bi .int_ [.cmp (.var 2) [.lt] [.lit (.int 0)]]))],
 .ret (.list [.var 1,.lit (.int 0)])]
noncomputable def nm51:List (Option Str):=[some "box",some "many",some "digit"]
noncomputable def par51:List Str:=["box","many"]
noncomputable def ir51:List S:=[
 .assign (.idx (.var 0) (.lit (.int 1))) (.bin .add (.idx (.var 0) (.lit (.int 1))) (.lit (.int 1))),
 .ite (.cmp (.idx (.var 0) (.lit (.int 0))) [.eq] [.lit (.int 0)]) [
  .ret (.bin .mod (.bin .mod (.bin .add (.bin .add (.bin .mul (.bin .mul (.lit (.int 7)) (.idx (.var 0) (.lit (.int 1)))) (.idx (.var 0) (.lit (.int 1)))) (.bin .mul (.lit (.int 5)) (.idx (.var 0) (.lit (.int 1))))) (.lit (.int 3))) (.lit (.int 101))) (.var 1))] [],
 .assign (.var 2) (.bin .mod (.idx (.var 0) (.lit (.int 0))) (.var 1)),
 .assign (.idx (.var 0) (.lit (.int 0))) (.bin .fdiv (.idx (.var 0) (.lit (.int 0))) (.var 1)),
 .ret (.var 2)]
noncomputable def nm52:List (Option Str):=[some "box",some "size",some "found",some "lap",some "distance",some "k"]
noncomputable def par52:List Str:=["box","size"]
noncomputable def ir52:List S:=[
 .assign (.var 2) (.list [.call 51 [.var 0,.lit (.int 3)]]),
 .for_ true [3] (.bi .range [.var 1]) [
  .ite (.bool true [.cmp (.bi .len [.var 2]) [.lt] [.var 1],.cmp (.call 51 [.var 0,.lit (.int 3)]) [.eq] [.lit (.int 0)]]) [
   .expr (.bmeth (.var 2) .append [.call 51 [.var 0,.lit (.int 3)]])] [
   .ite (.cmp (.bi .len [.var 2]) [.lt] [.var 1]) [
    .assign (.var 4) (.bin .add (.lit (.int 1)) (.call 51 [.var 0,.bi .min_ [.bi .len [.var 2],.lit (.int 7)]])),
    .for_ true [5] (.bi .range [.bin .add (.lit (.int 2)) (.call 51 [.var 0,.lit (.int 4)])]) [
     .expr (.bmeth (.var 2) .append [.idx (.var 2) (.bin .sub (.bi .len [.var 2]) (.var 4))])]] []]],
 .ret (.bi .bytes [.slc (.var 2) (.lit .none) (.var 1) (.lit .none)])]
noncomputable def nm53:List (Option Str):=[some "count",some "total",some "found",some "low",some "top"]
noncomputable def par53:List Str:=["count","total"]
noncomputable def ir53:List S:=[
 .assign (.tup [.var 2,.var 3,.var 4]) (.tup [.lit (.int 0),.bin .pow (.var 0) (.lit (.int 16)),.bin .pow (.var 1) (.lit (.int 16))]),
 .whl (.cmp (.bin .mul (.var 3) (.bin .pow (.lit (.int 2)) (.bin .add (.var 2) (.lit (.int 1))))) [.le] [.var 4]) [
  .assign (.var 2) (.bin .add (.var 2) (.lit (.int 1)))],
 .ret (.var 2)]
noncomputable def nm54:List (Option Str):=[some "items",some "found",some "item"]
noncomputable def par54:List Str:=["items"]
noncomputable def ir54:List S:=[
 .assign (.var 1) (.dict0),
 .for_ true [2] (.var 0) [
  .assign (.idx (.var 1) (.var 2)) (.bin .add (.bmeth (.var 1) .get [.var 2,.lit (.int 0)]) (.lit (.int 1)))],
 .ret (.var 1)]
noncomputable def nm55:List (Option Str):=[some "counts",some "plain",some "total",none]
noncomputable def par55:List Str:=["counts","plain"]
noncomputable def ir55:List S:=[
 .ite (.cmp (.var 0) [.eq] [.dict0]) [
  .ret (.tup [.dict0,.var 1])] [],
 .assign (.var 2) (.bin .add (.bi .sum [.comp (.idx (.var 0) (.var 3)) true [3] (.var 0) []]) (.lit (.int 1))),
 .ret (.tup [.bi .dict [.comp (.tup [.var 3,.call 53 [.idx (.var 0) (.var 3),.var 2]]) true [3] (.var 0) []],.bin .add (.call 53 [.lit (.int 1),.var 2]) (.lit (.int 16))])]
noncomputable def nm56:List (Option Str):=[some "value",some "low",some "plain",some "bits",none]
noncomputable def par56:List Str:=["value","low","plain"]
noncomputable def ir56:List S:=[
 .ite (.var 2) [
  .ret (.tup [.bin .sub (.var 0) (.var 1),.lit (.int 0)])] [],
 .assign (.var 3) (.bi .len [.comp (.var 4) true [4] (.bi .range [.lit (.int 1),.lit (.int 20)]) [.cmp (.bin .pow (.lit (.int 2)) (.var 4)) [.le] [.var 0]]]),
 .ret (.tup [.var 3,.var 3])]
noncomputable def nm57:List (Option Str):=[some "octets",some "steps",some "singles",some "lengths",some "offsets",none,none]
noncomputable def par57:List Str:=["octets","steps"]
noncomputable def ir57:List S:=[
 .ite (.cmp (.var 1) [.is_] [.lit .none]) [
  .ret (.tup [.call 55 [.call 54 [.var 0],.lit (.int 96)],.call 55 [.dict0,.lit (.int 64)],.call 55 [.dict0,.lit (.int 64)]])] [],
 .assign (.var 2) (.comp (.var 6) false [5,6] (.var 1) [.cmp (.var 5) [.eq] [.lit (.int 0)]]),
 .assign (.var 3) (.comp (.idx (.call 56 [.var 5,.lit (.int 3),.lit (.bool true)]) (.lit (.int 0))) false [5,6] (.var 1) [.cmp (.var 5) [.gt] [.lit (.int 0)]]),
 .assign (.var 4) (.comp (.idx (.call 56 [.bin .add (.var 6) (.lit (.int 3)),.lit (.int 0),.lit (.bool false)]) (.lit (.int 0))) false [5,6] (.var 1) [.cmp (.var 5) [.gt] [.lit (.int 0)]]),
 .ret (.tup [.call 55 [.call 54 [.var 2],.lit (.int 96)],.call 55 [.call 54 [.var 3],.lit (.int 64)],.call 55 [.call 54 [.var 4],.lit (.int 64)]])]
noncomputable def nm58:List (Option Str):=[some "prices",some "step",some "length",some "other",some "first",some "second"]
noncomputable def par58:List Str:=["prices","step"]
noncomputable def ir58:List S:=[
 .assign (.tup [.var 2,.var 3]) (.var 1),
 .ite (.cmp (.var 2) [.eq] [.lit (.int 0)]) [
  .ret (.bi .min_ [.lit (.int 128),.bmeth (.idx (.idx (.var 0) (.lit (.int 0))) (.lit (.int 0))) .get [.var 3,.idx (.idx (.var 0) (.lit (.int 0))) (.lit (.int 1))]])] [],
 .assign (.tup [.var 4,.var 5]) (.tup [.call 56 [.var 2,.lit (.int 3),.lit (.bool true)],.call 56 [.bin .add (.var 3) (.lit (.int 3)),.lit (.int 0),.lit (.bool false)]]),
 .ret (.bin .add (.bin .add (.bin .add (.bmeth (.idx (.idx (.var 0) (.lit (.int 1))) (.lit (.int 0))) .get [.idx (.var 4) (.lit (.int 0)),.idx (.idx (.var 0) (.lit (.int 1))) (.lit (.int 1))]) (.bmeth (.idx (.idx (.var 0) (.lit (.int 2))) (.lit (.int 0))) .get [.idx (.var 5) (.lit (.int 0)),.idx (.idx (.var 0) (.lit (.int 2))) (.lit (.int 1))])) (.bin .mul (.lit (.int 16)) (.idx (.var 5) (.lit (.int 1))))) (.lit (.int 32)))]
noncomputable def nm59:List (Option Str):=[some "text",some "place",some "distance",some "count"]
noncomputable def par59:List Str:=["text","place","distance"]
noncomputable def ir59:List S:=[
 .assign (.var 3) (.lit (.int 0)),
 .whl (.bool true [.cmp (.bin .add (.var 1) (.var 3)) [.lt] [.bi .len [.var 0]],.cmp (.idx (.var 0) (.bin .add (.var 1) (.var 3))) [.eq] [.idx (.var 0) (.bin .sub (.bin .add (.var 1) (.var 3)) (.var 2))]]) [
  .assign (.var 3) (.bin .add (.var 3) (.lit (.int 1)))],
 .ret (.var 3)]
noncomputable def nm60:List (Option Str):=[some "text",some "place",some "window",some "chain",some "distance",some "found",some "longest",some "seen",some "count"]
noncomputable def par60:List Str:=["text","place","window","chain"]
noncomputable def ir60:List S:=[
 .assign (.tup [.var 5,.var 6,.var 7]) (.tup [.list [],.lit (.int 2),.lit (.int 0)]),
 .for_ true [4] (.bi .range [.lit (.int 1),.bin .add (.bi .min_ [.var 1,.var 2]) (.lit (.int 1))]) [
  .assign (.var 8) (.call 59 [.var 0,.var 1,.var 4]),
  .ite (.bool true [.cmp (.var 8) [.gt] [.lit (.int 2)],.cmp (.var 7) [.lt] [.var 3]]) [
   .assign (.var 7) (.bin .add (.var 7) (.lit (.int 1))),
   .ite (.cmp (.var 8) [.gt] [.var 6]) [
    .expr (.bmeth (.var 5) .append [.tup [.var 8,.var 4]]),
    .assign (.var 6) (.var 8)] []] []],
 .ret (.var 5)]
noncomputable def nm61:List (Option Str):=[some "text",some "start",some "rows",some "prices",some "costs",some "place",some "every",some "length",some "distance",some "part"]
noncomputable def par61:List Str:=["text","start","rows","prices"]
noncomputable def ir61:List S:=[
 .assign (.var 4) (.dict1 (.bi .len [.var 0]) (.lit (.int 0))),
 .for_ true [5] (.bi .range [.bin .sub (.bi .len [.var 0]) (.lit (.int 1)),.bin .sub (.var 1) (.lit (.int 1)),.neg (.lit (.int 1))]) [
  .assign (.var 6) (.list [.bin .add (.call 58 [.var 3,.tup [.lit (.int 0),.idx (.var 0) (.var 5)]]) (.idx (.var 4) (.bin .add (.var 5) (.lit (.int 1))))]),
  .for_ false [7,8] (.idx (.var 2) (.var 5)) [
   .for_ true [9] (.bi .range [.lit (.int 3),.bin .add (.var 7) (.lit (.int 1))]) [
    .expr (.bmeth (.var 6) .append [.bin .add (.call 58 [.var 3,.tup [.var 9,.var 8]]) (.idx (.var 4) (.bin .add (.var 5) (.var 9)))])]],
  .assign (.idx (.var 4) (.var 5)) (.bi .min_ [.var 6])],
 .ret (.idx (.var 4) (.var 1))]
noncomputable def nm62:List (Option Str):=[some "prices",some "steps",none]
noncomputable def par62:List Str:=["prices","steps"]
noncomputable def ir62:List S:=[
 .ret (.bi .sum [.comp (.call 58 [.var 0,.var 2]) true [2] (.var 1) []])]
noncomputable def nm63:List (Option Str):=[some "text",some "start",some "steps",some "out",some "length",some "other",some "k"]
noncomputable def par63:List Str:=["text","start","steps"]
noncomputable def ir63:List S:=[
 .assign (.var 3) (.bi .list [.slc (.var 0) (.lit .none) (.var 1) (.lit .none)]),
 .for_ false [4,5] (.var 2) [
  .ite (.cmp (.var 4) [.eq] [.lit (.int 0)]) [
   .expr (.bmeth (.var 3) .append [.var 5])] [
   .for_ true [6] (.bi .range [.var 4]) [
    .expr (.bmeth (.var 3) .append [.idx (.var 3) (.bin .sub (.bi .len [.var 3]) (.var 5))])]]],
 .ret (.cmp (.bi .bytes [.var 3]) [.eq] [.var 0])]
noncomputable def nm64:List (Option Str):=[some "three",some "value",some "ahead",some "spot",none]
noncomputable def par64:List Str:=["three","value","ahead"]
noncomputable def ir64:List S:=[
 .ite (.cmp (.var 1) [.gt] [.lit (.int 3)]) [
  .ret (.tup [.bin .sub (.var 1) (.lit (.int 3)),.list [.bin .sub (.var 1) (.lit (.int 3)),.idx (.var 0) (.lit (.int 0)),.idx (.var 0) (.lit (.int 1))]])] [],
 .assign (.var 3) (.ite (.cmp (.var 2) [.gt] [.lit (.int 0)]) (.bin .sub (.var 1) (.lit (.int 1))) (.var 1)),
 .ite (.cmp (.var 3) [.eq] [.lit (.int 3)]) [
  .ret (.tup [.bin .sub (.idx (.var 0) (.lit (.int 0))) (.lit (.int 1)),.list [.bin .sub (.idx (.var 0) (.lit (.int 0))) (.lit (.int 1)),.idx (.var 0) (.lit (.int 0)),.idx (.var 0) (.lit (.int 1))]])] [],
 .ret (.tup [.idx (.var 0) (.var 3),.bin .add (.list [.idx (.var 0) (.var 3)]) (.comp (.idx (.var 0) (.var 4)) true [4] (.bi .range [.lit (.int 3)]) [.cmp (.var 4) [.ne] [.var 3]])])]
noncomputable def nm65:List (Option Str):=[some "three",some "distance",some "ahead",some "value"]
noncomputable def par65:List Str:=["three","distance","ahead"]
noncomputable def ir65:List S:=[
 .for_ true [3] (.list [.lit (.int 1),.lit (.int 2),.lit (.int 3)]) [
  .ite (.cmp (.idx (.call 64 [.var 0,.var 3,.var 2]) (.lit (.int 0))) [.eq] [.var 1]) [
   .ret (.var 3)] []],
 .ret (.bin .add (.var 1) (.lit (.int 3)))]
noncomputable def nm66:List (Option Str):=[some "length",some "value",none]
noncomputable def par66:List Str:=["length","value"]
noncomputable def ir66:List S:=[
 .ret (.bin .sub (.bin .mul (.lit (.int 4)) (.var 0)) (.bi .len [.comp (.var 2) true [2] (.bi .range [.lit (.int 20)]) [.cmp (.bin .pow (.lit (.int 2)) (.var 2)) [.le] [.var 1]]]))]
noncomputable def nm67:List (Option Str):=[some "text",some "start",some "rows",some "window",some "three",some "steps",some "place",some "ahead",some "options",some "value",some "length",some "distance",some "count",some "valued",some "order"]
noncomputable def par67:List Str:=["text","start","rows","window","three"]
noncomputable def ir67:List S:=[
 .assign (.tup [.var 5,.var 6,.var 7]) (.tup [.list [],.var 1,.lit (.int 0)]),
 .whl (.cmp (.var 6) [.lt] [.bi .len [.var 0]]) [
  .assign (.var 8) (.list []),
  .for_ false [10,11] (.slc (.idx (.var 2) (.var 6)) (.neg (.lit (.int 1))) (.lit .none) (.lit .none)) [
   .expr (.bmeth (.var 8) .append [.tup [.call 66 [.var 10,.call 65 [.var 4,.var 11,.var 7]],.lit (.int 0),.var 10,.var 11]])],
  .for_ true [9] (.list [.lit (.int 1),.lit (.int 2),.lit (.int 3)]) [
   .assign (.var 11) (.idx (.call 64 [.var 4,.var 9,.var 7]) (.lit (.int 0))),
   .assign (.var 12) (.ite (.cmp (.lit (.int 0)) [.lt,.le] [.var 11,.bi .min_ [.var 6,.var 3]]) (.call 59 [.var 0,.var 6,.var 11]) (.lit (.int 0))),
   .ite (.cmp (.var 12) [.gt] [.lit (.int 2)]) [
    .expr (.bmeth (.var 8) .append [.tup [.call 66 [.var 12,.var 9],.neg (.var 9),.var 12,.var 11]])] []],
  .ite (.cmp (.var 8) [.eq] [.list []]) [
   .expr (.bmeth (.var 5) .append [.tup [.lit (.int 0),.idx (.var 0) (.var 6)]]),
   .assign (.tup [.var 6,.var 7]) (.tup [.bin .add (.var 6) (.lit (.int 1)),.bin .add (.var 7) (.lit (.int 1))]),
   .cont] [],
  .assign (.tup [.var 13,.var 14,.var 10,.var 11]) (.idx (.bi .sorted [.var 8]) (.neg (.lit (.int 1)))),
  .expr (.bmeth (.var 5) .append [.tup [.var 10,.var 11]]),
  .assign (.var 4) (.idx (.call 64 [.var 4,.call 65 [.var 4,.var 11,.var 7],.var 7]) (.lit (.int 1))),
  .assign (.tup [.var 6,.var 7]) (.tup [.bin .add (.var 6) (.var 10),.lit (.int 0)])],
 .ret (.var 5)]
noncomputable def nm68:List (Option Str):=[some "box",some "counts",some "total",some "count",none]
noncomputable def par68:List Str:=["box"]
noncomputable def ir68:List S:=[
 .assign (.var 1) (.call 54 [.comp (.call 51 [.var 0,.lit (.int 5)]) true [4] (.bi .range [.call 51 [.var 0,.lit (.int 9)]]) []]),
 .assign (.var 2) (.bin .add (.lit (.int 1)) (.call 51 [.var 0,.lit (.int 300)])),
 .assign (.var 3) (.bin .add (.lit (.int 1)) (.call 51 [.var 0,.var 2])),
 .ret (.bool true [.cmp (.call 37 [.var 3,.var 2]) [.eq] [.call 53 [.var 3,.var 2]],.cmp (.call 39 [.var 1,.lit (.int 77)]) [.eq] [.call 55 [.var 1,.lit (.int 77)]]])]
noncomputable def nm69:List (Option Str):=[some "mine",some "price",some "steps",some "length",some "other",some "told"]
noncomputable def par69:List Str:=["mine","price","steps"]
noncomputable def ir69:List S:=[
 .for_ false [3,4] (.bin .add (.var 2) (.list [.tup [.lit (.int 0),.lit (.int 9)],.tup [.lit (.int 3),.lit (.int 1)],.tup [.lit (.int 14),.lit (.int 60)]])) [
  .assign (.var 5) (.ite (.cmp (.var 3) [.eq] [.lit (.int 0)]) (.meth (.var 1) 23 [.var 4]) (.meth (.var 1) 24 [.var 3,.var 4])),
  .ite (.cmp (.var 5) [.ne] [.call 58 [.var 0,.tup [.var 3,.var 4]]]) [
   .ret (.lit (.bool false))] []],
 .ret (.lit (.bool true))]
noncomputable def nm70:List (Option Str):=[some "script",some "text",some "three",some "rows",some "told",some "steps",some "first",some "plain",some "others",some "box",some "much",some "start",some "window",some "chain",some "mine",some "held",some "learnt",some "every",none,none,none]
noncomputable def par70:List Str:=["script"]
noncomputable def ir70:List S:=[
 .assign (.tup [.var 9,.var 10]) (.tup [.call 50 [.var 0],.bi .min_ [.bi .len [.var 0],.lit (.int 6)]]),
 .assign (.var 1) (.call 52 [.var 9,.bin .add (.bin .add (.lit (.int 5)) (.var 10)) (.call 51 [.var 9,.lit (.int 4)])]),
 .assign (.tup [.var 11,.var 12,.var 13]) (.tup [.call 51 [.var 9,.bin .add (.lit (.int 3)) (.bin .fdiv (.var 10) (.lit (.int 2)))],.bin .add (.lit (.int 1)) (.call 51 [.var 9,.lit (.int 12)]),.idx (.list [.lit (.int 8),.lit (.int 1),.lit (.int 2)]) (.call 51 [.var 9,.lit (.int 3)])]),
 .assign (.var 2) (.list [.bin .add (.lit (.int 1)) (.call 51 [.var 9,.lit (.int 4)]),.bin .add (.lit (.int 1)) (.call 51 [.var 9,.lit (.int 6)]),.idx (.list [.lit (.int 1),.lit (.int 2),.lit (.int 3),.lit (.int 5)]) (.call 51 [.var 9,.lit (.int 4)])]),
 .assign (.var 3) (.comp (.call 60 [.var 1,.var 18,.var 12,.var 13]) true [18] (.bi .range [.bi .len [.var 1]]) []),
 .assign (.tup [.var 14,.var 15]) (.tup [.call 67 [.var 1,.var 11,.var 3,.var 12,.var 2],.new 4 [.idx (.var 2) (.lit (.int 0)),.idx (.var 2) (.lit (.int 1)),.idx (.var 2) (.lit (.int 2))]]),
 .assign (.var 4) (.call 47 [.var 1,.var 11,.new 1 [.var 1,.lit (.int 3),.var 12,.var 13],.bin .sub (.bi .len [.var 1]) (.var 11),.var 15]),
 .ite (.bool false [.cmp (.var 4) [.ne] [.var 14],.cmp (.meth (.var 15) 17 []) [.ne] [.bi .tuple [.var 2]],.not (.call 68 [.var 9])]) [
  .ret (.lit (.bool false))] [],
 .assign (.var 5) (.call 49 [.var 1,.var 11,.lit (.str "least"),.var 12,.var 13,.var 15]),
 .assign (.var 6) (.call 57 [.slc (.var 1) (.var 11) (.lit .none) (.lit .none),.lit .none]),
 .ite (.bool false [.cmp (.bi .len [.var 5]) [.ne] [.lit (.int 1)],.not (.call 63 [.var 1,.var 11,.idx (.var 5) (.lit (.int 0))]),.not (.call 69 [.var 6,.call 43 [.slc (.var 1) (.var 11) (.lit .none) (.lit .none)],.idx (.var 5) (.lit (.int 0))])]) [
  .ret (.lit (.bool false))] [],
 .ite (.cmp (.call 62 [.var 6,.idx (.var 5) (.lit (.int 0))]) [.ne] [.call 61 [.var 1,.var 11,.var 3,.var 6]]) [
  .ret (.lit (.bool false))] [],
 .assign (.tup [.var 16,.var 17]) (.tup [.call 57 [.lit .none,.idx (.var 5) (.lit (.int 0))],.call 49 [.var 1,.var 11,.lit (.str "best"),.var 12,.var 13,.var 15]]),
 .ite (.not (.call 69 [.var 16,.call 44 [.idx (.var 5) (.lit (.int 0))],.bin .add (.idx (.var 5) (.lit (.int 0))) (.var 14)])) [
  .ret (.lit (.bool false))] [],
 .ite (.bool false [.cmp (.idx (.var 17) (.lit (.int 0))) [.ne] [.idx (.var 5) (.lit (.int 0))],.cmp (.comp (.var 20) true [20] (.var 17) [.not (.call 63 [.var 1,.var 11,.var 20])]) [.ne] [.list []]]) [
  .ret (.lit (.bool false))] [],
 .assign (.var 7) (.comp (.tup [.lit (.int 0),.var 19]) true [19] (.slc (.var 1) (.var 11) (.lit .none) (.lit .none)) []),
 .assign (.var 8) (.comp (.var 20) true [20] (.slc (.var 17) (.lit (.int 1)) (.lit .none) (.lit .none)) [.cmp (.var 20) [.notIn] [.list [.var 7,.var 14]]]),
 .ite (.bool false [.cmp (.var 7) [.notIn] [.var 17],.cmp (.var 14) [.notIn] [.var 17],.cmp (.bi .len [.var 8]) [.gt] [.lit (.int 1)],.cmp (.comp (.var 20) true [20] (.var 17) [.cmp (.bmeth (.var 17) .count [.var 20]) [.gt] [.lit (.int 1)]]) [.ne] [.list []]]) [
  .ret (.lit (.bool false))] [],
 .ret (.cmp (.call 61 [.var 1,.var 11,.var 3,.var 16]) [.in_] [.comp (.call 62 [.var 16,.var 20]) true [20] (.var 17) []])]
noncomputable def irNames:List (Nat×String×String):=[(0,"PlaceRow","__init__"),(1,"PlaceRow","key"),(2,"PlaceRow","put"),(3,"PlaceRow","newest"),(4,"Matcher","__init__"),(5,"Matcher","put"),(6,"Matcher","put_all"),(7,"Matcher","limit"),(8,"Matcher","length"),(9,"Matcher","alike"),(10,"Matcher","is_near"),(11,"Matcher","repeat"),(12,"Matcher","best"),(13,"Finder","__init__"),(14,"Finder","enter"),(15,"Finder","candidates"),(16,"Finder","every"),(17,"","check_range"),(18,"","step_size"),(19,"Trail","__init__"),(20,"Trail","up_to"),(21,"Trail","every"),(22,"","literals"),(23,"Ways","__init__"),(24,"Ways","offer"),(25,"Ways","told"),(26,"","least"),(27,"","code_in"),(28,"","ml_code"),(29,"","of_code"),(30,"Offsets","__init__"),(31,"Offsets","row"),(32,"Offsets","copy"),(33,"Offsets","told_by"),(34,"Offsets","move"),(35,"Offsets","distance"),(36,"Offsets","value"),(37,"","sixteenths"),(38,"","counted"),(39,"","prices_of"),(40,"BlockPrice","__init__"),(41,"BlockPrice","literal"),(42,"BlockPrice","match"),(43,"","first_price"),(44,"","learnt_price"),(45,"","worth"),(46,"","choice_at"),(47,"","by_repeats"),(48,"","one_parse"),(49,"","parses"),(50,"","_law_box"),(51,"","_law_take"),(52,"","_law_text"),(53,"","_law_log"),(54,"","_law_counted"),(55,"","_law_costs"),(56,"","_law_code"),(57,"","_law_prices"),(58,"","_law_price"),(59,"","_law_alike"),(60,"","_law_records"),(61,"","_law_least"),(62,"","_law_cost"),(63,"","_law_plays"),(64,"","_law_meant"),(65,"","_law_value"),(66,"","_law_worth"),(67,"","_law_by_repeats"),(68,"","_law_logs_right"),(69,"","_law_same_prices"),(70,"","law")]
noncomputable def irOf (k:Nat):List S:=List.getD [ir0,ir1,ir2,ir3,ir4,ir5,ir6,ir7,ir8,ir9,ir10,ir11,ir12,ir13,ir14,ir15,ir16,ir17,ir18,ir19,ir20,ir21,ir22,ir23,ir24,ir25,ir26,ir27,ir28,ir29,ir30,ir31,ir32,ir33,ir34,ir35,ir36,ir37,ir38,ir39,ir40,ir41,ir42,ir43,ir44,ir45,ir46,ir47,ir48,ir49,ir50,ir51,ir52,ir53,ir54,ir55,ir56,ir57,ir58,ir59,ir60,ir61,ir62,ir63,ir64,ir65,ir66,ir67,ir68,ir69,ir70] k []
noncomputable def nmOf (k:Nat):List (Option Str):=List.getD [nm0,nm1,nm2,nm3,nm4,nm5,nm6,nm7,nm8,nm9,nm10,nm11,nm12,nm13,nm14,nm15,nm16,nm17,nm18,nm19,nm20,nm21,nm22,nm23,nm24,nm25,nm26,nm27,nm28,nm29,nm30,nm31,nm32,nm33,nm34,nm35,nm36,nm37,nm38,nm39,nm40,nm41,nm42,nm43,nm44,nm45,nm46,nm47,nm48,nm49,nm50,nm51,nm52,nm53,nm54,nm55,nm56,nm57,nm58,nm59,nm60,nm61,nm62,nm63,nm64,nm65,nm66,nm67,nm68,nm69,nm70] k []
noncomputable def parOf (k:Nat):List Str:=List.getD [par0,par1,par2,par3,par4,par5,par6,par7,par8,par9,par10,par11,par12,par13,par14,par15,par16,par17,par18,par19,par20,par21,par22,par23,par24,par25,par26,par27,par28,par29,par30,par31,par32,par33,par34,par35,par36,par37,par38,par39,par40,par41,par42,par43,par44,par45,par46,par47,par48,par49,par50,par51,par52,par53,par54,par55,par56,par57,par58,par59,par60,par61,par62,par63,par64,par65,par66,par67,par68,par69,par70] k []
set_option maxRecDepth 4000
noncomputable def FnAt (C:Cx) (f:Nat) (dvs:List V):Prop:=∃ (o:Obj) (fd:FuncData) (stmts:List Stmt) (names:List (Str×NameKind)),
 C.h0.get? (C.fn f)=some o∧o.data=.func fd∧fd.body=.stmts stmts∧C.h0.CodeRec fd.code fd.qualname∧fd.closure=[]∧fd.globals=mainGlobals∧fd.builtins=builtinsNs ∧
 fd.scope.names=names∧fd.scope.kind=.function∧fd.scope.isCoroutine=false∧fd.scope.isGenerator=false∧mSs ⟨nmOf f,names⟩ (irOf f) stmts=true∧scFn ⟨nmOf f,names⟩ (parOf f)=true ∧
 ∀ (s:Shared) (vals:List Value),C.K.In s.heap→vals.length+dvs.length=(parOf f).length→∃ ds,BindsTo s fd ⟨vals,[]⟩ ((parOf f).zip (vals++ds))∧∀ st,WR C st s.heap→VRs st s.heap dvs ds
structure Fns (C:Cx):Prop where
 ok:CxOk C
 fn:∀ f<71,FnAt C f []
 fn26:FnAt C 26 [.none]
theorem callD {C:Cx} {f k:Nat} {dvs vs:List V} {st:St} {P:V→St→Prop} (X0:CxOk C) (F:FnAt C f dvs) (hl:(parOf f).length=vs.length+dvs.length)
  (p:wpSs (CallF C k) (irOf f) (initLs (nmOf f).length (vs++dvs)) st (RetP P)):CallF C (k+1) f vs st P:=by
 refine ex4 F fun o fd stmts names zq0=>?_;have h1:=zq0.1;have h2:=zq0.2.1;have h3:=zq0.2.2.1;have h4:=zq0.2.2.2.1;have h5:=zq0.2.2.2.2.1;have h6:=zq0.2.2.2.2.2.1;have h7:=zq0.2.2.2.2.2.2.1;have h8:=zq0.2.2.2.2.2.2.2.1;have h9:=zq0.2.2.2.2.2.2.2.2.1;have h10:=zq0.2.2.2.2.2.2.2.2.2.1;have h11:=zq0.2.2.2.2.2.2.2.2.2.2.1;have h12:=zq0.2.2.2.2.2.2.2.2.2.2.2.1;have h13:=zq0.2.2.2.2.2.2.2.2.2.2.2.2.1;have h14:=zq0.2.2.2.2.2.2.2.2.2.2.2.2.2;clear zq0 F
 exact entry (sc:=⟨nmOf f,names⟩) X0 h1 h2 h3 h4 h5 h6 h7 h8 h9 h10 h11 h12 h13 (fun s vals hk hv=>h14 s vals hk (by exact oz76 hl hv)) hl p
theorem call0 {C:Cx} (F:Fns C) (f:Nat) {k:Nat} {vs:List V} {st:St} {P:V→St→Prop} (hf:f<71) (hl:(parOf f).length=vs.length)
  (p:wpSs (CallF C k) (irOf f) (initLs (nmOf f).length vs) st (RetP P)):CallF C (k+1) f vs st P :=
 callD F.ok (F.fn f hf) (by simpa using hl) (by simpa using p)
noncomputable def fnL:List Addr:=[73,80,87,94,115,122,136,143,150,157,164,171,185,207,214,221,228,240,247,261,268,280,293,349,356,363,378,555,562,569,584,591,598,605,612,619,626,640,647,652,666,673,680,694,699,706,713,720,727,734,741,748,755,762,769,774,779,784,791,798,805,812,817,824,829,836,841,848,853,860,865,300,315,335]
noncomputable def clL:List Addr:=[97,231,283,366,629,683]
noncomputable def fnA (f:Nat):Addr:=fnL.getD f 0
noncomputable def clA (c:Nat):Addr:=clL.getD c 0
noncomputable def fragL:List Addr:=[97,231,283,366,629,683,188,544,2,96,230,282,365,628,682,187,543,200,288,371,577,481]++fnL
noncomputable def frag (h:Heap):Frag:=fragL.filterMap fun a=>(h.get? a).map fun o=>(a,o)
noncomputable def glb (h:Heap) (x:Str) (v:Value):Bool:=h.nsMap mainGlobals x==some v
noncomputable def clsOk1 (K:Frag) (h:Heap) (c:Nat):Bool:=findIn K (.ref (clA c)) "__getattribute__"==some (some (.builtin "object.__getattribute__"))&&findIn K (.ref (clA c)) "__getattr__"==some none&&hasDictIn K (clA c) &&
 findIn K (.ref (clA c)) "__setattr__"==some (some (.builtin "object.__setattr__"))&&plainOver K (clA c)&&(flds c).all (fun f=>findIn K (.ref (clA c)) (fname f)==some none)&&makesIn K (clA c) &&
 glb h (clsName c) (.ref (clA c))&&keepIn K (.ref (clA c))
noncomputable def methOk1 (K:Frag) (c m f:Nat):Bool:=findIn K (.ref (clA c)) (mname m)==some (some (.ref (fnA f)))
noncomputable def fnOk1 (K:Frag) (f:Nat):Bool:=typeIn K (.ref (fnA f))==some (.type "function")&&keepIn K (.ref (fnA f))
noncomputable def dotOk (K:Frag) (C:Addr) (x:Str) (v:Value):Bool:=readsIn K C (.type "type")&&specialIn K (.ref C) "__getattribute__"==some (some (.builtin "type.__getattribute__"))&&(match findCls K (.ref C) (.type "type") x with | some (.val u)=>u==v | _=>false)&&handedIn v
noncomputable def allBis:List Bi:=[.len,.min_,.max_,.abs,.int_,.sum,.sorted,.bytes,.list,.tuple,.dict,.range]
noncomputable def onRef (v:Value) (p:Addr→Bool):Bool:=match v with | .ref a=>p a | _=>false
noncomputable def onIntB (v:Value) (p:Int→Bool):Bool:=match v with | .int i _=>p i | _=>false
noncomputable def onStrB (v:Value) (p:Str→Bool):Bool:=match v with | .str x _=>p x | _=>false
noncomputable def onSeq (d:Data) (p:Array Value→Bool):Bool:=match d with | .seq vs _=>p vs | _=>false
noncomputable def onFld (d:Data) (p:Array Value→Bool):Bool:=match d with | .fields vs=>p vs | _=>false
noncomputable def onFun (d:Data) (p:FuncData→Bool):Bool:=match d with | .func f=>p f | _=>false
noncomputable def onBody (d:FuncBody) (p:List Stmt→Bool):Bool:=match d with | .stmts ss=>p ss | _=>false
theorem onRef_k {v:Value} {p:Addr→Bool} (e:onRef v p=true):∃ a,v=.ref a∧p a=true:=by
 cases v with
 | ref a=>exact ⟨a,rfl,e⟩
 | _=>cases e
theorem onIntB_k {v:Value} {p:Int→Bool} (e:onIntB v p=true):∃ a t,v=.int a t∧p a=true:=by
 cases v with
 | int a t=>exact ⟨a,t,rfl,e⟩
 | _=>cases e
theorem onStrB_k {v:Value} {p:Str→Bool} (e:onStrB v p=true):∃ a t,v=.str a t∧p a=true:=by
 cases v with
 | str a t=>exact ⟨a,t,rfl,e⟩
 | _=>cases e
theorem onSeq_k {v:Data} {p:Array Value→Bool} (e:onSeq v p=true):∃ a n,v=.seq a n∧p a=true:=by
 cases v with
 | seq a t=>exact ⟨a,t,rfl,e⟩
 | _=>cases e
theorem onFld_k {v:Data} {p:Array Value→Bool} (e:onFld v p=true):∃ a,v=.fields a∧p a=true:=by
 cases v with
 | fields a=>exact ⟨a,rfl,e⟩
 | _=>cases e
theorem onFun_k {v:Data} {p:FuncData→Bool} (e:onFun v p=true):∃ a,v=.func a∧p a=true:=by
 cases v with
 | func a=>exact ⟨a,rfl,e⟩
 | _=>cases e
theorem onBody_k {v:FuncBody} {p:List Stmt→Bool} (e:onBody v p=true):∃ a,v=.stmts a∧p a=true:=by
 cases v with
 | stmts a=>exact ⟨a,rfl,e⟩
 | _=>cases e
theorem any_k {α:Type} {v:Option α} {p:α→Bool} (e:v.any p=true):∃ a,v=some a∧p a=true:=by
 cases v with
 | none=>cases e
 | some a=>exact ⟨a,rfl,e⟩
noncomputable def codeOk (h:Heap) (fd:FuncData):Bool:=onRef fd.code fun c=>(h.get? c).any fun o=>onFld o.data fun vs=>(vs[1]?:Option Value).any fun v=>onStrB v fun q=>q==fd.qualname
noncomputable def plainArgs (a:Arguments):Bool:=a.posonlyargs.isEmpty&&a.vararg.isNone&&a.kwonlyargs.isEmpty&&a.kwarg.isNone
noncomputable def dfl:Nat→Option (Addr×List Value)
 | 13=>some (200,[.int 3 0,.int 32768 0,.int 32 0])
 | 22=>some (288,[.int 0 0])
 | 26=>some (371,[.none])
 | 30=>some (577,[.int 1 0,.int 4 0,.int 8 0])
 | _=>none
noncomputable def dflT (h:Heap) (f:Nat) (v:Value):Option (Addr×List Value)→Bool
 | none=>v==.none
 | some p=>v==.ref p.1&&(h.get? p.1).any fun o=>onSeq o.data fun vs=>vs.toList.length==p.2.length&&(f != 26 || vs.toList==p.2)
noncomputable def dflOk (h:Heap) (f:Nat) (v:Value):Bool:=dflT h f v (dfl f)
noncomputable def fdOk (h:Heap) (f:Nat):Bool:=(h.get? (fnA f)).any fun o=>onFun o.data fun fd=>onBody fd.body fun ss =>
  mSs ⟨nmOf f,fd.scope.names⟩ (irOf f) ss&&scFn ⟨nmOf f,fd.scope.names⟩ (parOf f)&&codeOk h fd&&fd.closure.isEmpty&&fd.globals==mainGlobals&&fd.builtins==builtinsNs&&fd.scope.kind==.function&&!fd.scope.isCoroutine&&!fd.scope.isGenerator &&
   plainArgs fd.params&&fd.params.args.map (·.arg)==parOf f&&dflOk h f fd.defaults
noncomputable def tupOk (h:Heap) (v:Value) (p:Int×Int):Bool:=onRef v fun a=>(h.get? a).any fun o=>o.cls==.type "tuple"&&onSeq o.data fun vs=>vs.toList.length==2&&onIntB (vs.toList.getD 0 .none) (fun i=>i==p.1)&&onIntB (vs.toList.getD 1 .none) fun i=>i==p.2
noncomputable def tupsOk (h:Heap):List Value→List (Int×Int)→Bool
 | [],[]=>true
 | v::vs,p::ps=>tupOk h v p&&tupsOk h vs ps
 | _,_=>false
noncomputable def rowsOk (h:Heap):Bool:=(h.get? 481).any fun o=>o.cls==.type "list"&&onSeq o.data fun vs=>tupsOk h vs.toList rowsM
noncomputable def constOk (h:Heap) (p:Str×Int):Bool:=(h.nsMap mainGlobals p.1).any fun v=>onIntB v fun j=>j==p.2
noncomputable def heapOk1 (h:Heap):Bool:=h.isNs mainGlobals&&(h.get? sysModules).isSome&&(List.range 6).all (clsOk1 (frag h) h)&&mtL.zipIdx.all (fun p=>p.1.all fun q=>methOk1 (frag h) p.2 q.1 q.2)&&(List.range 74).all (fnOk1 (frag h)) &&
 consts.all (constOk h)&&(List.range 74).all (fun f=>match funNames.lookup f with | some x=>glb h (Str.ofString x) (.ref (fnA f)) | none=>true)&&allBis.all (fun b=>h.nsMap mainGlobals (Str.ofString (biName b))==none) &&
 glb h "Matcher" (.ref 188)&&dotOk (frag h) 188 "__init__" (.ref (fnA 4))&&glb h "Rows" (.ref 544)&&dotOk (frag h) 544 "MATCHES" (.ref 481)&&rowsOk h
noncomputable def heapOk (h:Heap):Bool:=heapOk1 h&&(List.range 36).all (fdOk h)&&(List.range' 36 35).all (fdOk h)
theorem heapOk_1 {h:Heap} (k:heapOk h=true):heapOk1 h=true:=by
 unfold heapOk at k
 rw [Bool.and_eq_true,Bool.and_eq_true] at k
 exact k.1.1
theorem heapOk_2 {h:Heap} (k:heapOk h=true) (f:Nat) (hf:f<71):fdOk h f=true:=by
 unfold heapOk at k
 rw [Bool.and_eq_true,Bool.and_eq_true] at k
 by_cases g:f<36
 ·exact List.all_eq_true.mp k.1.2 f (List.mem_range.mpr g)
 ·exact List.all_eq_true.mp k.2 f (List.mem_range'_1.mpr ⟨Nat.le_of_not_lt g,hf⟩)
end Mine.Internal
open PySem PySem.W PyProof.Rows PySem.Calls
set_option Elab.async false
set_option maxRecDepth 100000
namespace Mine.Internal.Hd
noncomputable def H1 (P:Params):Heap:=⟨(hp P 3).toArray,{}⟩
noncomputable def qv:Program:={ P0 with main:={ P0.main with body:=(P0.main.body.drop 67) } }
noncomputable def loose:List Str:=(mainE.take 69).map fun e=>Str.ofString e.1
theorem abs3 (w:World) (os:OsState):(S 3 w os).abs=⟨H1 w.params,#[],{},1793,os⟩:=by kernel_rfl
theorem lk1 (w:World) (os:OsState):(staticsOk (importedModules P0.main.body) (boot_heap w.params) (H1 w.params)&&namesBound P0 (H1 w.params)&&gensDone ⟨H1 w.params,#[],{},1793,os⟩&&laidKept (boot_heap w.params) (H1 w.params))=true:=by kernel_rfl
theorem lk3a (w:World):heapOk1 (H1 w.params)=true:=by kernel_rfl
theorem lk3b (w:World):(List.range 36).all (fdOk (H1 w.params))=true:=by kernel_rfl
theorem lk3c (w:World):(List.range' 36 35).all (fdOk (H1 w.params))=true:=by kernel_rfl
theorem lk3 (w:World):heapOk (H1 w.params)=true:=(Bool.and_eq_true _ _).mpr ⟨(Bool.and_eq_true _ _).mpr ⟨lk3a w,lk3b w⟩,lk3c w⟩
end Mine.Internal.Hd
open PySem PySem.W PyProof.Rows PySem.Calls
set_option Elab.async false
set_option maxRecDepth 100000
namespace Mine.Internal.Hd
theorem lk2 (w:World) (os:OsState):openSeen qv loose (importedModules P0.main.body) (fun _=>true) true ⟨H1 w.params,#[],{},1793,os⟩=openGood qv loose:=by kernel_rfl
end Mine.Internal.Hd
open PySem PySem.W PyProof.Rows PySem.Calls
set_option Elab.async false
set_option maxRecDepth 100000
namespace Mine.Internal.Hd
theorem seg1 (w:World) (os:OsState):Seg PySem.W.Fast.tw10110043849684766642 PySem.W.Fast.tw14364793385576792824 1 7004 w os :=
 byRow2 "special-get-raises" (P:=fun w=>Seg PySem.W.Fast.tw10110043849684766642 PySem.W.Fast.tw14364793385576792824 1 7004 w os) (fun w=>seg1f w os) (fun w=>seg1t w os) w
theorem seg_abs {k n:Nat} {w:World} {os:OsState} (h:Seg PySem.W.Fast.tw10110043849684766642 PySem.W.Fast.tw14364793385576792824 k n w os) :
  segRun treeTable P0 w 11 (some (.ref 6)) 1 n (S k w os).abs (piecesOf (stm k) env0 cd0 (po k) [topFrame (ps 0 0 0 0)])=some (.next,(S (k+1) w os).abs,cd0,po (k+1)):=by
 rw [← PySem.W.Fast.te10110043849684766642,← PySem.W.Fast.te14364793385576792824] at h
 exact segRun_of h
theorem fin_ok (s:Shared):topRun treeTable P0 w 11 (some (.ref 6)) 2 s ⟨doneF .next,cd0,po 3,[topFrame (ps 0 0 0 0)]⟩=some s:=by
 obtain ⟨h,g,d,t,o⟩:=s
 rfl
theorem pre_ok (w:World) (os:OsState):topGo treeTable P0 w 11 (some (.ref 6)) 12 ⟨boot_heap w.params,Array.mk [],boot_drawn,boot_toks,os⟩ (topStub P0)=some ((S 0 w os).abs,⟨denote treeTable cd0,cd0,po 0,[topFrame (ps 0 0 0 0)]⟩):=by
 kernel_rfl
theorem blk_ok (w:World) (os:OsState):segRun treeTable P0 w 11 (some (.ref 6)) 1 1 (S 0 w os).abs (blockOf (behindTheImports P0) env0 cd0 (po 0) [topFrame (ps 0 0 0 0)])=some (.next,(S 0 w os).abs,cd0,po 0):=by
 kernel_rfl
theorem run_ok (w:World) (os:OsState):topRun treeTable P0 w 11 (some (.ref 6)) (12+(1+(2997+(7004+(1831+2))))) ⟨boot_heap w.params,Array.mk [],boot_drawn,boot_toks,os⟩ (topStub P0)=some ⟨H1 w.params,#[],{},1793,os⟩:=by
 rw [← abs3]
 refine go_top (pre_ok w os) (piece_block (blk_ok w os) ?_)
 have e:behindTheImports P0=stm 0++(stm 1++(stm 2++[])):=by
  rw [List.append_nil];exact ((congrArg (stm 0++·) (List.take_append_drop 1 _)).trans (List.take_append_drop 28 _)).symm
 have k:topRun treeTable P0 w 11 (some (.ref 6)) (2997+(7004+(1831+2))) (S 0 w os).abs (restOf (stm 0++(stm 1++(stm 2++[]))) env0 cd0 (po 0) [topFrame (ps 0 0 0 0)])=some (S 3 w os).abs :=
  piece_app (seg_abs (seg0 w os)) (piece_app (seg_abs (seg1 w os)) (piece_app (seg_abs (seg2 w os)) (fin_ok _)))
 rw [← e] at k
 exact k
theorem left:LeftO P0 qv loose (fun _=>true) (fun s=>heapOk s.heap) (fun _=>true) 23784 true :=
 LeftO.of_pieces (H₀:=boot_heap) (H₁:=H1) (gs₀:=Array.mk []) (gs₁:=#[]) (d₀:=boot_drawn) (d₁:={}) (k₀:=boot_toks) (k₁:=1793) (m₀:=11) (ann:=some (.ref 6)) (M:=12+(1+(2997+(7004+(1831+2)))))
  (boot_open (by kernel_rfl) (by rfl) (fun s=>by kernel_rfl)) (fun w=>by kernel_rfl) run_ok (by rfl)
  (fun w=>funext fun os=>Prod.ext (lk1 w os) (Prod.ext (lk2 w os) (lk3 w)))
end Mine.Internal.Hd
open PySem PySem.W PyProof.Rows PySem.Calls
set_option Elab.async false
set_option maxRecDepth 4000
set_option linter.unusedVariables false
namespace Mine.Internal
noncomputable def Ext (st st':St):Prop:=∀ x o,st x=some o→st' x=some o
theorem Ext.refl (st:St):Ext st st:=fun _ _ h=>h
theorem Ext.trans {a b c:St} (x:Ext a b) (y:Ext b c):Ext a c:=fun _ _ h=>y _ _ (x _ _ h)
theorem Ext.new {st:St} {a:Addr} (o:O) (h:st a=none):Ext st (st.set a o):=fun x y e=>by
 rw [St.set_other];exact e
 rintro rfl;rw [h] at e;cases e
structure Upd (a:Addr) (o:O) (st st':St):Prop where
 at_:st' a=some o
 ne:∀ x y,x≠a→st x=some y→st' x=some y
theorem Upd.of (st:St) (a:Addr) (o:O):Upd a o st (st.set a o):=⟨St.set_same st a o,fun x y h e=>by rw [St.set_other st o h];exact e⟩
noncomputable def Fra (D:List Addr) (st st':St):Prop:=∀ x o,x∉D→st x=some o→st' x=some o
theorem Fra.refl (D:List Addr) (st:St):Fra D st st:=fun _ _ _ h=>h
theorem Fra.trans {D:List Addr} {a b c:St} (x:Fra D a b) (y:Fra D b c):Fra D a c:=fun _ _ n h=>y _ _ n (x _ _ n h)
theorem Ext.fra {D:List Addr} {a b:St} (x:Ext a b):Fra D a b:=fun _ _ _ h=>x _ _ h
theorem Upd.fra {a:Addr} {o:O} {D:List Addr} {s s':St} (u:Upd a o s s') (h:a∈D):Fra D s s':=fun x _ n e=>u.ne x _ (fun q=>n (q▸h)) e
theorem ne_of {st:St} {a b:Addr} {o o':O} (h:st a=some o) (h':st b=some o') (n:o≠o'):a≠b:=by
 rintro rfl;rw [h] at h';exact n (Option.some.inj h')
section
variable {C:Cx} {st:St} {Φ:CallSem} {P:V→St→Prop}
theorem new_s {o:O} (h:∀ a st',st a=none→Ext st st'→st' a=some o→P (.ref a) st'):newW o st P :=
 fun a ha=>h a _ ha (.new o ha) (St.set_same st a o)
theorem attr_s {a:Addr} {c f:Nat} {fs:List (Nat×V)} {v:V} (h:st a=some (.inst c fs)) (h1:fget f fs=some v) (h2:(flds c).contains f=true) (p:P v st):attrR a f st P:=by
 unfold attrR;rw [h];exact ⟨h2,v,h1,p⟩
theorem setAttr_s {a:Addr} {c f:Nat} {v:V} {fs:List (Nat×V)} {R:St→Prop} (h:st a=some (.inst c fs)) (h2:(flds c).contains f=true) (h3:Nat.blt fs.length 90=true)
  (p:∀ st',Upd a (.inst c (fset f v fs)) st st'→R st'):setAttrR a f v st R:=by
 unfold setAttrR;rw [h];exact ⟨h2,Nat.le_of_ble_eq_true h3,p _ (.of ..)⟩
theorem meth_s {a:Addr} {c m f:Nat} {fs:List (Nat×V)} {K:Nat→Prop} (h:st a=some (.inst c fs)) (h1:mt c m=some f) (p:K f):methR a m st K:=by
 unfold methR;rw [h];dsimp only;rw [h1];exact p
theorem idxL_s {a:Addr} {l:List V} {i:Int} {x:V} (h:st a=some (.list l)) (h1:nth l i=some x) (p:P x st):idxR a i st P:=by
 unfold idxR;rw [h];exact ⟨x,h1,p⟩
theorem idxD_s {a:Addr} {es:List (Int×V)} {n:Nat} {i:Int} {x:V} (h:st a=some (.dict es n)) (h1:dget i es=some x) (p:P x st):idxR a i st P:=by
 unfold idxR;rw [h];exact ⟨x,h1,p⟩
theorem setL_s {a:Addr} {l:List V} {i:Int} {v:V} {R:St→Prop} (h:st a=some (.list l)) (h0:0≤i) (h1:i.toNat<l.length) (p:∀ st',Upd a (.list (l.set i.toNat v)) st st'→R st'):setItemR a i v st R:=by
 unfold setItemR;rw [h];exact ⟨h0,h1,p _ (.of ..)⟩
theorem setD_s {a:Addr} {es:List (Int×V)} {n:Nat} {i:Int} {v:V} {R:St→Prop} (h:st a=some (.dict es n)) (h1:es.length<1000000) (p:∀ st' n',Upd a (.dict (dset i v es) n') st st'→R st'):setItemR a i v st R:=by
 unfold setItemR;rw [h];exact ⟨h1,fun n'=>p _ n' (.of ..)⟩
theorem append_s {a:Addr} {l:List V} {x:V} (h:st a=some (.list l)) (h1:l.length<1000000) (p:∀ st',Upd a (.list (l++[x])) st st'→P .none st'):appendR a x st P:=by
 unfold appendR;rw [h];exact ⟨h1,p _ (.of ..)⟩
theorem get_s {a:Addr} {es:List (Int×V)} {n:Nat} {i:Int} {d:V} (h:st a=some (.dict es n)) (p:P ((dget i es).getD d) st):getR a i d st P:=by
 unfold getR;rw [h];exact p
theorem isLs_s {a:Addr} {l:List V} {Q:Prop} (h:st a=some (.list l)) (p:Q):isLs a st∧Q:=⟨by unfold isLs;rw [h];trivial,p⟩
theorem isDc_s {a:Addr} {es:List (Int×V)} {n:Nat} {Q:Prop} (h:st a=some (.dict es n)) (p:Q):isDc a st∧Q:=⟨by unfold isDc;rw [h];trivial,p⟩
theorem lenL_s {a:Addr} {l:List V} (h:st a=some (.list l)) (p:P (.int l.length) st):lenR a st P:=by
 unfold lenR;rw [h];exact p
theorem lenD_s {a:Addr} {es:List (Int×V)} {n:Nat} (h:st a=some (.dict es n)) (p:P (.int es.length) st):lenR a st P:=by
 unfold lenR;rw [h];exact p
theorem slcB_s {l m:List Nat} {lo hi:V} (h:cut l lo hi=some m) (p:P (.bytes m) st):slcW (.bytes l) lo hi .none st P:=by
 unfold slcW;exact ⟨m,h,p⟩
theorem slcL_s {a:Addr} {l m:List V} {lo hi:V} (h:st a=some (.list l)) (h1:cut l lo hi=some m) (p:∀ a st',st a=none→Ext st st'→st' a=some (.list m)→P (.ref a) st'):slcW (.ref a) lo hi .none st P:=by
 unfold slcW;exact ⟨l,m,by show (match st a with | some (.list l)=>some l | _=>none)=_;rw [h],fun _ e=>V.noConfusion e,h1,new_s p⟩
theorem clip_nn (n a:Nat):clipAt n (a:Int)=min a n:=by
 unfold clipAt;rw [if_neg (by exact oz77)];exact oz78
theorem cut_nn {α:Type} (l:List α) {a b:Nat} (h:b≤l.length):cut l (.int a) (.int b)=some ((l.drop a).take (b-a)):=by
 show some (cutL l (some a) (some b))=_
 unfold cutL
 show some ((l.drop (clipAt l.length a)).take (clipAt l.length b-clipAt l.length a))=_
 rw [clip_nn,clip_nn,Nat.min_eq_left h]
 by_cases ha:a≤l.length
 ·rw [Nat.min_eq_left ha]
 ·rw [Nat.min_eq_right (by exact oz79 ha),List.drop_length,List.drop_eq_nil_of_le (by exact oz79 ha),List.take_nil,List.take_nil]
theorem cut_from {α:Type} (l:List α) (a:Nat):cut l (.int a) .none=some (l.drop a):=by
 show some (cutL l (some a) none)=_
 unfold cutL
 show some ((l.drop (clipAt l.length a)).take (l.length-clipAt l.length a))=_
 rw [clip_nn,List.take_of_length_le (by rw [List.length_drop];exact Nat.le_refl _)]
 by_cases ha:a≤l.length
 ·rw [Nat.min_eq_left ha]
 ·rw [Nat.min_eq_right (by exact oz79 ha),List.drop_length,List.drop_eq_nil_of_le (by exact oz79 ha)]
theorem cut_to {α:Type} (l:List α) (b:Nat):cut l .none (.int b)=some (l.take b):=by
 show some (cutL l none (some b))=_
 unfold cutL
 show some ((l.drop 0).take (clipAt l.length b-0))=_
 rw [clip_nn,List.drop_zero,Nat.sub_zero]
 by_cases hb:b≤l.length
 ·rw [Nat.min_eq_left hb]
 ·rw [Nat.min_eq_right (by exact oz79 hb),List.take_length,List.take_of_length_le (by exact oz79 hb)]
theorem sum_s {a:Addr} {ns:List Int} (h:st a=some (.list (ns.map .int))) (p:P (.int ns.sum) st):sumR a st P:=by
 unfold sumR;rw [h]
 have:∀ ns:List Int,intsOf (ns.map .int)=some ns:=fun ns=>by
  induction ns with
  | nil=>rfl
  | cons x r ih=>rw [List.map_cons];unfold intsOf;rw [ih];rfl
 exact ⟨ns,this ns,p⟩
theorem mul_s {a:Addr} {x:V} {j:Int} (h:st a=some (.list [x])) (h0:0≤j) (h1:j≤1000000) (p:∀ a st',st a=none→Ext st st'→st' a=some (.list (List.replicate j.toNat x))→P (.ref a) st'):mulR a j st P:=by
 unfold mulR;rw [h];exact ⟨x,rfl,h0,h1,new_s p⟩
theorem add_s {a b:Addr} {l m:List V} (h:st a=some (.list l)) (h':st b=some (.list m)) (h1:l.length+m.length≤1000000) (p:∀ a st',st a=none→Ext st st'→st' a=some (.list (l++m))→P (.ref a) st'):addR a b st P:=by
 unfold addR;rw [h];dsimp only;rw [h'];exact ⟨h1,new_s p⟩
theorem inD_s {a:Addr} {es:List (Int×V)} {n:Nat} {i:Int} {Q:Bool→Prop} (h:st a=some (.dict es n)) (p:Q (dhas i es)):inR (.int i) a st Q:=by
 unfold inR;rw [h];exact p
theorem dI {p:Prop} [Decidable p]:decide p=true↔p:=decide_eq_true_iff
theorem eI {i j:Int}:(i==j)=true↔i=j:=beq_iff_eq
theorem nI {b:Bool} {p:Prop} (h:b=true↔p):(!b)=true↔¬ p:=by rw [← h];cases b <;> simp
theorem and_s {b:Bool} {p α β:Prop} (hb:b=true↔p) (h1:p→α) (h2:¬ p→β):if (b==true)=true then α else β:=by
 cases b
 ·exact h2 fun h=>Bool.noConfusion (hb.mpr h)
 ·exact h1 (hb.mp rfl)
theorem or_s {b:Bool} {p α β:Prop} (hb:b=true↔p) (h1:p→β) (h2:¬ p→α):if (b==false)=true then α else β:=by
 cases b
 ·exact h2 fun h=>Bool.noConfusion (hb.mpr h)
 ·exact h1 (hb.mp rfl)
theorem ite_s {b:Bool} {p α β:Prop} (hb:b=true↔p) (h1:p→α) (h2:¬ p→β):if b=true then α else β:=by
 cases b
 ·exact h2 fun h=>Bool.noConfusion (hb.mpr h)
 ·exact h1 (hb.mp rfl)
theorem tt_s {α β:Prop} (p:α):if true=true then α else β:=p
theorem make_s {c f:Nat} {vs:List V} (hm:mt c 0=some f) (p:∀ a d st',a≠d→st a=none→Ext st st'→st' a=some (.inst c [])→Φ f (.ref a::vs) st' fun r st2=>r=.none∧P (.ref a) st2):makeW Φ c vs st P:=by
 unfold makeW
 exact ⟨f,hm,fun a d h1 h2 h3=>p a d _ h1 h2 (Ext.trans (.new _ h3) (.new _ (by rw [St.set_other st _ h1];exact h2))) (St.set_same ..)⟩
theorem exMin {p:Nat→Prop}:∀ n,p n→∃ m,p m∧∀ k,p k→m≤k
 | 0,h=>⟨0,h,fun k _=>Nat.zero_le k⟩
 | n+1,h=>by
  by_cases q:∃ k,k≤n∧p k
  ·refine ex1 q fun k zq0=>?_;have hk:=zq0.1;have pk:=zq0.2;clear zq0 q
   have:∀ j,j≤n→p j→∃ m,p m∧∀ k,p k→m≤k:=by
    intro j
    induction j using Nat.strongRecOn with
    | ind j ih =>
     intro hj pj
     by_cases r:∃ i,i<j∧p i
     ·obtain ⟨i,hi,pi⟩:=r;exact ih i hi (by exact oz80 hi hj) pi
     ·exact ⟨j,pj,fun k pk=>Nat.le_of_not_lt fun hl=>r ⟨k,hl,pk⟩⟩
   exact this k hk pk
  ·exact ⟨n+1,h,fun k pk=>Nat.le_of_not_lt fun hl=>q ⟨k,by exact oz34 hl,pk⟩⟩
theorem while_s {test:Ls→St→(Bool→St→Prop)→Prop} {body:Ls→St→(Fl→Ls→St→Prop)→Prop} {ls:Ls} {R:Fl→Ls→St→Prop} {σ:Type} (f:σ→Ls) (J:σ→St→Prop) (μ:σ→Nat) (x0:σ) (h0:ls=f x0) (hJ:J x0 st)
  (h:∀ x st (N:Ls→St→Prop),J x st→(∀ y st',J y st'→μ y<μ x→N (f y) st')→test (f x) st (kWh (body (f x)) (f x) N R)):whileW test body ls st R:=by
 unfold whileW
 classical
 let p:Ls→St→Nat→Prop:=fun ls st n=>∃ x,(ls=f x∧J x st)∧μ x=n
 let μ':Ls→St→Nat:=fun ls st=>if h:∃ n,p ls st n then Classical.choose (exMin h.choose h.choose_spec) else 0
 have sp:∀ ls st n,p ls st n→p ls st (μ' ls st)∧μ' ls st≤n:=fun ls st n hn=>by
  have h:∃ n,p ls st n:=⟨n,hn⟩
  have e:μ' ls st=Classical.choose (exMin h.choose h.choose_spec):=dif_pos h
  have:=Classical.choose_spec (exMin h.choose h.choose_spec)
  rw [e]
  exact ⟨this.1,this.2 n hn⟩
 refine ⟨fun ls st=>∃ x,ls=f x∧J x st,μ',⟨x0,h0,hJ⟩,fun ls st ⟨x,hx⟩=>?_⟩
 have zq0:=sp ls st _ ⟨x,hx,rfl⟩;refine ex1 zq0.1 fun y zq1=>?_;have hy1:=zq1.1.1;have hy2:=zq1.1.2;have hy3:=zq1.2;clear zq1 zq0
 rw [← hy3]
 subst hy1
 exact h y st (fun ls' st'=>(∃ x,ls'=f x∧J x st')∧μ' ls' st'<μ y) hy2 fun z st' hz hl=>⟨⟨z,rfl,hz⟩,Nat.lt_of_le_of_lt (sp _ _ _ ⟨z,⟨rfl,hz⟩,rfl⟩).2 hl⟩
theorem drop_of_get {α:Type} {l:List α} {k:Nat} {x:α} (h:l[k]?=some x):l.drop k=x::l.drop (k+1):=by
 obtain ⟨h1,rfl⟩:=List.getElem?_eq_some_iff.mp h
 exact List.drop_eq_getElem_cons h1
theorem for_s {body:Ls→St→(Fl→Ls→St→Prop)→Prop} {one:Bool} {ns:List Nat} {v:V} {ls:Ls} {R:Fl→Ls→St→Prop} {α:Type} (enc:α→V) (l:List α) (chk:St→Prop) (J:List α→Ls→St→Prop)
  (hv:∀ K,K (l.map enc) chk→iterW v st K) (h0:J l ls st)
  (h:∀ x r ls st (N:Ls→St→Prop),J (x::r) ls st→(∀ ls' st',J r ls' st'→N ls' st')→chk st∧bindT one ns (enc x) ls (kFor body st (kLoop N R)))
  (he:∀ ls st,J [] ls st→chk st∧R .next ls st):forW body one ns v ls st R:=by
 unfold forW
 refine hv _ ⟨fun k=>J (l.drop k),by simpa using h0,fun k ls st x hx hJ=>?_,fun ls st hJ=>he ls st ?_⟩
 ·rw [List.getElem?_map] at hx
  refine ex1 (Option.map_eq_some_iff.mp hx) fun y zq0=>?_;have hy:=zq0.1;obtain rfl:=zq0.2;clear zq0
  rw [drop_of_get hy] at hJ
  exact h y _ ls st _ hJ fun ls' st' q=>q
 ·rw [List.length_map,List.drop_length] at hJ;exact hJ
theorem for_f {body:Ls→St→(Fl→Ls→St→Prop)→Prop} {one:Bool} {ns:List Nat} {v:V} {ls:Ls} {R:Fl→Ls→St→Prop} {α σ:Type} (f:σ→Ls) (enc:α→V) (l:List α) (chk:St→Prop) (J:List α→σ→St→Prop) (x0:σ)
  (hv:∀ K,K (l.map enc) chk→iterW v st K) (h0:ls=f x0) (hJ:J l x0 st)
  (h:∀ x r y st (N:Ls→St→Prop),J (x::r) y st→(∀ z st',J r z st'→N (f z) st')→chk st∧bindT one ns (enc x) (f y) (kFor body st (kLoop N R)))
  (he:∀ y st,J [] y st→chk st∧R .next (f y) st):forW body one ns v ls st R:=by
 refine for_s enc l chk (fun r ls st=>∃ y,ls=f y∧J r y st) hv ⟨x0,h0,hJ⟩ (fun x r ls st N hJ hN=>?_) fun ls st hJ=>?_
 ·obtain ⟨y,rfl,hJ⟩:=hJ
  exact h x r y st N hJ fun z st' hz=>hN _ _ ⟨z,rfl,hz⟩
 ·obtain ⟨y,rfl,hJ⟩:=hJ
  exact he y st hJ
theorem comp_s {elt:Ls→St→(V→St→Prop)→Prop} {test:Ls→St→(Bool→St→Prop)→Prop} {one:Bool} {ns:List Nat} {v:V} {ls:Ls} {α:Type} (enc:α→V) (l:List α) (chk:St→Prop)
  (hv:∀ K,K (l.map enc) chk→iterW v st K) (J:Addr→List α→List V→St→Prop) (h0:∀ a st',st a=none→Ext st st'→st' a=some (.list [])→J a l [] st')
  (h:∀ a x r acc st1 (Nt:V→St→Prop) (Nf:St→Prop),st a=none→J a (x::r) acc st1→st1 a=some (.list acc) →
   (∀ st2 y,st2 a=some (.list acc)→acc.length<1000000→(∀ st3,Upd a (.list (acc++[y])) st2 st3→J a r (acc++[y]) st3)→Nt y st2)→(∀ st2,st2 a=some (.list acc)→J a r acc st2→Nf st2)→chk st1∧bindT one ns (enc x) ls (kCo elt test st1 Nt Nf))
  (he:∀ a acc st1,st a=none→J a [] acc st1→st1 a=some (.list acc)→chk st1∧P (.ref a) st1):compW elt test one ns v ls st P:=by
 unfold compW
 refine hv _ fun a ha=>⟨fun k acc st1=>st1 a=some (.list acc)∧J a (l.drop k) acc st1,⟨St.set_same ..,by simpa using h0 a _ ha (.new _ ha) (St.set_same ..)⟩,fun k acc st1 x hx hJ=>?_,fun acc st1 hJ=>?_⟩
 ·rw [List.getElem?_map] at hx
  refine ex1 (Option.map_eq_some_iff.mp hx) fun y zq0=>?_;have hy:=zq0.1;obtain rfl:=zq0.2;clear zq0
  rw [drop_of_get hy] at hJ
  have hh:=h a y _ acc st1 (fun y st3=>st3 a=some (.list acc)∧acc.length<1000000∧((st3.set a (.list (acc++[y]))) a=some (.list (acc++[y]))∧J a (l.drop (k+1)) (acc++[y]) (st3.set a (.list (acc++[y]))))) (fun st2=>st2 a=some (.list acc)∧J a (l.drop (k+1)) acc st2) ha hJ.2 hJ.1
   (fun st2 y e hl q=>⟨e,hl,St.set_same ..,q _ (.of ..)⟩) (fun st2 e q=>⟨e,q⟩)
  exact ⟨hh.1,hJ.1,hh.2⟩
 ·rw [List.length_map,List.drop_length] at hJ
  have:=he a acc st1 ha hJ.2 hJ.1
  exact ⟨this.1,hJ.1,this.2⟩
theorem Upd.ext {a:Addr} {o:O} {s0 s1 s2:St} (h:s0 a=none) (e:Ext s0 s1) (u:Upd a o s1 s2):Ext s0 s2:=fun x y hx=>u.ne x y (by rintro rfl;rw [h] at hx;cases hx) (e x y hx)
theorem comp_p {elt:Ls→St→(V→St→Prop)→Prop} {test:Ls→St→(Bool→St→Prop)→Prop} {one:Bool} {ns:List Nat} {v:V} {ls:Ls} {α:Type} (enc:α→V) (l:List α) (chk:St→Prop) (p:α→Bool) (g:α→V)
  (hv:∀ K,K (l.map enc) chk→iterW v st K) (hc:∀ st',Ext st st'→chk st') (hl:l.length≤1000)
  (h:∀ x st1 (Nt:V→St→Prop) (Nf:St→Prop),x∈l→Ext st st1→(p x=true→∀ st2,Ext st1 st2→Nt (g x) st2)→(p x=false→∀ st2,Ext st1 st2→Nf st2)→bindT one ns (enc x) ls (kCo elt test st1 Nt Nf))
  (he:∀ a st',st a=none→Ext st st'→st' a=some (.list ((l.filter p).map g))→P (.ref a) st'):compW elt test one ns v ls st P:=by
 refine comp_s enc l chk hv (fun a r acc st1=>Ext st st1∧(∃ t,l=t++r)∧acc++(r.filter p).map g=(l.filter p).map g) (fun a st' h1 h2 h3=>⟨h2,⟨[],rfl⟩,rfl⟩) (fun a x r acc st1 Nt Nf ha hJ hacc ht hf=>?_) (fun a acc st1 ha hJ hacc=>?_)
 ·have h1:=hJ.1;refine ex1 hJ.2.1 fun t h2=>?_;have h3:=hJ.2.2;clear hJ
  have hln:acc.length<1000000:=by
   have e:=congrArg List.length h3
   rw [List.length_append,List.length_map,List.length_map] at e
   have:=List.length_filter_le p l
   exact oz81 e this hl
  refine ⟨hc _ h1,h x st1 Nt Nf (by rw [h2];simp) h1 (fun q st2 e=>ht st2 _ (e _ _ hacc) hln fun st3 u=>⟨?_,⟨t++[x],by rw [h2];simp⟩,?_⟩) (fun q st2 e=>hf st2 (e _ _ hacc) ⟨h1.trans e,⟨t++[x],by rw [h2];simp⟩,?_⟩)⟩
  ·exact u.ext ha (h1.trans e)
  ·rw [← h3,List.filter_cons,if_pos q];simp
  ·rw [← h3,List.filter_cons,if_neg (by rw [q];exact Bool.false_ne_true)]
 ·have h1:=hJ.1;have h3:=hJ.2.2;clear hJ
  exact ⟨hc _ h1,he a st1 ha h1 (by rw [hacc,← h3];simp)⟩
theorem iterL {a:Addr} {l:List V} (h:st a=some (.list l)) (K:List V→(St→Prop)→Prop) (hK:K l (fun st'=>st' a=some (.list l))):iterW (.ref a) st K:=by
 show iterRef a st K
 unfold iterRef;rw [h];exact hK
theorem iterD {a:Addr} {es:List (Int×V)} {n:Nat} (h:st a=some (.dict es n)) (K:List V→(St→Prop)→Prop) (hK:K (es.map fun p=>.int p.1) (fun st'=>st' a=some (.dict es n))):iterW (.ref a) st K:=by
 show iterRef a st K
 unfold iterRef;rw [h];exact hK
theorem rangeL_up (a b:Int):rangeL a b 1=(List.range (b-a).toNat).map fun (i:Nat)=>a+(i:Int):=by
 unfold rangeL Builtin.Range.rangeSize
 simp
 split <;> congr 2 <;> exact oz82 ‹_›
theorem rangeL_down (a b:Int):rangeL a b (-1)=(List.range (a-b).toNat).map fun (i:Nat)=>a-(i:Int):=by
 have e:Builtin.Range.rangeSize a b (-1)=if b<a then a-b else 0:=by
  unfold Builtin.Range.rangeSize
  rw [if_neg (by decide)]
  show (if a > b then (a-b-1) / 1+1 else 0)=_
  rw [Int.ediv_one]
  show (if b<a then a-b-1+1 else 0)=_
  split <;> omega
 unfold rangeL
 rw [e]
 have:(if b<a then a-b else 0).toNat=(a-b).toNat:=by split <;> omega
 rw [this]
 congr 1;funext i;omega
theorem iterR {a b:Int} (ha:a.natAbs<2^60) (hb:b.natAbs<2^60) (K:List V→(St→Prop)→Prop) (hK:K ((List.range (b-a).toNat).map fun (i:Nat)=>.int (a+(i:Int))) (fun _=>True)):iterW (.range a b 1) st K:=by
 refine ⟨ha,hb,.inl rfl,?_⟩
 rw [rangeL_up,List.map_map];exact hK
theorem iterRd {a b:Int} (ha:a.natAbs<2^60) (hb:b.natAbs<2^60) (K:List V→(St→Prop)→Prop) (hK:K ((List.range (a-b).toNat).map fun (i:Nat)=>.int (a-(i:Int))) (fun _=>True)):iterW (.range a b (-1)) st K:=by
 refine ⟨ha,hb,.inr rfl,?_⟩
 rw [rangeL_down,List.map_map];exact hK
end
section
variable {C:Cx} {st:St} {s:Shared} {A:Around}
theorem ints_find {h:Heap}:∀ {es:List (Int×V)} {ns:List (Int×Int)} {ds:List (Int×Value)},dints es=some ns→DP st h es ds→∀ k,(∃ i t,ns.lookup k=some i∧valueAt ds k=some (.int i t))∨(ns.lookup k=none∧valueAt ds k=none)
 | [],ns,ds,e,d,k=>by cases e;cases d;exact .inr ⟨rfl,rfl⟩
 | (j,x)::r,ns,ds,e,⟨v,r',e1,e2,e3⟩,k=>by
  subst e1
  cases x with
  | int i =>
   refine ex1 (Option.map_eq_some_iff.mp (show (dints r).map ((j,i)::·)=some ns from e)) fun m zq0=>?_;have hm:=zq0.1;obtain rfl:=zq0.2;clear zq0
   obtain ⟨t,rfl⟩:=(show ∃ t,v=.int i t from e2)
   show (∃ i' t',List.lookup k ((j,i)::m)=some i'∧_)∨(List.lookup k ((j,i)::m)=none∧_)
   rw [List.lookup_cons]
   unfold valueAt
   rw [List.find?_cons]
   by_cases hj:j=k
   ·subst hj
    rw [beq_self_eq_true,decide_eq_true rfl]
    exact .inl ⟨i,t,rfl,rfl⟩
   ·rw [beq_false_of_ne (Ne.symm hj),decide_eq_false hj]
    exact ints_find hm e3 k
  | _=>cases e
theorem ints_hits {h:Heap} {db:List (Int×Value)} {ns:List (Int×Int)} (f:∀ k,(∃ i t,ns.lookup k=some i∧valueAt db k=some (.int i t))∨(ns.lookup k=none∧valueAt db k=none)) :
  ∀ {es:List (Int×V)} {ms:List (Int×Int)} {ds:List (Int×Value)},dints es=some ms→DP st h es ds→KeqHits A s db ds (ms.all fun p=>ns.lookup p.1==some p.2)
 | [],ms,ds,e,d=>by cases e;cases d;exact .nil
 | (j,x)::r,ms,ds,e,⟨v,r',e1,e2,e3⟩=>by
  subst e1
  cases x with
  | int i =>
   refine ex1 (Option.map_eq_some_iff.mp (show (dints r).map ((j,i)::·)=some ms from e)) fun m zq0=>?_;have hm:=zq0.1;obtain rfl:=zq0.2;clear zq0
   obtain ⟨t,rfl⟩:=(show ∃ t,v=.int i t from e2)
   rw [List.all_cons]
   rcases f j with ⟨i',t',q1,q2⟩ | ⟨q1,q2⟩
   ·have hb:(ns.lookup j==some i)=(i==i'):=by
     rw [q1,Bool.eq_iff_iff,beq_iff_eq,beq_iff_eq]
     exact ⟨fun x=>(Option.some.inj x).symm,fun x=>x▸rfl⟩
    rw [hb]
    exact .hit q2 (SeqAt.EqAt.int_int i t i' t') (ints_hits f hm e3)
   ·rw [show (ns.lookup j==some i)=false by rw [q1];rfl]
    exact .miss q2
  | _=>cases e
theorem dints_len:∀ {es:List (Int×V)} {ms:List (Int×Int)},dints es=some ms→ms.length=es.length
 | [],ms,e=>by cases e;rfl
 | (j,x)::r,ms,e=>by
  cases x with
  | int i =>
   refine ex1 (Option.map_eq_some_iff.mp (show (dints r).map ((j,i)::·)=some ms from e)) fun m zq0=>?_;have hm:=zq0.1;obtain rfl:=zq0.2;clear zq0
   rw [List.length_cons,List.length_cons,dints_len hm]
  | _=>cases e
theorem dints_keys:∀ {es:List (Int×V)} {ms:List (Int×Int)},dints es=some ms→ms.map (·.1)=es.map (·.1)
 | [],ms,e=>by cases e;rfl
 | (j,x)::r,ms,e=>by
  cases x with
  | int i =>
   refine ex1 (Option.map_eq_some_iff.mp (show (dints r).map ((j,i)::·)=some ms from e)) fun m zq0=>?_;have hm:=zq0.1;obtain rfl:=zq0.2;clear zq0
   rw [List.map_cons,List.map_cons,dints_keys hm]
  | _=>cases e
theorem lookup_self:∀ {ms:List (Int×Int)},(ms.map (·.1)).Nodup→∀ p∈ms,ms.lookup p.1=some p.2
 | (k,i)::r,h,p,hp=>by
  have zq0:=List.nodup_cons.mp h;have h1:=zq0.1;have h2:=zq0.2;clear zq0
  rw [List.lookup_cons]
  rcases List.mem_cons.mp hp with rfl | hp
  ·rw [beq_self_eq_true]
  ·have:(p.1==k)=false:=beq_false_of_ne fun e=>h1 (e▸List.mem_map_of_mem (f:=(·.1)) hp)
   rw [this];exact lookup_self h2 p hp
theorem dictEq_refl {ms:List (Int×Int)} (h:(ms.map (·.1)).Nodup):dictEqB ms ms=true:=by
 unfold dictEqB
 rw [beq_self_eq_true,Bool.true_and,List.all_eq_true]
 intro p hp
 rw [lookup_self h p hp];exact beq_self_eq_true _
theorem two_dicts {a b:Addr} {es fs:List (Int×V)} {ms ns:List (Int×Int)} {n n':Nat} (W:WR C st s.heap) (ha:st a=some (.dict es n)) (hb:st b=some (.dict fs n')) (hm:dints es=some ms) (hn:dints fs=some ns) :
  ∃ ka kb,s.heap.DictOf (intKind C.prog C.w) a ka∧s.heap.DictOf (intKind C.prog C.w) b kb∧(ka.length==kb.length)=(ms.length==ns.length)∧(∀ B:Around,KeqHits B s kb ka (ms.all fun p=>ns.lookup p.1==some p.2))∧(ms.map (·.1)).Nodup:=by
 refine ex1 (isDict W ha) fun ka zq0=>?_;have a1:=zq0.1;have a2:=zq0.2.1;have a3:=zq0.2.2.1;have a4:=zq0.2.2.2;clear zq0
 refine ex1 (isDict W hb) fun kb zq0=>?_;have b1:=zq0.1;have b2:=zq0.2.1;have b3:=zq0.2.2.1;have b4:=zq0.2.2.2;clear zq0
 refine ⟨ka,kb,a1.dictOf,b1.dictOf,by rw [a2.length,b2.length,dints_len hm,dints_len hn],fun B=>ints_hits (ints_find hn b2) hm a2,?_⟩
 rw [dints_keys hm,← a2.keys];exact a1.nodup
theorem pairs_any {p p':Program} {w w':World} {es:List DictEntry} {ks:List (Int×Value)} (h:Pairs (intKind p w) es ks):Pairs (intKind p' w') es ks:=by
 induction h with
 | nil=>exact .nil
 | cons h1 h2 _ h3=>exact .cons h1 h2 h3
theorem dictOf_any {p p':Program} {w w':World} {h:Heap} {a:Addr} {ks:List (Int×Value)} (d:h.DictOf (intKind p w) a ks):h.DictOf (intKind p' w') a ks:=by
 refine ex3 d fun o es ep zq0=>?_;have h1:=zq0.1;have h2:=zq0.2.1;have h3:=zq0.2.2.1;have h4:=zq0.2.2.2.1;have h5:=zq0.2.2.2.2.1;have h6:=zq0.2.2.2.2.2;clear zq0 d
 exact ⟨o,es,ep,h1,h2,h3,h4,pairs_any h5,h6⟩
theorem eqOk (C:Cx):EqOk C:=by
 intro st s A k v w a b r g W hv hw e neg
 have hu:=g.u
 cases e with
 | data r1 r2 s1 s2 =>
  refine ex1 (r1.reads W hv) fun as ra=>?_
  refine ex1 (r2.reads W hw) fun bs rb=>?_
  cases neg
  ·exact SeqAt.compareEq_shaped ra rb s1 s2 (by exact oz83 hu) (.same W rfl rfl)
  ·exact SeqAt.compareNe_shaped ra rb s1 s2 (by exact oz83 hu) (.same W rfl rfl)
 | @dict p q es fs ms ns n n' ha hb hm hn =>
  have zq0:=(show a=.ref p∧_ from hv);obtain rfl:=zq0.1;have z1:=zq0.2;clear zq0
  have zq0:=(show b=.ref q∧_ from hw);obtain rfl:=zq0.1;have z2:=zq0.2;clear zq0
  refine ex2 (two_dicts W ha hb hm hn) fun ka kb zq0=>?_;have d1:=zq0.1;have d2:=zq0.2.1;have d3:=zq0.2.2.1;have d4:=zq0.2.2.2.1;clear zq0
  cases neg
  ·exact keq_eq (notMods W z1) (notMods W z2) d1 d2 (by exact oz84 hu) (fun _=>d4 _) (.same W rfl (by rw [d3];rfl))
  ·exact keq_ne (notMods W z1) (notMods W z2) d1 d2 (by exact oz84 hu) (fun _=>d4 _) (.same W rfl (by rw [d3];rfl))
 | @pair p q es fs ms ns i j n n' ha hb hm hn =>
  refine ex4 ((show ∃ a' o vs m,a=.ref a'∧st a'=none∧s.heap.get? a'=some o∧o.cls=.type "tuple"∧o.data=.seq vs m∧VRs st s.heap [.ref p,.int i] vs.toList∧_ from hv)) fun a' o vs m zq0=>?_;obtain rfl:=zq0.1;have e2:=zq0.2.1;have e3:=zq0.2.2.1;have e4:=zq0.2.2.2.1;have e5:=zq0.2.2.2.2.1;have e6:=zq0.2.2.2.2.2.1;have e7:=zq0.2.2.2.2.2.2;clear zq0
  refine ex4 ((show ∃ a' o vs m,b=.ref a'∧st a'=none∧s.heap.get? a'=some o∧o.cls=.type "tuple"∧o.data=.seq vs m∧VRs st s.heap [.ref q,.int j] vs.toList∧_ from hw)) fun b' o' vs' m' zq0=>?_;obtain rfl:=zq0.1;have f2:=zq0.2.1;have f3:=zq0.2.2.1;have f4:=zq0.2.2.2.1;have f5:=zq0.2.2.2.2.1;have f6:=zq0.2.2.2.2.2.1;have f7:=zq0.2.2.2.2.2.2;clear zq0
  obtain ⟨_,_,e8,⟨rfl,z1⟩,_,_,rfl,⟨t,rfl⟩,rfl⟩:=(show ∃ v r,vs.toList=v::r∧(v=.ref p∧st p≠none)∧∃ v' r',r=v'::r'∧(∃ t,v'=.int i t)∧r'=[] from e6)
  obtain ⟨_,_,f8,⟨rfl,z2⟩,_,_,rfl,⟨u,rfl⟩,rfl⟩:=(show ∃ v r,vs'.toList=v::r∧(v=.ref q∧st q≠none)∧∃ v' r',r=v'::r'∧(∃ t,v'=.int j t)∧r'=[] from f6)
  refine ex2 (two_dicts W ha hb hm hn) fun ka kb zq0=>?_;have d1:=zq0.1;have d2:=zq0.2.1;have d3:=zq0.2.2.1;have d4:=zq0.2.2.2.1;have d5:=zq0.2.2.2.2;clear zq0
  obtain rfl:vs=#[.ref p,.int i t]:=Array.toList_inj.mp e8
  obtain rfl:vs'=#[.ref q,.int j u]:=Array.toList_inj.mp f8
  have hd:SeqAt.EqAt A.in1 s (.ref p) (.ref q) (dictEqB ms ns):=by
   by_cases hpq:p=q
   ·subst hpq
    rw [ha] at hb;cases hb
    rw [hm] at hn;cases hn
    rw [dictEq_refl d5];exact SeqAt.EqAt.same _
   ·refine SeqAt.EqAt.of_refs hpq fun prog w E Q h=>?_
    exact keq_eq (prog:=prog) (w:=w) (knd:=intKind prog w) (notMods W z1) (notMods W z2) (dictOf_any d1) (dictOf_any d2) (by show A.units+1<_;exact oz85 hu) (fun _=>d4 _) (by rw [d3];exact h)
  have he:∀ x (h1:x<2) (h2:x<2),SeqAt.EqAt A.in1 s #[Value.ref p,.int i t][x] #[Value.ref q,.int j u][x] (if x=0 then dictEqB ms ns else i==j):=fun x h1 h2=>by
   match x,h1,h2 with
   | 0,_,_=>exact hd
   | 1,_,_=>exact SeqAt.EqAt.int_int i t j u
  have hq:((List.range (min 2 2)).all (fun x=>if x=0 then dictEqB ms ns else i==j)&&(2:Nat)==2)=(dictEqB ms ns&&i==j):=by
   show ((dictEqB ms ns&&((i==j)&&true))&&true)=_
   rw [Bool.and_true,Bool.and_true]
  have l1:s.heap.IsTuple a' #[.ref p,.int i t]:=⟨_,e3,e4,_,e5⟩
  have l2:s.heap.IsTuple b' #[.ref q,.int j u]:=⟨_,f3,f4,_,f5⟩
  cases neg
  ·exact SeqAt.RcAt.tuples l1 l2 (by exact oz84 hu) he _ _ _ _ (.same W rfl hq)
  ·exact SeqAt.RcNeAt.tuples l1 l2 (by exact oz84 hu) he _ _ _ _ (.same W rfl (congrArg (!·) hq))
end
section
noncomputable def Run (n:Nat) (r:Nat→Int) {α:Type}:KasT α→(α→Prop)→Prop
 | .ret a,Q=>Q a
 | .ask i j k,Q=>i<n∧j<n∧Run n r (k (decide (r i<r j))) Q
variable {n:Nat} {r:Nat→Int}
theorem Run.bind {α β:Type} {f:α→KasT β} {Q:β→Prop}:∀ {t:KasT α},Run n r t (fun a=>Run n r (f a) Q)→Run n r (t.bind f) Q
 | .ret _,h=>h
 | .ask _ _ _,⟨h1,h2,h⟩=>⟨h1,h2,Run.bind h⟩
theorem Run.mono {α:Type} {Q Q':α→Prop} (hq:∀ a,Q a→Q' a):∀ {t:KasT α},Run n r t Q→Run n r t Q'
 | .ret _,h=>hq _ h
 | .ask _ _ _,⟨h1,h2,h⟩=>⟨h1,h2,Run.mono hq h⟩
theorem Run.wp {α:Type} {cmp:Nat→Nat→(Bool→Shared→Prop)→Shared→Prop} {s:Shared} (hc:∀ i j C,i<n→j<n→C (decide (r i<r j)) s→cmp i j C s) {Q:α→Prop} {Q':α→Shared→Prop} (hq:∀ a,Q a→Q' a s):∀ {t:KasT α},Run n r t Q→t.kasWp cmp Q' s
 | .ret _,h=>hq _ h
 | .ask _ _ _,⟨h1,h2,h⟩=>hc _ _ _ h1 h2 (Run.wp hc hq h)
noncomputable def Pm (n:Nat) (p:Array Nat):Prop:=p.Perm (List.toArray (List.range n))
noncomputable def ky (r:Nat→Int) (p:Array Nat) (i:Nat):Int:=r (p.getD i 0)
theorem Pm.size {p:Array Nat} (h:Pm n p):p.size=n:=by rw [h.size_eq,List.size_toArray,List.length_range]
theorem Pm.lt {p:Array Nat} (h:Pm n p) (hn:0<n) (i:Nat):p.getD i 0<n:=by
 rw [Array.getD_eq_getD_getElem?]
 cases e:p[i]? with
 | none=>exact hn
 | some x=>exact List.mem_range.mp (List.mem_toArray.mp (h.mem_iff.mp (Array.mem_of_getElem? e)))
theorem ky_get {p q:Array Nat} {i j:Nat} (h:p[i]?=q[j]?):ky r p i=ky r q j:=by
 unfold ky;rw [Array.getD_eq_getD_getElem?,Array.getD_eq_getD_getElem?,h]
theorem Pm.rev {p:Array Nat} (h:Pm n p) (a b:Nat):Pm n (kas_rev p a b):=(mirror_perm _ _ _ _).trans h
theorem ky_rev {p:Array Nat} (a:Nat) {b:Nat} (hb:b≤p.size) (k:Nat):ky r (kas_rev p a b) k=if a≤k∧k<b then ky r p (a+b-1-k) else ky r p k:=by
 have e:=getElem?_mirror_all (i:=a) hb k
 unfold kas_rev
 by_cases h:a≤k∧k<b
 ·rw [if_pos h] at e ⊢;exact ky_get e
 ·rw [if_neg h] at e ⊢;exact ky_get e
theorem ky_rev_eq {p:Array Nat} {a b:Nat} (hb:b≤p.size) (h:∀ i,a≤i→i<b→ky r p i=ky r p (b-1)) (k:Nat):ky r (kas_rev p a b) k=ky r p k:=by
 rw [ky_rev a hb]
 split
 ·rw [h _ (by exact oz86 ‹_›) (by exact oz87 ‹_›),h k (by exact oz88 ‹_›) (by exact oz89 ‹_›)]
 ·rfl
noncomputable def Up (r:Nat→Int) (p:Array Nat) (k:Nat):Prop:=∀ i j,i≤j→j<k→ky r p i≤ky r p j
noncomputable def Dn (r:Nat→Int) (p:Array Nat) (k:Nat):Prop:=∀ i j,i≤j→j<k→ky r p j≤ky r p i
theorem Up.snoc {p:Array Nat} {k:Nat} (h:Up r p k) (h1:1≤k) (h2:ky r p (k-1)≤ky r p k):Up r p (k+1):=fun i j hij hj=>by
 by_cases e:j=k
 ·subst e
  by_cases e:i=j
  ·rw [e];exact Int.le_refl _
  ·exact Int.le_trans (h i (j-1) (by exact oz90 hij e) (by exact oz91 h1)) h2
 ·exact h i j hij (by exact oz92 hj e)
theorem Dn.snoc {p:Array Nat} {k:Nat} (h:Dn r p k) (h1:1≤k) (h2:ky r p k≤ky r p (k-1)):Dn r p (k+1):=fun i j hij hj=>by
 by_cases e:j=k
 ·subst e
  by_cases e:i=j
  ·rw [e];exact Int.le_refl _
  ·exact Int.le_trans h2 (h i (j-1) (by exact oz90 hij e) (by exact oz91 h1))
 ·exact h i j hij (by exact oz92 hj e)
theorem Dn.same {p q:Array Nat} {k:Nat} (h:Dn r p k) (e:∀ i,ky r q i=ky r p i):Dn r q k:=fun i j a b=>by rw [e,e];exact h i j a b
theorem asc_ok {p:Array Nat} (hp:Pm n p) (hn:0<n):∀ {f k:Nat},1≤k→Up r p k→Run n r (kas_asc p f k) fun m=>k≤m∧m≤k+f∧Up r p m∧(m<k+f→ky r p m<ky r p (m-1))
 | 0,k,h1,h=>⟨Nat.le_refl _,Nat.le_refl _,h,fun h=>absurd h (Nat.lt_irrefl _)⟩
 | f+1,k,h1,h=>by
  refine ⟨hp.lt hn _,hp.lt hn _,?_⟩
  by_cases c:ky r p k<ky r p (k-1)
  ·rw [show decide (r (p.getD k 0)<r (p.getD (k-1) 0))=true from decide_eq_true c]
   exact ⟨Nat.le_refl _,Nat.le_add_right ..,h,fun _=>c⟩
  ·rw [show decide (r (p.getD k 0)<r (p.getD (k-1) 0))=false from decide_eq_false c]
   exact (asc_ok hp hn (Nat.succ_le_succ (Nat.zero_le k)) (h.snoc h1 (Int.not_lt.mp c))).mono fun m ⟨a,b,d,e⟩=>⟨by exact oz93 a,by exact oz94 b,d,fun h=>e (by exact oz95 h)⟩
theorem desc_ok (hn:0<n):∀ {f:Nat} {p:Array Nat} {k q:Nat},Pm n p→1≤k→q<k→k+f≤n→Dn r p k→(∀ i,k≤i+(q+1)→i<k→ky r p i=ky r p (k-1)) →
  Run n r (kas_desc f p k q) fun x=>Pm n x.1∧k≤x.2.1∧x.2.1≤k+f∧Dn r x.1 x.2.1∧∀ i,x.2.1≤i+(x.2.2+1)→i<x.2.1→ky r x.1 i=ky r x.1 (x.2.1-1)
 | 0,p,k,q,hp,h1,hq,hk,h,he=>⟨hp,Nat.le_refl _,Nat.le_refl _,h,he⟩
 | f+1,p,k,q,hp,h1,hq,hk,h,he=>by
  refine ⟨hp.lt hn _,hp.lt hn _,?_⟩
  have wk:∀ {p:Array Nat} {q:Nat},Pm n p→q<k+1→Dn r p (k+1)→(∀ i,k+1≤i+(q+1)→i<k+1→ky r p i=ky r p k)→Run n r (kas_desc f p (k+1) q) fun x=>Pm n x.1∧k≤x.2.1∧x.2.1≤k+(f+1)∧Dn r x.1 x.2.1∧∀ i,x.2.1≤i+(x.2.2+1)→i<x.2.1→ky r x.1 i=ky r x.1 (x.2.1-1) :=
   fun a b c d=>(desc_ok hn a (Nat.succ_le_succ (Nat.zero_le k)) b (by exact oz96 hk) c d).mono fun x ⟨a,b,c,d⟩=>⟨a,by exact oz93 b,by exact oz94 c,d⟩
  have one:∀ {p:Array Nat} (i:Nat),k+1≤i+(0+1)→i<k+1→ky r p i=ky r p k:=fun i a b=>by rw [show i=k by exact oz97 a b]
  by_cases c:ky r p k<ky r p (k-1)
  ·rw [show decide (r (p.getD k 0)<r (p.getD (k-1) 0))=true from decide_eq_true c]
   show Run n r (if q > 0 then _ else _) _
   have hd:=h.snoc h1 (Int.le_of_lt c)
   by_cases q0:q > 0
   ·rw [if_pos q0]
    have e:=ky_rev_eq (r:=r) (p:=p) (a:=k-(q+1)) (b:=k) (by rw [hp.size];exact oz98 hk) fun i a b=>he i (by exact oz99 a) b
    exact wk (hp.rev _ _) (by exact oz100) (hd.same e) one
   ·rw [if_neg q0]
    exact wk hp (by exact oz100) hd one
  ·rw [show decide (r (p.getD k 0)<r (p.getD (k-1) 0))=false from decide_eq_false c]
   refine ⟨hp.lt hn _,hp.lt hn _,?_⟩
   by_cases d:ky r p (k-1)<ky r p k
   ·rw [show decide (r (p.getD (k-1) 0)<r (p.getD k 0))=true from decide_eq_true d]
    exact ⟨hp,Nat.le_refl _,Nat.le_add_right ..,h,he⟩
   ·rw [show decide (r (p.getD (k-1) 0)<r (p.getD k 0))=false from decide_eq_false d]
    have e:ky r p k=ky r p (k-1):=Int.le_antisymm (Int.not_lt.mp d) (Int.not_lt.mp c)
    refine wk hp (by exact oz101 hq) (h.snoc h1 (Int.le_of_eq e)) fun i a b=>?_
    by_cases hi:i=k
    ·rw [hi]
    ·rw [he i (by exact oz102 a) (by exact oz92 b hi),e]
theorem tail3_ok {p:Array Nat} {k:Nat} (hn:0<n) (hp:Pm n p) (h1:1≤k) (hk:k≤n) (h:Dn r p k):Run n r (kas_tail3 k n p) fun x=>Pm n x.2∧1≤x.1∧x.1≤n∧Up r x.2 x.1:=by
 have hu:Up r (kas_rev p 0 k) k:=fun i j a b=>by
  rw [ky_rev 0 (by rw [hp.size];exact hk),ky_rev 0 (by rw [hp.size];exact hk),if_pos (by exact oz103 b a),if_pos (by exact oz104 b)]
  exact h _ _ (by exact oz105 a) (by exact oz106 h1)
 exact Run.bind ((asc_ok (hp.rev 0 k) hn h1 hu).mono fun m ⟨a,b,c,d⟩=>⟨hp.rev 0 k,by exact oz107 h1 a,by show m≤n;exact oz108 b hk,c⟩)
theorem descPart_ok {p:Array Nat} {k:Nat} (hp:Pm n p) (h1:1≤k) (hk:k+1≤n) (h:Dn r p (k+1)):Run n r (kas_descPart k n p) fun x=>Pm n x.2∧1≤x.1∧x.1≤n∧Up r x.2 x.1:=by
 refine Run.bind ((desc_ok (by exact oz109 hk) hp (by exact oz110) (by exact oz100) (by exact oz111 hk) h fun i a b=>?_).mono fun x ⟨a,b,c,d,e⟩=>?_)
 ·rw [show i=k by exact oz97 a b];rfl
 ·obtain ⟨p',m,q⟩:=x
  have c:m≤n:=by have:m≤k+1+(n-(k+1)):=c;exact oz112 hk c
  have b:k+1≤m:=b
  have a:Pm n p':=a
  show Run n r (if q > 0 then kas_tail3 m n (kas_rev p' (m-(q+1)) m) else kas_tail3 m n p') _
  by_cases hq:q > 0
  ·rw [if_pos hq]
   exact tail3_ok (by exact oz109 hk) (a.rev _ _) (by exact oz113 b) c (d.same fun i=>ky_rev_eq (by rw [a.size];exact c) (fun i u v=>e i (by show m≤i+(q+1);exact oz99 u) v) i)
  ·rw [if_neg hq]
   exact tail3_ok (by exact oz109 hk) a (by exact oz113 b) c d
theorem count_ok {p:Array Nat} (hn:0<n) (hp:Pm n p):Run n r (kas_count n p) fun x=>Pm n x.2∧1≤x.1∧x.1≤n∧Up r x.2 x.1:=by
 refine Run.bind ((asc_ok hp hn (Nat.le_refl 1) fun i j a b=>?_).mono fun m ⟨a,b,c,d⟩=>?_)
 ·rw [show i=j by exact oz114 b a];exact Int.le_refl _
 ·by_cases e:m=n
  ·rw [if_pos (beq_iff_eq.mpr e)]
   exact ⟨hp,a,by show m≤n;exact oz115 hn b,c⟩
  ·rw [if_neg (fun h=>e (beq_iff_eq.mp h))]
   have hl:=d (by exact oz116 hn b e)
   by_cases m1:m > 1
   ·rw [if_pos m1]
    refine ⟨hp.lt hn _,hp.lt hn _,?_⟩
    by_cases g:ky r p 0<ky r p (m-1)
    ·rw [show decide (r (p.getD 0 0)<r (p.getD (m-1) 0))=true from decide_eq_true g]
     exact ⟨hp,a,by show m≤n;exact oz115 hn b,c⟩
    ·rw [show decide (r (p.getD 0 0)<r (p.getD (m-1) 0))=false from decide_eq_false g]
     have al:∀ i,i<m→ky r p i=ky r p (m-1):=fun i hi=>Int.le_antisymm (c i (m-1) (by exact oz42 hi) (by exact oz91 a)) (Int.le_trans (Int.not_lt.mp g) (c 0 i (Nat.zero_le _) hi))
     have er:=ky_rev_eq (r:=r) (p:=p) (a:=0) (b:=m) (by rw [hp.size];exact oz115 hn b) fun i _ hi=>al i hi
     refine descPart_ok (hp.rev 0 m) a (by exact oz117 hn b e) (Dn.same (Dn.snoc (fun i j u v=>?_) a (Int.le_of_lt hl)) er)
     rw [al i (by exact oz118 v u),al j v];exact Int.le_refl _
   ·rw [if_neg m1]
    obtain rfl:m=1:=by exact oz119 a m1
    refine descPart_ok hp (Nat.le_refl 1) (by exact oz120 hn e) (Dn.snoc (fun i j u v=>?_) (Nat.le_refl 1) (Int.le_of_lt hl))
    rw [show i=j by exact oz114 v u];exact Int.le_refl _
theorem place_ok {p:Array Nat} {k:Nat} (hn:0<n) (hp:Pm n p) (hu:Up r p k):∀ {f a b:Nat},a≤b→b≤k→b-a≤f→(∀ i,i<a→ky r p i≤ky r p k)→(∀ i,b≤i→i<k→ky r p k<ky r p i) →
  Run n r (kas_place p k f a b) fun m=>m≤k∧(∀ i,i<m→ky r p i≤ky r p k)∧∀ i,m≤i→i<k→ky r p k<ky r p i
 | 0,a,b,h1,h2,h3,h4,h5=>⟨by exact oz121 h1 h2,h4,fun i u v=>h5 i (by exact oz122 h3 u) v⟩
 | f+1,a,b,h1,h2,h3,h4,h5=>by
  unfold kas_place
  by_cases c:a ≥ b
  ·rw [if_pos c];exact ⟨by exact oz121 h1 h2,h4,fun i u v=>h5 i (by exact oz121 c u) v⟩
  ·rw [if_neg c]
   refine ⟨hp.lt hn _,hp.lt hn _,?_⟩
   by_cases g:ky r p k<ky r p ((a+b) / 2)
   ·rw [show decide (r (p.getD k 0)<r (p.getD ((a+b) / 2) 0))=true from decide_eq_true g]
    exact place_ok hn hp hu (by exact oz123 h1) (by exact oz124 h1 h2) (by exact oz125 h3) h4 fun i u v=>Int.lt_of_lt_of_le g (hu _ _ u v)
   ·rw [show decide (r (p.getD k 0)<r (p.getD ((a+b) / 2) 0))=false from decide_eq_false g]
    exact place_ok hn hp hu (by exact oz126 c) h2 (by exact oz127 h3) (fun i u=>Int.le_trans (hu i ((a+b) / 2) (by exact oz128 u) (by exact oz129 h2 c)) (Int.not_lt.mp g)) h5
theorem binS_ok (hn:0<n):∀ {f:Nat} {p:Array Nat} {k:Nat},Pm n p→k+f≤n→Up r p k→Run n r (kas_bin f p k) fun q=>Pm n q∧Up r q (k+f)
 | 0,p,k,hp,hk,h=>⟨hp,h⟩
 | f+1,p,k,hp,hk,h=>by
  refine Run.bind ((place_ok hn hp h (Nat.zero_le k) (Nat.le_refl k) (Nat.sub_le ..) (fun i h=>absurd h (Nat.not_lt_zero i)) fun i u v=>absurd v (Nat.not_lt.mpr u)).mono fun m ⟨a,b,c⟩=>?_)
  have e:∀ i,ky r (bubble p k (k-m)) i=if i=k-(k-m) then ky r p k else if k-(k-m)<i∧i≤k then ky r p (i-1) else ky r p i:=fun i=>by
   have e:=getElem?_bubble (xs:=p) (src:=k) (by rw [hp.size];exact oz130 hk) (k-m) (Nat.sub_le ..) i
   by_cases h1:i=k-(k-m)
   ·rw [if_pos h1] at e ⊢;exact ky_get e
   ·rw [if_neg h1] at e ⊢
    by_cases h2:k-(k-m)<i∧i≤k
    ·rw [if_pos h2] at e ⊢;exact ky_get e
    ·rw [if_neg h2] at e ⊢;exact ky_get e
  have hu:Up r (bubble p k (k-m)) (k+1):=fun i j u v=>by
   rw [e i,e j]
   by_cases h1:i=k-(k-m)
   ·rw [if_pos h1]
    by_cases h2:j=k-(k-m)
    ·rw [if_pos h2];exact Int.le_refl _
    ·rw [if_neg h2,if_pos (by exact oz131 v h1 u h2)];exact Int.le_of_lt (c _ (by exact oz132 h1 u a h2) (by exact oz133 v h2))
   ·rw [if_neg h1]
    by_cases h3:k-(k-m)<i∧i≤k
    ·rw [if_pos h3,if_neg (by exact oz134 h3 u),if_pos (by exact oz135 h3 u v)];exact h _ _ (by exact oz136 u) (by exact oz137 v u h1)
    ·rw [if_neg h3]
     by_cases h2:j=k-(k-m)
     ·rw [if_pos h2];exact b _ (by exact oz138 v u h3 h1)
     ·rw [if_neg h2]
      by_cases h4:k-(k-m)<j∧j≤k
      ·rw [if_pos h4];exact h _ _ (by exact oz139 h4 u h3) (by exact oz137 v u h1)
      ·rw [if_neg h4];exact h _ _ u (by exact oz140 v h4 h2)
  exact (binS_ok hn ((bubble_perm _ _ _).trans hp) (by exact oz96 hk) hu).mono fun q ⟨x,y⟩=>⟨x,by rw [show k+(f+1)=k+1+f by exact oz141];exact y⟩
theorem sort_ok (hn:0<n):Run n r (kas_sort n) fun q=>Pm n q∧Up r q n:=by
 refine Run.bind ((count_ok hn (Array.Perm.refl _)).mono fun x ⟨a,b,c,d⟩=>?_)
 by_cases h:x.1<n
 ·rw [if_pos h,Nat.max_eq_left b]
  exact (binS_ok hn a (by exact oz142 c) d).mono fun q ⟨u,v⟩=>⟨u,by rw [show x.1+(n-x.1)=n by exact oz143 c] at v;exact v⟩
 ·rw [if_neg h]
  exact ⟨a,by rw [show x.1=n by exact oz144 c h] at d;exact d⟩
end
theorem lex_irr:∀ l:List Int,lexLt l l=false
 | []=>rfl
 | x::xs=>by unfold lexLt;rw [if_pos rfl];exact lex_irr xs
theorem lex_trans:∀ {a b c:List Int},lexLt a b=true→lexLt b c=true→lexLt a c=true
 | [],[],_,h,_=>nomatch h
 | [],_::_,[],_,h=>nomatch h
 | [],_::_,_::_,_,_=>rfl
 | _::_,[],_,h,_=>nomatch h
 | _::_,_::_,[],_,h=>nomatch h
 | x::a,y::b,z::c,h,h'=>by
  unfold lexLt at h h' ⊢
  by_cases e:x=y
  ·rw [if_pos e] at h
   by_cases e':y=z
   ·rw [if_pos e'] at h'
    rw [if_pos (e.trans e')];exact lex_trans h h'
   ·rw [if_neg e'] at h'
    rw [e,if_neg e'];exact h'
  ·rw [if_neg e] at h
   have h:=of_decide_eq_true h
   by_cases e':y=z
   ·rw [← e',if_neg e];exact decide_eq_true h
   ·rw [if_neg e'] at h'
    have h':=of_decide_eq_true h'
    rw [if_neg (by exact oz145 h h')];exact decide_eq_true (Int.lt_trans h h')
theorem lex_neg:∀ {a b c:List Int},lexLt a c=true→lexLt a b=true∨lexLt b c=true
 | [],[],[],h=>nomatch h
 | [],[],_::_,_=>.inr rfl
 | [],_::_,_,_=>.inl rfl
 | _::_,_,[],h=>nomatch h
 | _::_,[],_::_,_=>.inr rfl
 | x::a,y::b,z::c,h=>by
  unfold lexLt at h ⊢
  by_cases e:x=z
  ·rw [if_pos e] at h
   subst e
   by_cases e':x=y
   ·rw [if_pos e',if_pos e'.symm];exact lex_neg h
   ·rw [if_neg e',if_neg (Ne.symm e')]
    rcases Int.lt_or_gt_of_ne e' with q | q
    ·exact .inl (decide_eq_true q)
    ·exact .inr (decide_eq_true q)
  ·rw [if_neg e] at h
   have h:=of_decide_eq_true h
   by_cases q:y<z
   ·right;rw [if_neg (by exact oz146 q)];exact decide_eq_true q
   ·left;rw [if_neg (by exact oz147 h q)];exact decide_eq_true (by exact oz148 h q)
noncomputable def rk (ts:List (List Int)) (a:List Int):Nat:=ts.countP fun u=>lexLt u a
theorem countP_lt {α:Type} {p q:α→Bool} (h:∀ x,p x=true→q x=true) {x:α} (h1:p x=false) (h2:q x=true):∀ {l:List α},x∈l→l.countP p<l.countP q
 | y::l,hx=>by
  have le:=List.countP_mono_left (l:=l) (p:=p) (q:=q) fun x _=>h x
  rw [List.countP_cons,List.countP_cons]
  rcases List.mem_cons.mp hx with rfl | hx
  ·rw [h1,h2,if_neg Bool.false_ne_true,if_pos rfl];exact oz149 le
  ·have ih:=countP_lt h h1 h2 hx
   cases hp:p y with
   | false=>rw [if_neg Bool.false_ne_true];split <;> omega
   | true=>rw [h y hp,if_pos rfl];exact oz101 ih
theorem rk_lt {ts:List (List Int)} {a b:List Int} (ha:a∈ts):decide ((rk ts a:Int)<rk ts b)=lexLt a b:=by
 cases h:lexLt a b with
 | true=>exact decide_eq_true (Int.ofNat_lt.mpr (countP_lt (p:=fun u=>lexLt u a) (q:=fun u=>lexLt u b) (x:=a) (fun x hx=>lex_trans hx h) (lex_irr a) h ha))
 | false =>
  refine decide_eq_false fun hl=>Nat.not_lt.mpr (List.countP_mono_left fun x _ hx=>?_) (Int.ofNat_lt.mp hl)
  exact (lex_neg hx).resolve_right (by rw [h];exact Bool.false_ne_true)
section
variable {C:Cx} {st:St} {s:Shared} {A:Around}
noncomputable abbrev tupV (t:List Int):V:=.tup (t.map .int)
theorem intsOf_eq:∀ {l:List V} {ns:List Int},intsOf l=some ns→l=ns.map .int
 | [],ns,h=>by cases h;rfl
 | x::r,ns,h=>by
  cases x with
  | int i =>
   obtain ⟨m,hm,rfl⟩:=Option.map_eq_some_iff.mp (show (intsOf r).map (i::·)=some ns from h)
   rw [List.map_cons,← intsOf_eq hm]
  | _=>cases h
theorem intTups_eq:∀ {l:List V} {ts:List (List Int)},intTups l=some ts→l=ts.map tupV
 | [],ts,h=>by cases h;rfl
 | x::r,ts,h=>by
  unfold intTups at h
  split at h
  ·rename_i a b ha hb
   cases h
   rw [List.map_cons,← intTups_eq hb]
   cases x with
   | tup l=>rw [intsOf_eq (show intsOf l=some a from ha)]
   | _=>cases ha
  ·cases h
theorem lex_ok {w:World} {prog:Program} {Q:Bool→Shared→Prop}:∀ {xs ys:List Value} {ms ns:List Int} {i:Nat},IntsAre xs ms→IntsAre ys ns→ms.length=ns.length→Q (lexLt ms ns) s→KatLex prog w A true false Q (xs.zip ys) i s:=by
 intro xs ys ms ns i h1
 induction h1 generalizing ys ns i with
 | nil=>intro h2 _ h;cases h2 with
  | nil=>exact h
  | cons=>contradiction
 | cons x t hx ih =>
  intro h2 hl h
  cases h2 with
  | nil=>contradiction
  | cons y u hy =>
  refine kat_cons (SeqAt.EqAt.int_int x t y u prog w _ _ (kat_go (fun e=>?_) fun e=>?_))
  ·refine kat_yes (ih hy (Nat.succ.inj hl) ?_)
   unfold lexLt at h
   rw [if_pos (eq_of_beq e)] at h;exact h
  ·refine kat_no ?_
   unfold lexLt at h
   rw [if_neg (ne_of_beq_false e)] at h
   cases hb:(true&&i==0) with
   | true=>exact oneLt_int h
   | false=>exact kat_one _ _ (wpAny_lt_int h)
theorem intsOf_map (l:List Int):intsOf (l.map .int)=some l:=by
 induction l with
 | nil=>rfl
 | cons x r ih=>rw [List.map_cons];unfold intsOf;rw [ih];rfl
theorem tup_at {ts:List (List Int)} {vs:List Value} (hv:VRs st s.heap (ts.map tupV) vs) {i:Nat} (hi:i<ts.length):∃ b o xs m,vs.getD i .none=.ref b∧s.heap.get? b=some o∧o.cls=.type "tuple"∧o.data=.seq xs m∧IntsAre xs.toList (ts.getD i []):=by
 have e:ts[i]?=some ts[i]:=List.getElem?_eq_getElem hi
 obtain ⟨v,h1,b,o,xs,m,rfl,h2,h3,h4,h5,h6,_⟩:=hv.get (i:=i) (x:=tupV ts[i]) (by rw [List.getElem?_map,e];rfl)
 refine ⟨b,o,xs,m,by rw [List.getD_eq_getElem?_getD,h1];rfl,h3,h4,h5,?_⟩
 rw [List.getD_eq_getElem?_getD,e]
 exact intsAre (intsOf_map _) h6
end
section
variable {C:Cx} {st:St} {s:Shared} {A:Around}
theorem kat_tups {h h':Heap} (kp:∀ b o,h.get? b=some o→o.cls=.type "tuple"→h'.get? b=some o):∀ {ts:List (List Int)} {vs:List Value},VRs st h (ts.map tupV) vs→(∀ t∈ts,t≠[])→∃ fs,KatTups h' vs fs∧fs.length=ts.length∧∀ v∈fs,∃ i t,v=.int i t
 | [],vs,e,_=>by cases e;exact ⟨[],.nil,rfl,fun v h=>nomatch h⟩
 | t::ts,vs,⟨v,r,e,hv,hr⟩,hne=>by
  subst e
  refine ex1 (kat_tups kp hr fun t ht=>hne t (List.mem_cons_of_mem _ ht)) fun fs zq0=>?_;have f1:=zq0.1;have f2:=zq0.2.1;have f3:=zq0.2.2;clear zq0
  refine ex4 hv fun b o xs m zq0=>?_;obtain rfl:=zq0.1;have g3:=zq0.2.2.1;have g4:=zq0.2.2.2.1;have g5:=zq0.2.2.2.2.1;have g6:=zq0.2.2.2.2.2.1;clear zq0 hv
  cases t with
  | nil=>exact absurd rfl (hne [] (List.mem_cons_self ..))
  | cons x t =>
   obtain ⟨y,ys,q1,⟨tk,rfl⟩,q3⟩:=(show ∃ v r,xs.toList=v::r∧(∃ tk,v=.int x tk)∧VRs st h (t.map .int) r from g6)
   refine ⟨.int x tk::fs,.cons (kp _ _ g3 g4) g4 g5 (by rw [← Array.getElem?_toList,q1];rfl) f1,by rw [List.length_cons,List.length_cons,f2],fun v hv=>?_⟩
   rcases List.mem_cons.mp hv with rfl | hv
   ·exact ⟨x,tk,rfl⟩
   ·exact f3 v hv
noncomputable abbrev rks (ts:List (List Int)) (i:Nat):Int:=rk ts (ts.getD i [])
theorem sort_tups {E:Value→Shared→Prop} {a:Addr} {vs:List Value} {ts:List (List Int)} {n:Nat} {P:PySem.Fin→Shared→Prop} (ho:s.heap.get? a=some (seqObj "list" vs.toArray n)) (hv:VRs st s.heap (ts.map tupV) vs) (h4:∀ t∈ts,t.length=4) (hn:ts≠[]) (h64:vs.length<64)
  (h:∀ p:Array Nat,Pm vs.length p→Up (rks ts) p vs.length→P (.done (.ret .none)) { s with heap:=sortedHeap s.heap a vs (List.toArray (p.toList.map fun i=>vs.getD i .none)) }) :
  wpAny C.M A (Builtin.«list.sort» ⟨[.ref a],[]⟩) P E s:=by
 have hl:vs.length=ts.length:=by rw [hv.length,List.length_map]
 have hpos:0<vs.length:=by rw [hl];exact List.length_pos_iff.mpr hn
 have ha:a<s.heap.objs.size:=Heap.lt_size ho
 obtain ⟨e1,ho1⟩:∃ e1,(s.heap.update a (Obj.mapSeq fun _=>(#[]:Array Value))).get? a=some (seqObj "list" #[] e1):=⟨_,get?_update_seq ho fun _=>#[]⟩
 generalize hH:((s.heap.update a (Obj.mapSeq fun _=>(#[]:Array Value))).push (seqObj "tuple" vs.toArray 0)).push (seqObj "list" #[] 0)=H
 have ho6:H.get? a=some (seqObj "list" #[] e1):=by rw [← hH];exact Heap.get?_push_of_some _ (Heap.get?_push_of_some _ ho1)
 have kp:∀ b o,s.heap.get? b=some o→o.cls=.type "tuple"→H.get? b=some o:=fun b o q c=>by
  have:b≠a:=by rintro rfl;rw [ho] at q;cases q;injection c with c;exact absurd c (by decide)
  rw [← hH]
  exact Heap.get?_push_of_some _ (Heap.get?_push_of_some _ (by rw [Heap.get?_update_ne _ _ _ _ this];exact q))
 have fin:∀ p:Array Nat,Pm vs.length p→Up (rks ts) p vs.length→P (.done (.ret .none)) { s with heap:=H.update a (Obj.mapSeq fun _=>List.toArray (p.toList.map fun i=>vs.getD i .none)) }:=fun p h1 h2=>by
  rw [← hH];exact h p h1 h2
 rw [list_sort_plain]
 refine wpAny_bind (listItems_at ho rfl (wpAny_bind (listUpdate_at ho rfl (wpAny_bind (seqEpoch_at ho1 rfl (wpAny_bind (wpAny_newTuple (wpAny_bind (wpAny_newList (wpAny_holding ?_) (Nat.zero_le _))) (by show vs.length≤_;rw [sizeLine_eq];exact oz150 h64))))) (by rw [List.size_toArray,sizeLine_eq];exact oz150 h64) (Nat.zero_le _))))
 show wpAny C.M A _ P E { s with heap:=((s.heap.update a (Obj.mapSeq fun _=>(#[]:Array Value))).push (seqObj "tuple" vs.toArray 0)).push (seqObj "list" #[] 0) }
 rw [hH]
 dsimp only
 by_cases h2:vs.toArray.size<2
 ·rw [if_pos h2,if_pos h2]
  refine wpAny_bind (wpAny_pure ?_)
  rw [StateT.run_pure]
  refine wpAny_bind (wpAny_pure ?_)
  dsimp only
  obtain ⟨v,rfl⟩:∃ v,vs=[v]:=by
   match vs,hpos,h2 with
   | [v],_,_=>exact ⟨v,rfl⟩
   | _::_::_,_,h2=>rw [List.size_toArray,List.length_cons,List.length_cons] at h2;exact (oz151 h2).elim
  have harr:Array.map (fun x:Keyed=>x.2) (arrOf (SortSt.mk' general' ([v].toArray.zip [v].toArray) #[] 7 none))=List.toArray ((#[0]:Array Nat).toList.map fun i=>[v].getD i .none):=by
   show Array.map (fun x:Keyed=>x.2) ([v].toArray.zip [v].toArray)=_
   simp
  rw [harr]
  refine wpAny_bind (seqEpoch_at ho6 rfl (wpAny_bind (listUpdate_at ho6 rfl ?_ (Nat.zero_le _) (by show 1≤_;rw [sizeLine_eq];exact oz152))))
  simp only [bne_self_eq_false,Bool.false_eq_true,if_false]
  refine wpAny_pure (fin #[0] (Array.Perm.refl _) fun i j a b=>?_)
  have b:j<1:=b
  rw [show i=j by exact oz114 b a];exact Int.le_refl _
 ·rw [if_neg h2,if_neg h2]
  have h2:2≤vs.length:=by rw [List.size_toArray] at h2;exact oz153 h2
  obtain ⟨fs,f1,f2,f3⟩:=kat_tups kp hv fun t ht e=>absurd (h4 t ht) (by rw [e];decide)
  refine wpAny_bind (kat_kind (s:={ s with heap:=H }) (T:=.type "int") f1 (by exact oz154 hpos hl f2) (fun v hv=>?_) (by rfl) ?_)
  ·obtain ⟨i,t,rfl⟩:=f3 v hv
   exact fun A Q E s _ q=>wpAny_pure q
  have hw:(kas_sort vs.length).kasWp (kas_ask C.prog C.w A (tuples' (Value.type "int" != Value.type "tuple")) vs) (fun p s'=>(Pm vs.length p∧Up (rks ts) p vs.length)∧s'={ s with heap:=H }) { s with heap:=H }:=by
   refine Run.wp (fun i j K hi hj hK=>?_) (fun p hp=>⟨hp,rfl⟩) (sort_ok hpos)
   refine ex4 (tup_at hv (hl▸hi)) fun b o xs m zq0=>?_;have g1:=zq0.1;have g2:=zq0.2.1;have g3:=zq0.2.2.1;have g4:=zq0.2.2.2.1;have g5:=zq0.2.2.2.2;clear zq0
   refine ex4 (tup_at hv (hl▸hj)) fun b' o' xs' m' zq0=>?_;have g1':=zq0.1;have g2':=zq0.2.1;have g3':=zq0.2.2.1;have g4':=zq0.2.2.2.1;have g5':=zq0.2.2.2.2;clear zq0
   have li:(ts.getD i []).length=4:=h4 _ (by rw [List.getD_eq_getElem?_getD,List.getElem?_eq_getElem (hl▸hi)];exact List.getElem_mem _)
   have lj:(ts.getD j []).length=4:=h4 _ (by rw [List.getD_eq_getElem?_getD,List.getElem?_eq_getElem (hl▸hj)];exact List.getElem_mem _)
   unfold kas_ask
   rw [g1,g1']
   refine kat_lt (b:=true) (s:={ s with heap:=H }) (kp _ _ g2 g3) g4 (kp _ _ g2' g3') g4' ?_
   have hs:decide (xs.size<xs'.size)=false:=by
    have q1:=g5.length;have q2:=g5'.length
    rw [Array.length_toList] at q1 q2
    exact decide_eq_false (by exact oz155 li lj q1 q2)
   rw [hs]
   refine lex_ok g5 g5' (by exact oz156 li lj) ?_
   have hm:ts.getD i []∈ts:=by rw [List.getD_eq_getElem?_getD,List.getElem?_eq_getElem (hl▸hi)];exact List.getElem_mem _
   rw [← rk_lt hm];exact hK
  refine wpAny_bind (wpAny_mono (kat_run (Q:=fun st' s'=>∃ p:Array Nat,arrOf st'=p.map (kas_item (vs.toArray.zip vs.toArray))∧failedOf st'=none∧(Pm vs.length p∧Up (rks ts) p vs.length)∧s'={ s with heap:=H }) rfl h2 h64 (fun p st' s' a1 a2 a3 a4=>⟨p,a2,a3,a4⟩) hw) ?_ fun _ _ e=>e)
  rintro ⟨⟨⟩,st'⟩ s' ⟨p,har,hf,⟨p1,p2⟩,rfl⟩
  dsimp only
  rw [kat_snds rfl har,hf]
  refine wpAny_bind (seqEpoch_at ho6 rfl (wpAny_bind (listUpdate_at ho6 rfl ?_ (Nat.zero_le _) (by rw [List.size_toArray,List.length_map,Array.length_toList,p1.size,sizeLine_eq];exact oz157 h64))))
  simp only [bne_self_eq_false,Bool.false_eq_true,if_false]
  exact wpAny_pure (fin p p1 p2)
end
section
variable {C:Cx} {st:St} {s:Shared} {A:Around} {P:V→St→Prop}
theorem vrs_at {st:St} {h:Heap} {l:List V} {vs:List Value}:(vs.length=l.length∧∀ (i:Nat) x,l[i]?=some x→∃ v,vs[i]?=some v∧VR st h x v)→VRs st h l vs:=by
 induction l generalizing vs with
 | nil =>
  rintro ⟨h1,_⟩
  exact List.eq_nil_of_length_eq_zero h1
 | cons x r ih =>
  rintro ⟨h1,h2⟩
  cases vs with
  | nil=>cases h1
  | cons v vs =>
   refine ex1 (h2 0 x rfl) fun v' zq0=>?_;have e:=zq0.1;have h3:=zq0.2;clear zq0
   cases e
   exact ⟨v,vs,rfl,h3,ih ⟨Nat.succ.inj h1,fun i y hy=>h2 (i+1) y hy⟩⟩
theorem sorted_lists {k:Nat} {r:Addr} (g:Good A k) (W:WR C st s.heap) {l:List V} (e:st r=some (.list l)) {ts:List (List Int)} (hl:l.length<64) (ht:intTups l=some ts) (hn:ts≠[]) (h4:∀ t∈ts,∃ x y z u,t=[x,y,z,u])
  (p:∀ us:List (List Int),us.Perm ts→us.Pairwise (fun x y=>lexLt y x=false)→newW (.list (us.map fun t=>.tup (t.map .int))) st P):wpAny C.M A (call (.builtin "sorted") [.ref r]) (EP C st s P) NoE s:=by
 refine ex2 (isList W e) fun vs n zq0=>?_;have e1:=zq0.1;have e2:=zq0.2.1;have e3:=zq0.2.2.1;have e4:=zq0.2.2.2.1;have e5:=zq0.2.2.2.2;clear zq0
 rw [intTups_eq ht] at e3
 have hlen:vs.length=ts.length:=by rw [e3.length,List.length_map]
 refine Calls.call_function_entry kind_sorted plain_sorted entry_sorted (args_sorted1 _) ?_
 unfold Builtin.«sorted»
 refine wpAny_bind (m:=checkCount "sorted" 1 1 _) (wpAny_pure (wpAny_bind (collect_list e2 (wpAny_bind (wpAny_newList ?_ (by rw [sizeLine_eq];exact oz158 hl e5))) (by rw [sizeLine_eq];exact oz158 hl e5))))
 have hsz:((s.heap.push (seqObj "list" #[] 0)).update s.heap.objs.size (Obj.mapSeq (·++vs.toArray))).objs.size=s.heap.objs.size+1:=by rw [Heap.size_update,size_push']
 have hoL:(((s.heap.push (seqObj "list" #[] 0)).update s.heap.objs.size (Obj.mapSeq (·++vs.toArray))).push (seqObj "list" vs.toArray 0)).get? (s.heap.objs.size+1)=some (seqObj "list" vs.toArray 0):=by
  rw [← hsz];exact Heap.get?_push_size _ rfl
 have keep:∀ b o,s.heap.get? b=some o→(((s.heap.push (seqObj "list" #[] 0)).update s.heap.objs.size (Obj.mapSeq (·++vs.toArray))).push (seqObj "list" vs.toArray 0)).get? b=some o:=fun b o q =>
  Heap.get?_push_of_some _ (by rw [Heap.get?_update_ne _ _ _ _ (Nat.ne_of_lt (Heap.lt_size q))];exact Heap.get?_push_of_some _ q)
 show wpAny _ _ _ _ _ { s with heap:=((s.heap.push (seqObj "list" #[] 0)).update s.heap.objs.size (Obj.mapSeq (·++vs.toArray))).push (seqObj "list" vs.toArray 0) }
 rw [hsz]
 refine wpAny_bind (wpAny_holding (wpAny_call_entry slot_list_sort ⟨_,hoL,rfl⟩ entry_list_sort (sort_tups (st:=st) hoL (VRs.mono (fun _ h=>h) (fun b o h1 h2 _=>⟨h1,keep b o h2⟩) _ e3) (fun t ht=>by obtain ⟨x,y,z,u,rfl⟩:=h4 t ht;rfl) hn (by exact oz159 hl e5) fun q h1 h2=>⟨_,rfl,?_⟩) (args_list_sort _)))
 refine wpAny_pure ⟨_,rfl,?_⟩
 refine ex1 (sortedAll_at s.heap vs (List.toArray (q.toList.map fun i=>vs.getD i .none))) fun c hc=>?_
 have hq:q.toList.Perm (List.range vs.length):=by simpa using Array.perm_iff_toList_perm.mp h1
 have hin:∀ i∈q.toList,i<ts.length:=fun i hi=>hlen▸List.mem_range.mp (hq.mem_iff.mp hi)
 have hr:(List.range vs.length).map (fun i=>ts.getD i [])=ts:=by
  rw [hlen]
  refine List.ext_getElem (by simp) fun i a b=>?_
  rw [List.getElem_map,List.getElem_range,List.getD_eq_getElem?_getD,List.getElem?_eq_getElem b];rfl
 have hk:∀ b o,s.heap.get? b=some o→(sortedAll s.heap vs (List.toArray (q.toList.map fun i=>vs.getD i .none))).get? b=some o:=fun b o h=>sortedAll_old h
 have ha:s.heap.get? (s.heap.objs.size+1)=none:=Heap.get?_none_of_le (Nat.le_succ _)
 refine EP.new W (p (q.toList.map fun i=>ts.getD i []) ((hq.map fun i=>ts.getD i []).trans (List.Perm.of_eq hr)) ?_) _ ha hk ⟨_,c,hc,?_,?_⟩
 ·refine List.pairwise_map.mpr (List.pairwise_iff_getElem.mpr fun i j hi hj hij=>?_)
  have:=h2 i j (Nat.le_of_lt hij) (by rw [Array.length_toList,h1.size] at hj;exact hj)
  unfold ky at this
  rw [Array.getD_eq_getD_getElem?,Array.getD_eq_getD_getElem?,← Array.getElem?_toList,← Array.getElem?_toList,List.getElem?_eq_getElem hi,List.getElem?_eq_getElem hj] at this
  have hm:ts.getD (q.toList[j]) []∈ts:=by
   have:=hin _ (List.getElem_mem hj)
   rw [List.getD_eq_getElem?_getD,List.getElem?_eq_getElem this];exact List.getElem_mem _
  rw [← rk_lt hm]
  exact decide_eq_false (Int.not_lt.mpr this)
 ·refine VRs.alloc W hk ha (vrs_at ⟨by rw [List.length_map,List.length_map,List.length_map],fun i x hx=>?_⟩)
  rw [List.getElem?_map,List.getElem?_map] at hx
  refine ex1 (Option.map_eq_some_iff.mp hx) fun t zq0=>?_;have ht':=zq0.1;obtain rfl:=zq0.2;clear zq0
  refine ex1 (Option.map_eq_some_iff.mp ht') fun m zq0=>?_;have hm:=zq0.1;obtain rfl:=zq0.2;clear zq0
  have hmt:=hin m (List.mem_of_getElem? hm)
  obtain ⟨v,v1,v2⟩:=e3.get (i:=m) (x:=tupV (ts.getD m [])) (by rw [List.getElem?_map,List.getD_eq_getElem?_getD,List.getElem?_eq_getElem hmt];rfl)
  exact ⟨v,by rw [List.getElem?_map,hm];show some (vs.getD m .none)=_;rw [List.getD_eq_getElem?_getD,v1];rfl,v2⟩
 ·rw [List.length_map,List.length_map,Array.length_toList,h1.size];exact oz160 hl e5
end
section
variable {C:Cx} {st:St} {s:Shared} {A:Around} {P:V→St→Prop}
theorem intsAre_at:∀ {vs:List Value} {ns:List Int},vs.length=ns.length→(∀ (j:Nat) v,vs[j]?=some v→∃ k t,ns[j]?=some k∧v=.int k t)→IntsAre vs ns
 | [],[],_,_=>.nil
 | [],_::_,h,_=>nomatch h
 | _::_,[],h,_=>nomatch h
 | v::vs,n::ns,h,f=>by
  refine ex2 (f 0 v rfl) fun k t zq0=>?_;have h1:=zq0.1;obtain rfl:=zq0.2;clear zq0
  cases h1
  exact .cons n t (intsAre_at (Nat.succ.inj h) fun j v hv=>f (j+1) v hv)
theorem vrs_ints {st:St} {h:Heap}:∀ {vs:List Value} {ns:List Int},IntsAre vs ns→VRs st h (ns.map .int) vs
 | _,_,.nil=>rfl
 | _,_,.cons n t r=>⟨_,_,rfl,⟨t,rfl⟩,vrs_ints r⟩
theorem sorted_keys {k:Nat} {r:Addr} (g:Good A k) (W:WR C st s.heap) {es:List (Int×V)} {n:Nat} (e:st r=some (.dict es n)) (hl:es.length<64)
  (p:∀ ks:List Int,ks.Perm (es.map (·.1))→ks.Pairwise (·≤·)→newW (.list (ks.map .int)) st P):wpAny C.M A (call (.builtin "sorted") [.ref r]) (EP C st s P) NoE s:=by
 refine ex1 (isDict W e) fun kvs zq0=>?_;have e1:=zq0.1;have e2:=zq0.2.1;have e3:=zq0.2.2.1;clear zq0
 have hlen:kvs.length=es.length:=e2.length
 refine Calls.call_function_entry kind_sorted plain_sorted entry_sorted (args_sorted1 _) ?_
 unfold Builtin.«sorted»
 refine wpAny_bind (m:=checkCount "sorted" 1 1 _) (wpAny_pure (wpAny_bind (kdu_collect (kdl_dict (knd:=intKind C.prog C.w) (notMods W (by rw [e];exact fun h=>nomatch h))) g.hand e1 (by rw [sizeLine_eq];exact oz158 hl hlen) fun h' tk acc hk hacc=>?_)))
 have hz:acc.toList.length=kvs.length:=by rw [Array.length_toList];exact hacc.1
 have hi:IntsAre acc.toList (kvs.map (·.1)):=intsAre_at (by rw [hz,List.length_map]) fun j v hv=>by
  obtain ⟨k,x,h1,h2⟩:=hacc.2 j v (by rw [← Array.getElem?_toList];exact hv)
  obtain ⟨t,rfl⟩:=Value.isInt_shape h2
  exact ⟨k,t,by rw [List.getElem?_map,h1];rfl,rfl⟩
 refine wpAny_bind (wpAny_newList ?_ (by rw [hz,sizeLine_eq];exact oz158 hl hlen))
 have hoL:(h'.push (seqObj "list" acc.toList.toArray 0)).get? h'.objs.size=some (seqObj "list" acc.toList.toArray 0):=Heap.get?_push_size _ rfl
 show wpAny _ _ _ _ _ { s with heap:=h'.push (seqObj "list" acc.toList.toArray 0),toks:=tk }
 refine wpAny_bind (wpAny_holding (wpAny_call_entry slot_list_sort ⟨_,hoL,rfl⟩ entry_list_sort (list_sort_tree hoL hi (by exact oz161 hl hlen hz) fun out ns a1 a2 a3=>⟨_,rfl,?_⟩) (args_list_sort _)))
 refine wpAny_pure ⟨_,rfl,?_⟩
 refine ex1 (sortedHeap_at (vs:=acc.toList) (out:=out) hoL) fun c hc=>?_
 have hk2:∀ b o,s.heap.get? b=some o→(sortedHeap (h'.push (seqObj "list" acc.toList.toArray 0)) h'.objs.size acc.toList out).get? b=some o:=fun b o q=>by
  have:=Heap.lt_size (hk _ _ q)
  rw [sortedHeap_old (Nat.ne_of_lt this) (by rw [size_push'];exact Nat.lt_succ_of_lt this)]
  exact Heap.get?_push_of_some _ (hk _ _ q)
 have ha:s.heap.get? h'.objs.size=none:=by
  cases hq:s.heap.get? h'.objs.size with
  | none=>rfl
  | some o=>exact absurd (Heap.lt_size (hk _ _ hq)) (Nat.lt_irrefl _)
 refine EP.new W (p ns (e2.keys▸a2) a3) _ ha hk2 ⟨out.toList,c,by rw [hc,seqO,Array.toArray_toList],vrs_ints a1,?_⟩
 have:=a2.length_eq
 rw [List.length_map] at this ⊢;exact oz162 hl hlen this
end
set_option maxRecDepth 100000
section
variable {C:Cx} {st:St} {s:Shared} {A:Around} {P:V→St→Prop}
theorem byt_dunder:typeLookup (.type "bytes") "__bytes__"=pure (some (.builtin "bytes.__bytes__")):=by rw [typeLookup_type,builtinLookup_eq_fast];kernel_rfl
theorem if_f {α:Type} {M:Model} {c:Bool} {a b:Sem α} {Q:α→Shared→Prop} {E:Value→Shared→Prop} (hc:c=false) (h:wpAny M A b Q E s):wpAny M A (if c=true then a else b) Q E s:=by
 subst hc;exact h
theorem if_t {α:Type} {M:Model} {c:Bool} {a b:Sem α} {Q:α→Shared→Prop} {E:Value→Shared→Prop} (hc:c=true) (h:wpAny M A a Q E s):wpAny M A (if c=true then a else b) Q E s:=by
 subst hc;exact h
theorem bytes_same {prog:Program} {w:World} {E:Value→Shared→Prop} {b:Array UInt8} {t:Tok} {Q:Value→Shared→Prop} (h:Q (.bytes b t) s):wpAny (model prog w) A (call (.type "bytes") [.bytes b t]) Q E s:=by
 refine callType_codes (Q₁:=fun obj s₁=>s₁.TypeIs obj "bytes"∧Q obj s₁) F.bm_called (F.bm_typeCall _) F.entry_object_init ?_ fun obj s₁ h₁=>⟨h₁.1,F.args_object_init_2 obj _,object_init_meets F.bm_called.init.lookup F.bm_called.made (by decide) prog w A.in1 _ s₁ ⟨h₁.1,rfl,h₁.2⟩⟩
 refine codeAny_of_tree ?_
 show wpAny _ A.in1.in1 (do checkBuiltinCall "bytes.__new__" ⟨[.type "bytes",.bytes b t],[]⟩;again (.builtin "bytes.__new__" ⟨[.type "bytes",.bytes b t],[]⟩)) _ _ s
 refine wpAny_bind (wpAny_of_eq (F.bm_newCall _) (wpAny_pure ⟨plainId_quiet F.bm_plain _,codeAny_builtin F.bm_entry ?_⟩))
 rw [Around.under_plainId F.bm_plain _]
 have hT:s.TypeIs (.bytes b t) "bytes":=typeIs_bytes _ _ _
 unfold Builtin.«bytes.__new__»
 refine wpAny_bind (wpAny_of_eq (a:=true) rfl ?_)
 refine if_f rfl ?_
 refine wpAny_bind (wpAny_of_eq F.bm_sub ?_)
 refine if_f rfl ?_
 refine wpAny_bind (wpAny_of_eq (F.bm_bind _) ?_)
 refine wpAny_bind (wpAny_of_eq (a:=()) rfl ?_)
 refine wpAny_bind (wpAny_of_eq (a:=()) rfl ?_)
 refine if_f rfl ?_
 refine wpAny_bind (wpAny_specialOf hT byt_dunder ?_)
 refine wpAny_bind (wpAny_rule ?_)
 refine wpAny_bind (wpAny_typeOf hT ?_)
 refine if_t (by decide) ?_
 exact wpAny_pure ⟨hT,h⟩
end
section
variable {C:Cx} {st:St} {s:Shared} {A:Around} {P:V→St→Prop}
theorem byt_hint {prog:Program} {w:World} {E:Value→Shared→Prop} {b:Array UInt8} {t:Tok} {Q:Bool→Shared→Prop} (h:Q false s):wpAny (model prog w) A (Builtin.List.listLengthHint (.bytes b t)) Q E s:=by
 have hT:s.TypeIs (.bytes b t) "bytes":=typeIs_bytes _ _ _
 unfold Builtin.List.listLengthHint
 refine wpAny_bind (wpAny_specialOf hT PySem.W.FB.slot_bytes_len.lookup ?_)
 generalize hid:("bytes.__len__":String)=id0
 wp_delta
 rw [show splitId id0=some ("bytes","__len__") from by subst hid;decide +kernel]
 subst hid
 refine wpAny_bind (wpAny_isInstance (T:="bytes") (b:=true) hT (by rw [isSubtype_type];kernel_rfl) ?_)
 refine wpAny_ite_split (fun hab=>absurd hab (by decide)) (fun _=>?_)
 refine wpAny_ite_split (fun _=>?_) (fun hab=>absurd (by decide +kernel) hab)
 refine wpAny_bind (wpAny_typeOf hT ?_)
 exact wpAny_pure h
theorem byt_extend {prog:Program} {w:World} {b:Array UInt8} {t:Tok} {R:Result→Shared→Prop} (hh:A.handled=none) (hn:b.size≤sizeLine) (S:Addr) (c₀:Nat) (hS:s.heap.get? S=some { cls:=.type "list",data:=.seq #[] c₀ })
  (hR:∀ h' tk acc c,(∀ b o,b≠S→s.heap.get? b=some o→h'.get? b=some o)→h'.get? S=some { cls:=.type "list",dict:=none,data:=.seq acc c,slots:=#[] }→ItemsOf (fun i v=>∃ c u,b[i]?=some c∧v=.int (c.toNat:Int) u) acc b.size→R (.ok (.ret .none)) { s with heap:=h',toks:=tk }) :
  wpAny (model prog w) A.in1 (Builtin.List.listExtendWith (.ref S) (.bytes b t) .none)
   (fun fin s'=>match fin with | .done f=>R (.ok f) s' | .again c'=>c'.quiet=true∧codeAny (model prog w) A c' R s') (fun e s'=>R (.error e) s') s:=by
 have hSI:S≠s.heap.objs.size:=Nat.ne_of_lt (Heap.lt_size hS)
 unfold Builtin.List.listExtendWith
 refine wpAny_bind (wpAny_typeOf (typeIs_bytes s b t) ?_)
 refine if_f (by rfl) ?_
 refine wpAny_bind (KBw.pyIter_bytes ?_)
 have hS₁:=Heap.get?_push_of_some { cls:=.type "bytes_iterator",data:=.fields #[.bytes b t,.int 0 0] } hS
 refine wpAny_bind (wpAny_holding (byt_hint ?_))
 refine if_f (by decide) ?_
 refine wpAny_pure ⟨plainId_quiet PySem.F.plain_extend_loop _,codeAny_extend_loopS (KBw.walks (prog:=prog) (w:=w) (A:=A.in1) hh s.heap.objs.size b t).toS hn S (by simpa using hSI) .none b.size 0 _ #[] c₀ rfl (Nat.zero_le _) ⟨_,Heap.get?_push_size _ rfl,rfl,rfl⟩ hS₁ (ItemsOf.nil _) fun s' acc' c' hm hS' hacc=>?_⟩
 rw [Moved.eq_with hm]
 refine hR s'.heap s'.toks acc' c' (fun x o hb e=>hm.heap x o (fun hmem=>?_) (Heap.get?_push_of_some _ e)) hS' hacc
 rcases List.mem_cons.mp hmem with e' | hmem
 ·exact hb e'
 ·exact absurd (Heap.lt_size e) (by rw [List.mem_singleton.mp hmem];exact Nat.lt_irrefl _)
theorem list_bytes {prog:Program} {w:World} {E:Value→Shared→Prop} {b:Array UInt8} {t:Tok} {Q:Value→Shared→Prop} (hh:A.handled=none) (hn:b.size≤sizeLine)
  (hQ:∀ h' tk acc c,(∀ b o,s.heap.get? b=some o→h'.get? b=some o)→h'.get? s.heap.objs.size=some { cls:=.type "list",dict:=none,data:=.seq acc c,slots:=#[] }→ItemsOf (fun i v=>∃ c u,b[i]?=some c∧v=.int (c.toNat:Int) u) acc b.size→Q (.ref s.heap.objs.size) { s with heap:=h',toks:=tk }) :
  wpAny (model prog w) A (call (.type "list") [.bytes b t]) Q E s:=by
 refine callType_codes (Q₁:=fun obj s₁=>obj=.ref s.heap.objs.size∧s₁={ s with heap:=s.heap.push { cls:=.type "list",data:=.seq #[] } }) PySem.F.called_list (PySem.F.typeCall_list_1 _) PySem.F.entry_list_init
  (code_list_new _ ⟨rfl,rfl⟩) fun obj s₁ h₁=>?_
 obtain rfl:=h₁.1;obtain rfl:=h₁.2;clear h₁
 have hS:(s.heap.push { cls:=.type "list",data:=.seq #[] }).get? s.heap.objs.size=some { cls:=.type "list",data:=.seq #[] }:=Heap.get?_push_size _ rfl
 refine ⟨⟨_,hS,rfl⟩,PySem.F.args_list_init_2 _ _,?_⟩
 show wpAny _ _ (do let old ← Builtin.List.listItems (.ref s.heap.objs.size);Builtin.List.listUpdate (.ref s.heap.objs.size) (fun _=>#[]);letGo old.toList.reverse;Builtin.List.listExtendWith (.ref s.heap.objs.size) (.bytes b t) .none) _ _ _
 refine wpAny_bind ?_
 unfold Builtin.List.listItems
 refine wpAny_bind (wpAny_seqItems hS rfl (wpAny_pure ?_))
 show wpAny _ _ (updateSeq s.heap.objs.size (fun _=>#[]) >>= fun _=>letGo (#[]:Array Value).toList.reverse >>= fun _=>Builtin.List.listExtendWith (.ref s.heap.objs.size) (.bytes b t) .none) _ _ _
 refine wpAny_bind (wpAny_updateSeq hS rfl ?_)
 have hS₂:=Heap.get?_update_self (Obj.mapSeq (fun _=>(#[]:Array Value))) hS rfl
 refine wpAny_bind (wpAny_letGo ?_)
 refine byt_extend (A:=A.in1) hh hn _ _ hS₂ fun h' tk acc c hk hS' hacc=>⟨rfl,hQ h' tk acc c (fun x o e=>?_) hS' hacc⟩
 have hx:x≠s.heap.objs.size:=Nat.ne_of_lt (Heap.lt_size e)
 exact hk x o hx ((Heap.get?_update_other _ _ (Ne.symm hx)).trans (Heap.get?_push_of_some _ e))
end
section
variable {C:Cx} {st:St} {s:Shared} {A:Around} {P:V→St→Prop}
theorem list_no_keys:typeLookup (.type "list") "keys"=pure none:=by rw [typeLookup_type,builtinLookup_eq_fast];kernel_rfl
set_option maxHeartbeats 4000000 in
theorem no_keys {prog:Program} {w:World} {E:Value→Shared→Prop} {a:Addr} {xs:Array Value} {k:Nat} {Q:Option Value→Shared→Prop} (hx:s.heap.get? a=some { cls:=.type "list",data:=.seq xs k }) (hA:A.handled=none)
  (h:∀ h' tk,(∀ b o,s.heap.get? b=some o→h'.get? b=some o)→Q none { s with heap:=h',toks:=tk }):wpAny (model prog w) A (getAttr? (.ref a) "keys") Q E s:=by
 obtain ⟨hp,g,d,tk,os⟩:=s
 have hT:∀ tk',(⟨hp,g,d,tk',os⟩:Shared).TypeIs (.ref a) "list":=fun _=>⟨_,hx,rfl⟩
 have f1:=sub_AttributeError
 have f3:=F.slot_list_getattribute.lookup
 have f4:=F.slot_list_getattribute.bind (.ref a)
 have f5:=am_list_getattr_none
 unfold getAttr? getAttrBy? getAttrBy
 repeat (any_goals (first | assumption | exact hT _ | ((with_reducible show wpAny _ _ (call (Value.builtin "list.__getattribute__") _ _) _ _ _);refine call_meets F.slot_list_getattribute (hT _) am_entry_list_getattribute (F.args_list_getattribute_2 _ _) (meets_getattribute_miss_list a xs k _ _ _ list_no_keys (by decide +kernel) (by rw [sizeLine_eq];decide)) ⟨hx,hA,fun h' tk' e hx'=>?_⟩) | wp_step))
 refine ex2 (hx'.there) fun t' u' he=>?_
 show wpAny _ _ (getattributeRaised _ _ _ _ _ _ _) _ _ _
 unfold getattributeRaised
 repeat (any_goals (first | assumption | wp_step))
 exact h _ _ hx'.keeps
end
section
variable {C:Cx} {st:St} {s:Shared} {A:Around} {P:V→St→Prop}
theorem upd_entry:entryFor table "dict.update.loop"=some Builtin.«dict.update.loop»:=by first | exact entryFor_of_fast (by kernel_rfl) | exact entryFor_of_tree (by kernel_rfl)
theorem upd_plain:plainId "dict.update.loop"=true:=by decide +kernel
theorem upd_loop {prog:Program} {w:World} {R:Result→Shared→Prop} {l I d:Addr} {vs:List Value} (hh:A.handled=none) (hId:I≠d) (hlI:l≠I) (hld:l≠d) :
  ∀ (ps:List (Int×Value)) (i:Nat) (z:Int) (s:Shared) (kvs:List (Int×Value)),vs.length=i+ps.length→(∀ (j:Nat) p,ps[j]?=some p→∃ b o t n,vs[i+j]?=some (.ref b)∧b≠I∧b≠d∧s.heap.get? b=some o∧o.cls=.type "tuple"∧o.data=.seq #[.int p.1 t,p.2] n) →
   s.heap.IsList l vs.toArray→s.heap.IsListIter I l i→s.heap.DictOf (intKind prog w) d kvs→kvs.length+ps.length≤16777216 →
   (∀ h' tk,h'.DictOf (intKind prog w) d (ps.foldl (fun m p=>stored m p.1 p.2) kvs)→(∀ b o,b≠I→b≠d→s.heap.get? b=some o→h'.get? b=some o)→R (.ok (.ret .none)) { s with heap:=h',toks:=tk }) →
   codeAny (model prog w) A (.builtin "dict.update.loop" ⟨[.ref d,.ref I,rawInt z,.none],[]⟩) R s:=by
 intro ps;induction ps with
 | nil =>
  intro i z s kvs hl hp hls hit hd hz hR
  refine codeAny_builtin upd_entry ?_
  rw [Around.under_plainId upd_plain _]
  show wpAny _ A.in1 (pyNext (.ref I) >>= _) _ _ s
  refine wpAny_bind (wpAny_pyNext_list_end hh hit hls (by simp at hl ⊢;exact oz163 hl) fun h' he=>?_)
  show wpAny _ _ (Builtin.Dict.addKeywords d [] >>= _) _ _ _
  exact wpAny_bind (wpAny_pure (wpAny_pure (hR h' _ (ex3 hd fun o es ep r=>⟨o,es,ep,he _ _ hId.symm r.1,r.2⟩) fun b o h1 _ e=>he b o h1 e)))
 | cons p ps ih =>
  intro i z s kvs hl hp hls hit hd hz hR
  refine ex4 (hp 0 p rfl) fun b o t n zq0=>?_;have h1:=zq0.1;have h2:=zq0.2.1;have h3:=zq0.2.2.1;have h4:=zq0.2.2.2.1;have h5:=zq0.2.2.2.2.1;have h6:=zq0.2.2.2.2.2;clear zq0
  refine codeAny_builtin upd_entry ?_
  rw [Around.under_plainId upd_plain _]
  show wpAny _ A.in1 (pyNext (.ref I) >>= _) _ _ s
  refine wpAny_bind (wpAny_pyNext_list_item (x:=.ref b) hit hls (by simpa using h1) fun h' hit' hs=>?_)
  have hb':h'.get? b=some o:=(hs.2 b h2).trans h4
  have hT:({ s with heap:=h' }:Shared).TypeIs (.ref b) "tuple":=⟨o,hb',h5⟩
  refine wpAny_bind (wpAny_holding (wpAny_bind (wpAny_tryCatch ?_)))
  unfold Builtin.Dict.pairItems
  refine wpAny_bind (wpAny_typeOf hT (if_t (by decide) ?_))
  refine wpAny_bind ?_
  show wpAny _ _ (load b >>= _) _ _ _
  refine wpAny_bind (wpAny_load hb' ?_)
  rw [h6]
  refine wpAny_pure (wpAny_pure ?_)
  show wpAny _ _ (holding [.int p.1 t,p.2] (dictSet d (.int p.1 t) p.2)) _ _ _
  refine wpAny_holding ?_
  have hd':h'.DictOf (intKind prog w) d kvs:=ex3 hd fun o es ep r=>⟨o,es,ep,(hs.2 d hId.symm).trans r.1,r.2⟩
  refine wpAny_dictSet_pairs (knd:=intKind prog w) (k:=p.1) (by simp [intKind,Value.isInt]) hd' (fun h2' hd2 hs2=>?_) (by rw [sizeLine_eq];rw [List.length_cons] at hz;exact oz164 hz)
  have kp:∀ x o,x≠I→x≠d→s.heap.get? x=some o→h2'.get? x=some o:=fun x o a b e=>(hs2.2 x b).trans ((hs.2 x a).trans e)
  have hst:(stored kvs p.1 p.2).length≤kvs.length+1:=by
   unfold stored;split
   ·rw [List.length_map];exact oz165
   ·rw [List.length_append];exact Nat.le_refl _
  rw [List.length_cons] at hl hz
  refine wpAny_pure ⟨plainId_quiet upd_plain _,ih (i+1) _ { s with heap:=h2',toks:=s.toks+1 } _ (by exact oz166 hl) (fun j q hq=>?_) (ex1 hls fun o r=>⟨o,kp l o hlI hld r.1,r.2⟩) (ex1 hit' fun o r=>⟨o,(hs2.2 I hId).trans r.1,r.2⟩) hd2 (by exact oz167 hz hst) fun h3' tk k1 k2=>hR h3' tk k1 fun x o a b e=>k2 x o a b (kp x o a b e)⟩
  refine ex4 (hp (j+1) q hq) fun b' o' t' n' zq0=>?_;have g1:=zq0.1;have g2:=zq0.2.1;have g3:=zq0.2.2.1;have g4:=zq0.2.2.2.1;have g5:=zq0.2.2.2.2.1;have g6:=zq0.2.2.2.2.2;clear zq0
  exact ⟨b',o',t',n',by rw [← g1];congr 1;exact oz168,g2,g3,kp _ _ g2 g3 g4,g5,g6⟩
end
section
variable {C:Cx} {st:St} {s:Shared} {A:Around} {P:V→St→Prop}
theorem dict_list {prog:Program} {w:World} {E:Value→Shared→Prop} {Q:Value→Shared→Prop} {l:Addr} {vs:List Value} {k:Nat} {ps:List (Int×Value)} (hh:A.handled=none) (hx:s.heap.get? l=some { cls:=.type "list",data:=.seq vs.toArray k }) (hl:vs.length=ps.length) (hz:ps.length≤16777216)
  (hp:∀ (j:Nat) p,ps[j]?=some p→∃ b o t n,vs[j]?=some (.ref b)∧s.heap.get? b=some o∧o.cls=.type "tuple"∧o.data=.seq #[.int p.1 t,p.2] n)
  (hQ:∀ h' tk,h'.DictOf (intKind prog w) s.heap.objs.size (ps.foldl (fun m p=>stored m p.1 p.2) [])→(∀ b o,s.heap.get? b=some o→h'.get? b=some o)→Q (.ref s.heap.objs.size) { s with heap:=h',toks:=tk }) :
  wpAny (model prog w) A (call (.type "dict") [.ref l]) Q E s:=by
 refine callType_codes (Q₁:=fun obj s₁=>obj=.ref s.heap.objs.size∧s₁={ s with heap:=s.heap.push { cls:=.type "dict",data:=.dict #[] } }) F.kt_called_dict (F.kt_typeCall_dict_1 _) F.entry_dict_init (kt_code_dict_new _ ⟨rfl,rfl⟩) ?_
 rintro obj s₁ ⟨rfl,rfl⟩
 have hnew:(s.heap.push { cls:=.type "dict",data:=.dict #[] }).DictOf (intKind prog w) s.heap.objs.size []:=Heap.DictOf.new s.heap
 have hlt:l<s.heap.objs.size:=Heap.lt_size hx
 have hx':(s.heap.push { cls:=.type "dict",data:=.dict #[] }).get? l=some { cls:=.type "list",data:=.seq vs.toArray k }:=Heap.get?_push_of_some _ hx
 refine ⟨hnew.typeIs,F.args_dict_init_2 _ _,?_⟩
 unfold Builtin.«dict.__init__»
 refine wpAny_bind ?_
 unfold Builtin.Dict.selfAndRest
 refine wpAny_bind (wpAny_notOrdered_dict hnew.typeIs ?_)
 show wpAny _ _ (pure (s.heap.objs.size,[Value.ref l])) _ _ _
 refine wpAny_pure ?_
 show wpAny _ _ (Builtin.Dict.updateFrom "dict.__init__" s.heap.objs.size (.ref l) [] .none) _ _ _
 unfold Builtin.Dict.updateFrom
 refine wpAny_bind (wpAny_typeOf (T:="list") ⟨_,hx',rfl⟩ (if_t (by decide) ?_))
 refine wpAny_bind (no_keys hx' hh fun h1 tk1 k1=>if_t rfl (wpAny_bind (wpAny_rule ?_)))
 have hl1:h1.IsList l vs.toArray:=⟨_,k1 _ _ hx',rfl,_,rfl⟩
 refine wpAny_bind (wpAny_pyIter_list hl1 ?_)
 have hd1:h1.DictOf (intKind prog w) s.heap.objs.size []:=let ⟨o,es,ep,ho,r⟩:=hnew;⟨o,es,ep,k1 _ _ ho,r⟩
 have hd2:s.heap.objs.size<h1.objs.size:=let ⟨o,es,ep,ho,r⟩:=hd1;Heap.lt_size ho
 have hll:l<h1.objs.size:=Nat.lt_trans hlt hd2
 refine wpAny_pure ⟨plainId_quiet upd_plain _,upd_loop (A:=A.in1) (prog:=prog) (w:=w) (vs:=vs) hh (Nat.ne_of_gt hd2) (Nat.ne_of_lt hll) (Nat.ne_of_lt hlt) ps 0 0 _ [] (by exact oz169 hl) (fun j p hj=>?_) (hl1.push _) ⟨_,Heap.get?_push_size _ rfl,rfl,rfl⟩ (hd1.push _) (by show 0+_≤_;exact oz170 hz) fun h' tk q1 q2=>?_⟩
 ·refine ex4 (hp j p hj) fun b o t n zq0=>?_;have g1:=zq0.1;have g2:=zq0.2.1;have g3:=zq0.2.2.1;have g4:=zq0.2.2.2;clear zq0
  have hb:b<s.heap.objs.size:=Heap.lt_size g2
  exact ⟨b,o,t,n,by rw [Nat.zero_add];exact g1,Nat.ne_of_lt (Nat.lt_trans hb hd2),Nat.ne_of_lt hb,Heap.get?_push_of_some _ (k1 _ _ (Heap.get?_push_of_some _ g2)),g3,g4⟩
 ·exact ⟨rfl,hQ h' tk q1 fun b o e=>q2 b o (Nat.ne_of_lt (Nat.lt_trans (Heap.lt_size e) hd2)) (Nat.ne_of_lt (Heap.lt_size e)) (Heap.get?_push_of_some _ (k1 _ _ (Heap.get?_push_of_some _ e)))⟩
end
set_option maxRecDepth 4000
section
variable {C:Cx} {st:St} {s:Shared} {A:Around} {P:V→St→Prop}
theorem stored_nodup {ks:List (Int×Value)} (h:(ks.map (·.1)).Nodup) (k:Int) (v:Value):((stored ks k v).map (·.1)).Nodup:=by
 unfold stored
 split
 ·rw [keys_map_store];exact h
 ·rename_i hq
  rw [List.map_append]
  refine List.nodup_append.mpr ⟨h,List.nodup_cons.mpr ⟨List.not_mem_nil,List.nodup_nil⟩,fun a ha b hb e=>hq ?_⟩
  obtain rfl:=List.mem_singleton.mp hb
  refine ex1 (List.mem_map.mp ha) fun p zq0=>?_;have hp:=zq0.1;obtain rfl:=zq0.2;clear zq0
  exact List.any_eq_true.mpr ⟨p,hp,decide_eq_true e⟩
theorem dp_fold {h:Heap}:∀ {ps:List (Int×V)} {qs:List (Int×Value)},DP st h ps qs→∀ {es:List (Int×V)} {ks:List (Int×Value)},DP st h es ks→(ks.map (·.1)).Nodup →
  DP st h (ps.foldl (fun d p=>dset p.1 p.2 d) es) (qs.foldl (fun m p=>stored m p.1 p.2) ks)∧(ps.foldl (fun d p=>dset p.1 p.2 d) es).length≤es.length+ps.length
 | [],qs,e,es,ks,d,_=>by cases e;exact ⟨d,Nat.le_refl _⟩
 | (k,x)::ps,_,⟨v,r,e1,e2,e3⟩,es,ks,d,hn=>by
  subst e1
  have hs:(stored ks k v).map (·.1) |>.Nodup:=stored_nodup hn k v
  have hl:(dset k x es).length≤es.length+1:=dset_len k x es
  have zq0:=dp_fold e3 (DP.store k e2 d hn) hs;have h1:=zq0.1;have h2:=zq0.2;clear zq0
  refine ⟨h1,?_⟩
  rw [List.foldl_cons,List.length_cons]
  show (ps.foldl (fun d p=>dset p.1 p.2 d) (dset k x es)).length≤_
  exact oz171 hl h2
theorem biLate (C:Cx):BiLate C:=by
 intro st s A k P b vs us g W hv p hb
 rcases hb with rfl | ⟨rfl,l,rfl⟩ | rfl | rfl
 ·obtain ⟨v,rfl⟩:∃ v,vs=[v]:=by
   cases vs with
   | nil=>exact p.elim
   | cons v vs=>cases vs with
    | nil=>exact ⟨v,rfl⟩
    | cons w vs=>cases vs with
     | nil=>exact p.elim
     | cons w vs=>cases vs <;> exact p.elim
  refine ex2 ((show ∃ a r,us=a::r∧VR st s.heap v a∧r=[] from hv)) fun a _ zq0=>?_;obtain rfl:=zq0.1;have h1:=zq0.2.1;obtain rfl:=zq0.2.2;clear zq0
  refine ex1 (onR_ok h1 (show onR v fun a=>sortedR a st P from p)) fun r zq0=>?_;obtain rfl:=zq0.1;obtain rfl:=zq0.2.1;have p:=zq0.2.2;clear zq0
  unfold sortedR at p
  split at p
  ·rename_i es n e
   exact sorted_keys g W e p.1 p.2
  ·rename_i l e
   have p1:=p.1;refine ex1 p.2 fun ts zq0=>?_;have p2:=zq0.1;have p3:=zq0.2.1;have p4:=zq0.2.2.1;have p5:=zq0.2.2.2;clear zq0 p
   exact sorted_lists g W e p1 p2 p3 p4 p5
  ·exact p.elim
 ·refine ex2 ((show ∃ a r,us=a::r∧(∃ b t,a=.bytes b t∧b.toList.map UInt8.toNat=l∧l.length≤1100000)∧r=[] from hv)) fun a _ zq0=>?_;obtain rfl:=zq0.1;refine ex2 zq0.2.1 fun b t zq1=>?_;obtain rfl:=zq1.1;have h1:=zq1.2.1;have h2:=zq1.2.2;obtain rfl:=zq0.2.2;clear zq1 zq0
  exact bytes_same (EP.same (x:=.bytes l) W rfl ⟨b,t,rfl,h1,h2⟩ p)
 ·obtain ⟨v,rfl⟩:∃ v,vs=[v]:=by
   match vs,p with
   | [v],_=>exact ⟨v,rfl⟩
   | [],p=>exact p.elim
   | [_,_],p=>exact p.elim
   | [_,_,_],p=>exact p.elim
   | _::_::_::_::_,p=>exact p.elim
  obtain ⟨l,rfl,p⟩:∃ l,v=.bytes l∧newW (.list (l.map fun (n:Nat)=>.int (n:Int))) st P:=by
   cases v with
   | bytes l=>exact ⟨l,rfl,p⟩
   | _=>exact p.elim
  refine ex2 ((show ∃ a r,us=a::r∧(∃ b t,a=.bytes b t∧b.toList.map UInt8.toNat=l∧l.length≤1100000)∧r=[] from hv)) fun a _ zq0=>?_;obtain rfl:=zq0.1;refine ex2 zq0.2.1 fun b t zq1=>?_;obtain rfl:=zq1.1;have h1:=zq1.2.1;have h2:=zq1.2.2;obtain rfl:=zq0.2.2;clear zq1 zq0
  have hl:b.size=l.length:=by rw [← h1,List.length_map,Array.length_toList]
  refine list_bytes g.hand (by rw [sizeLine_eq];exact oz172 hl h2) fun h' tk acc c k1 k2 k3=>?_
  have ha:s.heap.get? s.heap.objs.size=none:=Heap.get?_none_of_le (Nat.le_refl _)
  refine EP.new W p _ ha k1 ⟨acc.toList,c,by rw [k2,seqO,Array.toArray_toList],vrs_at ⟨by rw [Array.length_toList,List.length_map,k3.1,hl],fun i x hx=>?_⟩,by rw [List.length_map];exact h2⟩
  rw [List.getElem?_map,← h1,List.getElem?_map] at hx
  refine ex1 (Option.map_eq_some_iff.mp hx) fun n zq0=>?_;have hn:=zq0.1;obtain rfl:=zq0.2;clear zq0
  refine ex1 (Option.map_eq_some_iff.mp hn) fun u zq0=>?_;have hu:=zq0.1;obtain rfl:=zq0.2;clear zq0
  have hi:i<acc.size:=by rw [k3.1];have:=(List.getElem?_eq_some_iff.mp hu).1;rwa [Array.length_toList] at this
  refine ex2 (k3.2 i acc[i] (Array.getElem?_eq_getElem hi)) fun c' u' zq0=>?_;have q1:=zq0.1;have q2:=zq0.2;clear zq0
  rw [← Array.getElem?_toList,hu] at q1
  cases q1
  exact ⟨_,by rw [Array.getElem?_toList];exact Array.getElem?_eq_getElem hi,u',q2⟩
 ·obtain ⟨v,rfl⟩:∃ v,vs=[v]:=by
   match vs,p with
   | [v],_=>exact ⟨v,rfl⟩
   | [],p=>exact p.elim
   | [_,_],p=>exact p.elim
   | [_,_,_],p=>exact p.elim
   | _::_::_::_::_,p=>exact p.elim
  refine ex2 ((show ∃ a r,us=a::r∧VR st s.heap v a∧r=[] from hv)) fun a _ zq0=>?_;obtain rfl:=zq0.1;have h1:=zq0.2.1;obtain rfl:=zq0.2.2;clear zq0
  refine ex1 (onR_ok h1 (show onR v fun a=>dictR a st P from p)) fun r zq0=>?_;obtain rfl:=zq0.1;obtain rfl:=zq0.2.1;have p:=zq0.2.2;clear zq0
  unfold dictR at p
  split at p
  ·rename_i l e
   refine ex1 p fun ps zq0=>?_;obtain rfl:=zq0.1;have p2:=zq0.2;clear zq0 p
   refine ex2 (isList W e) fun vs n zq0=>?_;have e1:=zq0.1;have e2:=zq0.2.1;have e3:=zq0.2.2.1;have e4:=zq0.2.2.2.1;have e5:=zq0.2.2.2.2;clear zq0
   rw [List.length_map] at e4 e5
   obtain ⟨qs,q1,q2⟩:∃ qs,DP st s.heap ps qs∧∀ (j:Nat) p,qs[j]?=some p→∃ b o t n,vs[j]?=some (.ref b)∧s.heap.get? b=some o∧o.cls=.type "tuple"∧o.data=.seq #[.int p.1 t,p.2] n:=by
    clear e1 e2 e4 e5 p2 e
    induction ps generalizing vs with
    | nil=>exact ⟨[],rfl,fun j p h=>by cases h⟩
    | cons p ps ih =>
     obtain ⟨k,x⟩:=p
     refine ex2 e3 fun v r' zq0=>?_;obtain rfl:=zq0.1;have hv1:=zq0.2.1;have hv2:=zq0.2.2;clear zq0 e3
     refine ex1 (ih _ hv2) fun qs zq0=>?_;have q1:=zq0.1;have q2:=zq0.2;clear zq0
     refine ex4 hv1 fun b o us m zq0=>?_;obtain rfl:=zq0.1;have g3:=zq0.2.2.1;have g4:=zq0.2.2.2.1;have g5:=zq0.2.2.2.2.1;have g6:=zq0.2.2.2.2.2.1;clear zq0 hv1
     obtain ⟨_,_,g7,⟨t,rfl⟩,w,_,rfl,g8,rfl⟩:=(show ∃ v r,us.toList=v::r∧(∃ t,v=.int k t)∧∃ w r',r=w::r'∧VR st s.heap x w∧r'=[] from g6)
     obtain rfl:us=#[.int k t,w]:=Array.toList_inj.mp g7
     refine ⟨(k,w)::qs,⟨w,qs,rfl,g8,q1⟩,fun j p hj=>?_⟩
     cases j with
     | zero=>cases hj;exact ⟨b,o,t,m,rfl,g3,g4,g5⟩
     | succ j=>exact q2 j p hj
   have hlen:=q1.length
   refine dict_list g.hand e1 (by exact oz173 e5 hlen) (by exact oz172 hlen e4) q2 fun h' tk d1 k1=>?_
   have ha:s.heap.get? s.heap.objs.size=none:=Heap.get?_none_of_le (Nat.le_refl _)
   refine ex1 (d1.dictAt) fun n' d2=>?_
   have zq0:=dp_fold q1 (es:=[]) (ks:=[]) rfl .nil;have f1:=zq0.1;have f2:=zq0.2;clear zq0
   refine EP.new W (p2 n') _ ha k1 ⟨_,d2,DP.mono (fun x v=>VR.alloc W k1 ha) f1,by rw [List.length_nil] at f2;exact oz174 f2 e4⟩
  ·exact p.elim
end
open PySem
noncomputable def lead (p:Nat→Bool):Nat→Nat→Nat
 | 0,i=>i
 | f+1,i=>if p i then lead p f (i+1) else i
theorem lead_le (p:Nat→Bool):∀ f i,i≤lead p f i∧lead p f i≤i+f
 | 0,i=>⟨Nat.le_refl _,Nat.le_refl _⟩
 | f+1,i=>by
  unfold lead
  have:=lead_le p f (i+1)
  split <;> omega
theorem lead_lt (p:Nat→Bool):∀ f i j,i≤j→j<lead p f i→p j=true
 | 0,i,j,h1,h2=>by unfold lead at h2;exact (oz175 h2 h1).elim
 | f+1,i,j,h1,h2=>by
  unfold lead at h2
  split at h2
  ·rename_i h
   by_cases e:j=i
   ·rw [e];exact h
   ·exact lead_lt p f (i+1) j (by exact oz176 h1 e) h2
  ·exact (oz175 h2 h1).elim
theorem lead_end (p:Nat→Bool):∀ f i,lead p f i<i+f→p (lead p f i)=false
 | 0,i,h=>by unfold lead at h;exact (oz177 h).elim
 | f+1,i,h=>by
  unfold lead at h ⊢
  split
  ·rename_i q
   rw [if_pos q] at h
   exact lead_end p f (i+1) (by exact oz95 h)
  ·rename_i q;exact Bool.eq_false_iff.mpr q
noncomputable def alk (t:List Nat) (p d:Nat):Nat:=lead (fun i=>t[p+i]?==t[p+i-d]?) (t.length-p) 0
theorem alk_le (t:List Nat) (p d:Nat):alk t p d≤t.length-p:=by have:=(lead_le (fun i=>t[p+i]?==t[p+i-d]?) (t.length-p) 0).2;unfold alk;exact oz178 this
theorem alk_lt {t:List Nat} {p d i:Nat} (h:i<alk t p d):t[p+i]?=t[p+i-d]?:=beq_iff_eq.mp (lead_lt (fun i=>t[p+i]?==t[p+i-d]?) _ 0 i (Nat.zero_le _) h)
theorem alk_end {t:List Nat} {p d:Nat} (h:alk t p d<t.length-p):t[p+alk t p d]?≠t[p+alk t p d-d]?:=by
 have:=lead_end (fun i=>t[p+i]?==t[p+i-d]?) (t.length-p) 0 (by show alk t p d<_;exact oz179 h)
 exact fun e=>Bool.eq_false_iff.mp this (beq_iff_eq.mpr e)
theorem alk_ge {t:List Nat} {p d n:Nat} (h:n≤t.length-p) (h1:∀ i<n,t[p+i]?=t[p+i-d]?):n≤alk t p d:=by
 refine Nat.le_of_not_lt fun hl=>?_
 exact alk_end (Nat.lt_of_lt_of_le hl h) (h1 _ hl)
noncomputable def keyN (l:List Nat):Int:=l.foldl (fun (n:Int) (o:Nat)=>n*256+(o:Int)) 0
noncomputable def keyAt (t:List Nat) (p:Nat):Int:=keyN ((t.drop p).take 3)
theorem take3 {t:List Nat} {p:Nat} (h:p+3≤t.length):(t.drop p).take 3=[t[p]'(by exact oz180 h),t[p+1]'(by exact oz181 h),t[p+2]'(by exact oz182 h)]:=by
 rw [List.drop_eq_getElem_cons (by exact oz180 h:p<t.length),List.take_succ_cons,List.drop_eq_getElem_cons (by exact oz181 h:p+1<t.length),List.take_succ_cons,List.drop_eq_getElem_cons (by exact oz183 h:p+1+1<t.length),List.take_succ_cons,List.take_zero]
theorem key_inj {t:List Nat} (ht:∀ x∈t,x<256) {p q:Nat} (hp:p+3≤t.length) (hq:q+3≤t.length) (h:keyAt t p=keyAt t q):∀ i<3,t[p+i]?=t[q+i]?:=by
 unfold keyAt at h
 rw [take3 hp,take3 hq] at h
 simp only [keyN,List.foldl_cons,List.foldl_nil] at h
 have b:∀ j (hj:j<t.length),t[j]<256:=fun j hj=>ht _ (List.getElem_mem hj)
 have b1:=b p (by exact oz180 hp);have b2:=b (p+1) (by exact oz181 hp);have b3:=b (p+2) (by exact oz182 hp)
 have c1:=b q (by exact oz180 hq);have c2:=b (q+1) (by exact oz181 hq);have c3:=b (q+2) (by exact oz182 hq)
 intro i hi
 rw [List.getElem?_eq_getElem (by exact oz184 hp hi),List.getElem?_eq_getElem (by exact oz184 hq hi)]
 congr 1
 match i,hi with
 | 0,_=>show t[p]=t[q];exact oz185 h b2 b3 c2 c3
 | 1,_=>exact oz186 h b2 b3 c2 c3
 | 2,_=>exact oz187 h b3 c3
theorem key_eq {t:List Nat} {p q:Nat} (hp:p+3≤t.length) (hq:q+3≤t.length) (h:∀ i<3,t[p+i]?=t[q+i]?):keyAt t p=keyAt t q:=by
 unfold keyAt
 rw [take3 hp,take3 hq]
 have e:∀ i (hi:i<3),t[p+i]'(by exact oz184 hp hi)=t[q+i]'(by exact oz184 hq hi):=fun i hi=>by
  have:=h i hi
  rw [List.getElem?_eq_getElem (by exact oz184 hp hi),List.getElem?_eq_getElem (by exact oz184 hq hi)] at this
  exact Option.some.inj this
 rw [show t[p]=t[q] from e 0 (by exact oz188),e 1 (by exact oz189),e 2 (by exact oz190)]
noncomputable def prevN (t:List Nat) (k:Int):Nat→Int
 | 0 => -1
 | m+1=>if m+3≤t.length∧keyAt t m=k then (m:Int) else prevN t k m
theorem prevN_lt (t:List Nat) (k:Int):∀ m,-1≤prevN t k m∧prevN t k m<m
 | 0=>⟨Int.le_refl _,by unfold prevN;decide⟩
 | m+1=>by
  unfold prevN
  have:=prevN_lt t k m
  split <;> omega
theorem prevN_some {t:List Nat} {k:Int}:∀ {m j:Nat},prevN t k m=j→(j+3≤t.length∧keyAt t j=k)∧∀ i,j<i→i<m→i+3≤t.length→keyAt t i≠k
 | 0,j,h=>by unfold prevN at h;exact (oz191 h).elim
 | m+1,j,h=>by
  unfold prevN at h
  split at h
  ·rename_i q
   have:m=j:=by exact oz192 h
   subst this
   exact ⟨q,fun i h1 h2=>by exact (oz193 h2 h1).elim⟩
  ·rename_i q
   obtain ⟨h1,h2⟩:=prevN_some h
   refine ⟨h1,fun i a b c e=>?_⟩
   by_cases hi:i=m
   ·subst hi;exact q ⟨c,e⟩
   ·exact h2 i a (by exact oz92 b hi) c e
theorem prevN_none {t:List Nat} {k:Int}:∀ {m:Nat},prevN t k m = -1→∀ i,i<m→i+3≤t.length→keyAt t i≠k
 | 0,_,i,h1=>by exact (oz194 h1).elim
 | m+1,h,i,h1=>by
  unfold prevN at h
  split at h
  ·exact (oz195 h).elim
  ·rename_i q
   intro c e
   by_cases hi:i=m
   ·subst hi;exact q ⟨c,e⟩
   ·exact prevN_none h i (by exact oz92 h1 hi) c e
theorem alk3 {t:List Nat} (ht:∀ x∈t,x<256) {p d:Nat} (hp:p+3≤t.length) (h0:1≤d) (hd:d≤p):3≤alk t p d↔keyAt t (p-d)=keyAt t p:=by
 constructor
 ·intro h
  refine key_eq (by exact oz196 hp) hp fun i hi=>?_
  rw [alk_lt (Nat.lt_of_lt_of_le hi h),show p+i-d=p-d+i by exact oz197 hd]
 ·intro h
  refine alk_ge (by exact oz198 hp) fun i hi=>?_
  rw [show p+i-d=p-d+i by exact oz197 hd]
  exact (key_inj ht (by exact oz196 hp) hp h i hi).symm
noncomputable def dst (t:List Nat) (p m:Nat):List Nat:=((List.range m).map (·+1)).filter fun d=>decide (3≤alk t p d)
theorem dst_succ (t:List Nat) (p m:Nat):dst t p (m+1)=dst t p m++if 3≤alk t p (m+1) then [m+1] else []:=by
 unfold dst
 rw [List.range_succ,List.map_append,List.filter_append]
 congr 1
 show List.filter _ [m+1]=_
 rw [List.filter_cons]
 by_cases h:3≤alk t p (m+1) <;> simp [h]
theorem dst_skip (t:List Nat) (p m:Nat):∀ n,(∀ d,m<d→d≤m+n→¬ 3≤alk t p d)→dst t p (m+n)=dst t p m
 | 0,_=>rfl
 | n+1,h=>by
  rw [show m+(n+1)=m+n+1 by exact oz199,dst_succ,if_neg (h (m+n+1) (by exact oz200) (by exact oz201)),List.append_nil,dst_skip t p m n fun d h1 h2=>h d h1 (by exact oz202 h2)]
theorem dst_pre (t:List Nat) (p m:Nat):∀ n,∃ r,dst t p (m+n)=dst t p m++r
 | 0=>⟨[],by simp⟩
 | n+1=>by
  obtain ⟨r,hr⟩:=dst_pre t p m n
  exact ⟨r++_,by rw [show m+(n+1)=m+n+1 by exact oz199,dst_succ,hr,List.append_assoc]⟩
theorem dst_step {t:List Nat} (ht:∀ x∈t,x<256) {p m o:Nat} (hp:p+3≤t.length) (hm:m≤p) (h:prevN t (keyAt t p) (p-m)=o):m<p-o∧o<p∧dst t p (p-o)=dst t p m++[p-o]:=by
 have hl:=(prevN_lt t (keyAt t p) (p-m)).2
 obtain ⟨⟨h1,h2⟩,h3⟩:=prevN_some h
 rw [h] at hl
 have hlt:o<p-m:=by exact oz203 hl
 refine ⟨by exact oz204 hl,by exact oz205 hl,?_⟩
 obtain ⟨n,hn⟩:∃ n,p-o=m+n+1:=⟨p-o-m-1,by exact oz206 hl⟩
 rw [hn,dst_succ,dst_skip t p m n fun d a b c=>h3 (p-d) (by exact oz207 hn b) (by exact oz208 hl a) (by exact oz196 hp) ((alk3 ht hp (by exact oz209 a) (by exact oz210 hn b)).mp c),if_pos]
 rw [← hn]
 exact (alk3 ht hp (by exact oz211 hl) (by exact oz212)).mpr (by rw [show p-(p-o)=o by exact oz213 hl];exact h2)
theorem dst_done {t:List Nat} (ht:∀ x∈t,x<256) {p m w:Nat} (hp:p+3≤t.length) (hm:m≤min p w) (h:prevN t (keyAt t p) (p-m) = -1∨(p:Int)-prevN t (keyAt t p) (p-m) > w):dst t p (min p w)=dst t p m:=by
 obtain ⟨n,hn⟩:∃ n,min p w=m+n:=⟨min p w-m,by exact oz214 hm⟩
 rw [hn]
 refine dst_skip t p m n fun d a b c=>?_
 have hk:=(alk3 ht hp (by exact oz209 a) (by exact oz215 hn b)).mp c
 rcases h with h | h
 ·exact prevN_none h (p-d) (by exact oz216 hn a b) (by exact oz196 hp) hk
 ·have hl:=(prevN_lt t (keyAt t p) (p-m))
  by_cases e:prevN t (keyAt t p) (p-m) = -1
  ·exact prevN_none e (p-d) (by exact oz216 hn a b) (by exact oz196 hp) hk
  ·have:prevN t (keyAt t p) (p-m)=((prevN t (keyAt t p) (p-m)).toNat:Nat):=by exact oz217 hl e
   exact (prevN_some this).2 (p-d) (by exact oz218 hn b h hl e) (by exact oz216 hn a b) (by exact oz196 hp) hk
theorem dst_short {t:List Nat} {p:Nat} (hp:¬ p+3≤t.length) (m:Nat):dst t p m=[]:=by
 unfold dst
 refine List.filter_eq_nil_iff.mpr fun d hd=>?_
 have:=alk_le t p d
 simp;exact oz219 this hp
noncomputable def recs (t:List Nat) (p:Nat):List Nat→Nat→List (Nat×Nat)
 | [],_=>[]
 | d::r,L=>if L<alk t p d then (alk t p d,d)::recs t p r (alk t p d) else recs t p r L
theorem recs_full (t:List Nat) (p:Nat):∀ (ds:List Nat) (L:Nat),t.length-p≤L→recs t p ds L=[]
 | [],_,_=>rfl
 | d::r,L,h=>by
  unfold recs
  rw [if_neg (by have:=alk_le t p d;exact oz220 h this),recs_full t p r L h]
noncomputable def evy (t:List Nat) (w c p:Nat):List (Nat×Nat):=recs t p ((dst t p (min p w)).take c) 2
section
variable {C:Cx} {st:St} {k:Nat} {P:V→St→Prop}
theorem lt_small {i:Int} (h:i.natAbs<2^64):small i:=Nat.lt_of_lt_of_le h (Nat.pow_le_pow_right (by decide) (by decide))
noncomputable abbrev prO (t:List Nat) (d b:Addr):O:=.inst 0 [(0,.bytes t),(1,.int 3),(2,.ref d),(3,.ref b)]
noncomputable abbrev fiO (t:List Nat) (w c m:Int) (r:Addr):O:=.inst 1 [(0,.bytes t),(4,.int 3),(5,.int w),(6,.int c),(7,.int m),(8,.ref r)]
theorem c1 (F:Fns C) {r d b:Addr} {t:List Nat} {p:Nat} (ht:∀ x∈t,x<256) (h:st r=some (prO t d b))
  (hP:P (if p+3≤t.length then .int (keyAt t p) else .none) st):CallF C (k+1) 1 [.ref r,.int p] st P:=by
 refine call0 F 1 (by decide) rfl (attr_s h rfl rfl (attr_s h rfl rfl ?_))
 refine ite_s dI (fun hlt=>?_) (fun hlt=>?_)
 ·rw [if_neg (by exact oz221 hlt)] at hP;exact hP
 ·have hp:p+3≤t.length:=by exact oz222 hlt
  rw [if_pos hp] at hP
  refine attr_s h rfl rfl (attr_s h rfl rfl ?_)
  refine slcB_s (cut_nn t (b:=p+3) hp) ?_
  rw [show p+3-p=3 by exact oz223]
  refine for_s (fun (n:Nat)=>.int (n:Int)) ((t.drop p).take 3) (fun _=>True) (fun r ls st'=>st'=st∧∃ n x,ls=[some (.ref _),some (.int p),some (.int n),x]∧0≤n∧n<256^(3-r.length)∧(∀ x∈r,x<256)∧r.length≤3∧r.foldl (fun (n:Int) (o:Nat)=>n*256+(o:Int)) n=keyAt t p)
   (fun K hK=>hK) ⟨rfl,0,none,rfl,Int.le_refl _,?_,?_,?_,rfl⟩ ?_ ?_
  ·rw [take3 hp];exact Int.one_pos
  ·exact fun x hx=>ht x (List.mem_of_mem_drop (List.mem_of_mem_take hx))
  ·rw [take3 hp];exact Nat.le_refl 3
  ·intro x r ls _ N zr0 hN
   obtain ⟨rfl,n,y,rfl,h0,h1,h2,h3,h4⟩:=zr0
   have hx:=h2 x (List.mem_cons_self ..)
   rw [List.length_cons] at h1 h3
   have hn:n<65536:=by
    refine Int.lt_of_lt_of_le h1 ?_
    have:∀ j,j≤2→(256:Int)^j≤65536:=by decide
    exact this _ (by exact oz224)
   refine ⟨trivial,lt_small (by exact oz225 h0 hn),lt_small (by decide),hN _ _ ⟨rfl,n*256+x,_,rfl,by exact oz226 h0,?_,fun y hy=>h2 y (List.mem_cons_of_mem _ hy),by exact oz227 h3,h4⟩⟩
   rw [show 3-r.length=(3-(r.length+1))+1 by exact oz228 h3,Int.pow_succ]
   exact oz229 hx h1
  ·intro ls _ zr1
   obtain ⟨rfl,n,y,rfl,h0,h1,h2,h3,h4⟩:=zr1
   refine ⟨trivial,?_⟩
   have:n=keyAt t p:=h4
   rw [← this] at hP
   exact hP
theorem dget_set (k:Int) (v:V):∀ es j,dget j (dset k v es)=if j=k then some v else dget j es
 | [],j=>by
  by_cases h:j=k
  ·subst h;simp [dset,dget]
  ·simp [dset,dget,h,Ne.symm h]
 | (i,u)::r,j=>by
  unfold dset
  by_cases h:i=k
  ·subst h
   rw [if_pos rfl]
   by_cases e:i=j
   ·subst e;simp [dget]
   ·simp [dget,e,Ne.symm e]
  ·rw [if_neg h]
   unfold dget
   rw [dget_set k v r j]
   by_cases e:i=j
   ·subst e;simp [h]
   ·simp [e]
structure RowAt (st:St) (r d b:Addr) (t:List Nat) (m:Nat):Prop where
 row:st r=some (prO t d b)
 dic:∃ es n,st d=some (.dict es n)∧es.length≤m∧∀ k,(dget k es).getD (.int (-1))=.int (prevN t k m)
 bef:∃ l,st b=some (.list l)∧l.length=t.length∧∀ j,j<m→j+3≤t.length→l[j]?=some (.int (prevN t (keyAt t j) j))
theorem RowAt.fra {st st':St} {r d b:Addr} {t:List Nat} {m:Nat} (R:RowAt st r d b t m) (e:Ext st st'):RowAt st' r d b t m :=
 ⟨e _ _ R.row,R.dic.imp fun es h=>h.imp fun n h=>⟨e _ _ h.1,h.2⟩,R.bef.imp fun l h=>⟨e _ _ h.1,h.2⟩⟩
theorem prevN_short {t:List Nat} (k:Int) {m:Nat} (h:¬ m+3≤t.length):prevN t k (m+1)=prevN t k m:=by
 show (if m+3≤t.length∧_ then _ else _)=_
 rw [if_neg fun q=>h q.1]
theorem c2 (F:Fns C) {r d b:Addr} {t:List Nat} {m:Nat} (ht:∀ x∈t,x<256) (hn:t.length≤1000) (R:RowAt st r d b t m) (hm:m<t.length)
  (hP:∀ st',RowAt st' r d b t (m+1)→Fra [d,b] st st'→P .none st'):CallF C (k+2) 2 [.ref r,.int m] st P:=by
 obtain ⟨h1,⟨es,n,h2,h3,h4⟩,⟨l,h5,h6,h7⟩⟩:=R
 have hdb:d≠b:=ne_of h2 h5 (by simp)
 have hrd:r≠d:=ne_of h1 h2 (by simp)
 have hrb:r≠b:=ne_of h1 h5 (by simp)
 refine call0 F 2 (by decide) rfl (meth_s h1 rfl (c1 F ht h1 ?_))
 by_cases hs:m+3≤t.length
 ·rw [if_pos hs]
  refine attr_s h1 rfl rfl (isDc_s h2 (get_s h2 (attr_s h1 rfl rfl (setL_s h5 (Int.natCast_nonneg m) (h6▸hm) fun st1 u1=>attr_s (u1.ne _ _ hrb h1) rfl rfl (setD_s (u1.ne _ _ hdb h2) (by exact oz230 hm hn h3) fun st2 n' u2=>hP st2 ⟨u2.ne _ _ hrd (u1.ne _ _ hrb h1),⟨_,n',u2.at_,?_,fun j=>?_⟩,⟨_,u2.ne _ _ hdb.symm u1.at_,(List.length_set ..).trans h6,fun j hj hj3=>?_⟩⟩ ?_)))))
  ·have:=dset_len (keyAt t m) (.int m) es;exact oz231 this h3
  ·rw [dget_set]
   show _=V.int (if m+3≤t.length∧keyAt t m=j then (m:Int) else prevN t j m)
   by_cases e:j=keyAt t m
   ·rw [if_pos e,if_pos ⟨hs,e.symm⟩];rfl
   ·rw [if_neg e,if_neg fun q=>e q.2.symm];exact h4 j
  ·rw [List.getElem?_set]
   by_cases e:m=j
   ·subst e
    rw [if_pos (Int.toNat_natCast m),if_pos (h6▸hm),h4]
   ·rw [if_neg (by rw [Int.toNat_natCast];exact e)]
    exact h7 j (Nat.lt_of_le_of_ne (Nat.le_of_lt_succ hj) (Ne.symm e)) hj3
  ·exact (u1.fra (by simp)).trans (u2.fra (by simp))
 ·rw [if_neg hs]
  refine hP st ⟨h1,⟨es,n,h2,Nat.le_succ_of_le h3,fun k=>(h4 k).trans ?_⟩,⟨l,h5,h6,fun j hj hj3=>h7 j (by exact oz232 hj3 hs) hj3⟩⟩ (Fra.refl _ _)
  rw [prevN_short k hs]
noncomputable def newN (t:List Nat) (p:Nat):Int:=if p+3≤t.length then prevN t (keyAt t p) p else -1
theorem c3 (F:Fns C) {r d b:Addr} {t:List Nat} {p:Nat} (ht:∀ x∈t,x<256) (R:RowAt st r d b t p) (hP:P (.int (newN t p)) st):CallF C (k+2) 3 [.ref r,.int p] st P:=by
 obtain ⟨h1,⟨es,n,h2,h3,h4⟩,-⟩:=R
 refine call0 F 3 (by decide) rfl (meth_s h1 rfl (c1 F ht h1 ?_))
 unfold newN at hP
 by_cases hs:p+3≤t.length
 ·rw [if_pos hs] at hP ⊢
  refine attr_s h1 rfl rfl (isDc_s h2 (get_s h2 ?_))
  rw [h4]
  refine while_s (fun _:Unit=>[some (.ref r),some (.int p),some (.int (keyAt t p)),some (.int (prevN t (keyAt t p) p))]) (fun _ st'=>st'=st) (fun _=>0) () rfl rfl ?_
  rintro _ _ N rfl -
  exact ite_s dI (fun h=>absurd h (Int.not_le.mpr (prevN_lt ..).2)) fun _=>hP
 ·rw [if_neg hs] at hP ⊢
  exact hP
structure FinAt (st:St) (f r d b:Addr) (t:List Nat) (w c m:Nat):Prop where
 fin:st f=some (fiO t w c m r)
 row:RowAt st r d b t m
theorem FinAt.fra {st st':St} {f r d b:Addr} {t:List Nat} {w c m:Nat} (R:FinAt st f r d b t w c m) (e:Ext st st'):FinAt st' f r d b t w c m:=⟨e _ _ R.fin,R.row.fra e⟩
theorem RowAt.upd {st st':St} {f r d b:Addr} {t:List Nat} {m:Nat} {c:Nat} {fs fs':List (Nat×V)} (R:RowAt st r d b t m) (h:st f=some (.inst 1 fs)) (u:Upd f (.inst 1 fs') st st'):RowAt st' r d b t m :=
 ⟨u.ne _ _ (ne_of R.row h (fun e=>by unfold prO at e;cases e)) R.row,R.dic.imp fun es h'=>h'.imp fun n h'=>⟨u.ne _ _ (ne_of h'.1 h (by simp)) h'.1,h'.2⟩,R.bef.imp fun l h'=>⟨u.ne _ _ (ne_of h'.1 h (by simp)) h'.1,h'.2⟩⟩
theorem c14 (F:Fns C) {f r d b:Addr} {t:List Nat} {w c x:Int} {m:Nat} (ht:∀ x∈t,x<256) (hn:t.length≤1000) (h:st f=some (fiO t w c x r)) (R:RowAt st r d b t m) (hm:m<t.length)
  (hP:∀ st',RowAt st' r d b t (m+1)→Fra [d,b] st st'→P .none st'):CallF C (k+3) 14 [.ref f,.int m] st P :=
 call0 F 14 (by decide) rfl (attr_s h rfl rfl (meth_s R.row rfl (c2 F ht hn R hm hP)))
theorem c5 (F:Fns C) {f r d b:Addr} {t:List Nat} {w c m:Nat} (ht:∀ x∈t,x<256) (hn:t.length≤1000) (R:FinAt st f r d b t w c m) (hm:m<t.length)
  (hP:∀ st',FinAt st' f r d b t w c (m+1)→Fra [f,d,b] st st'→P .none st'):CallF C (k+4) 5 [.ref f,.int m] st P:=by
 obtain ⟨h,R⟩:=R
 refine call0 F 5 (by decide) rfl (attr_s h rfl rfl (or_s dI (fun q=>absurd q (Int.lt_irrefl _)) fun _=>attr_s h rfl rfl (or_s dI (fun q=>absurd q (by exact oz233 hm)) fun _=>?_)))
 refine setAttr_s h rfl rfl fun st1 u1=>meth_s u1.at_ rfl (c14 F ht hn u1.at_ (R.upd (c:=1) h u1) hm fun st2 R2 e2=>hP st2 ⟨?_,R2⟩ ?_)
 ·refine e2 _ _ ?_ u1.at_
  obtain ⟨_,⟨_,_,h2,_⟩,⟨_,h3,_⟩⟩:=R
  simp [ne_of h h2 (by simp),ne_of h h3 (by simp)]
 ·exact (u1.fra (by simp)).trans fun x o n e=>e2 x o (fun q=>n (List.mem_cons_of_mem _ q)) e
theorem c6 (F:Fns C) {f r d b:Addr} {t:List Nat} {w c m e:Nat} (ht:∀ x∈t,x<256) (hn:t.length≤1000) (R:FinAt st f r d b t w c m) (hm:m≤e) (he:e≤t.length)
  (hP:∀ st',FinAt st' f r d b t w c e→Fra [f,d,b] st st'→P .none st'):CallF C (k+5) 6 [.ref f,.int e] st P:=by
 refine call0 F 6 (by decide) rfl ?_
 refine while_s (fun _:Nat=>[some (.ref f),some (.int e)]) (fun x st'=>x≤e∧FinAt st' f r d b t w c x∧Fra [f,d,b] st st') (fun x=>e-x) m rfl ⟨hm,R,Fra.refl _ _⟩ ?_
 intro x st1 N zr2 hN
 have hx:=zr2.1;have R1:=zr2.2.1;have e1:=zr2.2.2;clear zr2
 refine attr_s R1.fin rfl rfl (ite_s dI (fun hlt=>?_) fun hge=>?_)
 ·have hlt:x<e:=by exact oz234 hlt
  exact (meth_s R1.fin rfl (attr_s R1.fin rfl rfl (c5 F ht hn R1 (Nat.lt_of_lt_of_le hlt he) fun st2 R2 e2=>hN (x+1) st2 ⟨hlt,R2,e1.trans e2⟩ (by exact oz235 hlt))))
 ·have:x=e:=by exact oz236 hx hge
  subst this
  exact hP st1 R1 e1
end
section
variable {C:Cx} {st:St} {k:Nat} {P:V→St→Prop}
theorem Ext.no {s s':St} {a:Addr} (e:Ext s s') (h:s' a=none):s a=none:=by
 cases q:s a with
 | none=>rfl
 | some o=>rw [e _ _ q] at h;cases h
theorem Upd.no {s s':St} {a b:Addr} {o:O} (u:Upd a o s s') (h:s' b=none):s b=none:=by
 cases q:s b with
 | none=>rfl
 | some o' =>
  by_cases e:b=a
  ·subst e;rw [u.at_] at h;cases h
  ·rw [u.ne _ _ e q] at h;cases h
theorem c0 (F:Fns C) {r:Addr} {t:List Nat} (hn:t.length≤1000) (h:st r=some (.inst 0 []))
  (hP:∀ st' d b,RowAt st' r d b t 0→st d=none→st b=none→Fra [r] st st'→P .none st'):CallF C (k+1) 0 [.ref r,.bytes t,.int 3] st P:=by
 refine call0 F 0 (by decide) rfl (setAttr_s h rfl rfl fun s1 u1=>setAttr_s u1.at_ rfl rfl fun s2 u2 n=>new_s fun d s3 hd e3 hd3=>setAttr_s (e3 _ _ u2.at_) rfl rfl fun s4 u4=>⟨Nat.le_of_ble_eq_true rfl,new_s fun b0 s5 hb0 e5 h5=>mul_s h5 (Int.natCast_nonneg _) (by exact oz237 hn) fun b s6 hb e6 h6 =>
  setAttr_s (e6 _ _ (e5 _ _ u4.at_)) rfl rfl fun s7 u7=>hP s7 d b ⟨u7.at_,⟨[],n,?_,Nat.le_refl _,fun k=>rfl⟩,⟨_,u7.ne _ _ ?_ h6,by rw [List.length_replicate,Int.toNat_natCast],fun j hj=>absurd hj (Nat.not_lt_zero _)⟩⟩ ?_ ?_ ?_⟩)
 ·have hrd:d≠r:=ne_of hd3 (e3 _ _ u2.at_) (by simp)
  exact u7.ne _ _ hrd (e6 _ _ (e5 _ _ (u4.ne _ _ hrd hd3)))
 ·rintro rfl;rw [e5 _ _ u4.at_] at hb;cases hb
 ·exact u1.no (u2.no hd)
 ·exact u1.no (u2.no (e3.no (u4.no (e5.no hb))))
 ·exact (u1.fra (by simp)).trans ((u2.fra (by simp)).trans (e3.fra.trans ((u4.fra (by simp)).trans (e5.fra.trans (e6.fra.trans (u7.fra (by simp)))))))
theorem c4 (F:Fns C) {f:Addr} {t:List Nat} {w c:Nat} (hw:1≤w) (hc:1≤c) (h:st f=some (.inst 1 []))
  (hP:∀ st',Upd f (.inst 1 [(0,.bytes t),(4,.int 3),(5,.int w),(6,.int c),(7,.int 0)]) st st'→P .none st'):CallF C (k+1) 4 [.ref f,.bytes t,.int 3,.int w,.int c] st P:=by
 refine call0 F 4 (by decide) rfl ?_
 refine ite_s dI (fun q=>absurd q (by exact oz238 hw)) fun _=>ite_s dI (fun q=>absurd q (by exact oz238 hc)) fun _=>?_
 exact setAttr_s h rfl rfl fun s1 u1=>setAttr_s u1.at_ rfl rfl fun s2 u2=>setAttr_s u2.at_ rfl rfl fun s3 u3=>setAttr_s u3.at_ rfl rfl fun s4 u4=>setAttr_s u4.at_ rfl rfl fun s5 u5 =>
  hP s5 ⟨u5.at_,fun x y n e=>u5.ne _ _ n (u4.ne _ _ n (u3.ne _ _ n (u2.ne _ _ n (u1.ne _ _ n e))))⟩
theorem c13 (F:Fns C) {f:Addr} {t:List Nat} {w c:Nat} (hn:t.length≤1000) (hw:1≤w) (hc:1≤c) (h:st f=some (.inst 1 []))
  (hP:∀ st' r d b,FinAt st' f r d b t w c 0→st r=none→st d=none→st b=none→Fra [f] st st'→P .none st'):CallF C (k+2) 13 [.ref f,.bytes t,.int 3,.int w,.int c] st P:=by
 refine call0 F 13 (by decide) rfl (c4 F hw hc h fun s1 u1=>attr_s u1.at_ rfl rfl (make_s rfl fun r _ s2 _ hr e2 h2=>c0 F hn h2 fun s3 d b R hd hb e3=>⟨rfl,?_⟩))
 have hfr:f≠r:=by rintro rfl;rw [u1.at_] at hr;cases hr
 have h3:=e3 f _ (by simp [hfr]) (e2 _ _ u1.at_)
 exact setAttr_s h3 rfl rfl fun s4 u4=>hP s4 r d b ⟨u4.at_,R.upd (c:=0) h3 u4⟩ (u1.no hr) (u1.no (e2.no hd)) (u1.no (e2.no hb))
  fun x o n e=>by
   have n:x≠f:=fun q=>n (q▸List.mem_cons_self ..)
   have e1:=u1.ne _ _ n e
   exact u4.ne _ _ n (e3 _ _ (fun q=>by rw [List.mem_singleton.mp q,hr] at e1;cases e1) (e2 _ _ e1))
theorem mkFin (F:Fns C) {t:List Nat} {w c:Nat} (hn:t.length≤1000) (hw:1≤w) (hc:1≤c)
  (hP:∀ st' f r d b,FinAt st' f r d b t w c 0→st f=none→st r=none→st d=none→st b=none→Ext st st'→P (.ref f) st'):makeW (CallF C (k+2)) 1 [.bytes t,.int 3,.int w,.int c] st P :=
 make_s rfl fun f _ s1 _ hf e1 h1=>c13 F hn hw hc h1 fun s2 r d b R hr hd hb e2=>⟨rfl,hP s2 f r d b R hf (e1.no hr) (e1.no hd) (e1.no hb) fun x o e=>e2 _ _ (fun q=>by rw [List.mem_singleton.mp q,hf] at e;cases e) (e1 _ _ e)⟩
theorem c7 (F:Fns C) {f r:Addr} {t:List Nat} {w c m:Int} {place most:Int} (h:st f=some (fiO t w c m r))
  (p:P (.int (min most (t.length-place))) st):CallF C (k+1) 7 [.ref f,.int place,.int most] st P :=
 call0 F 7 (by decide) rfl (attr_s h rfl rfl p)
theorem c9 (F:Fns C) {f r:Addr} {t:List Nat} {w c m:Int} {p d:Nat} (h:st f=some (fiO t w c m r)) (hd:d≤p) (h0:1≤d) (hp:p≤t.length)
  (hP:P (.int (alk t p d)) st):CallF C (k+1) 9 [.ref f,.int p,.int (p-d),.int 0,.int ((t.length:Int)-p)] st P:=by
 refine call0 F 9 (by decide) rfl (attr_s h rfl rfl ?_)
 have hle:=alk_le t p d
 have he:∀ x,x≤alk t p d→¬ x<alk t p d→x=alk t p d:=fun x a b=>Nat.le_antisymm a (Nat.le_of_not_lt b)
 refine while_s (fun x:Nat=>[some (.ref f),some (.int p),some (.int (p-d)),some (.int x),some (.int ((t.length:Int)-p)),some (.bytes t)]) (fun x st'=>st'=st∧x≤alk t p d) (fun x=>alk t p d-x) 0 rfl ⟨rfl,Nat.zero_le _⟩ ?_
 intro x _ N zr0 hN
 obtain rfl:=zr0.1;have hx:=zr0.2;clear zr0
 refine and_s dI (fun hlt=>?_) fun hge=>?_
 ·have e1:p+x<t.length:=by clear he hle;exact oz239 hlt
  have e2:p+x-d<t.length:=Nat.lt_of_le_of_lt (Nat.sub_le ..) e1
  refine ⟨t[p+x],(by clear he hle;exact oz240),?_,t[p+x-d],(by clear he hle;exact oz241 hd),?_,and_s eI (fun e=>?_) fun e=>?_⟩
  ·rw [show ((p:Int)+x).toNat=p+x from rfl,List.getElem?_eq_getElem e1]
  ·rw [show ((p:Int)-d+x).toNat=p+x-d by clear he hle;exact oz242,List.getElem?_eq_getElem e2]
  ·have hx':x<alk t p d:=by
    refine Nat.lt_of_not_le fun hl=>?_
    have hq:x=alk t p d:=Nat.le_antisymm hx hl
    refine alk_end (t:=t) (p:=p) (d:=d) (by rw [← hq];clear he hle;exact oz243 hlt) ?_
    rw [← hq,List.getElem?_eq_getElem e1,List.getElem?_eq_getElem e2]
    exact congrArg some (Int.ofNat.inj e)
   exact hN (x+1) _ ⟨rfl,hx'⟩ (by clear he hle;exact oz235 hx')
  ·have:x=alk t p d:=he x hx fun hl=>e (by
    have:=alk_lt hl
    rw [List.getElem?_eq_getElem e1,List.getElem?_eq_getElem e2] at this
    rw [Option.some.inj this])
   rw [← this] at hP;exact hP
 ·have:x=alk t p d:=by clear he;exact oz244 hle hx hge
  rw [← this] at hP;exact hP
theorem c8 (F:Fns C) {f r:Addr} {t:List Nat} {w c m:Int} {p d:Nat} {most:Int} (h:st f=some (fiO t w c m r)) (hd:d≤p) (h0:1≤d) (hp:p≤t.length) (hm:(t.length:Int)-p≤most)
  (hP:P (.int (alk t p d)) st):CallF C (k+2) 8 [.ref f,.int p,.int (p-d),.int most] st P:=by
 refine call0 F 8 (by decide) rfl (ite_s dI (fun _=>ite_s (nI dI) (fun q=>absurd (by exact oz245 h0) q) fun _=>?_) fun q=>absurd (by exact oz246 hd) q)
 exact meth_s h rfl (meth_s h rfl (c7 F h (by rw [Int.min_eq_right hm];exact c9 F h hd h0 hp hP)))
theorem c10 (F:Fns C) {f r:Addr} {t:List Nat} {w:Nat} {c m p o:Int} (h:st f=some (fiO t w c m r)) (hP:P (.bool (decide (o ≠ -1∧p-o≤w))) st):CallF C (k+1) 10 [.ref f,.int p,.int o] st P:=by
 refine call0 F 10 (by decide) rfl ?_
 by_cases ho:o = -1
 ·rw [decide_eq_false (fun q=>q.1 ho)] at hP
  subst ho
  exact hP
 ·have e:(!(o == -1))=true:=(nI eI).mpr ho
  have e2:decide (o ≠ -1∧p-o≤w)=decide (p-o≤w):=by simp [ho]
  rw [e2] at hP
  show if ((!(o == -1))==true)=true then _ else _
  rw [e]
  exact attr_s h rfl rfl hP
theorem c11 (F:Fns C) {f r:Addr} {t:List Nat} {w:Nat} {c m:Int} {p:Nat} {d:Int} {most:Int} (h:st f=some (fiO t w c m r)) (h0:1≤d) (hp:p≤t.length) (hm:(t.length:Int)-p≤most)
  (hP:P (.int (if d≤p∧d≤w then alk t p d.toNat else 0)) st):CallF C (k+3) 11 [.ref f,.int p,.int d,.int most] st P:=by
 refine call0 F 11 (by decide) rfl ?_
 refine or_s dI (fun q=>absurd q (by exact oz247 h0)) fun _=>or_s dI (fun q=>?_) fun h1=>attr_s h rfl rfl (or_s dI (fun q=>?_) fun h2=>?_)
 ·rw [if_neg (by exact oz248 q)] at hP;exact hP
 ·rw [if_neg (by exact oz249 q)] at hP;exact hP
 ·rw [if_pos (by exact oz250 h1 h2)] at hP
  obtain ⟨n,rfl⟩:∃ n:Nat,d=n:=⟨d.toNat,by exact oz251 h0⟩
  exact meth_s h rfl (c8 F h (by exact oz252 h1) (by exact oz253 h0) hp hm hP)
end
section
variable {C:Cx} {st:St} {k:Nat} {P:V→St→Prop}
theorem nth_nn {α:Type} (l:List α) {n:Nat} (h:n<l.length):nth l (n:Int)=l[n]?:=by
 have e:place l.length (n:Int)=some n:=by
  unfold place seqIndex?
  dsimp only
  rw [if_neg (Int.not_lt.mpr (Int.natCast_nonneg n)),if_pos (by rw [decide_eq_true (Int.natCast_nonneg n),decide_eq_true (Int.ofNat_lt.mpr h)];rfl)]
  rfl
 unfold nth;rw [e]
structure Apart (f r d b a:Addr):Prop where
 f:f≠a
 r:r≠a
 d:d≠a
 b:b≠a
theorem FinAt.apart {f r d b a:Addr} {t:List Nat} {w c m:Nat} (R:FinAt st f r d b t w c m) (h:st a=none):Apart f r d b a:=by
 obtain ⟨h1,h2,⟨es,n,h3,-⟩,⟨l,h4,-⟩⟩:=R
 have no:∀ {x:Addr} {o:O},st x=some o→x≠a:=fun e q=>by rw [q,h] at e;cases e
 exact ⟨no h1,no h2,no h3,no h4⟩
theorem FinAt.updA {st':St} {f r d b a:Addr} {t:List Nat} {w c m:Nat} {o:O} (R:FinAt st f r d b t w c m) (A:Apart f r d b a) (u:Upd a o st st'):FinAt st' f r d b t w c m :=
 ⟨u.ne _ _ A.f R.fin,u.ne _ _ A.r R.row.row,R.row.dic.imp fun es h'=>h'.imp fun n h'=>⟨u.ne _ _ A.d h'.1,h'.2⟩,R.row.bef.imp fun l h'=>⟨u.ne _ _ A.b h'.1,h'.2⟩⟩
theorem dst_len (t:List Nat) (p m:Nat):(dst t p m).length≤m:=by
 unfold dst
 refine Nat.le_trans (List.length_filter_le ..) ?_
 rw [List.length_map,List.length_range]
 exact Nat.le_refl _
theorem newN_short {t:List Nat} {p:Nat} (h:¬ p+3≤t.length):newN t p = -1:=if_neg h
theorem c15 (F:Fns C) {f r d b:Addr} {t:List Nat} {w c p:Nat} (ht:∀ x∈t,x<256) (hn:t.length≤1000) (R:FinAt st f r d b t w c p)
  (hP:∀ a st',st a=none→Ext st st'→st' a=some (.list (((dst t p (min p w)).take c).map fun d=>.int ((p:Int)-(d:Nat))))→P (.ref a) st'):CallF C (k+3) 15 [.ref f,.int p] st P:=by
 refine call0 F 15 (by decide) rfl ⟨Nat.zero_le _,new_s fun a s1 ha e1 h1=>?_⟩
 have R1:=R.fra e1
 refine attr_s R1.fin rfl rfl (meth_s R1.row.row rfl (c3 F ht R1.row ?_))
 by_cases hp:p+3≤t.length
 ·rw [show newN t p=prevN t (keyAt t p) p from if_pos hp]
  refine while_s (fun m:Nat=>[some (.ref f),some (.int p),some (.ref a),some (.int (prevN t (keyAt t p) (p-m)))]) (fun m st'=>m≤min p w∧(dst t p m).length≤c∧FinAt st' f r d b t w c p∧Ext st st'∧st' a=some (.list ((dst t p m).map fun d=>.int ((p:Int)-(d:Nat)))))
   (fun m=>p-m) 0 rfl ⟨Nat.zero_le _,Nat.zero_le _,R1,e1,h1⟩ ?_
  intro m s2 N zr0 hN
  have hm:=zr0.1;have hc:=zr0.2.1;have R2:=zr0.2.2.1;have e2:=zr0.2.2.2.1;have h2:=zr0.2.2.2.2;clear zr0
  have hmp:m≤p:=Nat.le_trans hm (Nat.min_le_left ..)
  refine meth_s R2.fin rfl (c10 F R2.fin (and_s dI (fun q=>?_) fun q=>?_))
  ·refine lenL_s h2 (attr_s R2.fin rfl rfl (and_s dI (fun q2=>?_) fun q2=>?_))
   ·obtain ⟨o,ho⟩:∃ o:Nat,prevN t (keyAt t p) (p-m)=o:=⟨(prevN t (keyAt t p) (p-m)).toNat,(Int.toNat_of_nonneg (by have:=(prevN_lt t (keyAt t p) (p-m)).1;have:=q.1;exact oz254 ‹_› q)).symm⟩
    have zq0:=dst_step ht hp hmp ho;have a1:=zq0.1;have a2:=zq0.2.1;have a3:=zq0.2.2;clear zq0
    rw [ho] at q ⊢
    rw [List.length_map] at q2
    refine isLs_s h2 (append_s h2 ?_ fun s3 u3=>attr_s (u3.ne _ _ (R.apart ha).f R2.fin) rfl rfl ?_)
    ·rw [List.length_map]
     exact Nat.lt_of_le_of_lt (dst_len ..) (by exact oz255 hp hn hm)
    ·have R3:=R2.updA (R.apart ha) u3
     refine attr_s R3.row.row rfl rfl ?_
     refine ex1 (R3.row.bef) fun l zq0=>?_;have l1:=zq0.1;have l2:=zq0.2.1;have l3:=zq0.2.2;clear zq0
     refine idxL_s l1 (x:=.int (prevN t (keyAt t p) o)) ?_ ?_
     ·have h4:=(prevN_some ho).1
      rw [nth_nn l (by exact oz256 hp a1 l2),l3 o a2 h4.1,h4.2]
     ·have hw:=q.2
      have hc':((dst t p m).length:Int)<c:=q2
      have:=hN (p-o) s3 ⟨by clear ht;exact oz257 q,?_,R3,u3.ext ha e2,?_⟩ (by clear ht;exact oz258 a1)
      ·rw [show p-(p-o)=o by exact oz259 a1] at this
       exact this
      ·rw [a3,List.length_append]
       exact Int.ofNat_lt.mp hc'
      ·rw [a3,List.map_append,u3.at_]
       show _=some (O.list (_++[V.int ((p:Int)-((p-o:Nat):Int))]))
       rw [show (p:Int)-((p-o:Nat):Int)=o by exact oz260 a1]
   ·refine hP a s2 ha e2 (h2.trans ?_)
    rw [List.length_map] at q2
    obtain ⟨n,hn'⟩:∃ n,min p w=m+n:=⟨min p w-m,by exact oz214 hm⟩
    refine ex1 (dst_pre t p m n) fun x hx=>?_
    rw [hn',hx,List.take_append_of_le_length (by exact oz252 q2),List.take_of_length_le (by exact oz261 hc)]
  ·refine hP a s2 ha e2 (h2.trans ?_)
   rw [dst_done ht hp hm (by
    by_cases e:prevN t (keyAt t p) (p-m) = -1
    ·exact .inl e
    ·exact .inr (Int.lt_of_not_ge fun h=>q ⟨e,h⟩)),List.take_of_length_le hc]
 ·rw [newN_short hp]
  refine while_s (fun _:Unit=>[some (.ref f),some (.int p),some (.ref a),some (.int (-1))]) (fun _ st'=>st'=s1) (fun _=>0) () rfl rfl ?_
  rintro _ _ N rfl -
  refine meth_s R1.fin rfl (c10 F R1.fin (hP a _ ha e1 (h1.trans ?_)))
  rw [dst_short hp,List.take_nil];rfl
noncomputable def stp (x:Nat×Nat):V:=.tup [.int x.1,.int x.2]
theorem dst_mem {t:List Nat} {p m d:Nat} (h:d∈dst t p m):1≤d∧d≤m:=by
 refine ex1 (List.mem_map.mp (List.mem_filter.mp h).1) fun x zq0=>?_;have hx:=zq0.1;obtain rfl:=zq0.2;clear zq0
 exact ⟨Nat.succ_le_succ (Nat.zero_le _),List.mem_range.mp hx⟩
theorem recs_skip {t:List Nat} {p d L:Nat} {r:List Nat} (h:¬ L<alk t p d):recs t p (d::r) L=recs t p r L:=if_neg h
theorem recs_hit {t:List Nat} {p d L:Nat} {r:List Nat} (h:L<alk t p d):recs t p (d::r) L=(alk t p d,d)::recs t p r (alk t p d):=if_pos h
theorem nth_last {α:Type} {l:List α} {x:α} (h:l.getLast?=some x):nth l (-1)=some x:=by
 have hl:0<l.length:=by
  cases l with
  | nil=>cases h
  | cons _ _=>exact Nat.zero_lt_succ _
 have e:place l.length (-1)=some (l.length-1):=by
  unfold place seqIndex?
  dsimp only
  rw [if_pos (show (-1:Int)<0 by decide),if_pos (by rw [decide_eq_true (by exact oz262 hl),decide_eq_true (by exact oz263)];rfl)]
  congr 1;exact oz264
 unfold nth;rw [e]
 show l[l.length-1]?=_
 rw [← h,List.getLast?_eq_getElem?]
theorem c16 (F:Fns C) {f r d b:Addr} {t:List Nat} {w c p:Nat} {most:Int} (ht:∀ x∈t,x<256) (hn:t.length≤1000) (R:FinAt st f r d b t w c p) (hp:p≤t.length) (hm:(t.length:Int)-p≤most)
  (hP:∀ a st',st a=none→Ext st st'→st' a=some (.list ((evy t w c p).map stp))→P (.ref a) st'):CallF C (k+4) 16 [.ref f,.int p,.int most] st P:=by
 refine call0 F 16 (by decide) rfl ⟨Nat.zero_le _,new_s fun a s1 ha e1 h1=>?_⟩
 have R1:=R.fra e1
 refine meth_s R1.fin rfl (c7 F R1.fin ?_)
 rw [Int.min_eq_right hm]
 refine ⟨Nat.le_of_ble_eq_true rfl,rfl,attr_s R1.fin rfl rfl (meth_s R1.fin rfl (c15 F ht hn R1 fun cl s2 hcl e2 h2=>?_))⟩
 refine for_s (fun (d:Nat)=>.int ((p:Int)-d)) ((dst t p (min p w)).take c) (fun st'=>st' cl=some (.list (((dst t p (min p w)).take c).map fun d=>.int ((p:Int)-(d:Nat)))))
  (fun r ls st'=>∃ (L:Nat) (acc:List (Nat×Nat)) (x y:Option V),ls=[some (.ref f),some (.int p),some (.int most),some (.int L),x,some (.ref a),some (.int ((t.length:Int)-p)),y]∧FinAt st' f _ d b t w c p∧Ext st st'∧st' a=some (.list (acc.map stp)) ∧
   acc++recs t p r L=evy t w c p∧(∀ d∈r,1≤d∧d≤p)∧acc.length+r.length≤1000∧st' cl=some (.list (((dst t p (min p w)).take c).map fun d=>.int ((p:Int)-(d:Nat)))))
  (iterL h2) ⟨2,[],none,none,rfl,R1.fra e2,e1.trans e2,e2 _ _ h1,rfl,fun d hd=>?_,?_,h2⟩ ?_ ?_
 ·have:=dst_mem (List.mem_of_mem_take hd)
  exact ⟨this.1,Nat.le_trans this.2 (Nat.min_le_left ..)⟩
 ·rw [List.length_take,List.length_nil]
  have:=dst_len t p (min p w)
  exact oz265 this hp hn
 ·intro dd rr ls s3 N zr1 hN
  refine ex4 zr1 fun L acc x y zq0=>?_;obtain rfl:=zq0.1;have R3:=zq0.2.1;have e3:=zq0.2.2.1;have h3:=zq0.2.2.2.1;have q1:=zq0.2.2.2.2.1;have q2:=zq0.2.2.2.2.2.1;have q3:=zq0.2.2.2.2.2.2.1;have h4:=zq0.2.2.2.2.2.2.2;clear zq0 zr1
  have zq0:=q2 dd (List.mem_cons_self ..);have d1:=zq0.1;have d2:=zq0.2;clear zq0
  refine ⟨h4,ite_s dI (fun hb=>?_) fun hb=>?_⟩
  ·refine hP a s3 ha e3 (h3.trans ?_)
   rw [← q1,recs_full t p _ L (by clear q1 q2 h4;exact oz266 hb),List.append_nil]
  ·have hL:p+L<t.length:=by clear q1 q2 h4;exact oz267 hb
   have hL2:p+L-dd<t.length:=Nat.lt_of_le_of_lt (Nat.sub_le ..) hL
   have skip:¬ L<alk t p dd→N _ s3:=fun hl=>hN _ _ ⟨L,acc,some (.int ((p:Int)-dd)),y,rfl,R3,e3,h3,by rw [← q1,recs_skip hl],fun d hd=>q2 d (List.mem_cons_of_mem _ hd),by rw [List.length_cons] at q3;exact oz268 q3,h4⟩
   refine attr_s R3.fin rfl rfl ⟨t[p+L-dd],by clear q1 q2 h4;exact oz241 d2,?_,attr_s R3.fin rfl rfl ⟨t[p+L],by clear q1 q2 h4;exact oz240,?_,ite_s eI (fun e=>?_) fun e=>?_⟩⟩
   ·rw [show ((p:Int)-dd+L).toNat=p+L-dd by clear q1 q2 h4;exact oz242,List.getElem?_eq_getElem hL2]
   ·rw [show ((p:Int)+L).toNat=p+L from rfl,List.getElem?_eq_getElem hL]
   ·refine meth_s R3.fin rfl (c9 F R3.fin d2 d1 hp (ite_s dI (fun hl=>?_) fun hl=>?_))
    ·have hl:L<alk t p dd:=Int.ofNat_lt.mp hl
     refine isLs_s h3 ⟨Nat.le_of_ble_eq_true rfl,append_s h3 (by rw [List.length_map];exact oz269 q3) fun s4 u4=>?_⟩
     have hca:cl≠a:=by rintro rfl;rw [h1] at hcl;cases hcl
     have hh:=hN [some (.ref f),some (.int p),some (.int most),some (.int (alk t p dd)),some (.int ((p:Int)-dd)),some (.ref a),some (.int ((t.length:Int)-p)),some (.int (alk t p dd))] s4 ⟨alk t p dd,acc++[(alk t p dd,dd)],_,_,rfl,R3.updA (R.apart ha) u4,u4.ext ha e3,?_,?_,fun d hd=>q2 d (List.mem_cons_of_mem _ hd),?_,u4.ne _ _ hca h4⟩
     ·exact hh
     ·rw [List.map_append,u4.at_]
      show _=some (O.list (_++[V.tup [.int _,.int _]]))
      rw [show (p:Int)-((p:Int)-dd)=dd by exact oz270]
     ·rw [← q1,List.append_assoc,recs_hit hl];rfl
     ·rw [List.length_append,List.length_cons,List.length_nil];rw [List.length_cons] at q3;exact oz271 q3
    ·exact hN _ _ ⟨L,acc,some (.int ((p:Int)-dd)),_,rfl,R3,e3,h3,by rw [← q1,recs_skip fun q=>hl (Int.ofNat_lt.mpr q)],fun d hd=>q2 d (List.mem_cons_of_mem _ hd),by rw [List.length_cons] at q3;exact oz268 q3,h4⟩
   ·exact skip fun hl=>e (by
     have:=alk_lt hl
     rw [List.getElem?_eq_getElem hL,List.getElem?_eq_getElem hL2] at this
     rw [Option.some.inj this])
 ·intro ls s3 zr2
  refine ex4 zr2 fun L acc x y zq0=>?_;obtain rfl:=zq0.1;have R3:=zq0.2.1;have e3:=zq0.2.2.1;have h3:=zq0.2.2.2.1;have q1:=zq0.2.2.2.2.1;have q2:=zq0.2.2.2.2.2.1;have q3:=zq0.2.2.2.2.2.2.1;have h4:=zq0.2.2.2.2.2.2.2;clear zq0 zr2
  refine ⟨h4,hP a s3 ha e3 (h3.trans ?_)⟩
  rw [← q1]
  show _=some (O.list ((acc++[]).map stp))
  rw [List.append_nil]
theorem c12 (F:Fns C) {f r d b:Addr} {t:List Nat} {w c p:Nat} {most:Int} (ht:∀ x∈t,x<256) (hn:t.length≤1000) (R:FinAt st f r d b t w c p) (hp:p≤t.length) (hm:(t.length:Int)-p≤most)
  (hP:∀ st',Ext st st'→P (stp ((evy t w c p).getLast?.getD (0,0))) st'):CallF C (k+5) 12 [.ref f,.int p,.int most] st P:=by
 refine call0 F 12 (by decide) rfl (meth_s R.fin rfl (c16 F ht hn R hp hm fun a s1 ha e1 h1=>?_))
 have hP:=hP s1 e1
 refine lenL_s h1 (ite_s dI (fun h=>?_) fun h=>?_)
 ·rw [List.length_map] at h
  cases q:(evy t w c p).getLast? with
  | none=>rw [List.getLast?_eq_none_iff.mp q] at h;exact absurd h (by decide)
  | some x =>
   rw [q] at hP
   exact idxL_s h1 (nth_last (by rw [List.getLast?_map,q];rfl)) hP
 ·have:evy t w c p=[]:=by
   cases q:evy t w c p with
   | nil=>rfl
   | cons x r=>rw [q,List.length_map] at h;exact absurd (by simp) h
  rw [this] at hP
  exact ⟨Nat.le_of_ble_eq_true rfl,hP⟩
end
section
variable {C:Cx} {st:St} {k:Nat} {P:V→St→Prop}
noncomputable abbrev ofO (a b c:Int):O:=.inst 4 [(14,.int a),(15,.int b),(16,.int c)]
noncomputable def spot (v l:Int):Int:=if 0<l then v-1 else v
noncomputable def tb (a b c v l:Int):Int×Int:=if 3<v then (v-3,3) else if spot v l=3 then (a-1,3) else (if spot v l=0 then a else if spot v l=1 then b else c,spot v l)
noncomputable def mvd (a b c d p:Int):Int×Int×Int:=if p=1 then (d,a,c) else if 1<p then (d,a,b) else (a,b,c)
noncomputable def val (a b c d l:Int):Int:=if (tb a b c 1 l).1=d then 1 else if (tb a b c 2 l).1=d then 2 else if (tb a b c 3 l).1=d then 3 else d+3
theorem spot_is {v l:Int} (h1:1≤v) (h3:v≤3) (h:spot v l≠3):spot v l=0∨spot v l=1∨spot v l=2:=by
 unfold spot at h ⊢;split at h <;> rename_i q <;> simp only [q,if_true,if_false] <;> omega
theorem c30 (F:Fns C) {o:Addr} {a b c:Int} (ha:1≤a) (hb:1≤b) (hc:1≤c) (h:st o=some (.inst 4 [])) (hP:∀ st',Upd o (ofO a b c) st st'→P .none st'):CallF C (k+1) 30 [.ref o,.int a,.int b,.int c] st P:=by
 refine call0 F 30 (by decide) rfl (or_s dI (fun q=>absurd q (Int.not_lt.mpr ha)) fun _=>or_s dI (fun q=>absurd q (Int.not_lt.mpr hb)) fun _=>or_s dI (fun q=>absurd q (Int.not_lt.mpr hc)) fun _=>?_)
 exact setAttr_s h rfl rfl fun s1 u1=>setAttr_s u1.at_ rfl rfl fun s2 u2=>setAttr_s u2.at_ rfl rfl fun s3 u3=>hP s3 ⟨u3.at_,fun x y n e=>u3.ne _ _ n (u2.ne _ _ n (u1.ne _ _ n e))⟩
theorem mkOff (F:Fns C) {a b c:Int} (ha:1≤a) (hb:1≤b) (hc:1≤c) (hP:∀ o st',st o=none→Ext st st'→st' o=some (ofO a b c)→P (.ref o) st'):makeW (CallF C (k+1)) 4 [.int a,.int b,.int c] st P :=
 make_s rfl fun o _ s1 _ ho e1 h1=>c30 F ha hb hc h1 fun s2 u2=>⟨rfl,hP o s2 ho (u2.ext ho e1) u2.at_⟩
theorem c31 (F:Fns C) {o:Addr} {a b c:Int} (h:st o=some (ofO a b c)) (hP:P (.tup [.int a,.int b,.int c]) st):CallF C (k+1) 31 [.ref o] st P :=
 call0 F 31 (by decide) rfl (attr_s h rfl rfl (attr_s h rfl rfl (attr_s h rfl rfl ⟨Nat.le_of_ble_eq_true rfl,hP⟩)))
theorem c32 (F:Fns C) {o:Addr} {a b c:Int} (ha:1≤a) (hb:1≤b) (hc:1≤c) (h:st o=some (ofO a b c)) (hP:∀ o' st',st o'=none→Ext st st'→st' o'=some (ofO a b c)→P (.ref o') st'):CallF C (k+2) 32 [.ref o] st P :=
 call0 F 32 (by decide) rfl (attr_s h rfl rfl (attr_s h rfl rfl (attr_s h rfl rfl (mkOff F ha hb hc hP))))
theorem nth3 {a b c s:Int} (h:s=0∨s=1∨s=2):nth [V.int a,.int b,.int c] s=some (.int (if s=0 then a else if s=1 then b else c)):=by
 rcases h with rfl | rfl | rfl <;> rfl
theorem c33 (F:Fns C) {o:Addr} {a b c v l:Int} (h1:1≤v) (hl:0≤l) (h:st o=some (ofO a b c)) (hP:P (.tup [.int (tb a b c v l).1,.int (tb a b c v l).2]) st):CallF C (k+2) 33 [.ref o,.int v,.int l] st P:=by
 refine call0 F 33 (by decide) rfl (or_s dI (fun q=>absurd q (Int.not_lt.mpr h1)) fun _=>or_s dI (fun q=>absurd q (Int.not_lt.mpr hl)) fun _=>ite_s dI (fun h3=>?_) fun h3=>?_)
 ·unfold tb at hP
  rw [if_pos h3] at hP
  exact ⟨Nat.le_of_ble_eq_true rfl,hP⟩
 ·unfold tb at hP
  rw [if_neg h3] at hP
  have go:∀ s,s=spot v l→wpSs (CallF C (k+1)) (ir33.drop 3) [some (.ref o),some (.int v),some (.int l),some (.int s)] st (RetP P):=by
   rintro s rfl
   refine ite_s eI (fun e=>?_) fun e=>?_
   ·rw [if_pos e] at hP
    exact attr_s h rfl rfl ⟨Nat.le_of_ble_eq_true rfl,hP⟩
   ·rw [if_neg e] at hP
    exact meth_s h rfl (c31 F h ⟨_,nth3 (spot_is h1 (Int.not_lt.mp h3) e),Nat.le_of_ble_eq_true rfl,hP⟩)
  refine ite_s dI (fun q=>?_) fun q=>?_
  ·exact go _ (by unfold spot;rw [if_pos q])
  ·exact go _ (by unfold spot;rw [if_neg q])
theorem c34 (F:Fns C) {o:Addr} {a b c d p:Int} (h:st o=some (ofO a b c)) (hP:∀ st',Upd o (ofO (mvd a b c d p).1 (mvd a b c d p).2.1 (mvd a b c d p).2.2) st st'→P .none st'):CallF C (k+1) 34 [.ref o,.int d,.int p] st P:=by
 unfold mvd at hP
 refine call0 F 34 (by decide) rfl (ite_s eI (fun e=>?_) fun e=>ite_s dI (fun e2=>?_) fun e2=>?_)
 ·rw [if_pos e] at hP
  exact attr_s h rfl rfl ⟨Nat.le_of_ble_eq_true rfl,rfl,setAttr_s h rfl rfl fun s1 u1=>setAttr_s u1.at_ rfl rfl fun s2 u2=>hP s2 ⟨u2.at_,fun x y n e=>u2.ne _ _ n (u1.ne _ _ n e)⟩⟩
 ·rw [if_neg e,if_pos e2] at hP
  exact attr_s h rfl rfl (attr_s h rfl rfl ⟨Nat.le_of_ble_eq_true rfl,rfl,setAttr_s h rfl rfl fun s1 u1=>setAttr_s u1.at_ rfl rfl fun s2 u2=>setAttr_s u2.at_ rfl rfl fun s3 u3=>hP s3 ⟨u3.at_,fun x y n e=>u3.ne _ _ n (u2.ne _ _ n (u1.ne _ _ n e))⟩⟩)
 ·rw [if_neg e,if_neg e2] at hP
  exact hP st ⟨h,fun _ _ _ e=>e⟩
theorem c35 (F:Fns C) {o:Addr} {a b c v l:Int} (h1:1≤v) (hl:0≤l) (h0:(tb a b c v l).1≠0) (h:st o=some (ofO a b c))
  (hP:∀ st',Upd o (ofO (mvd a b c (tb a b c v l).1 (tb a b c v l).2).1 (mvd a b c (tb a b c v l).1 (tb a b c v l).2).2.1 (mvd a b c (tb a b c v l).1 (tb a b c v l).2).2.2) st st'→P (.int (tb a b c v l).1) st'):CallF C (k+3) 35 [.ref o,.int v,.int l] st P :=
 call0 F 35 (by decide) rfl (meth_s h rfl (c33 F h1 hl h ⟨rfl,ite_s eI (fun q=>absurd q h0) fun _=>meth_s h rfl (c34 F h hP)⟩))
theorem val_pos {a b c d l:Int} (hd:1≤d):1≤val a b c d l:=by
 unfold val;split
 ·decide
 ·split
  ·decide
  ·split
   ·decide
   ·exact oz272 hd
theorem val_tb {a b c d l:Int} (hd:1≤d):(tb a b c (val a b c d l) l).1=d:=by
 unfold val;split
 ·assumption
 ·split
  ·assumption
  ·split
   ·assumption
   ·unfold tb;rw [if_pos (by exact oz273 hd)];show d+3-3=d;exact oz274
theorem c36 (F:Fns C) {o:Addr} {a b c d l:Int} (hd:1≤d) (hl:0≤l) (h:st o=some (ofO a b c))
  (hP:∀ st',Upd o (ofO (mvd a b c d (tb a b c (val a b c d l) l).2).1 (mvd a b c d (tb a b c (val a b c d l) l).2).2.1 (mvd a b c d (tb a b c (val a b c d l) l).2).2.2) st st'→P (.int (val a b c d l)) st'):CallF C (k+4) 36 [.ref o,.int d,.int l] st P:=by
 refine call0 F 36 (by decide) rfl (ite_s dI (fun q=>absurd q (Int.not_lt.mpr hd)) fun _=>?_)
 refine ⟨Nat.le_of_ble_eq_true rfl,for_s V.int [3,2,1] (fun _=>True) (fun r ls st'=>st'=st∧∃ v x,ls=[some (.ref o),some (.int d),some (.int l),some (.int v),x]∧(∀ n∈r,1≤n)∧r.foldl (fun v n=>if (tb a b c n l).1=d then n else v) v=val a b c d l) (fun K hK=>hK)
  ⟨rfl,d+3,none,rfl,by decide,rfl⟩ ?_ ?_⟩
 ·intro n r ls _ N zr0 hN
  obtain ⟨rfl,v,x,rfl,hr,hv⟩:=zr0
  refine ⟨trivial,meth_s h rfl (c33 F (hr n (List.mem_cons_self ..)) hl h ⟨_,rfl,ite_s eI (fun e=>hN _ _ ⟨rfl,n,_,rfl,fun m hm=>hr m (List.mem_cons_of_mem _ hm),?_⟩) fun e=>hN _ _ ⟨rfl,v,_,rfl,fun m hm=>hr m (List.mem_cons_of_mem _ hm),?_⟩⟩)⟩
  ·rw [List.foldl_cons,if_pos e] at hv;exact hv
  ·rw [List.foldl_cons,if_neg e] at hv;exact hv
 ·intro ls _ zr1
  obtain ⟨rfl,v,x,rfl,hr,hv⟩:=zr1
  have hv:v=val a b c d l:=hv
  subst hv
  exact ⟨trivial,meth_s h rfl (c35 F (val_pos hd) hl (by rw [val_tb hd];exact oz275 hd) h (by rw [val_tb hd];exact hP))⟩
end
open PySem
noncomputable def bits (v:Int):Int:=Builtin.Int.intBits v
theorem bits_count:∀ v:Nat,v<64→(((List.range 20).filter fun (k:Nat)=>decide ((2:Int)^k≤v)).length:Int)=bits v:=by decide +kernel
theorem bits_le:∀ v:Nat,v<64→bits v≤6:=by decide +kernel
noncomputable abbrev Opt:=Int×Int×Nat×Nat
noncomputable def cand (t:List Nat) (w p:Nat) (a b c l v:Int):List Opt :=
 if 0<(tb a b c v l).1∧(tb a b c v l).1≤p∧(tb a b c v l).1≤w∧3≤alk t p (tb a b c v l).1.toNat then [(4*alk t p (tb a b c v l).1.toNat-bits v,-v,alk t p (tb a b c v l).1.toNat,(tb a b c v l).1.toNat)] else []
noncomputable def fopt (t:List Nat) (w ch p:Nat) (a b c l:Int):List Opt:=match (evy t w ch p).getLast? with
 | some x=>[(4*x.1-bits (val a b c x.2 l),0,x.1,x.2)]
 | none=>[]
noncomputable def upd (x:Int×Nat×Nat) (o:Opt):Int×Nat×Nat:=if x.1<o.1 then (o.1,o.2.2.1,o.2.2.2) else x
noncomputable def opts (t:List Nat) (w ch p:Nat) (a b c l:Int):List Opt:=fopt t w ch p a b c l++(cand t w p a b c l 1++(cand t w p a b c l 2++cand t w p a b c l 3))
noncomputable def best (os:List Opt):Nat×Nat:=(os.foldl upd (0,0,0)).2
noncomputable def rep (t:List Nat) (w ch:Nat):Nat→Nat→Int→Int→Int→Int→List (Nat×Nat)
 | 0,_,_,_,_,_=>[]
 | f+1,p,a,b,c,l=>if p<t.length then
   (if (best (opts t w ch p a b c l)).1=0 then (0,t.getD p 0)::rep t w ch f (p+1) a b c (l+1)
    else best (opts t w ch p a b c l)::rep t w ch f (p+(best (opts t w ch p a b c l)).1)
    (mvd a b c (best (opts t w ch p a b c l)).2 (tb a b c (val a b c (best (opts t w ch p a b c l)).2 l) l).2).1
    (mvd a b c (best (opts t w ch p a b c l)).2 (tb a b c (val a b c (best (opts t w ch p a b c l)).2 l) l).2).2.1
    (mvd a b c (best (opts t w ch p a b c l)).2 (tb a b c (val a b c (best (opts t w ch p a b c l)).2 l) l).2).2.2 0)
  else []
theorem evy_mem {t:List Nat} {p:Nat}:∀ {ds:List Nat} {L:Nat} {x:Nat×Nat},x∈recs t p ds L→x.2∈ds∧L<x.1∧x.1=alk t p x.2
 | [],_,x,h=>by cases h
 | d::r,L,x,h=>by
  unfold recs at h
  split at h
  ·rename_i q
   rcases List.mem_cons.mp h with rfl | h
   ·exact ⟨List.mem_cons_self ..,q,rfl⟩
   ·have zq0:=evy_mem h;have h1:=zq0.1;have h2:=zq0.2.1;have h3:=zq0.2.2;clear zq0
    exact ⟨List.mem_cons_of_mem _ h1,Nat.lt_trans q h2,h3⟩
  ·have zq0:=evy_mem h;have h1:=zq0.1;have h2:=zq0.2.1;have h3:=zq0.2.2;clear zq0
   exact ⟨List.mem_cons_of_mem _ h1,h2,h3⟩
theorem evy_ok {t:List Nat} {w ch p:Nat} {x:Nat×Nat} (h:x∈evy t w ch p):(1≤x.2∧x.2≤p)∧3≤x.1∧x.1=alk t p x.2:=by
 have zq0:=evy_mem h;have h1:=zq0.1;have h2:=zq0.2.1;have h3:=zq0.2.2;clear zq0
 have:=dst_mem (List.mem_of_mem_take h1)
 exact ⟨⟨this.1,Nat.le_trans this.2 (Nat.min_le_left ..)⟩,h2,h3⟩
theorem val_lt {a b c l:Int} {d:Nat} (hd:1≤d) (h:d<60):∃ v:Nat,val a b c d l=v∧v<64:=by
 unfold val
 split
 ·exact ⟨1,rfl,by decide⟩
 ·split
  ·exact ⟨2,rfl,by decide⟩
  ·split
   ·exact ⟨3,rfl,by decide⟩
   ·exact ⟨d+3,rfl,by exact oz276 h⟩
theorem opts_ok {t:List Nat} {w ch p:Nat} {a b c l:Int} {o:Opt} (hp:p<60) (h:o∈opts t w ch p a b c l):0<o.1∧3≤o.2.2.1∧(1≤o.2.2.2∧o.2.2.2≤p)∧o.2.2.1=alk t p o.2.2.2:=by
 have c1:∀ v:Nat,v<64→o∈cand t w p a b c l v→0<o.1∧3≤o.2.2.1∧(1≤o.2.2.2∧o.2.2.2≤p)∧o.2.2.1=alk t p o.2.2.2:=by
  intro v hv h
  unfold cand at h
  split at h
  ·rename_i q
   have q1:=q.1;have q2:=q.2.1;have q3:=q.2.2.1;have q4:=q.2.2.2;clear q
   rw [List.mem_singleton.mp h]
   have:=bits_le v hv
   exact ⟨by show 0<4*_-bits v;exact oz277 q4 this,q4,⟨by show 1≤(tb a b c v l).1.toNat;exact oz278 q1,by show (tb a b c v l).1.toNat≤p;exact oz279 q2⟩,rfl⟩
  ·cases h
 unfold opts at h
 rcases List.mem_append.mp h with h | h
 ·unfold fopt at h
  split at h
  ·rename_i x hx
   rw [List.mem_singleton.mp h]
   have zq0:=evy_ok (List.mem_of_getLast? hx);have h1:=zq0.1.1;have h2:=zq0.1.2;have h3:=zq0.2.1;have h4:=zq0.2.2;clear zq0
   refine ex1 (val_lt (a:=a) (b:=b) (c:=c) (l:=l) h1 (Nat.lt_of_le_of_lt h2 hp)) fun v zq0=>?_;have hv:=zq0.1;have hv2:=zq0.2;clear zq0
   have:=bits_le v hv2
   exact ⟨by show 0<4*(x.1:Int)-bits (val a b c x.2 l);rw [hv];exact oz277 h3 this,h3,⟨h1,h2⟩,h4⟩
  ·cases h
 ·rcases List.mem_append.mp h with h | h
  ·exact c1 1 (by decide) h
  ·rcases List.mem_append.mp h with h | h
   ·exact c1 2 (by decide) h
   ·exact c1 3 (by decide) h
theorem fold_upd:∀ (os:List Opt) (x:Int×Nat×Nat),os.foldl upd x=x∨∃ o∈os,os.foldl upd x=(o.1,o.2.2.1,o.2.2.2)
 | [],_=>.inl rfl
 | o::r,x=>by
  rw [List.foldl_cons]
  rcases fold_upd r (upd x o) with h | ⟨q,h1,h2⟩
  ·rw [h]
   unfold upd
   split
   ·exact .inr ⟨o,List.mem_cons_self ..,rfl⟩
   ·exact .inl rfl
  ·exact .inr ⟨q,List.mem_cons_of_mem _ h1,h2⟩
theorem best_ok {t:List Nat} {w ch p:Nat} {a b c l:Int} (hp:p<60):best (opts t w ch p a b c l)=(0,0)∨(3≤(best (opts t w ch p a b c l)).1∧(1≤(best (opts t w ch p a b c l)).2∧(best (opts t w ch p a b c l)).2≤p)∧(best (opts t w ch p a b c l)).1=alk t p (best (opts t w ch p a b c l)).2):=by
 unfold best
 rcases fold_upd (opts t w ch p a b c l) (0,0,0) with h | ⟨o,h1,h2⟩
 ·rw [h];exact .inl rfl
 ·rw [h2]
  have zq0:=opts_ok hp h1;have b1:=zq0.2.1;have b2:=zq0.2.2.1;have b3:=zq0.2.2.2;clear zq0
  exact .inr ⟨b1,b2,b3⟩
section
variable {C:Cx} {st:St} {k:Nat} {P:V→St→Prop}
theorem c45 (F:Fns C) {n:Nat} {v:Int} (hn:n<1000) (hP:P (.int (4*n-bits v)) st):CallF C (k+1) 45 [.int n,.int v] st P :=
 call0 F 45 (by decide) rfl ⟨lt_small (by decide),lt_small (by exact oz280 hn),trivial,rfl,hP⟩
theorem c66 (F:Fns C) {n v:Nat} (hn:n<1000) (hv:v<64) (hP:∀ st',Ext st st'→P (.int (4*n-bits v)) st'):CallF C (k+1) 66 [.int n,.int v] st P:=by
 refine call0 F 66 (by decide) rfl ⟨lt_small (by decide),lt_small (by exact oz280 hn),by decide,?_⟩
 refine comp_p (fun (i:Nat)=>.int (0+(i:Int))) (List.range 20) (fun _=>True) (fun i=>decide ((2:Int)^i≤v)) (fun i=>.int (0+(i:Int))) (iterR (a:=0) (b:=20) (by decide) (by decide)) (fun _ _=>trivial) (by decide) (fun x s1 Nt Nf hx e1 ht hf=>?_) fun a s1 ha e1 h1=>?_
 ·have hx:=List.mem_range.mp hx
  refine ⟨by exact oz281,by exact oz282 hx,by decide,?_⟩
  rw [show ((0:Int)+x).toNat=x by exact oz283]
  exact and_s dI (fun q=>ht (decide_eq_true q) s1 (Ext.refl _)) fun q=>hf (decide_eq_false q) s1 (Ext.refl _)
 ·refine lenL_s h1 ?_
  have:=bits_count v hv
  rw [List.length_map,this]
  exact hP s1 e1
theorem c64 (F:Fns C) {th:Addr} {a b c v l:Int} (h1:1≤v) (h:st th=some (.list [.int a,.int b,.int c]))
  (hP:∀ q st',st q=none→Ext st st'→st' q=some (.list [.int (mvd a b c (tb a b c v l).1 (tb a b c v l).2).1,.int (mvd a b c (tb a b c v l).1 (tb a b c v l).2).2.1,.int (mvd a b c (tb a b c v l).1 (tb a b c v l).2).2.2])→P (.tup [.int (tb a b c v l).1,.ref q]) st') :
  CallF C (k+1) 64 [.ref th,.int v,.int l] st P:=by
 refine call0 F 64 (by decide) rfl (ite_s dI (fun h3=>?_) fun h3=>?_)
 ·unfold tb mvd at hP
  rw [if_pos h3] at hP
  exact idxL_s h rfl (idxL_s h rfl ⟨Nat.le_of_ble_eq_true rfl,new_s fun q s1 hq e1 hh=>⟨Nat.le_of_ble_eq_true rfl,hP q s1 hq e1 hh⟩⟩)
 ·have go:∀ s,s=spot v l→wpSs (CallF C k) (ir64.drop 2) [some (.ref th),some (.int v),some (.int l),some (.int s),none] st (RetP P):=by
   rintro s rfl
   unfold tb at hP
   rw [if_neg h3] at hP
   refine ite_s eI (fun e=>?_) fun e=>?_
   ·rw [if_pos e] at hP
    exact idxL_s h rfl (idxL_s h rfl (idxL_s h rfl (idxL_s h rfl ⟨Nat.le_of_ble_eq_true rfl,new_s fun q s1 hq e1 hh=>⟨Nat.le_of_ble_eq_true rfl,hP q s1 hq e1 hh⟩⟩)))
   ·rw [if_neg e] at hP
    have h012:=spot_is h1 (Int.not_lt.mp h3) e
    generalize spot v l=s at *
    refine idxL_s h (nth3 h012) (idxL_s h (nth3 h012) ⟨Nat.le_of_ble_eq_true rfl,new_s fun q1 s1 hq1 e1 g1=>?_⟩)
    refine ⟨by decide,comp_p (fun (i:Nat)=>.int (0+(i:Int))) (List.range 3) (fun _=>True) (fun i=>!((0+(i:Int))==s)) (fun i=>.int (if 0+(i:Int)=0 then a else if 0+(i:Int)=1 then b else c)) (iterR (a:=0) (b:=3) (by decide) (by decide)) (fun _ _=>trivial) (by decide) (fun x s2 Nt Nf hx e2 ht hf=>?_) fun q2 s2 hq2 e2 g2=>?_⟩
    ·have hx:=List.mem_range.mp hx
     exact and_s Iff.rfl (fun q=>idxL_s (e2 _ _ (e1 _ _ h)) (nth3 (by exact oz284 hx)) (ht q s2 (Ext.refl _))) fun q=>hf (Bool.eq_false_iff.mpr q) s2 (Ext.refl _)
    ·refine add_s (e2 _ _ g1) g2 ?_ fun q3 s3 hq3 e3 g3=>⟨Nat.le_of_ble_eq_true rfl,hP q3 s3 (e1.no (e2.no hq3)) (e1.trans (e2.trans e3)) (g3.trans ?_)⟩
     ·rw [List.length_map]
      have:=List.length_filter_le (fun (i:Nat)=>!((0+(i:Int))==s)) (List.range 3)
      rw [List.length_range] at this
      show 1+_≤_
      exact oz285 this
     ·rcases h012 with rfl | rfl | rfl <;> rfl
  refine ite_s dI (fun q=>?_) fun q=>?_
  ·exact go _ (by unfold spot;rw [if_pos q])
  ·exact go _ (by unfold spot;rw [if_neg q])
theorem c65 (F:Fns C) {th:Addr} {a b c d l:Int} (h:st th=some (.list [.int a,.int b,.int c])) (hP:∀ st',Ext st st'→P (.int (val a b c d l)) st'):CallF C (k+2) 65 [.ref th,.int d,.int l] st P:=by
 refine call0 F 65 (by decide) rfl ⟨Nat.le_of_ble_eq_true rfl,new_s fun q1 s1 hq1 e1 g1=>?_⟩
 refine for_s V.int [1,2,3] (fun s=>s q1=some (.list [.int 1,.int 2,.int 3])) (fun r ls st'=>Ext s1 st'∧∃ x,ls=[some (.ref th),some (.int d),some (.int l),x]∧(∀ n∈r,1≤n)∧r.foldr (fun n v=>if (tb a b c n l).1=d then n else v) (d+3)=val a b c d l) (iterL g1)
  ⟨Ext.refl _,none,rfl,by decide,rfl⟩ ?_ ?_
 ·rintro n r ls s2 N ⟨e2,x,rfl,hr,hv⟩ hN
  refine ⟨e2 _ _ g1,c64 F (hr n (List.mem_cons_self ..)) (e2 _ _ (e1 _ _ h)) fun q s3 hq e3 g3=>⟨_,rfl,ite_s eI (fun e=>?_) fun e=>hN _ _ ⟨e2.trans e3,_,rfl,fun m hm=>hr m (List.mem_cons_of_mem _ hm),?_⟩⟩⟩
  ·rw [List.foldr_cons,if_pos e] at hv
   rw [← hv] at hP
   exact hP s3 (e1.trans (e2.trans e3))
  ·rw [List.foldr_cons,if_neg e] at hv;exact hv
 ·rintro ls s2 ⟨e2,x,rfl,hr,hv⟩
  have hv:d+3=val a b c d l:=hv
  rw [← hv] at hP
  exact ⟨e2 _ _ g1,hP s2 (e1.trans e2)⟩
end
section
variable {C:Cx} {st:St} {k:Nat} {P:V→St→Prop}
theorem c59 (F:Fns C) {t:List Nat} {p d:Nat} (hd:d≤p) (h0:1≤d) (hp:p≤t.length) (hP:P (.int (alk t p d)) st):CallF C (k+1) 59 [.bytes t,.int p,.int d] st P:=by
 refine call0 F 59 (by decide) rfl ?_
 have hle:=alk_le t p d
 have he:∀ x,x≤alk t p d→¬ x<alk t p d→x=alk t p d:=fun x a b=>Nat.le_antisymm a (Nat.le_of_not_lt b)
 refine while_s (fun x:Nat=>[some (.bytes t),some (.int p),some (.int d),some (.int x)]) (fun x st'=>st'=st∧x≤alk t p d) (fun x=>alk t p d-x) 0 rfl ⟨rfl,Nat.zero_le _⟩ ?_
 intro x _ N zr0 hN
 obtain rfl:=zr0.1;have hx:=zr0.2;clear zr0
 refine and_s dI (fun hlt=>?_) fun hge=>?_
 ·have e1:p+x<t.length:=by clear he hle;exact oz286 hlt
  have e2:p+x-d<t.length:=Nat.lt_of_le_of_lt (Nat.sub_le ..) e1
  refine ⟨t[p+x],(by clear he hle;exact oz240),?_,t[p+x-d],(by clear he hle;exact oz287 hd),?_,and_s eI (fun e=>?_) fun e=>?_⟩
  ·rw [show ((p:Int)+x).toNat=p+x from rfl,List.getElem?_eq_getElem e1]
  ·rw [show ((p:Int)+x-d).toNat=p+x-d by clear he hle;exact oz288,List.getElem?_eq_getElem e2]
  ·have hx':x<alk t p d:=by
    refine Nat.lt_of_not_le fun hl=>?_
    have hq:x=alk t p d:=Nat.le_antisymm hx hl
    refine alk_end (t:=t) (p:=p) (d:=d) (by rw [← hq];clear he hle;exact oz289 hlt) ?_
    rw [← hq,List.getElem?_eq_getElem e1,List.getElem?_eq_getElem e2]
    exact congrArg some (Int.ofNat.inj e)
   exact hN (x+1) _ ⟨rfl,hx'⟩ (by clear he hle;exact oz235 hx')
  ·have:x=alk t p d:=he x hx fun hl=>e (by
    have:=alk_lt hl
    rw [List.getElem?_eq_getElem e1,List.getElem?_eq_getElem e2] at this
    rw [Option.some.inj this])
   rw [← this] at hP;exact hP
 ·have:x=alk t p d:=by clear he;exact oz290 hle hx hge
  rw [← this] at hP;exact hP
structure LR (st s':St) (a:Addr) (t:List Nat) (p c:Nat) (pd:Nat→Bool) (all:List (Nat×Nat)) (r:List Nat) (L s:Nat) (acc:List (Nat×Nat)):Prop where
 ext:Ext st s'
 lst:s' a=some (.list (acc.map stp))
 all:acc++recs t p (((r.map (·+1)).filter pd).take (c-s)) L=all
 ok:∀ d∈r,d+1≤p
 len:acc.length+r.length≤1000
 le:s≤c
theorem c60 (F:Fns C) {t:List Nat} {w c p:Nat} (hn:t.length≤1000) (hp:p≤t.length) (hP:∀ a st',st a=none→Ext st st'→st' a=some (.list ((evy t w c p).map stp))→P (.ref a) st'):CallF C (k+2) 60 [.bytes t,.int p,.int w,.int c] st P:=by
 refine call0 F 60 (by decide) rfl ⟨Nat.zero_le _,new_s fun a s1 ha e1 h1=>⟨Nat.le_of_ble_eq_true rfl,rfl,by decide,by exact oz291 hn hp,?_⟩⟩
 let pd:Nat→Bool:=fun d=>decide (3≤alk t p d)
 refine for_f (fun q:Nat×Nat×List (Nat×Nat)×Option V×Option V=>[some (.bytes t),some (.int p),some (.int w),some (.int c),q.2.2.2.1,some (.ref a),some (.int q.1),some (.int q.2.1),q.2.2.2.2]) (fun (i:Nat)=>.int (1+(i:Int))) (List.range (min p w)) (fun _=>True) (fun r q s'=>LR st s' a t p c pd (evy t w c p) r q.1 q.2.1 q.2.2.1) (2,0,[],none,none)
  (by
   have:=iterR (st:=s1) (a:=1) (b:=min (p:Int) w+1) (by decide) (by exact oz291 hn hp)
   rw [show (min (p:Int) w+1-1).toNat=min p w by exact oz292] at this
   exact this) rfl ⟨e1,h1,rfl,fun d hd=>?_,?_,Nat.zero_le _⟩ ?_ ?_
 ·have:=List.mem_range.mp hd;exact oz293 this
 ·rw [List.length_range,List.length_nil];exact oz294 hn hp
 ·intro d r zr1 s2 N J hN
  obtain ⟨L,s,acc,x,y⟩:=zr1
  obtain ⟨e2,h2,q1,q2,q3,q4⟩:=(show LR st s2 a t p c pd (evy t w c p) (d::r) L s acc from J)
  have hd:=q2 d (List.mem_cons_self ..)
  have q2':∀ d∈r,d+1≤p:=fun d hd=>q2 d (List.mem_cons_of_mem _ hd)
  have q3':acc.length+1+r.length≤1000:=by rw [List.length_cons] at q3;exact oz295 q3
  refine ⟨trivial,?_⟩
  show CallF C (k+1) 59 [.bytes t,.int p,.int (1+(d:Int))] s2 _
  rw [show (1+(d:Int))=((d+1:Nat):Int) by exact oz296]
  refine c59 F hd (by exact oz110) hp ?_
  rw [List.map_cons,List.filter_cons] at q1
  by_cases h3:3≤alk t p (d+1)
  ·rw [if_pos (decide_eq_true h3)] at q1
   refine and_s dI (fun _=>and_s dI (fun hs=>?_) fun hs=>?_) fun q=>absurd q (by exact oz297 h3)
   ·rw [show c-s=c-(s+1)+1 by exact oz298 hs,List.take_succ_cons] at q1
    refine ite_s dI (fun hl=>?_) fun hl=>?_
    ·have hl:L<alk t p (d+1):=Int.ofNat_lt.mp hl
     rw [recs_hit hl] at q1
     refine isLs_s h2 ⟨Nat.le_of_ble_eq_true rfl,append_s h2 (by rw [List.length_map];exact oz269 q3) fun s3 u3=>hN (alk t p (d+1),s+1,acc++[(alk t p (d+1),d+1)],_,_) s3 ⟨u3.ext ha e2,?_,?_,q2',?_,by exact oz299 hs⟩⟩
     ·rw [List.map_append,u3.at_]
      show _=some (O.list (_++[V.tup [.int _,.int ((d+1:Nat):Int)]]))
      rw [show ((d+1:Nat):Int)=1+(d:Int) by exact oz300]
     ·rw [← q1,List.append_assoc];rfl
     ·rw [List.length_append,List.length_singleton];exact q3'
    ·exact hN (L,s+1,acc,_,_) s2 ⟨e2,h2,by rw [← q1,recs_skip fun q=>hl (Int.ofNat_lt.mpr q)],q2',by exact oz301 q3',by exact oz299 hs⟩
   ·have:c-s=0:=by exact oz302 hs
    rw [this,List.take_zero] at q1
    exact hN (L,s,acc,_,_) s2 ⟨e2,h2,by rw [← q1,this,List.take_zero],q2',by exact oz301 q3',q4⟩
  ·rw [if_neg fun q=>h3 (of_decide_eq_true q)] at q1
   exact and_s dI (fun q=>absurd q (by exact oz303 h3)) fun _=>hN (L,s,acc,_,_) s2 ⟨e2,h2,q1,q2',by exact oz301 q3',q4⟩
 ·intro zr2 s2 J
  obtain ⟨L,s,acc,x,y⟩:=zr2
  obtain ⟨e2,h2,q1,q2,q3,q4⟩:=(show LR st s2 a t p c pd (evy t w c p) [] L s acc from J)
  refine ⟨trivial,hP a s2 ha e2 (h2.trans ?_)⟩
  rw [← q1]
  show _=some (O.list ((acc++recs t p (List.take (c-s) []) L).map stp))
  rw [List.take_nil]
  show _=some (O.list ((acc++[]).map stp))
  rw [List.append_nil]
end
section
variable {C:Cx} {st:St} {k:Nat} {P:V→St→Prop}
theorem alk_short {t:List Nat} (h:t.length<60) (p d:Nat):alk t p d<60:=Nat.lt_of_le_of_lt (alk_le t p d) (Nat.lt_of_le_of_lt (Nat.sub_le ..) h)
structure LO (st s:St) (f:Nat→List Opt) (b:Nat×Nat) (r:List Nat) (u:Int×Nat×Nat):Prop where
 ext:Ext st s
 ok:∀ v∈r,1≤v∧v<64
 all:((r.flatMap f).foldl upd u).2=b
theorem c46 (F:Fns C) {f r d b o:Addr} {t:List Nat} {w ch p:Nat} {x y z l most:Int} (ht:∀ x∈t,x<256) (hn:t.length<60) (R:FinAt st f r d b t w ch p) (hp:p<t.length) (hm:(t.length:Int)-p≤most)
  (hx:1≤x) (hy:1≤y) (hz:1≤z) (hl:0≤l) (ho:st o=some (ofO x y z)) (hP:∀ st',Ext st st'→P (stp (best (opts t w ch p x y z l))) st'):CallF C (k+6) 46 [.ref f,.int p,.int most,.ref o,.int l] st P:=by
 refine call0 F 46 (by decide) rfl (meth_s R.fin rfl (c12 F ht (by exact oz304 hn) R (by exact oz305 hp) hm fun s1 e1=>⟨rfl,?_⟩))
 have hfo:∀ os:List Opt,os.foldl upd ((fopt t w ch p x y z l).foldl upd (0,0,0))=(fopt t w ch p x y z l++os).foldl upd (0,0,0):=fun os=>(List.foldl_append ..).symm
 have go:∀ (s2:St) (top:Int) (n dd:Nat),Ext st s2→(fopt t w ch p x y z l).foldl upd (0,0,0)=(top,n,dd) →
   wpSs (CallF C (k+5)) (ir46.drop 2) [some (.ref f),some (.int p),some (.int most),some (.ref o),some (.int l),none,some (.int n),some (.int dd),some (.int top),none,none] s2 (RetP P):=fun s2 top n dd e2 h0=>by
  refine ⟨Nat.le_of_ble_eq_true rfl,for_f (fun q:(Int×Nat×Nat)×Option V×Option V×Option V=>[some (.ref f),some (.int p),some (.int most),some (.ref o),some (.int l),q.2.1,some (.int q.1.2.1),some (.int q.1.2.2),some (.int q.1.1),q.2.2.1,q.2.2.2]) (fun (v:Nat)=>.int v) [1,2,3] (fun _=>True) (fun r q s'=>LO st s' (fun (v:Nat)=>cand t w p x y z l v) (best (opts t w ch p x y z l)) r q.1) ((top,n,dd),none,none,none) (fun K hK=>hK) rfl ⟨e2,by decide,?_⟩ ?_ ?_⟩
  ·rw [← h0,hfo]
   unfold best opts
   simp only [List.flatMap_cons,List.flatMap_nil,List.append_nil];rfl
  ·intro v r q s3 N J hN
   have e3:=J.ext
   have hv:=J.ok
   have hb:=J.all
   have zq0:=hv v (List.mem_cons_self ..);have hv1:=zq0.1;have hv2:=zq0.2;clear zq0
   have hv':∀ v∈r,1≤v∧v<64:=fun u hu=>hv u (List.mem_cons_of_mem _ hu)
   have R3:=R.fra e3
   rw [List.flatMap_cons,List.foldl_append] at hb
   refine ⟨trivial,meth_s (e3 _ _ ho) rfl (c33 F (by exact oz306 hv1) hl (e3 _ _ ho) ⟨_,rfl,ite_s dI (fun hg=>meth_s R3.fin rfl (c11 F R3.fin (by exact oz307 hg) (by exact oz305 hp) hm ?_)) fun hg=>?_⟩)⟩
   ·have hg:0<(tb x y z v l).1:=hg
    by_cases hc:((tb x y z v l).1≤p∧(tb x y z v l).1≤w)∧3≤alk t p (tb x y z v l).1.toNat
    ·have hcd:cand t w p x y z l v=[(4*alk t p (tb x y z v l).1.toNat-bits v,-(v:Int),alk t p (tb x y z v l).1.toNat,(tb x y z v l).1.toNat)]:=if_pos ⟨hg,hc.1.1,hc.1.2,hc.2⟩
     have hk:=alk_short hn p (tb x y z v l).1.toNat
     rw [hcd] at hb
     rw [if_pos hc.1]
     refine and_s dI (fun _=>c45 F (by exact oz308 hk) (and_s dI (fun q'=>c45 F (by exact oz308 hk) ⟨Nat.le_of_ble_eq_true rfl,rfl,?_⟩) fun q'=>hN (q.1,_,_,_) s3 ⟨e3,hv',?_⟩)) fun q=>absurd (Int.ofNat_le.mpr hc.2) q
     ·have:=hN ((4*(alk t p (tb x y z v l).1.toNat:Int)-bits v,alk t p (tb x y z v l).1.toNat,(tb x y z v l).1.toNat),some (.int v),some (.int (tb x y z v l).1),some (.int (alk t p (tb x y z v l).1.toNat))) s3 ⟨e3,hv',by
       rw [← hb]
       show _=(List.foldl upd (upd q.1 _) _).2
       unfold upd
       rw [if_pos q']⟩
      dsimp only at this
      rw [Int.toNat_of_nonneg (Int.le_of_lt hg)] at this
      exact this
     ·rw [← hb]
      show _=(List.foldl upd (upd q.1 _) _).2
      unfold upd
      rw [if_neg q']
    ·have hcd:cand t w p x y z l v=[]:=if_neg fun q=>hc ⟨⟨q.2.1,q.2.2.1⟩,q.2.2.2⟩
     rw [hcd] at hb
     refine and_s dI (fun q=>absurd ?_ hc) fun _=>hN (q.1,_,_,_) s3 ⟨e3,hv',hb⟩
     by_cases h2:(tb x y z v l).1≤p∧(tb x y z v l).1≤w
     ·rename_i q;rw [if_pos h2] at q;exact ⟨h2,Int.ofNat_le.mp q⟩
     ·rename_i q;rw [if_neg h2] at q;exact absurd q (by decide)
   ·have hcd:cand t w p x y z l v=[]:=if_neg fun q=>hg q.1
    rw [hcd] at hb
    exact hN (q.1,_,_,_) s3 ⟨e3,hv',hb⟩
  ·intro q s3 J
   have hb:q.1.2=best (opts t w ch p x y z l):=J.all
   rw [← hb] at hP
   exact ⟨trivial,Nat.le_of_ble_eq_true rfl,hP s3 J.ext⟩
 unfold fopt at go
 cases q:(evy t w ch p).getLast? with
 | none =>
  rw [q] at go
  exact ⟨Nat.le_of_ble_eq_true rfl,rfl,go s1 0 0 0 e1 rfl⟩
 | some a =>
  rw [q] at go
  have zq0:=evy_ok (List.mem_of_getLast? q);have h1:=zq0.1.1;have h2:=zq0.1.2;have h3:=zq0.2.1;have h4:=zq0.2.2;clear zq0
  show wpAs _ [T.var 6,T.var 7] [V.int a.1,V.int a.2] _ s1 _
  refine ite_s dI (fun q=>absurd q (by show ¬ (a.1:Int)<3;exact oz309 h3)) fun _=>meth_s (e1 _ _ ho) rfl (c32 F hx hy hz (e1 _ _ ho) fun o' s2 ho' e2 g2=>meth_s g2 rfl (c36 F (by exact oz306 h1) hl g2 fun s3 u3=>c45 F (by rw [h4];exact Nat.lt_trans (alk_short hn _ _) (by decide)) (go s3 _ _ _ (u3.ext (e1.no ho') (e1.trans e2)) ?_)))
  obtain ⟨v,hv,hv2⟩:=val_lt (a:=x) (b:=y) (c:=z) (l:=l) h1 (by exact oz310 hn hp h2)
  have:=bits_le v hv2
  show upd (0,0,0) _=_
  unfold upd
  rw [if_pos (by show 0<4*(a.1:Int)-bits (val x y z a.2 l);rw [hv];exact oz277 h3 this)]
end
section
variable {C:Cx} {st:St} {k:Nat} {P:V→St→Prop}
theorem mvd_pos {a b c d p:Int} (ha:1≤a) (hb:1≤b) (hc:1≤c) (hd:1≤d):1≤(mvd a b c d p).1∧1≤(mvd a b c d p).2.1∧1≤(mvd a b c d p).2.2:=by
 unfold mvd;split
 ·exact ⟨hd,ha,hc⟩
 ·split
  ·exact ⟨hd,ha,hb⟩
  ·exact ⟨ha,hb,hc⟩
structure RSt where
 p:Nat
 x:Int
 y:Int
 z:Int
 l:Int
 acc:List (Nat×Nat)
 v1:Option V
 v2:Option V
structure RepJ (st s:St) (f r d b h a:Addr) (t:List Nat) (w ch:Nat) (all:List (Nat×Nat)) (q:RSt):Prop where
 hp:q.p≤t.length
 fin:∃ m,m≤q.p∧FinAt s f r d b t w ch m
 held:s h=some (ofO q.x q.y q.z)
 pos:1≤q.x∧1≤q.y∧1≤q.z∧0≤q.l
 lst:s a=some (.list (q.acc.map stp))
 len:q.acc.length≤q.p
 all:q.acc++rep t w ch (t.length-q.p) q.p q.x q.y q.z q.l=all
 fra:Fra [f,d,b] st s
theorem rep_step {t:List Nat} {w ch p:Nat} {a b c l:Int} (h:p<t.length):rep t w ch (t.length-p) p a b c l=(if (best (opts t w ch p a b c l)).1=0 then (0,t.getD p 0)::rep t w ch (t.length-(p+1)) (p+1) a b c (l+1)
    else best (opts t w ch p a b c l)::rep t w ch (t.length-(p+1)) (p+(best (opts t w ch p a b c l)).1)
    (mvd a b c (best (opts t w ch p a b c l)).2 (tb a b c (val a b c (best (opts t w ch p a b c l)).2 l) l).2).1
    (mvd a b c (best (opts t w ch p a b c l)).2 (tb a b c (val a b c (best (opts t w ch p a b c l)).2 l) l).2).2.1
    (mvd a b c (best (opts t w ch p a b c l)).2 (tb a b c (val a b c (best (opts t w ch p a b c l)).2 l) l).2).2.2 0):=by
 rw [show t.length-p=(t.length-(p+1))+1 by exact oz311 h]
 exact if_pos h
theorem rep_done {t:List Nat} {w ch:Nat}:∀ {f p:Nat} {a b c l:Int},t.length≤p→rep t w ch f p a b c l=[]
 | 0,_,_,_,_,_,_=>rfl
 | f+1,p,_,_,_,_,h=>if_neg (Nat.not_lt.mpr h)
theorem rep_fuel {t:List Nat} {w ch:Nat}:∀ {f g p:Nat} {a b c l:Int},t.length-p≤f→t.length-p≤g→rep t w ch f p a b c l=rep t w ch g p a b c l
 | 0,g,p,a,b,c,l,h1,h2=>by rw [rep_done (by exact oz312 h1),rep_done (by exact oz312 h1)]
 | f+1,0,p,a,b,c,l,h1,h2=>by rw [rep_done (by exact oz312 h2),rep_done (by exact oz312 h2)]
 | f+1,g+1,p,a,b,c,l,h1,h2=>by
  unfold rep
  by_cases hp:p<t.length
  ·rw [if_pos hp,if_pos hp]
   split
   ·rw [rep_fuel (f:=f) (g:=g) (by exact oz313 h1) (by exact oz313 h2)]
   ·rw [rep_fuel (f:=f) (g:=g) (by exact oz314 h1 ‹_›) (by exact oz314 h2 ‹_›)]
  ·rw [if_neg hp,if_neg hp]
theorem c47 (F:Fns C) {f r d b o:Addr} {t:List Nat} {w ch m start:Nat} {x y z most:Int} (ht:∀ x∈t,x<256) (hn:t.length<60) (R:FinAt st f r d b t w ch m) (hs:start≤t.length) (hms:m≤start) (hm:(t.length:Int)-start≤most)
  (hx:1≤x) (hy:1≤y) (hz:1≤z) (ho:st o=some (ofO x y z))
  (hP:∀ a st',st a=none→Fra [f,d,b] st st'→st' a=some (.list ((rep t w ch (t.length-start) start x y z 0).map stp))→P (.ref a) st'):CallF C (k+7) 47 [.bytes t,.int start,.ref f,.int most,.ref o] st P:=by
 refine call0 F 47 (by decide) rfl (meth_s ho rfl (c32 F hx hy hz ho fun h s1 hh e1 g1=>⟨Nat.zero_le _,new_s fun a s2 ha e2 g2=>⟨Nat.le_of_ble_eq_true rfl,rfl,?_⟩⟩))
 have Ah:=R.apart hh
 have Aa:=(R.fra e1).apart ha
 have hah:h≠a:=by rintro rfl;rw [g1] at ha;cases ha
 refine while_s (fun q:RSt=>[some (.bytes t),some (.int start),some (.ref f),some (.int most),some (.ref o),some (.ref h),some (.ref a),some (.int q.p),some (.int q.l),q.v1,q.v2])
  (fun q s=>RepJ st s f r d b h a t w ch (rep t w ch (t.length-start) start x y z 0) q∧start≤q.p) (fun q=>t.length-q.p) ⟨start,x,y,z,0,[],none,none⟩ rfl
  ⟨⟨hs,⟨m,hms,R.fra (e1.trans e2)⟩,e2 _ _ g1,⟨hx,hy,hz,Int.le_refl _⟩,g2,Nat.zero_le _,rfl,(e1.trans e2).fra⟩,Nat.le_refl _⟩ ?_
 intro zr0 s N zr1 hN
 obtain ⟨p,x,y,z,l,acc,v1,v2⟩:=zr0
 obtain ⟨j1,⟨m',j2,R2⟩,j3,⟨p1,p2,p3,p4⟩,j5,j6,j7,j8⟩:=zr1.1;have j9:=zr1.2;clear zr1
 have j1:p≤t.length:=j1
 have j2:m'≤p:=j2
 have p4:0≤l:=p4
 have j6:acc.length≤p:=j6
 have j9:start≤p:=j9
 have j7:acc++rep t w ch (t.length-p) p x y z l=_:=j7
 refine ite_s dI (fun hlt=>?_) fun hge=>?_
 ·have hlt:p<t.length:=Int.ofNat_lt.mp hlt
  refine meth_s R2.fin rfl (c6 F ht (by exact oz304 hn) R2 j2 (Nat.le_of_lt hlt) fun s3 R3 e3=>?_)
  have nh:h∉[f,d,b]:=by simp [Ah.f.symm,Ah.d.symm,Ah.b.symm]
  have na:a∉[f,d,b]:=by simp [Aa.f.symm,Aa.d.symm,Aa.b.symm]
  have h3:=e3 _ _ nh j3
  have l3:=e3 _ _ na j5
  have fr3:=j8.trans e3
  refine c46 F ht hn R3 hlt (by exact oz315 hm j9) p1 p2 p3 p4 h3 fun s4 e4=>?_
  have R4:=R3.fra e4
  have h4:=e4 _ _ h3
  have l4:=e4 _ _ l3
  have fr4:Fra [f,d,b] st s4:=fr3.trans e4.fra
  have B:=best_ok (t:=t) (w:=w) (ch:=ch) (a:=x) (b:=y) (c:=z) (l:=l) (p:=p) (by exact oz316 hn j1)
  rw [rep_step hlt] at j7
  generalize best (opts t w ch p x y z l)=bb at *
  obtain ⟨n,dd⟩:=bb
  refine ⟨rfl,ite_s eI (fun e=>?_) fun e=>?_⟩
  ·have e:n=0:=Int.ofNat.inj e
   subst e
   rw [if_pos rfl] at j7
   refine isLs_s l4 ⟨t[p],Int.natCast_nonneg _,?_,Nat.le_of_ble_eq_true rfl,append_s l4 ?_ fun s5 u5=>hN ⟨p+1,x,y,z,l+1,acc++[(0,t.getD p 0)],some (.int 0),some (.int dd)⟩ s5 ⟨⟨hlt,⟨p,Nat.le_succ p,R4.updA Aa u5⟩,u5.ne _ _ hah h4,⟨p1,p2,p3,by show 0≤l+1;exact oz317 p4⟩,?_,?_,?_,?_⟩,Nat.le_succ_of_le j9⟩ ?_⟩
   ·rw [Int.toNat_natCast,List.getElem?_eq_getElem hlt]
   ·rw [List.length_map];exact oz318 hn j1 j6
   ·rw [u5.at_,List.map_append]
    rw [List.getD_eq_getElem?_getD,List.getElem?_eq_getElem hlt];rfl
   ·rw [List.length_append];exact Nat.succ_le_succ j6
   ·rw [← j7,List.append_assoc];rfl
   ·exact fun q o' n hq=>u5.ne _ _ (fun e=>by rw [e] at hq;rw [e1.no ha] at hq;cases hq) (fr4 q o' n hq)
   ·show t.length-(p+1)<t.length-p;exact oz235 hlt
  ·have e:n≠0:=fun q=>e (by rw [q];rfl)
   rw [if_neg e] at j7
   have zq0:=B.resolve_left fun q=>e (congrArg Prod.fst q);have b1:=zq0.1;have b2:=zq0.2.1.1;have b3:=zq0.2.1.2;have b4:=zq0.2.2;clear zq0
   dsimp only at b1 b2 b3 b4
   have hal:=alk_le t p dd
   refine isLs_s l4 ⟨Nat.le_of_ble_eq_true rfl,append_s l4 ?_ fun s5 u5=>meth_s (u5.ne _ _ hah h4) rfl (c36 F (Int.ofNat_le.mpr b2) p4 (u5.ne _ _ hah h4) fun s6 u6=>hN ⟨p+n,_,_,_,0,acc++[(n,dd)],some (.int n),some (.int dd)⟩ s6
    ⟨⟨?_,⟨p,Nat.le_add_right ..,(R4.updA Aa u5).updA Ah u6⟩,u6.at_,⟨(mvd_pos p1 p2 p3 (Int.ofNat_le.mpr b2)).1,(mvd_pos p1 p2 p3 (Int.ofNat_le.mpr b2)).2.1,(mvd_pos p1 p2 p3 (Int.ofNat_le.mpr b2)).2.2,Int.le_refl _⟩,?_,?_,?_,?_⟩,Nat.le_trans j9 (Nat.le_add_right ..)⟩ ?_)⟩
   ·rw [List.length_map];exact oz318 hn j1 j6
   ·show p+n≤t.length;exact oz319 b4 hal j1
   ·refine u6.ne _ _ hah.symm ?_
    rw [u5.at_,List.map_append];rfl
   ·rw [List.length_append];exact Nat.le_trans (Nat.succ_le_succ j6) (by show p+1≤p+n;exact oz320 e)
   ·rw [← j7,List.append_assoc]
    dsimp only
    rw [rep_fuel (f:=t.length-(p+n)) (g:=t.length-(p+1)) (Nat.le_refl _) (by exact oz321 e)];rfl
   ·intro q o' nn hq
    have h5:=u5.ne _ _ (fun e=>by rw [e] at hq;rw [e1.no ha] at hq;cases hq) (fr4 q o' nn hq)
    exact u6.ne _ _ (fun e=>by rw [e] at hq;rw [hh] at hq;cases hq) h5
   ·show t.length-(p+n)<t.length-p;exact oz322 hlt e
 ·have:p=t.length:=Nat.le_antisymm j1 (Int.ofNat_le.mp (Int.not_lt.mp hge))
  subst this
  rw [rep_done (Nat.le_refl _),List.append_nil] at j7
  rw [j7] at j5
  exact hP a s (e1.no ha) j8 j5
end
open PySem
theorem eqvAll_map {α:Type} [DecidableEq α] {enc:α→PyData} (h:∀ x y,PyData.eqv (enc x) (enc y)=decide (x=y)):∀ xs ys:List α,PyData.eqvAll (xs.map enc) (ys.map enc)=decide (xs=ys)
 | [],[]=>rfl
 | [],_::_=>rfl
 | _::_,[]=>rfl
 | x::xs,y::ys=>by
  show (PyData.eqv (enc x) (enc y)&&PyData.eqvAll (xs.map enc) (ys.map enc))=_
  rw [h,eqvAll_map h xs ys]
  by_cases e:x=y <;> by_cases e':xs=ys <;> simp [e,e']
theorem any_map {α:Type} [DecidableEq α] {enc:α→PyData} (h:∀ x y,PyData.eqv (enc x) (enc y)=decide (x=y)) (xs:List α) (y:α):(xs.map enc).any (fun z=>PyData.eqv z (enc y))=decide (y∈xs):=by
 induction xs with
 | nil=>rfl
 | cons x r ih =>
  rw [List.map_cons,List.any_cons,ih,h]
  by_cases e:x=y
  ·subst e;simp
  ·simp [e,Ne.symm e]
theorem count_map {α:Type} [DecidableEq α] {enc:α→PyData} (h:∀ x y,PyData.eqv (enc x) (enc y)=decide (x=y)) (xs:List α) (y:α):(xs.map enc).countP (fun z=>PyData.eqv z (enc y))=xs.count y:=by
 induction xs with
 | nil=>rfl
 | cons x r ih =>
  rw [List.map_cons,List.countP_cons,ih,h,List.count_cons]
  by_cases e:x=y <;> simp [e]
noncomputable def Sh (n:Nat) (d:PyData):Prop:=d.canLay0=true∧d.depth≤n
theorem Sh.all {α:Type} {enc:α→PyData} {n:Nat} (h:∀ x,Sh n (enc x)):∀ xs:List α,PyData.canLayAll0 (xs.map enc)=true∧PyData.depthAll (xs.map enc)≤n
 | []=>⟨rfl,Nat.zero_le _⟩
 | x::xs=>by
  have h1:=h x
  have h2:=Sh.all h xs
  refine ⟨?_,Nat.max_le.mpr ⟨h1.2,h2.2⟩⟩
  show ((enc x).canLay0&&PyData.canLayAll0 (xs.map enc))=true
  rw [h1.1,h2.1];rfl
theorem Sh.list {α:Type} {enc:α→PyData} {n:Nat} (h:∀ x,Sh n (enc x)) (xs:List α):Sh (n+1) (.list (xs.map enc)):=⟨(Sh.all h xs).1,Nat.succ_le_succ (Sh.all h xs).2⟩
theorem Sh.tup {α:Type} {enc:α→PyData} {n:Nat} (h:∀ x,Sh n (enc x)) (xs:List α):Sh (n+1) (.tuple (xs.map enc)):=⟨(Sh.all h xs).1,Nat.succ_le_succ (Sh.all h xs).2⟩
theorem Sh.int (i:Int):Sh 0 (.int i):=⟨rfl,Nat.le_refl _⟩
theorem Sh.shaped {n:Nat} {d:PyData} (h:Sh n d) (hn:n≤64:=by decide):SeqAt.shaped d=true:=by
 unfold SeqAt.shaped
 rw [h.1,decide_eq_true (Nat.le_trans h.2 hn)];rfl
noncomputable def intT (l:List Int):PyData:=.tuple (l.map .int)
noncomputable def intL (l:List Int):PyData:=.list (l.map .int)
noncomputable def stD (x:Nat×Nat):PyData:=intT [x.1,x.2]
noncomputable def stepsD (l:List (Nat×Nat)):PyData:=.list (l.map stD)
theorem eqv_int (x y:Int):PyData.eqv (.int x) (.int y)=decide (x=y):=by
 show (x==y)=_
 rw [Bool.eq_iff_iff,beq_iff_eq,decide_eq_true_iff]
theorem eqv_intT (x y:List Int):PyData.eqv (intT x) (intT y)=decide (x=y):=eqvAll_map eqv_int x y
theorem eqv_st (x y:Nat×Nat):PyData.eqv (stD x) (stD y)=decide (x=y):=by
 unfold stD
 rw [eqv_intT,Bool.eq_iff_iff,decide_eq_true_iff,decide_eq_true_iff]
 constructor
 ·intro h
  injection h with h1 h2
  injection h2 with h2 _
  exact Prod.ext (Int.ofNat.inj h1) (Int.ofNat.inj h2)
 ·rintro rfl;rfl
theorem eqv_steps (x y:List (Nat×Nat)):PyData.eqv (stepsD x) (stepsD y)=decide (x=y):=eqvAll_map eqv_st x y
theorem sh_intT (l:List Int):Sh 1 (intT l):=Sh.tup Sh.int l
theorem sh_st (x:Nat×Nat):Sh 1 (stD x):=sh_intT _
theorem sh_steps (l:List (Nat×Nat)):Sh 2 (stepsD l):=Sh.list sh_st l
theorem sh_stepss (l:List (List (Nat×Nat))):Sh 3 (.list (l.map stepsD)):=Sh.list sh_steps l
theorem reps_map {α:Type} {st:St} {f:α→V} {enc:α→PyData} (h:∀ x,Rep st (f x) (enc x)):∀ l:List α,Reps st (l.map f) (l.map enc)
 | []=>.nil
 | x::r=>.cons (h x) (reps_map h r)
theorem rep_intT {st:St} (l:List Int):Rep st (.tup (l.map .int)) (intT l):=.tup (reps_map (fun x=>.int x) l)
theorem rep_st {st:St} (x:Nat×Nat):Rep st (stp x) (stD x):=rep_intT [(x.1:Int),(x.2:Int)]
theorem rep_steps {st:St} {a:Addr} {l:List (Nat×Nat)} (h:st a=some (.list (l.map stp))):Rep st (.ref a) (stepsD l):=.list h (reps_map rep_st l)
noncomputable def encO (o:Opt):List Int:=[o.1,o.2.1,o.2.2.1,o.2.2.2]
theorem fold_best:∀ (os:List Opt) (x:Int×Nat×Nat),os.Pairwise (fun a b=>b.2.1<a.2.1)→(os.foldl upd x=x∧∀ o∈os,o.1≤x.1) ∨
  ∃ e∈os,os.foldl upd x=(e.1,e.2.2.1,e.2.2.2)∧x.1<e.1∧∀ o∈os,o.1<e.1∨(o.1=e.1∧o.2.1≤e.2.1)
 | [],x,_=>.inl ⟨rfl,fun _ h=>nomatch h⟩
 | o::r,x,hp=>by
  have hp:=List.pairwise_cons.mp hp
  rw [List.foldl_cons]
  by_cases h:x.1<o.1
  ·rw [show upd x o=(o.1,o.2.2.1,o.2.2.2) from if_pos h]
   rcases fold_best r (o.1,o.2.2.1,o.2.2.2) hp.2 with ⟨h1,h2⟩ | ⟨e,h1,h2,h3,h4⟩
   ·refine .inr ⟨o,List.mem_cons_self ..,h1,h,fun y hy=>?_⟩
    rcases List.mem_cons.mp hy with rfl | hy
    ·exact .inr ⟨rfl,Int.le_refl _⟩
    ·rcases Int.lt_or_eq_of_le (h2 y hy) with q | q
     ·exact .inl q
     ·exact .inr ⟨q,Int.le_of_lt (hp.1 y hy)⟩
   ·refine .inr ⟨e,List.mem_cons_of_mem _ h1,h2,Int.lt_trans h h3,fun y hy=>?_⟩
    rcases List.mem_cons.mp hy with rfl | hy
    ·exact .inl h3
    ·exact h4 y hy
  ·rw [show upd x o=x from if_neg h]
   rcases fold_best r x hp.2 with ⟨h1,h2⟩ | ⟨e,h1,h2,h3,h4⟩
   ·refine .inl ⟨h1,fun y hy=>?_⟩
    rcases List.mem_cons.mp hy with rfl | hy
    ·exact Int.not_lt.mp h
    ·exact h2 y hy
   ·refine .inr ⟨e,List.mem_cons_of_mem _ h1,h2,h3,fun y hy=>?_⟩
    rcases List.mem_cons.mp hy with rfl | hy
    ·exact .inl (Int.lt_of_le_of_lt (Int.not_lt.mp h) h3)
    ·exact h4 y hy
theorem lexLt_irr:∀ l:List Int,lexLt l l=false
 | []=>rfl
 | x::xs=>by unfold lexLt;rw [if_pos rfl];exact lexLt_irr xs
theorem encO_inj {o e:Opt} (h:encO o=encO e):o=e:=by
 unfold encO at h
 obtain ⟨a,b,c,d⟩:=o
 obtain ⟨a',b',c',d'⟩:=e
 injection h with h1 h
 injection h with h2 h
 injection h with h3 h
 injection h with h4 _
 dsimp only at h1 h2 h3 h4
 rw [h1,h2,Int.ofNat.inj h3,Int.ofNat.inj h4]
theorem last_max {us:List (List Int)} {m:List Int} (h:us.getLast?=some m) (hs:us.Pairwise (fun x y=>lexLt y x=false)):∀ x∈us,lexLt m x=false:=by
 obtain ⟨r,rfl⟩:=List.getLast?_eq_some_iff.mp h
 intro x hx
 rcases List.mem_append.mp hx with hx | hx
 ·exact (List.pairwise_append.mp hs).2.2 x hx m (List.mem_singleton.mpr rfl)
 ·rw [List.mem_singleton.mp hx];exact lexLt_irr m
theorem sorted_best {os:List Opt} (hne:os≠[]) (hpos:∀ o∈os,0<o.1) (hord:os.Pairwise (fun a b=>b.2.1<a.2.1)) {us:List (List Int)} (hp:us.Perm (os.map encO)) (hs:us.Pairwise (fun x y=>lexLt y x=false)) :
  ∃ o∈os,us.getLast?=some (encO o)∧best os=(o.2.2.1,o.2.2.2):=by
 have hun:us≠[]:=by
  rintro rfl
  have:=hp.length_eq
  rw [List.length_map] at this
  exact hne (List.eq_nil_of_length_eq_zero this.symm)
 obtain ⟨m,hm⟩:∃ m,us.getLast?=some m:=⟨_,List.getLast?_eq_some_getLast hun⟩
 obtain ⟨o,ho,rfl⟩:=List.mem_map.mp (hp.mem_iff.mp (List.mem_of_getLast? hm))
 have hmax:∀ e∈os,lexLt (encO o) (encO e)=false:=fun e he=>last_max hm hs _ (hp.mem_iff.mpr (List.mem_map_of_mem he))
 refine ⟨o,ho,hm,?_⟩
 unfold best
 rcases fold_best os (0,0,0) hord with ⟨h1,h2⟩ | ⟨e,h1,h2,h3,h4⟩
 ·exact absurd (hpos o ho) (Int.not_lt.mpr (h2 o ho))
 ·have hl:=hmax e h1
  unfold encO lexLt at hl
  have e1:o.1=e.1:=by
   rcases h4 o ho with q | q
   ·rw [if_neg (Int.ne_of_lt q)] at hl
    exact absurd q (of_decide_eq_false hl)
   ·exact q.1
  rw [if_pos e1] at hl
  unfold lexLt at hl
  have e2:o.2.1=e.2.1:=by
   rcases h4 o ho with q | q
   ·exact oz323 q e1
   ·rcases Int.lt_or_eq_of_le q.2 with z | z
    ·rw [if_neg (Int.ne_of_lt z)] at hl
     exact absurd z (of_decide_eq_false hl)
    ·exact z
  have:o=e:=by
   have key:∀ {l:List Opt},l.Pairwise (fun a b=>b.2.1<a.2.1)→o∈l→e∈l→o=e:=by
    intro l hl
    induction l with
    | nil=>intro h;cases h
    | cons x r ih =>
     have hl:=List.pairwise_cons.mp hl
     intro a b
     rcases List.mem_cons.mp a with a | a <;> rcases List.mem_cons.mp b with b | b
     ·rw [a,b]
     ·have:=hl.1 e b;rw [← a,e2] at this;exact absurd this (Int.lt_irrefl _)
     ·have:=hl.1 o a;rw [← b,e2] at this;exact absurd this (Int.lt_irrefl _)
     ·exact ih hl.2 a b
   exact key hord ho h1
  rw [h2,this]
theorem opts_ord (t:List Nat) (w ch p:Nat) (a b c l:Int):(opts t w ch p a b c l).Pairwise (fun x y=>y.2.1<x.2.1):=by
 have mc:∀ {v:Int} {o:Opt},o∈cand t w p a b c l v→o.2.1 = -v:=fun {v o} h=>by
  unfold cand at h
  split at h
  ·rw [List.mem_singleton.mp h]
  ·cases h
 have pc:∀ v:Int,(cand t w p a b c l v).Pairwise (fun x y=>y.2.1<x.2.1):=fun v=>by
  unfold cand;split
  ·exact List.pairwise_singleton ..
  ·exact List.Pairwise.nil
 have mf:∀ {o:Opt},o∈fopt t w ch p a b c l→o.2.1=0:=fun {o} h=>by
  unfold fopt at h
  split at h
  ·rw [List.mem_singleton.mp h]
  ·cases h
 have pf:(fopt t w ch p a b c l).Pairwise (fun x y=>y.2.1<x.2.1):=by
  unfold fopt;split
  ·exact List.pairwise_singleton ..
  ·exact List.Pairwise.nil
 unfold opts
 refine List.pairwise_append.mpr ⟨pf,List.pairwise_append.mpr ⟨pc 1,List.pairwise_append.mpr ⟨pc 2,pc 3,fun x hx y hy=>?_⟩,fun x hx y hy=>?_⟩,fun x hx y hy=>?_⟩
 ·rw [mc hx,mc hy];decide
 ·rw [mc hx]
  rcases List.mem_append.mp hy with hy | hy <;> rw [mc hy] <;> decide
 ·rw [mf hx]
  rcases List.mem_append.mp hy with hy | hy
  ·rw [mc hy];decide
  ·rcases List.mem_append.mp hy with hy | hy <;> rw [mc hy] <;> decide
section
variable {C:Cx} {st:St} {k:Nat} {P:V→St→Prop}
theorem cut_last {α:Type} (l:List α):cut l (.int (-1)) .none=some l.getLast?.toList:=by
 show some (cutL l (some (-1)) none)=_
 unfold cutL
 show some ((l.drop (clipAt l.length (-1))).take (l.length-clipAt l.length (-1)))=_
 have e:clipAt l.length (-1)=l.length-1:=by unfold clipAt;rw [if_pos (by decide)];exact oz324
 rw [e,List.take_of_length_le (by rw [List.length_drop];exact Nat.le_refl _)]
 congr 1
 cases q:l.getLast? with
 | none=>rw [List.getLast?_eq_none_iff.mp q];rfl
 | some x =>
  obtain ⟨r,rfl⟩:=List.getLast?_eq_some_iff.mp q
  rw [List.length_append,List.length_singleton,Nat.add_sub_cancel,List.drop_left];rfl
noncomputable def optV (o:Opt):V:=.tup ((encO o).map .int)
theorem intTups_map:∀ l:List Opt,intTups (l.map optV)=some (l.map encO)
 | []=>rfl
 | x::r=>by
  rw [List.map_cons]
  show (match intsOf ((encO x).map .int),intTups (r.map optV) with | some a,some b=>some (a::b) | _,_=>none)=_
  rw [intsOf_map,intTups_map r];rfl
theorem sortedL_s {a:Addr} {os:List Opt} (h:st a=some (.list (os.map optV))) (hl:os.length<64) (hn:os≠[]) (p:∀ (us:List (List Int)) a st',us.Perm (os.map encO)→us.Pairwise (fun x y=>lexLt y x=false)→st a=none→Ext st st'→st' a=some (.list (us.map fun t=>.tup (t.map .int)))→P (.ref a) st'):sortedR a st P:=by
 unfold sortedR;rw [h]
 exact ⟨by rw [List.length_map];exact hl,_,intTups_map os,fun q=>hn (List.map_eq_nil_iff.mp q),fun t ht=>by obtain ⟨o,_,rfl⟩:=List.mem_map.mp ht;exact ⟨_,_,_,_,rfl⟩,fun us h1 h2=>new_s fun a st'=>p us a st' h1 h2⟩
theorem eqNil_s {Q:Bool→Prop} {a e:Addr} {α:Type} {f:α→V} {enc:α→PyData} {n:Nat} {l:List α} (hr:∀ x,Rep st (f x) (enc x)) (hs:∀ x,Sh n (enc x)) (hn:n<64) (h:st a=some (.list (l.map f))) (he:st e=some (.list [])) (p:Q (decide (l=[]))):eqW (.ref a) (.ref e) st Q:=by
 refine ⟨_,.data (.list h (reps_map hr l)) (.list he .nil) ((Sh.list hs l).shaped hn) rfl,?_⟩
 cases l <;> exact p
noncomputable def RowsAt (st:St) (ra:Addr) (t:List Nat) (w ch:Nat):Prop:=∃ as:List Addr,as.length=t.length∧st ra=some (.list (as.map .ref))∧∀ (i:Nat) (x:Addr),as[i]?=some x→st x=some (.list ((evy t w ch i).map stp))
theorem RowsAt.ext {st st':St} {ra:Addr} {t:List Nat} {w ch:Nat} (R:RowsAt st ra t w ch) (e:Ext st st'):RowsAt st' ra t w ch :=
 R.imp fun as h=>⟨h.1,e _ _ h.2.1,fun i x hx=>e _ _ (h.2.2 i x hx)⟩
structure LSt where
 p:Nat
 x:Int
 y:Int
 z:Int
 l:Int
 acc:List (Nat×Nat)
 th:Addr
 v8:Option V
 v9:Option V
 v10:Option V
 v11:Option V
 v12:Option V
 v13:Option V
 v14:Option V
structure LJ (st s:St) (a:Addr) (t:List Nat) (w ch:Nat) (all:List (Nat×Nat)) (q:LSt):Prop where
 hp:q.p≤t.length
 ext:Ext st s
 thr:s q.th=some (.list [.int q.x,.int q.y,.int q.z])
 lst:s a=some (.list (q.acc.map stp))
 len:q.acc.length≤q.p
 all:q.acc++rep t w ch (t.length-q.p) q.p q.x q.y q.z q.l=all
 ne:q.th≠a
theorem law_opt {a b c l:Int} {t:List Nat} {w p v:Nat}:cand t w p a b c l v=if (0<(tb a b c v l).1∧(tb a b c v l).1≤min (p:Int) w)∧2<(alk t p (tb a b c v l).1.toNat:Int) then [(4*(alk t p (tb a b c v l).1.toNat:Int)-bits v,-(v:Int),alk t p (tb a b c v l).1.toNat,(tb a b c v l).1.toNat)] else []:=by
 unfold cand
 by_cases h:(0<(tb a b c v l).1∧(tb a b c v l).1≤min (p:Int) w)∧2<(alk t p (tb a b c v l).1.toNat:Int)
 ·rw [if_pos h,if_pos ⟨h.1.1,by exact oz325 h,by exact oz326 h,by exact oz327 h⟩]
 ·rw [if_neg h,if_neg fun q=>h ⟨⟨q.1,by exact oz328 q⟩,by exact oz329 q⟩]
noncomputable def L67 (t:List Nat) (start:Nat) (ra:Addr) (w:Nat) (th a:Addr) (p:Nat) (l:Int) (v8 v9 v10 v11 v12 v13 v14:Option V):Ls:=[some (.bytes t),some (.int start),some (.ref ra),some (.int w),some (.ref th),some (.ref a),some (.int p),some (.int l),v8,v9,v10,v11,v12,v13,v14]
noncomputable def foF (x y z l:Int) (x':Nat×Nat):Opt:=(4*(x'.1:Int)-bits (val x y z x'.2 l),0,x'.1,x'.2)
structure LF (s s':St) (a8 q3:Addr) (its:List (Nat×Nat)) (p:Nat) (f:Nat×Nat→Opt) (all:List Opt) (r:List (Nat×Nat)) (os:List Opt):Prop where
 ext:Ext s s'
 lst:s' a8=some (.list (os.map optV))
 it:s' q3=some (.list (its.map stp))
 all:os++r.map f=all
 ok:∀ x'∈r,(1≤x'.2∧x'.2≤p)∧x'.1<1000
structure LG (s s':St) (a8 q5:Addr) (f:Nat→List Opt) (all:List Opt) (r:List Nat) (os:List Opt):Prop where
 ext:Ext s s'
 lst:s' a8=some (.list (os.map optV))
 it:s' q5=some (.list [.int 1,.int 2,.int 3])
 all:os++r.flatMap f=all
 ok:∀ v∈r,1≤v∧v<64
 len:os.length+r.length≤4
theorem c67 (F:Fns C) {ra th:Addr} {t:List Nat} {w ch start:Nat} {x y z:Int} (hn:t.length<60) (R:RowsAt st ra t w ch) (hs:start≤t.length) (hth:st th=some (.list [.int x,.int y,.int z]))
  (hP:∀ a st',st a=none→Ext st st'→st' a=some (.list ((rep t w ch (t.length-start) start x y z 0).map stp))→P (.ref a) st'):CallF C (k+4) 67 [.bytes t,.int start,.ref ra,.int w,.ref th] st P:=by
 refine call0 F 67 (by decide) rfl ⟨Nat.zero_le _,new_s fun a s1 ha e1 g1=>⟨Nat.le_of_ble_eq_true rfl,rfl,?_⟩⟩
 refine while_s (fun q:LSt=>L67 t start ra w q.th a q.p q.l q.v8 q.v9 q.v10 q.v11 q.v12 q.v13 q.v14)
  (fun q s=>LJ st s a t w ch (rep t w ch (t.length-start) start x y z 0) q) (fun q=>t.length-q.p) ⟨start,x,y,z,0,[],th,none,none,none,none,none,none,none⟩ rfl
  ⟨hs,e1,e1 _ _ hth,g1,Nat.zero_le _,rfl,by rintro rfl;rw [hth] at ha;cases ha⟩ ?_
 intro zr0 s N zr1 hN
 obtain ⟨p,x,y,z,l,acc,th,v8,v9,v10,v11,v12,v13,v14⟩:=zr0
 obtain ⟨j1,j3,j4,j5,j6,j7,j8⟩:=zr1
 have j1:p≤t.length:=j1
 have j4:s th=some (.list [.int x,.int y,.int z]):=j4
 have j5:s a=some (.list (acc.map stp)):=j5
 have j6:acc.length≤p:=j6
 have j7:acc++rep t w ch (t.length-p) p x y z l=_:=j7
 have j8:th≠a:=j8
 refine ite_s dI (fun hlt=>?_) fun hge=>?_
 ·have hlt:p<t.length:=Int.ofNat_lt.mp hlt
  refine ex1 (R.ext j3) fun as zq0=>?_;have r1:=zq0.1;have r2:=zq0.2.1;have r3:=zq0.2.2;clear zq0
  refine ⟨Nat.zero_le _,new_s fun a8 s2 ha8 e2 g2=>idxL_s (e2 _ _ r2) (x:=.ref (as[p]'(r1▸hlt))) ?_ (slcL_s (e2 _ _ (r3 p _ (List.getElem?_eq_getElem (r1▸hlt)))) (cut_last _) fun q3 s3 hq3 e3 g3=>?_)⟩
  ·rw [nth_nn _ (by rw [List.length_map,r1];exact hlt),List.getElem?_map,List.getElem?_eq_getElem (r1▸hlt)];rfl
  have n83:q3≠a8:=by rintro rfl;rw [g2] at hq3;cases hq3
  refine for_f (fun v:List Opt×Option V×Option V=>L67 t start ra w th a p l (some (.ref a8)) v9 v.2.1 v.2.2 v12 v13 v14) stp (evy t w ch p).getLast?.toList _ (fun r v s'=>LF s s' a8 q3 (evy t w ch p).getLast?.toList p (foF x y z l) (fopt t w ch p x y z l) r v.1) ([],v10,v11)
   (iterL (by rw [g3,List.getLast?_map];cases (evy t w ch p).getLast? <;> rfl:s3 q3=some (.list ((evy t w ch p).getLast?.toList.map stp)))) rfl ⟨e2.trans e3,e3 _ _ g2,by rw [g3,List.getLast?_map];cases (evy t w ch p).getLast? <;> rfl,?_,?_⟩ ?_ ?_
  ·unfold fopt;cases (evy t w ch p).getLast? <;> rfl
  ·intro x' hx'
   cases q:(evy t w ch p).getLast? with
   | none=>rw [q] at hx';cases hx'
   | some y' =>
    rw [q] at hx'
    have:x'=y':=List.mem_singleton.mp hx'
    subst this
    have:=evy_ok (List.mem_of_getLast? q)
    exact ⟨this.1,this.2.2▸Nat.lt_trans (alk_short hn _ _) (by decide)⟩
  ·intro x' r v s4 N2 J hN2
   have zq0:=J.ok x' (List.mem_cons_self ..);have b1:=zq0.1.1;have b2:=zq0.1.2;have b3:=zq0.2;clear zq0
   obtain ⟨v',hv,hv2⟩:=val_lt (a:=x) (b:=y) (c:=z) (l:=l) b1 (by exact oz330 hn j1 b2)
   refine ⟨J.it,_,rfl,isLs_s J.lst (c65 F (J.ext _ _ j4) fun s5 e5=>?_)⟩
   rw [hv]
   refine c66 F b3 hv2 fun s6 e6=>⟨Nat.le_of_ble_eq_true rfl,append_s (e6 _ _ (e5 _ _ J.lst)) ?_ fun s7 u7=>hN2 (v.1++[foF x y z l x'],_,_) s7 ⟨u7.ext ha8 (J.ext.trans (e5.trans e6)),?_,?_,?_,fun x'' h=>J.ok x'' (List.mem_cons_of_mem _ h)⟩⟩
   ·have:=congrArg List.length J.all
    rw [List.length_append,List.length_map,List.length_cons] at this
    have hf:(fopt t w ch p x y z l).length≤1:=by unfold fopt;split <;> exact Nat.le_of_ble_eq_true rfl
    rw [List.length_map];exact oz331 this hf
   ·rw [u7.at_,List.map_append,foF,hv];rfl
   ·exact u7.ne _ _ n83 (e6 _ _ (e5 _ _ J.it))
   ·rw [← J.all,List.append_assoc];rfl
  intro v s4 JF
  refine ⟨JF.it,Nat.le_of_ble_eq_true rfl,new_s fun q5 s5 hq5 e5 g5=>?_⟩
  have qf:v.1=fopt t w ch p x y z l:=(List.append_nil _).symm.trans JF.all
  refine for_f (fun u:List Opt×Option V×Option V×Option V×Option V=>L67 t start ra w th a p l (some (.ref a8)) u.2.1 u.2.2.1 u.2.2.2.1 u.2.2.2.2 v13 v14) (fun (v:Nat)=>.int v) [1,2,3] _ (fun r u s'=>LG s s' a8 q5 (fun (v:Nat)=>cand t w p x y z l v) (opts t w ch p x y z l) r u.1) (v.1,v9,v.2.1,v.2.2,v12)
   (iterL g5) rfl ⟨JF.ext.trans e5,e5 _ _ JF.lst,g5,?_,by decide,?_⟩ ?_ ?_
  ·rw [qf];unfold opts;simp only [List.flatMap_cons,List.flatMap_nil,List.append_nil];rfl
  ·have hf:(fopt t w ch p x y z l).length≤1:=by unfold fopt;split <;> exact Nat.le_of_ble_eq_true rfl
   rw [qf];show _+3≤4;exact oz332 hf
  ·intro v r u s6 N2 J hN2
   have zq0:=J.ok v (List.mem_cons_self ..);have b1:=zq0.1;have b2:=zq0.2;clear zq0
   have q2':∀ v∈r,1≤v∧v<64:=fun u hu=>J.ok u (List.mem_cons_of_mem _ hu)
   have q3:u.1.length+(r.length+1)≤4:=J.len
   have q1:=J.all
   rw [List.flatMap_cons,law_opt] at q1
   refine ⟨J.it,c64 F (Int.ofNat_le.mpr b1) (J.ext _ _ j4) fun q7 s7 hq7 e7 g7=>⟨_,rfl,?_⟩⟩
   have e67:=J.ext.trans e7
   have n58:q5≠a8:=by rintro rfl;rw [JF.lst] at hq5;cases hq5
   have no:¬ ((0<(tb x y z v l).1∧(tb x y z v l).1≤min (p:Int) w)∧2<(alk t p (tb x y z v l).1.toNat:Int))→∀ w9 w10 w11 w12,N2 (L67 t start ra w th a p l (some (.ref a8)) w9 w10 w11 w12 v13 v14) s7:=fun hc w9 w10 w11 w12 =>
    hN2 (u.1,w9,w10,w11,w12) s7 ⟨e67,e7 _ _ J.lst,e7 _ _ J.it,by rw [if_neg hc] at q1;exact q1,q2',by exact oz333 q3⟩
   refine ite_s dI (fun h0=>ite_s dI (fun h1=>?_) fun h1=>?_) fun h0=>?_
   ·have hd:1≤(tb x y z v l).1.toNat∧(tb x y z v l).1.toNat≤p:=by exact oz334 h0 h1
    show CallF C (k+3) 59 [.bytes t,.int p,.int (tb x y z v l).1] s7 _
    rw [show (tb x y z v l).1=((tb x y z v l).1.toNat:Int) from (Int.toNat_of_nonneg (Int.le_of_lt h0)).symm]
    refine c59 F hd.2 hd.1 j1 (ite_s dI (fun h2=>?_) fun h2=>?_)
    ·rw [if_pos ⟨⟨h0,h1⟩,h2⟩] at q1
     refine isLs_s (e7 _ _ J.lst) (c66 F (Nat.lt_trans (alk_short hn _ _) (by decide)) b2 fun s8 e8=>⟨Nat.le_of_ble_eq_true rfl,append_s (e8 _ _ (e7 _ _ J.lst)) (by rw [List.length_map];exact oz335 q3) fun s9 u9'=>hN2 (u.1++[(4*(alk t p (tb x y z v l).1.toNat:Int)-bits v,-(v:Int),alk t p (tb x y z v l).1.toNat,(tb x y z v l).1.toNat)],some (.int v),u.2.2.1,some (.int (tb x y z v l).1.toNat),some (.int (alk t p (tb x y z v l).1.toNat))) s9 ⟨u9'.ext ha8 (e67.trans e8),?_,u9'.ne _ _ n58 (e8 _ _ (e7 _ _ J.it)),?_,q2',?_⟩⟩)
     ·rw [u9'.at_,List.map_append];rfl
     ·rw [← q1,List.append_assoc]
     ·rw [List.length_append,List.length_singleton];exact oz336 q3
    ·exact no (fun q=>h2 q.2) _ _ _ _
   ·exact no (fun q=>h1 q.1.2) _ _ _ _
   ·exact no (fun q=>h0 q.1.1) _ _ _ _
  ·intro u s6 J
   have q1:u.1=opts t w ch p x y z l:=(List.append_nil _).symm.trans J.all
   have g6:s6 a8=some (.list ((opts t w ch p x y z l).map optV)):=q1▸J.lst
   have q3:(opts t w ch p x y z l).length+0≤4:=q1▸J.len
   have e6:=J.ext
   refine ⟨J.it,Nat.zero_le _,new_s fun q7 s7 hq7 e7 g7=>eqNil_s (enc:=fun o=>intT (encO o)) (fun o=>rep_intT _) (fun o=>sh_intT _) (by decide) (e7 _ _ g6) g7 (ite_s dI (fun hnil=>?_) fun hnil=>?_)⟩
   ·have B:best (opts t w ch p x y z l)=(0,0):=by rw [hnil];rfl
    have g8:=e7 _ _ (e6 _ _ j5)
    rw [rep_step hlt,B,if_pos rfl] at j7
    refine isLs_s g8 ⟨t[p],Int.natCast_nonneg _,?_,Nat.le_of_ble_eq_true rfl,append_s g8 ?_ fun s8 u8=>⟨Nat.le_of_ble_eq_true rfl,rfl,hN ⟨p+1,x,y,z,l+1,acc++[(0,t.getD p 0)],th,_,_,_,_,_,_,_⟩ s8 ⟨hlt,u8.ext ha (j3.trans (e6.trans e7)),u8.ne _ _ j8 (e7 _ _ (e6 _ _ j4)),?_,?_,?_,j8⟩ ?_⟩⟩
    ·rw [Int.toNat_natCast,List.getElem?_eq_getElem hlt]
    ·rw [List.length_map];exact oz318 hn j1 j6
    ·rw [u8.at_,List.map_append,List.getD_eq_getElem?_getD,List.getElem?_eq_getElem hlt];rfl
    ·rw [List.length_append];exact Nat.succ_le_succ j6
    ·rw [← j7,List.append_assoc];rfl
    ·show t.length-(p+1)<t.length-p;exact oz235 hlt
   ·refine sortedL_s (e7 _ _ g6) (by exact oz337 q3) hnil fun us a10 s8 hp hs ha10 e8 g10=>?_
    obtain ⟨o,ho,hlast,hb⟩:=sorted_best hnil (fun o ho=>(opts_ok (by exact oz316 hn j1) ho).1) (opts_ord ..) hp hs
    obtain ⟨b0,b1,⟨b2,b3⟩,b4⟩:=opts_ok (by exact oz316 hn j1) ho
    obtain ⟨ow,oo,n,dd⟩:=o
    dsimp only at b0 b1 b2 b3 b4 hb
    rw [rep_step hlt,hb,if_neg (by dsimp only;exact oz338 b1)] at j7
    dsimp only at j7
    have hal:=alk_le t p dd
    refine idxL_s g10 (x:=optV (ow,oo,n,dd)) (nth_last (by rw [List.getLast?_map,hlast];rfl)) ⟨rfl,?_⟩
    have e78:=e6.trans (e7.trans e8)
    have g8:=e78 _ _ j5
    refine isLs_s g8 ⟨Nat.le_of_ble_eq_true rfl,append_s g8 (by rw [List.length_map];exact oz318 hn j1 j6) fun s9 u9=>c65 F (u9.ne _ _ j8 (e78 _ _ j4)) fun s10 e10=>c64 F (val_pos (d:=(dd:Int)) (Int.ofNat_le.mpr b2)) (e10 _ _ (u9.ne _ _ j8 (e78 _ _ j4))) fun q11 s11 hq11 e11 g11=>⟨_,rfl,Nat.le_of_ble_eq_true rfl,rfl,
     hN ⟨p+n,(mvd x y z dd (tb x y z (val x y z dd l) l).2).1,(mvd x y z dd (tb x y z (val x y z dd l) l).2).2.1,(mvd x y z dd (tb x y z (val x y z dd l) l).2).2.2,0,acc++[(n,dd)],q11,_,_,_,_,_,_,_⟩ s11 ⟨?_,(u9.ext ha (j3.trans e78)).trans (e10.trans e11),?_,e11 _ _ (e10 _ _ ?_),?_,?_,?_⟩ ?_⟩⟩
    ·show p+n≤t.length;exact oz319 b4 hal j1
    ·rw [g11,val_tb (d:=(dd:Int)) (Int.ofNat_le.mpr b2)]
    ·rw [u9.at_,List.map_append];rfl
    ·rw [List.length_append];exact Nat.le_trans (Nat.succ_le_succ j6) (by show p+1≤p+n;exact oz339 b1)
    ·rw [← j7,List.append_assoc]
     dsimp only
     rw [rep_fuel (f:=t.length-(p+n)) (g:=t.length-(p+1)) (Nat.le_refl _) (by exact oz340 b1)];rfl
    ·rintro rfl
     rw [e10 _ _ u9.at_] at hq11;cases hq11
    ·show t.length-(p+n)<t.length-p;exact oz341 b1 hlt
 ·have:p=t.length:=Nat.le_antisymm j1 (Int.ofNat_le.mp (Int.not_lt.mp hge))
  subst this
  rw [rep_done (Nat.le_refl _),List.append_nil] at j7
  rw [j7] at j5
  exact hP a s ha j3 j5
end
set_option exponentiation.threshold 3000
noncomputable def slog (c t:Nat):Nat:=(t^16 / c^16).log2
theorem slog_of {c t f:Nat} (hc:1≤c) (h1:c^16*2^f≤t^16) (h2:t^16<c^16*2^(f+1)):f=slog c t:=by
 have hp:0<c^16:=Nat.pow_pos hc
 have a1:2^f≤t^16 / c^16:=(Nat.le_div_iff_mul_le hp).mpr (by rw [Nat.mul_comm];exact h1)
 have a2:t^16 / c^16<2^(f+1):=(Nat.div_lt_iff_lt_mul hp).mpr (by rw [Nat.mul_comm];exact h2)
 have h0:t^16 / c^16≠0:=Nat.ne_of_gt (Nat.lt_of_lt_of_le (Nat.two_pow_pos f) a1)
 exact ((Nat.log2_eq_iff h0).mpr ⟨a1,a2⟩).symm
section
variable {C:Cx} {st:St} {k:Nat} {P:V→St→Prop}
theorem small_nat {n:Nat} (h:n<2^1500):small (n:Int):=h
theorem pow_lt {a b e:Nat} (h:a<2^b) (he:e≠0):a^e<2^(b*e):=by
 rw [Nat.pow_mul];exact Nat.pow_lt_pow_left h he
theorem lt_up {a b c:Nat} (h:a<2^b) (hb:b≤c):a<2^c:=Nat.lt_of_lt_of_le h (Nat.pow_le_pow_right (by decide) hb)
theorem c53 (F:Fns C) {c t:Nat} (hc:1≤c) (hct:c≤t) (ht:t<2^32) (hP:P (.int (slog c t)) st):CallF C (k+1) 53 [.int c,.int t] st P:=by
 have hT:t^16<2^512:=pow_lt ht (by decide)
 have hC:c^16≤t^16:=Nat.pow_le_pow_left hct 16
 have hp:0<c^16:=Nat.pow_pos hc
 refine call0 F 53 (by decide) rfl ⟨by decide,by decide,lt_up (Nat.lt_of_le_of_lt hct ht) (by decide),by decide,by decide,lt_up ht (by decide),Nat.le_of_ble_eq_true rfl,rfl,?_⟩
 refine while_s (fun f:Nat=>[some (.int c),some (.int t),some (.int f),some (.int ((c:Int)^16)),some (.int ((t:Int)^16))]) (fun f s=>s=st∧c^16*2^f≤t^16) (fun f=>t^16-f) 0 rfl ⟨rfl,by rw [Nat.pow_zero,Nat.mul_one];exact hC⟩ ?_
 intro f _ N zr0 hN
 obtain rfl:=zr0.1;have hf:=zr0.2;clear zr0
 have hf2:2^f≤t^16:=Nat.le_trans (Nat.le_mul_of_pos_left _ hp) hf
 have hf3:f<512:=(Nat.pow_lt_pow_iff_right (by decide)).mp (Nat.lt_of_le_of_lt hf2 hT)
 have e1:((c:Int)^16*2^((f:Int)+1).toNat)=((c^16*2^(f+1):Nat):Int):=by
  rw [show ((f:Int)+1).toNat=f+1 from rfl];simp
 refine ⟨by exact oz342,by exact oz343 hf3,by decide,?_,?_,?_⟩
 ·show small ((c:Int)^16)
  rw [← Int.natCast_pow]
  exact lt_up (Nat.lt_of_le_of_lt hC hT) (by decide)
 ·show small ((2:Int)^(f+1))
  rw [show (2:Int)^(f+1)=((2^(f+1):Nat):Int) by simp]
  exact Nat.pow_lt_pow_right (by decide) (by exact oz344 hf3)
 ·rw [e1,← Int.natCast_pow t 16]
  refine ite_s dI (fun h=>?_) fun h=>?_
  ·exact hN (f+1) _ ⟨rfl,Int.ofNat_le.mp h⟩ (by
    have:f<2^f:=Nat.lt_two_pow_self
    exact oz345 this hf2)
  ·rw [← slog_of hc hf (Nat.lt_of_not_le fun q=>h (Int.ofNat_le.mpr q))] at hP
   exact hP
structure SJ (c t j f lo tp:Nat):Prop where
 elo:lo=c^(2^j)*2^f
 etp:tp=t^(2^j)
 le:lo≤tp
 lt:tp<2*lo
theorem SJ.turn {c t j f lo tp:Nat} (h:SJ c t j f lo tp):(2*(lo*lo)≤tp*tp→SJ c t (j+1) (2*f+1) (2*(lo*lo)) (tp*tp))∧(¬ 2*(lo*lo)≤tp*tp→SJ c t (j+1) (2*f) (lo*lo) (tp*tp)):=by
 obtain ⟨h1,h2,h3,h4⟩:=h
 have e1:lo*lo=c^(2^(j+1))*2^(2*f):=by
  rw [h1,Nat.pow_succ 2 j,Nat.pow_mul,Nat.mul_comm 2 f,Nat.pow_mul,Nat.pow_two,Nat.pow_two,Nat.mul_mul_mul_comm]
 have e2:tp*tp=t^(2^(j+1)):=by rw [h2,Nat.pow_succ 2 j,Nat.pow_mul,Nat.pow_two]
 have l1:lo*lo≤tp*tp:=Nat.mul_le_mul h3 h3
 have l2:tp*tp<2*lo*(2*lo):=Nat.mul_lt_mul'' h4 h4
 have l3:2*lo*(2*lo)=2*(2*(lo*lo)):=by rw [Nat.mul_mul_mul_comm,Nat.mul_assoc]
 rw [l3] at l2
 refine ⟨fun h=>⟨?_,e2,h,l2⟩,fun h=>⟨e1,e2,l1,Nat.lt_of_not_le h⟩⟩
 rw [e1,Nat.pow_succ 2 (2*f),Nat.mul_left_comm,Nat.mul_comm 2]
structure S37 where
 f:Nat
 lo:Nat
 tp:Nat
 x:Option V
theorem c37 (F:Fns C) {c t:Nat} (hc:1≤c) (hct:c≤t) (ht:t<2^32) (hP:P (.int (slog c t)) st):CallF C (k+1) 37 [.int c,.int t] st P:=by
 refine call0 F 37 (by decide) rfl ⟨Nat.le_of_ble_eq_true rfl,rfl,?_⟩
 refine while_s (fun q:Nat×Nat=>[some (.int c),some (.int t),some (.int q.1),none,some (.int q.2),some (.int t)]) (fun q s=>s=st∧q.2=c*2^q.1∧q.2≤t) (fun q=>t-q.2) (0,c) rfl ⟨rfl,by rw [Nat.pow_zero,Nat.mul_one],hct⟩ ?_
 intro zr1 s N zr2 hN
 obtain ⟨f,lo⟩:=zr1
 obtain rfl:=zr2.1;have h1:=zr2.2.1;have h2:=zr2.2.2;clear zr2
 have h1:lo=c*2^f:=h1
 have h2:lo≤t:=h2
 have hpos:1≤lo:=by rw [h1];exact Nat.le_trans hc (Nat.le_mul_of_pos_right _ (Nat.two_pow_pos f))
 have hs:small (lo:Int):=lt_up (Nat.lt_of_le_of_lt h2 ht) (by decide)
 refine ⟨lt_small (by decide),hs,ite_s dI (fun h=>?_) fun h=>?_⟩
 ·refine ⟨lt_small (by decide),hs,hN (f+1,2*lo) _ ⟨rfl,?_,Int.ofNat_le.mp h⟩ ?_⟩
  ·show 2*lo=c*2^(f+1)
   rw [h1,Nat.pow_succ,Nat.mul_left_comm,Nat.mul_comm 2]
  ·have:=Int.ofNat_le.mp h
   show t-2*lo<t-lo
   have:2*lo≤t:=this
   clear hs hN h1;exact oz346 h hpos
 have hlt:t<2*lo:=Nat.lt_of_not_le fun q=>h (Int.ofNat_le.mpr q)
 refine ⟨by decide,for_f (fun q:S37=>[some (.int c),some (.int t),some (.int q.f),q.x,some (.int q.lo),some (.int q.tp)]) (fun (i:Nat)=>.int (0+(i:Int))) (List.range 4) (fun _=>True) (fun r q s'=>s'=s∧∃ j,j+r.length=4∧SJ c t j q.f q.lo q.tp) ⟨f,lo,t,none⟩ (iterR (a:=0) (b:=4) (by decide) (by decide)) rfl
  ⟨rfl,0,rfl,by rw [Nat.pow_zero,Nat.pow_one,h1],by rw [Nat.pow_zero,Nat.pow_one],h2,hlt⟩ ?_ ?_⟩
 ·intro i r zr3 _ N zr4 hN
  obtain ⟨f,lo,tp,x⟩:=zr3
  obtain rfl:=zr4.1;refine ex1 zr4.2 fun j zq0=>?_;have hj:=zq0.1;have hJ:=zq0.2;clear zq0 zr4
  have hJ:SJ c t j f lo tp:=hJ
  rw [List.length_cons] at hj
  have zq0:=hJ.turn;have t1:=zq0.1;have t2:=zq0.2;clear zq0
  have htp:tp<2^256:=by
   rw [hJ.etp]
   refine lt_up (pow_lt ht (Nat.ne_of_gt (Nat.two_pow_pos j))) ?_
   have:2^j≤2^3:=Nat.pow_le_pow_right (by decide) (by exact oz347 hj)
   exact Nat.mul_le_mul_left 32 this
  have hlo:lo<2^256:=Nat.lt_of_le_of_lt hJ.le htp
  have s1:small (lo:Int):=lt_up hlo (by decide)
  have s2:small (tp:Int):=lt_up htp (by decide)
  have s3:small ((lo:Int)*lo):=by
   rw [← Int.natCast_mul]
   exact lt_up (Nat.mul_lt_mul'' hlo hlo:_<2^256*2^256) (by decide:512≤1500)
  have hf:f<2^256:=by
   refine Nat.lt_of_lt_of_le Nat.lt_two_pow_self (Nat.le_trans ?_ (Nat.le_of_lt hlo))
   rw [hJ.elo];exact Nat.le_mul_of_pos_left _ (Nat.pow_pos hc)
  refine ⟨trivial,s1,s1,s2,s2,Nat.le_of_ble_eq_true rfl,rfl,lt_small (by decide),lt_up hf (by decide),lt_small (by decide),s3,?_⟩
  rw [← Int.natCast_mul lo lo,← Int.natCast_mul tp tp]
  refine ite_s dI (fun h=>?_) fun h=>?_
  ·exact ⟨lt_small (by decide),by rw [Int.natCast_mul];exact s3,hN ⟨2*f+1,2*(lo*lo),tp*tp,_⟩ _ ⟨rfl,j+1,by exact oz348 hj,t1 (Int.ofNat_le.mp h)⟩⟩
  ·exact hN ⟨2*f,lo*lo,tp*tp,_⟩ _ ⟨rfl,j+1,by exact oz348 hj,t2 fun q=>h (Int.ofNat_le.mpr q)⟩
 ·intro zr5 _ zr6
  obtain ⟨f,lo,tp,x⟩:=zr5
  obtain rfl:=zr6.1;refine ex1 zr6.2 fun j zq0=>?_;have hj:=zq0.1;have hJ:=zq0.2;clear zq0 zr6
  obtain rfl:j=4:=hj
  have hJ:SJ c t 4 f lo tp:=hJ
  refine ⟨trivial,?_⟩
  rw [← slog_of (c:=c) (t:=t) (f:=f) hc (by have:=hJ.le;rw [hJ.elo,hJ.etp] at this;exact this) (by have:=hJ.lt;rw [hJ.elo,hJ.etp] at this;rw [show c^16*2^(f+1)=2*(c^16*2^f) by rw [Nat.pow_succ 2 f,← Nat.mul_assoc,Nat.mul_comm _ 2]];exact this)] at hP
  exact hP
end
open PySem
noncomputable def encD (ms:List (Int×Int)):List (Int×V):=ms.map fun p=>(p.1,.int p.2)
noncomputable def iset (k v:Int):List (Int×Int)→List (Int×Int)
 | []=>[(k,v)]
 | (j,u)::r=>if j=k then (j,v)::r else (j,u)::iset k v r
theorem encD_set (k v:Int):∀ ms,dset k (.int v) (encD ms)=encD (iset k v ms)
 | []=>rfl
 | (j,u)::r=>by
  show (if j=k then _ else (j,V.int u)::dset k (.int v) (encD r))=encD (if j=k then _ else _)
  rw [encD_set k v r]
  split <;> rfl
theorem encD_get (k:Int):∀ ms,dget k (encD ms)=(ms.lookup k).map .int
 | []=>rfl
 | (j,u)::r=>by
  show (if j=k then some (V.int u) else dget k (encD r))=_
  rw [encD_get k r,List.lookup_cons]
  by_cases e:j=k
  ·subst e;simp
  ·rw [if_neg e,show (k==j)=false from beq_eq_false_iff_ne.mpr (Ne.symm e)]
theorem encD_ints:∀ ms,dints (encD ms)=some ms
 | []=>rfl
 | (j,u)::r=>by
  show (dints (encD r)).map _=_
  rw [encD_ints r];rfl
theorem iset_get (k v j:Int):∀ ms:List (Int×Int),(iset k v ms).lookup j=if j=k then some v else ms.lookup j
 | []=>by
  show [(k,v)].lookup j=_
  rw [List.lookup_cons]
  by_cases e:j=k
  ·subst e;simp
  ·rw [if_neg e,show (j==k)=false from beq_eq_false_iff_ne.mpr e]
 | (i,u)::r=>by
  unfold iset
  by_cases h:i=k
  ·subst h
   rw [if_pos rfl,List.lookup_cons,List.lookup_cons]
   by_cases e:j=i
   ·subst e;simp
   ·rw [if_neg e,show (j==i)=false from beq_eq_false_iff_ne.mpr e]
  ·rw [if_neg h,List.lookup_cons,List.lookup_cons,iset_get k v j r]
   by_cases e:j=i
   ·subst e;simp [h]
   ·rw [show (j==i)=false from beq_eq_false_iff_ne.mpr e]
theorem iset_mem {k v:Int} {x:Int}:∀ {ms:List (Int×Int)},x∈(iset k v ms).map (·.1)→x=k∨x∈ms.map (·.1)
 | [],h=>.inl (List.mem_singleton.mp h)
 | (i,u)::r,h=>by
  unfold iset at h
  split at h
  ·exact .inr h
  ·rcases List.mem_cons.mp h with h | h
   ·exact .inr (h▸List.mem_cons_self ..)
   ·rcases iset_mem h with h | h
    ·exact .inl h
    ·exact .inr (List.mem_cons_of_mem _ h)
theorem iset_nodup {k v:Int}:∀ {ms:List (Int×Int)},(ms.map (·.1)).Nodup→((iset k v ms).map (·.1)).Nodup
 | [],_=>List.nodup_cons.mpr ⟨List.not_mem_nil,List.nodup_nil⟩
 | (i,u)::r,h=>by
  have h':=List.nodup_cons.mp h
  unfold iset
  split
  ·exact h
  ·rename_i hn
   refine List.nodup_cons.mpr ⟨fun hm=>?_,iset_nodup h'.2⟩
   rcases iset_mem hm with e | e
   ·exact hn e
   ·exact h'.1 e
theorem iset_len (k v:Int):∀ ms:List (Int×Int),(iset k v ms).length≤ms.length+1
 | []=>Nat.le_refl _
 | (i,u)::r=>by
  unfold iset
  split
  ·exact Nat.le_succ _
  ·exact Nat.succ_le_succ (iset_len k v r)
theorem lookup_mem {k:Int}:∀ {ms:List (Int×Int)},k∈ms.map (·.1)↔∃ v,ms.lookup k=some v
 | []=>⟨fun h=>absurd h List.not_mem_nil,fun h=>by obtain ⟨_,h⟩:=h;cases h⟩
 | (i,u)::r=>by
  rw [List.map_cons,List.mem_cons,List.lookup_cons]
  by_cases e:k=i
  ·subst e;simp
  ·rw [show (k==i)=false from beq_eq_false_iff_ne.mpr e,lookup_mem (ms:=r)]
   simp [e]
structure CntD (items:List Int) (ms:List (Int×Int)):Prop where
 nod:(ms.map (·.1)).Nodup
 get:∀ k,ms.lookup k=if k∈items then some ((items.count k:Nat):Int) else none
 len:ms.length≤items.length
theorem CntD.nil:CntD [] []:=⟨List.nodup_nil,fun _=>rfl,Nat.le_refl _⟩
theorem CntD.snoc {items:List Int} {ms:List (Int×Int)} (h:CntD items ms) (x:Int):CntD (items++[x]) (iset x ((ms.lookup x).getD 0+1) ms):=by
 refine ⟨iset_nodup h.nod,fun k=>?_,?_⟩
 ·rw [iset_get,List.count_append,List.count_singleton]
  by_cases e:k=x
  ·subst e
   rw [if_pos rfl,if_pos (by simp),h.get]
   simp only [beq_self_eq_true,if_true]
   by_cases m:k∈items
   ·rw [if_pos m];simp
   ·rw [if_neg m,List.count_eq_zero_of_not_mem m];rfl
  ·rw [if_neg e,h.get,show (x==k)=false from beq_eq_false_iff_ne.mpr (Ne.symm e)]
   simp [e]
 ·rw [List.length_append]
  exact Nat.le_trans (iset_len ..) (Nat.succ_le_succ h.len)
theorem CntD.mem {items:List Int} {ms:List (Int×Int)} (h:CntD items ms) (k:Int):k∈ms.map (·.1)↔k∈items:=by
 rw [lookup_mem,h.get]
 by_cases m:k∈items <;> simp [m]
theorem count_sum:∀ (items ks:List Int),ks.Nodup→(∀ x∈items,x∈ks)→(ks.map fun k=>((items.count k:Nat):Int)).sum=items.length
 | [],ks,_,_=>by
  simp only [List.count_nil,List.length_nil]
  induction ks with
  | nil=>rfl
  | cons k r ih=>rw [List.map_cons,List.sum_cons,ih (by rename_i h _;exact (List.nodup_cons.mp h).2) (fun _ h=>nomatch h)];rfl
 | x::r,ks,hn,hm=>by
  have ih:=count_sum r ks hn fun y hy=>hm y (List.mem_cons_of_mem _ hy)
  have key:∀ ks:List Int,ks.Nodup→(ks.map fun k=>(((x::r).count k:Nat):Int)).sum=(ks.map fun k=>((r.count k:Nat):Int)).sum+if x∈ks then 1 else 0:=by
   intro ks
   induction ks with
   | nil=>intro _;rfl
   | cons k l ihl =>
    intro hn
    have hn:=List.nodup_cons.mp hn
    rw [List.map_cons,List.map_cons,List.sum_cons,List.sum_cons,ihl hn.2,List.count_cons]
    by_cases e:x=k
    ·subst e
     rw [if_neg hn.1,if_pos (List.mem_cons_self ..)]
     simp;exact oz349
    ·rw [show (x==k)=false from beq_eq_false_iff_ne.mpr e]
     simp [e];exact oz350
  rw [key ks hn,ih,if_pos (hm x (List.mem_cons_self ..)),List.length_cons];rfl
structure PrD (items:List Int) (plain:Int) (pm:List (Int×Int)) (df:Int):Prop where
 nod:(pm.map (·.1)).Nodup
 get:∀ k,pm.lookup k=if k∈items then some ((slog (items.count k) (items.length+1):Nat):Int) else none
 df:df=if items=[] then plain else (slog 1 (items.length+1):Int)+16
noncomputable def cst (items:List Int) (plain k:Int):Int:=if k∈items then (slog (items.count k) (items.length+1):Int) else if items=[] then plain else (slog 1 (items.length+1):Int)+16
theorem PrD.cst {items:List Int} {plain df:Int} {pm:List (Int×Int)} (h:PrD items plain pm df) (k:Int):(pm.lookup k).getD df=cst items plain k:=by
 unfold Mine.Internal.cst
 rw [h.get,h.df]
 by_cases m:k∈items
 ·rw [if_pos m,if_pos m];rfl
 ·rw [if_neg m,if_neg m];rfl
theorem lookup_nodup' {ms:List (Int×Int)} (h:(ms.map (·.1)).Nodup):∀ p∈ms,ms.lookup p.1=some p.2:=by
 induction ms with
 | nil=>intro p hp;cases hp
 | cons q r ih =>
  have h':=List.nodup_cons.mp h
  intro p hp
  rw [List.lookup_cons]
  rcases List.mem_cons.mp hp with rfl | hp
  ·simp
  ·have:p.1≠q.1:=fun e=>h'.1 (show q.1∈_ by rw [← e];exact List.mem_map_of_mem hp)
   rw [show (p.1==q.1)=false from beq_eq_false_iff_ne.mpr this]
   exact ih h'.2 p hp
theorem dictEq_of {a b:List (Int×Int)} (ha:(a.map (·.1)).Nodup) (hb:(b.map (·.1)).Nodup) (h:∀ k,a.lookup k=b.lookup k):dictEqB a b=true:=by
 unfold dictEqB
 have hm:∀ k,k∈a.map (·.1)↔k∈b.map (·.1):=fun k=>by rw [lookup_mem,lookup_mem,h]
 have hp:(a.map (·.1)).Perm (b.map (·.1)):=(List.perm_ext_iff_of_nodup ha hb).mpr hm
 have hl:=hp.length_eq
 rw [List.length_map,List.length_map] at hl
 rw [Bool.and_eq_true,beq_iff_eq,List.all_eq_true]
 exact ⟨hl,fun p hp=>by rw [← h,lookup_nodup' ha p hp];simp⟩
theorem foldl_iset {ps:List (Int×Int)} (h:(ps.map (·.1)).Nodup):ps.foldl (fun d p=>iset p.1 p.2 d) []=ps:=by
 have snoc:∀ (acc:List (Int×Int)) (k v:Int),k∉acc.map (·.1)→iset k v acc=acc++[(k,v)]:=by
  intro acc k v
  induction acc with
  | nil=>intro _;rfl
  | cons q r ih =>
   intro hm
   rw [List.map_cons,List.mem_cons,not_or] at hm
   unfold iset
   rw [if_neg (Ne.symm hm.1),ih hm.2];rfl
 have:∀ (ps acc:List (Int×Int)),((acc++ps).map (·.1)).Nodup→ps.foldl (fun d p=>iset p.1 p.2 d) acc=acc++ps:=by
  intro ps
  induction ps with
  | nil=>intro acc _;exact (List.append_nil _).symm
  | cons q r ih =>
   intro acc h
   rw [List.foldl_cons,snoc,ih]
   ·rw [List.append_assoc];rfl
   ·rw [List.append_assoc];exact h
   ·rw [List.map_append] at h
    intro hm
    exact (List.nodup_append.mp h).2.2 _ hm _ (List.mem_cons_self ..) rfl
 exact this ps [] h
section
variable {C:Cx} {st:St} {k:Nat} {P:V→St→Prop}
structure S38 where
 ms:List (Int×Int)
 x:Option V
structure J38 (st s:St) (d:Addr) (items:List Int) (chk:St→Prop) (r:List Int) (q:S38):Prop where
 ex:∃ t n,items=t++r∧CntD t q.ms∧s d=some (.dict (encD q.ms) n)
 ext:Ext st s
theorem cntd (f:Nat) (hb:irOf f=ir38) (hn:nmOf f=nm38) (hp:parOf f=par38) (hf:f<71) (F:Fns C) {v:V} {items:List Int} {chk:St→Prop} (hv:∀ s K,Ext st s→K (items.map .int) chk→iterW v s K) (hc:∀ s,Ext st s→chk s) (hl:items.length<1000)
  (hP:∀ d st' ms n,st d=none→Ext st st'→st' d=some (.dict (encD ms) n)→CntD items ms→P (.ref d) st'):CallF C (k+1) f [v] st P:=by
 refine call0 F f hf (by rw [hp];rfl) ?_
 rw [hb,hn]
 intro n0
 refine new_s fun d s1 hd e1 g1=>?_
 refine for_f (fun q:S38=>[some v,some (.ref d),q.x]) .int items chk (fun r q s=>J38 st s d items chk r q) ⟨[],none⟩ (fun K hK=>hv _ K e1 hK) rfl ⟨⟨[],n0,rfl,.nil,g1⟩,e1⟩ ?_ ?_
 ·intro x r zr0 s N zr1 hN
  obtain ⟨ms,y⟩:=zr0
  obtain ⟨⟨t,n,h1,h2,h3⟩,h4⟩:=zr1
  have h2:CntD t ms:=h2
  have h3:s d=some (.dict (encD ms) n):=h3
  have hlt:ms.length<1000000:=by
   have:=h2.len
   rw [h1,List.length_append] at hl
   exact oz351 hl this
  refine ⟨hc s h4,isDc_s h3 (get_s h3 ?_)⟩
  rw [encD_get]
  have go:∀ u,u=(ms.lookup x).getD 0→wpSs (CallF C k) [.assign (.idx (.var 1) (.var 2)) (.bin .add (.lit (.int u)) (.lit (.int 1)))] [some v,some (.ref d),some (.int x)] s (fun fl ls' st'=>match fl with | .next=>N ls' st' | _=>False):=by
   rintro u rfl
   refine setD_s h3 (by unfold encD;rw [List.length_map];exact hlt) fun s2 n' u2=>hN ⟨iset x ((ms.lookup x).getD 0+1) ms,some (.int x)⟩ s2 ⟨⟨t++[x],n',by rw [h1,List.append_assoc];rfl,h2.snoc x,?_⟩,u2.ext hd h4⟩
   rw [u2.at_,encD_set]
  cases q:ms.lookup x with
  | none=>rw [q] at go;exact go 0 rfl
  | some u=>rw [q] at go;exact go u rfl
 ·intro zr2 s zr3
  obtain ⟨ms,y⟩:=zr2
  obtain ⟨⟨t,n,h1,h2,h3⟩,h4⟩:=zr3
  rw [List.append_nil] at h1
  subst h1
  exact ⟨hc s h4,hP d s ms n hd h4 h3 h2⟩
theorem c38 (F:Fns C) {v:V} {items:List Int} {chk:St→Prop} (hv:∀ s K,Ext st s→K (items.map .int) chk→iterW v s K) (hc:∀ s,Ext st s→chk s) (hl:items.length<1000)
  (hP:∀ d st' ms n,st d=none→Ext st st'→st' d=some (.dict (encD ms) n)→CntD items ms→P (.ref d) st'):CallF C (k+1) 38 [v] st P:=cntd 38 rfl rfl rfl (by decide) F hv hc hl hP
theorem c54 (F:Fns C) {v:V} {items:List Int} {chk:St→Prop} (hv:∀ s K,Ext st s→K (items.map .int) chk→iterW v s K) (hc:∀ s,Ext st s→chk s) (hl:items.length<1000)
  (hP:∀ d st' ms n,st d=none→Ext st st'→st' d=some (.dict (encD ms) n)→CntD items ms→P (.ref d) st'):CallF C (k+1) 54 [v] st P:=cntd 54 rfl rfl rfl (by decide) F hv hc hl hP
theorem comp_a {elt:Ls→St→(V→St→Prop)→Prop} {test:Ls→St→(Bool→St→Prop)→Prop} {one:Bool} {ns:List Nat} {v:V} {ls:Ls} {α:Type} (enc:α→V) (l:List α) (chk:St→Prop) (g:α→V)
  (hv:∀ K,K (l.map enc) chk→iterW v st K) (hc:∀ st',Ext st st'→chk st') (hl:l.length≤1000)
  (h:∀ x st1 (N:V→St→Prop) (Nf:St→Prop),x∈l→Ext st st1→(∀ st2,Ext st1 st2→N (g x) st2)→bindT one ns (enc x) ls fun ls1=>test ls1 st1 fun c st2=>if c then elt ls1 st2 fun y st3=>N y st3 else Nf st2)
  (he:∀ a st',st a=none→Ext st st'→st' a=some (.list (l.map g))→P (.ref a) st'):compW elt test one ns v ls st P :=
 comp_p enc l chk (fun _=>true) g hv hc hl (fun x s N Nf hx e h1 _=>h x s N Nf hx e (h1 rfl)) fun a s h1 h2 h3=>he a s h1 h2 (by rw [h3,List.filter_eq_self.mpr fun _ _=>rfl])
theorem sortedD_s {a:Addr} {ms:List (Int×Int)} {n:Nat} (h:st a=some (.dict (encD ms) n)) (hl:ms.length<64) (p:∀ (ks:List Int) q st',ks.Perm (ms.map (·.1))→st q=none→Ext st st'→st' q=some (.list (ks.map .int))→P (.ref q) st'):sortedR a st P:=by
 unfold sortedR;rw [h]
 exact ⟨by unfold encD;rw [List.length_map];exact hl,fun ks h1 h2=>new_s fun q st'=>p ks q st' (by unfold encD at h1;rw [List.map_map] at h1;exact h1)⟩
theorem foldl_encD:∀ (ps acc:List (Int×Int)),(encD ps).foldl (fun d p=>dset p.1 p.2 d) (encD acc)=encD (ps.foldl (fun d p=>iset p.1 p.2 d) acc)
 | [],_=>rfl
 | p::r,acc=>by
  show (encD r).foldl _ (dset p.1 (.int p.2) (encD acc))=_
  rw [encD_set,foldl_encD r];rfl
theorem dictL_s {a:Addr} {ps:List (Int×Int)} (h:st a=some (.list (ps.map fun p=>.tup [.int p.1,.int p.2]))) (hn:(ps.map (·.1)).Nodup) (p:∀ q st' n,st q=none→Ext st st'→st' q=some (.dict (encD ps) n)→P (.ref q) st'):dictR a st P:=by
 unfold dictR;rw [h]
 refine ⟨encD ps,by unfold encD;rw [List.map_map];rfl,fun n=>?_⟩
 have:=foldl_encD ps []
 rw [foldl_iset hn] at this
 rw [show ([]:List (Int×V))=encD [] from rfl,this]
 exact new_s fun q st'=>p q st' n
theorem dictEq_nil (ms:List (Int×Int)):dictEqB ms []=true↔ms=[]:=by cases ms <;> simp [dictEqB]
theorem CntD.nilD {items:List Int} {ms:List (Int×Int)} (h:CntD items ms):ms=[]↔items=[]:=by
 constructor
 ·rintro rfl
  cases items with
  | nil=>rfl
  | cons x r=>have:=(h.mem x).mpr (List.mem_cons_self ..);cases this
 ·rintro rfl
  exact List.eq_nil_of_length_eq_zero (Nat.le_zero.mp h.len)
theorem CntD.sum {items ks:List Int} {ms:List (Int×Int)} (h:CntD items ms) (hp:ks.Perm (ms.map (·.1))):(ks.map fun k=>((items.count k:Nat):Int)).sum=items.length :=
 count_sum items ks (hp.nodup_iff.mpr h.nod) fun x hx=>hp.mem_iff.mpr ((h.mem x).mpr hx)
theorem CntD.at_ {items ks:List Int} {ms:List (Int×Int)} (h:CntD items ms) (hp:ks.Perm (ms.map (·.1))) {x:Int} (hx:x∈ks):x∈items∧dget x (encD ms)=some (.int ((items.count x:Nat):Int))∧1≤items.count x∧items.count x≤items.length+1:=by
 have m:=(h.mem x).mp (hp.mem_iff.mp hx)
 refine ⟨m,by rw [encD_get,h.get,if_pos m];rfl,List.count_pos_iff.mpr m,Nat.le_succ_of_le List.count_le_length⟩
structure S39 where
 pm:List (Int×Int)
 n:Nat
 x:Option V
structure J39 (st s:St) (d q:Addr) (items ks r:List Int) (y:S39):Prop where
 dic:s d=some (.dict (encD y.pm) y.n)
 ext:Ext st s
 lst:s q=some (.list (ks.map .int))
 ex:∃ t,ks=t++r∧(y.pm.map (·.1)).Nodup∧y.pm.length≤t.length∧∀ k,y.pm.lookup k=if k∈t then some ((slog (items.count k) (items.length+1):Nat):Int) else none
theorem c39 (F:Fns C) {cd:Addr} {n:Nat} {items:List Int} {ms:List (Int×Int)} {plain:Int} (h:st cd=some (.dict (encD ms) n)) (M:CntD items ms) (hl:items.length<60)
  (hP:∀ d st' pm df n,st d=none→Ext st st'→st' d=some (.dict (encD pm) n)→PrD items plain pm df→P (.tup [.ref d,.int df]) st'):CallF C (k+2) 39 [.ref cd,.int plain] st P:=by
 refine call0 F 39 (by decide) rfl fun n0=>new_s fun e0 s1 he0 x1 g1=>⟨_,.dict (x1 _ _ h) g1 (encD_ints ms) rfl,ite_s (dictEq_nil ms) (fun hnil=>?_) fun hnil=>?_⟩
 ·have hi:=M.nilD.mp hnil
  subst hi
  exact fun n1=>new_s fun d s2 hd x2 g2=>⟨Nat.le_of_ble_eq_true rfl,hP d s2 [] plain n1 (x1.no hd) (x1.trans x2) g2 ⟨List.nodup_nil,fun _=>rfl,rfl⟩⟩
 ·have hi:items≠[]:=fun e=>hnil (M.nilD.mpr e)
  have hml:ms.length<64:=Nat.lt_of_le_of_lt M.len (Nat.lt_trans hl (by decide))
  have hT:items.length+1<2^32:=Nat.lt_trans (Nat.succ_lt_succ hl) (by decide)
  refine sortedD_s (x1 _ _ h) hml fun ks q s2 hp hq x2 g2=>?_
  have hkl:ks.length≤1000:=by have:=hp.length_eq;rw [List.length_map] at this;exact oz352 hml this
  have c2:=x2 _ _ (x1 _ _ h)
  refine comp_a V.int ks _ (fun k=>.int ((items.count k:Nat):Int)) (iterL g2) (fun s e=>e _ _ g2) hkl (fun x s3 N Nf hx x3 hN=>?_) fun q2 s3 hq2 x3 g3=>?_
  ·exact idxD_s (x3 _ _ c2) (M.at_ hp hx).2.1 (hN s3 (Ext.refl _))
  ·refine sum_s (ns:=ks.map fun k=>((items.count k:Nat):Int)) (by rw [g3,List.map_map];rfl) ?_
   rw [M.sum hp]
   have c3:=x3 _ _ c2
   refine fun n1=>new_s fun d s4 hd x4 g4=>sortedD_s (x4 _ _ c3) hml fun ks' q' s5 hp' hq' x5 g5=>?_
   have x15:=x1.trans (x2.trans (x3.trans (x4.trans x5)))
   have hd':s3 d=none:=hd
   refine for_f (fun y:S39=>[some (.ref cd),some (.int plain),some (.int ((items.length:Int)+1)),some (.ref d),y.x,none]) .int ks' (fun s=>s q'=some (.list (ks'.map .int))) (fun r y s=>J39 s3 s d q' items ks' r y) ⟨[],n1,none⟩ (iterL g5) rfl
    ⟨x5 _ _ g4,x4.trans x5,g5,[],rfl,List.nodup_nil,Nat.le_refl _,fun _=>rfl⟩ ?_ ?_
   ·intro x r zr4 s N zr5 hN
    obtain ⟨pm,n2,y⟩:=zr4
    obtain ⟨j1,j2,j3,t,j4,j5,j6,j7⟩:=zr5
    have hx:x∈ks':=by rw [j4];simp
    have zq0:=M.at_ hp' hx;have a1:=zq0.1;have a2:=zq0.2.1;have a3:=zq0.2.2.1;have a4:=zq0.2.2.2;clear zq0
    have hqd:q'≠d:=by rintro rfl;rw [g4] at hq';cases hq'
    refine ⟨j3,idxD_s (j2 _ _ c3) a2 ?_⟩
    show CallF C (k+1) 37 [.int (items.count x:Nat),.int ((items.length:Int)+1)] s _
    refine c37 F a3 a4 hT (setD_s j1 ?_ fun s6 n3 u6=>hN ⟨iset x (slog (items.count x) (items.length+1)) pm,n3,some (.int x)⟩ s6 ⟨?_,u6.ext hd' j2,u6.ne _ _ hqd j3,t++[x],by rw [j4,List.append_assoc];rfl,iset_nodup j5,?_,fun k'=>?_⟩)
    ·have:=congrArg List.length j4
     have h2:=hp'.length_eq
     rw [List.length_map] at h2
     rw [List.length_append] at this
     have j6:pm.length≤t.length:=j6
     unfold encD;rw [List.length_map];exact oz353 hml this h2 j6
    ·rw [u6.at_,encD_set]
    ·rw [List.length_append];exact Nat.le_trans (iset_len ..) (Nat.succ_le_succ j6)
    ·show (iset _ _ pm).lookup k'=_
     rw [iset_get]
     by_cases e:k'=x
     ·subst e;rw [if_pos rfl,if_pos (by simp)]
     ·rw [if_neg e]
      have:=j7 k'
      simp only [List.mem_append,List.mem_singleton,e,or_false]
      exact this
   ·intro zr6 s zr7
    obtain ⟨pm,n2,y⟩:=zr6
    obtain ⟨j1,j2,j3,t,j4,j5,j6,j7⟩:=zr7
    rw [List.append_nil] at j4
    subst j4
    refine ⟨j3,?_⟩
    show CallF C (k+1) 37 [.int (1:Nat),.int ((items.length:Int)+1)] s _
    refine c37 F (Nat.le_refl _) (Nat.succ_le_succ (Nat.zero_le _)) hT ⟨Nat.le_of_ble_eq_true rfl,hP d s pm _ n2 (x1.no (x2.no (x3.no hd))) (x1.trans (x2.trans (x3.trans j2))) j1 ⟨j5,fun k'=>?_,by rw [if_neg hi]⟩⟩
    have:=j7 k'
    rw [this]
    have hm:k'∈ks'↔k'∈items:=hp'.mem_iff.trans (M.mem k')
    by_cases e:k'∈items
    ·rw [if_pos e,if_pos (hm.mpr e)]
    ·rw [if_neg e,if_neg fun q=>e (hm.mp q)]
end
section
variable {C:Cx} {st:St} {k:Nat} {P:V→St→Prop}
theorem tab_lookup (f:Int→Int) (k:Int):∀ ks:List Int,(ks.map fun x=>(x,f x)).lookup k=if k∈ks then some (f k) else none
 | []=>rfl
 | x::r=>by
  rw [List.map_cons,List.lookup_cons,tab_lookup f k r]
  by_cases e:k=x
  ·subst e;simp
  ·rw [show (k==x)=false from beq_eq_false_iff_ne.mpr e];simp [e]
theorem c55 (F:Fns C) {cd:Addr} {n:Nat} {items:List Int} {ms:List (Int×Int)} {plain:Int} (h:st cd=some (.dict (encD ms) n)) (M:CntD items ms) (hl:items.length<60)
  (hP:∀ d st' pm df n,st d=none→Ext st st'→st' d=some (.dict (encD pm) n)→PrD items plain pm df→P (.tup [.ref d,.int df]) st'):CallF C (k+2) 55 [.ref cd,.int plain] st P:=by
 refine call0 F 55 (by decide) rfl fun n0=>new_s fun e0 s1 he0 x1 g1=>⟨_,.dict (x1 _ _ h) g1 (encD_ints ms) rfl,ite_s (dictEq_nil ms) (fun hnil=>?_) fun hnil=>?_⟩
 ·have hi:=M.nilD.mp hnil
  subst hi
  exact fun n1=>new_s fun d s2 hd x2 g2=>⟨Nat.le_of_ble_eq_true rfl,hP d s2 [] plain n1 (x1.no hd) (x1.trans x2) g2 ⟨List.nodup_nil,fun _=>rfl,rfl⟩⟩
 ·have hi:items≠[]:=fun e=>hnil (M.nilD.mpr e)
  have hT:items.length+1<2^32:=Nat.lt_trans (Nat.succ_lt_succ hl) (by decide)
  have hkl:(ms.map (·.1)).length≤1000:=by have:=M.len;rw [List.length_map];exact oz354 hl this
  have c1:=x1 _ _ h
  have it:∀ {s:St},s cd=some (.dict (encD ms) n)→∀ K,K ((ms.map (·.1)).map V.int) (fun st'=>st' cd=some (.dict (encD ms) n))→iterW (.ref cd) s K:=fun hs K hK=>iterD hs K (by unfold encD;rw [List.map_map];rw [List.map_map] at hK;exact hK)
  refine comp_a V.int (ms.map (·.1)) _ (fun k=>.int ((items.count k:Nat):Int)) (it c1) (fun s e=>e _ _ c1) hkl (fun x s3 N Nf hx x3 hN=>?_) fun q2 s3 hq2 x3 g3=>?_
  ·exact idxD_s (x3 _ _ c1) (M.at_ (List.Perm.refl _) hx).2.1 (hN s3 (Ext.refl _))
  ·refine sum_s (ns:=(ms.map (·.1)).map fun k=>((items.count k:Nat):Int)) (by rw [g3];simp only [List.map_map];rfl) ?_
   rw [M.sum (List.Perm.refl _)]
   have c3:=x3 _ _ c1
   let sl:Int→Int:=fun k=>(slog (items.count k) (items.length+1):Nat)
   refine comp_a V.int (ms.map (·.1)) _ (fun k=>.tup [.int k,.int (sl k)]) (it c3) (fun s e=>e _ _ c3) hkl (fun x s4 N Nf hx x4 hN=>?_) fun q4 s4 hq4 x4 g4=>?_
   ·have zq0:=M.at_ (List.Perm.refl _) hx;have a1:=zq0.1;have a2:=zq0.2.1;have a3:=zq0.2.2.1;have a4:=zq0.2.2.2;clear zq0
    refine idxD_s (x4 _ _ c3) a2 ?_
    show CallF C (k+1) 53 [.int (items.count x:Nat),.int ((items.length:Int)+1)] s4 _
    exact c53 F a3 a4 hT ⟨Nat.le_of_ble_eq_true rfl,hN s4 (Ext.refl _)⟩
   ·refine dictL_s (ps:=(ms.map (·.1)).map fun k=>(k,sl k)) (by rw [g4];simp only [List.map_map];rfl) (by rw [List.map_map];exact (List.map_id (ms.map (·.1))).symm▸M.nod) fun d s5 n5 hd x5 g5=>?_
    show CallF C (k+1) 53 [.int (1:Nat),.int ((items.length:Int)+1)] s5 _
    refine c53 F (Nat.le_refl _) (Nat.succ_le_succ (Nat.zero_le _)) hT ⟨Nat.le_of_ble_eq_true rfl,hP d s5 _ _ n5 (x1.no (x3.no (x4.no hd))) (x1.trans (x3.trans (x4.trans x5))) g5 ⟨by rw [List.map_map];exact (List.map_id (ms.map (·.1))).symm▸M.nod,fun k'=>?_,by rw [if_neg hi]⟩⟩
    rw [tab_lookup]
    by_cases e:k'∈items
    ·rw [if_pos e,if_pos ((M.mem k').mpr e)]
    ·rw [if_neg e,if_neg fun q=>e ((M.mem k').mp q)]
end
section
variable {C:Cx} {st:St} {k:Nat} {P:V→St→Prop}
structure BoxAt (st:St) (bx:Addr) (n:Nat):Prop where
 ex:∃ w c:Nat,st bx=some (.list [.int w,.int c])∧w<2^1000∧c≤n
theorem BoxAt.le {st:St} {bx:Addr} {n m:Nat} (h:BoxAt st bx n) (hm:n≤m):BoxAt st bx m:=⟨h.ex.imp fun w h=>h.imp fun c h=>⟨h.1,h.2.1,Nat.le_trans h.2.2 hm⟩⟩
theorem BoxAt.ext {st st':St} {bx:Addr} {n:Nat} (h:BoxAt st bx n) (e:Ext st st'):BoxAt st' bx n:=⟨h.ex.imp fun w h=>h.imp fun c h=>⟨e _ _ h.1,h.2⟩⟩
theorem BoxAt.upd {st st':St} {a bx:Addr} {o:O} {n:Nat} (h:BoxAt st bx n) (u:Upd a o st st') (hn:bx≠a):BoxAt st' bx n:=⟨h.ex.imp fun w h=>h.imp fun c h=>⟨u.ne _ _ hn h.1,h.2⟩⟩
theorem slcF_s {l m:List V} {lo hi:V} (h1:cut l lo hi=some m) (p:∀ a st',st a=none→Ext st st'→st' a=some (.list m)→P (.ref a) st'):slcW (.flist l) lo hi .none st P:=by
 unfold slcW;exact ⟨l,m,rfl,fun _ e=>V.noConfusion e,h1,new_s p⟩
theorem c50 (F:Fns C) {ns:List Int} (hP:∀ b st',st b=none→Ext st st'→BoxAt st' b 0→P (.ref b) st'):CallF C (k+1) 50 [.flist (ns.map .int)] st P:=by
 refine call0 F 50 (by decide) rfl (slcF_s (cut_to _ 24) fun q s1 hq x1 g1=>?_)
 rw [← List.map_take] at g1
 refine for_f (fun y:Nat×Option V=>[some (.flist (ns.map .int)),some (.int y.1),y.2]) .int (ns.take 24) _ (fun r y s=>s=s1∧∃ j,j+r.length≤24∧y.1<2^(102+21*j)) (0,none) (iterL g1) rfl ⟨rfl,0,by rw [List.length_take];exact oz355,Nat.two_pow_pos _⟩ ?_ ?_
 ·intro x r zr0 s N zr1 hN
  obtain ⟨w,y⟩:=zr0
  obtain rfl:=zr1.1;refine ex1 zr1.2 fun j zq0=>?_;have hj:=zq0.1;have hw:=zq0.2;clear zq0 zr1
  have hw:w<2^(102+21*j):=hw
  rw [List.length_cons] at hj
  have hm:∃ m:Nat,(if x<0 then -x else x) % 10^30=m∧m<2^100:=by
   have h0:(0:Int)<10^30:=by decide
   have a1:=Int.emod_nonneg (if x<0 then -x else x) (Int.ne_of_gt h0)
   have a2:=Int.emod_lt_of_pos (if x<0 then -x else x) h0
   refine ⟨((if x<0 then -x else x) % 10^30).toNat,(Int.toNat_of_nonneg a1).symm,?_⟩
   have:(10:Int)^30<2^100:=by decide
   omega
  refine ex1 hm fun m zq0=>?_;have hm1:=zq0.1;have hm2:=zq0.2;clear zq0 hm
  have hw2:w<2^606:=lt_up hw (by exact oz356 hj)
  refine ⟨g1,lt_up hw2 (by decide),lt_small (by decide),by decide,by decide,by decide,by decide,?_⟩
  rw [show (if x<0 then -x else x) % (10:Int)^(30:Int).toNat=(m:Int) from hm1]
  have key:∀ b:Bool,N [some (.flist (ns.map .int)),some (.int ((w:Int)*1000003+(m:Int)*2+(if b then 1 else 0))),some (.int x)] s:=fun b=>by
   have e:(w:Int)*1000003+(m:Int)*2+(if b then 1 else 0)=((w*1000003+m*2+(if b then 1 else 0):Nat):Int):=by cases b <;> simp
   rw [e]
   refine hN (_,_) s ⟨rfl,j+1,by exact oz357 hj,?_⟩
   show w*1000003+m*2+(if b then 1 else 0)<2^(102+21*(j+1))
   rw [show 102+21*(j+1)=102+21*j+21 by exact oz358,Nat.pow_add]
   have:2^102≤2^(102+21*j):=Nat.pow_le_pow_right (by decide) (Nat.le_add_right ..)
   have hb:(if b then 1 else 0)≤1:=by cases b <;> decide
   generalize 2^(102+21*j)=z at *
   omega
  exact ⟨lt_up hm2 (by decide),lt_small (by decide),key _⟩
 ·intro zr2 s zr3
  obtain ⟨w,y⟩:=zr2
  obtain rfl:=zr3.1;refine ex1 zr3.2 fun j zq0=>?_;have hj:=zq0.1;have hw:=zq0.2;clear zq0 zr3
  exact ⟨g1,Nat.le_of_ble_eq_true rfl,new_s fun b s2 hb x2 g2=>hP b s2 (x1.no hb) (x1.trans x2) ⟨w,0,g2,lt_up (lt_up (c:=606) hw (by have:j≤24:=hj;exact oz359 hj)) (by decide),Nat.le_refl _⟩⟩
theorem c51 (F:Fns C) {bx:Addr} {n many:Nat} (hn:n<2^30) (hm:1≤many) (hm2:many<2^60) (h:BoxAt st bx n) (hP:∀ (d:Nat) st',d<many→BoxAt st' bx (n+1)→Fra [bx] st st'→P (.int d) st'):CallF C (k+1) 51 [.ref bx,.int many] st P:=by
 obtain ⟨w,c,h1,h2,h3⟩:=h
 refine call0 F 51 (by decide) rfl (idxL_s h1 (nth_nn [V.int w,.int c] (n:=1) (Nat.lt_succ_self 1)) (setL_s h1 (by decide) (Nat.lt_succ_self 1) fun s1 u1=>?_))
 have g1:s1 bx=some (.list [.int w,.int ((c:Int)+1)]):=u1.at_
 refine idxL_s g1 (nth_nn _ (n:=0) (Nat.succ_pos 1)) (ite_s eI (fun e=>?_) fun e=>?_)
 ·have sc:small ((c:Int)+1):=lt_small (by exact oz360 hn h3)
  have s2:small (7*((c:Int)+1)):=lt_small (by exact oz361 hn h3)
  refine idxL_s g1 (nth_nn _ (n:=1) (Nat.lt_succ_self 1)) ⟨lt_small (by decide),sc,idxL_s g1 (nth_nn _ (n:=1) (Nat.lt_succ_self 1)) ⟨s2,sc,idxL_s g1 (nth_nn _ (n:=1) (Nat.lt_succ_self 1)) ⟨lt_small (by decide),sc,by decide,by exact oz362 hm,?_⟩⟩⟩
  generalize (7*((c:Int)+1)*((c:Int)+1)+5*((c:Int)+1)+3) % 101=z
  have hz:=Int.emod_nonneg z (show (many:Int)≠0 by exact oz363 hm)
  have hz2:=Int.emod_lt_of_pos z (show (0:Int)<many by exact oz362 hm)
  have:=hP (z % many).toNat s1 (by exact oz364 hm hz2) ⟨w,c+1,g1,h2,Nat.succ_le_succ h3⟩ (u1.fra (by simp))
  rw [Int.toNat_of_nonneg hz] at this
  exact this
 ·refine idxL_s g1 (nth_nn _ (n:=0) (Nat.succ_pos 1)) ⟨by exact oz362 hm,idxL_s g1 (nth_nn _ (n:=0) (Nat.succ_pos 1)) ⟨by exact oz362 hm,lt_small (by exact oz365 hm2),setL_s g1 (by decide) (Nat.succ_pos 1) fun s2 u2=>?_⟩⟩
  have:=hP (w % many) s2 (Nat.mod_lt _ hm) ⟨w / many,c+1,u2.at_,Nat.lt_of_le_of_lt (Nat.div_le_self ..) h2,Nat.succ_le_succ h3⟩ ((u1.fra (by simp)).trans (u2.fra (by simp)))
  exact this
end
section
variable {C:Cx} {st:St} {k:Nat} {P:V→St→Prop}
noncomputable abbrev nats (l:List Nat):List V:=l.map fun (n:Nat)=>.int (n:Int)
structure S52 where
 l:List Nat
 x3:Option V
 x4:Option V
 x5:Option V
structure J52 (st s:St) (a bx:Addr) (n0 size lo b:Nat) (y:S52):Prop where
 lst:s a=some (.list (nats y.l))
 lt:∀ x∈y.l,x<3
 pos:1≤y.l.length
 lo:min size lo≤y.l.length
 up:y.l.length≤6*b
 box:BoxAt s bx (n0+3*b)
 fra:Fra [bx] st s
theorem octs_nats:∀ {l:List Nat},(∀ x∈l,x<256)→octs (nats l)=some l
 | [],_=>rfl
 | x::r,h=>by
  have hx:=h x (List.mem_cons_self ..)
  show (if 0≤(x:Int)∧(x:Int)<256 then (octs (nats r)).map _ else none)=_
  rw [if_pos ⟨Int.natCast_nonneg _,by exact oz366 hx⟩,octs_nats fun y hy=>h y (List.mem_cons_of_mem _ hy)];rfl
theorem bytesL_s {a:Addr} {l:List Nat} (h:st a=some (.list (nats l))) (hl:∀ x∈l,x<256) (p:P (.bytes l) st):bytesR a st P:=by
 unfold bytesR;rw [h];exact ⟨l,octs_nats hl,p⟩
theorem c52 (F:Fns C) {bx:Addr} {n0 size:Nat} (hn:n0<1000) (hs:1≤size) (hs2:size≤40) (h:BoxAt st bx n0)
  (hP:∀ (t:List Nat) st',t.length=size→(∀ x∈t,x<3)→BoxAt st' bx (n0+3*(size+1))→Fra [bx] st st'→P (.bytes t) st'):CallF C (k+2) 52 [.ref bx,.int size] st P:=by
 refine call0 F 52 (by decide) rfl ?_
 show CallF C (k+1) 51 [.ref bx,.int (3:Nat)] st _
 refine c51 F (by exact oz367 hn) (by decide) (by decide) h fun d s1 hd B1 f1=>⟨Nat.le_of_ble_eq_true rfl,new_s fun a s2 ha x2 g2=>?_⟩
 have hba:bx≠a:=by obtain ⟨w,c,h1,-⟩:=B1.ex;rintro rfl;rw [h1] at ha;cases ha
 have hsta:st a=none:=by
  cases q:st a with
  | none=>rfl
  | some o=>rw [f1 a o (by simp [Ne.symm hba]) q] at ha;cases ha
 have fin:∀ {s s':St} {o:O},Fra [bx] st s→Upd a o s s'→Fra [bx] st s':=fun f u x o' n e=>u.ne _ _ (fun q=>by rw [q,hsta] at e;cases e) (f x o' n e)
 refine ⟨by exact oz368 hs2,for_f (fun y:S52=>[some (.ref bx),some (.int size),some (.ref a),y.x3,y.x4,y.x5]) (fun (i:Nat)=>.int (0+(i:Int))) (List.range size) (fun _=>True) (fun r y s=>∃ b,b+r.length=size+1∧J52 st s a bx n0 size b b y) ⟨[d],none,none,none⟩
  (by have:=iterR (st:=s2) (a:=0) (b:=(size:Int)) (by decide) (by exact oz368 hs2);rw [show ((size:Int)-0).toNat=size by exact oz369] at this;exact this) rfl
  ⟨1,by rw [List.length_range,Nat.add_comm],g2,fun x hx=>by rw [List.mem_singleton.mp hx];exact hd,Nat.le_refl _,Nat.min_le_right _ _,Nat.le_of_ble_eq_true rfl,(B1.ext x2).le (by exact oz370),f1.trans x2.fra⟩ ?_ ?_⟩
 ·intro i r zr0 s N zr1 hN
  obtain ⟨l,x3,x4,x5⟩:=zr0
  refine ex1 zr1 fun b zq0=>?_;have hb:=zq0.1;have j:=zq0.2;clear zq0 zr1
  have jl:s a=some (.list (nats l)):=j.lst
  have jlen:(nats l).length=l.length:=List.length_map ..
  have jup:l.length≤6*b:=j.up
  have jlo:min size b≤l.length:=j.lo
  have jpos:1≤l.length:=j.pos
  have jlt:∀ x∈l,x<3:=j.lt
  rw [List.length_cons] at hb
  refine ⟨trivial,lenL_s jl (and_s dI (fun hlt=>?_) fun hge=>?_)⟩
  ·rw [jlen] at hlt
   have hlt:l.length<size:=Int.ofNat_lt.mp hlt
   show CallF C (k+1) 51 [.ref bx,.int (3:Nat)] s _
   refine c51 F (by exact oz371 hb hs2 hn) (by decide) (by decide) j.box fun d1 s3 hd1 B3 f3=>?_
   have l3:=f3 _ _ (by simp [Ne.symm hba]) jl
   refine and_s eI (fun e0=>?_) fun e0=>?_
   ·refine isLs_s l3 ?_
    show CallF C (k+1) 51 [.ref bx,.int (3:Nat)] s3 _
    refine c51 F (by exact oz372 hb hs2 hn) (by decide) (by decide) B3 fun d2 s4 hd2 B4 f4=>append_s (f4 _ _ (by simp [Ne.symm hba]) l3) (by rw [jlen];exact oz373 hb hs2 jup) fun s5 u5=>hN ⟨l++[d2],_,x4,x5⟩ s5 ⟨b+1,by exact oz374 hb,?_,?_,?_,?_,?_,((B4.upd u5 hba).le (by exact oz375)),fin (j.fra.trans (f3.trans f4)) u5⟩
    ·rw [u5.at_];unfold nats;rw [List.map_append];rfl
    ·intro x hx
     rcases List.mem_append.mp hx with hx | hx
     ·exact jlt x hx
     ·rw [List.mem_singleton.mp hx];exact hd2
    ·rw [List.length_append];exact Nat.le_add_right_of_le jpos
    ·rw [List.length_append,List.length_singleton];exact oz376 jlo
    ·rw [List.length_append,List.length_singleton];exact oz377 jup
   ·refine lenL_s l3 (ite_s dI (fun _=>lenL_s l3 ?_) fun q=>absurd (by rw [jlen];exact Int.ofNat_lt.mpr hlt) q)
    have hmin:min ((nats l).length:Int) 7=((min l.length 7:Nat):Int):=by rw [jlen];exact oz378
    show CallF C (k+1) 51 [.ref bx,.int (min ((nats l).length:Int) 7)] s3 _
    rw [hmin]
    refine c51 F (by exact oz372 hb hs2 hn) (by exact oz379 jpos) (by exact oz380) B3 fun d2 s4 hd2 B4 f4=>?_
    show CallF C (k+1) 51 [.ref bx,.int (4:Nat)] s4 _
    refine c51 F (by exact oz381 hb hs2 hn) (by decide) (by decide) B4 fun d3 s5 hd3 B5 f5=>⟨by exact oz382 hd3,?_⟩
    have l5:=f5 _ _ (by simp [Ne.symm hba]) (f4 _ _ (by simp [Ne.symm hba]) l3)
    refine for_f (fun y:List Nat×Option V=>[some (.ref bx),some (.int size),some (.ref a),some (.int (0+(i:Int))),some (.int (1+(d2:Int))),y.2]) (fun (i:Nat)=>.int (0+(i:Int))) (List.range (2+d3)) (fun _=>True)
     (fun r' y s'=>s' a=some (.list (nats y.1))∧(∀ x∈y.1,x<3)∧l.length≤y.1.length∧y.1.length+r'.length=l.length+(2+d3)∧BoxAt s' bx (n0+3*b+3)∧Fra [bx] st s') (l,x5)
     (by have:=iterR (st:=s5) (a:=0) (b:=2+(d3:Int)) (by decide) (by exact oz382 hd3);rw [show (2+(d3:Int)-0).toNat=2+d3 by exact oz383] at this;exact this) rfl
     ⟨l5,jlt,Nat.le_refl _,by rw [List.length_range],B5,j.fra.trans (f3.trans (f4.trans f5))⟩ ?_ ?_
    ·intro i' r' zr2 s6 N' zr3 hN'
     obtain ⟨l',y⟩:=zr2
     have q1:=zr3.1;have q2:=zr3.2.1;have q3:=zr3.2.2.1;have q4:=zr3.2.2.2.1;have q5:=zr3.2.2.2.2.1;have q6:=zr3.2.2.2.2.2;clear zr3
     have q1:s6 a=some (.list (nats l')):=q1
     have q3:l.length≤l'.length:=q3
     have q4:l'.length+(r'.length+1)=l.length+(2+d3):=q4
     have hl':(nats l').length=l'.length:=List.length_map ..
     have hix:l'.length-(1+d2)<l'.length:=by exact oz384 jpos q3
     refine ⟨trivial,isLs_s q1 (lenL_s q1 (idxL_s q1 (x:=.int (l'[l'.length-(1+d2)]:Nat)) ?_ (append_s q1 (by rw [hl'];exact oz385 hs2 hb jup hd3 q4) fun s7 u7=>hN' (l'++[l'[l'.length-(1+d2)]],_) s7 ⟨?_,?_,?_,?_,q5.upd u7 hba,fin q6 u7⟩)))⟩
     ·rw [hl',show ((l'.length:Int)-(1+(d2:Int)))=((l'.length-(1+d2):Nat):Int) by exact oz386 hd2 q3,nth_nn _ (by rw [hl'];exact hix),List.getElem?_map,List.getElem?_eq_getElem hix];rfl
     ·rw [u7.at_];unfold nats;rw [List.map_append];rfl
     ·intro x hx
      rcases List.mem_append.mp hx with hx | hx
      ·exact q2 x hx
      ·rw [List.mem_singleton.mp hx];exact q2 _ (List.getElem_mem hix)
     ·rw [List.length_append];exact Nat.le_add_right_of_le q3
     ·rw [List.length_append,List.length_singleton];exact oz387 q4
    ·intro zr4 s6 zr5
     obtain ⟨l',y⟩:=zr4
     have q1:=zr5.1;have q2:=zr5.2.1;have q3:=zr5.2.2.1;have q4:=zr5.2.2.2.1;have q5:=zr5.2.2.2.2.1;have q6:=zr5.2.2.2.2.2;clear zr5
     have q3:l.length≤l'.length:=q3
     have q4:l'.length+0=l.length+(2+d3):=q4
     exact ⟨trivial,hN ⟨l',_,_,y⟩ s6 ⟨b+1,by exact oz374 hb,q1,q2,by show 1≤l'.length;exact oz107 jpos q3,by show _≤l'.length;exact oz388 q4 jlo,by show l'.length≤_;exact oz389 q4 jup hd3,q5.le (by exact oz390),q6⟩⟩
  ·rw [jlen] at hge
   have hge:size≤l.length:=Int.ofNat_le.mp (Int.not_lt.mp hge)
   exact lenL_s jl (ite_s dI (fun q=>absurd (by rw [jlen] at q;exact Int.ofNat_lt.mp q) (Nat.not_lt.mpr hge)) fun _=>hN ⟨l,_,x4,x5⟩ s ⟨b+1,by exact oz374 hb,jl,jlt,jpos,by show _≤l.length;exact oz391 hge,by show l.length≤_;exact oz392 jup,j.box.le (by exact oz393),j.fra⟩)
 ·intro zr6 s zr7
  obtain ⟨l,x3,x4,x5⟩:=zr6
  refine ex1 zr7 fun b zq0=>?_;have hb:=zq0.1;have j:=zq0.2;clear zq0 zr7
  obtain rfl:b=size+1:=hb
  have jlo:min size (size+1)≤l.length:=j.lo
  refine ⟨trivial,slcL_s j.lst (cut_to _ size) fun q s2 hq x2 g2=>bytesL_s (l:=l.take size) (by rw [g2];unfold nats;rw [List.map_take]) (fun x hx=>Nat.lt_trans (j.lt x (List.mem_of_mem_take hx)) (by decide)) (hP _ s2 ?_ (fun x hx=>j.lt x (List.mem_of_mem_take hx)) (j.box.ext x2) (j.fra.trans x2.fra))⟩
  rw [List.length_take];exact oz394 jlo
end
section
variable {C:Cx} {st:St} {k:Nat} {P:V→St→Prop}
structure J68 (st s:St) (a bx:Addr) (n0 m:Nat) (r:List Nat) (acc:List V):Prop where
 ex:∃ ns:List Int,acc=ns.map V.int∧ns.length+r.length≤m
 box:∃ b,b+r.length≤m∧BoxAt s bx (n0+b)
 fra:Fra [bx] st s
theorem take_const (F:Fns C) {bx:Addr} {n m:Nat} (hn:n<2^30) (hm:1≤m) (hm2:m<2^60) (h:BoxAt st bx n) (hP:∀ (d:Nat) st',d<m→BoxAt st' bx (n+1)→Fra [bx] st st'→P (.int d) st') {i:Int} (hi:i=m):CallF C (k+1) 51 [.ref bx,.int i] st P:=by
 subst hi;exact c51 F hn hm hm2 h hP
theorem c68 (F:Fns C) {bx:Addr} {n0:Nat} (hn:n0<1000) (h:BoxAt st bx n0) (hP:∀ st',Fra [bx] st st'→P (.bool true) st'):CallF C (k+3) 68 [.ref bx] st P:=by
 refine call0 F 68 (by decide) rfl (take_const F (by exact oz367 hn) (by decide) (by decide) h (fun m s1 hm B1 f1=>⟨by exact oz395 hm,?_⟩) (m:=9) rfl)
 refine comp_s (fun (i:Nat)=>.int (0+(i:Int))) (List.range m) (fun _=>True) (by have:=iterR (st:=s1) (a:=0) (b:=(m:Int)) (by decide) (by exact oz395 hm);rw [show ((m:Int)-0).toNat=m by exact oz369] at this;exact this)
  (fun a r acc s=>J68 st s a bx (n0+1) m r acc) (fun a s2 ha x2 g2=>⟨⟨[],rfl,by rw [List.length_range];exact Nat.le_of_eq (Nat.zero_add m)⟩,⟨0,by rw [List.length_range,Nat.zero_add];exact Nat.le_refl _,B1.ext x2⟩,f1.trans x2.fra⟩) (fun a x r acc s2 Nt Nf ha j g2 ht hf=>⟨trivial,?_⟩) fun a acc s2 ha j g2=>⟨trivial,?_⟩
 ·obtain ⟨⟨ns,rfl,hl⟩,⟨b,hb,B2⟩,f2⟩:=j
  rw [List.length_cons] at hl hb
  have hba:bx≠a:=by obtain ⟨w,c,h1,-⟩:=B1.ex;rintro rfl;rw [h1] at ha;cases ha
  have hsa:st a=none:=by
   cases q:st a with
   | none=>rfl
   | some o=>rw [f1 a o (by simp [Ne.symm hba]) q] at ha;cases ha
  refine take_const F (by exact oz396 hb hm hn) (by decide) (by decide) B2 (fun d s3 hd B3 f3=>ht s3 _ (f3 _ _ (by simp [Ne.symm hba]) g2) (by rw [List.length_map];exact oz397 hl hm) fun s4 u4=>⟨⟨ns++[(d:Int)],by rw [List.map_append];rfl,by rw [List.length_append,List.length_singleton];exact oz96 hl⟩,⟨b+1,by exact oz96 hb,(B3.upd u4 hba).le (by exact oz398)⟩,fun x o n e=>u4.ne _ _ (fun q=>by rw [q,hsa] at e;cases e) ((f2.trans f3) x o n e)⟩) (m:=5) rfl
 ·obtain ⟨⟨ns,rfl,hl⟩,⟨b,hb,B2⟩,f2⟩:=j
  have hl:ns.length≤m:=hl
  have hb:b≤m:=hb
  refine c54 F (items:=ns) (chk:=fun s=>s a=some (.list (ns.map V.int))) (fun s K e hK=>iterL (e _ _ g2) K hK) (fun s e=>e _ _ g2) (by exact oz399 hm hl) fun cd s3 ms n3 hcd x3 g3 M=>?_
  refine take_const F (by exact oz400 hn hm hb) (by decide) (by decide) (B2.ext x3) (fun tt s4 htt B4 f4=>?_) (m:=300) rfl
  refine take_const F (by exact oz401 hn hm hb) (by exact oz110) (by exact oz402 htt) B4 (fun cc s5 hcc B5 f5=>?_) (m:=tt+1) (by exact oz296)
  have hbc:bx≠cd:=by obtain ⟨w,c,h1,-⟩:=(B2.ext x3).ex;rintro rfl;rw [g3] at h1;cases h1
  have g5:=f5 _ _ (by simp [Ne.symm hbc]) (f4 _ _ (by simp [Ne.symm hbc]) g3)
  have f25:Fra [bx] st s5:=f2.trans (x3.fra.trans (f4.trans f5))
  have e1:(1+(cc:Int))=((cc+1:Nat):Int):=by exact oz296
  have e2:(1+(tt:Int))=((tt+1:Nat):Int):=by exact oz296
  show CallF C (k+2) 37 [.int (1+(cc:Int)),.int (1+(tt:Int))] s5 _
  rw [e1,e2]
  refine c37 F (Nat.succ_pos _) (by exact oz403 hcc) (by exact oz404 htt) (c53 F (Nat.succ_pos _) (by exact oz403 hcc) (by exact oz404 htt) (and_s eI (fun _=>?_) fun q=>absurd rfl q))
  refine c39 F g5 M (by exact oz405 hm hl) fun d1 s6 pm1 df1 n6 hd1 x6 g6 P1=>c55 F (x6 _ _ g5) M (by exact oz405 hm hl) fun d2 s7 pm2 df2 n7 hd2 x7 g7 P2=>⟨_,.pair (x7 _ _ g6) g7 (encD_ints pm1) (encD_ints pm2),?_⟩
  rw [dictEq_of P1.nod P2.nod fun k'=>by rw [P1.get,P2.get],show (true&&(df1==df2))=true by rw [P1.df,P2.df,beq_self_eq_true];rfl]
  exact hP s7 (f25.trans (x6.trans x7).fra)
end
noncomputable def lb (v:Int):Int:=bits v-1
theorem lb_ok:∀ v:Nat,1≤v→v<64→0≤lb v∧lb v≤5:=by
 have:∀ v<64,1≤v→0≤lb (v:Nat)∧lb (v:Nat)≤5:=by decide +kernel
 exact fun v h1 h2=>this v h2 h1
theorem lb_count:∀ v:Nat,1≤v→v<64→(((List.range 19).filter fun (k:Nat)=>decide ((2:Int)^(1+(k:Int)).toNat≤v)).length:Int)=lb v:=by
 have:∀ v<64,1≤v→(((List.range 19).filter fun (k:Nat)=>decide ((2:Int)^(1+(k:Int)).toNat≤(v:Nat))).length:Int)=lb (v:Nat):=by decide +kernel
 exact fun v h1 h2=>this v h2 h1
section
variable {C:Cx} {st:St} {k:Nat} {P:V→St→Prop}
theorem rows_ends:∃ (rs:List V) (L:Int),rowsV=.flist rs∧35<L∧nth rs 0=some (.tup [.int 3,.int 0])∧nth rs (-1)=some (.tup [.int L,.int 16]):=⟨_,65539,rfl,by decide,rfl,nth_last rfl⟩
theorem c27 (F:Fns C) {n:Nat} {x:V} (h3:3≤n) (h35:n<35) (hP:P (.tup [.int ((n:Int)-3),.int 0,.int 0]) st):CallF C (k+1) 27 [rowsV,.int 32,.int n,x] st P:=by
 refine ex2 (rows_ends) fun rs L zq0=>?_;have hV:=zq0.1;have hL:=zq0.2.1;have r0:=zq0.2.2.1;have r1:=zq0.2.2.2;clear zq0
 rw [hV]
 have h1:(2:Int)^(16:Int).toNat=65536:=by decide
 refine call0 F 27 (by decide) rfl ⟨_,r0,_,rfl,_,r1,rfl,ite_s dI (fun _=>⟨by decide,by decide,Nat.le_of_ble_eq_true rfl,?_⟩) fun q=>absurd ?_ q⟩
 ·rw [h1]
  exact ite_s (nI dI) (fun q=>absurd (by exact oz406 hL h35) q) fun _=>ite_s dI (fun _=>⟨Nat.le_of_ble_eq_true rfl,hP⟩) fun q=>absurd (by exact oz407 h35) q
 ·exact oz408 h3
theorem c28 (F:Fns C) {n:Nat} (h3:3≤n) (h35:n<35) (hP:P (.tup [.int ((n:Int)-3),.int 0,.int 0]) st):CallF C (k+2) 28 [.int n] st P :=
 call0 F 28 (by decide) rfl (c27 F h3 h35 hP)
theorem c29 (F:Fns C) {v:Nat} (h1:1≤v) (h64:v<64) (hP:∀ z,P (.tup [.int (lb v),.int (lb v),.int z]) st):CallF C (k+1) 29 [.int v] st P:=by
 have zq0:=lb_ok v h1 h64;have b1:=zq0.1;have b2:=zq0.2;clear zq0
 unfold lb at b1 b2 hP
 refine call0 F 29 (by decide) rfl (or_s dI (fun q=>absurd q (by exact oz238 h1)) fun _=>⟨trivial,rfl,or_s dI (fun q=>absurd q ?_) fun _=>⟨trivial,rfl,b1,?_,by decide,Nat.le_of_ble_eq_true rfl,hP _⟩⟩)
 ·show ¬ (31:Int)<bits v-1;exact oz409 b2
 ·show bits v-1≤1000;exact oz410 b2
theorem c56t (F:Fns C) {v:Int} (hP:P (.tup [.int (v-3),.int 0]) st):CallF C (k+1) 56 [.int v,.int 3,.bool true] st P :=
 call0 F 56 (by decide) rfl ⟨Nat.le_of_ble_eq_true rfl,hP⟩
theorem c56f (F:Fns C) {v:Nat} {w:Int} (h1:1≤v) (h64:v<64) (hP:∀ st',Ext st st'→P (.tup [.int (lb v),.int (lb v)]) st'):CallF C (k+1) 56 [.int v,.int w,.bool false] st P:=by
 refine call0 F 56 (by decide) rfl ⟨by decide,by decide,?_⟩
 refine comp_p (fun (i:Nat)=>.int (1+(i:Int))) (List.range 19) (fun _=>True) (fun i=>decide ((2:Int)^(1+(i:Int)).toNat≤v)) (fun i=>.int (1+(i:Int))) (iterR (a:=1) (b:=20) (by decide) (by decide)) (fun _ _=>trivial) (by decide) (fun x s1 Nt Nf hx e1 ht hf=>?_) fun a s1 ha e1 h1'=>?_
 ·have hx:=List.mem_range.mp hx
  exact ⟨by exact oz411,by exact oz412 hx,by decide,and_s dI (fun q=>ht (decide_eq_true q) s1 (Ext.refl _)) fun q=>hf (decide_eq_false q) s1 (Ext.refl _)⟩
 ·refine lenL_s h1' ?_
  rw [List.length_map,lb_count v h1 h64]
  exact ⟨Nat.le_of_ble_eq_true rfl,hP s1 e1⟩
noncomputable def prc (i0 i1 i2:List Int) (x:Nat×Nat):Int :=
 if x.1=0 then min 128 (cst i0 96 x.2) else cst i1 64 ((x.1:Int)-3)+cst i2 64 (lb ((x.2:Int)+3))+16*lb ((x.2:Int)+3)+32
noncomputable def stOk (x:Nat×Nat):Prop:=x.1=0∨((3≤x.1∧x.1<35)∧1≤x.2∧x.2<61)
structure PdAt (st:St) (d:Addr) (items:List Int) (plain df:Int):Prop where
 ex:∃ pm n,st d=some (.dict (encD pm) n)∧PrD items plain pm df
theorem PdAt.ext {st st':St} {d:Addr} {items:List Int} {plain df:Int} (h:PdAt st d items plain df) (e:Ext st st'):PdAt st' d items plain df:=⟨h.ex.imp fun pm h=>h.imp fun n h=>⟨e _ _ h.1,h.2⟩⟩
theorem PdAt.upd {st st':St} {d a:Addr} {o:O} {items:List Int} {plain df:Int} (h:PdAt st d items plain df) (u:Upd a o st st') (hn:d≠a):PdAt st' d items plain df:=⟨h.ex.imp fun pm h=>h.imp fun n h=>⟨u.ne _ _ hn h.1,h.2⟩⟩
theorem pget_s {d:Addr} {items:List Int} {plain df x:Int} (h:PdAt st d items plain df) (p:P (.int (cst items plain x)) st):getR d x (.int df) st P:=by
 refine ex2 (h.ex) fun pm n zq0=>?_;have h1:=zq0.1;have h2:=zq0.2;clear zq0
 refine get_s h1 ?_
 rw [encD_get]
 have:=h2.cst x
 cases q:pm.lookup x with
 | none=>rw [q] at this;show P (.int df) st;rw [show df=_ from this];exact p
 | some v=>rw [q] at this;show P (.int v) st;rw [show v=_ from this];exact p
theorem PdAt.isD {d:Addr} {items:List Int} {plain df:Int} {Q:Prop} (h:PdAt st d items plain df) (p:Q):isDc d st∧Q:=by
 refine ex2 (h.ex) fun pm n zq0=>?_;have h1:=zq0.1;have h2:=zq0.2;clear zq0
 exact isDc_s h1 p
noncomputable def lpV (d0 d1 d2:Addr) (f0 f1 f2:Int):V:=.tup [.tup [.ref d0,.int f0],.tup [.ref d1,.int f1],.tup [.ref d2,.int f2]]
structure LpAt (st:St) (v:V) (i0 i1 i2:List Int):Prop where
 ex:∃ d0 d1 d2 f0 f1 f2,v=lpV d0 d1 d2 f0 f1 f2∧PdAt st d0 i0 96 f0∧PdAt st d1 i1 64 f1∧PdAt st d2 i2 64 f2
theorem LpAt.ext {st st':St} {v:V} {i0 i1 i2:List Int} (h:LpAt st v i0 i1 i2) (e:Ext st st'):LpAt st' v i0 i1 i2:=by
 refine ex5 (h.ex) fun d0 d1 d2 f0 f1 zq0=>?_;refine ex1 zq0 fun f2 zq1=>?_;have h1:=zq1.1;have h2:=zq1.2.1;have h3:=zq1.2.2.1;have h4:=zq1.2.2.2;clear zq1 zq0
 exact ⟨d0,d1,d2,f0,f1,f2,h1,h2.ext e,h3.ext e,h4.ext e⟩
theorem c58 (F:Fns C) {v:V} {i0 i1 i2:List Int} {x:Nat×Nat} (h:LpAt st v i0 i1 i2) (hx:stOk x) (hP:∀ st',Ext st st'→P (.int (prc i0 i1 i2 x)) st'):CallF C (k+2) 58 [v,stp x] st P:=by
 refine ex5 (h.ex) fun d0 d1 d2 f0 f1 zq0=>?_;refine ex1 zq0 fun f2 zq1=>?_;obtain rfl:=zq1.1;have h0:=zq1.2.1;have h1:=zq1.2.2.1;have h2:=zq1.2.2.2;clear zq1 zq0
 refine call0 F 58 (by decide) rfl ⟨rfl,ite_s eI (fun e=>?_) fun e=>?_⟩
 ·refine ⟨_,rfl,_,rfl,h0.isD ⟨_,rfl,_,rfl,pget_s h0 ?_⟩⟩
  have:=hP st (Ext.refl _)
  unfold prc at this
  rw [if_pos (Int.ofNat.inj e)] at this
  exact this
 ·have e:x.1≠0:=fun q=>e (by rw [q];rfl)
  have zq0:=hx.resolve_left e;have a1:=zq0.1.1;have a2:=zq0.1.2;have a3:=zq0.2.1;have a4:=zq0.2.2;clear zq0
  obtain ⟨b1,b2⟩:=lb_ok (x.2+3) (by exact oz413) (by exact oz414 a4)
  refine c56t F (c56f (v:=x.2+3) F (by exact oz413) (by exact oz414 a4) fun s1 x1=>⟨Nat.le_of_ble_eq_true rfl,rfl,⟨_,rfl,_,rfl,(h1.ext x1).isD ⟨_,rfl,_,rfl,_,rfl,pget_s (h1.ext x1) ⟨_,rfl,_,rfl,(h2.ext x1).isD ⟨_,rfl,_,rfl,_,rfl,pget_s (h2.ext x1) ⟨_,rfl,lt_small (by decide),lt_small (by exact oz415 b1 b2),?_⟩⟩⟩⟩⟩⟩)
  have:=hP s1 x1
  unfold prc at this
  rw [if_neg e] at this
  exact this
end
theorem nodup_len {α:Type}:∀ (l m:List α),l.Nodup→(∀ x∈l,x∈m)→l.length≤m.length
 | [],_,_,_=>Nat.zero_le _
 | x::r,m,hn,hm=>by
  have hn:=List.nodup_cons.mp hn
  obtain ⟨s,t,rfl⟩:=List.append_of_mem (hm x (List.mem_cons_self ..))
  have:=nodup_len r (s++t) hn.2 fun y hy=>by
   rcases List.mem_append.mp (hm y (List.mem_cons_of_mem _ hy)) with h | h
   ·exact List.mem_append_left _ h
   ·rcases List.mem_cons.mp h with h | h
    ·exact absurd (h▸hy) hn.1
    ·exact List.mem_append_right _ h
  rw [List.length_append] at this ⊢
  exact Nat.succ_le_succ this
structure CaOk (m:List (Int×Int)) (g:Int→Int):Prop where
 nod:(m.map (·.1)).Nodup
 get:∀ k v,m.lookup k=some v→v=g k
 rng:∀ k:Int,k∈m.map (·.1)→∃ n:Nat,k=(n:Int)∧n<64
theorem CaOk.len {m:List (Int×Int)} {g:Int→Int} (h:CaOk m g):(encD m).length<1000000:=by
 have:=nodup_len _ ((List.range 64).map fun (n:Nat)=>(n:Int)) h.nod fun x hx=>by
  refine ex1 (h.rng x hx) fun n zq0=>?_;obtain rfl:=zq0.1;have hn:=zq0.2;clear zq0
  exact List.mem_map.mpr ⟨n,List.mem_range.mpr hn,rfl⟩
 rw [List.length_map,List.length_map,List.length_range] at this
 unfold encD;rw [List.length_map];exact Nat.lt_of_le_of_lt this (by decide)
theorem CaOk.set {m:List (Int×Int)} {g:Int→Int} (h:CaOk m g) {k:Nat} (hk:k<64):CaOk (iset k (g k) m) g:=by
 refine ⟨iset_nodup h.nod,fun j v hv=>?_,fun j hj=>?_⟩
 ·rw [iset_get] at hv
  by_cases e:j=k
  ·rw [if_pos e] at hv;rw [← Option.some.inj hv,e]
  ·rw [if_neg e] at hv;exact h.get j v hv
 ·rcases iset_mem hj with e | e
  ·exact ⟨k,e,hk⟩
  ·exact h.rng j e
noncomputable def CaAt (st:St) (e:Addr) (g:Int→Int):Prop:=∃ m n,st e=some (.dict (encD m) n)∧CaOk m g
noncomputable def CaHas (st:St) (e:Addr) (g:Int→Int) (k:Int):Prop:=∃ m n,st e=some (.dict (encD m) n)∧CaOk m g∧m.lookup k=some (g k)
theorem CaHas.ca {st:St} {e:Addr} {g:Int→Int} {k:Int} (h:CaHas st e g k):CaAt st e g:=h.imp fun m h=>h.imp fun n h=>⟨h.1,h.2.1⟩
theorem CaAt.upd {st st':St} {e a:Addr} {o:O} {g:Int→Int} (h:CaAt st e g) (u:Upd a o st st') (hn:e≠a):CaAt st' e g:=h.imp fun m h=>h.imp fun n h=>⟨u.ne _ _ hn h.1,h.2⟩
theorem CaHas.upd {st st':St} {e a:Addr} {o:O} {g:Int→Int} {k:Int} (h:CaHas st e g k) (u:Upd a o st st') (hn:e≠a):CaHas st' e g k:=h.imp fun m h=>h.imp fun n h=>⟨u.ne _ _ hn h.1,h.2⟩
theorem CaAt.ext {st st':St} {e:Addr} {g:Int→Int} (h:CaAt st e g) (u:Ext st st'):CaAt st' e g:=h.imp fun m h=>h.imp fun n h=>⟨u _ _ h.1,h.2⟩
noncomputable def g1 (i1:List Int) (l:Int):Int:=cst i1 64 (l-3)+16*0
noncomputable def g2 (i2:List Int) (d:Int):Int:=cst i2 64 (lb (d+3))+16*lb (d+3)
structure Bp where
 p:Addr
 d0:Addr
 d1:Addr
 d2:Addr
 e1:Addr
 e2:Addr
 f0:Int
 f1:Int
 f2:Int
noncomputable def Bp.adr (b:Bp):List Addr:=[b.p,b.d0,b.d1,b.d2,b.e1,b.e2]
noncomputable def Bp.o (b:Bp):O:=.inst 5 [(0,.ref b.d0),(17,.int b.f0),(18,.ref b.d1),(19,.int b.f1),(20,.ref b.d2),(21,.int b.f2),(22,.ref b.e1),(23,.ref b.e2)]
structure BpAt (st:St) (b:Bp) (i0 i1 i2:List Int):Prop where
 obj:st b.p=some b.o
 h0:PdAt st b.d0 i0 96 b.f0
 h1:PdAt st b.d1 i1 64 b.f1
 h2:PdAt st b.d2 i2 64 b.f2
 c1:CaAt st b.e1 (g1 i1)
 c2:CaAt st b.e2 (g2 i2)
 n1:b.d0≠b.e1∧b.d1≠b.e1∧b.d2≠b.e1
 n2:b.d0≠b.e2∧b.d1≠b.e2∧b.d2≠b.e2
 n3:b.e1≠b.e2
theorem BpAt.ext {st st':St} {b:Bp} {i0 i1 i2:List Int} (h:BpAt st b i0 i1 i2) (e:Ext st st'):BpAt st' b i0 i1 i2:=⟨e _ _ h.obj,h.h0.ext e,h.h1.ext e,h.h2.ext e,h.c1.ext e,h.c2.ext e,h.n1,h.n2,h.n3⟩
section
variable {C:Cx} {st:St} {k:Nat} {P:V→St→Prop}
theorem dhas_get (k:Int) (ms:List (Int×Int)):dhas k (encD ms)=(ms.lookup k).isSome:=by
 rw [← dget_dhas,encD_get];cases ms.lookup k <;> rfl
theorem c41 (F:Fns C) {b:Bp} {i0 i1 i2:List Int} {x:Int} (B:BpAt st b i0 i1 i2) (hP:P (.int (min 128 (cst i0 96 x))) st):CallF C (k+1) 41 [.ref b.p,.int x] st P :=
 call0 F 41 (by decide) rfl (attr_s B.obj rfl rfl (B.h0.isD (attr_s B.obj rfl rfl (pget_s B.h0 hP))))
theorem c42 (F:Fns C) {b:Bp} {i0 i1 i2:List Int} {l d:Nat} (B:BpAt st b i0 i1 i2) (h3:3≤l) (h35:l<35) (hd:1≤d) (hd61:d<61) (hP:∀ st',BpAt st' b i0 i1 i2→Fra [b.e1,b.e2] st st'→P (.int (g1 i1 l+g2 i2 d+32)) st'):CallF C (k+3) 42 [.ref b.p,.int l,.int d] st P:=by
 refine call0 F 42 (by decide) rfl ?_
 have k2:∀ s y3 y4 y5,BpAt s b i0 i1 i2→CaHas s b.e1 (g1 i1) l→CaHas s b.e2 (g2 i2) d→Fra [b.e1,b.e2] st s→wpSs (CallF C (k+2)) (ir42.drop 2) [some (.ref b.p),some (.int l),some (.int d),y3,y4,y5] s (RetP P):=by
  rintro s y3 y4 y5 B ⟨m1,n1,a1,a2,a3⟩ ⟨m2,n2,b1,b2,b3⟩ f
  exact attr_s B.obj rfl rfl (idxD_s (x:=.int (g1 i1 l)) a1 (by rw [encD_get,a3];rfl) (attr_s B.obj rfl rfl (idxD_s (x:=.int (g2 i2 d)) b1 (by rw [encD_get,b3];rfl) (hP s B f))))
 have k1:∀ s y3 y4 y5,BpAt s b i0 i1 i2→CaHas s b.e1 (g1 i1) l→Fra [b.e1,b.e2] st s→wpSs (CallF C (k+2)) (ir42.drop 1) [some (.ref b.p),some (.int l),some (.int d),y3,y4,y5] s (RetP P):=by
  intro s y3 y4 y5 B h1 f
  refine ex2 (B.c2) fun m2 n2 zq0=>?_;have b1:=zq0.1;have b2:=zq0.2;clear zq0
  refine attr_s B.obj rfl rfl (inD_s b1 ?_)
  rw [dhas_get]
  refine ite_s (nI Iff.rfl) (fun hno=>?_) fun hyes=>?_
  ·obtain ⟨q1,q2⟩:=lb_ok (d+3) (by exact oz413) (by exact oz414 hd61)
   refine c29 (v:=d+3) F (by exact oz413) (by exact oz414 hd61) fun z=>⟨rfl,attr_s B.obj rfl rfl (B.h2.isD (attr_s B.obj rfl rfl (pget_s B.h2 ⟨lt_small (by decide),lt_small (by exact oz415 q1 q2),attr_s B.obj rfl rfl (setD_s b1 b2.len fun s' n' u=>k2 s' _ _ _ ⟨u.ne _ _ ?_ B.obj,B.h0.upd u B.n2.1,B.h1.upd u B.n2.2.1,B.h2.upd u B.n2.2.2,B.c1.upd u B.n3,?_,B.n1,B.n2,B.n3⟩ (h1.upd u B.n3) ?_ (f.trans (u.fra (by simp))))⟩)))⟩
   ·exact ne_of B.obj b1 (by unfold Bp.o;simp)
   ·exact ⟨_,n',by rw [u.at_,encD_set];rfl,b2.set (by exact oz416 hd61)⟩
   ·exact ⟨_,n',by rw [u.at_,encD_set];rfl,b2.set (by exact oz416 hd61),by rw [iset_get,if_pos rfl]⟩
  ·have:(m2.lookup (d:Int)).isSome=true:=Decidable.not_not.mp hyes
   refine ex1 (Option.isSome_iff_exists.mp this) fun v hv=>?_
   exact k2 s _ _ _ B h1 ⟨m2,n2,b1,b2,by rw [hv,b2.get _ _ hv]⟩ f
 refine ex2 (B.c1) fun m1 n1 zq0=>?_;have a1:=zq0.1;have a2:=zq0.2;clear zq0
 refine attr_s B.obj rfl rfl (inD_s a1 ?_)
 rw [dhas_get]
 refine ite_s (nI Iff.rfl) (fun hno=>?_) fun hyes=>?_
 ·refine c28 F h3 h35 ⟨rfl,attr_s B.obj rfl rfl (B.h1.isD (attr_s B.obj rfl rfl (pget_s B.h1 ⟨lt_small (by decide),lt_small (by decide),attr_s B.obj rfl rfl (setD_s a1 a2.len fun s' n' u=>k1 s' _ _ _ ⟨u.ne _ _ ?_ B.obj,B.h0.upd u B.n1.1,B.h1.upd u B.n1.2.1,B.h2.upd u B.n1.2.2,?_,B.c2.upd u B.n3.symm,B.n1,B.n2,B.n3⟩ ?_ (u.fra (by simp)))⟩)))⟩
  ·exact ne_of B.obj a1 (by unfold Bp.o;simp)
  ·exact ⟨_,n',by rw [u.at_,encD_set];rfl,a2.set (by exact oz417 h35)⟩
  ·exact ⟨_,n',by rw [u.at_,encD_set];rfl,a2.set (by exact oz417 h35),by rw [iset_get,if_pos rfl]⟩
 ·have:(m1.lookup (l:Int)).isSome=true:=Decidable.not_not.mp hyes
  refine ex1 (Option.isSome_iff_exists.mp this) fun v hv=>?_
  exact k1 st _ _ _ B ⟨m1,n1,a1,a2,by rw [hv,a2.get _ _ hv]⟩ (Fra.refl _ _)
theorem Ext.ne {s s':St} {a b:Addr} {o:O} (h:s a=some o) (hb:s b=none):a≠b:=by rintro rfl;rw [h] at hb;cases hb
theorem PdAt.ne {d b:Addr} {items:List Int} {plain df:Int} (h:PdAt st d items plain df) (hb:st b=none):d≠b:=by
 obtain ⟨_,_,h1,_⟩:=h.ex;rintro rfl;rw [h1] at hb;cases hb
theorem mkBp (F:Fns C) {a0 a1 a2:Addr} {n0 n1 n2:Nat} {i0 i1 i2:List Int} {m0 m1 m2:List (Int×Int)} (h0:st a0=some (.dict (encD m0) n0)) (h1:st a1=some (.dict (encD m1) n1)) (h2:st a2=some (.dict (encD m2) n2)) (M0:CntD i0 m0) (M1:CntD i1 m1) (M2:CntD i2 m2)
  (l0:i0.length<60) (l1:i1.length<60) (l2:i2.length<60) (hP:∀ (b:Bp) st',Ext st st'→BpAt st' b i0 i1 i2→(∀ x∈b.adr,st x=none)→P (.ref b.p) st'):makeW (CallF C (k+3)) 5 [.ref a0,.ref a1,.ref a2] st P:=by
 refine make_s rfl fun p _ s1 _ hp x1 g1=>call0 F 40 (by decide) rfl (c39 F (x1 _ _ h0) M0 l0 fun d0 s2 pm0 f0 q0 hd0 x2 j0 P0=>⟨rfl,setAttr_s (x2 _ _ g1) rfl rfl fun s3 u3=>setAttr_s u3.at_ rfl rfl fun s4 u4=>?_⟩)
 have c4:∀ {x:Addr} {o:O},st x=some o→s4 x=some o:=fun {x o} h=>u4.ne _ _ (Ext.ne h hp (s':=s1)) (u3.ne _ _ (Ext.ne h hp (s':=s1)) (x2 _ _ (x1 _ _ h)))
 have n0p:d0≠p:=(Ext.ne g1 hd0 (s':=s1)).symm
 have D0:PdAt s4 d0 i0 96 f0:=⟨pm0,q0,u4.ne _ _ n0p (u3.ne _ _ n0p j0),P0⟩
 refine c39 F (c4 h1) M1 l1 fun d1 s5 pm1 f1 q1 hd1 x5 j1 P1=>⟨rfl,setAttr_s (x5 _ _ u4.at_) rfl rfl fun s6 u6=>setAttr_s u6.at_ rfl rfl fun s7 u7=>?_⟩
 have c7:∀ {x:Addr} {o:O},x≠p→s4 x=some o→s7 x=some o:=fun hn h=>u7.ne _ _ hn (u6.ne _ _ hn (x5 _ _ h))
 have n1p:d1≠p:=(Ext.ne u4.at_ hd1 (s':=s4)).symm
 have D1:PdAt s7 d1 i1 64 f1:=⟨pm1,q1,u7.ne _ _ n1p (u6.ne _ _ n1p j1),P1⟩
 have D0:PdAt s7 d0 i0 96 f0:=((D0.ext x5).upd u6 n0p).upd u7 n0p
 refine c39 F (c7 (Ext.ne h2 hp (s':=s1)) (c4 h2)) M2 l2 fun d2 s8 pm2 f2 q2 hd2 x8 j2 P2=>⟨rfl,setAttr_s (x8 _ _ u7.at_) rfl rfl fun s9 u9=>setAttr_s u9.at_ rfl rfl fun s10 u10=>?_⟩
 have n2p:d2≠p:=(Ext.ne u7.at_ hd2 (s':=s7)).symm
 have D2:PdAt s10 d2 i2 64 f2:=⟨pm2,q2,u10.ne _ _ n2p (u9.ne _ _ n2p j2),P2⟩
 have D0:PdAt s10 d0 i0 96 f0:=((D0.ext x8).upd u9 n0p).upd u10 n0p
 have D1:PdAt s10 d1 i1 64 f1:=((D1.ext x8).upd u9 n1p).upd u10 n1p
 refine fun q3=>new_s fun e1 s11 he1 x11 g11=>setAttr_s (x11 _ _ u10.at_) rfl rfl fun s12 u12 q4=>new_s fun e2 s13 he2 x13 g13=>setAttr_s (x13 _ _ u12.at_) rfl rfl fun s14 u14=>⟨rfl,?_⟩
 have e1p:e1≠p:=(Ext.ne u10.at_ he1 (s':=s10)).symm
 have e2p:e2≠p:=(Ext.ne u12.at_ he2 (s':=s12)).symm
 have up:∀ {d:Addr} {it:List Int} {pl df:Int},PdAt s10 d it pl df→d≠p→PdAt s14 d it pl df:=fun h hn=>((((h.ext x11).upd u12 hn).ext x13).upd u14 hn)
 have h12:=u12.ne _ _ e1p g11
 refine hP ⟨p,d0,d1,d2,e1,e2,f0,f1,f2⟩ s14 ?_ ⟨u14.at_,up D0 n0p,up D1 n1p,up D2 n2p,⟨[],q3,u14.ne _ _ e1p (x13 _ _ h12),List.nodup_nil,fun _ _ h=>(by cases h),fun _ h=>(by cases h)⟩,⟨[],q4,u14.ne _ _ e2p g13,List.nodup_nil,fun _ _ h=>(by cases h),fun _ h=>(by cases h)⟩,⟨D0.ne he1,D1.ne he1,D2.ne he1⟩,?_,Ext.ne h12 he2 (s':=s12)⟩ ?_
 ·intro x o hx
  have hn:x≠p:=Ext.ne hx hp (s':=s1)
  exact u14.ne _ _ hn (x13 _ _ (u12.ne _ _ hn (x11 _ _ (u10.ne _ _ hn (u9.ne _ _ hn (x8 _ _ (c7 hn (c4 hx))))))))
 ·have up2:∀ {d:Addr} {it:List Int} {pl df:Int},PdAt s10 d it pl df→d≠p→d≠e2:=fun h hn=>((h.ext x11).upd u12 hn).ne he2
  exact ⟨up2 D0 n0p,up2 D1 n1p,up2 D2 n2p⟩
 ·have k4:∀ {x},s4 x=none→st x=none:=fun h=>x1.no (x2.no (u3.no (u4.no h)))
  have k7:∀ {x},s7 x=none→st x=none:=fun h=>k4 (x5.no (u6.no (u7.no h)))
  have k10:∀ {x},s10 x=none→st x=none:=fun h=>k7 (x8.no (u9.no (u10.no h)))
  intro x hx
  unfold Bp.adr at hx
  simp only [List.mem_cons,List.not_mem_nil,or_false] at hx
  rcases hx with rfl | rfl | rfl | rfl | rfl | rfl
  ·exact hp
  ·exact x1.no hd0
  ·exact k4 hd1
  ·exact k7 hd2
  ·exact k10 he1
  ·exact k10 (x11.no (u12.no he2))
end
noncomputable def asI (o:List Nat):List Int:=o.map fun (n:Nat)=>(n:Int)
noncomputable def i0s (l:List (Nat×Nat)):List Int:=(l.filter fun x=>(x.1:Int)==0).map fun x=>(x.2:Int)
noncomputable def i1s (l:List (Nat×Nat)):List Int:=(l.filter fun x=>decide ((0:Int)<x.1)).map fun x=>(x.1:Int)-3
noncomputable def i2s (l:List (Nat×Nat)):List Int:=(l.filter fun x=>decide ((0:Int)<x.1)).map fun x=>lb ((x.2:Int)+3)
section
variable {C:Cx} {st:St} {k:Nat} {P:V→St→Prop}
theorem iterBy (o:List Nat) (s:St) (K:List V→(St→Prop)→Prop) (hK:K ((asI o).map .int) fun _=>True):iterW (.bytes o) s K:=by
 unfold asI at hK;rw [List.map_map] at hK;exact hK
theorem c43 (F:Fns C) {o:List Nat} (ho:o.length<60) (hP:∀ (b:Bp) st',Ext st st'→BpAt st' b (asI o) [] []→(∀ x∈b.adr,st x=none)→P (.ref b.p) st'):CallF C (k+4) 43 [.bytes o] st P:=by
 have hl:(asI o).length<60:=by unfold asI;rw [List.length_map];exact ho
 refine call0 F 43 (by decide) rfl (c38 F (fun s K _ hK=>iterBy o s K hK) (fun _ _=>trivial) (Nat.lt_trans hl (by decide)) fun d0 s1 m0 n0 hd0 x1 g0 M0 n1=>new_s fun d1 s2 hd1 x2 g1 n2=>new_s fun d2 s3 hd2 x3 g2=>?_)
 exact mkBp F (m1:=[]) (m2:=[]) (x3 _ _ (x2 _ _ g0)) (x3 _ _ g1) g2 M0 .nil .nil hl (by decide) (by decide) fun b s4 x4 B p1=>hP b s4 (x1.trans (x2.trans (x3.trans x4))) B fun x hx=>x1.no (x2.no (x3.no (p1 x hx)))
theorem lens_le {l:List (Nat×Nat)} {p:Nat×Nat→Bool} {α:Type} {f:Nat×Nat→α} (h:l.length<60):((l.filter p).map f).length<60:=by
 rw [List.length_map];exact Nat.lt_of_le_of_lt (List.length_filter_le ..) h
theorem c44 (F:Fns C) {a:Addr} {l:List (Nat×Nat)} (h:st a=some (.list (l.map stp))) (hl:l.length<60) (ho:∀ x∈l,stOk x)
  (hP:∀ (b:Bp) st',Ext st st'→BpAt st' b (i0s l) (i1s l) (i2s l)→(∀ x∈b.adr,st x=none)→P (.ref b.p) st'):CallF C (k+4) 44 [.ref a] st P:=by
 have hl':l.length≤1000:=Nat.le_of_lt (Nat.lt_trans hl (by decide))
 refine call0 F 44 (by decide) rfl ?_
 refine comp_p stp l _ (fun x=>(x.1:Int)==0) (fun x=>.int (x.2:Int)) (iterL h) (fun s e=>e _ _ h) hl' (fun x s Nt Nf hx e ht hf=>⟨_,rfl,and_s Iff.rfl (fun q=>ht q s (Ext.refl _)) fun q=>hf (Bool.eq_false_iff.mpr q) s (Ext.refl _)⟩) fun q1 s1 hq1 x1 j1=>?_
 have j1:s1 q1=some (.list ((i0s l).map V.int)):=by rw [j1];unfold i0s;rw [List.map_map];rfl
 refine c38 F (items:=i0s l) (fun s K e hK=>iterL (e _ _ j1) K hK) (fun s e=>e _ _ j1) (Nat.lt_trans (lens_le hl) (by decide)) fun d0 s2 m0 n0 hd0 x2 g0 M0=>?_
 have h2:=x2 _ _ (x1 _ _ h)
 refine comp_p stp l _ (fun x=>decide ((0:Int)<x.1)) (fun x=>.int ((x.1:Int)-3)) (iterL h2) (fun s e=>e _ _ h2) hl' (fun x s Nt Nf hx e ht hf=>⟨_,rfl,and_s dI (fun q=>?_) fun q=>hf (decide_eq_false q) s (Ext.refl _)⟩) fun q3 s3 hq3 x3 j3=>?_
 ·obtain ⟨⟨a1,a2⟩,a3,a4⟩:=(ho x hx).resolve_left (by exact oz418 q)
  exact c28 F a1 a2 ⟨_,rfl,ht (decide_eq_true q) s (Ext.refl _)⟩
 have j3:s3 q3=some (.list ((i1s l).map V.int)):=by rw [j3];unfold i1s;rw [List.map_map];rfl
 refine c38 F (items:=i1s l) (fun s K e hK=>iterL (e _ _ j3) K hK) (fun s e=>e _ _ j3) (Nat.lt_trans (lens_le hl) (by decide)) fun d1 s4 m1 n1 hd1 x4 g1 M1=>?_
 have h4:=x4 _ _ (x3 _ _ h2)
 refine comp_p stp l _ (fun x=>decide ((0:Int)<x.1)) (fun x=>.int (lb ((x.2:Int)+3))) (iterL h4) (fun s e=>e _ _ h4) hl' (fun x s Nt Nf hx e ht hf=>⟨_,rfl,and_s dI (fun q=>?_) fun q=>hf (decide_eq_false q) s (Ext.refl _)⟩) fun q5 s5 hq5 x5 j5=>?_
 ·obtain ⟨⟨a1,a2⟩,a3,a4⟩:=(ho x hx).resolve_left (by exact oz418 q)
  exact c29 (v:=x.2+3) F (by exact oz413) (by exact oz414 a4) fun z=>⟨_,rfl,ht (decide_eq_true q) s (Ext.refl _)⟩
 have j5:s5 q5=some (.list ((i2s l).map V.int)):=by rw [j5];unfold i2s;rw [List.map_map];rfl
 refine c38 F (items:=i2s l) (fun s K e hK=>iterL (e _ _ j5) K hK) (fun s e=>e _ _ j5) (Nat.lt_trans (lens_le hl) (by decide)) fun d2 s6 m2 n2 hd2 x6 g2 M2=>?_
 have x16:=x1.trans (x2.trans (x3.trans (x4.trans (x5.trans x6))))
 exact mkBp F (x6 _ _ (x5 _ _ (x4 _ _ (x3 _ _ g0)))) (x6 _ _ (x5 _ _ g1)) g2 M0 M1 M2 (lens_le hl) (lens_le hl) (lens_le hl) fun b s7 x7 B p1=>hP b s7 (x16.trans x7) B fun x hx=>x16.no (p1 x hx)
theorem PdAt.mk' {d:Addr} {n:Nat} {items:List Int} {plain df:Int} {pm:List (Int×Int)} (h:st d=some (.dict (encD pm) n)) (p:PrD items plain pm df):PdAt st d items plain df:=⟨pm,n,h,p⟩
theorem c57a (F:Fns C) {o:List Nat} (ho:o.length<60) (hP:∀ v st',Ext st st'→LpAt st' v (asI o) [] []→P v st'):CallF C (k+3) 57 [.bytes o,.none] st P:=by
 have hl:(asI o).length<60:=by unfold asI;rw [List.length_map];exact ho
 refine call0 F 57 (by decide) rfl (c54 F (fun s K _ hK=>iterBy o s K hK) (fun _ _=>trivial) (Nat.lt_trans hl (by decide)) fun c0 s1 m0 n0 hc0 x1 g0 M0=>c55 F g0 M0 hl fun d0 s2 p0 f0 q0 hd0 x2 j0 P0 n1=>new_s fun c1 s3 hc1 x3 g1 =>
  c55 (ms:=[]) F g1 .nil (by decide) fun d1 s4 p1 f1 q1 hd1 x4 j1 P1 n2=>new_s fun c2 s5 hc2 x5 g2=>c55 (ms:=[]) F g2 .nil (by decide) fun d2 s6 p2 f2 q2 hd2 x6 j2 P2=>⟨Nat.le_of_ble_eq_true rfl,hP _ s6 (x1.trans (x2.trans (x3.trans (x4.trans (x5.trans x6)))))
   ⟨d0,d1,d2,f0,f1,f2,rfl,(PdAt.mk' j0 P0).ext (x3.trans (x4.trans (x5.trans x6))),(PdAt.mk' j1 P1).ext (x5.trans x6),.mk' j2 P2⟩⟩)
theorem c57b (F:Fns C) {a:Addr} {l:List (Nat×Nat)} (h:st a=some (.list (l.map stp))) (hl:l.length<60) (ho:∀ x∈l,stOk x)
  (hP:∀ v st',Ext st st'→LpAt st' v (i0s l) (i1s l) (i2s l)→P v st'):CallF C (k+3) 57 [.none,.ref a] st P:=by
 have hl':l.length≤1000:=Nat.le_of_lt (Nat.lt_trans hl (by decide))
 refine call0 F 57 (by decide) rfl ?_
 refine comp_p stp l _ (fun x=>(x.1:Int)==0) (fun x=>.int (x.2:Int)) (iterL h) (fun s e=>e _ _ h) hl' (fun x s Nt Nf hx e ht hf=>⟨_,rfl,and_s Iff.rfl (fun q=>ht q s (Ext.refl _)) fun q=>hf (Bool.eq_false_iff.mpr q) s (Ext.refl _)⟩) fun q1 s1 hq1 x1 j1=>?_
 have j1:s1 q1=some (.list ((i0s l).map V.int)):=by rw [j1];unfold i0s;rw [List.map_map];rfl
 have h1:=x1 _ _ h
 refine comp_p stp l _ (fun x=>decide ((0:Int)<x.1)) (fun x=>.int ((x.1:Int)-3)) (iterL h1) (fun s e=>e _ _ h1) hl' (fun x s Nt Nf hx e ht hf=>⟨_,rfl,and_s dI (fun q=>c56t F ⟨_,rfl,ht (decide_eq_true q) s (Ext.refl _)⟩) fun q=>hf (decide_eq_false q) s (Ext.refl _)⟩) fun q3 s3 hq3 x3 j3=>?_
 have j3:s3 q3=some (.list ((i1s l).map V.int)):=by rw [j3];unfold i1s;rw [List.map_map];rfl
 have h3:=x3 _ _ h1
 refine comp_p stp l _ (fun x=>decide ((0:Int)<x.1)) (fun x=>.int (lb ((x.2:Int)+3))) (iterL h3) (fun s e=>e _ _ h3) hl' (fun x s Nt Nf hx e ht hf=>⟨_,rfl,and_s dI (fun q=>?_) fun q=>hf (decide_eq_false q) s (Ext.refl _)⟩) fun q5 s5 hq5 x5 j5=>?_
 ·obtain ⟨⟨a1,a2⟩,a3,a4⟩:=(ho x hx).resolve_left (by exact oz418 q)
  exact c56f (v:=x.2+3) F (by exact oz413) (by exact oz414 a4) fun s' e'=>⟨_,rfl,ht (decide_eq_true q) s' e'⟩
 have j5:s5 q5=some (.list ((i2s l).map V.int)):=by rw [j5];unfold i2s;rw [List.map_map];rfl
 have k1:=x5 _ _ (x3 _ _ j1)
 have k3:=x5 _ _ j3
 refine c54 F (items:=i0s l) (fun s K e hK=>iterL (e _ _ k1) K hK) (fun s e=>e _ _ k1) (Nat.lt_trans (lens_le hl) (by decide)) fun c0 s6 m0 n0 hc0 x6 g0 M0=>c55 F g0 M0 (lens_le hl) fun d0 s7 p0 f0 q0 hd0 x7 y0 P0=>?_
 have x67:=x6.trans x7
 refine c54 F (items:=i1s l) (fun s K e hK=>iterL (e _ _ (x67 _ _ k3)) K hK) (fun s e=>e _ _ (x67 _ _ k3)) (Nat.lt_trans (lens_le hl) (by decide)) fun c1 s8 m1 n1 hc1 x8 g1 M1=>c55 F g1 M1 (lens_le hl) fun d1 s9 p1 f1 q1 hd1 x9 y1 P1=>?_
 have x69:=x67.trans (x8.trans x9)
 refine c54 F (items:=i2s l) (fun s K e hK=>iterL (e _ _ (x69 _ _ j5)) K hK) (fun s e=>e _ _ (x69 _ _ j5)) (Nat.lt_trans (lens_le hl) (by decide)) fun c2 s10 m2 n2 hc2 x10 g2 M2=>c55 F g2 M2 (lens_le hl) fun d2 s11 p2 f2 q2 hd2 x11 y2 P2=>⟨Nat.le_of_ble_eq_true rfl,hP _ s11 (x1.trans (x3.trans (x5.trans (x69.trans (x10.trans x11))))) ⟨d0,d1,d2,f0,f1,f2,rfl,(PdAt.mk' y0 P0).ext (x8.trans (x9.trans (x10.trans x11))),(PdAt.mk' y1 P1).ext (x10.trans x11),.mk' y2 P2⟩⟩
theorem c62 (F:Fns C) {v:V} {i0 i1 i2:List Int} {a:Addr} {l:List (Nat×Nat)} (L:LpAt st v i0 i1 i2) (h:st a=some (.list (l.map stp))) (hl:l.length≤1000) (ho:∀ x∈l,stOk x) (hP:∀ st',Ext st st'→P (.int (l.map (prc i0 i1 i2)).sum) st'):CallF C (k+3) 62 [v,.ref a] st P:=by
 refine call0 F 62 (by decide) rfl (comp_a stp l _ (fun x=>.int (prc i0 i1 i2 x)) (iterL h) (fun s e=>e _ _ h) hl (fun x s N Nf hx e hN=>c58 F (L.ext e) (ho x hx) hN) fun q s1 hq x1 g=>?_)
 exact sum_s (ns:=l.map (prc i0 i1 i2)) (by rw [g,List.map_map];rfl) (hP s1 x1)
theorem stOk3:∀ x∈[((0:Nat),(9:Nat)),(3,1),(14,60)],stOk x:=by
 intro x hx
 rcases List.mem_cons.mp hx with rfl | hx
 ·exact .inl rfl
 ·rcases List.mem_cons.mp hx with rfl | hx
  ·exact .inr ⟨⟨by decide,by decide⟩,by decide,by decide⟩
  ·rw [List.mem_singleton.mp hx];exact .inr ⟨⟨by decide,by decide⟩,by decide,by decide⟩
theorem c69 (F:Fns C) {s0:St} {v:V} {b:Bp} {i0 i1 i2:List Int} {a:Addr} {l:List (Nat×Nat)} (L:LpAt s0 v i0 i1 i2) (x0:Ext s0 st) (B:BpAt st b i0 i1 i2) (n1:s0 b.e1=none) (n2:s0 b.e2=none) (h:st a=some (.list (l.map stp))) (hl:l.length≤900) (ho:∀ x∈l,stOk x)
  (hP:∀ st',Fra [b.e1,b.e2] st st'→P (.bool true) st'):CallF C (k+4) 69 [v,.ref b.p,.ref a] st P:=by
 have fx:∀ {s:St},Fra [b.e1,b.e2] st s→Ext s0 s:=fun f x o hx=>f _ _ (by simp [Ext.ne hx n1 (s':=s0),Ext.ne hx n2 (s':=s0)]) (x0 _ _ hx)
 refine call0 F 69 (by decide) rfl ⟨Nat.le_of_ble_eq_true rfl,Nat.le_of_ble_eq_true rfl,Nat.le_of_ble_eq_true rfl,Nat.le_of_ble_eq_true rfl,new_s fun q1 s1 hq1 x1 g1=>add_s (x1 _ _ h) g1 (by rw [List.length_map];show _+3≤_;exact oz419 hl) fun q2 s2 hq2 x2 g2=>?_⟩
 have ho':∀ x∈l++[(0,9),(3,1),(14,60)],stOk x:=fun x hx=>(List.mem_append.mp hx).elim (ho x) (stOk3 x)
 have g2:s2 q2=some (.list ((l++[(0,9),(3,1),(14,60)]).map stp)):=by rw [g2,List.map_append];rfl
 have q12:q2≠b.e1∧q2≠b.e2:=by
  have hq:=x1.no hq2
  refine ex2 (B.c1) fun _ _ zq0=>?_;have w1:=zq0.1;clear zq0
  refine ex2 (B.c2) fun _ _ zq0=>?_;have w2:=zq0.1;clear zq0
  exact ⟨(Ext.ne w1 hq (s':=st)).symm,(Ext.ne w2 hq (s':=st)).symm⟩
 refine for_f (fun y:Option V×Option V×Option V=>[some v,some (.ref b.p),some (.ref a),y.1,y.2.1,y.2.2]) stp (l++[(0,9),(3,1),(14,60)]) _ (fun r y s=>(∀ x∈r,stOk x)∧BpAt s b i0 i1 i2∧Fra [b.e1,b.e2] st s∧s q2=some (.list ((l++[(0,9),(3,1),(14,60)]).map stp))) (none,none,none) (iterL g2) rfl
  ⟨ho',B.ext (x1.trans x2),(x1.trans x2).fra,g2⟩ ?_ ?_
 ·intro x r zr0 s N zr1 hN
  obtain ⟨y1,y2,y3⟩:=zr0
  have j1:=zr1.1;have j2:=zr1.2.1;have j3:=zr1.2.2.1;have j4:=zr1.2.2.2;clear zr1
  have hx:=j1 x (List.mem_cons_self ..)
  refine ⟨j4,_,rfl,?_⟩
  have fin:∀ s' c,BpAt s' b i0 i1 i2→Fra [b.e1,b.e2] st s'→s' q2=some (.list ((l++[(0,9),(3,1),(14,60)]).map stp))→c=prc i0 i1 i2 x→∀ Q:Fl→Ls→St→Prop,(∀ ls s,N ls s→Q .next ls s) →
    wpSs (CallF C (k+3)) (match ir69 with | [.for_ _ _ _ b,_]=>b.drop 1 | _=>[]) [some v,some (.ref b.p),some (.ref a),some (.int x.1),some (.int x.2),some (.int c)] s' Q:=by
   rintro s' c B' f' q' rfl Q hQ
   refine ⟨Nat.le_of_ble_eq_true rfl,c58 F (L.ext (fx f')) hx fun s5 x5=>ite_s (nI eI) (fun q=>absurd rfl q) fun _=>hQ _ _ (hN (_,_,_) s5 ⟨fun y hy=>j1 y (List.mem_cons_of_mem _ hy),B'.ext x5,f'.trans x5.fra,x5 _ _ q'⟩)⟩
  refine ite_s eI (fun e=>?_) fun e=>?_
  ·refine meth_s j2.obj rfl (c41 F j2 (fin s _ j2 j3 j4 ?_ _ fun _ _ h=>h))
   unfold prc;rw [if_pos (Int.ofNat.inj e)]
  ·have e:x.1≠0:=fun q=>e (by rw [q];rfl)
   have zq0:=hx.resolve_left e;have a1:=zq0.1.1;have a2:=zq0.1.2;have a3:=zq0.2.1;have a4:=zq0.2.2;clear zq0
   refine meth_s j2.obj rfl (c42 F j2 a1 a2 a3 a4 fun s' B' f'=>fin s' _ B' (j3.trans f') (f' _ _ (by simp [q12.1,q12.2]) j4) ?_ _ fun _ _ h=>h)
   unfold prc Mine.Internal.g1 Mine.Internal.g2;rw [if_neg e];exact oz420
 ·intro zr2 s zr3
  obtain ⟨y1,y2,y3⟩:=zr2
  have j1:=zr3.1;have j2:=zr3.2.1;have j3:=zr3.2.2.1;have j4:=zr3.2.2.2;clear zr3
  exact ⟨j4,hP s j3⟩
end
open PySem
noncomputable abbrev Stp:=Nat×Nat
noncomputable def sz (x:Stp):Nat:=if x.1=0 then 1 else x.1
noncomputable def edg (t:List Nat) (w ch p:Nat):List Stp:=(0,t.getD p 0)::(evy t w ch p).flatMap fun m=>(List.range (m.1-2)).map fun i=>(3+i,m.2)
noncomputable def vst (t:List Nat) (p:Nat) (x:Stp):Prop:=(x.1=0∧x.2=t.getD p 0)∨((3≤x.1∧x.1≤alk t p x.2)∧1≤x.2∧x.2≤p)
noncomputable def Pl (t:List Nat):Nat→List Stp→Prop
 | p,[]=>p=t.length
 | p,x::r=>p<t.length∧vst t p x∧Pl t (p+sz x) r
noncomputable def Pth (t:List Nat) (w ch:Nat):Nat→List Stp→Prop
 | p,[]=>p=t.length
 | p,x::r=>p<t.length∧x∈edg t w ch p∧Pth t w ch (p+sz x) r
theorem edg_vst {t:List Nat} {w ch p:Nat} {x:Stp} (h:x∈edg t w ch p):vst t p x:=by
 rcases List.mem_cons.mp h with rfl | h
 ·exact .inl ⟨rfl,rfl⟩
 ·refine ex1 (List.mem_flatMap.mp h) fun m zq0=>?_;have hm:=zq0.1;have hx:=zq0.2;clear zq0
  refine ex1 (List.mem_map.mp hx) fun i zq0=>?_;have hi:=zq0.1;obtain rfl:=zq0.2;clear zq0
  have hi:=List.mem_range.mp hi
  have zq0:=evy_ok hm;have h1:=zq0.1;have h2:=zq0.2.1;have h3:=zq0.2.2;clear zq0
  exact .inr ⟨⟨Nat.le_add_right ..,by show 3+i≤alk t p m.2;exact oz421 hi h3⟩,h1⟩
theorem Pth.pl {t:List Nat} {w ch:Nat}:∀ {l:List Stp} {p:Nat},Pth t w ch p l→Pl t p l
 | [],_,h=>h
 | _::_,_,h=>⟨h.1,edg_vst h.2.1,h.2.2.pl⟩
theorem vst_sz {t:List Nat} {p:Nat} {x:Stp} (hp:p<t.length) (h:vst t p x):1≤sz x∧p+sz x≤t.length:=by
 unfold sz
 rcases h with ⟨h1,_⟩ | ⟨⟨h1,h2⟩,_⟩
 ·rw [if_pos h1];exact ⟨Nat.le_refl _,hp⟩
 ·have:=alk_le t p x.2
  rw [if_neg (by exact oz338 h1)];exact oz422 h1 h2 this
theorem vst_ok {t:List Nat} {p:Nat} {x:Stp} (ht:t.length<35) (hp:p<t.length) (h:vst t p x):stOk x:=by
 rcases h with ⟨h1,_⟩ | ⟨⟨h1,h2⟩,h3,h4⟩
 ·exact .inl h1
 ·have:=alk_le t p x.2
  exact .inr ⟨⟨h1,by exact oz423 ht this h2⟩,h3,by exact oz424 ht hp h4⟩
theorem Pl.ok {t:List Nat} (ht:t.length<35):∀ {l:List Stp} {p:Nat},Pl t p l→∀ x∈l,stOk x
 | y::r,p,h,x,hx=>by
  rcases List.mem_cons.mp hx with rfl | hx
  ·exact vst_ok ht h.1 h.2.1
  ·exact Pl.ok ht h.2.2 x hx
theorem Pl.len {t:List Nat}:∀ {l:List Stp} {p:Nat},Pl t p l→p+l.length≤t.length
 | [],p,h=>Nat.le_of_eq h
 | y::r,p,h=>by
  have h1:=(vst_sz h.1 h.2.1).1
  have h2:=Pl.len h.2.2
  rw [List.length_cons];exact oz425 h2 h1
theorem lits_pl {t:List Nat}:∀ {n p:Nat},p+n=t.length→Pl t p ((t.drop p).map fun o=>(0,o))
 | 0,p,h=>by rw [List.drop_eq_nil_of_le (by exact oz426 h)];exact h
 | n+1,p,h=>by
  have hp:p<t.length:=by exact oz66 h
  rw [List.drop_eq_getElem_cons hp,List.map_cons]
  exact ⟨hp,.inl ⟨rfl,by rw [List.getD_eq_getElem?_getD,List.getElem?_eq_getElem hp];rfl⟩,lits_pl (by show p+1+n=_;exact oz67 h)⟩
theorem rep_pl {t:List Nat} {w ch:Nat} (ht:t.length<60):∀ {f p:Nat} {a b c l:Int},t.length-p≤f→p≤t.length→Pl t p (rep t w ch f p a b c l)
 | 0,p,a,b,c,l,h,h2=>by show p=t.length;exact oz427 h h2
 | f+1,p,a,b,c,l,h,h2=>by
  unfold rep
  by_cases hp:p<t.length
  ·rw [if_pos hp]
   rcases best_ok (t:=t) (w:=w) (ch:=ch) (a:=a) (b:=b) (c:=c) (l:=l) (p:=p) (by exact oz316 ht h2) with hb | ⟨h3,⟨h4,h5⟩,h6⟩
   ·rw [if_pos (by rw [hb])]
    exact ⟨hp,.inl ⟨rfl,rfl⟩,rep_pl ht (by show t.length-(p+1)≤f;exact oz313 h) hp⟩
   ·rw [if_neg (by exact oz338 h3)]
    have v:vst t p (best (opts t w ch p a b c l)):=.inr ⟨⟨h3,Nat.le_of_eq h6⟩,h4,h5⟩
    have e:sz (best (opts t w ch p a b c l))=(best (opts t w ch p a b c l)).1:=if_neg (by exact oz338 h3)
    have q:=vst_sz hp v
    refine ⟨hp,v,?_⟩
    rw [e] at q ⊢
    exact rep_pl ht (by exact oz428 h h3) q.2
  ·rw [if_neg hp];show p=t.length;exact oz144 h2 hp
structure Wy (t:List Nat) (w ch:Nat) (pr:Stp→Int) (start n at_:Nat) (done:List Stp) (cs:List (Option Int)) (ss:List (Option Stp)):Prop where
 hn:start+n=t.length
 lc:cs.length=n+1
 ls:ss.length=n+1
 zero:cs[0]?=some (some 0)
 back:∀ j c,0<j→cs[j]?=some (some c)→∃ x i ci,ss[j]?=some (some x)∧i+sz x=j∧i≤at_∧x∈edg t w ch (start+i)∧cs[i]?=some (some ci)∧c=ci+pr x
 fwd:∀ i x,(i<at_∧x∈edg t w ch (start+i))∨(i=at_∧x∈done)→∃ ci cj,cs[i]?=some (some ci)∧cs[i+sz x]?=some (some cj)∧cj≤ci+pr x
 cur:∃ c,cs[at_]?=some (some c)
theorem Wy.start {t:List Nat} {w ch:Nat} {pr:Stp→Int} {start n:Nat} (h:start+n=t.length):Wy t w ch pr start n 0 [] (some 0::List.replicate n none) (List.replicate (n+1) none) :=
 ⟨h,by simp,by simp,rfl,fun j c hj hc=>by
  obtain ⟨i,rfl⟩:∃ i,j=i+1:=⟨j-1,by exact oz429 hj⟩
  rw [List.getElem?_cons_succ,List.getElem?_replicate] at hc
  split at hc <;> (cases hc),fun i x hx=>by
  rcases hx with ⟨q,_⟩ | ⟨_,q⟩
  ·exact absurd q (Nat.not_lt_zero _)
  ·exact absurd q List.not_mem_nil,0,rfl⟩
theorem Wy.take {t:List Nat} {w ch:Nat} {pr:Stp→Int} {start n at_:Nat} {done:List Stp} {cs:List (Option Int)} {ss:List (Option Stp)} {x:Stp} {c:Int} (W:Wy t w ch pr start n at_ done cs ss) (hx:x∈edg t w ch (start+at_)) (h1:1≤sz x) (hl:at_+sz x≤n)
  (hc:cs[at_]?=some (some c)) (hless:∀ d,cs[at_+sz x]?=some (some d)→c+pr x<d):Wy t w ch pr start n at_ (done++[x]) (cs.set (at_+sz x) (some (c+pr x))) (ss.set (at_+sz x) (some x)):=by
 have lt:at_+sz x<cs.length:=by rw [W.lc];exact oz430 hl
 have lt2:at_+sz x<ss.length:=by rw [W.ls];exact oz430 hl
 have ne:∀ i,i≤at_→at_+sz x≠i:=fun i h=>by exact oz431 h1 h
 have keep:∀ i,i≤at_→(cs.set (at_+sz x) (some (c+pr x)))[i]?=cs[i]?:=fun i h=>by rw [List.getElem?_set,if_neg (ne i h)]
 refine ⟨W.hn,by rw [List.length_set];exact W.lc,by rw [List.length_set];exact W.ls,(keep 0 (Nat.zero_le _)).trans W.zero,fun j d hj hd=>?_,fun i y hy=>?_,c,(keep at_ (Nat.le_refl _)).trans hc⟩
 ·rw [List.getElem?_set] at hd
  by_cases e:at_+sz x=j
  ·rw [if_pos e,if_pos lt] at hd
   exact ⟨x,at_,c,by rw [List.getElem?_set,if_pos e,if_pos lt2],e,Nat.le_refl _,hx,(keep at_ (Nat.le_refl _)).trans hc,(Option.some.inj (Option.some.inj hd)).symm⟩
  ·rw [if_neg e] at hd
   refine ex3 (W.back j d hj hd) fun y i ci zq0=>?_;have b1:=zq0.1;have b2:=zq0.2.1;have b3:=zq0.2.2.1;have b4:=zq0.2.2.2.1;have b5:=zq0.2.2.2.2.1;have b6:=zq0.2.2.2.2.2;clear zq0
   exact ⟨y,i,ci,by rw [List.getElem?_set,if_neg e];exact b1,b2,b3,b4,(keep i b3).trans b5,b6⟩
 ·have old:∀ ci cj,i≤at_→cs[i]?=some (some ci)→cs[i+sz y]?=some (some cj)→cj≤ci+pr y→∃ ci cj,(cs.set (at_+sz x) (some (c+pr x)))[i]?=some (some ci)∧(cs.set (at_+sz x) (some (c+pr x)))[i+sz y]?=some (some cj)∧cj≤ci+pr y:=fun ci cj hi h1 h2 h3=>by
   rw [keep i hi,List.getElem?_set]
   by_cases e:at_+sz x=i+sz y
   ·rw [if_pos e,if_pos lt]
    exact ⟨ci,_,h1,rfl,Int.le_trans (Int.le_of_lt (hless cj (e▸h2))) h3⟩
   ·rw [if_neg e];exact ⟨ci,cj,h1,h2,h3⟩
  rcases hy with ⟨a,b⟩ | ⟨rfl,b⟩
  ·refine ex2 (W.fwd i y (.inl ⟨a,b⟩)) fun ci cj zq0=>?_;have f1:=zq0.1;have f2:=zq0.2.1;have f3:=zq0.2.2;clear zq0
   exact old ci cj (Nat.le_of_lt a) f1 f2 f3
  ·rcases List.mem_append.mp b with b | b
   ·refine ex2 (W.fwd i y (.inr ⟨rfl,b⟩)) fun ci cj zq0=>?_;have f1:=zq0.1;have f2:=zq0.2.1;have f3:=zq0.2.2;clear zq0
    exact old ci cj (Nat.le_refl _) f1 f2 f3
   ·obtain rfl:=List.mem_singleton.mp b
    exact ⟨c,_,(keep i (Nat.le_refl _)).trans hc,by rw [List.getElem?_set,if_pos rfl,if_pos lt],Int.le_refl _⟩
theorem Wy.leave {t:List Nat} {w ch:Nat} {pr:Stp→Int} {start n at_:Nat} {done:List Stp} {cs:List (Option Int)} {ss:List (Option Stp)} {x:Stp} {c d:Int} (W:Wy t w ch pr start n at_ done cs ss) (hc:cs[at_]?=some (some c)) (hd:cs[at_+sz x]?=some (some d)) (hle:d≤c+pr x) :
  Wy t w ch pr start n at_ (done++[x]) cs ss :=
 ⟨W.hn,W.lc,W.ls,W.zero,W.back,fun i y hy=>by
  rcases hy with h | ⟨rfl,b⟩
  ·exact W.fwd i y (.inl h)
  ·rcases List.mem_append.mp b with b | b
   ·exact W.fwd i y (.inr ⟨rfl,b⟩)
   ·obtain rfl:=List.mem_singleton.mp b
    exact ⟨c,d,hc,hd,hle⟩,W.cur⟩
theorem Wy.next {t:List Nat} {w ch:Nat} {pr:Stp→Int} {start n at_:Nat} {cs:List (Option Int)} {ss:List (Option Stp)} (W:Wy t w ch pr start n at_ (edg t w ch (start+at_)) cs ss):Wy t w ch pr start n (at_+1) [] cs ss :=
 ⟨W.hn,W.lc,W.ls,W.zero,fun j c hj hc=>by
  refine ex3 (W.back j c hj hc) fun x i ci zq0=>?_;have b1:=zq0.1;have b2:=zq0.2.1;have b3:=zq0.2.2.1;have b4:=zq0.2.2.2;clear zq0
  exact ⟨x,i,ci,b1,b2,Nat.le_succ_of_le b3,b4⟩,fun i x hx=>by
  rcases hx with ⟨a,b⟩ | ⟨_,b⟩
  ·rcases Nat.lt_or_eq_of_le (Nat.le_of_lt_succ a) with a | rfl
   ·exact W.fwd i x (.inl ⟨a,b⟩)
   ·exact W.fwd i x (.inr ⟨rfl,b⟩)
  ·exact absurd b List.not_mem_nil,by
  refine ex2 (W.fwd at_ (0,t.getD (start+at_) 0) (.inr ⟨rfl,List.mem_cons_self ..⟩)) fun ci cj zq0=>?_;have f1:=zq0.1;have f2:=zq0.2.1;have f3:=zq0.2.2;clear zq0
  exact ⟨cj,f2⟩⟩
theorem Wy.low {t:List Nat} {w ch:Nat} {pr:Stp→Int} {start n:Nat} {cs:List (Option Int)} {ss:List (Option Stp)} {cn:Int} (W:Wy t w ch pr start n n [] cs ss) (hn:cs[n]?=some (some cn)):∀ {l:List Stp} {i:Nat} {ci:Int},Pth t w ch (start+i) l→cs[i]?=some (some ci)→cn≤ci+(l.map pr).sum
 | [],i,ci,hp,hi=>by
  have hp:start+i=t.length:=hp
  have:i=n:=by have:=W.hn;exact oz432 hp this
  subst this
  rw [hi] at hn
  rw [← Option.some.inj (Option.some.inj hn)]
  show ci≤ci+0;exact oz433
 | x::r,i,ci,hp,hi=>by
  have h1:=hp.1;have h2:=hp.2.1;have h3:=hp.2.2;clear hp
  obtain ⟨ci',cj,f1,f2,f3⟩:=W.fwd i x (.inl ⟨by have:=W.hn;exact oz434 h1 this,h2⟩)
  rw [hi] at f1
  obtain rfl:=Option.some.inj (Option.some.inj f1)
  have:=W.low hn (l:=r) (i:=i+sz x) (ci:=cj) (by rw [← Nat.add_assoc];exact h3) f2
  rw [List.map_cons,List.sum_cons];exact oz435 f3 this
noncomputable def encC (c:Option Int):V:=match c with | none=>.none | some i=>.int i
noncomputable def encS (x:Option Stp):V:=match x with | none=>.none | some x=>stp x
section
variable {C:Cx} {st:St} {k:Nat} {P:V→St→Prop}
theorem c17 (F:Fns C) {t:List Nat} {start:Nat} {most:Int} (h:start≤t.length) (hm:0≤most) (hP:P .none st):CallF C (k+1) 17 [.bytes t,.int start,.int most] st P :=
 call0 F 17 (by decide) rfl (ite_s (nI dI) (fun q=>absurd (Int.ofNat_le.mpr h) q) fun _=>ite_s dI (fun q=>absurd q (Int.not_lt.mpr hm)) fun _=>hP)
theorem c18 (F:Fns C) {x:Stp} (hP:P (.int (sz x)) st):CallF C (k+1) 18 [stp x] st P:=by
 unfold sz at hP
 refine call0 F 18 (by decide) rfl ⟨_,rfl,ite_s eI (fun e=>?_) fun e=>?_⟩
 ·rw [if_pos (Int.ofNat.inj e)] at hP;exact hP
 ·rw [if_neg fun q=>e (by rw [q];rfl)] at hP;exact ⟨_,rfl,hP⟩
structure TrAt (st:St) (tr f r d b:Addr) (t:List Nat) (w ch m:Nat):Prop where
 obj:st tr=some (.inst 2 [(9,.ref f),(10,.int 3),(11,.int m)])
 fin:FinAt st f r d b t w ch m
theorem TrAt.ext {s:St} {tr f r d b:Addr} {t:List Nat} {w ch m:Nat} (T:TrAt st tr f r d b t w ch m) (e:Ext st s):TrAt s tr f r d b t w ch m:=⟨e _ _ T.obj,T.fin.fra e⟩
theorem mkTr (F:Fns C) {f r d b:Addr} {t:List Nat} {w ch:Nat} (R:FinAt st f r d b t w ch 0) (hP:∀ tr s,st tr=none→Ext st s→TrAt s tr f r d b t w ch 0→P (.ref tr) s):makeW (CallF C (k+1)) 2 [.ref f] st P :=
 make_s rfl fun tr _ s1 _ ht x1 g1=>call0 F 19 (by decide) rfl (setAttr_s g1 rfl rfl fun s2 u2=>attr_s (u2.ne _ _ (Ext.ne R.fin ht (s':=s1)) (x1 _ _ R.fin)) rfl rfl (setAttr_s u2.at_ rfl rfl fun s3 u3=>setAttr_s u3.at_ rfl rfl fun s4 u4 =>
  ⟨rfl,hP tr s4 ht (u4.ext ht (u3.ext ht (u2.ext ht x1))) ⟨u4.at_,(((R.fra x1).updA (R.apart ht) u2).updA (R.apart ht) u3).updA (R.apart ht) u4⟩⟩))
theorem c20 (F:Fns C) {tr f r d b:Addr} {t:List Nat} {w ch m e:Nat} (ht:∀ x∈t,x<256) (hn:t.length≤1000) (A:Apart f r d b tr) (T:TrAt st tr f r d b t w ch m) (hm:m≤e) (he:e≤t.length)
  (hP:∀ s,TrAt s tr f r d b t w ch e→Fra [tr,f,d,b] st s→P .none s):CallF C (k+5) 20 [.ref tr,.int e] st P:=by
 refine call0 F 20 (by decide) rfl ?_
 refine while_s (fun _:Nat=>[some (.ref tr),some (.int e)]) (fun x s=>x≤e∧TrAt s tr f r d b t w ch x∧Fra [tr,f,d,b] st s) (fun x=>e-x) m rfl ⟨hm,T,Fra.refl _ _⟩ ?_
 rintro x s1 N ⟨hx,T1,e1⟩ hN
 refine attr_s T1.obj rfl rfl (ite_s dI (fun hlt=>?_) fun hge=>?_)
 ·have hlt:x<e:=Int.ofNat_lt.mp hlt
  refine attr_s T1.obj rfl rfl (meth_s T1.fin.fin rfl (attr_s T1.obj rfl rfl (c5 F ht hn T1.fin (Nat.lt_of_lt_of_le hlt he) fun s2 R2 e2=>?_)))
  have o2:=e2 _ _ (by simp [A.f.symm,A.d.symm,A.b.symm]) T1.obj
  exact attr_s o2 rfl rfl (setAttr_s o2 rfl rfl fun s3 u3=>hN (x+1) s3 ⟨hlt,⟨u3.at_,R2.updA A u3⟩,(e1.trans fun y o n h=>e2 y o (fun q=>n (List.mem_cons_of_mem _ q)) h).trans (u3.fra (by simp))⟩ (Nat.sub_succ_lt_self _ _ hlt))
 ·have:x=e:=Nat.le_antisymm hx (Int.ofNat_le.mp (Int.not_lt.mp hge))
  subst this
  exact hP s1 T1 e1
theorem c21 (F:Fns C) {tr f r d b:Addr} {t:List Nat} {w ch m p:Nat} {most:Int} (ht:∀ x∈t,x<256) (hn:t.length≤900) (A:Apart f r d b tr) (T:TrAt st tr f r d b t w ch m) (hm:m≤p) (hp:p≤t.length) (hmo:(t.length:Int)-p≤most)
  (hP:∀ a s,st a=none→TrAt s tr f r d b t w ch p→Fra [tr,f,d,b] st s→s a=some (.list ((evy t w ch p).map stp))→P (.ref a) s):CallF C (k+6) 21 [.ref tr,.int p,.int most] st P:=by
 refine call0 F 21 (by decide) rfl (meth_s T.obj rfl (c20 F ht (by exact oz436 hn) A T hm hp fun s1 T1 f1=>attr_s T1.obj rfl rfl (meth_s T1.fin.fin rfl (c16 F ht (by exact oz436 hn) T1.fin hp hmo fun q s2 hq x2 g2=>?_))))
 have T2:=T1.ext x2
 have hlen:(evy t w ch p).length≤1000:=by
  have:∀ (ds:List Nat) L,(recs t p ds L).length≤ds.length:=by
   intro ds
   induction ds with
   | nil=>intro L;exact Nat.le_refl _
   | cons d r ih =>
    intro L
    unfold recs
    split
    ·exact Nat.succ_le_succ (ih _)
    ·exact Nat.le_succ_of_le (ih _)
  refine Nat.le_trans (this _ _) ?_
  rw [List.length_take]
  have:=dst_len t p (min p w)
  exact oz437 this hp hn
 refine comp_p stp (evy t w ch p) _ (fun x=>decide ((3:Int)≤x.1)) stp (iterL g2) (fun s e=>e _ _ g2) hlen (fun x s Nt Nf hx e h1 h2=>⟨_,rfl,attr_s (e _ _ T2.obj) rfl rfl (and_s dI (fun q=>h1 (decide_eq_true q) s (Ext.refl _)) fun q=>absurd (Int.ofNat_le.mpr (evy_ok hx).2.1) q)⟩) fun a s3 ha x3 g3=>?_
 have hf:(evy t w ch p).filter (fun x=>decide ((3:Int)≤x.1))=evy t w ch p:=List.filter_eq_self.mpr fun x hx=>decide_eq_true (Int.ofNat_le.mpr (evy_ok hx).2.1)
 rw [hf] at g3
 refine hP a s3 ?_ (T2.ext x3) (f1.trans (x2.fra.trans x3.fra)) g3
 cases q:st a with
 | none=>rfl
 | some o =>
  have no:∀ {x:Addr} {o':O},s2 x=some o'→a≠x:=fun h e=>by rw [e,h] at ha;cases ha
  have h1:=f1 a o (by
   obtain ⟨_,⟨_,_,y3,_⟩,⟨_,y4,_⟩⟩:=T2.fin.row
   simp [no T2.obj,no T2.fin.fin,no y3,no y4]) q
  rw [x2 _ _ h1] at ha;cases ha
theorem c22 (F:Fns C) {t:List Nat} {start:Nat} (h:start≤t.length) (hn:t.length≤1000) (hP:∀ a s,st a=none→Ext st s→s a=some (.list (((t.drop start).map fun o=>((0:Nat),o)).map stp))→P (.ref a) s):CallF C (k+2) 22 [.bytes t,.int start] st P:=by
 refine call0 F 22 (by decide) rfl (c17 F h (by decide) (slcB_s (cut_from t start) (comp_a (fun (o:Nat)=>.int (o:Int)) (t.drop start) (fun _=>True) (fun (o:Nat)=>stp (0,o)) (fun K hK=>hK) (fun _ _=>trivial) (by rw [List.length_drop];exact oz438 hn) (fun x s N Nf hx e hN=>⟨Nat.le_of_ble_eq_true rfl,hN s (Ext.refl _)⟩) fun a s ha x g=>hP a s ha x (by rw [g,List.map_map];rfl))))
structure WyAt (st:St) (wy ca sa:Addr) (n:Nat) (cs:List (Option Int)) (ss:List (Option Stp)):Prop where
 obj:st wy=some (.inst 3 [(1,.int n),(12,.ref ca),(13,.ref sa)])
 cst:st ca=some (.list (cs.map encC))
 stp:st sa=some (.list (ss.map encS))
theorem WyAt.ext {s:St} {wy ca sa:Addr} {n:Nat} {cs:List (Option Int)} {ss:List (Option Stp)} (W:WyAt st wy ca sa n cs ss) (e:Ext st s):WyAt s wy ca sa n cs ss:=⟨e _ _ W.obj,e _ _ W.cst,e _ _ W.stp⟩
theorem WyAt.fra {s:St} {D:List Addr} {wy ca sa:Addr} {n:Nat} {cs:List (Option Int)} {ss:List (Option Stp)} (W:WyAt st wy ca sa n cs ss) (e:Fra D st s) (h1:wy∉D) (h2:ca∉D) (h3:sa∉D):WyAt s wy ca sa n cs ss:=⟨e _ _ h1 W.obj,e _ _ h2 W.cst,e _ _ h3 W.stp⟩
theorem mkWy (F:Fns C) {n:Nat} (hn:n≤1000) (hP:∀ wy ca sa s,st wy=none→st ca=none→st sa=none→ca≠sa→Ext st s→WyAt s wy ca sa n (some 0::List.replicate n none) (List.replicate (n+1) none)→P (.ref wy) s):makeW (CallF C (k+1)) 3 [.int n] st P:=by
 refine make_s rfl fun wy _ s1 _ hw x1 g1=>call0 F 23 (by decide) rfl (setAttr_s g1 rfl rfl fun s2 u2=>⟨Nat.le_of_ble_eq_true rfl,new_s fun q3 s3 hq3 x3 g3=>⟨Nat.le_of_ble_eq_true rfl,new_s fun q4 s4 hq4 x4 g4=>mul_s g4 (Int.natCast_nonneg n) (by exact oz237 hn) fun q5 s5 hq5 x5 g5 =>
  add_s (x5 _ _ (x4 _ _ g3)) g5 (by rw [List.length_replicate,Int.toNat_natCast];show 1+n≤_;exact oz439 hn) fun ca s6 hca x6 g6=>setAttr_s (x6 _ _ (x5 _ _ (x4 _ _ (x3 _ _ u2.at_)))) rfl rfl fun s7 u7=>⟨Nat.le_of_ble_eq_true rfl,new_s fun q8 s8 hq8 x8 g8=>mul_s g8 (by exact oz342) (by exact oz440 hn) fun sa s9 hsa x9 g9=>setAttr_s (x9 _ _ (x8 _ _ u7.at_)) rfl rfl fun s10 u10=>⟨rfl,?_⟩⟩⟩⟩)
 have hcw:ca≠wy:=(Ext.ne (x5 _ _ (x4 _ _ (x3 _ _ u2.at_))) hca (s':=s5)).symm
 have c7:=u7.ne _ _ hcw g6
 have c9:=x9 _ _ (x8 _ _ c7)
 have hcs:ca≠sa:=Ext.ne (x8 _ _ c7) hsa (s':=s8)
 have hsw:sa≠wy:=(Ext.ne (x8 _ _ u7.at_) hsa (s':=s8)).symm
 have ex5:Ext st s6:=fun x o h=>x6 _ _ (x5 _ _ (x4 _ _ (x3 _ _ (u2.ne _ _ (Ext.ne h hw (s':=s1)) (x1 _ _ h)))))
 refine hP wy ca sa s10 hw (x1.no (u2.no (x3.no (x4.no (x5.no hca))))) (ex5.no (u7.no (x8.no hsa))) hcs (fun x o h=>u10.ne _ _ (Ext.ne h hw (s':=s1)) (x9 _ _ (x8 _ _ (u7.ne _ _ (Ext.ne h hw (s':=s1)) (ex5 _ _ h))))) ⟨u10.at_,u10.ne _ _ hcw (c9.trans ?_),u10.ne _ _ hsw (g9.trans ?_)⟩
 ·rw [Int.toNat_natCast,List.map_cons,List.map_replicate];rfl
 ·rw [show ((n:Int)+1).toNat=n+1 by exact oz441,List.map_replicate];rfl
end
noncomputable def Dis (A B:List Addr):Prop:=∀ x∈A,x∉B
theorem Dis.symm {A B:List Addr} (h:Dis A B):Dis B A:=fun x hx hy=>h x hy hx
theorem Fra.wide {D D':List Addr} {s s':St} (f:Fra D s s') (h:∀ x∈D,x∈D'):Fra D' s s':=fun x o n e=>f x o (fun q=>n (h x q)) e
section
variable {C:Cx} {st:St} {k:Nat} {P:V→St→Prop}
theorem FinAt.keepF {s:St} {D:List Addr} {f r d b:Addr} {t:List Nat} {w c m:Nat} (R:FinAt st f r d b t w c m) (e:Fra D st s) (h:Dis [f,r,d,b] D):FinAt s f r d b t w c m :=
 ⟨e _ _ (h f (by simp)) R.fin,e _ _ (h r (by simp)) R.row.row,R.row.dic.imp fun es h'=>h'.imp fun n h'=>⟨e _ _ (h d (by simp)) h'.1,h'.2⟩,R.row.bef.imp fun l h'=>⟨e _ _ (h b (by simp)) h'.1,h'.2⟩⟩
theorem TrAt.keepF {s:St} {D:List Addr} {tr f r d b:Addr} {t:List Nat} {w c m:Nat} (T:TrAt st tr f r d b t w c m) (e:Fra D st s) (h:Dis [tr,f,r,d,b] D):TrAt s tr f r d b t w c m :=
 ⟨e _ _ (h tr (by simp)) T.obj,T.fin.keepF e fun x hx=>h x (List.mem_cons_of_mem _ hx)⟩
theorem WyAt.keepF {s:St} {D:List Addr} {wy ca sa:Addr} {n:Nat} {cs:List (Option Int)} {ss:List (Option Stp)} (W:WyAt st wy ca sa n cs ss) (e:Fra D st s) (h:Dis [wy,ca,sa] D):WyAt s wy ca sa n cs ss:=W.fra e (h _ (by simp)) (h _ (by simp)) (h _ (by simp))
theorem BpAt.keepF {s:St} {D:List Addr} {b:Bp} {i0 i1 i2:List Int} (B:BpAt st b i0 i1 i2) (e:Fra D st s) (h:Dis b.adr D):BpAt s b i0 i1 i2:=by
 have m:∀ {x},x∈b.adr→∀ {o},st x=some o→s x=some o:=fun {x} hx {o} ho=>e _ _ (h x hx) ho
 unfold Bp.adr at m
 exact ⟨m (by simp) B.obj,⟨B.h0.ex.imp fun _ h=>h.imp fun _ h=>⟨m (by simp) h.1,h.2⟩⟩,⟨B.h1.ex.imp fun _ h=>h.imp fun _ h=>⟨m (by simp) h.1,h.2⟩⟩,⟨B.h2.ex.imp fun _ h=>h.imp fun _ h=>⟨m (by simp) h.1,h.2⟩⟩,
  B.c1.imp fun _ h=>h.imp fun _ h=>⟨m (by simp) h.1,h.2⟩,B.c2.imp fun _ h=>h.imp fun _ h=>⟨m (by simp) h.1,h.2⟩,B.n1,B.n2,B.n3⟩
theorem nth_map {α:Type} {f:α→V} {l:List α} {n:Nat} {x:α} (h:l[n]?=some x):nth (l.map f) (n:Int)=some (f x):=by
 have hl:=(List.getElem?_eq_some_iff.mp h).1
 rw [nth_nn _ (by rw [List.length_map];exact hl),List.getElem?_map,h];rfl
noncomputable def lessC (o:Option (Option Int)) (v:Int):Bool:=match o with | some (some d)=>decide (v<d) | _=>true
theorem lessC_iff {o:Option (Option Int)} {v:Int}:lessC o v=true↔∀ d,o=some (some d)→v<d:=by
 unfold lessC
 split
 ·rename_i d
  rw [decide_eq_true_iff]
  exact ⟨fun h e he=>by cases he;exact h,fun h=>h d rfl⟩
 ·rename_i hn
  exact ⟨fun _ d hd=>absurd hd (hn d),fun _=>rfl⟩
noncomputable def off (pr:Stp→Int) (at_:Nat) (T:List (Option Int)×List (Option Stp)) (x:Stp):List (Option Int)×List (Option Stp):=match T.1[at_]? with
 | some (some c)=>if lessC T.1[at_+sz x]? (c+pr x) then (T.1.set (at_+sz x) (some (c+pr x)),T.2.set (at_+sz x) (some x)) else T
 | _=>T
noncomputable def toldF (ss:List (Option Stp)):Nat→Nat→List Stp
 | 0,_=>[]
 | f+1,j=>if j=0 then [] else match ss[j]? with
  | some (some x)=>toldF ss f (j-sz x)++[x]
  | _=>[]
theorem c24 (F:Fns C) {wy ca sa:Addr} {t:List Nat} {w ch start n at_:Nat} {pr:Stp→Int} {done:List Stp} {cs:List (Option Int)} {ss:List (Option Stp)} {x:Stp} {q:Int} (A:WyAt st wy ca sa n cs ss) (hcs:ca≠sa) (W:Wy t w ch pr start n at_ done cs ss) (hx:x∈edg t w ch (start+at_)) (hl:at_<n) (hn:n≤1000) (hq:q=pr x)
  (hP:∀ s cs' ss',(cs',ss')=off pr at_ (cs,ss) x→WyAt s wy ca sa n cs' ss'→Wy t w ch pr start n at_ (done++[x]) cs' ss'→Fra [ca,sa] st s→P .none s):CallF C (k+2) 24 [.ref wy,.int at_,stp x,.int q] st P:=by
 subst hq
 obtain ⟨z1,z2⟩:=vst_sz (by have:=W.hn;exact oz442 this hl) (edg_vst hx)
 have z3:at_+sz x≤n:=by have:=W.hn;exact oz443 z2 this
 refine ex1 (W.cur) fun c0 hc=>?_
 obtain ⟨e,he⟩:∃ e,cs[at_+sz x]?=some e:=⟨_,List.getElem?_eq_getElem (by rw [W.lc];exact oz430 z3)⟩
 have wca:wy≠ca:=ne_of A.obj A.cst (by simp)
 have wsa:wy≠sa:=ne_of A.obj A.stp (by simp)
 refine call0 F 24 (by decide) rfl (c18 F (attr_s A.obj rfl rfl (ite_s dI (fun q=>absurd q (by exact oz444 z3)) fun _=>attr_s A.obj rfl rfl (idxL_s A.cst (nth_map hc) (attr_s A.obj rfl rfl (idxL_s (x:=encC e) A.cst ?_ ?_))))))
 ·rw [← Int.natCast_add];exact nth_map he
 have set_:(∀ d,cs[at_+sz x]?=some (some d)→c0+pr x<d)→wpSs (CallF C (k+1)) (match ir24 with | [_,_,_,.ite _ b _]=>b | _=>[]) [some (.ref wy),some (.int at_),some (stp x),some (.int (pr x)),some (.int ((at_:Int)+sz x)),some (.int (c0+pr x))] st (RetP P):=fun hless=>by
  refine attr_s A.obj rfl rfl (setL_s A.cst (by exact oz240) (by rw [List.length_map,W.lc];exact oz445 z3) fun s1 u1=>attr_s (u1.ne _ _ wca A.obj) rfl rfl (setL_s (u1.ne _ _ hcs.symm A.stp) (by exact oz240) (by rw [List.length_map,W.ls];exact oz445 z3) fun s2 u2=>?_))
  refine hP s2 _ _ (by unfold off;dsimp only;rw [hc];exact (if_pos (lessC_iff.mpr hless)).symm) ⟨u2.ne _ _ wsa (u1.ne _ _ wca A.obj),(u2.ne _ _ hcs u1.at_).trans ?_,u2.at_.trans ?_⟩ (W.take hx z1 z3 hc hless) ((u1.fra (by simp)).trans (u2.fra (by simp)))
  ·rw [← Int.natCast_add,Int.toNat_natCast,List.map_set];rfl
  ·rw [← Int.natCast_add,Int.toNat_natCast,List.map_set];rfl
 cases e with
 | none=>exact set_ fun d hd=>by rw [he] at hd;cases hd
 | some d =>
  refine attr_s A.obj rfl rfl (idxL_s (x:=.int d) A.cst ?_ (or_s dI (fun hlt=>?_) fun hge=>?_))
  ·rw [← Int.natCast_add];exact nth_map (f:=encC) he
  ·exact set_ fun d' hd=>by rw [he] at hd;rw [← Option.some.inj (Option.some.inj hd)];exact hlt
  ·exact hP st cs ss (by unfold off;dsimp only;rw [hc];exact (if_neg fun h=>hge (lessC_iff.mp h d he)).symm) A (W.leave hc he (Int.not_lt.mp hge)) (Fra.refl _ _)
theorem slcRev_s {a:Addr} {l:List V} (h:st a=some (.list l)) (p:∀ q s,st q=none→Ext st s→s q=some (.list l.reverse)→P (.ref q) s):slcW (.ref a) .none .none (.int (-1)) st P:=by
 unfold slcW;exact ⟨rfl,rfl,rfl,a,l,rfl,h,new_s p⟩
theorem toldF_step {ss:List (Option Stp)} {f j:Nat} {x:Stp} (hj:0<j) (h:ss[j]?=some (some x)):toldF ss (f+1) j=toldF ss f (j-sz x)++[x]:=by
 show (if j=0 then [] else match ss[j]? with | some (some x)=>toldF ss f (j-sz x)++[x] | _=>[])=_
 rw [if_neg (Nat.ne_of_gt hj),h]
theorem sz_pos (x:Stp):1≤sz x:=by
 unfold sz
 split
 ·exact Nat.le_refl _
 ·rename_i h;exact Nat.pos_of_ne_zero h
theorem toldF_fuel {ss:List (Option Stp)}:∀ {f g j:Nat},j≤f→j≤g→toldF ss f j=toldF ss g j
 | 0,0,j,_,_=>rfl
 | 0,g+1,j,h,_=>by rw [Nat.le_zero.mp h];rfl
 | f+1,0,j,_,h=>by rw [Nat.le_zero.mp h];rfl
 | f+1,g+1,j,h1,h2=>by
  unfold toldF
  by_cases hj:j=0
  ·rw [if_pos hj,if_pos hj]
  ·rw [if_neg hj,if_neg hj]
   split
   ·rename_i x hx
    have:=sz_pos x
    rw [toldF_fuel (f:=f) (g:=g) (j:=j-sz x) (by exact oz446 this h1) (by exact oz446 this h2)]
   ·rfl
theorem c25 (F:Fns C) {wy ca sa:Addr} {t:List Nat} {w ch start n:Nat} {pr:Stp→Int} {cs:List (Option Int)} {ss:List (Option Stp)} (A:WyAt st wy ca sa n cs ss) (W:Wy t w ch pr start n n [] cs ss) (hn:n≤1000)
  (hP:∀ a s,st a=none→Ext st s→s a=some (.list ((toldF ss n n).map stp))→Pth t w ch start (toldF ss n n)→cs[n]?=some (some ((toldF ss n n).map pr).sum)→P (.ref a) s):CallF C (k+2) 25 [.ref wy] st P:=by
 refine call0 F 25 (by decide) rfl ⟨Nat.zero_le _,new_s fun q1 s1 hq1 x1 g1=>attr_s (x1 _ _ A.obj) rfl rfl ⟨Nat.le_of_ble_eq_true rfl,rfl,?_⟩⟩
 refine while_s (fun y:Nat×List Stp=>[some (.ref wy),some (.ref q1),some (.int y.1)]) (fun y s=>Ext st s∧s q1=some (.list (y.2.map stp))∧Pth t w ch (start+y.1) y.2.reverse∧y.1≤n∧y.2.length+y.1≤n∧∃ cj cn,cs[y.1]?=some (some cj)∧cs[n]?=some (some cn)∧(y.2.reverse.map pr).sum+cj=cn∧∀ f,y.1≤f→toldF ss f y.1++y.2.reverse=toldF ss n n) (fun y=>y.1) (n,[]) rfl
  ⟨x1,g1,W.hn,Nat.le_refl _,by show 0+n≤n;exact oz447,by obtain ⟨c,hc⟩:=W.cur;exact ⟨c,c,hc,hc,Int.zero_add c,fun f hf=>by rw [toldF_fuel (f:=f) (g:=n) hf (Nat.le_refl _)];exact List.append_nil _⟩⟩ ?_
 intro zr0 s N zr1 hN
 obtain ⟨j,acc⟩:=zr0
 have j1:=zr1.1;have j2:=zr1.2.1;have j3:=zr1.2.2.1;have j4:=zr1.2.2.2.1;have j5:=zr1.2.2.2.2.1;refine ex2 zr1.2.2.2.2.2 fun cj cn zq0=>?_;have j6:=zq0.1;have j7:=zq0.2.1;have j8:=zq0.2.2.1;have j9:=zq0.2.2.2;clear zq0 zr1
 have j2:s q1=some (.list (acc.map stp)):=j2
 have j4:j≤n:=j4
 have j5:acc.length+j≤n:=j5
 have j8:(acc.reverse.map pr).sum+cj=cn:=j8
 refine ite_s dI (fun hgt=>?_) fun hle=>?_
 ·have hgt:0<j:=Int.ofNat_lt.mp hgt
  refine ex3 (W.back j cj hgt j6) fun x i ci zq0=>?_;have b1:=zq0.1;have b2:=zq0.2.1;have b3:=zq0.2.2.1;have b4:=zq0.2.2.2.1;have b5:=zq0.2.2.2.2.1;have b6:=zq0.2.2.2.2.2;clear zq0
  have A':=A.ext j1
  have hs:nth (ss.map encS) (j:Int)=some (stp x):=nth_map (f:=encS) b1
  refine isLs_s j2 (attr_s A'.obj rfl rfl (idxL_s A'.stp hs (append_s j2 (by rw [List.length_map];exact oz448 j5 hn) fun s2 u2=>?_)))
  have nq:∀ {x:Addr} {o:O},st x=some o→x≠q1:=fun h=>Ext.ne h hq1 (s':=st)
  refine attr_s (u2.ne _ _ (nq A.obj) A'.obj) rfl rfl (idxL_s (u2.ne _ _ (nq A.stp) A'.stp) hs (c18 F ?_))
  have z:=sz_pos x
  show N [some (.ref wy),some (.ref q1),some (.int ((j:Int)-sz x))] s2
  rw [show (j:Int)-sz x=(i:Int) by exact oz449 b2]
  refine hN (i,acc++[x]) s2 ⟨u2.ext hq1 j1,by rw [u2.at_,List.map_append];rfl,?_,by show i≤n;exact oz450 b2 j4,by show (acc++[x]).length+i≤n;rw [List.length_append,List.length_singleton];exact oz451 b2 j5 z,ci,cn,b5,j7,?_,fun f hf=>?_⟩ (by show i<j;exact oz452 b2 z)
  ·rw [List.reverse_append]
   exact ⟨by have:=W.hn;show start+i<_;exact oz453 b2 this z j4,b4,by rw [Nat.add_assoc,b2];exact j3⟩
  ·rw [List.reverse_append,← j8,b6]
   show pr x+(acc.reverse.map pr).sum+ci=_
   exact oz454
  ·have h9:=j9 (j+f) (Nat.le_add_right ..)
   rw [← h9]
   show toldF ss f i++(acc++[x]).reverse=toldF ss (j+f) j++acc.reverse
   rw [List.reverse_append,show j+f=(j+f-1)+1 by exact oz455 hgt,toldF_step hgt b1,show j-sz x=i by exact oz456 b2,List.append_assoc,toldF_fuel (f:=f) (g:=j+f-1) hf (by exact oz457 b2 z)];rfl
 ·obtain rfl:j=0:=Nat.eq_zero_of_not_pos fun q=>hle (Int.ofNat_lt.mpr q)
  refine slcRev_s j2 fun q2 s2 hq2 x2 g2=>?_
  have h9:acc.reverse=toldF ss n n:=j9 0 (Nat.le_refl _)
  rw [h9] at j3 j8
  refine hP q2 s2 (j1.no hq2) (j1.trans x2) (by rw [g2,← List.map_reverse,h9]) j3 ?_
  rw [W.zero] at j6
  have:(0:Int)=cj:=Option.some.inj (Option.some.inj j6)
  rw [j7,← j8,← this,Int.add_zero]
end
section
variable {C:Cx} {st:St} {k:Nat} {P:V→St→Prop}
structure E26 where
 tr:Addr
 wy:Addr
 ca:Addr
 sa:Addr
 f:Addr
 r:Addr
 d:Addr
 b:Addr
 p:Bp
noncomputable def E26.ta (e:E26):List Addr:=[e.tr,e.f,e.r,e.d,e.b]
noncomputable def E26.wa (e:E26):List Addr:=[e.wy,e.ca,e.sa]
structure J26 (s0 s:St) (e:E26) (t:List Nat) (w ch start n:Nat) (i0 i1 i2:List Int) (m at_:Nat) (done:List Stp) (cs:List (Option Int)) (ss:List (Option Stp)):Prop where
 tr:TrAt s e.tr e.f e.r e.d e.b t w ch m
 wy:WyAt s e.wy e.ca e.sa n cs ss
 W:Wy t w ch (prc i0 i1 i2) start n at_ done cs ss
 bp:BpAt s e.p i0 i1 i2
 fra:Fra [e.f,e.d,e.b,e.p.e1,e.p.e2] s0 s
structure D26 (s0:St) (e:E26):Prop where
 tw:Dis e.ta e.wa
 tb:Dis e.ta e.p.adr
 wb:Dis e.wa e.p.adr
 cs:e.ca≠e.sa
 ap:Apart e.f e.r e.d e.b e.tr
 no:s0 e.tr=none∧s0 e.wy=none∧s0 e.ca=none∧s0 e.sa=none
theorem D26.fra {s0 s s':St} {e:E26} (D:D26 s0 e) {L:List Addr} (f:Fra [e.f,e.d,e.b,e.p.e1,e.p.e2] s0 s) (g:Fra L s s') (h:∀ x∈L,x∈[e.tr,e.wy,e.ca,e.sa]∨x∈[e.f,e.d,e.b,e.p.e1,e.p.e2]):Fra [e.f,e.d,e.b,e.p.e1,e.p.e2] s0 s':=fun x o n hx=>g x o (fun hm=>by
 rcases h x hm with q | q
 ·have zq0:=D.no;have h1:=zq0.1;have h2:=zq0.2.1;have h3:=zq0.2.2.1;have h4:=zq0.2.2.2;clear zq0
  simp only [List.mem_cons,List.not_mem_nil,or_false] at q
  rcases q with rfl | rfl | rfl | rfl
  ·rw [h1] at hx;cases hx
  ·rw [h2] at hx;cases hx
  ·rw [h3] at hx;cases hx
  ·rw [h4] at hx;cases hx
 ·exact n q) (f x o n hx)
theorem offer26 (F:Fns C) {s0 s:St} {e:E26} {t:List Nat} {w ch start n m at_:Nat} {i0 i1 i2:List Int} {done:List Stp} {cs:List (Option Int)} {ss:List (Option Stp)} {x:Stp} {q:Int} {Q:V→St→Prop} (D:D26 s0 e) (J:J26 s0 s e t w ch start n i0 i1 i2 m at_ done cs ss) (hx:x∈edg t w ch (start+at_)) (hl:at_<n) (hn:n≤1000) (hq:q=prc i0 i1 i2 x)
  (hP:∀ s' cs' ss',(cs',ss')=off (prc i0 i1 i2) at_ (cs,ss) x→J26 s0 s' e t w ch start n i0 i1 i2 m at_ (done++[x]) cs' ss'→Fra e.wa s s'→Q .none s'):CallF C (k+2) 24 [.ref e.wy,.int at_,stp x,.int q] s Q :=
 c24 F J.wy D.cs J.W hx hl hn hq fun s' cs' ss' he A' W' f=>by
  have f':Fra e.wa s s':=f.wide fun y hy=>List.mem_cons_of_mem _ hy
  exact hP s' cs' ss' he ⟨J.tr.keepF f' D.tw,A',W',J.bp.keepF f' D.wb.symm,D.fra J.fra f fun y hy=>.inl (List.mem_cons_of_mem _ (List.mem_cons_of_mem _ hy))⟩ f'
structure S26 where
 at_:Nat
 m:Nat
 cs:List (Option Int)
 ss:List (Option Stp)
 v9:Option V
 v10:Option V
 v11:Option V
 v12:Option V
 v13:Option V
 v14:Option V
noncomputable def L26 (t:List Nat) (start:Nat) (most:Int) (e:E26) (a:Nat) (v9 v10 v11 v12 v13 v14:Option V):Ls:=[some (.bytes t),some (.int start),some (.ref e.f),some (.int most),some (.ref e.p.p),some .none,some (.ref e.tr),some (.ref e.wy),some (.int a),v9,v10,v11,v12,v13,v14]
theorem prc_lit (i0 i1 i2:List Int) (o:Nat):min 128 (cst i0 96 o)=prc i0 i1 i2 (0,o):=(if_pos rfl).symm
theorem prc_mat (i0 i1 i2:List Int) {l d:Nat} (h:3≤l):g1 i1 l+g2 i2 d+32=prc i0 i1 i2 (l,d):=by
 unfold g1 g2 prc;rw [if_neg (by show l≠0;exact oz458 h)];dsimp only;exact oz420
theorem parts26 (F:Fns C) {s0 s:St} {e:E26} {t:List Nat} {w ch start n m at_:Nat} {i0 i1 i2:List Int} {done rest:List Stp} {cs:List (Option Int)} {ss:List (Option Stp)} {most:Int} {mt:Stp} {v9 v10 v11 v14:Option V} {R:Fl→Ls→St→Prop} (D:D26 s0 e) (J:J26 s0 s e t w ch start n i0 i1 i2 m at_ done cs ss) (hl:at_<n) (hn:t.length<35)
  (hmt:mt∈evy t w ch (start+at_)) (he:done++((List.range (mt.1-2)).map fun i=>(3+i,mt.2))++rest=edg t w ch (start+at_)) {a10:Addr} {l10:List V} (h10:s a10=some (.list l10)) (n10:a10∉e.wa∧a10∉e.p.adr)
  (hR:∀ s' cs' ss' v,(cs',ss')=((List.range (mt.1-2)).map fun i=>(3+i,mt.2)).foldl (off (prc i0 i1 i2) at_) (cs,ss)→J26 s0 s' e t w ch start n i0 i1 i2 m at_ (done++((List.range (mt.1-2)).map fun i=>(3+i,mt.2))) cs' ss'→s' a10=some (.list l10)→R .next (L26 t start most e at_ v9 v10 v11 (some (.int mt.1)) (some (.int mt.2)) v) s') :
  wpS (CallF C (k+3)) (match ir26 with | [_,_,.whl _ [_,_,_,.for_ _ _ _ [b],_,_,_],_]=>b | _=>.pass) (L26 t start most e at_ v9 v10 v11 (some (.int mt.1)) (some (.int mt.2)) v14) s R:=by
 have zq0:=evy_ok hmt;have e1:=zq0.1.1;have e2:=zq0.1.2;have e3:=zq0.2.1;have e4:=zq0.2.2;clear zq0
 have hale:=alk_le t (start+at_) mt.2
 have hW:=J.W.hn
 refine attr_s J.tr.obj rfl rfl ⟨by decide,by show ((mt.1:Int)+1).natAbs<2^60;exact oz459 hn e4 hale,?_⟩
 refine for_f (fun v:Option V×List (Option Int)×List (Option Stp)×List Stp=>L26 t start most e at_ v9 v10 v11 (some (.int mt.1)) (some (.int mt.2)) v.1) (fun (i:Nat)=>.int (3+(i:Int))) (List.range (mt.1-2)) (fun _=>True)
  (fun r v s'=>J26 s0 s' e t w ch start n i0 i1 i2 m at_ v.2.2.2 v.2.1 v.2.2.1∧s' a10=some (.list l10)∧v.2.2.2++(r.map fun i=>(3+i,mt.2))=done++((List.range (mt.1-2)).map fun i=>(3+i,mt.2))∧(∀ i∈r,i<mt.1-2)∧(r.map fun i=>(3+i,mt.2)).foldl (off (prc i0 i1 i2) at_) (v.2.1,v.2.2.1)=((List.range (mt.1-2)).map fun i=>(3+i,mt.2)).foldl (off (prc i0 i1 i2) at_) (cs,ss)) (v14,cs,ss,done)
  (by have:=iterR (st:=s) (a:=3) (b:=(mt.1:Int)+1) (by decide) (by exact oz459 hn e4 hale);rw [show ((mt.1:Int)+1-3).toNat=mt.1-2 by exact oz460] at this;exact this) rfl ⟨J,h10,rfl,fun i hi=>List.mem_range.mp hi,rfl⟩ ?_ ?_
 ·intro i r zr0 s1 N zr1 hN
  obtain ⟨v,cs1,ss1,dn⟩:=zr0
  have J1:=zr1.1;have h1:=zr1.2.1;have q1:=zr1.2.2.1;have q2:=zr1.2.2.2.1;have q3:=zr1.2.2.2.2;clear zr1
  have J1:J26 s0 s1 e t w ch start n i0 i1 i2 m at_ dn cs1 ss1:=J1
  have q1:dn++((i::r).map fun i=>(3+i,mt.2))=_:=q1
  have hi:=q2 i (List.mem_cons_self ..)
  have hx:(3+i,mt.2)∈edg t w ch (start+at_):=by rw [← he,← q1];simp
  refine ⟨trivial,meth_s J1.wy.obj rfl ⟨Nat.le_of_ble_eq_true rfl,meth_s J1.bp.obj rfl ?_⟩⟩
  show CallF C (k+3) 42 [.ref e.p.p,.int (3+(i:Int)),.int mt.2] s1 _
  rw [show (3+(i:Int))=((3+i:Nat):Int) by exact oz461]
  refine c42 F J1.bp (Nat.le_add_right ..) (by exact oz462 hi e4 hale hn) e1 (by exact oz463 hn e2 e3 e4 hale) fun s2 B2 f2=>?_
  have f2':Fra e.p.adr s1 s2:=f2.wide fun y hy=>by unfold Bp.adr;simp only [List.mem_cons,List.not_mem_nil,or_false] at hy ⊢;rcases hy with h | h <;> simp [h]
  have J2:J26 s0 s2 e t w ch start n i0 i1 i2 m at_ dn cs1 ss1:=⟨J1.tr.keepF f2' D.tb,J1.wy.keepF f2' D.wb,J1.W,B2,J1.fra.trans (f2.wide fun y hy=>by simp only [List.mem_cons,List.not_mem_nil,or_false] at hy ⊢;rcases hy with h | h <;> simp [h])⟩
  show CallF C (k+3) 24 [.ref e.wy,.int at_,.tup [.int (3+(i:Int)),.int mt.2],.int _] s2 _
  rw [show (3+(i:Int))=((3+i:Nat):Int) by exact oz461]
  exact offer26 (x:=(3+i,mt.2)) F D J2 hx hl (by exact oz464 hW hn) (prc_mat i0 i1 i2 (Nat.le_add_right ..)) fun s3 cs3 ss3 he3 J3 f3=>hN (some (.int (3+(i:Int))),cs3,ss3,dn++[(3+i,mt.2)]) s3 ⟨J3,f3 _ _ n10.1 (f2' _ _ n10.2 h1),by rw [← q1,List.append_assoc];rfl,fun y hy=>q2 y (List.mem_cons_of_mem _ hy),by rw [← q3];show List.foldl _ (cs3,ss3) _=List.foldl _ (off _ _ (cs1,ss1) _) _;rw [he3]⟩
 ·intro zr2 s1 zr3
  obtain ⟨v,cs1,ss1,dn⟩:=zr2
  have J1:=zr3.1;have h1:=zr3.2.1;have q1:=zr3.2.2.1;have q2:=zr3.2.2.2.1;have q3:=zr3.2.2.2.2;clear zr3
  have q1:dn++[]=_:=q1
  rw [List.append_nil] at q1
  subst q1
  exact ⟨trivial,hR s1 cs1 ss1 v q3 J1 h1⟩
end
theorem Dis.of {A B:List Addr} {s:St} (ha:∀ x∈A,s x≠none) (hb:∀ y∈B,s y=none):Dis A B:=fun x hx hy=>ha x hx (hb x hy)
section
variable {C:Cx} {st:St} {k:Nat} {P:V→St→Prop}
theorem BpAt.there {b:Bp} {i0 i1 i2:List Int} (B:BpAt st b i0 i1 i2):∀ x∈b.adr,st x≠none:=by
 refine ex2 (B.h0.ex) fun _ _ zq0=>?_;have h0:=zq0.1;clear zq0
 refine ex2 (B.h1.ex) fun _ _ zq0=>?_;have h1:=zq0.1;clear zq0
 refine ex2 (B.h2.ex) fun _ _ zq0=>?_;have h2:=zq0.1;clear zq0
 refine ex2 (B.c1) fun _ _ zq0=>?_;have h3:=zq0.1;clear zq0
 refine ex2 (B.c2) fun _ _ zq0=>?_;have h4:=zq0.1;clear zq0
 intro x hx
 unfold Bp.adr at hx
 simp only [List.mem_cons,List.not_mem_nil,or_false] at hx
 rcases hx with rfl | rfl | rfl | rfl | rfl | rfl
 ·rw [B.obj];exact Option.some_ne_none _
 ·rw [h0];exact Option.some_ne_none _
 ·rw [h1];exact Option.some_ne_none _
 ·rw [h2];exact Option.some_ne_none _
 ·rw [h3];exact Option.some_ne_none _
 ·rw [h4];exact Option.some_ne_none _
theorem FinAt.there {f r d b:Addr} {t:List Nat} {w c m:Nat} (R:FinAt st f r d b t w c m):∀ x∈[f,r,d,b],st x≠none:=by
 obtain ⟨h1,h2,⟨_,_,h3,_⟩,⟨_,h4,_⟩⟩:=R
 intro x hx
 simp only [List.mem_cons,List.not_mem_nil,or_false] at hx
 rcases hx with rfl | rfl | rfl | rfl
 ·rw [h1];exact Option.some_ne_none _
 ·rw [h2];exact Option.some_ne_none _
 ·rw [h3];exact Option.some_ne_none _
 ·rw [h4];exact Option.some_ne_none _
theorem Ext.there {s s':St} (e:Ext s s') {A:List Addr} (h:∀ x∈A,s x≠none):∀ x∈A,s' x≠none:=fun x hx q=>h x hx (e.no q)
noncomputable def stA (t:List Nat) (w ch start n:Nat) (pr:Stp→Int):Nat→List (Option Int)×List (Option Stp)
 | 0=>(some 0::List.replicate n none,List.replicate (n+1) none)
 | a+1=>(edg t w ch (start+a)).foldl (off pr a) (stA t w ch start n pr a)
noncomputable def lstF (t:List Nat) (w ch start:Nat) (pr:Stp→Int):List Stp:=toldF (stA t w ch start (t.length-start) pr (t.length-start)).2 (t.length-start) (t.length-start)
theorem c26 (F:Fns C) {f r d b:Addr} {p:Bp} {t:List Nat} {w ch start:Nat} {most:Int} {i0 i1 i2:List Int} (ht:∀ x∈t,x<256) (hn:t.length<35) (hs:start≤t.length) (hm:(t.length:Int)-start≤most) (R:FinAt st f r d b t w ch 0) (B:BpAt st p i0 i1 i2) (hd:Dis [f,r,d,b] p.adr)
  (hP:∀ a s,st a=none→Fra [f,d,b,p.e1,p.e2] st s→s a=some (.list ((lstF t w ch start (prc i0 i1 i2)).map stp))→Pth t w ch start (lstF t w ch start (prc i0 i1 i2))→(∀ l',Pth t w ch start l'→((lstF t w ch start (prc i0 i1 i2)).map (prc i0 i1 i2)).sum≤(l'.map (prc i0 i1 i2)).sum)→P (.ref a) s):CallF C (k+7) 26 [.bytes t,.int start,.ref f,.int most,.ref p.p] st P:=by
 refine callD F.ok F.fn26 rfl (c17 F hs (by exact oz465 hm hs) (mkTr F R fun tr s1 htr x1 T1=>?_))
 have e1:((t.length:Int)-start)=((t.length-start:Nat):Int):=by exact oz466 hs
 show makeW (CallF C (k+6)) 3 [.int ((t.length:Int)-start)] s1 _
 rw [e1]
 refine mkWy F (by exact oz467 hn) fun wy ca sa s2 hwy hca hsa hcs x2 A2=>⟨Nat.le_of_ble_eq_true rfl,rfl,?_⟩
 unfold lstF at hP
 generalize hN:t.length-start=n at *
 let e:E26:=⟨tr,wy,ca,sa,f,r,d,b,p⟩
 have B1:=B.ext x1
 have ta1:∀ x∈e.ta,s1 x≠none:=fun x hx=>by
  rcases List.mem_cons.mp hx with h | hx
  ·rw [show x=tr from h,T1.obj];exact Option.some_ne_none _
  ·exact T1.fin.there x hx
 have wn:∀ y∈e.wa,s1 y=none:=fun y hy=>by
  simp only [E26.wa,List.mem_cons,List.not_mem_nil,or_false] at hy
  rcases hy with h | h | h
  ·exact h▸hwy
  ·exact h▸hca
  ·exact h▸hsa
 have D:D26 st e:=⟨.of ta1 wn,fun x hx=>by
   rcases List.mem_cons.mp hx with h | hx
   ·exact fun hy=>B.there _ hy (show st x=none by rw [show x=tr from h];exact htr)
   ·exact hd x hx,(Dis.of B1.there wn).symm,hcs,R.apart htr,htr,x1.no hwy,x1.no hca,x1.no hsa⟩
 refine while_s (fun y:S26=>L26 t start most e y.at_ y.v9 y.v10 y.v11 y.v12 y.v13 y.v14) (fun y s=>J26 st s e t w ch start n i0 i1 i2 y.m y.at_ [] y.cs y.ss∧y.m≤start+y.at_∧y.at_≤n∧(y.cs,y.ss)=stA t w ch start n (prc i0 i1 i2) y.at_) (fun y=>n-y.at_) ⟨0,0,_,_,none,none,none,none,none,none⟩ rfl
  ⟨⟨T1.ext x2,A2,Wy.start (by exact oz468 hN hs),B1.ext x2,(x1.trans x2).fra⟩,Nat.zero_le _,Nat.zero_le _,rfl⟩ ?_
 intro zr0 s N zr1 hN'
 obtain ⟨at_,m,cs,ss,v9,v10,v11,v12,v13,v14⟩:=zr0
 have J:=zr1.1;have jm:=zr1.2.1;have ja:=zr1.2.2.1;have je:=zr1.2.2.2;clear zr1
 have J:J26 st s e t w ch start n i0 i1 i2 m at_ [] cs ss:=J
 have jm:m≤start+at_:=jm
 have ja:at_≤n:=ja
 have je:(cs,ss)=stA t w ch start n (prc i0 i1 i2) at_:=je
 refine attr_s J.wy.obj rfl rfl (ite_s dI (fun hlt=>?_) fun hge=>?_)
 ·have hlt:at_<n:=Int.ofNat_lt.mp hlt
  have hpl:start+at_<t.length:=by exact oz469 hN hlt
  refine meth_s J.tr.obj rfl ?_
  show CallF C (k+6) 21 [.ref tr,.int ((start:Int)+at_),.int most] s _
  rw [show (start:Int)+at_=((start+at_:Nat):Int) from rfl]
  refine c21 F ht (by exact oz470 hn) D.ap J.tr jm (Nat.le_of_lt hpl) (by exact oz471 hm) fun a10 s3 ha10 T3 f3 g3=>?_
  have f3':Fra e.ta s s3:=f3.wide fun y hy=>by unfold E26.ta;simp only [List.mem_cons,List.not_mem_nil,or_false] at hy ⊢;rcases hy with h | h | h | h <;> simp [h,e]
  have J3:J26 st s3 e t w ch start n i0 i1 i2 (start+at_) at_ [] cs ss:=⟨T3,J.wy.keepF f3' D.tw.symm,J.W,J.bp.keepF f3' D.tb.symm,D.fra J.fra f3 fun y hy=>by simp only [List.mem_cons,List.not_mem_nil,or_false] at hy ⊢;rcases hy with h | h | h | h <;> simp [h,e]⟩
  have n10:a10∉e.wa∧a10∉e.p.adr:=by
   refine ⟨fun hy=>?_,fun hy=>J.bp.there _ hy ha10⟩
   simp only [E26.wa,List.mem_cons,List.not_mem_nil,or_false] at hy
   rcases hy with h | h | h
   ·rw [show a10=wy from h,show s wy=_ from J.wy.obj] at ha10;cases ha10
   ·rw [show a10=ca from h,show s ca=_ from J.wy.cst] at ha10;cases ha10
   ·rw [show a10=sa from h,show s sa=_ from J.wy.stp] at ha10;cases ha10
  have hg:t[((start:Int)+at_).toNat]?=some (t.getD (start+at_) 0):=by
   show t[start+at_]?=_
   rw [List.getD_eq_getElem?_getD,List.getElem?_eq_getElem hpl];rfl
  refine meth_s J3.wy.obj rfl ⟨_,Int.natCast_nonneg _,hg,Nat.le_of_ble_eq_true rfl,meth_s J3.bp.obj rfl ⟨_,Int.natCast_nonneg _,hg,c41 F J3.bp ?_⟩⟩
  refine offer26 (x:=(0,t.getD (start+at_) 0)) F D J3 (List.mem_cons_self ..) hlt (by exact oz472 hN hn) (prc_lit ..) fun s4 cs4 ss4 he4 J4 f4=>?_
  have g4:=f4 _ _ n10.1 g3
  refine for_f (fun v:Option V×Option V×Option V×Nat×List (Option Int)×List (Option Stp)×List Stp=>L26 t start most e at_ (some (.int ((start:Int)+at_))) (some (.ref a10)) v11 v.1 v.2.1 v.2.2.1) stp (evy t w ch (start+at_)) _
   (fun rr v s'=>J26 st s' e t w ch start n i0 i1 i2 (start+at_) at_ v.2.2.2.2.2.2 v.2.2.2.2.1 v.2.2.2.2.2.1∧s' a10=some (.list ((evy t w ch (start+at_)).map stp))∧v.2.2.2.2.2.2++rr.flatMap (fun m=>(List.range (m.1-2)).map fun i=>(3+i,m.2))=edg t w ch (start+at_)∧(∀ x∈rr,x∈evy t w ch (start+at_))∧(rr.flatMap (fun m=>(List.range (m.1-2)).map fun i=>(3+i,m.2))).foldl (off (prc i0 i1 i2) at_) (v.2.2.2.2.1,v.2.2.2.2.2.1)=stA t w ch start n (prc i0 i1 i2) (at_+1))
   (v12,v13,v14,0,cs4,ss4,[(0,t.getD (start+at_) 0)]) (iterL g4) rfl ⟨J4,g4,rfl,fun _ h=>h,?_⟩ ?_ ?_
  ·show List.foldl _ (cs4,ss4) _=List.foldl _ (stA t w ch start n (prc i0 i1 i2) at_) ((0,_)::_)
   rw [he4,je];rfl
  ·intro x rr zr2 s5 N5 zr3 hN5
   obtain ⟨w12,w13,w14,_,cs5,ss5,dn⟩:=zr2
   have J5:=zr3.1;have h5:=zr3.2.1;have q1:=zr3.2.2.1;have q2:=zr3.2.2.2.1;have q3:=zr3.2.2.2.2;clear zr3
   have q1:dn++(x::rr).flatMap _=_:=q1
   rw [List.flatMap_cons,← List.append_assoc] at q1
   exact ⟨h5,_,rfl,parts26 (k:=k+3) F D J5 hlt hn (q2 x (List.mem_cons_self ..)) q1 h5 n10 fun s6 cs6 ss6 v6 he6 J6 h6=>hN5 (some (.int x.1),some (.int x.2),v6,0,cs6,ss6,_) s6 ⟨J6,h6,q1,fun y hy=>q2 y (List.mem_cons_of_mem _ hy),by rw [← q3,List.flatMap_cons,List.foldl_append];show List.foldl _ (cs6,ss6) _=_;rw [he6]⟩⟩
  ·intro zr4 s5 zr5
   obtain ⟨w12,w13,w14,_,cs5,ss5,dn⟩:=zr4
   have J5:=zr5.1;have h5:=zr5.2.1;have q1:=zr5.2.2.1;have q2:=zr5.2.2.2.1;have q3:=zr5.2.2.2.2;clear zr5
   have q1:dn++[]=_:=q1
   rw [List.append_nil] at q1
   subst q1
   exact ⟨h5,hN' ⟨at_+1,start+at_,cs5,ss5,_,_,_,w12,w13,w14⟩ s5 ⟨⟨J5.tr,J5.wy,J5.W.next,J5.bp,J5.fra⟩,by show start+at_≤start+(at_+1);exact oz473,hlt,q3⟩ (by show n-(at_+1)<n-at_;exact oz235 hlt)⟩
 ·obtain rfl:at_=n:=Nat.le_antisymm ja (Int.ofNat_le.mp (Int.not_lt.mp hge))
  refine meth_s J.wy.obj rfl (c25 F J.wy J.W (by exact oz472 hN hn) fun a s' ha x g hp hc=>?_)
  have ha0:st a=none:=by
   cases q:st a with
   | none=>rfl
   | some o =>
    by_cases hm':a∈[f,d,b,p.e1,p.e2]
    ·have:s a≠none:=by
      simp only [List.mem_cons,List.not_mem_nil,or_false] at hm'
      rcases hm' with h | h | h | h | h
      ·exact J.tr.fin.there a (by simp [h,e])
      ·exact J.tr.fin.there a (by simp [h,e])
      ·exact J.tr.fin.there a (by simp [h,e])
      ·exact J.bp.there a (by unfold Bp.adr;simp [h,e])
      ·exact J.bp.there a (by unfold Bp.adr;simp [h,e])
     exact absurd ha this
    ·rw [J.fra a o hm' q] at ha;cases ha
  rw [← je] at hP
  refine hP a s' ha0 (J.fra.trans x.fra) g hp fun l' hl'=>?_
  have:=J.W.low hc (l:=l') (i:=0) (ci:=0) hl' J.W.zero
  rw [Int.zero_add] at this
  exact this
end
noncomputable def IsMin (t:List Nat) (w ch:Nat) (pr:Stp→Int) (p:Nat) (v:Int):Prop:=(∃ l,Pth t w ch p l∧(l.map pr).sum=v)∧∀ l,Pth t w ch p l→v≤(l.map pr).sum
theorem isMin_end {t:List Nat} {w ch:Nat} {pr:Stp→Int}:IsMin t w ch pr t.length 0:=⟨⟨[],rfl,rfl⟩,fun l h=>by
 cases l with
 | nil=>exact Int.le_refl _
 | cons x r=>exact absurd h.1 (Nat.lt_irrefl _)⟩
theorem isMin_step {t:List Nat} {w ch:Nat} {pr v:Stp→Int} {p:Nat} {m:Int} (hp:p<t.length) (h:∀ x∈edg t w ch p,IsMin t w ch pr (p+sz x) (v x)) (hm:m∈(edg t w ch p).map fun x=>pr x+v x) (hle:∀ y∈(edg t w ch p).map fun x=>pr x+v x,m≤y):IsMin t w ch pr p m:=by
 constructor
 ·refine ex1 (List.mem_map.mp hm) fun x zq0=>?_;have hx:=zq0.1;obtain rfl:=zq0.2;clear zq0
  have zq0:=h x hx;refine ex1 zq0.1 fun l zq1=>?_;have h1:=zq1.1;have h2:=zq1.2;clear zq1 zq0
  exact ⟨x::l,⟨hp,hx,h1⟩,by rw [List.map_cons,List.sum_cons,h2]⟩
 ·intro l hl
  cases l with
  | nil=>exact absurd hl (Nat.ne_of_lt hp)
  | cons x r =>
   rw [List.map_cons,List.sum_cons]
   exact Int.le_trans (hle _ (List.mem_map.mpr ⟨x,hl.2.1,rfl⟩)) (Int.add_le_add_left ((h x hl.2.1).2 r hl.2.2) _)
noncomputable def lkp (ms:List (Int×Int)) (i:Nat):Int:=(ms.lookup (i:Int)).getD 0
section
variable {C:Cx} {st:St} {k:Nat} {P:V→St→Prop}
theorem min_s {a:Addr} {ns:List Int} (h:st a=some (.list (ns.map .int))) (hn:ns≠[]) (p:∀ m∈ns,(∀ x∈ns,m≤x)→P (.int m) st):minR a st P:=by
 unfold minR;rw [h];exact ⟨ns,intsOf_map ns,hn,p⟩
structure J61 (st s:St) (cd:Addr) (v:V) (i0 i1 i2:List Int) (t:List Nat) (w ch p:Nat) (ms:List (Int×Int)) (n:Nat):Prop where
 ext:Ext st s
 dic:s cd=some (.dict (encD ms) n)
 len:ms.length+p≤t.length+1
 ok:∀ i,p≤i→i≤t.length→∃ x,ms.lookup (i:Int)=some x∧IsMin t w ch (prc i0 i1 i2) i x
theorem edg_len {t:List Nat} {w ch p:Nat} (hn:t.length<35):(edg t w ch p).length<1000000:=by
 have h1:∀ l:List Stp,(∀ m∈l,m.1≤35)→(l.flatMap fun m=>(List.range (m.1-2)).map fun i=>(3+i,m.2)).length≤35*l.length:=by
  intro l
  induction l with
  | nil=>intro _;exact Nat.le_refl _
  | cons x r ih =>
   intro h
   rw [List.flatMap_cons,List.length_append,List.length_map,List.length_range,List.length_cons]
   have:=ih fun m hm=>h m (List.mem_cons_of_mem _ hm)
   have:=h x (List.mem_cons_self ..)
   exact oz474 ‹_› this
 have h2:=h1 (evy t w ch p) fun m hm=>by
  have:=(evy_ok hm).2.2
  have:=alk_le t p m.2
  exact oz475 hn ‹_› this
 have h3:∀ (ds:List Nat) L,(recs t p ds L).length≤ds.length:=by
  intro ds
  induction ds with
  | nil=>intro L;exact Nat.le_refl _
  | cons d r ih =>
   intro L
   unfold recs
   split
   ·exact Nat.succ_le_succ (ih _)
   ·exact Nat.le_succ_of_le (ih _)
 by_cases hp:p+3≤t.length
 ·have h4:(evy t w ch p).length≤p:=by
   refine Nat.le_trans (h3 _ _) ?_
   rw [List.length_take]
   have:=dst_len t p (min p w)
   exact oz476 this
  exact Nat.lt_of_le_of_lt (Nat.succ_le_succ (Nat.le_trans h2 (Nat.mul_le_mul_left 35 (Nat.le_trans h4 (show p≤35 by exact oz477 hp hn))))) (by decide)
 ·have h4:evy t w ch p=[]:=by unfold evy;rw [dst_short hp,List.take_nil];rfl
  show (_::_).length<_
  rw [h4];exact (by decide:(1:Nat)<1000000)
theorem pre_len {t:List Nat} {w ch p:Nat} {dd:List Stp} {r s:List Stp} (hn:t.length<35) (h:dd++(r++s)=edg t w ch p):dd.length<1000000:=by
 refine Nat.lt_of_le_of_lt ?_ (edg_len (w:=w) (ch:=ch) (p:=p) hn)
 rw [← h,List.length_append];exact Nat.le_add_right ..
theorem ways61 (F:Fns C) {s:St} {cd a6:Addr} {v:V} {i0 i1 i2:List Int} {t:List Nat} {w ch start p n:Nat} {ra:Addr} {ms:List (Int×Int)} {v7 v8 v9:Option V} {R:Fl→Ls→St→Prop} (hn:t.length<35) (hp:p<t.length) (L:LpAt s v i0 i1 i2) (h6:s a6=some (.list ([prc i0 i1 i2 (0,t.getD p 0)+lkp ms (p+1)].map V.int)))
  (hd:s cd=some (.dict (encD ms) n)) (hms:∀ i,p<i→i≤t.length→∃ x,ms.lookup (i:Int)=some x) (RA:RowsAt s ra t w ch) (f6:st a6=none) (x6:Ext st s) (fc:a6≠cd) (fl:∀ s',(∀ x o,x≠a6→s x=some o→s' x=some o)→LpAt s' v i0 i1 i2∧RowsAt s' ra t w ch)
  (hR:∀ s' v7 v8 v9,(∀ x o,x≠a6→s x=some o→s' x=some o)→s' a6=some (.list (((edg t w ch p).map fun x=>prc i0 i1 i2 x+lkp ms (p+sz x)).map V.int))→R .next [some (.bytes t),some (.int start),some (.ref ra),some v,some (.ref cd),some (.int p),some (.ref a6),v7,v8,v9] s') :
  wpS (CallF C (k+2)) (match ir61 with | [_,.for_ _ _ _ [_,b,_],_]=>b | _=>.pass) [some (.bytes t),some (.int start),some (.ref ra),some v,some (.ref cd),some (.int p),some (.ref a6),v7,v8,v9] s R:=by
 refine ex1 RA fun as zq0=>?_;have r1:=zq0.1;have r2:=zq0.2.1;have r3:=zq0.2.2;clear zq0 RA
 have hpa:p<as.length:=r1▸hp
 have hra:=r3 p _ (List.getElem?_eq_getElem hpa)
 have n6:∀ {x:Addr} {o:O},s x=some o→o≠.list ([prc i0 i1 i2 (0,t.getD p 0)+lkp ms (p+1)].map V.int)→x≠a6:=fun h hne e=>by rw [e,h6] at h;exact hne (Option.some.inj h).symm
 have nrow:as[p]≠a6:=n6 hra (by
  intro e
  injection e with e
  cases q:evy t w ch p with
  | nil=>rw [q] at e;cases e
  | cons x r=>rw [q] at e;injection e with e _;cases e)
 refine idxL_s r2 (x:=.ref as[p]) (nth_map (f:=V.ref) (List.getElem?_eq_getElem hpa)) ?_
 refine for_f (fun y:(Option V×Option V×Option V)×List Stp=>[some (.bytes t),some (.int start),some (.ref ra),some v,some (.ref cd),some (.int p),some (.ref a6),y.1.1,y.1.2.1,y.1.2.2]) stp (evy t w ch p) _
  (fun rr y s'=>(∀ x o,x≠a6→s x=some o→s' x=some o)∧s' a6=some (.list ((y.2.map fun x=>prc i0 i1 i2 x+lkp ms (p+sz x)).map V.int))∧y.2++rr.flatMap (fun m=>(List.range (m.1-2)).map fun i=>(3+i,m.2))=edg t w ch p∧∀ x∈rr,x∈evy t w ch p)
  ((v7,v8,v9),[(0,t.getD p 0)]) (iterL hra) rfl ⟨fun _ _ _ h=>h,h6,rfl,fun _ h=>h⟩ ?_ ?_
 ·intro mt rr zr0 s1 N zr1 hN
  obtain ⟨⟨w7,w8,w9⟩,dn⟩:=zr0
  have j1:=zr1.1;have j2:=zr1.2.1;have j3:=zr1.2.2.1;have j4:=zr1.2.2.2;clear zr1
  have j3:dn++(mt::rr).flatMap _=edg t w ch p:=j3
  rw [List.flatMap_cons,← List.append_assoc] at j3
  have zq0:=evy_ok (j4 mt (List.mem_cons_self ..));have e1:=zq0.1.1;have e2:=zq0.1.2;have e3:=zq0.2.1;have e4:=zq0.2.2;clear zq0
  have hale:=alk_le t p mt.2
  refine ⟨j1 _ _ nrow hra,_,rfl,by decide,by show ((mt.1:Int)+1).natAbs<2^60;exact oz478 hn e4 hale,?_⟩
  refine for_f (fun y:Option V×List Stp=>[some (.bytes t),some (.int start),some (.ref ra),some v,some (.ref cd),some (.int p),some (.ref a6),some (.int mt.1),some (.int mt.2),y.1]) (fun (i:Nat)=>.int (3+(i:Int))) (List.range (mt.1-2)) (fun _=>True)
   (fun r y s'=>(∀ x o,x≠a6→s x=some o→s' x=some o)∧s' a6=some (.list ((y.2.map fun x=>prc i0 i1 i2 x+lkp ms (p+sz x)).map V.int))∧y.2++(r.map fun i=>(3+i,mt.2))=dn++((List.range (mt.1-2)).map fun i=>(3+i,mt.2))∧∀ i∈r,i<mt.1-2) (w9,dn)
   (by have:=iterR (st:=s1) (a:=3) (b:=(mt.1:Int)+1) (by decide) (by exact oz478 hn e4 hale);rw [show ((mt.1:Int)+1-3).toNat=mt.1-2 by exact oz460] at this;exact this) rfl ⟨j1,j2,rfl,fun i hi=>List.mem_range.mp hi⟩ ?_ ?_
  ·intro i r zr2 s2 N2 zr3 hN2
   obtain ⟨u9,dd⟩:=zr2
   have q1:=zr3.1;have q2:=zr3.2.1;have q3:=zr3.2.2.1;have q4:=zr3.2.2.2;clear zr3
   have q3:dd++((i::r).map fun i=>(3+i,mt.2))=_:=q3
   have q2:s2 a6=some (.list ((dd.map fun x=>prc i0 i1 i2 x+lkp ms (p+sz x)).map V.int)):=q2
   have hi:=q4 i (List.mem_cons_self ..)
   have hsz:sz (3+i,mt.2)=3+i:=if_neg (by show 3+i≠0;exact oz479)
   have hx:stOk (3+i,mt.2):=.inr ⟨⟨Nat.le_add_right ..,by show 3+i<35;exact oz480 hi e4 hale hn⟩,e1,by show mt.2<61;exact oz424 hn hp e2⟩
   obtain ⟨y,hy⟩:=hms (p+(3+i)) (by exact oz481) (by exact oz482 hi e4 hale)
   have hly:lkp ms (p+sz (3+i,mt.2))=y:=by unfold lkp;rw [hsz,hy];rfl
   refine ⟨trivial,isLs_s q2 ⟨Nat.le_of_ble_eq_true rfl,?_⟩⟩
   show CallF C (k+2) 58 [v,.tup [.int (3+(i:Int)),.int mt.2]] s2 _
   rw [show (3+(i:Int))=((3+i:Nat):Int) by exact oz461]
   refine c58 (x:=(3+i,mt.2)) F (fl s2 q1).1 hx fun s3 x3=>idxD_s (x3 _ _ (q1 _ _ fc.symm hd)) (x:=.int y) ?_ (append_s (x3 _ _ q2) ?_ fun s4 u4=>hN2 (some (.int (3+(i:Int))),dd++[(3+i,mt.2)]) s4 ⟨fun x o hx ho=>u4.ne _ _ hx (x3 _ _ (q1 _ _ hx ho)),?_,?_,fun z hz=>q4 z (List.mem_cons_of_mem _ hz)⟩)
   ·rw [encD_get,show (p:Int)+((3+i:Nat):Int)=((p+(3+i):Nat):Int) from rfl,hy];rfl
   ·rw [List.length_map,List.length_map]
    exact pre_len hn (by rw [← List.append_assoc,q3];exact j3)
   ·rw [u4.at_,List.map_append,List.map_append,← hly];rfl
   ·rw [← q3,List.append_assoc];rfl
  ·intro zr4 s2 zr5
   obtain ⟨u9,dd⟩:=zr4
   have q1:=zr5.1;have q2:=zr5.2.1;have q3:=zr5.2.2.1;have q4:=zr5.2.2.2;clear zr5
   have q3:dd++[]=_:=q3
   rw [List.append_nil] at q3
   subst q3
   exact ⟨trivial,hN ((some (.int mt.1),some (.int mt.2),u9),_) s2 ⟨q1,q2,j3,fun z hz=>j4 z (List.mem_cons_of_mem _ hz)⟩⟩
 ·intro zr6 s1 zr7
  obtain ⟨⟨w7,w8,w9⟩,dn⟩:=zr6
  have j1:=zr7.1;have j2:=zr7.2.1;have j3:=zr7.2.2.1;have j4:=zr7.2.2.2;clear zr7
  have j3:dn++[]=_:=j3
  rw [List.append_nil] at j3
  subst j3
  exact ⟨j1 _ _ nrow hra,hR s1 w7 w8 w9 j1 j2⟩
theorem c61 (F:Fns C) {v:V} {i0 i1 i2:List Int} {t:List Nat} {w ch start:Nat} {ra:Addr} (hn:t.length<35) (hs:start≤t.length) (L:LpAt st v i0 i1 i2) (RA:RowsAt st ra t w ch) (hP:∀ m s,Ext st s→IsMin t w ch (prc i0 i1 i2) start m→P (.int m) s):CallF C (k+3) 61 [.bytes t,.int start,.ref ra,v] st P:=by
 refine call0 F 61 (by decide) rfl fun n0=>new_s fun cd s1 hcd x1 g1=>⟨by show ((t.length:Int)-1).natAbs<2^60;exact oz483 hn,by show ((start:Int)-1).natAbs<2^60;exact oz484 hn hs,.inr rfl,?_⟩
 have hit:=iterRd (st:=s1) (a:=(t.length:Int)-1) (b:=(start:Int)-1) (by exact oz483 hn) (by exact oz484 hn hs)
 rw [show ((t.length:Int)-1-((start:Int)-1)).toNat=t.length-start by exact oz485] at hit
 refine for_f (fun y:(Option V×Option V×Option V×Option V×Option V)×List (Int×Int)×Nat=>[some (.bytes t),some (.int start),some (.ref ra),some v,some (.ref cd),y.1.1,y.1.2.1,y.1.2.2.1,y.1.2.2.2.1,y.1.2.2.2.2]) (fun (i:Nat)=>.int ((t.length:Int)-1-(i:Int))) (List.range (t.length-start)) (fun _=>True)
  (fun r y s=>∃ p,J61 st s cd v i0 i1 i2 t w ch p y.2.1 y.2.2∧r=(List.range (t.length-start)).drop (t.length-p)∧start≤p∧p≤t.length) ((none,none,none,none,none),[((t.length:Int),(0:Int))],n0)
  hit rfl ⟨t.length,⟨x1,g1,Nat.le_of_eq (Nat.add_comm ..),fun i h1 h2=>?_⟩,by rw [Nat.sub_self];rfl,hs,Nat.le_refl _⟩ ?_ ?_
 ·obtain rfl:=Nat.le_antisymm h1 h2
  exact ⟨0,by simp,isMin_end⟩
 ·intro i r zr8 s N zr9 hN
  obtain ⟨⟨u5,u6,u7,u8,u9⟩,ms,n⟩:=zr8
  refine ex1 zr9 fun p zq0=>?_;have J:=zq0.1;have hr:=zq0.2.1;have hp1:=zq0.2.2.1;have hp2:=zq0.2.2.2;clear zq0 zr9
  have J:J61 st s cd v i0 i1 i2 t w ch p ms n:=J
  have hlt:t.length-p<t.length-start:=by
   refine Nat.lt_of_not_le fun h=>?_
   rw [List.drop_eq_nil_of_le (by rw [List.length_range];exact h)] at hr;cases hr
  rw [List.drop_eq_getElem_cons (by rw [List.length_range];exact hlt),List.getElem_range] at hr
  injection hr with hi hr
  obtain ⟨q,rfl⟩:∃ q,p=q+1:=⟨p-1,by exact oz486 hlt⟩
  have hq:q<t.length:=hp2
  have hpi:(t.length:Int)-1-(i:Int)=(q:Nat):=by exact oz487 hp2 hi
  rw [hpi]
  refine ex1 (J.ok (q+1) (Nat.le_refl _) hp2) fun y1 zq0=>?_;have hy1:=zq0.1;have hm1:=zq0.2;clear zq0
  have hg:t[((q:Nat):Int).toNat]?=some (t.getD q 0):=by
   show t[q]?=_
   rw [List.getD_eq_getElem?_getD,List.getElem?_eq_getElem hq];rfl
  have ncd:∀ {x:Addr} {o:O},st x=some o→x≠cd:=fun h=>Ext.ne h hcd (s':=st)
  refine ⟨trivial,_,Int.natCast_nonneg q,hg,Nat.le_of_ble_eq_true rfl,c58 (x:=(0,t.getD q 0)) F (L.ext J.ext) (.inl rfl) fun s2 x2=>idxD_s (x2 _ _ J.dic) (x:=.int y1) (by rw [encD_get,show ((q:Nat):Int)+1=((q+1:Nat):Int) from rfl,hy1];rfl) ⟨Nat.le_of_ble_eq_true rfl,new_s fun a6 s3 ha6 x3 g3=>?_⟩⟩
  have x23:=x2.trans x3
  have d3:=x23 _ _ J.dic
  have f6:st a6=none:=J.ext.no (x2.no ha6)
  refine ways61 F (st:=st) hn hq ((L.ext J.ext).ext x23) (by rw [g3];unfold lkp;rw [hy1];rfl) d3 (fun i h1 h2=>(J.ok i h1 h2).imp fun _ h=>h.1) ((RA.ext J.ext).ext x23) f6 (J.ext.trans x23) (Ext.ne (x2 _ _ J.dic) ha6 (s':=s2)).symm (fun s' h=>?_) fun s4 w7 w8 w9 h4 g4=>?_
  ·have e:Ext st s':=fun x o ho=>h x o (Ext.ne ho f6 (s':=st)) (x23 _ _ (J.ext _ _ ho))
   exact ⟨L.ext e,RA.ext e⟩
  ·refine min_s g4 (by unfold edg;exact List.cons_ne_nil _ _) fun m hm hle=>?_
   have d4:=h4 _ _ (Ext.ne (x2 _ _ J.dic) ha6 (s':=s2)) d3
   refine setD_s d4 (by have:=J.len;unfold encD;rw [List.length_map];exact oz488 this hn) fun s5 n5 u5'=>hN ((_,_,w7,w8,w9),iset q m ms,n5) s5 ⟨q,⟨fun x o ho=>u5'.ne _ _ (ncd ho) (h4 _ _ (Ext.ne ho f6 (s':=st)) (x23 _ _ (J.ext _ _ ho))),u5'.at_.trans (by rw [encD_set]),?_,fun j h1 h2=>?_⟩,?_,by exact oz489 hlt,Nat.le_of_lt hq⟩
   ·have:=iset_len q m ms
    have:=J.len
    show (iset _ _ _).length+q≤_
    exact oz490 this ‹_›
   ·show ∃ x,(iset _ _ _).lookup _=_∧_
    rw [iset_get]
    by_cases e:j=q
    ·subst e
     rw [if_pos rfl]
     refine ⟨m,rfl,isMin_step hq (fun x hx=>?_) hm hle⟩
     have hz:=vst_sz hq (edg_vst hx)
     obtain ⟨yy,hyy,hmm⟩:=J.ok (j+sz x) (by exact oz491 hz) hz.2
     unfold lkp;rw [hyy];exact hmm
    ·rw [if_neg fun h:(j:Int)=(q:Nat)=>e (Int.ofNat.inj h)]
     exact J.ok j (by exact oz176 h1 e) h2
   ·rw [hr,show t.length-q=t.length-(q+1)+1 by exact oz492 hp2]
 ·intro zr10 s zr11
  obtain ⟨⟨u5,u6,u7,u8,u9⟩,ms,n⟩:=zr10
  refine ex1 zr11 fun p zq0=>?_;have J:=zq0.1;have hr:=zq0.2.1;have hp1:=zq0.2.2.1;have hp2:=zq0.2.2.2;clear zq0 zr11
  have:t.length-start≤t.length-p:=by
   have:=congrArg List.length hr
   rw [List.length_drop,List.length_range] at this
   exact Nat.le_of_sub_eq_zero this.symm
  obtain rfl:p=start:=by exact oz493 this hp1 hp2
  refine ex1 (J.ok p (Nat.le_refl _) hp2) fun y zq0=>?_;have hy:=zq0.1;have hm:=zq0.2;clear zq0
  exact ⟨trivial,idxD_s J.dic (x:=.int y) (by rw [encD_get];show (ms.lookup (p:Int)).map _=_;rw [hy];rfl) (hP y s J.ext hm)⟩
end
section
variable {C:Cx} {st:St} {k:Nat} {P:V→St→Prop}
theorem take_snoc {t:List Nat} {p:Nat} (h:p<t.length):t.take p++[t[p]]=t.take (p+1):=by
 rw [List.take_add_one,List.getElem?_eq_getElem h];rfl
theorem nats_len (l:List Nat):(nats l).length=l.length:=List.length_map ..
theorem c63 (F:Fns C) {t:List Nat} {start:Nat} {a:Addr} {l:List Stp} (ht:∀ x∈t,x<256) (hn:t.length<1000) (hs:start≤t.length) (h:st a=some (.list (l.map stp))) (hl:Pl t start l) (hP:∀ s,Ext st s→P (.bool true) s):CallF C (k+1) 63 [.bytes t,.int start,.ref a] st P:=by
 refine call0 F 63 (by decide) rfl (slcB_s (cut_to t start) ?_)
 suffices H:∀ q s1,st q=none→Ext st s1→s1 q=some (.list (nats (t.take start)))→wpSs (CallF C k) (ir63.drop 1) [some (.bytes t),some (.int start),some (.ref a),some (.ref q),none,none,none] s1 (RetP P) from fun q hq=>H q _ hq (.new _ hq) (St.set_same ..)
 intro q s1 hq x1 g1
 refine for_f (fun y:(Option V×Option V×Option V)×Nat=>[some (.bytes t),some (.int start),some (.ref a),some (.ref q),y.1.1,y.1.2.1,y.1.2.2]) stp l _ (fun r y s=>Ext st s∧s q=some (.list (nats (t.take y.2)))∧Pl t y.2 r) ((none,none,none),start) (iterL (x1 _ _ h)) rfl ⟨x1,g1,hl⟩ ?_ ?_
 ·rintro x r ⟨⟨u4,u5,u6⟩,p⟩ s N ⟨j1,j2,j3⟩ hN
  have j2:s q=some (.list (nats (t.take p))):=j2
  obtain ⟨hp,hv,hr⟩:p<t.length∧vst t p x∧Pl t (p+sz x) r:=j3
  refine ⟨j1 _ _ h,_,rfl,ite_s eI (fun e=>?_) fun e=>?_⟩
  ·have e:x.1=0:=Int.ofNat.inj e
   have hx:x.2=t[p]:=by
    rcases hv with ⟨_,b⟩ | ⟨⟨b,_⟩,_⟩
    ·rw [b,List.getD_eq_getElem?_getD,List.getElem?_eq_getElem hp];rfl
    ·exact oz494 b e
   refine isLs_s j2 (append_s j2 (by rw [nats_len,List.length_take];exact oz495 hn) fun s2 u2=>hN ((_,_,u6),p+1) s2 ⟨u2.ext hq j1,?_,?_⟩)
   ·rw [u2.at_,hx,← take_snoc hp];unfold nats;rw [List.map_append];rfl
   ·have:sz x=1:=if_pos e
    rw [this] at hr;exact hr
  ·have e:x.1≠0:=fun z=>e (by rw [z];rfl)
   have zq0:=hv.resolve_left fun z=>e z.1;have b1:=zq0.1.1;have b2:=zq0.1.2;have b3:=zq0.2.1;have b4:=zq0.2.2;clear zq0
   have hale:=alk_le t p x.2
   have hz:sz x=x.1:=if_neg e
   rw [hz] at hr
   refine ⟨by show ((x.1:Int)).natAbs<2^60;exact oz496 hn hale b2,?_⟩
   refine for_f (fun y:Option V×Nat=>[some (.bytes t),some (.int start),some (.ref a),some (.ref q),some (.int x.1),some (.int x.2),y.1]) (fun (i:Nat)=>.int (0+(i:Int))) (List.range x.1) (fun _=>True) (fun r' y s'=>Ext st s'∧s' q=some (.list (nats (t.take (p+y.2))))∧y.2+r'.length=x.1) (u6,0)
    (by have:=iterR (st:=s) (a:=0) (b:=(x.1:Int)) (by decide) (by exact oz496 hn hale b2);rw [show ((x.1:Int)-0).toNat=x.1 by exact oz369] at this;exact this) rfl ⟨j1,j2,by rw [List.length_range];exact Nat.zero_add _⟩ ?_ ?_
   ·rintro i r' ⟨w6,m⟩ s2 N2 ⟨q1,q2,q3⟩ hN2
    have q2:s2 q=some (.list (nats (t.take (p+m)))):=q2
    have q3:m+(r'.length+1)=x.1:=q3
    have hm:m<alk t p x.2:=by exact oz497 q3 b2
    have hpm:p+m<t.length:=by exact oz498 q3 b2 hale
    have hpd:p+m-x.2<t.length:=by exact oz499 q3 b2 hale
    have heq:t[p+m]=t[p+m-x.2]:=by
     have:=alk_lt hm
     rw [List.getElem?_eq_getElem hpm,List.getElem?_eq_getElem hpd] at this
     exact Option.some.inj this
    have hlen:(nats (t.take (p+m))).length=p+m:=by rw [nats_len,List.length_take];exact oz500 q3 b2 hale
    refine ⟨trivial,isLs_s q2 (lenL_s q2 (idxL_s q2 (x:=.int (t[p+m-x.2]:Nat)) ?_ (append_s q2 (by rw [hlen];exact oz501 q3 b2 hale hn) fun s3 u3=>hN2 (some (.int (0+(i:Int))),m+1) s3 ⟨u3.ext hq q1,?_,by show m+1+r'.length=x.1;exact oz67 q3⟩)))⟩
    ·rw [hlen,show (((p+m:Nat):Int)-(x.2:Int))=((p+m-x.2:Nat):Int) by exact oz502 b4,nth_nn _ (by rw [hlen];exact oz503 b3 b4),List.getElem?_map,List.getElem?_take,if_pos (by exact oz503 b3 b4),List.getElem?_eq_getElem hpd];rfl
    ·rw [u3.at_,← heq,show p+(m+1)=p+m+1 from rfl,← take_snoc hpm];unfold nats;rw [List.map_append];rfl
   ·rintro ⟨w6,m⟩ s2 ⟨q1,q2,q3⟩
    obtain rfl:m=x.1:=q3
    exact ⟨trivial,hN ((_,_,w6),p+x.1) s2 ⟨q1,q2,hr⟩⟩
 ·rintro ⟨⟨u4,u5,u6⟩,p⟩ s ⟨j1,j2,j3⟩
  obtain rfl:p=t.length:=j3
  have j2:s q=some (.list (nats (t.take t.length))):=j2
  rw [List.take_length] at j2
  refine ⟨j1 _ _ h,bytesL_s j2 ht ?_⟩
  show P (.bool (t==t)) s
  rw [beq_self_eq_true];exact hP s j1
end
noncomputable def lits (t:List Nat) (start:Nat):List Stp:=(t.drop start).map fun o=>(0,o)
theorem lits_pth {t:List Nat} {w ch:Nat}:∀ {n p:Nat},p+n=t.length→Pth t w ch p (lits t p)
 | 0,p,h=>by unfold lits;rw [List.drop_eq_nil_of_le (by exact oz426 h)];exact h
 | n+1,p,h=>by
  have hp:p<t.length:=by exact oz66 h
  unfold lits
  rw [List.drop_eq_getElem_cons hp,List.map_cons]
  refine ⟨hp,?_,lits_pth (n:=n) (by show p+1+n=_;exact oz67 h)⟩
  have:t[p]=t.getD p 0:=by rw [List.getD_eq_getElem?_getD,List.getElem?_eq_getElem hp];rfl
  rw [this];exact List.mem_cons_self ..
theorem short_pth {t:List Nat} {w ch:Nat}:∀ {l:List Stp} {p:Nat},t.length<p+3→Pth t w ch p l→l=lits t p
 | [],p,_,h=>by
  have h:p=t.length:=h
  unfold lits;rw [h,List.drop_length];rfl
 | x::r,p,hs,h=>by
  have h1:=h.1;have h2:=h.2.1;have h3:=h.2.2;clear h
  have he:evy t w ch p=[]:=by unfold evy;rw [dst_short (by exact oz504 hs),List.take_nil];rfl
  unfold edg at h2
  rw [he] at h2
  have hx:x=(0,t.getD p 0):=List.mem_singleton.mp h2
  subst hx
  have:=short_pth (p:=p+1) (by exact oz505 hs) h3
  unfold lits at this ⊢
  rw [List.drop_eq_getElem_cons h1,List.map_cons,← this,List.getD_eq_getElem?_getD,List.getElem?_eq_getElem h1];rfl
noncomputable abbrev pr1 (t:List Nat) (start:Nat):Stp→Int:=prc (asI (t.drop start)) [] []
noncomputable abbrev pr2 (l:List Stp):Stp→Int:=prc (i0s l) (i1s l) (i2s l)
noncomputable def parL (t:List Nat) (w ch start:Nat):List Stp:=if t.length-start<3 then lits t start else lstF t w ch start (pr1 t start)
noncomputable def Best (t:List Nat) (w ch start:Nat) (pr:Stp→Int) (l:List Stp):Prop:=Pth t w ch start l∧∀ l',Pth t w ch start l'→(l.map pr).sum≤(l'.map pr).sum
theorem best_lits {t:List Nat} {w ch start:Nat} {pr:Stp→Int} (h:start≤t.length) (hs:t.length-start<3):Best t w ch start pr (lits t start) :=
 ⟨lits_pth (n:=t.length-start) (by exact oz143 h),fun l' hl=>by rw [short_pth (by exact oz506 hs) hl];exact Int.le_refl _⟩
theorem Fra.exts {D:List Addr} {s0 s s':St} (f:Fra D s s') (x:Ext s0 s) (h:∀ y∈D,s0 y=none):Ext s0 s':=fun y o hy=>f y o (fun hm=>by rw [h y hm] at hy;cases hy) (x y o hy)
section
variable {C:Cx} {st:St} {k:Nat} {P:V→St→Prop}
theorem c48r (F:Fns C) {f r d b o:Addr} {t:List Nat} {w ch start:Nat} {x y z:Int} (ht:∀ x∈t,x<256) (hn:t.length<60) (R:FinAt st f r d b t w ch 0) (hs:start≤t.length) (hx:1≤x) (hy:1≤y) (hz:1≤z) (ho:st o=some (ofO x y z))
  (hP:∀ a st',st a=none→Fra [f,d,b] st st'→st' a=some (.list ((rep t w ch (t.length-start) start x y z 0).map stp))→P (.ref a) st'):CallF C (k+8) 48 [.bytes t,.int start,.str "repeats",.ref f,.ref o] st P:=by
 refine call0 F 48 (by decide) rfl ?_
 exact c47 F ht hn R hs (Nat.zero_le _) (Int.le_refl _) hx hy hz ho hP
theorem c48l (F:Fns C) {f r d b o:Addr} {t:List Nat} {w ch start:Nat} {way:Str} (hw:(way=="greedy")=false∧(way=="lazy")=false∧(way=="weighed")=false∧(way=="repeats")=false) (ht:∀ x∈t,x<256) (hn:t.length<35) (R:FinAt st f r d b t w ch 0) (hs:start≤t.length)
  (hP:∀ a e1 e2 st',st a=none→st e1=none→st e2=none→Fra [f,d,b,e1,e2] st st'→st' a=some (.list ((lstF t w ch start (pr1 t start)).map stp))→Best t w ch start (pr1 t start) (lstF t w ch start (pr1 t start))→P (.ref a) st'):CallF C (k+8) 48 [.bytes t,.int start,.str way,.ref f,.ref o] st P:=by
 have w1:=hw.1;have w2:=hw.2.1;have w3:=hw.2.2.1;have w4:=hw.2.2.2;clear hw
 refine call0 F 48 (by decide) rfl (ite_s Iff.rfl (fun h=>Bool.noConfusion (w1.symm.trans h)) fun _=>ite_s Iff.rfl (fun h=>Bool.noConfusion (w2.symm.trans h)) fun _=>ite_s Iff.rfl (fun h=>Bool.noConfusion (w3.symm.trans h)) fun _=>ite_s Iff.rfl (fun h=>Bool.noConfusion (w4.symm.trans h)) fun _=>?_)
 refine slcB_s (cut_from t start) (c43 (k:=k+3) F (by rw [List.length_drop];exact oz507 hn) fun p s1 x1 B hB=>?_)
 have hd:Dis [f,r,d,b] p.adr:=(Dis.of R.there hB)
 refine c26 F ht hn hs (Int.le_refl _) (R.fra x1) B hd fun a s2 ha f2 g2 h1 h2=>hP a p.e1 p.e2 s2 (x1.no ha) (hB _ (by unfold Bp.adr;simp)) (hB _ (by unfold Bp.adr;simp)) (fun y q hy hq=>f2 y q hy (x1 _ _ hq)) g2 ⟨h1,h2⟩
theorem c49l (F:Fns C) {o:Addr} {t:List Nat} {w ch start:Nat} (ht:∀ x∈t,x<256) (hn:t.length<35) (hs:start≤t.length) (hw:1≤w) (hch:1≤ch)
  (hP:∀ q a st',Ext st st'→st' q=some (.list [.ref a])→st' a=some (.list ((parL t w ch start).map stp))→Best t w ch start (pr1 t start) (parL t w ch start)→P (.ref q) st'):CallF C (k+9) 49 [.bytes t,.int start,.str "least",.int w,.int ch,.ref o] st P:=by
 refine call0 F 49 (by decide) rfl (or_s dI (fun h=>?_) fun h=>?_)
 ·have h3:t.length-start<3:=by exact oz508 h
  refine c22 F hs (by exact oz509 hn) fun a s1 ha x1 g1=>⟨Nat.le_of_ble_eq_true rfl,new_s fun q s2 hq x2 g2=>hP q a s2 (x1.trans x2) g2 ?_ ?_⟩
  ·unfold parL;rw [if_pos h3];exact x2 _ _ g1
  ·unfold parL;rw [if_pos h3];exact best_lits hs h3
 ·have h3:¬ t.length-start<3:=by exact oz510 h
  refine mkFin F (by exact oz509 hn) hw hch fun s1 f r d b R hf hr hd hb x1=>c48l F (by decide +kernel) ht hn R hs fun a e1 e2 s2 ha he1 he2 f2 g2 hB=>?_
  refine ⟨Nat.le_of_ble_eq_true rfl,new_s fun q s3 hq x3 g3=>hP q a s3 ?_ g3 ?_ ?_⟩
  ·refine (f2.exts x1 fun y hy=>?_).trans x3
   simp only [List.mem_cons,List.not_mem_nil,or_false] at hy
   rcases hy with rfl | rfl | rfl | rfl | rfl
   ·exact hf
   ·exact hd
   ·exact hb
   ·exact x1.no he1
   ·exact x1.no he2
  ·unfold parL;rw [if_neg h3];exact x3 _ _ g2
  ·unfold parL;rw [if_neg h3];exact hB
end
noncomputable abbrev APs:=List (Addr×List Stp)
noncomputable def refs (ps:APs):List V:=ps.map fun p=>.ref p.1
noncomputable def Sees (st:St) (ps:APs):Prop:=∀ p∈ps,st p.1=some (.list (p.2.map stp))
theorem Sees.ext {st st':St} {ps:APs} (h:Sees st ps) (e:Ext st st'):Sees st' ps:=fun p hp=>e _ _ (h p hp)
theorem Sees.reps {st:St}:∀ {ps:APs},Sees st ps→Reps st (refs ps) ((ps.map (·.2)).map stepsD)
 | [],_=>.nil
 | p::r,h=>.cons (rep_steps (h p (List.mem_cons_self ..))) (Sees.reps fun q hq=>h q (List.mem_cons_of_mem _ hq))
noncomputable def dd (acc:List (List Stp)) (o:List Stp):List (List Stp):=if o∈acc then acc else acc++[o]
noncomputable def evL (t:List Nat) (w ch start:Nat) (x y z:Int):List (List Stp):=if t.length-start<3 then [lits t start] else
 [lits t start,lstF t w ch start (pr2 (lstF t w ch start (pr1 t start))),rep t w ch (t.length-start) start x y z 0].foldl dd [lstF t w ch start (pr1 t start)]
section
variable {C:Cx} {st:St} {k:Nat} {P:V→St→Prop}
theorem inSt_s {Q:Bool→Prop} {a b:Addr} {l:List Stp} {ps:APs} (h:st a=some (.list (l.map stp))) (hb:st b=some (.list (refs ps))) (hp:Sees st ps) (p:∀ c,(c=true↔l∈ps.map (·.2))→Q c):inR (.ref a) b st Q:=by
 unfold inR;rw [hb]
 exact ⟨stepsD l,(ps.map (·.2)).map stepsD,rep_steps h,hp.reps,(sh_steps l).shaped,(sh_stepss _).shaped,p _ (by rw [any_map eqv_steps];simp only [decide_eq_true_eq])⟩
theorem c49b (F:Fns C) {o:Addr} {t:List Nat} {w ch start:Nat} {x y z:Int} (ht:∀ x∈t,x<256) (hn:t.length<35) (hs:start≤t.length) (hw:1≤w) (hch:1≤ch) (hx:1≤x) (hy:1≤y) (hz:1≤z) (ho:st o=some (ofO x y z))
  (hP:∀ q (ps:APs) st',st q=none→Ext st st'→st' q=some (.list (refs ps))→Sees st' ps→ps.map (·.2)=evL t w ch start x y z →
   (¬ t.length-start<3→Best t w ch start (pr2 (lstF t w ch start (pr1 t start))) (lstF t w ch start (pr2 (lstF t w ch start (pr1 t start)))))→P (.ref q) st'):CallF C (k+9) 49 [.bytes t,.int start,.str "best",.int w,.int ch,.ref o] st P:=by
 refine call0 F 49 (by decide) rfl (or_s dI (fun h=>?_) fun h=>?_)
 ·have h3:t.length-start<3:=by exact oz508 h
  refine c22 F hs (by exact oz509 hn) fun a s1 ha x1 g1=>⟨Nat.le_of_ble_eq_true rfl,new_s fun q s2 hq x2 g2=>hP q [(a,lits t start)] s2 (x1.no hq) (x1.trans x2) g2 (fun p hp=>by rw [List.mem_singleton.mp hp];exact x2 _ _ g1) ?_ fun h=>absurd h3 h⟩
  unfold evL;rw [if_pos h3];rfl
 ·have h3:¬ t.length-start<3:=by exact oz510 h
  refine mkFin F (by exact oz509 hn) hw hch fun s1 f r d b R hf hr hd hb x1=>c48l F (by decide +kernel) ht hn R hs fun a e1 e2 s2 ha he1 he2 f2 g2 hB=>?_
  have x2:Ext st s2:=f2.exts x1 fun y hy=>by
   simp only [List.mem_cons,List.not_mem_nil,or_false] at hy
   rcases hy with rfl | rfl | rfl | rfl | rfl
   ·exact hf
   ·exact hd
   ·exact hb
   ·exact x1.no he1
   ·exact x1.no he2
  generalize hl1:lstF t w ch start (pr1 t start)=l1 at *
  have hok:=hB.1.pl.ok hn
  have hlen:=hB.1.pl.len
  refine mkFin F (by exact oz509 hn) hw hch fun s3 f' r' d' b' R' hf' hr' hd' hb' x3=>?_
  refine c22 F hs (by exact oz509 hn) fun a2 s4 ha2 x4 g4=>?_
  refine c44 (k:=k+4) F (x4 _ _ (x3 _ _ g2)) (by exact oz511 hlen hn) hok fun p s5 x5 B hBf=>?_
  have R5:=(R'.fra x4).fra x5
  refine c26 (k:=k+1) F ht hn hs (Int.le_refl _) R5 B (Dis.of (R'.fra x4).there hBf) fun a3 s6 ha3 f6 g6 hp2 hm2=>?_
  have hpe:∀ y∈[p.e1,p.e2],s4 y=none:=fun y hy=>hBf y (by unfold Bp.adr;simp only [List.mem_cons,List.not_mem_nil,or_false] at hy ⊢;rcases hy with h | h <;> simp [h])
  have x26:Ext s2 s6:=f6.exts (x3.trans (x4.trans x5)) fun y hy=>by
   simp only [List.mem_cons,List.not_mem_nil,or_false] at hy
   rcases hy with rfl | rfl | rfl | h | h
   ·exact hf'
   ·exact hd'
   ·exact hb'
   ·exact x3.no (x4.no (hpe y (by simp [h])))
   ·exact x3.no (x4.no (hpe y (by simp [h])))
  have g2':s6 a2=some (.list ((lits t start).map stp)):=by
   refine f6 _ _ (fun hm=>?_) (x5 _ _ g4)
   have:s3 a2≠none∨s4 a2=none:=by
    simp only [List.mem_cons,List.not_mem_nil,or_false] at hm
    rcases hm with h | h | h | h | h
    ·exact .inl (R'.there a2 (by simp [h]))
    ·exact .inl (R'.there a2 (by simp [h]))
    ·exact .inl (R'.there a2 (by simp [h]))
    ·exact .inr (hpe a2 (by simp [h]))
    ·exact .inr (hpe a2 (by simp [h]))
   rcases this with h | h
   ·exact h ha2
   ·rw [g4] at h;cases h
  refine ⟨Nat.le_of_ble_eq_true rfl,new_s fun q7 s7 hq7 x7 g7=>isLs_s g7 ?_⟩
  have x07:Ext st s7:=x2.trans (x26.trans x7)
  refine mkFin F (by exact oz509 hn) hw hch fun s8 f'' r'' d'' b'' R'' hf'' hr'' hd'' hb'' x8=>c48r F ht (by exact oz512 hn) R'' hs hx hy hz (x8 _ _ (x07 _ _ ho)) fun a4 s9 ha4 f9 g9=>?_
  have x79:Ext s7 s9:=f9.exts x8 fun y hy=>by
   simp only [List.mem_cons,List.not_mem_nil,or_false] at hy
   rcases hy with rfl | rfl | rfl
   ·exact hf''
   ·exact hd''
   ·exact hb''
  refine append_s (x79 _ _ g7) (Nat.lt_of_lt_of_le (Nat.lt_succ_self 2) (by decide)) fun s10 u10=>⟨Nat.le_of_ble_eq_true rfl,new_s fun q11 s11 hq11 x11 g11=>?_⟩
  have kp:∀ {x:Addr} {o:O},s6 x=some o→s11 x=some o:=fun h=>x11 _ _ (u10.ne _ _ (Ext.ne h hq7 (s':=s6)) (x79 _ _ (x7 _ _ h)))
  have k4:s11 a4=some (.list ((rep t w ch (t.length-start) start x y z 0).map stp)):=x11 _ _ (u10.ne _ _ (Ext.ne (x8 _ _ g7) ha4 (s':=s8)).symm g9)
  have l11:=x11 _ _ u10.at_
  let rest:APs:=[(a2,lits t start),(a3,lstF t w ch start (pr2 l1)),(a4,rep t w ch (t.length-start) start x y z 0)]
  have hrest:Sees s11 rest:=fun p hp=>by
   rcases List.mem_cons.mp hp with h | hp
   ·rw [h];exact kp g2'
   ·rcases List.mem_cons.mp hp with h | hp
    ·rw [h];exact kp g6
    ·rw [List.mem_singleton.mp hp];exact k4
  have x011:Ext st s11:=fun x o h=>kp (x26 _ _ (x2 _ _ h))
  have n11:st q11=none:=x07.no (x79.no (u10.no hq11))
  have qn:q7≠q11:=Ext.ne u10.at_ hq11 (s':=s10)
  refine for_f (fun v:Option V×APs=>[some (.bytes t),some (.int start),some (.str "best"),some (.int w),some (.int ch),some (.ref o),some (.ref a),some (.ref f'),some (.ref q7),some (.ref q11),v.1]) (fun p:Addr×List Stp=>.ref p.1) rest _
   (fun r v s=>s q11=some (.list (refs v.2))∧Sees s v.2∧Sees s r∧Ext st s∧s q7=some (.list (refs rest))∧(r.map (·.2)).foldl dd (v.2.map (·.2))=(rest.map (·.2)).foldl dd [l1]∧v.2.length+r.length≤4∧(∀ p∈v.2,p.1≠q11)∧∀ p∈r,p.1≠q11) (none,[(a,l1)]) (iterL l11) rfl
   ⟨g11,fun p hp=>by rw [List.mem_singleton.mp hp];exact kp (x26 _ _ g2),hrest,x011,l11,rfl,Nat.le_of_ble_eq_true rfl,?_,?_⟩ ?_ ?_
  ·intro p hp
   rw [List.mem_singleton.mp hp]
   exact Ext.ne (u10.ne _ _ (Ext.ne (x26 _ _ g2) hq7 (s':=s6)) (x79 _ _ (x7 _ _ (x26 _ _ g2)))) hq11 (s':=s10)
  ·intro p hp
   rcases List.mem_cons.mp hp with h | hp
   ·rw [h];exact Ext.ne (u10.ne _ _ (Ext.ne g2' hq7 (s':=s6)) (x79 _ _ (x7 _ _ g2'))) hq11 (s':=s10)
   ·rcases List.mem_cons.mp hp with h | hp
    ·rw [h];exact Ext.ne (u10.ne _ _ (Ext.ne g6 hq7 (s':=s6)) (x79 _ _ (x7 _ _ g6))) hq11 (s':=s10)
    ·rw [List.mem_singleton.mp hp];exact Ext.ne (u10.ne _ _ (Ext.ne (x8 _ _ g7) ha4 (s':=s8)).symm g9) hq11 (s':=s10)
  ·rintro ⟨x1',l⟩ r ⟨v10,ps⟩ s N ⟨j1,j2,j3,j4,j5,j6,j7,j8,j9⟩ hN
   have j1:s q11=some (.list (refs ps)):=j1
   have hx1:s x1'=some (.list (l.map stp)):=j3 _ (List.mem_cons_self ..)
   have j6:(r.map (·.2)).foldl dd (dd (ps.map (·.2)) l)=_:=j6
   have j7:ps.length+(r.length+1)≤4:=j7
   refine ⟨j5,inSt_s hx1 j1 j2 fun bb hbb=>ite_s (nI hbb) (fun hno=>?_) fun hyes=>?_⟩
   ·refine isLs_s j1 (append_s j1 (by unfold refs;rw [List.length_map];exact oz335 j7) fun s' u=>hN (some (.ref x1'),ps++[(x1',l)]) s' ⟨?_,?_,fun p hp=>u.ne _ _ (j9 p (List.mem_cons_of_mem _ hp)) (j3 p (List.mem_cons_of_mem _ hp)),u.ext n11 j4,u.ne _ _ qn j5,?_,?_,?_,fun p hp=>j9 p (List.mem_cons_of_mem _ hp)⟩)
    ·rw [u.at_];unfold refs;rw [List.map_append];rfl
    ·intro p hp
     rcases List.mem_append.mp hp with hp | hp
     ·exact u.ne _ _ (j8 p hp) (j2 p hp)
     ·rw [List.mem_singleton.mp hp];exact u.ne _ _ (j9 _ (List.mem_cons_self ..)) hx1
    ·rw [← j6,List.map_append];unfold dd;rw [if_neg hno];rfl
    ·show (ps++[(x1',l)]).length+r.length≤4
     rw [List.length_append,List.length_singleton];exact oz336 j7
    ·intro p hp
     rcases List.mem_append.mp hp with hp | hp
     ·exact j8 p hp
     ·rw [List.mem_singleton.mp hp];exact j9 _ (List.mem_cons_self ..)
   ·refine hN (some (.ref x1'),ps) s ⟨j1,j2,fun p hp=>j3 p (List.mem_cons_of_mem _ hp),j4,j5,?_,by show ps.length+r.length≤4;exact oz333 j7,j8,fun p hp=>j9 p (List.mem_cons_of_mem _ hp)⟩
    rw [← j6];unfold dd;rw [if_pos (Decidable.not_not.mp hyes)]
  ·rintro ⟨v10,ps⟩ s ⟨j1,j2,j3,j4,j5,j6,j7,j8,j9⟩
   refine ⟨j5,hP q11 ps s n11 j4 j1 j2 ?_ fun _=>⟨hp2,hm2⟩⟩
   unfold evL;rw [if_neg h3,hl1];exact j6
end
section
variable {C:Cx} {st:St} {k:Nat} {P:V→St→Prop}
structure LawAt (st s:St) (bx th ra ma ho to:Addr) (t:List Nat) (start w ch:Nat) (x y z:Int):Prop where
 ext:Ext st s
 box:BoxAt s bx 100
 nobx:st bx=none
 three:s th=some (.list [.int x,.int y,.int z])
 rows:RowsAt s ra t w ch
 mine:s ma=some (.list ((rep t w ch (t.length-start) start x y z 0).map stp))
 held:s ho=some (ofO x y z)
 told:s to=some (.list ((rep t w ch (t.length-start) start x y z 0).map stp))
 ht:∀ x∈t,x<256
 hn:t.length<35
 hs:start≤t.length
 hw:1≤w
 hch:1≤ch
 pos:1≤x∧1≤y∧1≤z
theorem fra_box {s s':St} {bx:Addr} (x:Ext st s) (nb:st bx=none) (f:Fra [bx] s s'):Ext st s':=f.exts x fun y hy=>by rw [List.mem_singleton.mp hy];exact nb
theorem var_s {ls:Ls} {n:Nat} {v:V} {Φ:CallSem} (h:ls[n]?=some (some v)) (p:P v st):wpE Φ (.var n) ls st P:=by
 show match ls[n]? with | some (some v)=>P v st | some none=>False | none=>False
 rw [h];exact p
theorem rows70 (F:Fns C) {t:List Nat} {w ch:Nat} (hn:t.length<35) {ls:Ls} {Q:V→St→Prop} (hls:ls[1]?=some (some (.bytes t))∧ls[12]?=some (some (.int w))∧ls[13]?=some (some (.int ch))∧18<ls.length) (hP:∀ ra s,Ext st s→RowsAt s ra t w ch→Q (.ref ra) s) :
  compW (wpE (CallF C (k+2)) (.call 60 [.var 1,.var 18,.var 12,.var 13])) (wpTs (CallF C (k+2)) true []) true [18] (.range 0 (t.length:Int) 1) ls st Q:=by
 have l1:=hls.1;have l12:=hls.2.1;have l13:=hls.2.2.1;have l18:=hls.2.2.2;clear hls
 refine comp_s (fun (i:Nat)=>.int (0+(i:Int))) (List.range t.length) (fun _=>True) (by have:=iterR (st:=st) (a:=0) (b:=(t.length:Int)) (by decide) (by exact oz513 hn);rw [show ((t.length:Int)-0).toNat=t.length by exact oz369] at this;exact this)
  (fun a r acc s=>Ext st s∧∃ as:List Addr,acc=as.map .ref∧r=(List.range t.length).drop as.length∧as.length≤t.length∧∀ (i:Nat) (x:Addr),as[i]?=some x→s x=some (.list ((evy t w ch i).map stp))∧x≠a) (fun a s ha x g=>⟨x,[],rfl,rfl,Nat.zero_le _,fun i x h=>by cases h⟩) (fun a i r acc s Nt Nf ha j g ht hf=>⟨trivial,?_⟩) fun a acc s ha j g=>⟨trivial,?_⟩
 ·have j1:=j.1;refine ex1 j.2 fun as zq0=>?_;obtain rfl:=zq0.1;have j3:=zq0.2.1;have j4:=zq0.2.2.1;have j5:=zq0.2.2.2;clear zq0 j
  have hlt:as.length<t.length:=by
   refine Nat.lt_of_not_le fun h=>?_
   rw [List.drop_eq_nil_of_le (by rw [List.length_range];exact h)] at j3;cases j3
  rw [List.drop_eq_getElem_cons (by rw [List.length_range];exact hlt),List.getElem_range] at j3
  injection j3 with hi hr
  have s1:(ls.set 18 (some (.int (0+(i:Int)))))[1]?=some (some (.bytes t)):=by rw [List.getElem?_set,if_neg (by decide)];exact l1
  have s12:(ls.set 18 (some (.int (0+(i:Int)))))[12]?=some (some (.int w)):=by rw [List.getElem?_set,if_neg (by decide)];exact l12
  have s13:(ls.set 18 (some (.int (0+(i:Int)))))[13]?=some (some (.int ch)):=by rw [List.getElem?_set,if_neg (by decide)];exact l13
  have s18:(ls.set 18 (some (.int (0+(i:Int)))))[18]?=some (some (.int (i:Nat))):=by rw [List.getElem?_set,if_pos rfl,if_pos l18,Int.zero_add]
  show wpE (CallF C (k+2)) (.call 60 [.var 1,.var 18,.var 12,.var 13]) (ls.set 18 (some (.int (0+(i:Int))))) s Nt
  generalize ls.set 18 (some (.int (0+(i:Int))))=ls' at *
  show wpE (CallF C (k+2)) (.var 1) ls' s _
  refine var_s (Φ:=CallF C (k+2)) s1 ?_
  show wpE (CallF C (k+2)) (.var 18) ls' s _
  refine var_s (Φ:=CallF C (k+2)) s18 ?_
  show wpE (CallF C (k+2)) (.var 12) ls' s _
  refine var_s (Φ:=CallF C (k+2)) s12 ?_
  show wpE (CallF C (k+2)) (.var 13) ls' s _
  refine var_s (Φ:=CallF C (k+2)) s13 ?_
  refine c60 F (by exact oz509 hn) (by exact oz514 hi j4) fun q s2 hq x2 g2=>ht s2 _ (x2 _ _ g) (by rw [List.length_map];exact oz515 hn j4) fun s3 u3=>⟨u3.ext ha (j1.trans x2),as++[q],by rw [List.map_append];rfl,by rw [hr,List.length_append];rfl,by rw [List.length_append];exact hlt,fun n x hx=>?_⟩
  rw [List.getElem?_append] at hx
  split at hx
  ·obtain ⟨h1,h2⟩:=j5 n x hx
   exact ⟨u3.ne _ _ h2 (x2 _ _ h1),h2⟩
  ·rename_i hge
   have hn0:n=as.length:=by
    have:=(List.getElem?_eq_some_iff.mp hx).1
    rw [List.length_singleton] at this;exact oz516 this hge
   subst hn0
   rw [Nat.sub_self] at hx
   cases hx
   have hqa:q≠a:=(Ext.ne g hq (s':=s)).symm
   exact ⟨hi▸u3.ne _ _ hqa g2,hqa⟩
 ·obtain ⟨j1,as,rfl,j3,j4,j5⟩:=j
  have hlen:t.length≤as.length:=by
   have:=congrArg List.length j3
   rw [List.length_drop,List.length_range] at this
   exact Nat.le_of_sub_eq_zero this.symm
  exact hP a s j1 ⟨as,Nat.le_antisymm j4 hlen,g,fun i x h=>(j5 i x h).1⟩
noncomputable def L70 (sc:V) (t:List Nat) (th ra to bx:Addr) (mu start w ch:Nat) (ma ho:Addr) (v5 v6 v7 v8 v16 v17:Option V):Ls:=[some sc,some (.bytes t),some (.ref th),some (.ref ra),some (.ref to),v5,v6,v7,v8,some (.ref bx),some (.int mu),some (.int start),some (.int w),some (.int ch),some (.ref ma),some (.ref ho),v16,v17,none,none,none]
theorem nth_lit {l:List V} {n:Nat} {x:V} (h:l[n]?=some x):nth l (n:Int)=some x:=by
 rw [nth_nn l (List.getElem?_eq_some_iff.mp h).1];exact h
set_option maxHeartbeats 4000000 in
theorem setup70 (F:Fns C) {ns:List Int} {R:Fl→Ls→St→Prop}
  (H:∀ s bx th ra ma ho to t mu start w ch x y z,LawAt st s bx th ra ma ho to t start w ch x y z→wpSs (CallF C (k+9)) (ir70.drop 7) (L70 (.flist (ns.map .int)) t th ra to bx mu start w ch ma ho none none none none none none) s R) :
  wpSs (CallF C (k+9)) ir70 (initLs 21 [.flist (ns.map .int)]) st R:=by
 refine c50 F fun bx s1 hbx x1 B1=>⟨Nat.le_of_ble_eq_true rfl,rfl,?_⟩
 have hmu:∃ mu:Nat,min (((ns.map V.int).length:Nat):Int) 6=mu∧mu≤6:=⟨min (ns.map V.int).length 6,by exact oz517,Nat.min_le_right ..⟩
 obtain ⟨mu,hmu,hmu6⟩:=hmu
 rw [hmu]
 refine take_const F (m:=4) (by decide) (by decide) (by decide) B1 (fun d1 s2 hd1 B2 f2=>?_) rfl
 show CallF C (k+9) 52 [.ref bx,.int (5+(mu:Int)+(d1:Int))] s2 _
 rw [show 5+(mu:Int)+(d1:Int)=((5+mu+d1:Nat):Int) by exact oz518]
 refine c52 (k:=k+7) F (by decide) (by exact oz519) (by exact oz520 hmu hd1) B2 fun t s3 htl ht3 B3 f3=>?_
 have x3:=fra_box (fra_box x1 hbx f2) hbx f3
 refine ⟨by decide,lt_small (by decide),take_const F (m:=3+mu / 2) (by exact oz521 hmu hd1) (by exact oz522) (by exact oz523 hmu) B3 (fun d2 s4 hd2 B4 f4=>?_) (by exact oz524)⟩
 refine take_const F (m:=12) (by exact oz525 hmu hd1) (by decide) (by decide) B4 (fun d3 s5 hd3 B5 f5=>⟨Nat.le_of_ble_eq_true rfl,new_s fun q6 s6 hq6 x6 g6=>?_⟩) rfl
 refine take_const F (m:=3) (by exact oz526 hmu hd1) (by decide) (by decide) (B5.ext x6) (fun d4 s7 hd4 B7 f7=>?_) rfl
 have nb:∀ {s:St} {q:Addr} {n:Nat},BoxAt s bx n→s q=none→q≠bx:=fun B hq e=>by obtain ⟨w,c,h1,-⟩:=B.ex;rw [e,h1] at hq;cases hq
 have g7:=f7 _ _ (by simp [nb B5 hq6]) g6
 have hch:∃ ch:Nat,[V.int 8,.int 1,.int 2][d4]?=some (.int ch)∧1≤ch:=by
  rcases (by exact oz527 hd4:d4=0∨d4=1∨d4=2) with rfl | rfl | rfl
  ·exact ⟨8,rfl,by decide⟩
  ·exact ⟨1,rfl,by decide⟩
  ·exact ⟨2,rfl,by decide⟩
 obtain ⟨ch,hch,hch1⟩:=hch
 refine idxL_s g7 (nth_lit hch) ⟨Nat.le_of_ble_eq_true rfl,rfl,?_⟩
 have x7:=fra_box ((fra_box (fra_box x3 hbx f4) hbx f5).trans x6) hbx f7
 refine take_const F (m:=4) (by exact oz528 hmu hd1) (by decide) (by decide) B7 (fun d8 s8 hd8 B8 f8=>?_) rfl
 refine take_const F (m:=6) (by exact oz529 hmu hd1) (by decide) (by decide) B8 (fun d9 s9 hd9 B9 f9=>⟨Nat.le_of_ble_eq_true rfl,new_s fun q10 s10 hq10 x10 g10=>?_⟩) rfl
 refine take_const F (m:=4) (by exact oz530 hmu hd1) (by decide) (by decide) (B9.ext x10) (fun d11 s11 hd11 B11 f11=>?_) rfl
 have g11:=f11 _ _ (by simp [nb B9 hq10]) g10
 have hz:∃ z:Nat,[V.int 1,.int 2,.int 3,.int 5][d11]?=some (.int z)∧1≤z:=by
  rcases (by exact oz531 hd11:d11=0∨d11=1∨d11=2∨d11=3) with rfl | rfl | rfl | rfl
  ·exact ⟨1,rfl,by decide⟩
  ·exact ⟨2,rfl,by decide⟩
  ·exact ⟨3,rfl,by decide⟩
  ·exact ⟨5,rfl,by decide⟩
 obtain ⟨z,hz,hz1⟩:=hz
 have x11:=fra_box ((fra_box (fra_box x7 hbx f8) hbx f9).trans x10) hbx f11
 refine idxL_s g11 (nth_lit hz) ⟨Nat.le_of_ble_eq_true rfl,new_s fun th s12 hth x12 g12=>?_⟩
 have ht:∀ x∈t,x<256:=fun x hx=>Nat.lt_trans (ht3 x hx) (by decide)
 have hn:t.length<35:=by exact oz532 hmu hd1 htl
 have hst:d2≤t.length:=by exact oz533 hd2 htl
 have e3:(1+(d3:Int))=((1+d3:Nat):Int):=by exact oz534
 rw [e3]
 refine ⟨by show ((t.length:Int)).natAbs<2^60;exact oz535 hmu hd1 htl,rows70 F (w:=1+d3) (ch:=ch) hn ⟨rfl,rfl,rfl,Nat.le_of_ble_eq_true rfl⟩ fun ra s13 x13 R13=>?_⟩
 refine c67 (k:=k+5) F (by exact oz536 hmu hd1 htl) R13 hst (x13 _ _ g12) fun ma s14 hma x14 g14=>?_
 have g12':=x14 _ _ (x13 _ _ g12)
 refine idxL_s g12' rfl (idxL_s g12' rfl (idxL_s g12' rfl (mkOff (k:=k+8) F (by exact oz537) (by exact oz537) (by exact oz306 hz1) fun ho s15 hho x15 g15=>⟨Nat.le_of_ble_eq_true rfl,rfl,?_⟩)))
 refine mkFin (k:=k+7) F (by exact oz538 hmu hd1 htl) (by exact oz539) hch1 fun s16 f r d b R hf hr hd hb x16=>?_
 refine c47 (k:=k+2) F ht (by exact oz536 hmu hd1 htl) R hst (Nat.zero_le _) (Int.le_refl _) (by exact oz537) (by exact oz537) (by exact oz306 hz1) (x16 _ _ g15) fun to s17 hto f17 g17=>?_
 have x17:Ext s15 s17:=f17.exts x16 fun y hy=>by
  simp only [List.mem_cons,List.not_mem_nil,or_false] at hy
  rcases hy with rfl | rfl | rfl
  ·exact hf
  ·exact hd
  ·exact hb
 have x1217:Ext s12 s17:=x13.trans (x14.trans (x15.trans x17))
 exact H s17 bx th ra ma ho to t mu d2 (1+d3) ch _ _ _ ⟨x11.trans (x12.trans x1217),(B11.ext (x12.trans x1217)).le (by exact oz540 hmu hd1),hbx,x1217 _ _ g12,R13.ext (x14.trans (x15.trans x17)),x17 _ _ (x15 _ _ g14),x17 _ _ g15,g17,ht,hn,hst,by exact oz539,hch1,by exact oz537,by exact oz537,by exact oz306 hz1⟩
end
section
variable {C:Cx} {st:St} {k:Nat} {P:V→St→Prop}
structure LawB (st s:St) (ra ma ho:Addr) (t:List Nat) (start w ch:Nat) (x y z:Int):Prop where
 ext:Ext st s
 rows:RowsAt s ra t w ch
 mine:s ma=some (.list ((rep t w ch (t.length-start) start x y z 0).map stp))
 held:s ho=some (ofO x y z)
 ht:∀ x∈t,x<256
 hn:t.length<35
 hs:start≤t.length
 hw:1≤w
 hch:1≤ch
 pos:1≤x∧1≤y∧1≤z
theorem LawB.go {s s':St} {ra ma ho:Addr} {t:List Nat} {start w ch:Nat} {x y z:Int} (B:LawB st s ra ma ho t start w ch x y z) (e:Ext s s'):LawB st s' ra ma ho t start w ch x y z :=
 ⟨B.ext.trans e,B.rows.ext e,e _ _ B.mine,e _ _ B.held,B.ht,B.hn,B.hs,B.hw,B.hch,B.pos⟩
theorem stp_ne {l:List Stp} {a b:Int}:O.list (l.map stp)≠.list [.int a,.int b]:=by
 intro e
 injection e with e
 cases l with
 | nil=>cases e
 | cons x r=>injection e with e1 _;cases e1
theorem LawAt.b {s s':St} {bx th ra ma ho to:Addr} {t:List Nat} {start w ch:Nat} {x y z:Int} (A:LawAt st s bx th ra ma ho to t start w ch x y z) (f:Fra [bx] s s'):LawB st s' ra ma ho t start w ch x y z:=by
 refine ex2 (A.box.ex) fun bw bc zq0=>?_;have hb:=zq0.1;clear zq0
 have kp:∀ {q:Addr} {o:O},s q=some o→(∀ a b,o≠.list [.int a,.int b])→s' q=some o:=fun hq hne=>f _ _ (fun hm=>by rw [List.mem_singleton.mp hm,hb] at hq;exact hne _ _ (Option.some.inj hq).symm) hq
 refine ex1 (A.rows) fun as zq0=>?_;have r1:=zq0.1;have r2:=zq0.2.1;have r3:=zq0.2.2;clear zq0
 refine ⟨fra_box A.ext A.nobx f,⟨as,r1,kp r2 fun a b e=>?_,fun i q hq=>kp (r3 i q hq) fun _ _=>stp_ne⟩,kp A.mine fun _ _=>stp_ne,kp A.held fun _ _ e=>O.noConfusion e,A.ht,A.hn,A.hs,A.hw,A.hch,A.pos⟩
 injection e with e
 cases as with
 | nil=>cases e
 | cons x r=>injection e with e1 _;cases e1
theorem eqSt_s {Q:Bool→Prop} {a b:Addr} {l m:List Stp} (h:st a=some (.list (l.map stp))) (h':st b=some (.list (m.map stp))) (p:Q (decide (l=m))):eqW (.ref a) (.ref b) st Q :=
 ⟨_,.data (rep_steps h) (rep_steps h') (sh_steps l).shaped (sh_steps m).shaped,by rw [eqv_steps];exact p⟩
theorem eqTup_s {Q:Bool→Prop} {l m:List Int} (p:Q (decide (l=m))):eqW (.tup (l.map .int)) (.tup (m.map .int)) st Q :=
 ⟨_,.data (rep_intT l) (rep_intT m) (sh_intT l).shaped (sh_intT m).shaped,by rw [eqv_intT];exact p⟩
theorem ask1 (F:Fns C) {s:St} {sc:V} {bx th ra ma ho to:Addr} {t:List Nat} {mu start w ch:Nat} {x y z:Int} {R:Fl→Ls→St→Prop} (A:LawAt st s bx th ra ma ho to t start w ch x y z)
  (H:∀ s',LawB st s' ra ma ho t start w ch x y z→wpSs (CallF C (k+9)) (ir70.drop 8) (L70 sc t th ra to bx mu start w ch ma ho none none none none none none) s' R) :
  wpSs (CallF C (k+9)) (ir70.drop 7) (L70 sc t th ra to bx mu start w ch ma ho none none none none none none) s R:=by
 refine eqSt_s A.told A.mine (or_s (nI dI) (fun h=>absurd rfl h) fun _=>meth_s A.held rfl (c31 F A.held ?_))
 have hT:tupleR th s=fun Q=>Q (.tup [.int x,.int y,.int z]) s:=by
  funext Q
  unfold tupleR;rw [A.three]
 show tupleR th s _
 rw [hT]
 refine eqTup_s (l:=[x,y,z]) (m:=[x,y,z]) (or_s (nI dI) (fun h=>absurd rfl h) fun _=>?_)
 exact c68 F (n0:=100) (by decide) A.box fun s' f=>H s' (A.b f)
end
theorem short_pl {t:List Nat}:∀ {l:List Stp} {p:Nat},t.length<p+3→Pl t p l→l=lits t p
 | [],p,_,h=>by
  have h:p=t.length:=h
  unfold lits;rw [h,List.drop_length];rfl
 | x::r,p,hs,h=>by
  have h1:=h.1;have h2:=h.2.1;have h3:=h.2.2;clear h
  have hx:x=(0,t.getD p 0):=by
   rcases h2 with ⟨a,b⟩ | ⟨⟨a,b⟩,_⟩
   ·exact Prod.ext a b
   ·have:=alk_le t p x.2;exact (oz541 a b this hs).elim
  subst hx
  have:=short_pl (p:=p+1) (by exact oz505 hs) h3
  unfold lits at this ⊢
  rw [List.drop_eq_getElem_cons h1,List.map_cons,← this,List.getD_eq_getElem?_getD,List.getElem?_eq_getElem h1];rfl
theorem dd_fold:∀ (xs acc:List (List Stp)),acc.Nodup→(xs.foldl dd acc).Nodup∧(∃ r,xs.foldl dd acc=acc++r∧∀ y∈r,y∈xs)∧∀ y,y∈acc∨y∈xs→y∈xs.foldl dd acc
 | [],acc,h=>⟨h,⟨[],(List.append_nil _).symm,fun y h=>h⟩,fun y h=>h.resolve_right List.not_mem_nil⟩
 | x::xs,acc,h=>by
  have key:(dd acc x).Nodup∧(∃ r,dd acc x=acc++r∧∀ y∈r,y=x)∧x∈dd acc x:=by
   unfold dd
   by_cases hx:x∈acc
   ·rw [if_pos hx];exact ⟨h,⟨[],(List.append_nil _).symm,fun y h=>absurd h List.not_mem_nil⟩,hx⟩
   ·rw [if_neg hx]
    exact ⟨List.nodup_append.mpr ⟨h,List.nodup_cons.mpr ⟨List.not_mem_nil,List.nodup_nil⟩,fun a ha b hb e=>hx (List.mem_singleton.mp hb▸e▸ha)⟩,⟨[x],rfl,fun y h=>List.mem_singleton.mp h⟩,List.mem_append_right _ (List.mem_singleton.mpr rfl)⟩
  have k1:=key.1;refine ex1 key.2.1 fun r zq0=>?_;have k2:=zq0.1;have k3:=zq0.2;have k4:=key.2.2;clear zq0 key
  have zq0:=dd_fold xs _ k1;have h1:=zq0.1;refine ex1 zq0.2.1 fun r' zq1=>?_;have h2:=zq1.1;have h3:=zq1.2;have h4:=zq0.2.2;clear zq1 zq0
  refine ⟨h1,⟨r++r',by rw [List.foldl_cons,h2,k2,List.append_assoc],fun y hy=>?_⟩,fun y hy=>h4 y ?_⟩
  ·rcases List.mem_append.mp hy with hy | hy
   ·rw [k3 y hy];exact List.mem_cons_self ..
   ·exact List.mem_cons_of_mem _ (h3 y hy)
  ·rcases hy with hy | hy
   ·exact .inl (k2▸List.mem_append_left _ hy)
   ·rcases List.mem_cons.mp hy with rfl | hy
    ·exact .inl k4
    ·exact .inr hy
theorem dd_len:∀ (xs acc:List (List Stp)),(xs.foldl dd acc).length≤acc.length+xs.length
 | [],_=>Nat.le_refl _
 | x::xs,acc=>by
  have h:=dd_len xs (dd acc x)
  have:(dd acc x).length≤acc.length+1:=by
   unfold dd
   split
   ·exact Nat.le_succ _
   ·rw [List.length_append];exact Nat.le_refl _
  rw [List.foldl_cons,List.length_cons];exact oz171 this h
theorem one_kind {α:Type} {a:α}:∀ {l:List α},l.Nodup→(∀ x∈l,x=a)→l.length≤1
 | [],_,_=>Nat.zero_le _
 | [_],_,_=>Nat.le_refl _
 | x::y::r,h,q=>by
  have e:x=y:=(q x (List.mem_cons_self ..)).trans (q y (List.mem_cons_of_mem _ (List.mem_cons_self ..))).symm
  exact absurd (e▸List.mem_cons_self ..) (List.nodup_cons.mp h).1
structure EvOk (t:List Nat) (w ch start:Nat) (x y z:Int) (r:List (List Stp)):Prop where
 eq:evL t w ch start x y z=parL t w ch start::r
 nd:(evL t w ch start x y z).Nodup
 len:(evL t w ch start x y z).length≤4
 lit:lits t start∈evL t w ch start x y z
 mine:rep t w ch (t.length-start) start x y z 0∈evL t w ch start x y z
 few:(r.filter fun l=>decide (l∉[lits t start,rep t w ch (t.length-start) start x y z 0])).length≤1
 pl:∀ l∈evL t w ch start x y z,Pl t start l
 low:∃ l∈evL t w ch start x y z,Best t w ch start (pr2 (parL t w ch start)) l
theorem ev_ok {t:List Nat} {w ch start:Nat} {x y z:Int} (hn:t.length<35) (hs:start≤t.length) (hp:Pth t w ch start (parL t w ch start))
  (hB:¬ t.length-start<3→Best t w ch start (pr2 (lstF t w ch start (pr1 t start))) (lstF t w ch start (pr2 (lstF t w ch start (pr1 t start))))):∃ r,EvOk t w ch start x y z r:=by
 have hr:Pl t start (rep t w ch (t.length-start) start x y z 0):=rep_pl (by exact oz512 hn) (Nat.le_refl _) hs
 have hl:Pl t start (lits t start):=(lits_pth (w:=w) (ch:=ch) (n:=t.length-start) (by exact oz143 hs)).pl
 by_cases h3:t.length-start<3
 ·have e:evL t w ch start x y z=[lits t start]:=if_pos h3
  have ep:parL t w ch start=lits t start:=if_pos h3
  have er:=short_pl (by exact oz506 h3) hr
  refine ⟨[],by rw [e,ep],?_,by rw [e];exact Nat.le_add_left 1 3,?_,?_,Nat.zero_le _,?_,?_⟩
  ·rw [e];exact List.nodup_cons.mpr ⟨List.not_mem_nil,List.nodup_nil⟩
  ·rw [e];exact List.mem_singleton.mpr rfl
  ·rw [e];exact List.mem_singleton.mpr er
  ·rw [e];intro l h;rw [List.mem_singleton.mp h];exact hl
  ·rw [e];exact ⟨_,List.mem_singleton.mpr rfl,best_lits hs h3⟩
 ·have ep:parL t w ch start=lstF t w ch start (pr1 t start):=if_neg h3
  have e:evL t w ch start x y z=_:=if_neg h3
  have B2:=hB h3
  rw [← ep] at e B2
  generalize lstF t w ch start (pr2 (parL t w ch start))=l2 at *
  have zq0:=dd_fold [lits t start,l2,rep t w ch (t.length-start) start x y z 0] [parL t w ch start] (List.nodup_cons.mpr ⟨List.not_mem_nil,List.nodup_nil⟩);have d1:=zq0.1;refine ex1 zq0.2.1 fun r zq1=>?_;have d2:=zq1.1;have d3:=zq1.2;have d4:=zq0.2.2;clear zq1 zq0
  refine ⟨r,by rw [e,d2];rfl,by rw [e];exact d1,by rw [e];exact dd_len _ _,by rw [e];exact d4 _ (.inr (by simp)),by rw [e];exact d4 _ (.inr (by simp)),?_,?_,l2,by rw [e];exact d4 _ (.inr (by simp)),B2⟩
  ·rw [d2] at d1
   refine one_kind (a:=l2) (List.Pairwise.filter _ (List.nodup_cons.mp d1).2) fun q hq=>?_
   have zq0:=List.mem_filter.mp hq;have q1:=zq0.1;have q2:=zq0.2;clear zq0
   have q2:=of_decide_eq_true q2
   have:=d3 q q1
   simp only [List.mem_cons,List.not_mem_nil,or_false] at this q2
   rcases this with h | h | h
   ·exact absurd (.inl h) q2
   ·exact h
   ·exact absurd (.inr h) q2
  ·rw [e,d2]
   intro q hq
   rcases List.mem_append.mp hq with hq | hq
   ·rw [List.mem_singleton.mp hq];exact hp.pl
   ·have:=d3 q hq
    simp only [List.mem_cons,List.not_mem_nil,or_false] at this
    rcases this with rfl | rfl | rfl
    ·exact hl
    ·exact B2.1.pl
    ·exact hr
theorem best_min {t:List Nat} {w ch p:Nat} {pr:Stp→Int} {l:List Stp} {m:Int} (h:Best t w ch p pr l) (hm:IsMin t w ch pr p m):(l.map pr).sum=m:=by
 refine ex1 hm.1 fun l' zq0=>?_;have h1:=zq0.1;have h2:=zq0.2;have h3:=hm.2;clear zq0 hm
 exact Int.le_antisymm (h2▸h.2 l' h1) (h3 l h.1)
section
variable {C:Cx} {st:St} {k:Nat} {P:V→St→Prop}
theorem rep_ints {st:St} (l:List Int):Reps st (l.map .int) (l.map .int):=reps_map (fun x=>.int x) l
theorem sh_ints (l:List Int):Sh 1 (.list (l.map .int)):=Sh.list Sh.int l
theorem inI_s {Q:Bool→Prop} {i:Int} {b:Addr} {l:List Int} (hb:st b=some (.list (l.map .int))) (p:Q (decide (i∈l))):inR (.int i) b st Q:=by
 unfold inR;rw [hb]
 exact ⟨.int i,l.map .int,.int i,rep_ints l,(Sh.int i).shaped,(sh_ints l).shaped,by rw [any_map eqv_int];exact p⟩
theorem count_s {a b:Addr} {l:List Stp} {ps:APs} (h:st a=some (.list (l.map stp))) (hb:st b=some (.list (refs ps))) (hp:Sees st ps) (p:∀ c:Nat,c=@List.count _ instBEqOfDecidableEq l (ps.map (·.2))→P (.int c) st):countR b (.ref a) st P:=by
 unfold countR;rw [hb]
 exact ⟨stepsD l,(ps.map (·.2)).map stepsD,rep_steps h,hp.reps,(sh_steps l).shaped,(sh_stepss _).shaped,p _ (count_map eqv_steps _ _)⟩
theorem nodup_count {l:List (List Stp)} (h:l.Nodup) (a:List Stp):@List.count _ instBEqOfDecidableEq a l≤1:=by
 rw [@List.count_eq_length_filter (List Stp) instBEqOfDecidableEq]
 exact one_kind (List.Pairwise.filter _ h) fun x hx=>of_decide_eq_true (List.mem_filter.mp hx).2
end
section
variable {C:Cx} {st:St} {k:Nat} {P:V→St→Prop}
theorem ask2 (F:Fns C) {s:St} {sc:V} {bx th ra ma ho to:Addr} {t:List Nat} {mu start w ch:Nat} {x y z:Int} {R:Fl→Ls→St→Prop} (A:LawB st s ra ma ho t start w ch x y z)
  (H:∀ s' q a v,LawB st s' ra ma ho t start w ch x y z→s' q=some (.list [.ref a])→s' a=some (.list ((parL t w ch start).map stp))→Best t w ch start (pr1 t start) (parL t w ch start) →
   wpSs (CallF C (k+9)) (ir70.drop 12) (L70 sc t th ra to bx mu start w ch ma ho (some (.ref q)) (some v) none none none none) s' R) :
  wpSs (CallF C (k+9)) (ir70.drop 8) (L70 sc t th ra to bx mu start w ch ma ho none none none none none none) s R:=by
 refine c49l (k:=k) F A.ht A.hn A.hs A.hw A.hch fun q a s1 x1 g1 ga hB=>?_
 have hpl:=hB.1.pl
 have hok:=hpl.ok A.hn
 have hlen:=hpl.len
 have hn:=A.hn
 have hd:(t.drop start).length<60:=by rw [List.length_drop];exact oz507 hn
 refine slcB_s (cut_from t start) (c57a (k:=k+6) F hd fun v s2 x2 L=>?_)
 refine lenL_s (x2 _ _ g1) ?_
 refine idxL_s (x2 _ _ g1) rfl (c63 (k:=k+8) F A.ht (by exact oz542 hn) A.hs (x2 _ _ ga) hpl fun s3 x3=>?_)
 refine slcB_s (cut_from t start) (c43 (k:=k+5) F hd fun b s4 x4 B hb=>idxL_s (x4 _ _ (x3 _ _ (x2 _ _ g1))) rfl ?_)
 refine c69 (k:=k+5) F (L.ext x3) x4 B (hb _ (by unfold Bp.adr;simp)) (hb _ (by unfold Bp.adr;simp)) (x4 _ _ (x3 _ _ (x2 _ _ ga))) (by exact oz543 hlen hn) hok fun s5 f5=>?_
 have x5:Ext s3 s5:=f5.exts x4 fun y hy=>by
  simp only [List.mem_cons,List.not_mem_nil,or_false] at hy
  rcases hy with rfl | rfl <;> exact hb _ (by unfold Bp.adr;simp)
 have x25:=x3.trans x5
 have A5:=A.go (x1.trans (x2.trans x25))
 refine idxL_s (x25 _ _ (x2 _ _ g1)) rfl (c62 (k:=k+6) F (L.ext x25) (x25 _ _ (x2 _ _ ga)) (by exact oz544 hlen hn) hok fun s6 x6=>?_)
 refine c61 (k:=k+6) F A.hn A.hs (L.ext (x25.trans x6)) (A5.go x6).rows fun m s7 x7 hm=>?_
 refine ite_s (nI eI) (fun h=>absurd (best_min hB hm) h) fun _=>?_
 have x27:=x25.trans (x6.trans x7)
 exact H s7 q a v (A5.go (x6.trans x7)) (x27 _ _ (x2 _ _ g1)) (x27 _ _ (x2 _ _ ga)) hB
end
theorem filter_ff {α:Type} (l:List α):l.filter (fun _=>false)=[]:=List.filter_eq_nil_iff.mpr fun _ _ h=>Bool.noConfusion h
structure LawE (s:St) (qe:Addr) (ps:APs) (t:List Nat) (w ch start:Nat) (x y z:Int):Prop where
 list:s qe=some (.list (refs ps))
 sees:Sees s ps
 all:ps.map (·.2)=evL t w ch start x y z
theorem LawE.go {s s':St} {qe:Addr} {ps:APs} {t:List Nat} {w ch start:Nat} {x y z:Int} (E:LawE s qe ps t w ch start x y z) (e:Ext s s'):LawE s' qe ps t w ch start x y z:=⟨e _ _ E.list,E.sees.ext e,E.all⟩
section
variable {C:Cx} {st:St} {k:Nat} {P:V→St→Prop}
theorem ask3 (F:Fns C) {s:St} {sc:V} {bx th ra ma ho to q a:Addr} {t:List Nat} {mu start w ch:Nat} {x y z:Int} {v:V} {R:Fl→Ls→St→Prop} (A:LawB st s ra ma ho t start w ch x y z)
  (g1:s q=some (.list [.ref a])) (ga:s a=some (.list ((parL t w ch start).map stp))) (hB:Best t w ch start (pr1 t start) (parL t w ch start))
  (H:∀ s' v' qe ps r,LawB st s' ra ma ho t start w ch x y z→LawE s' qe ps t w ch start x y z→EvOk t w ch start x y z r→LpAt s' v' (i0s (parL t w ch start)) (i1s (parL t w ch start)) (i2s (parL t w ch start)) →
   wpSs (CallF C (k+9)) (ir70.drop 15) (L70 sc t th ra to bx mu start w ch ma ho (some (.ref q)) (some v) none none (some v') (some (.ref qe))) s' R) :
  wpSs (CallF C (k+9)) (ir70.drop 12) (L70 sc t th ra to bx mu start w ch ma ho (some (.ref q)) (some v) none none none none) s R:=by
 have hpl:=hB.1.pl
 have hok:=hpl.ok A.hn
 have hlen:=hpl.len
 have hn:=A.hn
 have hr:Pl t start (rep t w ch (t.length-start) start x y z 0):=rep_pl (by exact oz512 hn) (Nat.le_refl _) A.hs
 have hro:=hr.ok A.hn
 have hrl:=hr.len
 refine idxL_s g1 rfl (c57b (k:=k+6) F ga (by exact oz511 hlen hn) hok fun v' s1 x1 L=>?_)
 have zq0:=A.pos;have p1:=zq0.1;have p2:=zq0.2.1;have p3:=zq0.2.2;clear zq0
 refine c49b (k:=k) F A.ht A.hn A.hs A.hw A.hch p1 p2 p3 (x1 _ _ A.held) fun qe ps s2 hq x2 g2 S2 e2 hB2=>⟨Nat.le_of_ble_eq_true rfl,rfl,?_⟩
 refine ex1 (ev_ok (x:=x) (y:=y) (z:=z) A.hn A.hs hB.1 hB2) fun r E=>?_
 have x12:=x1.trans x2
 refine idxL_s (x12 _ _ g1) rfl (c44 (k:=k+5) F (x12 _ _ ga) (by exact oz511 hlen hn) hok fun b s3 x3 B hb=>?_)
 have x13:=x12.trans x3
 refine idxL_s (x13 _ _ g1) rfl (add_s (x13 _ _ ga) (x13 _ _ A.mine) (by rw [List.length_map,List.length_map];exact oz545 hlen hrl hn) fun q4 s4 hq4 x4 g4=>?_)
 rw [← List.map_append] at g4
 have x24:=x3.trans x4
 have nb:∀ y∈[b.e1,b.e2],s2 y=none:=fun y hy=>hb y (by unfold Bp.adr;simp only [List.mem_cons,List.not_mem_nil,or_false] at hy ⊢;rcases hy with h | h <;> simp [h])
 refine c69 (k:=k+5) F (L.ext x2) x24 (B.ext x4) (nb _ (by simp)) (nb _ (by simp)) g4 (by rw [List.length_append];exact oz546 hlen hrl hn) (fun y hy=>(List.mem_append.mp hy).elim (hok y) (hro y)) fun s5 f5=>?_
 have x25:Ext s2 s5:=f5.exts x24 nb
 have A5:=A.go (x12.trans x25)
 have L5:=L.ext (x2.trans x25)
 have E5:LawE s5 qe ps t w ch start x y z:=⟨x25 _ _ g2,S2.ext x25,e2⟩
 obtain ⟨⟨a0,l0⟩,ps',rfl,rfl⟩:∃ p0 ps',ps=p0::ps'∧p0.2=parL t w ch start:=by
  have:=e2.trans E.eq
  cases ps with
  | nil=>cases this
  | cons p0 ps'=>exact ⟨p0,ps',rfl,(List.cons.inj this).1⟩
 have xq:=x12.trans x25
 refine idxL_s E5.list (nth_lit (n:=0) rfl) (idxL_s (xq _ _ g1) rfl ?_)
 refine eqSt_s (E5.sees _ (List.mem_cons_self ..)) (xq _ _ ga) ?_
 refine or_s (nI dI) (fun h=>absurd rfl h) fun _=>?_
 have hlr:((a0,parL t w ch start)::ps').length≤1000:=by
  have:=E.len
  rw [← e2,List.length_map] at this;exact oz547 this
 refine comp_p (fun p:Addr×List Stp=>V.ref p.1) _ _ (fun _=>false) (fun p=>V.ref p.1) (iterL E5.list) (fun s e=>e _ _ E5.list) hlr (fun p s Nt Nf hp e ht hf=>?_) fun q6 s6 hq6 x6 g6=>?_
 ·have hP:=E.pl p.2 (e2▸List.mem_map_of_mem hp)
  exact c63 (k:=k+8) F A.ht (by exact oz542 hn) A.hs ((E5.go e).sees p hp) hP fun s' e'=>hf rfl s' e'
 ·rw [filter_ff] at g6
  refine ⟨Nat.le_of_ble_eq_true rfl,new_s fun q7 s7 hq7 x7 g7=>eqSt_s (l:=[]) (m:=[]) (x7 _ _ g6) g7 ?_⟩
  exact H s7 v' qe _ r (A5.go (x6.trans x7)) (E5.go (x6.trans x7)) E (L5.ext (x6.trans x7))
end
theorem filter_map_snd (f:List Stp→Bool):∀ ps:APs,(ps.filter fun p=>f p.2).length=((ps.map (·.2)).filter f).length
 | []=>rfl
 | p::r=>by
  rw [List.map_cons,List.filter_cons,List.filter_cons]
  cases f p.2 <;> simp [filter_map_snd f r]
section
variable {C:Cx} {st:St} {k:Nat} {P:V→St→Prop}
theorem ask4 (F:Fns C) {s:St} {sc:V} {bx th ra ma ho to qe:Addr} {t:List Nat} {mu start w ch:Nat} {x y z:Int} {v5 v6 v:V} {ps:APs} {r:List (List Stp)} {R:Fl→Ls→St→Prop} (A:LawB st s ra ma ho t start w ch x y z) (E:LawE s qe ps t w ch start x y z) (O:EvOk t w ch start x y z r)
  (L:LpAt s v (i0s (parL t w ch start)) (i1s (parL t w ch start)) (i2s (parL t w ch start)))
  (H:∀ ls s',Ext st s'→R (.ret (.bool true)) ls s') :
  wpSs (CallF C (k+9)) (ir70.drop 15) (L70 sc t th ra to bx mu start w ch ma ho (some v5) (some v6) none none (some v) (some (.ref qe))) s R:=by
 have hn:=A.hn
 have hlen:ps.length≤4:=by have:=O.len;rw [← E.all,List.length_map] at this;exact this
 obtain ⟨p0,ps',rfl,hr⟩:∃ p0 ps',ps=p0::ps'∧ps'.map (·.2)=r:=by
  have:=E.all.trans O.eq
  cases ps with
  | nil=>cases this
  | cons p0 ps'=>exact ⟨p0,ps',rfl,(List.cons.inj this).2⟩
 refine slcB_s (cut_from t start) (comp_a V.int (asI (t.drop start)) _ (fun i=>V.tup [.int 0,.int i]) (fun K hK=>iterBy _ s K hK) (fun s e=>trivial) (by unfold asI;rw [List.length_map,List.length_drop];exact oz467 hn) (fun o s1 N Nf ho e hN=>⟨Nat.le_of_ble_eq_true rfl,hN s1 (Ext.refl _)⟩) fun a1 s1 ha1 x1 g1=>?_)
 have g1:s1 a1=some (.list ((lits t start).map stp)):=by rw [g1];unfold lits asI;rw [List.map_map,List.map_map];rfl
 have E1:=E.go x1
 refine slcL_s E1.list (cut_from _ 1) fun a2 s2 ha2 x2 g2=>?_
 have g2:s2 a2=some (.list (ps'.map fun p=>V.ref p.1)):=g2
 have x12:=x1.trans x2
 have A2:=A.go x12
 have E2:=E1.go x2
 refine comp_p (fun p:Addr×List Stp=>V.ref p.1) ps' _ (fun p=>decide (p.2∉[lits t start,rep t w ch (t.length-start) start x y z 0])) (fun p=>V.ref p.1) (iterL g2) (fun s e=>e _ _ g2) (by rw [List.length_cons] at hlen;exact oz548 hlen) (fun p s3 Nt Nf hp e ht hf=>?_) fun a3 s3 ha3 x3 g3=>?_
 ·refine ⟨Nat.le_of_ble_eq_true rfl,new_s fun q4 s4 hq4 x4 g4=>?_⟩
  refine inSt_s (ps:=[(a1,lits t start),(ma,rep t w ch (t.length-start) start x y z 0)]) ((E2.go (e.trans x4)).sees p (List.mem_cons_of_mem _ hp)) g4 (fun p hp=>?_) fun c hc=>?_
  ·rcases List.mem_cons.mp hp with rfl | hp
   ·exact x4 _ _ (e _ _ (x2 _ _ g1))
   ·rw [List.mem_singleton.mp hp];exact (A2.go (e.trans x4)).mine
  ·refine and_s (nI hc) (fun q=>ht (decide_eq_true q) s4 x4) fun q=>hf (decide_eq_false q) s4 x4
 have E3:=E2.go x3
 have x13:=x12.trans x3
 refine inSt_s (x3 _ _ (x2 _ _ g1)) E3.list E3.sees fun c hc=>?_
 refine or_s (nI hc) (fun h=>absurd (E.all▸O.lit) h) fun _=>?_
 refine inSt_s (A.go x13).mine E3.list E3.sees fun c hc=>?_
 refine or_s (nI hc) (fun h=>absurd (E.all▸O.mine) h) fun _=>?_
 refine lenL_s g3 ?_
 have few:(ps'.filter fun p=>decide (p.2∉[lits t start,rep t w ch (t.length-start) start x y z 0])).length≤1:=by
  rw [filter_map_snd fun l=>decide (l∉[lits t start,rep t w ch (t.length-start) start x y z 0]),hr];exact O.few
 refine or_s dI (fun h=>?_) fun _=>?_
 ·rw [List.length_map] at h;exact (oz549 h few).elim
 have hl':(p0::ps').length≤1000:=Nat.le_trans hlen (by decide)
 refine comp_p (fun p:Addr×List Stp=>V.ref p.1) (p0::ps') _ (fun _=>false) (fun p=>V.ref p.1) (iterL E3.list) (fun s e=>e _ _ E3.list) hl' (fun p s4 Nt Nf hp e ht hf=>?_) fun a4 s4 ha4 x4 g4=>?_
 ·refine isLs_s (E3.go e).list (count_s ((E3.go e).sees p hp) (E3.go e).list (E3.go e).sees fun c hc=>?_)
  refine and_s dI (fun h=>?_) fun _=>hf rfl s4 (Ext.refl _)
  have:=nodup_count O.nd p.2
  rw [← E.all,← hc] at this;exact (oz549 h this).elim
 rw [filter_ff] at g4
 refine ⟨Nat.le_of_ble_eq_true rfl,new_s fun q5 s5 hq5 x5 g5=>eqSt_s (l:=[]) (m:=[]) (x5 _ _ g4) g5 ?_⟩
 have x15:=x13.trans (x4.trans x5)
 refine c61 (k:=k+6) F A.hn A.hs (L.ext x15) (A.go x15).rows fun m s6 x6 hm=>?_
 have x16:=x15.trans x6
 have E6:=E.go x16
 refine comp_a (fun p:Addr×List Stp=>V.ref p.1) (p0::ps') _ (fun p=>V.int (p.2.map (pr2 (parL t w ch start))).sum) (iterL E6.list) (fun s e=>e _ _ E6.list) hl' (fun p s7 N Nf hp e hN=>?_) fun a7 s7 ha7 x7 g7=>?_
 ·have hP:=O.pl p.2 (E.all▸List.mem_map_of_mem hp)
  have hPl:=hP.len
  exact c62 (k:=k+6) F (L.ext (x16.trans e)) ((E6.go e).sees p hp) (by exact oz544 hPl hn) (hP.ok A.hn) fun s' e'=>hN s' e'
 ·have g7:s7 a7=some (.list (((p0::ps').map fun p=>(p.2.map (pr2 (parL t w ch start))).sum).map .int)):=by rw [g7,List.map_map];rfl
  refine inI_s g7 ?_
  have hm':m∈(p0::ps').map fun p=>(p.2.map (pr2 (parL t w ch start))).sum:=by
   refine ex1 (O.low) fun l zq0=>?_;have h1:=zq0.1;have h2:=zq0.2;clear zq0
   rw [← E.all] at h1
   refine ex1 (List.mem_map.mp h1) fun p zq0=>?_;have hp:=zq0.1;obtain rfl:=zq0.2;clear zq0
   exact List.mem_map.mpr ⟨p,hp,best_min h2 hm⟩
  rw [decide_eq_true hm']
  exact H _ _ ((A.go x16).ext.trans x7)
end
section
variable {C:Cx} {st:St} {k:Nat} {P:V→St→Prop}
theorem c70 (F:Fns C) {ns:List Int} (hP:∀ s,Ext st s→P (.bool true) s):CallF C (k+10) 70 [.flist (ns.map .int)] st P:=by
 refine call0 F 70 (by decide) rfl ?_
 exact setup70 F fun s bx th ra ma ho to t mu start w ch x y z A=>ask1 F A fun s1 B1=>ask2 F B1 fun s2 q a v B2 g2 ga hB=>ask3 F B2 g2 ga hB fun s3 v' qe ps r B3 E O L=>ask4 F B3 E O L fun ls s' x'=>hP s' x'
end
theorem frag_in (h:Heap):∀ {l:List Addr},Frag.In (l.filterMap fun a=>(h.get? a).map fun o=>(a,o)) h
 | [],a,o,e=>by cases e
 | b::l,a,o,e=>by
  rw [List.filterMap_cons] at e
  cases q:h.get? b with
  | none=>rw [q] at e;exact frag_in h a o e
  | some x =>
   rw [q] at e
   dsimp only [Option.map] at e
   rw [List.lookup_cons] at e
   cases z:a==b with
   | true=>rw [z] at e;cases e;rw [beq_iff_eq.mp z];exact q
   | false=>rw [z] at e;exact frag_in h a o e
theorem ns_same {h:Heap} {a:Addr} {m m':Str→Option Value} (x:h.Ns a m) (y:h.Ns a m'):m=m':=by
 obtain ⟨o,es,ep,h1,h2,_,h3⟩:=x
 obtain ⟨o',es',ep',g1,g2,_,g3⟩:=y
 rw [h1] at g1;cases g1
 rw [h2] at g2;cases g2
 exact funext fun n=>(h3 n).symm.trans (g3 n)
theorem mem_lookup {α β:Type} [BEq α] [LawfulBEq α] {a:α} {b:β}:∀ {l:List (α×β)},l.lookup a=some b→(a,b)∈l
 | (x,y)::l,h=>by
  rw [List.lookup_cons] at h
  cases z:a==x with
  | true=>rw [z] at h;cases h;rw [beq_iff_eq.mp z];exact List.mem_cons_self ..
  | false=>rw [z] at h;exact List.mem_cons_of_mem _ (mem_lookup h)
structure On (C:Cx) (h:Heap):Prop where
 ok:heapOk h=true
 sub:∀ b o,h.get? b=some o→C.h0.get? b=some o
 K:C.K=frag h
 fn:C.fn=fnA
 cl:C.cl=clA
theorem fn_lt {f:Nat} {x:String} (h:funNames.lookup f=some x):f<74:=by
 have:=mem_lookup h
 have:∀ p∈funNames,p.1<74:=by decide
 exact this _ (mem_lookup h)
theorem mt_at {c m f:Nat} (h:mt c m=some f):c<6∧f<71∧∃ l,mtL.zipIdx.contains (l,c)=true∧(m,f)∈l:=by
 have hc:=(mt_lt h).1
 unfold mt at h
 have hm:=mem_lookup h
 refine ⟨hc,?_,mtL.getD c [],?_,hm⟩
 ·have:∀ c<6,∀ p∈mtL.getD c [],p.2<71:=by decide
  exact this c hc _ hm
 ·have:∀ c<6,mtL.zipIdx.contains (mtL.getD c [],c)=true:=by decide
  exact this c hc
section
variable {C:Cx} {h:Heap}
theorem On.mg (X:On C h) (x:Str):C.mg x=h.nsMap mainGlobals x:=by
 have k:=X.ok
 have k:=heapOk_1 k
 unfold heapOk1 at k
 simp only [Bool.and_eq_true] at k
 exact congrFun (ns_same C.gl ((Heap.Ns.of_isNs k.1.1.1.1.1.1.1.1.1.1.1.1).keeps X.sub)) x
theorem On.K_in (X:On C h):C.K.In h:=by rw [X.K];exact frag_in h
theorem WR.old {st:St} {h':Heap} (W:WR C st h') {b:Addr} {o:Obj} (e:C.h0.get? b=some o):st b=none∧h'.get? b=some o:=by
 refine ⟨?_,W.keep _ _ e⟩
 cases q:st b with
 | none=>rfl
 | some x=>rw [(W.obj _ _ q).1] at e;cases e
theorem two_vrs {st:St} {h':Heap} {l:List Value} {x y:V} (e:l.length=2) (a:VR st h' x (l.getD 0 .none)) (b:VR st h' y (l.getD 1 .none)):VRs st h' [x,y] l:=by
 refine VRs.iff.mpr ⟨e.symm,fun i z v hz hv=>?_⟩
 have g:l.getD i .none=v:=by rw [List.getD_eq_getElem?_getD,hv];rfl
 cases i with
 | zero=>cases hz;exact g▸a
 | succ i=>cases i with
  | zero=>cases hz;exact g▸b
  | succ i=>cases hz
theorem rows_vr (X:On C h) (k:rowsOk h=true) {st:St} {h':Heap} (W:WR C st h'):VR st h' rowsV (.ref 481):=by
 have tup:∀ {v:Value} {p:Int×Int},tupOk h v p=true→VR st h' (.tup [.int p.1,.int p.2]) v:=fun {v p} e=>by
  refine ex1 (onRef_k e) fun a z=>?_;have e1:=z.1;subst e1
  refine ex1 (any_k z.2) fun o z=>?_
  refine b2 z.2 fun c y=>?_
  refine ex2 (onSeq_k y) fun vs n y=>?_
  refine b2 y.2 fun l2 l3=>b2 l2 fun l1 l2=>?_
  refine ex2 (onIntB_k l2) fun i ti u=>?_
  refine ex2 (onIntB_k l3) fun j tj w=>?_
  have hi:=beq_iff_eq.mp u.2;subst hi
  have hj:=beq_iff_eq.mp w.2;subst hj
  have zz:=W.old (X.sub _ _ z.1)
  exact ⟨a,o,vs,n,rfl,zz.1,zz.2,beq_iff_eq.mp c,y.1,two_vrs (beq_iff_eq.mp l1) (u.1▸Exists.intro ti rfl) (w.1▸Exists.intro tj rfl),Nat.le_of_ble_eq_true rfl⟩
 have all:∀ {vs:List Value} {ps:List (Int×Int)},tupsOk h vs ps=true→VRs st h' (ps.map fun p=>.tup [.int p.1,.int p.2]) vs:=by
  intro vs
  induction vs with
  | nil=>intro ps e;cases ps with | nil=>rfl | cons _ _=>cases e
  | cons v vs ih =>
   intro ps e
   cases ps with
   | nil=>cases e
   | cons p ps =>
    have e:(tupOk h v p&&tupsOk h vs ps)=true:=e
    rw [Bool.and_eq_true] at e
    exact .cons (tup e.1) (ih e.2)
 refine ex1 (any_k k) fun o z=>?_
 refine b2 z.2 fun c y=>?_
 refine ex2 (onSeq_k y) fun vs n y=>?_
 have zz:=W.old (X.sub _ _ z.1)
 exact ⟨481,o,vs,n,rfl,zz.1,zz.2,beq_iff_eq.mp c,y.1,all y.2,by decide⟩
theorem cxok (X:On C h):CxOk C:=by
 have k:=X.ok
 have k:=heapOk_1 k
 unfold heapOk1 at k
 simp only [Bool.and_eq_true] at k
 obtain ⟨⟨⟨⟨⟨⟨⟨⟨⟨⟨⟨⟨-,-⟩,k1⟩,k2⟩,k3⟩,k4⟩,k5⟩,k6⟩,k7⟩,k8⟩,k9⟩,k10⟩,k11⟩:=k
 have c1:∀ c<6,clsOk1 C.K h c=true:=fun c hc=>by rw [X.K];exact List.all_eq_true.mp k1 c (List.mem_range.mpr hc)
 have c2:∀ c m f,mt c m=some f→findIn C.K (.ref (C.cl c)) (mname m)=some (some (.ref (C.fn f))):=fun c m f hm=>by
  obtain ⟨-,-,l,h1,h2⟩:=mt_at hm
  have:=List.all_eq_true.mp (List.all_eq_true.mp k2 _ (List.contains_iff_mem.mp h1)) _ h2
  rw [X.K,X.cl,X.fn];exact beq_iff_eq.mp this
 have c3:∀ f<74,typeIn C.K (.ref (C.fn f))=some (.type "function")∧keepIn C.K (.ref (C.fn f))=true:=fun f hf=>by
  have:=List.all_eq_true.mp k3 f (List.mem_range.mpr hf)
  unfold fnOk1 at this
  rw [Bool.and_eq_true,beq_iff_eq] at this
  rw [X.K,X.fn];exact this
 have gl:∀ x v,glb h x v=true→C.mg x=some v:=fun x v e=>by rw [X.mg];exact beq_iff_eq.mp e
 have cl:=X.cl
 have hX:=X.K_in
 have dot:∀ D x v,dotOk C.K D x v=true→readsIn C.K D (.type "type")=true∧specialIn C.K (.ref D) "__getattribute__"=some (some (.builtin "type.__getattribute__"))∧findCls C.K (.ref D) (.type "type") x=some (.val v)∧handedIn v=true:=fun D x v e=>by
  unfold dotOk at e
  simp only [Bool.and_eq_true,beq_iff_eq] at e
  obtain ⟨⟨⟨e1,e2⟩,e3⟩,e4⟩:=e
  refine ⟨e1,e2,?_,e4⟩
  split at e3
  ·rename_i u hu;rw [hu,beq_iff_eq.mp e3]
  ·cases e3
 refine { cls:=?_,eq:=eqOk C,late:=biLate C,consts:=?_,funs:=?_,meths:=?_,clss:=?_,init:=?_,mat:=?_,rows:=?_,bis:=?_ }
 ·have d:∀ c<6,_:=fun c hc=>by
   have:=c1 c hc
   unfold clsOk1 at this
   simp only [Bool.and_eq_true,beq_iff_eq] at this
   exact this
  exact {
   get:=fun c hc=>by rw [cl];exact (d c hc).1.1.1.1.1.1.1.1
   geta:=fun c hc=>by rw [cl];exact (d c hc).1.1.1.1.1.1.1.2
   dict:=fun c hc=>by rw [cl];exact (d c hc).1.1.1.1.1.1.2
   set:=fun c hc=>by rw [cl];exact (d c hc).1.1.1.1.1.2
   over:=fun c hc=>by rw [cl];exact (d c hc).1.1.1.1.2
   fld:=fun c hc f hf=>by rw [cl];exact beq_iff_eq.mp (List.all_eq_true.mp (d c hc).1.1.1.2 f hf)
   meth:=fun c m f hm=>⟨c2 c m f hm,(c3 f (Nat.lt_trans (mt_at hm).2.1 (by decide))).1⟩
   make:=fun c hc=>by rw [cl];exact (d c hc).1.1.2 }
 ·intro x i hx
  have:=List.all_eq_true.mp k4 _ (mem_lookup hx)
  rw [X.mg]
  refine ex1 (any_k this) fun v z=>?_
  refine ex2 (onIntB_k z.2) fun j t y=>?_
  rw [z.1,y.1,beq_iff_eq.mp y.2];exact ⟨t,rfl⟩
 ·intro f hf
  obtain ⟨x,hx⟩:=Option.isSome_iff_exists.mp hf
  have hl:=fn_lt hx
  have:=List.all_eq_true.mp k5 f (List.mem_range.mpr hl)
  rw [hx] at this
  refine ⟨?_,(c3 f hl).2⟩
  unfold funName
  rw [hx,X.fn];exact gl _ _ this
 ·exact fun c m f hm=>(c3 f (Nat.lt_trans (mt_at hm).2.1 (by decide))).2
 ·intro c hc
  have:=c1 c hc
  unfold clsOk1 at this
  simp only [Bool.and_eq_true] at this
  rw [cl]
  exact ⟨gl _ _ this.1.2,this.2⟩
 ·intro c f hm hp hi
  refine ⟨looks_findIn hi (c2 c 0 f hm),fun self=>?_⟩
  unfold bindSpecial
  exact Looks.andThen (looks_typeIn hi (c3 f (Nat.lt_trans (mt_at hm).2.1 (by decide))).1) .now
 ·refine ⟨188,gl _ _ k7,(c3 4 (by decide)).2,fun {A s pl Q E} hi hq=>?_⟩
  rw [← X.K] at k8
  obtain ⟨e1,e2,e3,e4⟩:=dot _ _ _ k8
  rw [X.fn] at hq
  exact method_cls hi e2 (cls_value hi e1 e3 e4 (hq _))
 ·rw [← X.K] at k10
  obtain ⟨e1,e2,e3,e4⟩:=dot _ _ _ k10
  exact ⟨544,.ref 481,gl _ _ k9,fun st h' W=>rows_vr X k11 W,fun {A s Q E} hi hq=>cls_value hi e1 e3 e4 (hq _)⟩
 ·intro b
  refine ⟨?_,by cases b <;> rfl⟩
  have:=List.all_eq_true.mp k6 b (by cases b <;> decide)
  rw [X.mg];exact beq_iff_eq.mp this
end
theorem plain_of {a:Arguments} (h:plainArgs a=true):a.posonlyargs=[]∧a.vararg=none∧a.kwonlyargs=[]∧a.kwarg=none:=by
 unfold plainArgs at h
 simp only [Bool.and_eq_true,List.isEmpty_iff,Option.isNone_iff_eq_none] at h
 exact ⟨h.1.1.1,h.1.1.2,h.1.2,h.2⟩
theorem zip_some:∀ {names:List Str} {vals:List Value},vals.length=names.length→∀ n∈names,((names.zip vals).lookup n).isSome=true
 | x::ns,v::vs,h,n,hn=>by
  rw [List.zip_cons_cons,List.lookup_cons]
  split
  ·rfl
  ·rename_i q
   rcases List.mem_cons.mp hn with rfl | hn
   ·simp at q
   ·exact zip_some (by simpa using h) n hn
theorem fm_congr {α β:Type} {f g:α→Option β}:∀ {l:List α},(∀ n∈l,f n=g n)→l.filterMap f=l.filterMap g
 | [],_=>rfl
 | x::l,h=>by rw [List.filterMap_cons,List.filterMap_cons,h x (List.mem_cons_self ..),fm_congr fun n hn=>h n (List.mem_cons_of_mem _ hn)]
theorem zip_get:∀ {names:List Str} {vals:List Value},names.Nodup→vals.length=names.length→names.filterMap (fun n=>((names.zip vals).lookup n).map (n,·))=names.zip vals
 | [],[],_,_=>rfl
 | x::ns,v::vs,nd,h=>by
  rw [List.nodup_cons] at nd
  have e:((x::ns).zip (v::vs)).lookup x=some v:=by rw [List.zip_cons_cons,List.lookup_cons];simp
  have e2:∀ n∈ns,(((x::ns).zip (v::vs)).lookup n).map (n,·)=((ns.zip vs).lookup n).map (n,·):=fun n hn=>by
   rw [List.zip_cons_cons,List.lookup_cons]
   have:(n==x)=false:=by
    rw [beq_eq_false_iff_ne];rintro rfl;exact nd.1 hn
   rw [this]
  rw [List.filterMap_cons,e]
  show (x,v)::ns.filterMap _=_
  rw [fm_congr e2,zip_get nd.2 (by simpa using h),List.zip_cons_cons]
theorem loop_same {ε:Type} {slots:List (Str×Value)}:∀ {l:List (Str×Value)},(∀ p∈l,(slots.lookup p.1).isSome=true) →
  (forIn l slots fun x s=>(if (List.lookup x.1 s).isNone=true then pure (ForInStep.yield (s++[(x.1,x.2)])) else pure (ForInStep.yield s):Sem (ForInStep (List (Str×Value)))))=pure slots
 | [],_=>rfl
 | x::l,h=>by
  rw [List.forIn_cons]
  have:=h x (List.mem_cons_self ..)
  rw [if_neg (by rw [Option.isNone_iff_eq_none];intro e;rw [e] at this;cases this),pure_bind]
  exact loop_same (ε:=ε) fun p hp=>h p (List.mem_cons_of_mem _ hp)
theorem five {α:Type} {l:List α} (h:l.length=5):∃ a b c d e,l=[a,b,c,d,e]:=by
 have u:∀ {l:List α} {n:Nat},l.length=n+1→∃ a r,l=a::r∧r.length=n:=fun {l} {n} h=>by
  cases l with
  | nil=>cases h
  | cons a r=>exact ⟨a,r,rfl,Nat.succ.inj h⟩
 obtain ⟨a,l1,h1,h⟩:=u h
 obtain ⟨b,l2,h2,h⟩:=u h
 obtain ⟨c,l3,h3,h⟩:=u h
 obtain ⟨d,l4,h4,h⟩:=u h
 obtain ⟨e,l5,h5,h⟩:=u h
 exact ⟨a,b,c,d,e,by rw [h1,h2,h3,h4,h5,List.length_eq_zero_iff.mp h]⟩
theorem bind_rest {fd:FuncData} {names:List Str} {vals:List Value} (hp:plainArgs fd.params=true) (hn:fd.params.args.map (·.arg)=names):∃ rest:Option (Array Value)→Sem (List (Str×Value)),bindArgs fd ⟨vals,[]⟩=(seqItems? fd.defaults >>= rest) ∧
  (names.Nodup→vals.length=names.length→∀ o,rest o=pure (names.zip vals))∧(names=parOf 26→vals.length=5→rest (some #[.none])=pure ((parOf 26).zip (vals++[.none]))):=by
 obtain ⟨h1,h2,h3,h4⟩:=plain_of hp
 have q:∀ p:Arguments,p.posonlyargs=[]→p.vararg=none→p.kwonlyargs=[]→p.kwarg=none→p=⟨[],p.args,none,[],p.kw_defaults,none,p.defaults⟩:=by
  rintro ⟨⟩ rfl rfl rfl rfl;rfl
 have e:bindArgs fd ⟨vals,[]⟩=bindArgs { fd with params:=⟨[],fd.params.args,none,[],fd.params.kw_defaults,none,fd.params.defaults⟩ } ⟨vals,[]⟩:=congrArg (fun p=>bindArgs { fd with params:=p } ⟨vals,[]⟩) (q _ h1 h2 h3 h4)
 refine ⟨_,e.trans (pure_bind _ _),fun nd hl o=>?_,fun e hl=>?_⟩
 ·dsimp only
  generalize hM:(List.map (fun x:Arg=>x.arg) []++List.map (fun x:Arg=>x.arg) fd.params.args)=M
  obtain rfl:names=M:=hn.symm.trans hM
  rw [if_neg (by rw [hl];simp)]
  have hs:=zip_some hl
  rw [if_neg (by
   rw [List.filter_eq_nil_iff.mpr fun n hn'=>?_]
   ·simp
   ·have:=hs n (List.mem_of_mem_take hn')
    intro e;rw [Option.isNone_iff_eq_none] at e;rw [e] at this;cases this)]
  rw [loop_same (ε:=Unit) fun p hp'=>hs _ (List.mem_of_mem_drop (List.of_mem_zip hp').1),pure_bind]
  exact (pure_bind _ _).trans (congrArg pure ((congrArg (List.filterMap _) (List.append_nil names)).trans (zip_get nd hl)))
 ·subst e
  obtain ⟨a,b,c,d,e,rfl⟩:=five hl
  dsimp only
  rw [hn]
  kernel_rfl
theorem binds_all {s:Shared} {fd:FuncData} {names:List Str} {vals:List Value} (hp:plainArgs fd.params=true) (hn:fd.params.args.map (·.arg)=names) (nd:names.Nodup) (hl:vals.length=names.length)
  (hd:∀ (M:Model) (A:Around) (E:Value→Shared→Prop) (Q:Option (Array Value)→Shared→Prop),(∀ o,Q o s)→wpAny M A (seqItems? fd.defaults) Q E s):BindsTo s fd ⟨vals,[]⟩ (names.zip vals):=by
 intro M A E Q hq
 obtain ⟨rest,e,r,_⟩:=bind_rest (vals:=vals) hp hn
 rw [e]
 exact wpAny_bind (hd _ _ _ _ fun o=>by rw [r nd hl];exact wpAny_pure hq)
theorem binds_26 {s:Shared} {fd:FuncData} {vals:List Value} {items:Array Value} (hp:plainArgs fd.params=true) (hn:fd.params.args.map (·.arg)=parOf 26) (hl:vals.length=5) (hi:items.toList=[.none])
  (hd:∀ (M:Model) (A:Around) (E:Value→Shared→Prop) (Q:Option (Array Value)→Shared→Prop),Q (some items) s→wpAny M A (seqItems? fd.defaults) Q E s):BindsTo s fd ⟨vals,[]⟩ ((parOf 26).zip (vals++[.none])):=by
 intro M A E Q hq
 obtain ⟨rest,e,_,r⟩:=bind_rest (vals:=vals) hp hn
 rw [e]
 refine wpAny_bind (hd _ _ _ _ ?_)
 rw [show items=#[.none] from Array.toList_inj.mp hi,r rfl hl]
 exact wpAny_pure hq
theorem frag_get {h:Heap} {a:Addr}:∀ {l:List Addr},a∈l→∀ o,h.get? a=some o→(l.filterMap fun a=>(h.get? a).map fun o=>(a,o)).lookup a=some o
 | b::l,hm,o,e=>by
  rw [List.filterMap_cons]
  by_cases hab:a=b
  ·subst hab;rw [e]
   show List.lookup a ((a,o)::_)=_
   rw [List.lookup_cons,beq_self_eq_true]
  ·have:=frag_get (l:=l) ((List.mem_cons.mp hm).resolve_left hab) o e
   cases q:h.get? b with
   | none=>exact this
   | some x =>
    show List.lookup a ((b,x)::_)=_
    rw [List.lookup_cons,beq_eq_false_iff_ne.mpr hab];exact this
section
variable {C:Cx} {h:Heap}
theorem par_nodup:∀ f<71,(parOf f).Nodup:=by decide +kernel
theorem dfl_mem:∀ f<71,∀ p∈dfl f,p.1∈fragL:=by decide
theorem dfl_seq (X:On C h) {f:Nat} (hf:f<71) {v:Value} (hd:dflOk h f v=true) {s:Shared} (hK:C.K.In s.heap):∃ o:Option (Array Value),(∀ (M:Model) (A:Around) (E:Value→Shared→Prop) (Q:Option (Array Value)→Shared→Prop),Q o s→wpAny M A (seqItems? v) Q E s)∧(f=26→∃ it,o=some it∧it.toList=[.none]):=by
 unfold dflOk at hd
 cases q:dfl f with
 | none =>
  rw [q] at hd
  rw [beq_iff_eq.mp (show (v==.none)=true from hd)]
  refine ⟨none,fun M A E Q hq=>wpAny_of_eq (a:=none) rfl hq,fun e=>?_⟩
  subst e;cases q
 | some p =>
  rw [q] at hd
  refine b2 hd fun h1 h2=>?_
  have h1:=beq_iff_eq.mp h1;subst h1
  refine ex1 (any_k h2) fun o z=>?_
  refine ex2 (onSeq_k z.2) fun vs n y=>?_
  have g:s.heap.get? p.1=_:=hK p.1 _ (by rw [X.K];exact frag_get (dfl_mem f hf p q) _ z.1)
  refine ⟨some vs,fun M A E Q hq=>wpAny_seqItems g y.1 hq,fun e=>?_⟩
  subst e;cases q
  exact ⟨vs,rfl,b2 y.2 fun _ u=>beq_iff_eq.mp u⟩
theorem fns (X:On C h):Fns C:=by
 have k:=heapOk_2 X.ok
 have main:∀ f<71,∀ dvs,(dvs=[]∨f=26∧dvs=[.none])→FnAt C f dvs:=fun f hf dvs hdv=>by
  have:=k f hf
  refine ex1 (any_k this) fun ob z=>?_;have ha:=z.1
  refine ex1 (onFun_k z.2) fun fd z=>?_;have hf1:=z.1
  refine ex1 (onBody_k z.2) fun ss z=>?_;have hb:=z.1;have this:=z.2;clear z
  have this:=this
  simp only [Bool.and_eq_true,beq_iff_eq,Bool.not_eq_true',List.isEmpty_iff] at this
  obtain ⟨⟨⟨⟨⟨⟨⟨⟨⟨⟨⟨t1,t2⟩,t3⟩,t4⟩,t5⟩,t6⟩,t7⟩,t8⟩,t9⟩,t10⟩,t11⟩,t12⟩:=this
  refine ⟨_,fd,ss,fd.scope.names,by rw [X.fn];exact X.sub _ _ ha,hf1,hb,?_,t4,t5,t6,rfl,t7,t8,t9,t1,t2,fun s vals hK hl=>?_⟩
  ·refine ex1 (onRef_k t3) fun cc z=>?_
   refine ex1 (any_k z.2) fun o y=>?_
   refine ex1 (onFld_k y.2) fun vs x=>?_
   refine ex1 (any_k x.2) fun v w=>?_
   refine ex2 (onStrB_k w.2) fun q tk u=>?_
   have hv:=u.1;subst hv
   exact ⟨cc,o,vs,tk,z.1,X.sub _ _ y.1,x.1,by rw [← beq_iff_eq.mp u.2];exact w.1⟩
  ·refine ex1 (dfl_seq X hf t12 hK) fun o z=>?_;have o1:=z.1
   rcases hdv with rfl | ⟨rfl,rfl⟩
   ·exact ⟨[],by rw [List.append_nil];exact binds_all t10 t11 (par_nodup f hf) (by simpa using hl) fun M A E Q hq=>o1 M A E Q (hq o),fun st W=>rfl⟩
   ·obtain ⟨it,rfl,hi⟩:=z.2 rfl
    exact ⟨[.none],binds_26 t10 t11 (by have:vals.length+1=6:=hl;omega) hi o1,fun st W=>.one (rfl)⟩
 exact ⟨cxok X,fun f hf=>main f hf [] (.inl rfl),main 26 (by decide) _ (.inr ⟨rfl,rfl⟩)⟩
end
set_option maxRecDepth 100000
theorem items_int {R:WRecords}:∀ {xs:List WData},WShape.hasItems R xs .int=true→∃ ns:List Int,xs=ns.map .int
 | [],_=>⟨[],rfl⟩
 | x::xs,h=>by
  have h:(WShape.has R x .int&&WShape.hasItems R xs .int)=true:=h
  rw [Bool.and_eq_true] at h
  obtain ⟨i,rfl⟩:=hasW_int h.1
  obtain ⟨ns,rfl⟩:=items_int h.2
  exact ⟨i::ns,rfl⟩
theorem reads_ints {R:WRecords} {cl:Str→Option Addr} {h:Heap} {st:St}:∀ {ns:List Int} {vs:List Value} {as:List Addr},ReadsAllW R cl h vs (ns.map .int) as→VRs st h (ns.map .int) vs
 | [],vs,as,e=>by cases e;rfl
 | n::ns,vs,as,e=>by
  cases e with
  | cons a b =>
   cases a
   exact .cons (Exists.intro _ rfl) (reads_ints b)
noncomputable def SaysL (w:World) (h:Heap):Prop:=∃ h1,heapOk h1=true∧∀ b o,h1.get? b=some o→h.get? b=some o
noncomputable abbrev R0:OpenRow:=PySem.Challenge.rw_nz0425_01.row
theorem walk {d:DefRec} {kwd:List (Str×Expr)} (hd:d.name="law"):WalkO Hd.qv Hd.loose (fun _ _=>True) SaysL R0.toRowW d kwd fun f vs=>PySem.call f vs:=by
 intro w s₀ s₁ mg mb G Y a o pm cd doc dV kV ho hod hcd hD hmg hg args vals as hpre hlay hrd hwl hlo
 obtain ⟨h1,k1,k2⟩:=Y
 obtain ⟨x,r,rfl,e1,e2⟩:=hasAllW_cons (pre_splitW hpre).1
 obtain rfl:=hasAllW_nil e2
 obtain ⟨xs,rfl,e3⟩:=hasW_list e1
 obtain ⟨ns,rfl⟩:=items_int e3
 obtain ⟨v,vs,as1,as2,rfl,rfl,r1,r2⟩:=readsAllW_cons_inv hrd
 obtain ⟨rfl,rfl⟩:=readsAllW_nil_inv r2
 have hlen:=length_le_of_layableW (layableW_arg hlay _ (List.mem_cons_self ..))
 cases r1 with
 | @list l ob its n ys bs g1 g2 g3 g4 =>
  have hm:s₁.heap.get? sysModules≠none:=by
   have k:=heapOk_1 k1
   unfold heapOk1 at k
   simp only [Bool.and_eq_true] at k
   obtain ⟨o,ho⟩:=Option.isSome_iff_exists.mp k.1.1.1.1.1.1.1.1.1.1.1.2
   rw [k2 _ _ ho];exact Option.some_ne_none _
  let C:Cx:=⟨PySem.Challenge.pw_nz0425_01,w,s₁.heap,frag h1,mg,mb,fnA,clA,(frag_in h1).keeps k2,G.T.g,G.T.b,G.T.builtins,G.T.nolimit,hm⟩
  have X:On C h1:=⟨k1,k2,rfl,rfl,rfl⟩
  have F:=fns X
  have ha:a=fnA 70:=by
   have:=((cxok X).funs 70 rfl).1
   have e:mg (funName 70)=some (.ref (fnA 70)):=this
   rw [hd] at hmg
   have e':mg (funName 70)=some (.ref a):=hmg
   rw [e] at e';cases e';rfl
  subst ha
  have W:WR C (fun _=>none) s₁.heap:=⟨fun b o e=>e,fun a o e=>nomatch e⟩
  have V0:VR (fun _=>none) s₁.heap (.flist (ns.map .int)) (.ref l):=by
   exact ⟨l,ob,its,n,rfl,rfl,g1,g2,g3,reads_ints g4,by rw [List.length_map] at hlen ⊢;omega⟩
  refine enter_call (codeAny_mono (c70 (k:=0) (P:=fun v _=>v=.bool true) F (fun s _=>rfl) callerA s₁ [.ref l] ⟨by decide,by decide,rfl⟩ W (.one V0)) fun res s' hr=>?_)
  obtain ⟨u,rfl,y,st',W',S',V',rfl⟩:=hr
  subst V'
  refine GoodW.toG ⟨.inl ⟨.bool true,.bool true,[],rfl,fun _=>rfl,.bool true,by kernel_rfl,fun _=>⟨List.nodup_nil,fun _ h=>nomatch h⟩⟩,fun b o e=>S'.keep b o rfl (fun h=>nomatch h) e,S'.os,?_⟩
  rw [S'.gens];exact hg
set_option maxHeartbeats 0
theorem said1:PySem.Challenge.rw_nz0425_01.wellSaid=true:=by
 unfold OpenLaw.wellSaid OpenRow.wellSaid OpenRow.partSaid looksOpen
 repeat' (with_reducible refine look_both ?_ ?_)
 all_goals decide +kernel
theorem okk:(chainsOk Hd.qv&&opensWell R0.prog&&(frees R0.toRowW&&R0.within.isEmpty))=true:=by kernel_rfl
theorem bare0:R0.prog.bare:=⟨rfl,rfl,rfl,rfl,rfl,by kernel_rfl⟩
theorem prom:R0.toRowW.promised:=⟨[.list [.int 0]],by kernel_rfl,by kernel_rfl⟩
theorem d1:(defOf Hd.qv R0.name).isSome=true:=by kernel_rfl
theorem d2:(defOf Hd.qv R0.name).map (fun x=>(x.1.params,x.1.body,x.1.scope))=R0.prog.theDef R0.name:=by kernel_rfl
theorem d3:(defOf Hd.qv R0.name).map (fun x=>kwWritten? x.1.params.kwonlyargs x.1.params.kw_defaults)=(defOf Hd.qv R0.name).map fun x=>some x.2:=by kernel_rfl
end Mine.Internal
open Mine.Internal
theorem PySem.Challenge.cw_nz0425_01_holds : PySem.Challenge.rw_nz0425_01.Holds := by
 obtain ⟨⟨d,kwd⟩,hd⟩:=Option.isSome_iff_exists.mp d1
 have h2:=d2
 have h3:=d3
 rw [hd] at h2 h3
 refine holds_law said1 fun k1=>holds_open (q:=Hd.qv) (loose:=Hd.loose) (Xt:=fun _=>true) (XP:=fun _ _=>True) (Yf:=fun s=>heapOk s.heap) (Ya:=fun _=>true) (YP:=SaysL) (N:=23784) Hd.left (fun w s e=>⟨s.heap,e,fun _ _ e=>e⟩)
  (fun w h h' ⟨h1,a,b⟩ k=>⟨h1,a,fun x o e=>k _ _ (b x o e)⟩) (fun _ _=>trivial) (fun _ _ _ _ _=>trivial) hd h2.symm (Option.some.inj h3) (fun s _=>recFacts_nil rfl) rfl k1 okk bare0 prom (walk (defOf_name hd))
