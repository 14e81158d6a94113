import PyProof.Rows.All
import Wide.All
import OpenK.AllK
import Wide.FinOn
import Lean
import PySem.Challenge.RW_tu0010_01
open PySem PySem.W PySem.Calls PyProof.Rows PySem.Spec
set_option Elab.async false
set_option linter.all false
set_option maxHeartbeats 4000000
set_option maxRecDepth 10000
namespace Mine.Internal
set_option tactic.hygienic false
set_option genInjectivity false
set_option backward.match.sparseCases false
set_option genSizeOf false
set_option genCtorIdx false
set_option bootstrap.genMatcherCode false
theorem min_nn {i:Int}{n:Nat}(h:0≤i):min i (n:Int)=((min i.toNat n:Nat):Int):=by
 obtain ⟨k,rfl⟩:=Int.eq_ofNat_of_zero_le h
 rw [Int.toNat_natCast]
 rcases Nat.le_total k n with h|h
 ·rw [Nat.min_eq_left h,Int.min_eq_left (Int.ofNat_le.mpr h)]
 ·rw [Nat.min_eq_right h,Int.min_eq_right (Int.ofNat_le.mpr h)]
theorem sub_ar {i v n d:Nat}(hd:d≤n)(hm:n≤v+d)(hv:¬ i<v):i-(n-d)=v+d-n+(i-v):=by
 rw [← Nat.sub_sub_right v hd,Nat.add_comm,Nat.sub_add_sub_cancel (Nat.le_of_not_lt hv) (Nat.sub_le_iff_le_add.mpr hm)]
theorem sub_ar2 {p q d:Nat}(h1:q≤p)(h2:p≤q+d):p=q+(d-(q+d-p)):=by
 rw [← Nat.add_sub_assoc (Nat.sub_le_iff_le_add.mpr (Nat.add_comm q d▸Nat.add_le_add_left h1 d)),Nat.sub_sub_self h2]
theorem sub_ar3 {i h s:Nat}(n:h≤i):i=h+(s+(i-h)-s):=by
 rw [Nat.add_sub_cancel_left,Nat.add_sub_cancel' n]
theorem na_bd {x:Int}{n:Nat}(h:x.natAbs≤n) : -(n:Int)≤x∧x≤n:=by omega
theorem bnd24 {a:Int}(h:a.natAbs<2 ^ 24) : -16777216<a∧a<16777216 :=
 have k:=na_bd (Nat.le_of_lt_succ (n:=16777215) h)
 ⟨Int.lt_of_lt_of_le (by decide) k.1,Int.lt_of_le_of_lt k.2 (by decide)⟩
theorem bd_add {a b c d x y:Int}(h:a≤x∧x≤b)(k:c≤y∧y≤d):a+c≤x+y∧x+y≤b+d:=⟨Int.add_le_add h.1 k.1,Int.add_le_add h.2 k.2⟩
theorem bd_sub {a b c d x y:Int}(h:a≤x∧x≤b)(k:c≤y∧y≤d):a-d≤x-y∧x-y≤b-c:=⟨Int.sub_le_sub h.1 k.2,Int.sub_le_sub h.2 k.1⟩
theorem bd_mul {a b x:Int}(k:Int)(hk:0≤k)(h:a≤x∧x≤b):k*a≤k*x∧k*x≤k*b:=⟨Int.mul_le_mul_of_nonneg_left h.1 hk,Int.mul_le_mul_of_nonneg_left h.2 hk⟩
theorem bd_mono {a b c d x:Int}(h:a≤x∧x≤b)(h1:c≤a)(h2:b≤d):c≤x∧x≤d:=⟨Int.le_trans h1 h.1,Int.le_trans h.2 h2⟩
theorem bd_c (x:Int):x≤x∧x≤x:=⟨Int.le_refl x,Int.le_refl x⟩
theorem bd_lt {a b x:Int}(h:a≤x∧x<b):a≤x∧x≤b-1:=⟨h.1,Int.le_sub_one_of_lt h.2⟩
theorem bd_12 {m:Int}(h:m=1∨m=2):1≤m∧m≤2:=by rcases h with rfl|rfl <;> decide
theorem bd_2 {d:Int}(h:0≤d∧d<2):d=0∨d=1:=by omega
theorem bd_na {a b x:Int}{n:Nat}(h:a≤x∧x≤b)(h1 : -(n:Int)<a)(h2:b<n):x.natAbs<n:=by omega
theorem bd_tn {a b x:Int}{n:Nat}(h:a≤x∧x≤b)(h2:b≤n):x.toNat≤n:=Int.toNat_le.mpr (Int.le_trans h.2 h2)
theorem bd_len {n m:Nat}(h:n≤m):0≤(n:Int)∧(n:Int)≤m:=⟨Int.natCast_nonneg n,Int.ofNat_le.mpr h⟩
theorem bd_max {a b x y:Int}(h:a≤x∧x≤b)(k:y≤b):a≤max x y∧max x y≤b:=⟨Int.le_trans h.1 (Int.le_max_left _ _),Int.max_le.mpr ⟨h.2,k⟩⟩
theorem un_le {a n k c:Nat}(h:a+8*(n+1)+64<c)(hk:k≤8):a+k+8*n+64<c:=Nat.lt_of_le_of_lt (Nat.add_le_add_right (Nat.le_trans (Nat.le_of_eq (Nat.add_right_comm a k _)) (Nat.add_le_add_left hk (a+8*n))) 64) h
theorem no_big {x y:Int}(h:1073741824≤max (x.natAbs:Int) (y.natAbs:Int))(h1 : -1073741823≤x∧x≤1073741823)(h2 : -1073741823≤y∧y≤1073741823):False :=
 have q:∀{z:Int},-1073741823≤z∧z≤1073741823→(z.natAbs:Int)≤1073741823:=fun k=>Int.ofNat_le.mpr (Nat.le_of_lt_succ (n:=1073741823) (bd_na k (by decide) (by decide)))
 Int.not_le.mpr (Int.lt_of_le_of_lt (Int.max_le.mpr ⟨q h1,q h2⟩) (by decide)) h
theorem m12 {m:Int}{c:Nat}(h:m=1∨m=2):((c:Int)+m-1).toNat=c+m.toNat-1:=by
 rw [Int.add_sub_assoc]
 rcases h with rfl|rfl <;> rfl
theorem cut2 {i:Int}(h:0≤i):(i+2).toNat-i.toNat=2:=by
 obtain ⟨k,rfl⟩:=Int.eq_ofNat_of_zero_le h
 exact Nat.add_sub_cancel_left (n:=k) (m:=2)
theorem max_in {a x m:Int}(h:0≤a∧a≤m)(h2:x≤m):0≤max a x∧max a x≤m:=⟨Int.le_trans h.1 (Int.le_max_left _ _),Int.max_le.mpr ⟨h.2,h2⟩⟩
theorem app_ar {c:Int}{n i:Nat}(h:c=(n:Int)+i):c.toNat=n+i:=by subst h; rfl
theorem mj_ar {c j t:Nat}(h:¬ j<t):c+t+(j-t)=c+j:=by rw [Nat.add_assoc,Nat.add_sub_cancel' (Nat.le_of_not_lt h)]
theorem hh_ar {m S:Int}{c j:Nat}(h:(c:Int)+(m+S)≤j)(hm:m=1∨m=2)(hS:0≤S):¬ j=c+m.toNat-1:=fun e=>by
 rcases hm with rfl|rfl
 ·have e:j=c:=e
  subst e
  exact Int.not_lt.mpr h (Int.lt_add_of_pos_right _ (Int.lt_of_lt_of_le (show (0:Int)<1 by decide) (Int.le_add_of_nonneg_right hS)))
 ·have e:j=c+1:=e
  subst e
  exact Int.not_lt.mpr h (Int.add_lt_add_left (Int.lt_of_lt_of_le (show (1:Int)<2 by decide) (Int.le_add_of_nonneg_right hS)) _)
theorem hl_ar {m:Int}{c j:Nat}(h:j<c)(hm:m=1∨m=2):¬ j=c+m.toNat-1:=fun e=>by
 rcases hm with rfl|rfl
 ·have e:j=c:=e
  subst e
  exact Nat.lt_irrefl _ h
 ·have e:j=c+1:=e
  subst e
  exact Nat.not_succ_lt_self h
theorem cp {P:Prop}(h:¬P→False):P:=Classical.byContradiction h
inductive AV where
 | none|bool (b:Bool)|int (i:Int)|str (s:Str)|ref (a:Addr)|bi (id:String)|ty (n:String)|other
noncomputable def AV.ctorIdx (x:AV):Nat:=@AV.casesOn (fun _=>Nat) x 0 (fun _=>1) (fun _=>2) (fun _=>3) (fun _=>4) (fun _=>5) (fun _=>6) 7
noncomputable def er:Value→AV
 | .none=>.none
 | .bool b=>.bool b
 | .int i z1=>.int i
 | .str s z1=>.str s
 | .ref a=>.ref a
 | .builtin i=>.bi i
 | .type n=>.ty n
 | z1=>.other
inductive AO where
 | list (xs:List AV)|tup (xs:List AV)|inst (C d:Addr)|dict (fs:List (Str×AV))|cell (v:Option AV)
noncomputable def AO.ctorIdx (x:AO):Nat:=@AO.casesOn (fun _=>Nat) x (fun _=>0) (fun _=>1) (fun _ _=>2) (fun _=>3) (fun _=>4)
inductive FR:List DictEntry→List (Str×AV)→Prop where
 | nil:FR [] []
 | cons {h:Int} {x:Str} {t:Tok} {v:Value} {es fs}:FR es fs→FR (⟨h,.str x t,v⟩::es) ((x,er v)::fs)
noncomputable def RO (o:Obj):AO→Prop
 | .list xs=>∃ vs n,o={ cls:=.type "list",data:=.seq (List.toArray vs) n }∧vs.map er=xs
 | .tup xs=>∃ vs n,o={ cls:=.type "tuple",data:=.seq (List.toArray vs) n }∧vs.map er=xs
 | .inst C d=>o=instObj C d
 | .dict fs=>∃ es n,o=dictOf es n∧FR es fs
 | .cell v=>∃ w,o.data=.cell w∧w.map er=v
noncomputable abbrev View:=Addr→Option AO
noncomputable def Le (V V':View):Prop:=∀ a o,V a=some o→V' a=some o
theorem Le.refl (V:View):Le V V:=fun zz zz h=>h
theorem Le.trans {V V' V'':View}(h:Le V V')(h':Le V' V''):Le V V'':=fun a o e=>h' a o (h a o e)
theorem Le.nil {V V':View}(h:Le V V'){a:Addr}(e:V' a=none):V a=none:=by
 rcases q:V a with _|⟨o⟩
 ·rfl
 ·rw [h a o q] at e; injection e
noncomputable def put (V:View)(a:Addr)(o:AO):View:=fun b=>if b=a then some o else V b
theorem put_self (V:View)(a:Addr)(o:AO):put V a o a=some o:=if_pos rfl
theorem put_ne (V:View){a b:Addr}(o:AO)(h:b≠a):put V a o b=V b:=if_neg h
theorem Le.put' {V:View}{a:Addr}{o:AO}(h:V a=none):Le V (put V a o):=fun b ob e=>by
 rw [put_ne]; exact e
 rintro rfl; rw [h] at e; injection e
noncomputable def hideV (h:Heap)(V:View):Heap:=⟨h.objs.mapIdx fun i o=>if (V i).isSome then { o with data:=.freed } else o,h.life⟩
theorem hideV_get (h:Heap)(V:View)(b:Addr):(hideV h V).get? b=if (V b).isSome then none else h.get? b:=by
 delta hideV Heap.get?
 simp only [Array.getElem?_mapIdx]
 rcases e:h.objs[b]? with _|⟨o⟩
 ·simp
 ·simp only [Option.map_some]
  by_cases hv:(V b).isSome
  ·simp [hv]
  ·simp [hv]
theorem hideV_some {h:Heap}{V:View}{b:Addr}{o:Obj}(e:(hideV h V).get? b=some o):h.get? b=some o∧V b=none:=by
 rw [hideV_get] at e
 split at e
 ·injection e
 ·rename_i hv; exact ⟨e,by simpa using hv⟩
theorem hideV_of {h:Heap}{V:View}{b:Addr}{o:Obj}(e:h.get? b=some o)(hv:V b=none):(hideV h V).get? b=some o:=by
 rw [hideV_get,hv]; exact e
structure Wo where
 prog:Program
 w:World
 K:Frag
 p:Program
 loose:List Str
 mean:ExcName→Option Value
 mg:Str→Option Value
 mb:Str→Option Value
 base:Heap
 gens:Array GenState
 drawn:Drawn
 os:OsState
 exc:Addr
 ad:Nat→Addr
 am:Nat→Nat→Addr
structure WOk (W:Wo):Prop where
 kin:W.K.In W.base
 top:Top W.p W.loose W.mean W.mg W.mb W.base
noncomputable def Sl (fs:List Addr)(O h:Heap):Prop:=∀ b o,O.get? b=some o→∃ sl,h.get? b=some { o with slots:=sl }∧(b ∉ fs→sl=o.slots)
theorem Sl.exact {fs:List Addr}{O h:Heap}(k:Sl fs O h){b:Addr}{o:Obj}(e:O.get? b=some o)(hb:b ∉ fs):h.get? b=some o:=by
 obtain ⟨sl,h1,h2⟩:=k b o e
 rw [h1,h2 hb]
theorem Sl.of_keeps {fs:List Addr}{O h:Heap}(k:∀ b o,O.get? b=some o→h.get? b=some o):Sl fs O h:=fun b o e=>⟨o.slots,k b o e,fun zz=>rfl⟩
theorem Sl.trans {fs:List Addr}{O h h':Heap}(k:Sl fs O h)(k':Sl fs h h'):Sl fs O h':=fun b o e=>by
 refine cp fun kk=>?_
 obtain ⟨sl,h1,h2⟩:=k b o e
 obtain ⟨sl',h3,h4⟩:=k' b _ h1
 refine kk ?_
 exact ⟨sl',h3,fun hb=>(h4 hb).trans (h2 hb)⟩
theorem Sl.ns {fs:List Addr}{O h:Heap}(k:Sl fs O h){L:Addr}{m:Str→Option Value}(n:O.Ns L m):h.Ns L m:=by
 refine cp fun kk=>?_
 obtain ⟨o,es,ep,ho,hd,r⟩:=n
 obtain ⟨sl,h1,_⟩:=k L o ho
 refine kk ?_
 exact ⟨_,es,ep,h1,hd,r⟩
structure SC (W:Wo)(fs:List Addr)(O:Heap)(V:View)(s:Shared):Prop where
 keep:Sl fs O s.heap
 view:∀ a o,V a=some o→∃ ob,s.heap.get? a=some ob∧RO ob o
 off:∀ a o,V a=some o→O.get? a=none
 gens:s.gens=W.gens
 drawn:s.drawn=W.drawn
 os:s.os=W.os
noncomputable def FlyF (B:Heap)(l:List Env)(e:Addr)(cls:Value)(h:Heap):Prop :=
 B.StaysIn h∧B.get? e=none∧h.FunFrames B l∧∃ oe vs a0,h.get? e=some oe∧oe.cls=cls∧oe.data=.fields vs∧vs[0]?=some a0 ∧
  (vs[1]?=some .none∨h.TracedW B e cls a0)
noncomputable def XS (W:Wo)(l:List Env)(fs:List Addr)(O:Heap)(V:View)(v:Value)(s:Shared):Prop :=
 ∃ e B,v=.ref e∧FlyF B l e (.ref W.exc) s.heap∧(∀ b o,O.get? b=some o→b ∉ fs→B.get? b=some o)∧(∀ a o,V a=some o→∃ ob,B.get? a=some ob∧RO ob o)∧SC W fs O V s
structure Cok (W:Wo)(A:Around)(fs:List Addr)(O:Heap)(n:Nat):Prop where
 ok:WOk W
 stays:W.base.StaysIn O
 frames:∃ stk,A.frames=some stk∧O.FunFrames W.base stk∧∀ b∈stk.filterMap (·.frame),b∈fs
 fsn:∀ b∈fs,W.base.get? b=none∧∃ o,O.get? b=some o∧∀ vs,o.data≠.fields vs
 hnd:A.handled=none
 depth:A.depth+n<recursionLimit
 units:A.units+8*n+64<cLine
noncomputable def Res (E:Value→Shared→Prop)(P:Value→Shared→Prop)(r:Result)(s:Shared):Prop:=match r with
 | .ok (.ret v)=>P v s
 | .ok z1=>False
 | .error e=>E e s
theorem Res.mono {E:Value→Shared→Prop}{P P':Value→Shared→Prop}{r:Result}{s:Shared}(h:Res E P r s)(hp:∀ v s,P v s→P' v s):Res E P' r s:=by
 rcases r with e|(v|_|_|_) <;> first|exact h|exact h.elim|exact hp _ _ h
structure Call (W:Wo)(n:Nat)(f:AV)(args:List AV)(V:View)(Q:AV→View→Prop)(X:View→Prop):Prop where
 keep:∀ a,f=.ref a→keepIn W.K (.ref a)=true
 run:∀(A:Around)(fs:List Addr)(O:Heap)(s:Shared)(fv:Value)(vs:List Value)(E:Value→Shared→Prop),Cok W A fs O n→SC W fs O V s→er fv=f→vs.map er=args →
  (∀ v s' V' stk,A.frames=some stk→XS W stk fs O V' v s'→X V'→E v s') →
  codeAny (model W.prog W.w) A (.call fv ⟨vs,[]⟩) (Res E fun r s'=>∃ V',SC W fs O V' s'∧Q (er r) V') s
theorem Call.mono {W:Wo}{n:Nat}{f:AV}{args:List AV}{V:View}{Q Q':AV→View→Prop}{X X':View→Prop}(h:Call W n f args V Q X)(hq:∀ r V',Q r V'→Q' r V')(hx:∀ V',X V'→X' V'):Call W n f args V Q' X' :=
 ⟨h.keep,fun A fs O s fv vs E c sc e1 e2 hE=>codeAny_mono (h.run A fs O s fv vs E c sc e1 e2 fun v s' V' stk a b d=>hE v s' V' stk a b (hx _ d)) fun r s' x=>x.mono fun zz zz ⟨V',a,b⟩=>⟨V',a,hq _ _ b⟩⟩
structure SF (W:Wo)(fs:List Addr)(O:Heap)(L:Addr)(m:Str→Option AV)(V:View)(s:Shared):Prop extends SC W fs O V s where
 ns:∃ mr,s.heap.Ns L mr∧∀ x v,m x=some v→∃ u,mr x=some u∧er u=v
 offL:V L=none
 offO:O.get? L=none
structure XF (W:Wo)(l:List Env)(fs:List Addr)(O:Heap)(L:Addr)(m:Str→Option AV)(V:View)(v:Value)(s:Shared):Prop where
 sf:SF W fs O L m V s
 fly:∃ e B,v=.ref e∧FlyF B l e (.ref W.exc) s.heap∧(∀ b o,O.get? b=some o→b ∉ fs→B.get? b=some o)∧(∀ a o,V a=some o→∃ ob,B.get? a=some ob∧RO ob o)
structure Bok (W:Wo)(A:Around)(fs:List Addr)(O:Heap)(env:Env)(n:Nat):Prop where
 ok:WOk W
 stays:W.base.StaysIn O
 frames:∃ stk,A.frames=some stk∧∀ e∈stk,e.scope.kind≠.module∧∃ L,e.frame=some L∧W.base.get? L=none∧(L=env.locals∨L∈fs)
 fsn:∀ b∈fs,W.base.get? b=none∧∃ o,O.get? b=some o∧∀ vs,o.data≠.fields vs
 new:W.base.get? env.locals=none
 hnd:A.handled=none
 depth:A.depth+n<recursionLimit
 units:A.units+8*n+64<cLine
 glob:env.globals=mainGlobals
 blt:env.builtins=builtinsNs
 kind:env.scope.kind=.function
theorem funFrames_of {h base:Heap}:∀{l:List Env},(∀ e∈l,e.scope.kind≠.module∧∃ L,e.frame=some L∧base.get? L=none∧∃ o,h.get? L=some o∧∀ vs,o.data≠.fields vs)→h.FunFrames base l
 | [],z1=>trivial
 | e::r,k=>by
  refine cp fun kk=>?_
  obtain ⟨h1,L,h2,h3,o,h4,h5⟩:=k e (.head _)
  refine kk ?_
  exact ⟨h1,⟨L,o,h2,h3,h4,h5⟩,funFrames_of fun e' he=>k e' (.tail _ he)⟩
theorem of_funFrames {h base:Heap}:∀{l:List Env},h.FunFrames base l→∀ e∈l,e.scope.kind≠.module∧∃ L,e.frame=some L∧base.get? L=none∧∃ o,h.get? L=some o∧∀ vs,o.data≠.fields vs:=by
 intro l
 induction l with
 | nil=>intro _ e he; cases he
 | cons x r ih =>
  intro k e he
  refine cp fun kk=>?_
  obtain ⟨h1,⟨L,o,h2,h3,h4,h5⟩,k⟩:=k
  refine kk ?_
  cases he with
  | head=>exact ⟨h1,L,h2,h3,o,h4,h5⟩
  | tail z1 he=>exact ih k e he
section
variable {W:Wo} {A:Around} {fs:List Addr} {O:Heap} {env:Env} {n:Nat} {m:Str→Option AV} {V:View} {s:Shared}
theorem Bok.base {s:Shared}(c:Bok W A fs O env n)(h:SC W fs O V s):W.base.StaysIn s.heap:=fun b o e=>h.keep.exact (c.stays b o e) fun q=>by
 rw [(c.fsn b q).1] at e; injection e
theorem Cok.base {s:Shared}(c:Cok W A fs O n)(h:SC W fs O V s):W.base.StaysIn s.heap:=fun b o e=>h.keep.exact (c.stays b o e) fun q=>by
 rw [(c.fsn b q).1] at e; injection e
theorem Bok.kin {s:Shared}(c:Bok W A fs O env n)(h:SC W fs O V s):W.K.In s.heap:=c.ok.kin.keeps (c.base h)
theorem Bok.top {s:Shared}(c:Bok W A fs O env n)(h:SC W fs O V s):Top W.p W.loose W.mean W.mg W.mb s.heap:=c.ok.top.keeps (c.base h)
theorem hide_keep {O:Heap}(k:Sl fs O s.heap)(off:∀ a o,V a=some o→O.get? a=none):Sl fs O (hideV s.heap V):=fun b o e=>by
 obtain ⟨sl,h1,h2⟩:=k b o e
 exact ⟨sl,hideV_of h1 (by
  rcases q:V b with _|⟨x⟩
  ·rfl
  ·rw [off b x q] at e; injection e),h2⟩
theorem SF.stays (h:SF W fs O env.locals m V s):Sl fs O (hideV s.heap V):=hide_keep h.keep h.off
theorem SF.sc (h:SF W fs O env.locals m V s):SC W (env.locals::fs) (hideV s.heap V) V s :=
 ⟨.of_keeps fun zz zz e=>(hideV_some e).1,h.view,fun a o e=>by rw [hideV_get,e]; rfl,h.gens,h.drawn,h.os⟩
theorem SF.L_hide (h:SF W fs O env.locals m V s):∃ o,(hideV s.heap V).get? env.locals=some o∧∀ vs,o.data≠.fields vs:=by
 refine cp fun kk=>?_
 obtain ⟨mr,⟨o,es,ep,ho,hd,_⟩,_⟩:=h.ns
 refine kk ?_
 exact ⟨o,hideV_of ho h.offL,fun vs q=>by rw [hd] at q; cases q⟩
theorem Bok.cok (c:Bok W A fs O env n)(h:SF W fs O env.locals m V s):Cok W A (env.locals::fs) (hideV s.heap V) n:=by
 have fn:∀ b∈env.locals::fs,W.base.get? b=none∧∃ o,(hideV s.heap V).get? b=some o∧∀ vs,o.data≠.fields vs:=fun b hb=>by
  rcases List.mem_cons.mp hb with rfl|hb
  ·exact ⟨c.new,h.L_hide⟩
  ·refine cp fun kk=>?_
   obtain ⟨h1,o,h2,h3⟩:=c.fsn b hb
   obtain ⟨sl,h4,_⟩:=h.stays b o h2
   refine kk ?_
   exact ⟨h1,_,h4,h3⟩
 refine ⟨c.ok,fun b o e=>?_,?_,fn,c.hnd,c.depth,c.units⟩
 ·refine h.stays.exact (c.stays b o e) fun q=>?_
  rw [(c.fsn b q).1] at e; injection e
 ·refine cp fun kk=>?_
  obtain ⟨stk,e,k⟩:=c.frames
  refine kk ?_
  refine ⟨stk,e,funFrames_of fun x hx=>?_,fun b hb=>?_⟩
  ·refine cp fun kk=>?_
   obtain ⟨h1,L,h2,h3,h4⟩:=k x hx
   refine kk ?_
   refine ⟨h1,L,h2,h3,?_⟩
   rcases h4 with rfl|h4
   ·exact h.L_hide
   ·exact (fn L (.tail _ h4)).2
  ·refine cp fun kk=>?_
   obtain ⟨x,hx,hf⟩:=List.mem_filterMap.mp hb
   obtain ⟨_,L,h2,_,h4⟩:=k x hx
   rw [hf] at h2; obtain rfl:=Option.some.inj h2
   refine kk ?_
   rcases h4 with rfl|h4
   ·exact .head _
   ·exact .tail _ h4
theorem SF.back {s':Shared}{V':View}(h:SF W fs O env.locals m V s)(h':SC W (env.locals::fs) (hideV s.heap V) V' s'):SF W fs O env.locals m V' s':=by
 refine ⟨⟨fun b o e=>?_,h'.view,fun a o e=>?_,h'.gens,h'.drawn,h'.os⟩,?_,?_,h.offO⟩
 ·refine cp fun kk=>?_
  obtain ⟨sl,h1,h2⟩:=h.stays b o e
  obtain ⟨sl',h3,h4⟩:=h'.keep b _ h1
  refine kk ?_
  refine ⟨sl',h3,fun hb=>(h4 fun q=>?_).trans (h2 hb)⟩
  rcases List.mem_cons.mp q with rfl|q
  ·rw [h.offO] at e; injection e
  ·exact hb q
 ·rcases q:O.get? a with _|⟨x⟩
  ·rfl
  ·obtain ⟨sl,h1,_⟩:=h.stays a x q; rw [h'.off a o e] at h1; injection h1
 ·refine cp fun kk=>?_
  obtain ⟨mr,⟨o,es,ep,ho,hd,r⟩,hm⟩:=h.ns
  obtain ⟨sl,h1,_⟩:=h'.keep _ _ (hideV_of ho h.offL)
  refine kk ?_
  exact ⟨mr,⟨_,es,ep,h1,hd,r⟩,hm⟩
 ·rcases q:V' env.locals with _|⟨x⟩
  ·rfl
  ·obtain ⟨o,ho,_⟩:=h.L_hide
   rw [h'.off _ _ q] at ho; injection ho
theorem SF.backX {l:List Env}{s':Shared}{V':View}{v:Value}(h:SF W fs O env.locals m V s)(h':XS W l (env.locals::fs) (hideV s.heap V) V' v s'):XF W l fs O env.locals m V' v s':=by
 refine cp fun kk=>?_
 obtain ⟨e,B,rfl,h1,h2,h3,h4⟩:=h'
 refine kk ?_
 refine ⟨h.back h4,e,B,rfl,h1,fun b o eo hb=>?_,h3⟩
 refine h2 b o (h.stays.exact eo hb) fun q=>?_
 rcases List.mem_cons.mp q with rfl|q
 ·rw [h.offO] at eo; injection eo
 ·exact hb q
theorem body_call {fv:Value}{vs:List Value}{Q:AV→View→Prop}{X:View→Prop}{E:Value→Shared→Prop}(c:Bok W A fs O env n)(h:SF W fs O env.locals m V s)(k:Call W n (er fv) (vs.map er) V Q X)
  (hE:∀ v s' V' stk,A.frames=some stk→XF W stk fs O env.locals m V' v s'→X V'→E v s') :
  wpAny (model W.prog W.w) A (call fv vs) (fun r s'=>∃ V',SF W fs O env.locals m V' s'∧Q (er r) V') E s :=
 wpAny_call (codeAny_mono (k.run A _ _ s fv vs E (c.cok h) h.sc rfl rfl fun v s' V' stk a b x=>hE v s' V' stk a (h.backX b) x) fun r s' x=>by
  rcases r with e|(v|_|_|_) <;> first|exact x|exact x.elim|skip
  refine cp fun kk=>?_
  obtain ⟨V',a,b⟩:=x
  refine kk ?_
  exact ⟨V',h.back a,b⟩)
end
noncomputable abbrev Mp:=Str→Option AV
noncomputable def upd (m:Mp)(x:Str)(v:AV):Mp:=fun y=>if y=x then some v else m y
noncomputable def gv (K:Frag)(x:Str):Option AV:=if x = "__name__" then none else match nsIn K mainGlobals x with
 | some (some v)=>some (er v)
 | some none=>(bootBuiltins x).map er
 | none=>none
noncomputable def ca (K:Frag)(C:Addr)(n:Str):Option (Option AV) :=
 if plainGet K C n&&hasDictIn K C then match findIn K (.ref C) n with
  | some none=>some none
  | some (some a)=>if specialIn K a "__get__" == some none&&handedIn a&&!copiedNames.contains n then some (some (er a)) else none
  | none=>none
 else none
noncomputable def me (K:Frag)(C:Addr)(n:Str):Option Addr :=
 if plainGet K C n then match findIn K (.ref C) n with
  | some (some (.ref f))=>if isFn K (.ref f) then some f else none
  | z1=>none
 else none
noncomputable def sa (K:Frag)(C:Addr)(n:Str):Bool :=
 findIn K (.ref C) "__setattr__" == some (some (.builtin "object.__setattr__"))&&plainOver K C&&takerIn K C n == some none&&hasDictIn K C
noncomputable def lkF:List (Str×AV)→Str→Option AV
 | [],z1=>none
 | (y,v)::r,x=>if x=y then some v else lkF r x
noncomputable def putF (x:Str)(v:AV):List (Str×AV)→List (Str×AV)
 | []=>[(x,v)]
 | (y,u)::r=>if x=y then (y,v)::r else (y,u)::putF x v r
noncomputable def AV.plain:AV→Bool
 | .bi z1=>false
 | .other=>false
 | z1=>true
noncomputable def noIsi (K:Frag)(C:Addr):Bool:=kin_notT K C "list" && plainGet K C "__class__" && hasDictIn K C&&findIn K (.ref C) "__class__" == some (some (.builtin "object.__class__")) &&
 specialIn K (.builtin "object.__class__") "__get__" == some (some (.builtin "getset_descriptor.__get__"))&&takesIn K (.builtin "object.__class__") == some true&&mroIn K C (.type "object") == some true
structure Cf where
 W:Wo
 n:Nat
 kd:Str→Option NameKind
 cl:Str→Option Addr
 X:Mp→View→Prop:=fun _ _=>False
 sc:Scope:=default
noncomputable def nameV (c:Cf)(x:Str)(m:Mp)(V:View)(Q:AV→Prop):Prop:=match c.kd x with
 | some .local=>∃ v,m x=some v∧Q v
 | some .globalImplicit=>∃ v,gv c.W.K x=some v∧Q v
 | some .cell=>∃ a v,c.cl x=some a∧V a=some (.cell (some v))∧Q v
 | some .free=>∃ a v,c.cl x=some a∧V a=some (.cell (some v))∧Q v
 | z1=>False
noncomputable def attrV (W:Wo)(a:AV)(n:Str)(V:View)(Q:AV→Prop):Prop:=match a with
 | .ref a=>∃ C d fs o,V a=some (.inst C d)∧V d=some (.dict fs)∧ca W.K C n=some o∧(match lkF fs n with
   | some v=>v.plain=true∧Q v
   | none=>∃ v,o=some v∧Q v)
 | z1=>False
noncomputable def setV (W:Wo)(a:AV)(n:Str)(v:AV)(V:View)(Q:View→Prop):Prop:=match a with
 | .ref a=>∃ C d fs,V a=some (.inst C d)∧V d=some (.dict fs)∧sa W.K C n=true∧fs.length≤100∧Q (put V d (.dict (putF n v fs)))
 | z1=>False
inductive It where
 | one (v:AV)|two (u v:AV)
noncomputable def It.ctorIdx (x:It):Nat:=@It.casesOn (fun _=>Nat) x (fun _=>0) (fun _ _=>1)
noncomputable def enumF:Nat→List AV→List It
 | z1,[]=>[]
 | k,v::r=>.two (.int k) v::enumF (k+1) r
noncomputable def rangeF (a b:Int):List It:=(List.range (b-a).toNat).map fun (i:Nat)=>.one (.int (a+(i:Int)))
noncomputable def seqV (a:AV)(V:View)(Q:List AV→(View→Prop)→Prop):Prop:=match a with
 | .ref l=>∃ xs,xs.length<2 ^ 24∧((V l=some (.list xs)∧Q xs (fun V=>V l=some (.list xs)))∨(V l=some (.tup xs)∧Q xs (fun V=>V l=some (.tup xs))))
 | z1=>False
noncomputable def lsV (a:AV)(V:View)(Q:List AV→(View→Prop)→Prop):Prop:=match a with
 | .ref l=>∃ xs,V l=some (.list xs)∧Q xs (fun V=>V l=some (.list xs))
 | z1=>False
noncomputable def kdOf (sc:Scope)(c:Cf)(x:Str):Option NameKind:=match sc.names.lookup x with
 | some .free=>(match c.kd x with|some .cell=>some .cell|_=>some .free)
 | k=>k
noncomputable def freeCl (sc:Scope)(c:Cf)(x:Str):Option Addr:=if sc.names.lookup x=some .free then c.cl x else none
noncomputable def intoC:List Str→(Str→Option Addr)→View→((Str→Option Addr)→View→Prop)→Prop
 | [],cl,V,Q=>Q cl V
 | x::xs,cl,V,Q=>∀ a,V a=none→intoC xs (fun y=>if y=x then some a else cl y) (put V a (.cell none)) Q
noncomputable def cellNames:List (Str×NameKind)→List Str
 | []=>[]
 | (x,k)::r=>if k == .cell then x::cellNames r else cellNames r
noncomputable def freeNames:List (Str×NameKind)→List Str
 | []=>[]
 | (x,k)::r=>if k == .free then x::freeNames r else freeNames r
noncomputable def okSc (sc:Scope):Bool:=sc.kind == .function&&sc.names.all (fun x=>x.2 != .local || sc.names.lookup x.1 == some .local)&&sc.names.lookup (("__debug__" : String):Str) == none&&sc.names.lookup (("__classdict__" : String):Str) == none
noncomputable def intoV (sc:Scope)(c:Cf)(V:View)(Q:Cf→View→Prop):Prop :=
 intoC (cellNames sc.names) (freeCl sc c) V fun cl V=>Q { W:=c.W,n:=c.n,kd:=kdOf sc c,cl:=cl } V
noncomputable def noStar:List Expr→Bool
 | []=>true
 | .Starred ..::z1=>false
 | z1::r=>noStar r
noncomputable def plainE:Expr→Prop
 | .Name ..=>True
 | .Attribute ..=>True
 | .Subscript ..=>True
 | z1=>False
noncomputable def ifsT (ifs:List Expr)(env:Env):Sem Bool:=forIn ifs true fun c r=>if r=true then do let ok ← isTrue c env (eval c env); pure (ForInStep.yield ok) else pure (ForInStep.yield r)
section
variable {W:Wo} {fs:List Addr} {O:Heap} {L:Addr} {m:Mp} {V:View} {s:Shared}
theorem SF.tok (h:SF W fs O L m V s)(t:Nat):SF W fs O L m V { s with toks:=t } :=
 {keep:=h.keep,view:=h.view,off:=h.off,gens:=h.gens,drawn:=h.drawn,os:=h.os,ns:=h.ns,offL:=h.offL,offO:=h.offO }
theorem view_none (h:SC W fs O V s){a:Addr}(e:s.heap.get? a=none):V a=none:=by
 rcases q:V a with _|⟨o⟩
 ·rfl
 ·obtain ⟨ob,h1,_⟩:=h.view a o q; rw [e] at h1; injection h1
theorem keep_none (h:SC W fs O V s){a:Addr}(e:s.heap.get? a=none):O.get? a=none:=by
 rcases q:O.get? a with _|⟨o⟩
 ·rfl
 ·obtain ⟨sl,h1,_⟩:=h.keep a o q; rw [e] at h1; injection h1
theorem get_size (h:Heap):h.get? h.objs.size=none:=Heap.get?_none_of_le (Nat.le_refl _)
theorem SF.grown (h:SF W fs O L m V s){h':Heap}{t:Nat}(k:∀ b o,s.heap.get? b=some o→h'.get? b=some o):SF W fs O L m V { s with heap:=h',toks:=t } :=
 {keep:=fun b o e=>(by obtain ⟨sl,h1,h2⟩:=h.keep b o e; exact ⟨sl,k b _ h1,h2⟩),view:=fun a o e=>(by obtain ⟨ob,h1,h2⟩:=h.view a o e; exact ⟨ob,k _ _ h1,h2⟩),off:=h.off,gens:=h.gens,drawn:=h.drawn,os:=h.os,
  ns:=(by obtain ⟨mr,h1,h2⟩:=h.ns; exact ⟨mr,h1.keeps k,h2⟩),offL:=h.offL,offO:=h.offO }
theorem SF.L_some (h:SF W fs O L m V s):∃ o,s.heap.get? L=some o:=(by obtain ⟨_,⟨o,_,_,ho,_⟩,_⟩:=h.ns; exact ⟨o,ho⟩)
theorem SF.add (h:SF W fs O L m V s){h':Heap}{t:Nat}{a:Addr}{ob:Obj}{o:AO}(k:∀ b o,s.heap.get? b=some o→h'.get? b=some o)(ha:s.heap.get? a=none)(hob:h'.get? a=some ob)(hr:RO ob o) :
  SF W fs O L m (put V a o) { s with heap:=h',toks:=t } :=
 {keep:=fun b o e=>(by obtain ⟨sl,h1,h2⟩:=h.keep b o e; exact ⟨sl,k b _ h1,h2⟩)
  view:=fun b o' e=>by
   by_cases hb:b=a
   ·subst hb; rw [put_self] at e; obtain rfl:=Option.some.inj e; exact ⟨ob,hob,hr⟩
   ·rw [put_ne _ _ hb] at e; obtain ⟨o1,h1,h2⟩:=h.view b o' e; exact ⟨o1,k _ _ h1,h2⟩
  off:=fun b o' e=>by
   by_cases hb:b=a
   ·subst hb; exact keep_none h.toSC ha
   ·rw [put_ne _ _ hb] at e; exact h.off b o' e
  gens:=h.gens,drawn:=h.drawn,os:=h.os
  ns:=(by obtain ⟨mr,h1,h2⟩:=h.ns; exact ⟨mr,h1.keeps k,h2⟩)
  offL:=by
   obtain ⟨o1,h1⟩:=h.L_some
   rw [put_ne]
   ·exact h.offL
   ·rintro rfl; rw [ha] at h1; injection h1
  offO:=h.offO }
theorem SF.turn (h:SF W fs O L m V s){h':Heap}{t:Nat}{a:Addr}{ob:Obj}{o o₀:AO}(hv:V a=some o₀)(k:∀ b o,b≠a→s.heap.get? b=some o→h'.get? b=some o)(hob:h'.get? a=some ob)(hr:RO ob o) :
  SF W fs O L m (put V a o) { s with heap:=h',toks:=t } :=
 have nO:∀{b o},O.get? b=some o→b≠a:=fun {b o} e q=>by rw [q,h.off a o₀ hv] at e; injection e
 have nL:L≠a:=fun q=>by have:=h.offL; rw [q,hv] at this; injection this
 {keep:=fun b o e=>(by obtain ⟨sl,h1,h2⟩:=h.keep b o e; exact ⟨sl,k b _ (nO e) h1,h2⟩)
  view:=fun b o' e=>by
   by_cases hb:b=a
   ·subst hb; rw [put_self] at e; obtain rfl:=Option.some.inj e; exact ⟨ob,hob,hr⟩
   ·rw [put_ne _ _ hb] at e; obtain ⟨o1,h1,h2⟩:=h.view b o' e; exact ⟨o1,k _ _ hb h1,h2⟩
  off:=fun b o' e=>by
   by_cases hb:b=a
   ·subst hb; exact h.off _ _ hv
   ·rw [put_ne _ _ hb] at e; exact h.off b o' e
  gens:=h.gens,drawn:=h.drawn,os:=h.os
  ns:=(by obtain ⟨mr,h1,h2⟩:=h.ns; exact ⟨mr,h1.at' fun o e=>k _ o nL e,h2⟩)
  offL:=by rw [put_ne _ _ nL]; exact h.offL
  offO:=h.offO }
theorem SF.store (h:SF W fs O L m V s){h':Heap}{t:Nat}{x:Str}{v:Value}{mr:Str→Option Value}(hm:∀ x v,m x=some v→∃ u,mr x=some u∧er u=v)
  (k:∀ b o,b≠L→s.heap.get? b=some o→h'.get? b=some o) (hn:h'.Ns L (fun y=>if y=x then some v else mr y)) :
  SF W fs O L (upd m x (er v)) V { s with heap:=h',toks:=t } :=
 {keep:=fun b o e=>(by obtain ⟨sl,h1,h2⟩:=h.keep b o e; exact ⟨sl,k b _ (by rintro rfl; rw [h.offO] at e; injection e) h1,h2⟩)
  view:=fun b o' e=>by
   obtain ⟨o1,h1,h2⟩:=h.view b o' e
   exact ⟨o1,k _ _ (by rintro rfl; rw [h.offL] at e; injection e) h1,h2⟩
  off:=h.off,gens:=h.gens,drawn:=h.drawn,os:=h.os
  ns:=⟨_,hn,fun y u e=>by
   unfold upd at e
   by_cases hy:y=x
   ·rw [if_pos hy] at e ⊢; obtain rfl:=Option.some.inj e; exact ⟨v,rfl,rfl⟩
   ·rw [if_neg hy] at e ⊢; exact hm y u e⟩
  offL:=h.offL,offO:=h.offO }
end
structure EnvOk (c:Cf)(env:Env):Prop where
 kd:∀ x,c.kd x=env.kindOf x
 cl:∀ x a,c.cl x=some a→env.cells.lookup x=some a
 dbg:c.kd "__debug__" = none
 cld:c.kd "__classdict__" = none
noncomputable def SG {α β:Type}(ab:α→β)(c:Cf)(m:Mp)(V:View)(t:Env→Sem α)(Q:β→View→Prop):Prop :=
 ∀(env:Env)(A:Around)(fs:List Addr)(O:Heap)(s:Shared)(E:Value→Shared→Prop),EnvOk c env→Bok c.W A fs O env c.n→SF c.W fs O env.locals m V s →
  (∀ v s' V' stk,A.frames=some stk→XF c.W stk fs O env.locals m V' v s'→c.X m V'→E v s') →
  wpAny (model c.W.prog c.W.w) A (t env) (fun r s'=>∃ V',SF c.W fs O env.locals m V' s'∧Q (ab r) V') E s
section
variable {c:Cf} {m:Mp} {V:View}
theorem er_int {v:Value}{i:Int}(h:er v=.int i):∃ t,v=.int i t:=by cases v <;> first|(injection h; done)|(injection h with h; subst h; exact ⟨_,rfl⟩)
theorem er_bool {v:Value}{b:Bool}(h:er v=.bool b):v=.bool b:=by cases v <;> first|(injection h; done)|rfl|exact congrArg _ (by injection h)
theorem er_none {v:Value}(h:er v=.none):v=.none:=by cases v <;> first|(injection h; done)|rfl|exact congrArg _ (by injection h)
theorem er_ref {v:Value}{a:Addr}(h:er v=.ref a):v=.ref a:=by cases v <;> first|(injection h; done)|rfl|exact congrArg _ (by injection h)
theorem er_bi {v:Value}{a:String}(h:er v=.bi a):v=.builtin a:=by cases v <;> first|(injection h; done)|rfl|exact congrArg _ (by injection h)
theorem er_ty {v:Value}{a:String}(h:er v=.ty a):v=.type a:=by cases v <;> first|(injection h; done)|rfl|exact congrArg _ (by injection h)
theorem kd_ne {x:Str}{k:NameKind}{env:Env}(e:EnvOk c env)(h:c.kd x=some k):(x == ("__debug__" : Str))=false∧(x == ("__classdict__" : Str))=false:=by
 constructor <;> (rw [beq_eq_false_iff_ne]; rintro rfl)
 ·rw [e.dbg] at h; injection h
 ·rw [e.cld] at h; injection h
set_option tactic.hygienic true in
theorem s_name {x:Str}{Q:AV→Prop}{pos:Pos}(h:nameV c x m V Q):SG er c m V (eval (.Name x pos)) (fun v V'=>V'=V∧Q v):=fun env A fs O s E e b f hE=>by
 unfold nameV at h
 split at h
 ·rename_i hk
  obtain ⟨v,hv,hq⟩:=h
  obtain ⟨mr,hn,hm⟩:=f.ns
  obtain ⟨u,hu,rfl⟩:=hm x v hv
  exact wpAny_Name (wpAny_loadName_local b.kind ((e.kd x).symm.trans hk) hn hu ⟨V,f,rfl,hq⟩) (kd_ne e hk).1
 ·rename_i hk
  obtain ⟨v,hv,hq⟩:=h
  have X:=b.kin f.toSC
  have T:=b.top f.toSC
  have hns:s.heap.Ns env.globals c.W.mg:=by rw [b.glob]; exact T.g
  unfold gv at hv
  split at hv
  ·injection hv
  ·rename_i hn
   split at hv
   ·rename_i v' hv'
    obtain rfl:=Option.some.inj hv
    exact Name_function_global b.kind ((e.kd x).symm.trans hk) (loadGlobal_global hns (mg_of X T.g hv') ⟨V,f,rfl,hq⟩) (kd_ne e hk).1
   ·rename_i hv'
    rcases hb:bootBuiltins x with _|⟨u⟩
    ·rw [hb] at hv; injection hv
    ·rw [hb] at hv; obtain rfl:=Option.some.inj hv
     exact Name_function_global b.kind ((e.kd x).symm.trans hk) (loadGlobal_builtin hns (mg_none_of X T.g hv') (by rw [b.blt]; exact T.b) ((T.builtins x hn).trans hb) ⟨V,f,rfl,hq⟩) (kd_ne e hk).1
   ·injection hv
 ·rename_i hk
  obtain ⟨a,v,ha,hv,hq⟩:=h
  obtain ⟨ob,hob,w,hw,he⟩:=f.view _ _ hv
  rcases w with _|⟨u⟩
  ·injection he
  ·obtain rfl:=Option.some.inj he; exact wpAny_Name (wpAny_loadName_cell b.kind ((e.kd x).symm.trans hk) (e.cl x a ha) ⟨ob,hob,hw⟩ ⟨V,f,rfl,hq⟩) (kd_ne e hk).1
 ·rename_i hk
  obtain ⟨a,v,ha,hv,hq⟩:=h
  obtain ⟨ob,hob,w,hw,he⟩:=f.view _ _ hv
  rcases w with _|⟨u⟩
  ·injection he
  ·obtain rfl:=Option.some.inj he; exact wpAny_Name (wpAny_loadName_free b.kind ((e.kd x).symm.trans hk) (e.cl x a ha) ⟨ob,hob,hw⟩ ⟨V,f,rfl,hq⟩ (kd_ne e hk).2) (kd_ne e hk).1
 ·exact h.elim
end
section
variable {c:Cf} {m:Mp} {V:View}
theorem pow18 {A:Around}{E:Value→Shared→Prop}{s:Shared}{t u:Tok}{Q:Value→Shared→Prop}{prog:Program}{w:World}(h:∀ t',Q (.int (10 ^ 18) t') { s with toks:=t'+1 }):wpAny (model prog w) A (binaryOp .Pow (.int 10 t) (.int 18 u)) Q E s :=
 AutoIntOps.pow_4 (by decide) (by decide) (by decide) (by decide) (by decide +kernel) (h _)
theorem pow30 {A:Around}{E:Value→Shared→Prop}{s:Shared}{t u:Tok}{Q:Value→Shared→Prop}{prog:Program}{w:World}(h:∀ t',Q (.int (2 ^ 30) t') { s with toks:=t'+1 }):wpAny (model prog w) A (binaryOp .Pow (.int 2 t) (.int 30 u)) Q E s :=
 AutoIntOps.pow_4 (by decide) (by decide) (by decide) (by decide) (by decide +kernel) (h _)
theorem small_bits {k:Int}(h:k.natAbs<2 ^ 63):Builtin.Int.intBits k≤64:=intBits_le_64 (Int.lt_of_lt_of_le (by decide) (na_bd (Nat.le_of_lt h)).1) (Int.lt_of_le_of_lt (na_bd (Nat.le_of_lt h)).2 (by decide))
theorem not_pylong {x y:Int}(h:y.natAbs<2 ^ 63):¬ (Builtin.divisionGoesByPylong x y)=true:=by
 have h2:=small_bits h
 unfold Builtin.divisionGoesByPylong
 by_cases hy:y=0
 ·simp [hy]
 ·have:y.natAbs.log2<63:=(Nat.log2_lt (fun e=>hy (Int.natAbs_eq_zero.mp e))).mpr h
  simp [hy]
  intro h3
  exact absurd h3 (Nat.not_lt_of_le (Nat.le_trans (Nat.succ_le_succ (Nat.div_le_div_right (Nat.le_of_lt this))) (by decide)))
theorem ls_obj {W:Wo}{fs:List Addr}{O:Heap}{L:Addr}{s:Shared}(f:SF W fs O L m V s){a:Addr}{xs:List AV}(h:V a=some (.list xs)):∃ vs n,s.heap.get? a=some { cls:=.type "list",data:=.seq (List.toArray vs) n }∧vs.map er=xs:=by
 refine cp fun kk=>?_
 obtain ⟨ob,h1,vs,n,rfl,h2⟩:=f.view a _ h
 refine kk ?_
 exact ⟨vs,n,h1,h2⟩
theorem tp_obj {W:Wo}{fs:List Addr}{O:Heap}{L:Addr}{s:Shared}(f:SF W fs O L m V s){a:Addr}{xs:List AV}(h:V a=some (.tup xs)):∃ vs n,s.heap.get? a=some { cls:=.type "tuple",data:=.seq (List.toArray vs) n }∧vs.map er=xs:=by
 refine cp fun kk=>?_
 obtain ⟨ob,h1,vs,n,rfl,h2⟩:=f.view a _ h
 refine kk ?_
 exact ⟨vs,n,h1,h2⟩
end
section
variable {V:View} {h:Heap} (hv:∀ a o,V a=some o→∃ ob,h.get? a=some ob∧RO ob o)
include hv
end
section
variable {c:Cf} {m:Mp} {V:View}
theorem beq_dec {α:Type}[BEq α][LawfulBEq α][DecidableEq α](a b:α):(a == b)=decide (a=b):=by rw [Bool.eq_iff_iff]; simp
theorem isList_obj {h:Heap}{a:Addr}{vs:List Value}{n:Nat}(e:h.get? a=some { cls:=.type "list",data:=.seq (List.toArray vs) n }):h.IsList a vs.toArray:=⟨_,e,rfl,_,rfl⟩
end
noncomputable def allN (h:Heap)(L:Addr):List (Addr×Obj):=(List.range h.objs.size).filterMap fun a=>if a=L then none else (h.get? a).map fun o=>(a,o)
theorem mem_allN {h:Heap}{L a:Addr}{o:Obj}:(a,o)∈allN h L ↔ a≠L∧h.get? a=some o:=by
 unfold allN
 rw [List.mem_filterMap]
 constructor
 ·rintro ⟨b,hb,e⟩
  by_cases q:b=L
  ·rw [if_pos q] at e; injection e
  ·rw [if_neg q] at e
   obtain ⟨o',e1,e2⟩:=Option.map_eq_some_iff.mp e
   cases e2; exact ⟨q,e1⟩
 ·rintro ⟨h1,h2⟩
  exact ⟨a,List.mem_range.mpr (Heap.lt_size h2),by rw [if_neg h1,h2]; rfl⟩
theorem allN_nodup (h:Heap)(L:Addr):((allN h L).map (·.1)).Nodup:=by
 unfold allN
 rw [List.map_filterMap]
 have:((List.range h.objs.size).filterMap fun x=>Option.map (fun p:Addr×Obj=>p.1) (if x=L then none else (h.get? x).map fun o=>(x,o))) =
   (List.range h.objs.size).filter fun x=>(x≠L&&(h.get? x).isSome):=by
  rw [← List.filterMap_eq_filter]
  congr 1
  funext x
  by_cases q:x=L
  ·simp [q,Option.guard]
  ·cases e:h.get? x <;> simp [q,e,Option.guard]
 rw [this]
 exact List.Nodup.sublist List.filter_sublist List.nodup_range
noncomputable def nilH:Heap:=⟨#[],{}⟩
theorem nilH_get (a:Addr):nilH.get? a=none:=rfl
theorem allN_news (h:Heap)(L:Addr):News nilH L h (allN h L):=fun p hp=>by
 obtain ⟨a,o⟩:=p
 obtain ⟨h1,h2⟩:=mem_allN.mp hp
 exact ⟨h2,h1,rfl⟩
theorem split_at {l:List (Addr×Obj)}{a:Addr}{o:Obj}(hm:(a,o)∈l)(hn:(l.map (·.1)).Nodup):∃ pre post,l=pre++(a,o)::post∧(∀ p∈pre,p.1≠a)∧∀ p∈post,p.1≠a:=by
 refine cp fun kk=>?_
 obtain ⟨pre,post,rfl⟩:=List.append_of_mem hm
 refine kk ?_
 refine ⟨pre,post,rfl,fun p hp e=>?_,fun p hp e=>?_⟩
 ·rw [List.map_append,List.nodup_append] at hn
  exact hn.2.2 p.1 (List.mem_map_of_mem hp) a (.head _) e
 ·rw [List.map_append,List.nodup_append,List.map_cons,List.nodup_cons] at hn
  exact hn.2.1.1 (by have:=List.mem_map_of_mem (f:=fun p:Addr×Obj=>p.1) hp; rw [e] at this; exact this)
section
variable {W:Wo} {fs:List Addr} {O:Heap} {L:Addr} {m:Mp} {V:View} {s:Shared}
theorem SF.fr (h:SF W fs O L m V s):∃ mr,Fr nilH L s.heap mr∧∀ x v,m x=some v→∃ u,mr x=some u∧er u=v :=
 let ⟨mr,h1,h2⟩:=h.ns; ⟨mr,⟨h1,(fun b o e=>by rw [nilH_get] at e; injection e),Nat.zero_le _⟩,h2⟩
theorem SF.turnL (h:SF W fs O L m V s){h':Heap}{t:Nat}{a:Addr}{ob:Obj}{o o₀:AO}{mr:Str→Option Value}(hv:V a=some o₀)(hm:∀ x v,m x=some v→∃ u,mr x=some u∧er u=v)(hn:h'.Ns L mr)
  (k:∀ b o,b≠a→b≠L→s.heap.get? b=some o→h'.get? b=some o) (hob:h'.get? a=some ob) (hr:RO ob o) :
  SF W fs O L m (put V a o) { s with heap:=h',toks:=t } :=
 have nO:∀{b o},O.get? b=some o→b≠a:=fun {b o} e q=>by rw [q,h.off a o₀ hv] at e; injection e
 have nL:L≠a:=fun q=>by have:=h.offL; rw [q,hv] at this; injection this
 have nOL:∀{b o},O.get? b=some o→b≠L:=fun {b o} e q=>by rw [q,h.offO] at e; injection e
 {keep:=fun b o e=>let ⟨sl,h1,h2⟩:=h.keep b o e; ⟨sl,k b _ (nO e) (nOL e) h1,h2⟩
  view:=fun b o' e=>by
   by_cases hb:b=a
   ·subst hb; rw [put_self] at e; (injection e with e; subst e); exact ⟨ob,hob,hr⟩
   ·rw [put_ne _ _ hb] at e; obtain ⟨o1,h1,h2⟩:=h.view b o' e
    exact ⟨o1,k _ _ hb (by rintro rfl; rw [h.offL] at e; injection e) h1,h2⟩
  off:=fun b o' e=>by
   by_cases hb:b=a
   ·subst hb; exact h.off _ _ hv
   ·rw [put_ne _ _ hb] at e; exact h.off b o' e
  gens:=h.gens,drawn:=h.drawn,os:=h.os
  ns:=⟨mr,hn,hm⟩
  offL:=by rw [put_ne _ _ nL]; exact h.offL
  offO:=h.offO }
theorem SF.ofNews (h:SF W fs O L m V s){h':Heap}{t:Nat}{d:Addr}{ob':Obj}{o o₀:AO}{mr:Str→Option Value}{pre post:List (Addr×Obj)}{ob:Obj}(hm:∀ x v,m x=some v→∃ u,mr x=some u∧er u=v)(hv:V d=some o₀)
  (e:allN s.heap L=pre++(d,ob)::post) (F:Fr nilH L h' mr) (N:News nilH L h' (pre++(d,ob')::post)) (hr:RO ob' o):SF W fs O L m (put V d o) { s with heap:=h',toks:=t }:=by
 refine h.turnL hv hm F.ns (fun b ob1 hb hL hq=>?_) (N (d,ob') (by simp)).1 hr
 have:(b,ob1)∈pre++(d,ob)::post:=e▸mem_allN.mpr ⟨hL,hq⟩
 rcases List.mem_append.mp this with q|q
 ·exact (N (b,ob1) (List.mem_append_left _ q)).1
 ·rcases List.mem_cons.mp q with q|q
  ·(injection q with q; subst q); exact absurd rfl hb
  ·exact (N (b,ob1) (List.mem_append_right _ (.tail _ q))).1
theorem fr_get {es:List DictEntry}{fs:List (Str×AV)}(h:FR es fs)(n:Str):getL n es=some (match lkF fs n with|some _=>(es.find? (·.key.isStr n)).map (·.val)|none=>none) ∧
  (∀ v,lkF fs n=some v→∃ u,getL n es=some (some u)∧er u=v)∧(lkF fs n=none→getL n es=some none):=by
 have key:∀{es:List DictEntry}{fs:List (Str×AV)},FR es fs→(es.any (·.refKey))=false∧(∀ v,lkF fs n=some v→∃ e,es.find? (·.key.isStr n)=some e∧er e.val=v)∧(lkF fs n=none→es.find? (·.key.isStr n)=none):=by
  intro es fs h
  induction h with
  | nil=>exact ⟨rfl,fun v e=>by simp [lkF] at e,fun zz=>rfl⟩
  | @cons hh x t v es fs h ih =>
   refine cp fun kk=>?_
   obtain ⟨h1,h2,h3⟩:=ih
   refine kk ?_
   refine ⟨by rw [List.any_cons,h1]; rfl,fun u e=>?_,fun e=>?_⟩
   ·unfold lkF at e
    by_cases q:n=x
    ·rw [if_pos q] at e; (injection e with e; subst e)
     exact ⟨⟨hh,.str x t,v⟩,by rw [List.find?_cons_of_pos]; simp [Value.isStr,q],rfl⟩
    ·rw [if_neg q] at e
     refine cp fun kk=>?_
     obtain ⟨en,e1,e2⟩:=h2 u e
     refine kk ?_
     refine ⟨en,?_,e2⟩
     rw [List.find?_cons_of_neg]
     ·exact e1
     ·simp [Value.isStr,Ne.symm q]
   ·unfold lkF at e
    by_cases q:n=x
    ·rw [if_pos q] at e; injection e
    ·rw [if_neg q] at e
     rw [List.find?_cons_of_neg]
     ·exact h3 e
     ·simp [Value.isStr,Ne.symm q]
 refine cp fun kk=>?_
 obtain ⟨h1,h2,h3⟩:=key h
 refine kk ?_
 refine ⟨?_,fun v e=>?_,fun e=>?_⟩
 ·unfold getL
  rcases q:lkF fs n with _|⟨v⟩
  ·rw [h3 q]; simp [h1]
  ·obtain ⟨en,e1,e2⟩:=h2 v q; rw [e1]; rfl
 ·refine cp fun kk=>?_
  obtain ⟨en,e1,e2⟩:=h2 v e
  refine kk ?_
  exact ⟨en.val,by unfold getL; rw [e1],e2⟩
 ·unfold getL; rw [h3 e]; simp [h1]
theorem fr_put {es:List DictEntry}{fs:List (Str×AV)}(h:FR es fs)(n:Str)(hs:Int)(t:Tok)(v:Value):FR (putL n hs (.str n t) v es) (putF n (er v) fs):=by
 induction h with
 | nil=>exact .cons .nil
 | @cons hh x t' u es fs h ih =>
  unfold putL putF
  by_cases q:n=x
  ·rw [if_pos q,if_pos (by simp [Value.isStr,q])]; exact .cons h
  ·rw [if_neg q,if_neg (by simp [Value.isStr,Ne.symm q])]; exact .cons ih
theorem fr_len {es:List DictEntry}{fs:List (Str×AV)}(h:FR es fs):es.length=fs.length:=by
 induction h with
 | nil=>rfl
 | cons _ ih=>simp [ih]
theorem putF_len (n:Str)(v:AV):∀ fs:List (Str×AV),(putF n v fs).length≤fs.length+1
 | []=>by simp [putF]
 | (y,u)::r=>by
  have:=putF_len n v r
  unfold putF
  split <;> simp <;> lia
end
section
variable {c:Cf} {m:Mp} {V:View}
theorem plain_handed {v:Value}(h:(er v).plain=true):handedIn v=true:=by cases v <;> first|rfl|exact absurd h Bool.false_ne_true
set_option tactic.hygienic true in
theorem s_attr {a:Value}{n:Str}{x:Bool}{Q:AV→Prop}(h:attrV c.W (er a) n V Q):SG er c m V (fun zz=>getAttr a n x) (fun v V'=>V'=V∧Q v):=fun env A fs O s E e b' f hE=>by
 unfold attrV at h
 split at h
 ·rename_i a' h1
  refine cp fun kk=>?_
  obtain rfl:=er_ref h1
  obtain ⟨C,d,gs,o,hi,hd,hc,hq⟩:=h
  obtain ⟨ob,ho,rfl⟩:=f.view _ _ hi
  obtain ⟨od,hod,es,k,rfl,hf⟩:=f.view _ _ hd
  have I:InstAt s.heap a' (instObj C d) C (some (dictOf es k)):=⟨ho,rfl,rfl,hod⟩
  have X:c.W.K.In s.heap:=b'.kin f.toSC
  refine kk ?_
  unfold ca at hc
  split at hc
  ·rename_i hp
   refine cp fun kk=>?_
   obtain ⟨hp1,hp2⟩:=Bool.and_eq_true_iff.mp hp
   obtain ⟨_,g1,g2⟩:=fr_get hf n
   have own:∀{attr:Option Value},findIn c.W.K (.ref C) n=some attr→noGet c.W.K attr=true→∀ v,lkF gs n=some v→v.plain=true→Q v →
     wpAny (model c.W.prog c.W.w) A (getAttr (.ref a') n x) (fun r s'=>∃ V',SF c.W fs O env.locals m V' s'∧V'=V∧Q (er r)) E s:=by
    intro attr ha hg v hl hv hq
    refine cp fun kk=>?_
    obtain ⟨u,hu,rfl⟩:=g1 v hl
    refine kk ?_
    exact get_value X I (plainGet_of hp1).1 (findObj_own hp2 ha hg hu) (plain_handed hv) ⟨V,f.tok _,rfl,hq⟩
   refine kk ?_
   split at hc
   ·rename_i ha
    (injection hc with hc; subst hc)
    split at hq
    ·rename_i v hl
     exact own ha rfl v hl hq.1 hq.2
    ·obtain ⟨v,e1,_⟩:=hq; injection e1
   ·rename_i u ha
    split at hc
    ·rename_i hg
     (injection hc with hc; subst hc)
     simp only [Bool.and_eq_true,beq_iff_eq,Bool.not_eq_true'] at hg
     split at hq
     ·rename_i v hl
      exact own ha (by show (some u).all _=true; simp [hg.1.1]) v hl hq.1 hq.2
     ·rename_i hl
      refine cp fun kk=>?_
      obtain ⟨v,e1,hq⟩:=hq
      refine kk ?_
      (injection e1 with e1; subst e1)
      exact get_value X I (plainGet_of hp1).1 (findObj_cls hp2 ha hg.1.1 hg.1.2 hg.2 (g2 hl)) hg.1.2 ⟨V,f.tok _,rfl,hq⟩
    ·injection hc
   ·injection hc
  ·injection hc
 ·exact h.elim
set_option tactic.hygienic true in
theorem s_set {a v:Value}{n:Str}{Q:View→Prop}(h:setV c.W (er a) n (er v) V Q):SG id c m V (fun zz=>setAttr a n v) (fun zz V'=>Q V'):=fun env A fs O s E e b' f hE=>by
 unfold setV at h
 split at h
 ·rename_i a' h1
  refine cp fun kk=>?_
  obtain rfl:=er_ref h1
  obtain ⟨C,d,gs,hi,hd,hc,hz,hq⟩:=h
  obtain ⟨ob,ho,rfl⟩:=f.view _ _ hi
  obtain ⟨od,hod,es,k,rfl,hf⟩:=f.view _ _ hd
  have I:InstAt s.heap a' (instObj C d) C (some (dictOf es k)):=⟨ho,rfl,rfl,hod⟩
  have X:c.W.K.In s.heap:=b'.kin f.toSC
  refine kk ?_
  unfold sa at hc
  simp only [Bool.and_eq_true,beq_iff_eq] at hc
  refine cp fun kk=>?_
  obtain ⟨⟨⟨hc1,hc2⟩,hc3⟩,hc4⟩:=hc
  obtain ⟨mr,F,hm⟩:=f.fr
  have hdL:d≠env.locals:=by rintro rfl; rw [f.offL] at hd; injection hd
  obtain ⟨pre,post,e1,p1,p2⟩:=split_at (mem_allN.mpr ⟨hdL,hod⟩) (allN_nodup s.heap env.locals)
  have N:=e1▸allN_news s.heap env.locals
  have hl:(lookIn n (dictOf es k)).isSome=true:=by rw [lookIn_dict,(fr_get hf n).1]; rfl
  refine kk ?_
  refine set_plain X I hc1 (osa_dict (s:={ s with toks:=s.toks+1 }) F N X I rfl hc2 hc3 hc4 hl p1 p2 (putName_dict ..) rfl ?_ fun h' F' N'=>?_)
  ·have:=fr_len (fr_put hf n (PyData.keyHash c.W.w.params n) (s.toks+1) v)
   have h3:=putF_len n (er v) gs
   show (putL _ _ _ _ _).length≤1000
   rw [this]; lia
  ·exact ⟨_,f.ofNews (o:=.dict (putF n (er v) gs)) hm hd e1 F' N' ⟨_,_,rfl,fr_put hf n _ _ v⟩,hq⟩
 ·exact h.elim
end
section
variable {W:Wo} {fs:List Addr} {O:Heap} {L:Addr} {m:Mp} {V:View} {s:Shared}
theorem SF.ofAll (f:SF W fs O L m V s){h':Heap}{t:Nat}{mr:Str→Option Value}(hm:∀ x v,m x=some v→∃ u,mr x=some u∧er u=v)(F:Fr nilH L h' mr)(N:News nilH L h' (allN s.heap L)):SF W fs O L m V { s with heap:=h',toks:=t } :=
 have k:∀ b o,b≠L→s.heap.get? b=some o→h'.get? b=some o:=fun b o hb e=>(N (b,o) (mem_allN.mpr ⟨hb,e⟩)).1
 {keep:=fun b o e=>(by obtain ⟨sl,h1,h2⟩:=f.keep b o e; exact ⟨sl,k b _ (by rintro rfl; rw [f.offO] at e; injection e) h1,h2⟩)
  view:=fun b o e=>(by obtain ⟨o1,h1,h2⟩:=f.view b o e; exact ⟨o1,k _ _ (by rintro rfl; rw [f.offL] at e; injection e) h1,h2⟩)
  off:=f.off,gens:=f.gens,drawn:=f.drawn,os:=f.os,ns:=⟨mr,F.ns,hm⟩,offL:=f.offL,offO:=f.offO }
theorem none_of_keeps {h h':Heap}(k:∀ b o,h.get? b=some o→h'.get? b=some o){a:Addr}(e:h'.get? a=none):h.get? a=none:=by
 rcases q:h.get? a with _|⟨o⟩
 ·rfl
 ·rw [k a o q] at e; injection e
theorem foldl_max:∀(ns:List Int)(n M:Int),M∈n::ns→(∀ a∈n::ns,a≤M)→M=ns.foldl max n
 | [],n,M,h,z1=>by simpa using h
 | a::r,n,M,h,k=>by
  refine foldl_max r (max n a) M ?_ fun b hb=>?_
  ·rcases List.mem_cons.mp h with h|h
   ·have:=k a (.tail _ (.head _)); subst h; rw [Int.max_eq_left this]; simp
   ·rcases List.mem_cons.mp h with h|h
    ·have:=k n (.head _); subst h; rw [Int.max_eq_right this]; simp
    ·exact List.mem_cons_of_mem _ h
  ·rcases List.mem_cons.mp hb with h|h
   ·have h1:=k n (by simp); have h2:=k a (.tail _ (.head _)); rw [h]; exact Int.max_le.mpr ⟨h1,h2⟩
   ·exact k b (by simp [h])
theorem intsAre_of:∀(vs:List Value)(ns:List Int),vs.map er=ns.map .int→IntsAre vs ns
 | [],[],z1=>by exact .nil
 | [],z1::z2,h=>by injection h
 | z1::z2,[],h=>by injection h
 | v::vs,n::ns,h=>by
  simp only [List.map_cons,List.cons.injEq] at h
  obtain ⟨t,rfl⟩:=er_int h.1
  exact .cons n t (intsAre_of vs ns h.2)
theorem intPairs_of:∀(vs:List Value)(ns:List Int),vs.map er=ns.map .int→∃ xs:List (Int×Tok),vs=xs.map (fun x=>.int x.1 x.2)∧xs.map (·.1)=ns
 | [],[],z1=>⟨[],rfl,rfl⟩
 | [],z1::z2,h=>by injection h
 | z1::z2,[],h=>by injection h
 | v::vs,n::ns,h=>by
  simp only [List.map_cons,List.cons.injEq] at h
  obtain ⟨t,rfl⟩:=er_int h.1
  obtain ⟨xs,rfl,h2⟩:=intPairs_of vs ns h.2
  exact ⟨(n,t)::xs,rfl,by simp [h2]⟩
end
section
variable {c:Cf} {m:Mp} {V:View}
theorem map_one {vs:List Value}{a:AV}(h:vs.map er=[a]):∃ v,vs=[v]∧er v=a:=by
 rcases vs with _|⟨v,vs⟩
 ·injection h
 ·injection h with h1 h2
  exact ⟨v,congrArg _ (List.map_eq_nil_iff.mp h2),h1⟩
theorem map_two {vs:List Value}{a b:AV}(h:vs.map er=[a,b]):∃ v u,vs=[v,u]∧er v=a∧er u=b:=by
 rcases vs with _|⟨v,vs⟩
 ·injection h
 ·injection h with h1 h2
  obtain ⟨u,e,h3⟩:=map_one h2
  exact ⟨v,u,congrArg _ e,h1,h3⟩
end
section
variable {c:Cf} {m:Mp} {V:View}
theorem set_list {prog:Program}{w:World}{A:Around}{E:Value→Shared→Prop}{s:Shared}{l:Addr}{items:Array Value}{n:Nat}{k:Int}{t:Tok}{v:Value}{Q:Unit→Shared→Prop}(ho:s.heap.get? l=some { cls:=.type "list",data:=.seq items n })
  (h0:0≤k) (hfit:k<2 ^ 63) (hn:k<items.size)
  (hQ:∀ h' n',h'.get? l=some { cls:=.type "list",data:=.seq (items.setIfInBounds k.toNat v) n' }→Heap.SameBut l s.heap h'→Q () { s with heap:=h' }) :
  wpAny (model prog w) A (setItem (.ref l) (.int k t) v) Q E s:=by
 have hl:s.heap.IsList l items:=⟨_,ho,rfl,_,rfl⟩
 have hd:({ cls:=.type "list",data:=.seq items n }:Obj).data=.seq items n:=rfl
 unfold setItem
 try with_reducible refine wpAny_holding ?_
 first|refine wpAny_bind (wpAny_pure ?_)|skip
 refine wpAny_bind (wpAny_sequenceKey hl.typeIs (by decide) ?_)
 refine wpAny_bind (wpAny_callSpecial?_slot (name:=Str.ofString "__setitem__") hl.typeIs slot_list_setitem
  (wpAny_call_entry slot_list_setitem hl.typeIs entry_list_setitem ?_ (args_list_setitem _ _ _)))
 show wpAny _ _ (Builtin.List.listSubscript? (.int k t) >>= _) _ _ s
 refine wpAny_bind (wpAny_listSubscript_int (fitsIndex_of h0 hfit) ?_)
 clear hfit
 obtain ⟨j,rfl⟩:=Int.eq_ofNat_of_zero_le h0
 have hj:j<items.size:=Int.ofNat_lt.mp hn
 have hx':items[j]?=some items[j]:=Array.getElem?_eq_getElem hj
 refine wpAny_bind (wpAny_bind (wpAny_seqItemAt ho hd (wpAny_pure ?_)))
 rw [hx']
 have hfin:=Heap.get?_update_self (Obj.mapSeq (·.setIfInBounds j v)) ho (by rfl)
 refine wpAny_bind (wpAny_setSeqItemAt ho hd ?_)
 first
  | exact wpAny_bind (wpAny_pure (wpAny_pure ⟨.none,rfl,wpAny_pure (hQ _ _ hfin (Heap.SameBut.update ..))⟩))
  | exact wpAny_pure ⟨.none,rfl,wpAny_pure (hQ _ _ hfin (Heap.SameBut.update ..))⟩
theorem seqIdx_pos {k:Int}{n:Nat}(h0:0≤k)(h:k.toNat<n):seqIndex? k n=some k.toNat:=by
 unfold seqIndex?
 have h2:¬ k<0:=Int.not_lt.mpr h0
 simp only [h2,if_false]
 rw [if_pos]
 exact Bool.and_eq_true_iff.mpr ⟨decide_eq_true h0,decide_eq_true ((Int.toNat_lt h0).mp h)⟩
theorem seqIdx_neg {k:Int}{n:Nat}(h0:k<0)(h1:0≤k+n)(h:(k+n).toNat<n):seqIndex? k n=some (k+n).toNat:=by
 unfold seqIndex?
 simp only [h0,if_true]
 rw [if_pos]
 exact Bool.and_eq_true_iff.mpr ⟨decide_eq_true h1,decide_eq_true ((Int.toNat_lt h1).mp h)⟩
end
set_option tactic.hygienic true
noncomputable def Bnd (v:Value)(o:Option Int):Prop:=(er v=.none∧o=none)∨∃ i,er v=.int i∧0≤i∧i<2 ^ 60∧o=some i
theorem Bnd.part {v:Value}{o:Option Int}(h:Bnd v o):IsPart v o:=by
 rcases h with ⟨h,rfl⟩|⟨i,h,_,_,rfl⟩
 ·rw [er_none h]; exact .none
 ·obtain ⟨t,rfl⟩:=er_int h; exact .int i t
theorem Bnd.pos {v:Value}{o:Option Int}(h:Bnd v o):∀ i,o=some i→0≤i:=by
 rcases h with ⟨h,rfl⟩|⟨i,h,h0,_,rfl⟩
 ·intro i e; injection e
 ·intro j e; obtain rfl:=Option.some.inj e; exact h0
noncomputable def loN (lo:Option Int)(n:Nat):Nat:=match lo with|none=>0|some i=>min i.toNat n
noncomputable def hiN (hi:Option Int)(n:Nat):Nat:=match hi with|none=>n|some i=>min i.toNat n
theorem pick_cut (vs:List Value)(lo hi:Option Int)(h1:∀ i,lo=some i→0≤i)(h2:∀ i,hi=some i→0≤i) :
  slicePick vs.toArray lo hi none=((vs.drop (loN lo vs.length)).take (hiN hi vs.length-loN lo vs.length)).toArray:=by
 have e1:sliceBounds lo hi none vs.toArray.size=((loN lo vs.length:Int),(hiN hi vs.length:Int),1):=by
  unfold sliceBounds
  simp only [Option.getD_none,List.size_toArray,show ((1:Int) > 0)=True by simp,if_true]
  refine Prod.ext ?_ (Prod.ext ?_ rfl)
  ·rcases lo with _|⟨i⟩
   ·rfl
   ·have:=h1 i rfl; simp only [loN]; rw [if_neg (Int.not_lt.mpr this),min_nn this,Int.max_eq_right (Int.natCast_nonneg _)]
  ·rcases hi with _|⟨i⟩
   ·rfl
   ·have:=h2 i rfl; simp only [hiN]; rw [if_neg (Int.not_lt.mpr this),min_nn this,Int.max_eq_right (Int.natCast_nonneg _)]
 unfold slicePick
 rw [e1]
 dsimp only
 rw [sliceRange_one,pick_run]
section
variable {prog:Program} {w:World} {A:Around} {E:Value→Shared→Prop} {s:Shared}
theorem part_index {v:Value}{o:Option Int}{Q:Option Int→Shared→Prop}(h:IsPart v o)(q:Q o s):wpAny (model prog w) A (Builtin.Slice.slicePartIndex v) Q E s:=by
 cases h with
 | none=>exact PyProof.Rows.slicePart_none q
 | int i t=>exact PyProof.Rows.slicePart_int q
theorem adjust_of (lo hi:Option Int)(n:Nat)(h1:∀ i,lo=some i→0≤i)(h2:∀ i,hi=some i→0≤i):Builtin.Slice.sliceAdjust lo hi 1 (n:Int)=((loN lo n:Int),(hiN hi n:Int)):=by
 unfold Builtin.Slice.sliceAdjust
 have h3:¬ ((1:Int)<0):=by decide
 dsimp only [h3,if_false]
 refine Prod.ext ?_ ?_
 ·rcases lo with _|⟨i⟩
  ·rfl
  ·have:=h1 i rfl; dsimp only [loN]; rw [if_neg (Int.not_lt.mpr this),if_neg h3]; exact min_nn this
 ·rcases hi with _|⟨i⟩
  ·rfl
  ·have:=h2 i rfl; dsimp only [hiN]; rw [if_neg (Int.not_lt.mpr this),if_neg h3]; exact min_nn this
theorem places_of (a b:Nat):Builtin.Slice.slicePlaces (a:Int) (b:Int) 1=b-a:=by
 show (Builtin.Range.rangeSize (a:Int) (b:Int) 1).toNat=b-a
 rw [rangeSize_nat]; exact Int.toNat_sub b a
theorem cut_tuple {t sl:Addr}{vs:List Value}{vl vu:Value}{lo hi:Option Int}{Q:Value→Shared→Prop}(ht:IsTup s.heap t vs.toArray)(hs:s.heap.IsSliceOf sl vl vu .none)(pl:IsPart vl lo)(pu:IsPart vu hi)
  (h1:∀ i,lo=some i→0≤i) (h2:∀ i,hi=some i→0≤i) (hn:(vs.drop (loN lo vs.length)).take (hiN hi vs.length-loN lo vs.length)≠vs)
  (h:Q (.ref s.heap.objs.size) { s with heap:=s.heap.push { cls:=.type "tuple",data:=.seq ((vs.drop (loN lo vs.length)).take (hiN hi vs.length-loN lo vs.length)).toArray } })
  (hsz:vs.length≤sizeLine):wpAny (model prog w) A (getItem (.ref t) (.ref sl)) Q E s:=by
 have hdrop:sizeOk (.seq ((vs.drop (loN lo vs.length)).take (hiN hi vs.length-loN lo vs.length)).toArray):=by
  show ((vs.drop (loN lo vs.length)).take (hiN hi vs.length-loN lo vs.length)).toArray.size≤sizeLine
  rw [List.size_toArray,List.length_take,List.length_drop]
  exact Nat.le_trans (Nat.min_le_right _ _) (Nat.le_trans (Nat.sub_le _ _) hsz)
 refine cp fun kk=>?_
 obtain ⟨os,hos,hcs,hds⟩:=id hs
 have hTs:s.TypeIs (.ref sl) "slice":=⟨os,hos,hcs⟩
 refine kk ?_
 delta getItem
 try with_reducible refine wpAny_holding ?_
 first|refine wpAny_bind (wpAny_pure ?_)|skip
 refine wpAny_bind (wpAny_sequenceKey ht.typeIs (by decide) ?_)
 refine wpAny_bind (wpAny_callSpecial?_slot (name:=Str.ofString "__getitem__") ht.typeIs slot_tuple_getitem
  (wpAny_call_entry slot_tuple_getitem ht.typeIs entry_tuple_getitem ?_ (args_tuple_getitem _ _)))
 show wpAny _ _ (Builtin.Tuple.tupleItemsOf (.ref t) >>= _) _ _ s
 refine wpAny_bind (tupleItemsOf_ ht ?_)
 refine wpAny_bind (wpAny_typeOf hTs ?_)
 rw [if_pos (by decide)]
 refine wpAny_bind ?_
 delta Builtin.Slice.sliceApplied Builtin.Slice.sliceFields
 refine wpAny_bind (wpAny_bind (wpAny_field hos hds (x:=vl) rfl (wpAny_bind (wpAny_field hos hds (x:=vu) rfl (wpAny_bind (wpAny_field hos hds (x:=.none) rfl (wpAny_pure ?_)))))))
 refine wpAny_bind (part_index .none ?_)
 rw [if_neg (by decide)]
 refine wpAny_bind (part_index pl (wpAny_bind (part_index pu (wpAny_bind (wpAny_pure ?_)))))
 show wpAny _ _ (match Builtin.Slice.sliceAdjust lo hi 1 ((vs.toArray.size:Nat):Int) with|(lo,hi)=>pure (lo,(1:Int),Builtin.Slice.slicePlaces lo hi 1)) _ _ s
 rw [List.size_toArray,adjust_of lo hi _ h1 h2]
 show wpAny _ _ (pure ((loN lo vs.length:Int),(1:Int),Builtin.Slice.slicePlaces (loN lo vs.length:Int) (hiN hi vs.length:Int) 1)) _ _ s
 rw [places_of]
 refine wpAny_pure ?_
 have hno:¬ (((loN lo vs.length:Int) == 0&&(1:Int) == 1&&(hiN hi vs.length-loN lo vs.length) == vs.length)=true):=by
  intro q
  rw [Bool.and_eq_true,beq_iff_eq] at q
  apply hn
  have e1:loN lo vs.length=0:=Int.ofNat.inj (eq_of_beq (Bool.and_eq_true_iff.mp q.1).1)
  rw [q.2,e1,List.drop_zero,List.take_length]
 show wpAny _ _ (if ((loN lo vs.length:Int) == 0&&(1:Int) == 1&&(hiN hi vs.length-loN lo vs.length) == vs.toArray.size)=true then _ else _) _ _ s
 rw [List.size_toArray,if_neg hno]
 have e:((List.range (hiN hi vs.length-loN lo vs.length)).filterMap fun (k:Nat)=>vs.toArray[((loN lo vs.length:Int)+(k:Int)*1).toNat]?).toArray=((vs.drop (loN lo vs.length)).take (hiN hi vs.length-loN lo vs.length)).toArray:=by
  have e:(fun (k:Nat)=>vs.toArray[((loN lo vs.length:Int)+(k:Int)*1).toNat]?)=fun k=>vs.toArray[loN lo vs.length+k]?:=by
   funext k
   have:((loN lo vs.length:Int)+(k:Int)*1).toNat=loN lo vs.length+k:=by rw [Int.mul_one]; rfl
   rw [this]
  rw [e]
  have:=pick_run vs.toArray (loN lo vs.length) (hiN hi vs.length-loN lo vs.length)
  rw [List.filterMap_map] at this
  have e2:((fun x=>vs.toArray[x]?) ∘ fun x=>loN lo vs.length+x)=fun k=>vs.toArray[loN lo vs.length+k]?:=rfl
  rw [e2] at this
  rw [this]
 rw [e]
 first
  | exact wpAny_bind (m:=Builtin.Tuple.tupleExact _) (wpAny_newObj_type (wpAny_pure ⟨_,rfl,wpAny_pure h⟩) hdrop)
  | exact wpAny_bind (m:=Builtin.Tuple.tupleExact _) (wpAny_newObj_type (wpAny_bind (wpAny_pure (wpAny_pure ⟨_,rfl,wpAny_pure h⟩))) hdrop)
  | exact wpAny_bind (wpAny_bind (m:=Builtin.Tuple.tupleExact _) (wpAny_newObj_type (wpAny_pure (wpAny_pure ⟨_,rfl,wpAny_pure h⟩)) hdrop))
  | exact wpAny_bind (wpAny_bind (m:=Builtin.Tuple.tupleExact _) (wpAny_newObj_type (wpAny_pure ⟨_,rfl,wpAny_pure h⟩) hdrop))
end
section
variable {c:Cf} {m:Mp} {V:View}
end
set_option tactic.hygienic false
noncomputable def hid (h:Heap)(V:View)(L:Addr):Heap:=hideV h (put V L (.cell none))
theorem hid_of {h:Heap}{V:View}{L b:Addr}{o:Obj}(e:h.get? b=some o)(hv:V b=none)(hL:b≠L):(hid h V L).get? b=some o:=hideV_of e (by rw [put_ne _ _ hL]; exact hv)
theorem hid_some {h:Heap}{V:View}{L b:Addr}{o:Obj}(e:(hid h V L).get? b=some o):h.get? b=some o∧V b=none∧b≠L:=by
 obtain ⟨h1,h2⟩:=hideV_some e
 by_cases hb:b=L
 ·subst hb; rw [put_self] at h2; injection h2
 ·exact ⟨h1,by rw [put_ne _ _ hb] at h2; exact h2,hb⟩
section
variable {W:Wo} {A:Around} {fs:List Addr} {O:Heap} {L:Addr} {env:Env} {n:Nat} {m m':Mp} {V V':View} {s s':Shared}
theorem none_hid {h:Heap}{a:Addr}(q:∀ o,(hid h V L).get? a=some o→False):(hid h V L).get? a=none:=by
 rcases e:(hid h V L).get? a with _|⟨o⟩
 ·rfl
 ·exact (q o e).elim
theorem SF.wide (h:SF W fs O L m V s):SF W fs (hid s.heap V L) L m V s :=
 {keep:=.of_keeps fun b o e=>(hid_some e).1,view:=h.view,off:=fun a o e=>none_hid fun o' q=>by rw [(hid_some q).2.1] at e; injection e
  gens:=h.gens,drawn:=h.drawn,os:=h.os,ns:=h.ns,offL:=h.offL,offO:=none_hid fun o' q=>(hid_some q).2.2 rfl }
theorem SF.out (h:SF W fs O L m V s){b:Addr}{o:Obj}(e:O.get? b=some o):∃ sl,(hid s.heap V L).get? b=some { o with slots:=sl }∧(b ∉ fs→sl=o.slots):=by
 obtain ⟨sl,h1,h2⟩:=h.keep b o e
 refine ⟨sl,hid_of h1 ?_ ?_,h2⟩
 ·rcases q:V b with _|⟨x⟩
  ·rfl
  ·rw [h.off b x q] at e; injection e
 ·rintro rfl; rw [h.offO] at e; injection e
theorem SF.narrow (h:SF W fs O L m V s)(h':SF W fs (hid s.heap V L) L m' V' s'):SF W fs O L m' V' s' :=
 {keep:=fun b o e=>by
   refine cp fun kk=>?_
   obtain ⟨sl,h1,h2⟩:=h.out e
   obtain ⟨sl',h3,h4⟩:=h'.keep b _ h1
   refine kk ?_
   exact ⟨sl',h3,fun hb=>(h4 hb).trans (h2 hb)⟩
  view:=h'.view
  off:=fun a o e=>by
   rcases q:O.get? a with _|⟨x⟩
   ·rfl
   ·obtain ⟨sl,h1,_⟩:=h.out q; rw [h'.off a o e] at h1; injection h1
  gens:=h'.gens,drawn:=h'.drawn,os:=h'.os,ns:=h'.ns,offL:=h'.offL,offO:=h.offO }
theorem Bok.wide (c:Bok W A fs O env n)(h:SF W fs O env.locals m V s):Bok W A fs (hid s.heap V env.locals) env n :=
 {ok:=c.ok,frames:=c.frames,new:=c.new,hnd:=c.hnd,depth:=c.depth,units:=c.units,glob:=c.glob,blt:=c.blt,kind:=c.kind
  stays:=fun b o e=>by
   obtain ⟨sl,h1,h2⟩:=h.out (c.stays b o e)
   rw [h1,h2 fun q=>by rw [(c.fsn b q).1] at e; injection e]
  fsn:=fun b hb=>by
   refine cp fun kk=>?_
   obtain ⟨h1,o,h2,h3⟩:=c.fsn b hb
   obtain ⟨sl,h4,_⟩:=h.out h2
   refine kk ?_
   exact ⟨h1,_,h4,h3⟩ }
end
inductive ItK where
 | ls (I l:Addr)|tp (I t:Addr)|rg (I:Addr) (a:Int) (n:Nat)|en (e I l:Addr)
noncomputable def ItK.ctorIdx (x:ItK):Nat:=@ItK.casesOn (fun _=>Nat) x (fun _ _=>0) (fun _ _=>1) (fun _ _ _=>2) (fun _ _ _=>3)
noncomputable def ItK.top:ItK→Addr
 | .ls I z1=>I
 | .tp I z1=>I
 | .rg I z1 z2=>I
 | .en e z1 z2=>e
noncomputable def ItK.own:ItK→List Addr
 | .ls I z1=>[I]
 | .tp I z1=>[I]
 | .rg I z1 z2=>[I]
 | .en e I z1=>[e,I]
noncomputable def ItK.At:ItK→Nat→Heap→Prop
 | .ls I l,k,h=>h.IsListIter I l k
 | .tp I t,k,h=>h.IsTupleIter I t k
 | .rg I a n,k,h=>IsRangeIter h I (a+k*1) ((n:Int)-k) 1
 | .en e I l,k,h=>(∃ old,IsEnum h e I k old)∧h.IsListIter I l k∧e≠I
noncomputable def ItK.InV:ItK→List It→View→Prop
 | .ls z1 l,xs,V=>∃ ys,V l=some (.list ys)∧xs=ys.map .one
 | .tp z1 t,xs,V=>∃ ys,V t=some (.tup ys)∧xs=ys.map .one
 | .rg z1 a n,xs,V=>xs=(List.range n).map fun (i:Nat)=>.one (.int (a+(i:Int)))
 | .en z1 z2 l,xs,V=>∃ ys,V l=some (.list ys)∧xs=enumF 0 ys
theorem ItK.At.frame {K:ItK}{k:Nat}{h h':Heap}(x:K.At k h)(e:∀ b∈K.own,∀ o,h.get? b=some o→h'.get? b=some o):K.At k h':=by
 rcases K with ⟨I,l⟩|⟨I,t⟩|⟨I,a,n⟩|⟨d,I,l⟩
 ·exact Heap.IsListIter.at x fun o q=>e I (.head _) o q
 ·exact Heap.IsTupleIter.at x fun o q=>e I (.head _) o q
 ·exact e I (.head _) _ x
 ·exact ⟨let ⟨old,y⟩:=x.1; ⟨old,e d (by simp [own]) _ y⟩,Heap.IsListIter.at x.2.1 fun o q=>e I (.tail _ (.head _)) o q,x.2.2⟩
theorem ItK.At.alive {K:ItK}{k:Nat}{h:Heap}(x:K.At k h):∀ b∈K.own,∃ o,h.get? b=some o:=by
 rcases K with ⟨I,l⟩|⟨I,t⟩|⟨I,a,n⟩|⟨d,I,l⟩
 ·intro b hb; simp [own] at hb; subst hb; exact let ⟨o,q,_⟩:=x; ⟨o,q⟩
 ·intro b hb; simp [own] at hb; subst hb; exact let ⟨o,q,_⟩:=x; ⟨o,q⟩
 ·intro b hb; simp [own] at hb; subst hb; exact ⟨_,x⟩
 ·intro b hb; simp [own] at hb
  rcases hb with rfl|rfl
  ·exact let ⟨_,y⟩:=x.1; ⟨_,y⟩
  ·exact let ⟨o,q,_⟩:=x.2.1; ⟨o,q⟩
noncomputable def Own (K:ItK)(O:Heap)(V:View)(L:Addr):Prop:=∀ b∈K.own,O.get? b=none∧V b=none∧b≠L
section
variable {c:Cf} {m:Mp} {V:View} {A:Around} {fs:List Addr} {O:Heap} {L:Addr} {s:Shared} {E:Value→Shared→Prop}
theorem SF.side {W:Wo}(h:SF W fs O L m V s){h':Heap}{t:Nat}(ow:List Addr)(ho:∀ b∈ow,O.get? b=none∧V b=none∧b≠L)(k:∀ b o,b ∉ ow→s.heap.get? b=some o→h'.get? b=some o):SF W fs O L m V { s with heap:=h',toks:=t } :=
 {keep:=fun b o e=>let ⟨sl,h1,h2⟩:=h.keep b o e; ⟨sl,k b _ (fun q=>by rw [(ho b q).1] at e; injection e) h1,h2⟩
  view:=fun a o e=>let ⟨ob,h1,h2⟩:=h.view a o e; ⟨ob,k _ _ (fun q=>by rw [(ho a q).2.1] at e; injection e) h1,h2⟩
  off:=h.off,gens:=h.gens,drawn:=h.drawn,os:=h.os
  ns:=let ⟨mr,h1,h2⟩:=h.ns; ⟨mr,h1.at' fun o e=>k _ o (fun q=>(ho _ q).2.2 rfl) e,h2⟩
  offL:=h.offL,offO:=h.offO }
noncomputable def Out (K:ItK)(k:Nat)(x:It)(v:Value)(h:Heap):Prop:=match x with
 | .one a=>er v=a∧K.At (k+1) h∧∀ d I l,K≠.en d I l
 | .two a b=>∃ d I l T u₁ u₂,K=.en d I l∧v=.ref T∧h.get? T=some { cls:=.type "tuple",data:=.seq #[u₁,u₂] }∧er u₁=a∧er u₂=b∧IsEnumOut h d I ((k:Int)+1) u₂ T∧h.IsListIter I l (k+1)∧d≠I∧T ∉ K.own
theorem en_get:∀(ys:List AV)(j k:Nat)(x:It),(enumF j ys)[k]?=some x→∃ a,ys[k]?=some a∧x=.two (.int ((j+k:Nat):Int)) a
 | [],z1,k,x,h=>by injection h
 | y::ys,j,0,x,h=>by simp [enumF] at h; exact ⟨y,by simp,h.symm⟩
 | y::ys,j,k+1,x,h=>by
  simp [enumF] at h
  obtain ⟨a,h1,h2⟩:=en_get ys (j+1) k x h
  exact ⟨a,by simpa using h1,by rw [h2,show j+1+k=j+(k+1) by lia]⟩
theorem en_none:∀(ys:List AV)(j:Nat),(enumF j ys).length=ys.length
 | [],z1=>rfl
 | y::ys,j=>by simp [enumF,en_none ys (j+1)]
noncomputable def Keep (K:ItK)(h h':Heap):Prop:=∀ b o,b ∉ K.own→h.get? b=some o→h'.get? b=some o
theorem arr_get {α:Type}{vs:List α}{k:Nat}{u:α}(h:vs[k]?=some u):vs.toArray[k]?=some u:=by rw [List.getElem?_toArray]; exact h
theorem next_item {W:Wo}{K:ItK}{k:Nat}{xs:List It}{x:It}(f:SF W fs O L m V s)(ow:Own K O V L)(at_:K.At k s.heap)(iv:K.InV xs V)(hx:xs[k]?=some x) :
  wpAny (model W.prog W.w) A (pyNext (.ref K.top)) (fun r s₁=>∃ v,r=some v∧SF W fs O L m V s₁∧Keep K s.heap s₁.heap∧Out K k x v s₁.heap) E s:=by
 rcases K with ⟨I,l⟩|⟨I,l⟩|⟨I,a,n⟩|⟨d,I,l⟩
 ·refine cp fun kk=>?_
  obtain ⟨ys,hv,rfl⟩:=iv
  obtain ⟨vs,n,hvs,rfl⟩:=ls_obj f hv
  rw [List.getElem?_map,List.getElem?_map] at hx
  refine kk ?_
  rcases hu:vs[k]? with _|⟨u⟩
  ·rw [hu] at hx; injection hx
  ·rw [hu] at hx; obtain rfl:=Option.some.inj hx
   exact wpAny_pyNext_list_item at_ (isList_obj hvs) (x:=u) (arr_get hu) fun h' hit hs=>⟨u,rfl,f.side (t:=s.toks) [I] ow (fun b o hb e=>(hs.2 b (fun q=>hb (by rw [q]; exact List.Mem.head _))).trans e),(fun b o hb e=>(hs.2 b (fun q=>hb (by rw [q]; exact List.Mem.head _))).trans e),rfl,hit,fun zz zz zz q=>by cases q⟩
 ·refine cp fun kk=>?_
  obtain ⟨ys,hv,rfl⟩:=iv
  obtain ⟨vs,n,hvs,rfl⟩:=tp_obj f hv
  rw [List.getElem?_map,List.getElem?_map] at hx
  refine kk ?_
  rcases hu:vs[k]? with _|⟨u⟩
  ·rw [hu] at hx; injection hx
  ·rw [hu] at hx; obtain rfl:=Option.some.inj hx
   exact wpAny_pyNext_tuple_item at_ ⟨_,hvs,rfl,_,rfl⟩ (items:=vs.toArray) (x:=u) (arr_get hu) fun h' hit hs=>⟨u,rfl,f.side (t:=s.toks) [I] ow (fun b o hb e=>(hs.2 b (fun q=>hb (by rw [q]; exact List.Mem.head _))).trans e),(fun b o hb e=>(hs.2 b (fun q=>hb (by rw [q]; exact List.Mem.head _))).trans e),rfl,hit,fun zz zz zz q=>by cases q⟩
 ·have:xs=_:=iv
  subst this
  rw [List.getElem?_map] at hx
  rcases hu:(List.range n)[k]? with _|⟨j⟩
  ·rw [hu] at hx; injection hx
  ·rw [hu] at hx; obtain rfl:=Option.some.inj hx
   obtain ⟨hk,e⟩:=List.getElem?_eq_some_iff.mp hu
   obtain rfl:=(List.getElem_range hk).symm.trans e
   rw [List.length_range] at hk
   refine wpAny_pyNext_range_item at_ (Int.sub_pos_of_lt (Int.ofNat_lt.mpr hk)) fun h' hit hs=>⟨_,rfl,f.side [I] ow (fun b o hb e=>(hs.2 b (fun q=>hb (by rw [q]; exact List.Mem.head _))).trans e),(fun b o hb e=>(hs.2 b (fun q=>hb (by rw [q]; exact List.Mem.head _))).trans e),?_,?_,fun zz zz zz q=>by cases q⟩
   ·exact congrArg AV.int (by rw [Int.mul_one])
   ·show IsRangeIter _ I _ _ 1
    rw [show a+((k+1:Nat):Int)*1=a+(k:Int)*1+1 by rw [Int.mul_one,Int.mul_one]; exact (Int.add_assoc a k 1).symm,show (n:Int)-((k+1:Nat):Int)=(n:Int)-(k:Int)-1 from (Int.sub_sub n k 1).symm]; exact hit
 ·refine cp fun kk=>?_
  obtain ⟨ys,hv,rfl⟩:=iv
  obtain ⟨vs,n,hvs,rfl⟩:=ls_obj f hv
  obtain ⟨⟨old,he⟩,hit,hne⟩:=at_
  obtain ⟨a,ha,rfl⟩:=en_get _ _ _ _ hx
  rw [List.getElem?_map] at ha
  refine kk ?_
  rcases hu:vs[k]? with _|⟨u⟩
  ·rw [hu] at ha; injection ha
  ·rw [hu] at ha; obtain rfl:=Option.some.inj ha
   refine wpAny_pyNext_enum_item he hit (isList_obj hvs) (x:=u) (arr_get hu) hne fun h' ho hit' hT hsz hk=>⟨_,rfl,f.side [d,I] ow (fun b o hb e=>hk b o (fun q=>hb (q▸.head _)) (fun q=>hb (q▸.tail _ (.head _))) e),(fun b o hb e=>hk b o (fun q=>hb (q▸.head _)) (fun q=>hb (q▸.tail _ (.head _))) e),?_⟩
   refine ⟨d,I,l,s.heap.objs.size,_,u,rfl,rfl,hT,congrArg AV.int (by rw [Nat.zero_add]),rfl,ho,hit',hne,?_⟩
   intro q
   have h1:d<s.heap.objs.size:=Heap.lt_size he
   have h2:I<s.heap.objs.size:=by obtain ⟨o,q,_⟩:=hit; exact Heap.lt_size q
   rcases List.mem_cons.mp q with q|q
   ·rw [← q] at h1; exact Nat.lt_irrefl _ h1
   ·rw [← List.mem_singleton.mp q] at h2; exact Nat.lt_irrefl _ h2
theorem next_end {W:Wo}{K:ItK}{xs:List It}(hh:A.handled=none)(f:SF W fs O L m V s)(ow:Own K O V L)(at_:K.At xs.length s.heap)(iv:K.InV xs V) :
  wpAny (model W.prog W.w) A (pyNext (.ref K.top)) (fun r s₁=>r=none∧SF W fs O L m V s₁∧Keep K s.heap s₁.heap) E s:=by
 rcases K with ⟨I,l⟩|⟨I,l⟩|⟨I,a,n⟩|⟨d,I,l⟩
 ·refine cp fun kk=>?_
  obtain ⟨ys,hv,rfl⟩:=iv
  obtain ⟨vs,n,hvs,rfl⟩:=ls_obj f hv
  refine kk ?_
  exact wpAny_pyNext_list_end hh at_ (isList_obj hvs) (by simp) fun h' hs=>⟨rfl,f.side (t:=s.toks) [I] ow (fun b o hb e=>hs b o (fun q=>hb (by rw [q]; exact List.Mem.head _)) e),fun b o hb e=>hs b o (fun q=>hb (by rw [q]; exact List.Mem.head _)) e⟩
 ·refine cp fun kk=>?_
  obtain ⟨ys,hv,rfl⟩:=iv
  obtain ⟨vs,n,hvs,rfl⟩:=tp_obj f hv
  refine kk ?_
  exact wpAny_pyNext_tuple_end hh at_ ⟨_,hvs,rfl,_,rfl⟩ (items:=vs.toArray) (by simp) fun h' hs=>⟨rfl,f.side (t:=s.toks) [I] ow (fun b o hb e=>hs b o (fun q=>hb (by rw [q]; exact List.Mem.head _)) e),fun b o hb e=>hs b o (fun q=>hb (by rw [q]; exact List.Mem.head _)) e⟩
 ·have:xs=_:=iv
  subst this
  exact wpAny_pyNext_range_end hh at_ (by simp) fun h' hs=>⟨rfl,f.side (t:=s.toks) [I] ow (fun b o hb e=>hs b o (fun q=>hb (by rw [q]; exact List.Mem.head _)) e),fun b o hb e=>hs b o (fun q=>hb (by rw [q]; exact List.Mem.head _)) e⟩
 ·refine cp fun kk=>?_
  obtain ⟨ys,hv,rfl⟩:=iv
  obtain ⟨vs,n,hvs,rfl⟩:=ls_obj f hv
  obtain ⟨⟨old,he⟩,hit,hne⟩:=at_
  refine kk ?_
  exact wpAny_pyNext_enum_end hh he hit (isList_obj hvs) (by simp [en_none]) fun h' hs=>⟨rfl,f.side (t:=s.toks) [d,I] ow (fun b o hb e=>hs b o (by simp at hb; exact hb.2) e),fun b o hb e=>hs b o (by simp [ItK.own] at hb; exact hb.2) e⟩
end
set_option backward.match.sparseCases true
noncomputable def Out2 (K:ItK)(k:Nat)(x:It)(v:Value)(h:Heap):Prop:=K.At (k+1) h∧match x with
 | .one a=>er v=a
 | .two a b=>∃ T u₁ u₂,v=.ref T∧h.get? T=some { cls:=.type "tuple",data:=.seq #[u₁,u₂] }∧er u₁=a∧er u₂=b
section
variable {c:Cf} {m:Mp} {V:View} {A:Around} {fs:List Addr} {O:Heap} {L:Addr} {s:Shared} {E:Value→Shared→Prop} {env:Env}
theorem go_plain {prog:Program}{w:World}{t:Expr}{r:Addr}{o:Obj}{v:Value}{Q:Unit→Shared→Prop}(ho:s.heap.get? r=some o)(hc:o.cls=.type "list_iterator"∨o.cls=.type "tuple_iterator"∨o.cls=.type "range_iterator")(h:Q () s) :
  wpAny (model prog w) A (letOwnedTupleGo t (.ref r) v) Q E s:=by
 obtain ⟨n,hn,hf⟩:∃ n,o.cls=.type n∧["enumerate","zip","dict_itemiterator","dict_reverseitemiterator","odict_iterator","itertools.zip_longest","itertools.pairwise"].contains n=false:=by
  rcases hc with h|h|h <;> exact ⟨_,h,by decide⟩
 have key:wpAny (model prog w) A (letOwnedTupleGo (.Tuple [] 0 default) (.ref r) v) Q E s:=by
  rcases v with _|_|_|_|_|_|_|_|_|_|⟨a⟩
  all_goals first
   | exact wpAny_pure h
   | skip
  refine wpAny_bind (wpAny_load ho ?_)
  obtain ⟨cl,d,dt,sl⟩:=o
  have hn:cl=.type n:=hn
  subst hn
  cases dt with
  | fields vs =>
   show wpAny _ A (if (_&&_)=true then _ else _) Q E s
   rw [if_neg (by rw [hf]; exact Bool.false_ne_true)]; exact wpAny_pure h
  | _=>exact wpAny_pure h
 cases t with
 | Tuple=>exact key
 | List=>exact key
 | _=>exact wpAny_pure h
theorem go_ok {W:Wo}{K:ItK}{k:Nat}{x:It}{v:Value}{t:Expr}(f:SF W fs O L m V s)(ow:Own K O V L)(o:Out K k x v s.heap)(ht:(∀ a b,x≠.two a b)∨∃ es e p,t=.Tuple es e p) :
  wpAny (model W.prog W.w) A (letOwnedTupleGo t (.ref K.top) v) (fun zz s₁=>SF W fs O L m V s₁∧Keep K s.heap s₁.heap∧Out2 K k x v s₁.heap) E s:=by
 rcases x with ⟨a⟩|⟨a,b⟩
 ·refine cp fun kk=>?_
  obtain ⟨h1,h2,h3⟩:=o
  have fin:SF W fs O L m V s∧Keep K s.heap s.heap∧Out2 K k (.one a) v s.heap:=⟨f,fun zz zz zz e=>e,h2,h1⟩
  refine kk ?_
  rcases K with ⟨I,l⟩|⟨I,l⟩|⟨I,a,n⟩|⟨d,I,l⟩
  ·obtain ⟨o,ho,hc,_⟩:=h2; exact go_plain ho (.inl hc) fin
  ·obtain ⟨o,ho,hc,_⟩:=h2; exact go_plain ho (.inr (.inl hc)) fin
  ·exact go_plain h2 (.inr (.inr rfl)) fin
  ·exact absurd rfl (h3 d I l)
 ·refine cp fun kk=>?_
  obtain ⟨d,I,l,T,u₁,u₂,rfl,rfl,hT,h1,h2,ho,hit,hne,hTo⟩:=o
  refine kk ?_
  rcases ht with ht|⟨es,e,p,rfl⟩
  ·exact absurd rfl (ht a b)
  ·refine wpAny_letOwnedTupleGo_enum ho fun h' he hs=>⟨f.side (t:=s.toks) [d,I] ow (fun b o hb q=>(hs.2 b (fun z=>hb (by rw [z]; exact List.Mem.head _))).trans q),(fun b o hb q=>(hs.2 b (fun z=>hb (by rw [z]; exact List.Mem.head _))).trans q),⟨⟨_,he⟩,hit.at fun o q=>(hs.2 I (Ne.symm hne)).trans q,hne⟩,T,u₁,u₂,rfl,?_,h1,h2⟩
   exact (hs.2 T fun z=>hTo (by rw [z]; exact List.Mem.head _)).trans hT
noncomputable def Started (c:Cf)(fs:List Addr)(O:Heap)(L:Addr)(m:Mp)(R:List It→(View→Prop)→View→Prop)(r:Value)(s:Shared):Prop :=
 ∃ K V xs keep,r=.ref (ItK.top K)∧SF c.W fs O L m V s∧Own K O V L∧K.At 0 s.heap∧R xs keep V∧∀ V',keep V'→K.InV xs V'
theorem own_new {W:Wo}(f:SF W fs O L m V s){b:Addr}(h:s.heap.get? b=none):O.get? b=none∧V b=none∧b≠L :=
 ⟨keep_none f.toSC h,view_none f.toSC h,by rintro rfl; obtain ⟨o,q⟩:=f.L_some; rw [h] at q; cases q⟩
set_option tactic.hygienic true in
theorem iter_seq {v:Value}{R:List It→(View→Prop)→View→Prop}(f:SF c.W fs O L m V s)(h:seqV (er v) V fun xs keep=>R (xs.map .one) keep V) :
  wpAny (model c.W.prog c.W.w) A (pyIter v) (Started c fs O L m R) E s:=by
 unfold seqV at h
 split at h
 ·rename_i l q
  obtain rfl:=er_ref q
  obtain ⟨xs,hz,⟨hx,h⟩|⟨hx,h⟩⟩:=h
  ·refine cp fun kk=>?_
   obtain ⟨vs,n,hvs,rfl⟩:=ls_obj f hx
   refine kk ?_
   refine wpAny_pyIter_list (isList_obj hvs) ⟨.ls s.heap.objs.size l,V,_,_,rfl,f.grown (t:=s.toks) fun b o e=>Heap.get?_push_of_some _ e,?_,⟨_,Heap.get?_push_size _ rfl,rfl,rfl⟩,h,fun V' hV=>⟨_,hV,rfl⟩⟩
   intro b hb; simp only [ItK.own,List.mem_singleton] at hb; subst hb; exact own_new f (get_size _)
  ·refine cp fun kk=>?_
   obtain ⟨vs,n,hvs,rfl⟩:=tp_obj f hx
   refine kk ?_
   refine wpAny_pyIter_tuple ⟨_,hvs,rfl,_,rfl⟩ ⟨.tp s.heap.objs.size l,V,_,_,rfl,f.grown (t:=s.toks) fun b o e=>Heap.get?_push_of_some _ e,?_,⟨_,Heap.get?_push_size _ rfl,rfl,rfl⟩,h,fun V' hV=>⟨_,hV,rfl⟩⟩
   intro b hb; simp only [ItK.own,List.mem_singleton] at hb; subst hb; exact own_new f (get_size _)
 ·exact h.elim
set_option tactic.hygienic true in
theorem iter_enum {v:Value}{R:List It→(View→Prop)→View→Prop}(f:SF c.W fs O L m V s)(h:lsV (er v) V fun xs keep=>R (enumF 0 xs) keep V) :
  wpAny (model c.W.prog c.W.w) A (call (.type "enumerate") [v]) (fun r s₁=>wpAny (model c.W.prog c.W.w) A (pyIter r) (Started c fs O L m R) E s₁) E s:=by
 unfold lsV at h
 split at h
 ·rename_i l q
  refine cp fun kk=>?_
  obtain rfl:=er_ref q
  obtain ⟨xs,hx,h⟩:=h
  obtain ⟨vs,n,hvs,rfl⟩:=ls_obj f hx
  refine kk ?_
  refine call_enumerate_1 hvs fun h' he hit hsz k=>wpAny_pyIter_enum he ⟨.en (s.heap.objs.size+1) s.heap.objs.size l,V,_,_,rfl,f.grown (t:=s.toks) k,?_,⟨⟨_,he⟩,hit,Nat.succ_ne_self _⟩,h,fun V' hV=>⟨_,hV,rfl⟩⟩
  intro b hb; simp only [ItK.own,List.mem_cons,List.not_mem_nil,or_false] at hb
  rcases hb with rfl|rfl
  ·exact own_new f (Heap.get?_none_of_le (by omega))
  ·exact own_new f (get_size _)
 ·exact h.elim
theorem range_small {a b:Int}(ha:a.natAbs<2 ^ 24)(hb:b.natAbs<2 ^ 24):Builtin.Range.small a b 1=true :=
 small_one (Int.le_trans (by decide) (Int.le_of_lt (bnd24 ha).1)) (Int.lt_trans (bnd24 ha).2 (by decide)) (Int.le_trans (by decide) (Int.le_of_lt (bnd24 hb).1)) (Int.lt_trans (bnd24 hb).2 (by decide))
theorem iter_range {as:List Value}{R:List It→(View→Prop)→View→Prop}(f:SF c.W fs O L m V s)
  (h:(∃ b,as.map er=[.int b]∧b.natAbs<2 ^ 24∧R (rangeF 0 b) (fun zz=>True) V)∨(∃ a b,as.map er=[.int a,.int b]∧a.natAbs<2 ^ 24∧b.natAbs<2 ^ 24∧R (rangeF a b) (fun zz=>True) V)) :
  wpAny (model c.W.prog c.W.w) A (call (.type "range") as) (fun r s₁=>wpAny (model c.W.prog c.W.w) A (pyIter r) (Started c fs O L m R) E s₁) E s:=by
 have key:∀(a b:Int)(t u w:Tok)(tk:Nat),a.natAbs<2 ^ 24→b.natAbs<2 ^ 24→R (rangeF a b) (fun zz=>True) V →
   wpAny (model c.W.prog c.W.w) A (pyIter (.ref s.heap.objs.size)) (Started c fs O L m R) E { s with heap:=s.heap.push { cls:=.type "range",data:=.fields #[.int a t,.int b u,.int 1 w] },toks:=tk }:=by
  intro a b t u w tk ha hb h
  have f1:SF c.W fs O L m V { s with heap:=s.heap.push { cls:=.type "range",data:=.fields #[.int a t,.int b u,.int 1 w] },toks:=tk }:=f.grown fun b o e=>Heap.get?_push_of_some _ e
  refine wpAny_pyIter_range (IsRange.new ..) (range_small ha hb) ⟨.rg (s.heap.push { cls:=.type "range",data:=.fields #[.int a t,.int b u,.int 1 w] }).objs.size a (b-a).toNat,V,_,_,rfl,f1.grown (t:=tk) fun b o e=>Heap.get?_push_of_some _ e,?_,?_,h,fun V' zz=>rfl⟩
  ·intro b hb
   obtain rfl:=List.mem_singleton.mp hb
   exact own_new f1 (get_size _)
  ·show IsRangeIter _ _ (a+0) _ 1
   rw [rangeSize_nat,Int.add_zero,show ((b-a).toNat:Int)-((0:Nat):Int)=((b-a).toNat:Int) from Int.sub_zero _]
   exact Heap.get?_push_size _ rfl
 rcases h with ⟨b,q,hb,h⟩|⟨a,b,q,ha,hb,h⟩
 ·obtain ⟨v,rfl,hv⟩:=map_one q
  obtain ⟨t,rfl⟩:=er_int hv
  exact call_range_1 (key _ _ _ _ _ _ (by decide) hb h)
 ·obtain ⟨v,u,rfl,hv,hu⟩:=map_two q
  obtain ⟨t,rfl⟩:=er_int hv
  obtain ⟨t',rfl⟩:=er_int hu
  exact call_range_2 (key _ _ _ _ _ _ ha hb h)
end
set_option backward.match.sparseCases false
section
variable {c:Cf} {m:Mp} {V:View} {A:Around} {fs:List Addr} {O:Heap} {L:Addr} {s:Shared} {E:Value→Shared→Prop} {env:Env}
theorem enter_ns {W:Wo}(h:SC W fs O V s)(cls:Value):SF W fs O s.heap.objs.size (fun zz=>none) V { s with heap:=s.heap.push { cls:=cls,data:=.dict #[] } } :=
 {keep:=fun b o e=>(by obtain ⟨sl,h1,h2⟩:=h.keep b o e; exact ⟨sl,Heap.get?_push_of_some _ h1,h2⟩)
  view:=fun a o e=>(by obtain ⟨ob,h1,h2⟩:=h.view a o e; exact ⟨ob,Heap.get?_push_of_some _ h1,h2⟩)
  off:=h.off,gens:=h.gens,drawn:=h.drawn,os:=h.os
  ns:=⟨_,Heap.Ns.new s.heap cls,fun zz zz e=>by cases e⟩
  offL:=view_none h (get_size _),offO:=keep_none h (get_size _) }
theorem lay_cells {M:Model}{W:Wo}(f:Str×NameKind→List (Str×Addr)→Sem (ForInStep (List (Str×Addr))))
  (hf:∀ name kind cells,f (name,kind) cells=if kind == .cell then (do let a ← alloc { cls:=.type "cell",data:=.cell none }; pure (.yield ((name,a)::cells))) else pure (.yield cells)) :
  ∀(names:List (Str×NameKind))(acc:List (Str×Addr))(cl:Str→Option Addr)(V:View)(s:Shared)(R:(Str→Option Addr)→View→Prop),SF W fs O L m V s→(∀ x a,cl x=some a→acc.lookup x=some a) →
   intoC (cellNames names) cl V R →
   wpAny M A (forIn names acc f) (fun cells s'=>∃ cl' V',SF W fs O L m V' s'∧(∀ x a,cl' x=some a→cells.lookup x=some a)∧R cl' V'∧(∀ b o,s.heap.get? b=some o→s'.heap.get? b=some o)∧∀ b o,s.heap.get? b=some o→V b=none→V' b=none) E s
 | [],acc,cl,V,s,R,h,hc,hr=>by rw [List.forIn_nil]; exact wpAny_pure ⟨cl,V,h,hc,hr,fun zz zz e=>e,fun zz zz zz e=>e⟩
 | (x,k)::r,acc,cl,V,s,R,h,hc,hr=>by
  rw [List.forIn_cons,hf]
  unfold cellNames at hr
  split at hr
  ·rename_i hk
   rw [if_pos hk]
   refine wpAny_bind (wpAny_bind (wpAny_alloc (wpAny_pure ?_)))
   have h1:SF W fs O L m (put V s.heap.objs.size (.cell none)) { s with heap:=s.heap.push { cls:=.type "cell",data:=.cell none } } :=
    h.add (t:=s.toks) (fun b o e=>Heap.get?_push_of_some _ e) (get_size _) (Heap.get?_push_size _ rfl) ⟨none,rfl,rfl⟩
   refine wpAny_mono (lay_cells f hf r ((x,s.heap.objs.size)::acc) _ _ _ R h1 (fun y a e=>?_) (hr _ (view_none h.toSC (get_size _)))) (fun cells s' ⟨cl',V',q1,q2,q3,q4,q5⟩=>⟨cl',V',q1,q2,q3,fun b o e=>q4 b o (Heap.get?_push_of_some _ e),fun b o e v=>q5 b o (Heap.get?_push_of_some _ e) (by rw [put_ne _ _ (Nat.ne_of_lt (Heap.lt_size e))]; exact v)⟩) fun zz zz z=>z
   by_cases hy:y=x
   ·subst hy; rw [if_pos rfl] at e; obtain rfl:=Option.some.inj e; simp
   ·rw [if_neg hy] at e
    rw [List.lookup_cons,beq_eq_false_iff_ne.mpr hy]
    exact hc y a e
  ·rename_i hk
   rw [if_neg hk]
   exact wpAny_bind (wpAny_pure (lay_cells f hf r acc cl V s R h hc hr))
theorem closure_of:∀(names:List (Str×NameKind))(cs:List (Str×Addr)),(∀ x∈freeNames names,∃ a,c.cl x=some a)→(∀ x a,c.cl x=some a→env.cells.lookup x=some a) →
  ∃ cs',(forIn names cs fun (p:Str×NameKind) cs=>(if p.2 == .free then (do let a ← cellOf env p.1; pure (ForInStep.yield ((p.1,a)::cs))) else pure (ForInStep.yield cs):Sem _))=(pure cs':Sem (List (Str×Addr))) ∧
   ∀ x,cs'.lookup x=if x∈freeNames names then c.cl x else cs.lookup x
 | [],cs,_,_=>⟨cs,by rw [List.forIn_nil],fun x=>by simp [freeNames]⟩
 | (x,k)::r,cs,h1,h2=>by
  rw [List.forIn_cons]
  by_cases hk:(k == .free)=true
  ·obtain ⟨a,ha⟩:=h1 x (by unfold freeNames; rw [if_pos hk]; exact .head _)
   obtain ⟨cs',e1,e2⟩:=closure_of r ((x,a)::cs) (fun y hy=>h1 y (by unfold freeNames; rw [if_pos hk]; exact .tail _ hy)) h2
   refine ⟨cs',?_,fun y=>?_⟩
   ·refine (Eq.symm (if_pos hk))▸?_
    unfold cellOf
    refine (Eq.symm (h2 x a ha))▸?_
    exact e1
   ·rw [e2 y,show freeNames ((x,k)::r)=x::freeNames r by rw [freeNames,if_pos hk]]
    by_cases hy:y∈freeNames r
    ·rw [if_pos hy,if_pos (.tail _ hy)]
    ·(refine (Eq.symm (if_neg hy))▸?_)
     by_cases hx:y=x
     ·subst hx; rw [if_pos (.head _),ha]; simp
     ·rw [if_neg (by simp [hx,hy]),List.lookup_cons,beq_eq_false_iff_ne.mpr hx]
  ·obtain ⟨cs',e1,e2⟩:=closure_of r cs (fun y hy=>h1 y (by unfold freeNames; rw [if_neg hk]; exact hy)) h2
   refine ⟨cs',?_,fun y=>?_⟩
   ·refine (Eq.symm (if_neg hk))▸?_
    exact e1
   ·rw [e2 y,show freeNames ((x,k)::r)=freeNames r by rw [freeNames,if_neg hk]]
theorem closureFor_ok {sc:Scope}(h1:∀ x∈freeNames sc.names,∃ a,c.cl x=some a)(e:EnvOk c env):∃ cs,closureFor sc env=pure cs∧∀ x,cs.lookup x=if x∈freeNames sc.names then c.cl x else none:=by
 refine cp fun kk=>?_
 obtain ⟨cs,e1,e2⟩:=closure_of (c:=c) (env:=env) sc.names [] h1 e.cl
 refine kk ?_
 refine ⟨cs,?_,fun x=>by rw [e2 x]; simp⟩
 unfold closureFor
 exact (by simpa using e1)
theorem lookup_map_kind (g:Str→NameKind→NameKind)(x:Str):∀ names:List (Str×NameKind),(names.map fun (n,k)=>(n,g n k)).lookup x=(names.lookup x).map (g x)
 | []=>rfl
 | (y,k)::r=>by
  simp only [List.map_cons,List.lookup_cons]
  by_cases h:x=y
  ·subst h; simp
  ·rw [beq_eq_false_iff_ne.mpr h]; exact lookup_map_kind g x r
theorem relabel_lookup (sc:Scope)(x:Str)(hk:env.scope.kind=.function)(e:EnvOk c env):(relabel sc env).names.lookup x=kdOf sc c x:=by
 have:(relabel sc env).names=sc.names.map fun (n,k)=>(n,if (k == .free&&env.scope.kind == .function&&env.kindOf n == some .cell) then .cell else k):=by
  unfold relabel
  dsimp only
  apply List.map_congr_left
  rintro ⟨n,k⟩ _
  dsimp only
  split <;> rfl
 rw [this,lookup_map_kind (fun n k=>if (k == .free&&env.scope.kind == .function&&env.kindOf n == some .cell) then .cell else k)]
 unfold kdOf
 refine (Eq.symm hk)▸?_; refine (e.kd x)▸?_
 rcases h:sc.names.lookup x with _|⟨k⟩
 ·rfl
 ·cases k <;> simp
  rcases h2:c.kd x with _|⟨k2⟩
  ·rfl
  ·cases k2 <;> rfl
theorem okSc_facts {sc:Scope}(h:okSc sc=true):sc.kind=.function∧(∀ x∈sc.names,x.2=.local→sc.names.lookup x.1=some .local)∧sc.names.lookup (("__debug__" : String):Str)=none∧sc.names.lookup (("__classdict__" : String):Str)=none:=by
 unfold okSc at h
 simp only [Bool.and_eq_true,List.all_eq_true,Bool.or_eq_true,bne_iff_ne,beq_iff_eq] at h
 exact ⟨h.1.1.1,fun x hx hl=>(h.1.1.2 x hx).resolve_left fun q=>q hl,h.1.2,h.2⟩
theorem lookup_free {x:Str}:∀{names:List (Str×NameKind)},names.lookup x=some .free→x∈freeNames names
 | [],h=>by injection h
 | (y,k)::r,h=>by
  rw [List.lookup_cons] at h
  unfold freeNames
  by_cases hx:x=y
  ·subst hx
   simp at h
   subst h
   rw [if_pos (by rfl)]; exact .head _
  ·rw [beq_eq_false_iff_ne.mpr hx] at h
   have:=lookup_free h
   split
   ·exact .tail _ this
   ·exact this
noncomputable def hidO (h:Heap)(V:View)(ow:List Addr):Heap:=hideAll (hideV h V) ow
theorem hidO_of {h:Heap}{V:View}{ow:List Addr}{b:Addr}{o:Obj}(e:h.get? b=some o)(hv:V b=none)(hb:b ∉ ow):(hidO h V ow).get? b=some o:=hideAll_get _ (hideV_of e hv) hb
theorem hidO_some {h:Heap}{V:View}{ow:List Addr}{b:Addr}{o:Obj}(e:(hidO h V ow).get? b=some o):h.get? b=some o∧V b=none∧b ∉ ow:=by
 have h1:=hideV_some (of_hideAll _ e)
 exact ⟨h1.1,h1.2,fun q=>by unfold hidO at e; rw [hideAll_none _ q] at e; cases e⟩
noncomputable def Aside (ow:List Addr)(O:Heap)(V:View)(L:Addr):Prop:=∀ b∈ow,O.get? b=none∧V b=none∧b≠L
theorem SF.stays2 {W:Wo}(h:SF W fs O L m V s){ow:List Addr}(a:Aside ow O V L):Sl fs O (hidO s.heap V ow):=fun b o e=>by
 obtain ⟨sl,h1,h2⟩:=h.keep b o e
 refine ⟨sl,hidO_of h1 ?_ fun q=>?_,h2⟩
 ·rcases q:V b with _|⟨x⟩
  ·rfl
  ·rw [h.off b x q] at e; injection e
 ·rw [(a b q).1] at e; injection e
theorem SF.ns2 {W:Wo}(h:SF W fs O L m V s){ow:List Addr}(a:Aside ow O V L):∃ mr,(hidO s.heap V ow).Ns L mr∧∀ x v,m x=some v→∃ u,mr x=some u∧er u=v:=by
 refine cp fun kk=>?_
 obtain ⟨mr,⟨o,es,ep,ho,hd,r⟩,hm⟩:=h.ns
 refine kk ?_
 exact ⟨mr,⟨o,es,ep,hidO_of ho h.offL fun q=>(a L q).2.2 rfl,hd,r⟩,hm⟩
theorem SF.sc2 {W:Wo}(h:SF W fs O L m V s){ow:List Addr}:SC W (L::fs) (hidO s.heap V ow) V s :=
 ⟨.of_keeps fun zz zz e=>(hidO_some e).1,h.view,(fun a o e=>by
  rcases q:(hidO s.heap V ow).get? a with _|⟨x⟩
  ·rfl
  ·rw [(hidO_some q).2.1] at e; injection e),h.gens,h.drawn,h.os⟩
theorem SF.back2 {W:Wo}{O':Heap}{V':View}{s':Shared}(offO:O.get? L=none)(k:Sl fs O O')(ns:∃ mr,O'.Ns L mr∧∀ x v,m x=some v→∃ u,mr x=some u∧er u=v)(h':SC W (L::fs) O' V' s'):SF W fs O L m V' s':=by
 refine ⟨⟨fun b o e=>?_,h'.view,fun a o e=>?_,h'.gens,h'.drawn,h'.os⟩,?_,?_,offO⟩
 ·refine cp fun kk=>?_
  obtain ⟨sl,h1,h2⟩:=k b o e
  obtain ⟨sl',h3,h4⟩:=h'.keep b _ h1
  refine kk ?_
  refine ⟨sl',h3,fun hb=>(h4 fun q=>?_).trans (h2 hb)⟩
  rcases List.mem_cons.mp q with rfl|q
  ·rw [offO] at e; injection e
  ·exact hb q
 ·rcases q:O.get? a with _|⟨x⟩
  ·rfl
  ·obtain ⟨sl,h1,_⟩:=k a x q; rw [h'.off a o e] at h1; injection h1
 ·refine cp fun kk=>?_
  obtain ⟨mr,n,hm⟩:=ns
  refine kk ?_
  exact ⟨mr,h'.keep.ns n,hm⟩
 ·refine cp fun kk=>?_
  obtain ⟨mr,⟨o,es,ep,ho,_⟩,_⟩:=ns
  refine kk ?_
  rcases q:V' L with _|⟨x⟩
  ·rfl
  ·rw [h'.off _ _ q] at ho; injection ho
theorem Bok.cok2 {n:Nat}{W:Wo}(c:Bok W A fs O env n)(h:SF W fs O env.locals m V s){ow:List Addr}(a:Aside ow O V env.locals):Cok W A (env.locals::fs) (hidO s.heap V ow) n:=by
 have st:=h.stays2 a
 have Lh:∃ o,(hidO s.heap V ow).get? env.locals=some o∧∀ vs,o.data≠.fields vs:=by
  refine cp fun kk=>?_
  obtain ⟨mr,⟨o,es,ep,ho,hd,r⟩,hm⟩:=h.ns2 a
  refine kk ?_
  exact ⟨o,ho,fun vs q=>by rw [hd] at q; cases q⟩
 have fn:∀ b∈env.locals::fs,W.base.get? b=none∧∃ o,(hidO s.heap V ow).get? b=some o∧∀ vs,o.data≠.fields vs:=fun b hb=>by
  rcases List.mem_cons.mp hb with rfl|hb
  ·exact ⟨c.new,Lh⟩
  ·refine cp fun kk=>?_
   obtain ⟨h1,o,h2,h3⟩:=c.fsn b hb
   obtain ⟨sl,h4,_⟩:=st b o h2
   refine kk ?_
   exact ⟨h1,_,h4,h3⟩
 refine ⟨c.ok,fun b o e=>?_,?_,fn,c.hnd,c.depth,c.units⟩
 ·refine st.exact (c.stays b o e) fun q=>?_
  rw [(c.fsn b q).1] at e; injection e
 ·refine cp fun kk=>?_
  obtain ⟨stk,e,k⟩:=c.frames
  refine kk ?_
  refine ⟨stk,e,funFrames_of fun x hx=>?_,fun b hb=>?_⟩
  ·refine cp fun kk=>?_
   obtain ⟨h1,L,h2,h3,h4⟩:=k x hx
   refine kk ?_
   refine ⟨h1,L,h2,h3,?_⟩
   rcases h4 with rfl|h4
   ·exact Lh
   ·exact (fn L (.tail _ h4)).2
  ·refine cp fun kk=>?_
   obtain ⟨x,hx,hf⟩:=List.mem_filterMap.mp hb
   obtain ⟨_,L,h2,_,h4⟩:=k x hx
   rw [hf] at h2; obtain rfl:=Option.some.inj h2
   refine kk ?_
   rcases h4 with rfl|h4
   ·exact .head _
   ·exact .tail _ h4
theorem comp_env {M:Model}{sc:Scope}{R:Cf→View→Prop}(h1:okSc sc=true)(h2:∀ x∈freeNames sc.names,∃ a,c.cl x=some a)(h3:intoV sc c V R)(e:EnvOk c env)(b:Bok c.W A fs O env c.n)(f:SF c.W fs O env.locals m V s){ow:List Addr}(a:Aside ow O V env.locals) :
  ∀ cs,closureFor sc env=pure cs→(∀ x,cs.lookup x=if x∈freeNames sc.names then c.cl x else none)→wpAny M A (newFunctionEnv sc env.globals cs [] env.qual none .none (some env)) (fun cenv s'=>∃ c' V',EnvOk c' { cenv with scope:=relabel sc env } ∧
   (c'.W=c.W∧c'.n=c.n∧c'.X=fun zz zz=>False)∧Bok c.W A (env.locals::fs) (hidO s.heap V ow) { cenv with scope:=relabel sc env } c.n ∧
   SF c.W (env.locals::fs) (hidO s.heap V ow) cenv.locals (fun zz=>none) V' s'∧R c' V'∧(∀ b o,s.heap.get? b=some o→s'.heap.get? b=some o)∧(∀ b o,s.heap.get? b=some o→V b=none→V' b=none)∧s.heap.get? cenv.locals=none) E s:=by
 intro cs hcs hl
 refine cp fun kk=>?_
 obtain ⟨k1,k2,k3,k4⟩:=okSc_facts h1
 have ok:=b.cok2 f a
 refine kk ?_
 refine wpAny_bind (m:=alloc { cls:=.type "dict",data:=.dict #[] }) (wpAny_alloc ?_)
 refine wpAny_bind (wpAny_mono (lay_cells _ (fun name kind cells=>rfl) sc.names cs _ _ _ _ (enter_ns (f.sc2 (ow:=ow)) _) (fun x a q=>?_) h3) (fun cells s' h=>?_) fun zz zz z=>z)
 ·unfold freeCl at q
  split at q
  ·rename_i hf
   rw [hl x,if_pos (lookup_free hf),q]
  ·injection q
 ·refine cp fun kk=>?_
  obtain ⟨cl',V',f',hc',hr,hk,hk2⟩:=h
  refine kk ?_
  refine wpAny_bind (wpAny_pure (wpAny_pure ⟨{ W:=c.W,n:=c.n,kd:=kdOf sc c,cl:=cl' },V',⟨fun x=>?_,hc',?_,?_⟩,⟨rfl,rfl,rfl⟩,⟨ok.ok,ok.stays,?_,ok.fsn,?_,b.hnd,b.depth,b.units,b.glob,b.blt,k1⟩,f',hr,fun b o q=>hk b o (Heap.get?_push_of_some _ q),fun b o q=>hk2 b o (Heap.get?_push_of_some _ q),get_size _⟩))
  ·exact (relabel_lookup sc x b.kind e).symm
  ·show kdOf sc c _=none
   unfold kdOf; rw [k3]
  ·show kdOf sc c _=none
   unfold kdOf; rw [k4]
  ·refine cp fun kk=>?_
   obtain ⟨stk,h1,h2⟩:=b.frames
   refine kk ?_
   refine ⟨stk,h1,fun x hx=>?_⟩
   refine cp fun kk=>?_
   obtain ⟨a1,L,a2,a3,a4⟩:=h2 x hx
   refine kk ?_
   refine ⟨a1,L,a2,a3,.inr ?_⟩
   rcases a4 with rfl|a4
   ·exact .head _
   ·exact .tail _ a4
  ·rcases q:c.W.base.get? s.heap.objs.size with _|⟨o⟩
   ·rfl
   ·have:=b.base f.toSC _ _ q; rw [get_size] at this; injection this
end
section
variable {c:Cf} {m:Mp} {V:View} {A:Around} {fs:List Addr} {O:Heap} {L:Addr} {s:Shared} {E:Value→Shared→Prop} {env:Env}
theorem iter_self {K:ItK}{k:Nat}{prog:Program}{w:World}{Q:Value→Shared→Prop}(x:K.At k s.heap)(q:Q (.ref K.top) s):wpAny (model prog w) A (pyIter (.ref K.top)) Q E s:=by
 rcases K with ⟨I,l⟩|⟨I,t⟩|⟨I,a,n⟩|⟨d,I,l⟩
 ·exact wpAny_pyIter_listiter x q
 ·exact wpAny_pyIter_tupleiter x q
 ·exact wpAny_pyIter_rangeiter x q
 ·obtain ⟨⟨old,y⟩,_⟩:=x; exact wpAny_pyIter_enum y q
theorem SF.join {W:Wo}(h:SF W fs O L m V s){D:Addr}{ob:Obj}{o:AO}(hv:V D=none)(hO:O.get? D=none)(hL:D≠L)(e:s.heap.get? D=some ob)(hr:RO ob o):SF W fs O L m (put V D o) s :=
 {keep:=h.keep
  view:=fun b o' q=>by
   by_cases hb:b=D
   ·subst hb; rw [put_self] at q; obtain rfl:=Option.some.inj q; exact ⟨ob,e,hr⟩
   ·rw [put_ne _ _ hb] at q; exact h.view b o' q
  off:=fun b o' q=>by
   by_cases hb:b=D
   ·subst hb; exact hO
   ·rw [put_ne _ _ hb] at q; exact h.off b o' q
  gens:=h.gens,drawn:=h.drawn,os:=h.os,ns:=h.ns
  offL:=by rw [put_ne _ _ (Ne.symm hL)]; exact h.offL
  offO:=h.offO }
end
section
variable {c:Cf} {m:Mp} {V:View} {A:Around} {fs:List Addr} {O:Heap} {L:Addr} {s:Shared} {E:Value→Shared→Prop} {env:Env}
noncomputable def Kp (K:Frag)(fv:Value)(h:Heap):Prop:=K.In h∧(keepIn K fv=true∨(∃ i,fv=.builtin i)∨∃ t,fv=.type t)
theorem Kp.looks {K:Frag}{fv:Value}{M:Model}(h:Heap)(p:Kp K fv h):∃ k,(k=Keeper.frame∨k=Keeper.machine∨k=Keeper.boundFrame)∧Looks M h (keeperOf fv) k:=by
 obtain ⟨X,hk|⟨i,rfl⟩|⟨t,rfl⟩⟩:=p
 ·exact keeps_K hk h X
 ·exact ⟨.machine,.inr (.inl rfl),Looks.of_pure rfl⟩
 ·exact ⟨.machine,.inr (.inl rfl),Looks.of_pure rfl⟩
theorem starEach_cons {e:Expr}{r:List Expr}(h:noStar (e::r)=true):(∀ env,starEach (e::r) env=(false,eval e env)::starEach r env)∧noStar r=true:=by
 cases e <;> first|exact ⟨fun zz=>rfl,h⟩|injection h
theorem noStar_any {pos:Pos}:∀{es:List Expr},noStar es=true→(backTo pos (starEach es env)).any (·.1)=false
 | [],_=>rfl
 | e::r,h=>by
  obtain ⟨h1,h2⟩:=starEach_cons h
  rw [h1]
  show (false || (backTo pos (starEach r env)).any (·.1))=false
  rw [noStar_any h2]; rfl
theorem callWith_w {K:Frag}{fv:Value}{first:List Value}{as:List Expr}{pos:Pos}{Qv:Value→Shared→Prop}{M:Model}(hs:noStar as=true)
  (h:wpAny M A (spliced (backTo pos (starEach as env))) (fun vs s₁=>Kp K fv s₁.heap∧wpAny M A (call fv (first++vs)) Qv E s₁) E s) :
  wpAny M A (callWith pos fv first (backTo pos (starEach as env)) []) Qv E s:=by
 refine callWith_of (P:=Kp K fv) (by rw [noStar_any hs]; rfl) (fun h p=>p.looks) ?_
 rcases as with _|⟨e,r⟩
 ·unfold evalArgs
  refine wpAny_bind (wpAny_mono h (fun vs s' h'=>?_) fun zz zz x=>x)
  refine wpAny_bind (wpAny_pure ?_)
  refine wpAny_holding ?_
  exact wpAny_bind (wpAny_pure (wpAny_bind (wpAny_pure (wpAny_pure h'))))
 ·have h1:=(starEach_cons hs).1 env
  rw [h1] at h ⊢
  exact Calls.evalArgs_plain h
theorem base_plain {o:Expr}{n:Str}{w:Sem Value}(h:plainE o):attributeBase o n env w=w:=by
 cases o <;> first|rfl|exact h.elim
theorem form_true {pos:Pos}{es:List Expr}(h:noStar es=true)(hl:es.length<30):methodCallForm (es.length+([]:List Keyword).length) (backTo pos (starEach es env)) (backToKw pos (keywordEach [] env))=true:=by
 have h1:(backTo pos (starEach es env)).all (!·.1)=true:=by
  have:=noStar_any (env:=env) (pos:=pos) h
  rw [List.all_eq_true]
  intro x hx
  rw [List.any_eq_false] at this
  have h2:=this x hx
  simpa using h2
 unfold methodCallForm
 rw [h1]
 show (true&&true&&decide (es.length+0+0<30))=true
 simp [hl]
theorem letGo_ok {α:Type}{o:Expr}{a b:Value}{k:Sem α}{Q:α→Shared→Prop}{prog:Program}{w:World}(h:wpAny (model prog w) A k Q E s):wpAny (model prog w) A (letTemporaryGo o a b >>= fun zz=>k) Q E s :=
 wpAny_bind (wpAny_letTemporaryGo h)
theorem sub_tail {v sl:Expr}{o i:Value}{ops:List Value}{Q:Value→Shared→Prop}{prog:Program}{w:World}(hT:∃ T id,s.TypeIs o T∧typeLookup (.type T) (Str.ofString "__getitem__")=pure (some (.builtin id)))
  (hs:subscripted sl false o i=operate ops (getItem o i)) (h:wpAny (model prog w) A (getItem o i) Q E s) :
  wpAny (model prog w) A (do let r ← subscripted sl (← getitemInPython o) o i; letTemporaryGo v o r; pure r) Q E s:=by
 refine cp fun kk=>?_
 obtain ⟨T,id,h1,h2⟩:=hT
 refine kk ?_
 exact tail_any (ops:=ops) h1 h2 h hs
end
section
inductive PV where
 | none|bool (b:Bool)|int (i:Int)|lst (xs:List PV)|tup (xs:List PV)|obj (C:Nat) (fs:List PV)
noncomputable def PV.ctorIdx (x:PV):Nat:=@PV.casesOn (fun _=>Nat) x 0 (fun _=>1) (fun _=>2) (fun _=>3) (fun _=>4) (fun _ _=>5)
inductive QV where
 | fr (v:PV)|own (i:Nat)
noncomputable def QV.ctorIdx (x:QV):Nat:=@QV.casesOn (fun _=>Nat) x (fun _=>0) (fun _=>1)
inductive OB where
 | fz (v:PV)|lst (xs:List PV)|obj (C:Nat) (qs:List QV)|tup (qs:List QV)|ol (qs:List QV)
noncomputable def OB.ctorIdx (x:OB):Nat:=@OB.casesOn (fun _=>Nat) x (fun _=>0) (fun _=>1) (fun _ _=>2) (fun _=>3) (fun _=>4)
noncomputable abbrev En:=List (Nat×QV)
inductive Rs where
 | ok (q:QV) (H:List OB)|ovf
noncomputable def Rs.ctorIdx (x:Rs):Nat:=@Rs.casesOn (fun _=>Nat) x (fun _ _=>0) 1
inductive Fl where
 | nx|rt (q:QV)
noncomputable def Fl.ctorIdx (x:Fl):Nat:=@Fl.casesOn (fun _=>Nat) x 0 (fun _=>1)
set_option genCtorIdx true in
inductive BO where
 | add|sub|mul|fdv|mod|pow
set_option genCtorIdx true in
inductive CO where
 | eq|ne|lt|le|gt|ge|isn|nin
inductive IC where
 | one (v:PV)|two (u v:PV)
noncomputable def IC.ctorIdx (x:IC):Nat:=@IC.casesOn (fun _=>Nat) x (fun _=>0) (fun _ _=>1)
inductive Itr where
 | seq (xs:List PV)|rng (a b:Int)|enu (xs:List PV)
noncomputable def Itr.ctorIdx (x:Itr):Nat:=@Itr.casesOn (fun _=>Nat) x (fun _=>0) (fun _ _=>1) (fun _=>2)
inductive Tg where
 | n (x:Nat)|a (x f:Nat)
noncomputable def Tg.ctorIdx (x:Tg):Nat:=@Tg.casesOn (fun _=>Nat) x (fun _=>0) (fun _ _=>1)
inductive XE where
 | k (v:PV)|g (j:Nat)|v (x:Nat)|fz (a:XE)|bin (o:BO) (a b:XE)|neg (a:XE)|not (a:XE)|boo (o:Bool) (as:XE)|cmp (o:CO) (a b:XE)|cmp2 (o p:CO) (a b c:XE)
 | ife (t a b:XE)|att (a:XE) (f:Nat)|sub (a i:XE)|cut (a l u:XE)|call (f:Nat) (as:XE)|meth (C j:Nat) (a as:XE)|blt (f:Nat) (as:XE)|isi (t:Nat) (a:XE)
 | lst (as:XE)|tup (as:XE)|tupo (as:XE)|nil|cons (a r:XE)|comp (ns:List (Str×NameKind)) (fv ts:List Nat) (s:Nat) (it c e:XE)|rows (ns:List (Str×NameKind)) (x:Nat) (n:XE)
noncomputable def XE.ctorIdx (x:XE):Nat:=@XE.casesOn (fun _=>Nat) x (fun _=>0) (fun _=>1) (fun _=>2) (fun _=>3) (fun _ _ _=>4) (fun _=>5) (fun _=>6) (fun _ _=>7) (fun _ _ _=>8) (fun _ _ _ _ _=>9) (fun _ _ _=>10) (fun _ _=>11) (fun _ _=>12) (fun _ _ _=>13) (fun _ _=>14) (fun _ _ _ _=>15) (fun _ _=>16) (fun _ _=>17) (fun _=>18) (fun _=>19) (fun _=>20) 21 (fun _ _=>22) (fun _ _ _ _ _ _ _=>23) (fun _ _ _=>24)
inductive XT where
 | nil|seq (s r:XT)|ret (e:XE)|ex (e:XE)|asg (x:Nat) (e:XE)|unp (ts:List Tg) (e:XE)|setA (a:XE) (f:Nat) (e:XE)|setI (l i e:XE)
 | augA (a:XE) (f:Nat) (e:XE)|augI (l i e:XE)|app (l e:XE)|ext (l e:XE)|ife (t:XE) (a b:XT)
 | loop (ts:List Nat) (s:Nat) (it:XE) (b:XT)|raise|bad|pass|tryN (b:XT)|gc (xs:List Nat) (n:Nat) (r:XT)
noncomputable def XT.ctorIdx (x:XT):Nat:=@XT.casesOn (fun _=>Nat) x 0 (fun _ _=>1) (fun _=>2) (fun _=>3) (fun _ _=>4) (fun _ _=>5) (fun _ _ _=>6) (fun _ _ _=>7) (fun _ _ _=>8) (fun _ _ _=>9) (fun _ _=>10) (fun _ _=>11) (fun _ _ _=>12) (fun _ _ _ _=>13) 14 15 16 (fun _=>17) (fun _ _ _=>18)
noncomputable def opB {α:Type}(o:Option α)(Q:α→Prop):Prop:=match o with
 | some a=>Q a
 | none=>False
noncomputable def ifB (b:Bool)(Q:Prop):Prop:=match b with
 | true=>Q
 | false=>False
noncomputable def brB (b:Bool)(P Q:Prop):Prop:=match b with
 | true=>P
 | false=>Q
noncomputable def lk:En→Nat→Option QV
 | [],z1=>none
 | (y,o)::r,x=>bif x.beq y then some o else lk r x
noncomputable def st:En→Nat→QV→En
 | [],x,o=>[(x,o)]
 | (y,p)::r,x,o=>bif x.beq y then (y,o)::r else (y,p)::st r x o
noncomputable def flds (C:Nat):List Nat:=bif C.beq 28 then [0,12,13,14,15] else bif C.beq 30 then [16,12,14] else bif C.beq 39 then [8,0,1,2,3,4,5,6,7] else bif C.beq 40 then [0,1,2]
 else bif C.beq 41 then [0,10] else bif C.beq 42 then [9,10,11] else bif C.beq 43 then [20] else bif C.beq 44 then [0,1,2,3,17,18,19] else []
theorem cl_ite {α:Type}{P:α→Prop}{a b:α}{C n:Nat}(h1:C=n→P a)(h2:P b):P (cond (C.beq n) a b):=by
 rcases q:C.beq n with _|_
 ·exact h2
 ·exact h1 (Nat.eq_of_beq_eq_true q)
noncomputable def sucO:Option Nat→Option Nat
 | some j=>some (j+1)
 | none=>none
noncomputable def fnd (x:Nat):List Nat→Option Nat
 | []=>none
 | y::r=>bif x.beq y then some 0 else sucO (fnd x r)
noncomputable def ix (C f:Nat):Option Nat:=fnd f (flds C)
noncomputable def catK (C:Nat):Option Int:=bif C.beq 40 then some 4 else bif C.beq 41 then some 5 else bif C.beq 42 then some 6 else bif C.beq 43 then some 7 else bif C.beq 44 then some 14 else none
noncomputable def cat (C f:Nat):Option Int:=bif f.beq 8 then catK C else none
noncomputable def frzQs (g:List OB→Nat→(List OB→PV→Prop)→Prop):List OB→List QV→(List OB→List PV→Prop)→Prop
 | H,[],K=>K H []
 | H,.fr v::r,K=>frzQs g H r fun H vs=>K H (v::vs)
 | H,.own i::r,K=>g H i fun H v=>frzQs g H r fun H vs=>K H (v::vs)
noncomputable def frzI:Nat→List OB→Nat→(List OB→PV→Prop)→Prop
 | 0,z1,z2,z3=>False
 | n+1,H,i,K=>opB H[i]? fun o=>match o with
  | .fz v=>K H v
  | .lst xs=>K (H.set i (.fz (.lst xs))) (.lst xs)
  | .obj C qs=>frzQs (frzI n) H qs fun H vs=>K (H.set i (.fz (.obj C vs))) (.obj C vs)
  | .tup qs=>frzQs (frzI n) H qs fun H vs=>K (H.set i (.fz (.tup vs))) (.tup vs)
  | .ol qs=>frzQs (frzI n) H qs fun H vs=>K (H.set i (.fz (.lst vs))) (.lst vs)
noncomputable def frz (H:List OB)(q:QV)(K:List OB→PV→Prop):Prop:=match q with
 | .fr v=>K H v
 | .own i=>frzI 4 H i K
noncomputable def pvQ (H:List OB):QV→Option PV
 | .fr v=>some v
 | .own i=>match H[i]? with
  | some (.fz v)=>some v
  | some (.lst xs)=>some (.lst xs)
  | z1=>none
noncomputable def attC (C f:Nat)(K:QV→Prop):Prop:=opB (cat C f) fun i=>K (.fr (.int i))
noncomputable def attP (C f:Nat)(vs:List PV)(K:QV→Prop):Prop:=match ix C f with
 | some j=>opB vs[j]? fun v=>K (.fr v)
 | none=>attC C f K
noncomputable def attV (f:Nat)(K:QV→Prop):PV→Prop
 | .obj C vs=>attP C f vs K
 | z1=>False
noncomputable def attQ (H:List OB)(f:Nat)(K:QV→Prop):QV→Prop
 | .fr v=>attV f K v
 | .own i=>opB H[i]? fun o=>match o with
  | .fz v=>attV f K v
  | .obj C qs=>(match ix C f with
   | some j=>opB qs[j]? K
   | none=>attC C f K)
  | z1=>False
noncomputable def seqP:PV→Option (List PV)
 | .lst xs=>some xs
 | .tup xs=>some xs
 | z1=>none
noncomputable def atP (xs:List PV):PV→Option PV
 | .int (.ofNat i)=>xs[i]?
 | .int i=>if 0≤i+xs.length then xs[(i+xs.length).toNat]? else none
 | z1=>none
noncomputable def setF (C f:Nat)(qs:List QV)(q:QV):Option (List QV):=match ix C f with
 | some j=>bif j.blt qs.length then some (qs.set j q) else bif j.beq qs.length then some (qs++[q]) else none
 | none=>none
noncomputable def setQ (H:List OB)(o:QV)(f:Nat)(q:QV)(K:List OB→Prop):Prop:=match o with
 | .own i=>opB H[i]? fun o=>(match o with
  | .obj C qs=>opB (setF C f qs q) fun qs=>K (H.set i (.obj C qs))
  | z1=>False)
 | z1=>False
noncomputable def lstQ (H:List OB)(o:QV)(K:Nat→List PV→Prop):Prop:=match o with
 | .own i=>opB H[i]? fun o=>(match o with
  | .lst xs=>K i xs
  | z1=>False)
 | z1=>False
noncomputable def olQ (H:List OB)(q:QV)(K:List QV→Prop):Prop:=match q with
 | .own i=>opB H[i]? fun o=>(match o with
  | .ol qs=>K qs
  | z1=>False)
 | z1=>False
noncomputable def intP (v:PV)(K:Int→Prop):Prop:=match v with
 | .int i=>K i
 | z1=>False
noncomputable def subQ (H:List OB)(q:QV)(j:PV)(K:QV→Prop):Prop:=match pvQ H q with
 | some v=>opB (seqP v) fun xs=>opB (atP xs j) fun v=>K (.fr v)
 | none=>olQ H q fun qs=>intP j fun n=>0≤n∧qs.length≤1000∧opB qs[n.toNat]? K
noncomputable def small {α:Type}(xs:List α):Prop:=xs.length≤1000
noncomputable abbrev KQ:=List OB→QV→Prop
noncomputable def newL (H:List OB)(xs:List PV)(K:KQ):Prop:=K (H++[.lst xs]) (.own H.length)
noncomputable def conI (H:List OB)(i:Int)(K:KQ):Prop:=K H (.fr (.int i))
noncomputable def conB (H:List OB)(b:Bool)(K:KQ):Prop:=K H (.fr (.bool b))
noncomputable def ariQ (H:List OB)(K:KQ)(x y:Int):BO→Prop
 | .add=>conI H (x+y) K
 | .sub=>conI H (x-y) K
 | .mul=>(x.natAbs<2 ^ 63∨y.natAbs<2 ^ 63)∧conI H (x*y) K
 | .fdv=>y≠0∧y.natAbs<2 ^ 63∧conI H (x.fdiv y) K
 | .mod=>y≠0∧conI H (x.fmod y) K
 | .pow=>(x=10∧y=18∨x=2∧y=30)∧conI H (x ^ y.toNat) K
noncomputable def addL (H:List OB)(K:KQ)(xs ys:List PV):BO→Prop
 | .add=>small (xs++ys)∧newL H (xs++ys) K
 | z1=>False
noncomputable def addT (H:List OB)(K:KQ)(xs ys:List PV):BO→Prop
 | .add=>xs≠[]∧ys≠[]∧small (xs++ys)∧K H (.fr (.tup (xs++ys)))
 | z1=>False
noncomputable def repL (H:List OB)(K:KQ)(xs:List PV)(k:Int):BO→Prop
 | .mul=>k.natAbs≤1000∧xs.length*k.toNat≤256∧newL H (List.replicate k.toNat xs).flatten K
 | z1=>False
noncomputable def binQ (H:List OB)(K:KQ)(o:BO):PV→PV→Prop
 | .int x,w=>(match w with
  | .int y=>ariQ H K x y o
  | z1=>False)
 | .lst xs,w=>(match w with
  | .lst ys=>addL H K xs ys o
  | .int k=>repL H K xs k o
  | z1=>False)
 | .tup xs,w=>(match w with
  | .tup ys=>addT H K xs ys o
  | z1=>False)
 | z1,z2=>False
noncomputable def isNone:PV→Bool
 | .none=>true
 | z1=>false
noncomputable def isNilL {α:Type}:List α→Bool
 | []=>true
 | z1=>false
noncomputable def Dat:Nat→PV→Prop
 | z1,.none=>True
 | z1,.int z2=>True
 | n+1,.lst xs=>∀ x∈xs,Dat n x
 | n+1,.tup xs=>∀ x∈xs,Dat n x
 | z1,z2=>False
noncomputable def cmpI (x y:Int)(K:Bool→Prop):CO→Prop
 | .eq=>K (decide (x=y))
 | .ne=>K (decide (x≠y))
 | .lt=>K (decide (x<y))
 | .le=>K (decide (x≤y))
 | .gt=>K (decide (y<x))
 | .ge=>K (decide (y≤x))
 | z1=>False
noncomputable def eqC (K:Bool→Prop)(b:Bool):CO→Prop
 | .eq=>K b
 | .ne=>K (!b)
 | z1=>False
noncomputable def datQ (v w:PV)(K:Bool→Prop)(o:CO):Prop:=Dat 8 v∧Dat 8 w∧∀ r:Bool,(r=true ↔ v=w)→eqC K r o
noncomputable def nonQ (v:PV)(K:Bool→Prop):CO→Prop
 | .isn=>K (isNone v)
 | .nin=>K (!isNone v)
 | z1=>False
noncomputable def cmpQ (o:CO)(v w:PV)(K:Bool→Prop):Prop:=match w with
 | .none=>nonQ v K o
 | .int y=>(match v with
  | .int x=>cmpI x y K o
  | z1=>False)
 | .bool b=>(match v with
  | .bool a=>eqC K (decide (a=b)) o
  | z1=>False)
 | .lst ys=>(match v with
  | .lst xs=>(match ys with
   | []=>eqC K (isNilL xs) o
   | y::ys=>datQ (.lst xs) (.lst (y::ys)) K o)
  | z1=>False)
 | .tup ys=>(match v with
  | .tup xs=>datQ (.tup xs) (.tup ys) K o
  | z1=>False)
 | .obj z1 z2=>False
noncomputable def bound:PV→Option (Option Int)
 | .none=>some none
 | .int i=>some (some i)
 | z1=>none
noncomputable def cutP {α:Type}(xs:List α)(l u:Option Int):List α:=(xs.take ((u.map Int.toNat).getD xs.length)).drop ((l.map Int.toNat).getD 0)
noncomputable def bndOk:Option Int→Prop
 | none=>True
 | some i=>0≤i∧i<2 ^ 60
noncomputable def cutQ (H:List OB)(l u:Option Int)(K:KQ):PV→Prop
 | .lst xs=>bndOk l∧bndOk u∧newL H (cutP xs l u) K
 | .tup xs=>bndOk l∧bndOk u∧cutP xs l u≠xs∧cutP xs l u≠[]∧K H (.fr (.tup (cutP xs l u)))
 | z1=>False
noncomputable def bltL (H:List OB)(K:KQ)(xs:List PV):Nat→Prop
 | 0=>conI H xs.length K
 | 1=>∃ n ns,xs=(n::ns).map PV.int∧conI H (ns.foldl max n) K
 | 4=>∃ ns:List Int,xs=ns.map PV.int∧conI H ns.sum K
 | 6=>K H (.fr (.tup xs))
 | 7=>newL H xs K
 | z1=>False
noncomputable def blt1 (H:List OB)(K:KQ):PV→Nat→Prop
 | .bool b,f=>ifB (f.beq 5) (conI H (if b then 1 else 0) K)
 | .int x,f=>ifB (f.beq 3) (conI H x.natAbs K)
 | .tup xs,f=>ifB (f.beq 0) (conI H xs.length K)
 | .lst xs,f=>bltL H K xs f
 | z1,z2=>False
noncomputable def blt2 (H:List OB)(K:KQ)(x y:Int):Nat→Prop
 | 1=>conI H (max x y) K
 | 2=>conI H (min x y) K
 | z1=>False
noncomputable def bltQ (H:List OB)(f:Nat)(K:KQ):List PV→Prop
 | []=>False
 | v::r=>(match r with
  | []=>blt1 H K v f
  | w::r=>(match r with
   | []=>intP v fun x=>intP w fun y=>blt2 H K x y f
   | z1::z2=>False))
noncomputable def isiQ (K:Bool→Prop):PV→Nat→Prop
 | .int z1,f=>(match f with
  | 0=>K true
  | 1=>K false
  | z1=>False)
 | .lst z1,f=>ifB (f.beq 2) (K true)
 | .obj C z1,f=>(match f with
  | 2=>ifB (!(flds C).isEmpty) (K false)
  | 3=>ifB (C.beq 28) (K true)
  | z1=>False)
 | z1,z2=>False
noncomputable def Itr.len:Itr→Nat
 | .seq xs=>xs.length
 | .rng a b=>(b-a).toNat
 | .enu xs=>xs.length
noncomputable def Itr.all (P:IC→Prop)(k:Nat):Itr→Prop
 | .seq xs=>∀ v,xs[k]?=some v→P (.one v)
 | .rng a b=>k<(b-a).toNat→P (.one (.int (a+(k:Int))))
 | .enu xs=>∀ v,xs[k]?=some v→P (.two (.int k) v)
noncomputable def rngQ (a b:Int)(K:Itr→Prop):Prop:=a.natAbs<2 ^ 24∧b.natAbs<2 ^ 24∧K (.rng a b)
noncomputable def itrQ (s:Nat)(K:Itr→Prop):List PV→Prop
 | []=>False
 | v::r=>(match s with
  | 0=>(match r with
   | []=>opB (seqP v) fun xs=>K (.seq xs)
   | z1::z2=>False)
  | 1=>(match r with
   | []=>intP v fun b=>rngQ 0 b K
   | w::r=>(match r with
    | []=>intP v fun a=>intP w fun b=>rngQ a b K
    | z1::z2=>False))
  | 2=>(match r with
   | []=>(match v with
    | .lst xs=>K (.enu xs)
    | z1=>False)
   | z1::z2=>False)
  | z1=>False)
noncomputable def mem (i:Nat):List Nat→Bool
 | []=>false
 | j::r=>bif i.beq j then true else mem i r
noncomputable def nodB:List Nat→Bool
 | []=>true
 | i::r=>bif mem i r then false else nodB r
noncomputable def selI:Nat→List OB→Nat→List Nat→List Nat
 | 0,z1,z2,acc=>acc
 | n+1,H,i,acc=>bif mem i acc then acc else match H[i]? with
  | some (.lst z1)=>acc++[i]
  | some (.ol qs)=>qs.foldl (fun acc q=>match q with|.own j=>selI n H j acc|.fr _=>acc) (acc++[i])
  | some (.obj z1 qs)=>qs.foldl (fun acc q=>match q with|.own j=>selI n H j acc|.fr _=>acc) (acc++[i])
  | some (.tup qs)=>qs.foldl (fun acc q=>match q with|.own j=>selI n H j acc|.fr _=>acc) (acc++[i])
  | z1=>acc
noncomputable def selQ (H:List OB)(acc:List Nat):QV→List Nat
 | .own i=>selI 4 H i acc
 | .fr z1=>acc
noncomputable def partsO:OB→List QV
 | .obj z1 qs=>qs
 | .tup qs=>qs
 | .ol qs=>qs
 | z1=>[]
noncomputable def renQ (H:List OB)(sel:List Nat):QV→Option QV
 | .fr v=>some (.fr v)
 | .own i=>match fnd i sel with
  | some p=>some (.own p)
  | none=>(match H[i]? with
   | some (.fz v)=>some (.fr v)
   | z1=>none)
noncomputable def renQs (H:List OB)(sel:List Nat):List QV→Option (List QV)
 | []=>some []
 | q::r=>match renQ H sel q with
  | some q=>(match renQs H sel r with
   | some r=>some (q::r)
   | none=>none)
  | none=>none
noncomputable def renO (H:List OB)(sel:List Nat):OB→Option OB
 | .fz v=>some (.fz v)
 | .lst xs=>some (.lst xs)
 | .obj C qs=>(renQs H sel qs).map (.obj C)
 | .tup qs=>(renQs H sel qs).map .tup
 | .ol qs=>(renQs H sel qs).map .ol
noncomputable def renOs (H:List OB)(sel:List Nat):List Nat→Option (List OB)
 | []=>some []
 | i::r=>match H[i]? with
  | some o=>(match renO H sel o with
   | some o=>(match renOs H sel r with
    | some r=>some (o::r)
    | none=>none)
   | none=>none)
  | none=>none
noncomputable def mu (sel:List Nat)(n j:Nat):Nat:=match sel[j]? with
 | some i=>i
 | none=>n+(j-sel.length)
noncomputable def bkQ (sel:List Nat)(n:Nat):QV→QV
 | .fr v=>.fr v
 | .own j=>.own (mu sel n j)
noncomputable def bkO (sel:List Nat)(n:Nat):OB→OB
 | .fz v=>.fz v
 | .lst xs=>.lst xs
 | .obj C qs=>.obj C (qs.map (bkQ sel n))
 | .tup qs=>.tup (qs.map (bkQ sel n))
 | .ol qs=>.ol (qs.map (bkQ sel n))
noncomputable def setL:List Nat→List OB→List OB→List OB
 | [],H,z1=>H
 | i::is,H,os=>match os with
  | o::os=>setL is (H.set i o) os
  | []=>H
noncomputable def mrg (H:List OB)(sel:List Nat)(Ho:List OB):List OB:=setL sel H ((Ho.take sel.length).map (bkO sel H.length))++(Ho.drop sel.length).map (bkO sel H.length)
structure Gm where
 F:Nat→List OB→List QV→Option Rs
 R:Nat→List OB→List QV→Rs→Prop
noncomputable def Gm.at (G:Gm)(f:Nat)(H:List OB)(qs:List QV)(r:Rs):Prop:=G.F f H qs=some r∨G.R f H qs r
noncomputable def Gm.ask (G:Gm)(f:Nat)(H:List OB)(qs:List QV)(K:Rs→Prop):Prop:=match G.F f H qs with
 | some r=>K r
 | none=>∃ r,G.R f H qs r∧K r
theorem Gm.ask_of {G:Gm}{f:Nat}{H:List OB}{qs:List QV}{K:Rs→Prop}(h:G.ask f H qs K):∃ r,G.at f H qs r∧K r:=by
 unfold Gm.ask at h
 rcases e:G.F f H qs with _|⟨r⟩
 ·rw [e] at h; obtain ⟨r,g,h⟩:=h; exact ⟨r,.inr g,h⟩
 ·rw [e] at h; exact ⟨r,.inl e,h⟩
structure Px where
 G:Gm
 X:Prop
@[irreducible] noncomputable def callQ (P:Px)(f:Nat)(H:List OB)(qs:List QV)(K:KQ):Prop :=
 ifB (nodB (qs.foldl (selQ H) [])) <| opB (renQs H (qs.foldl (selQ H) []) qs) fun as=>opB (renOs H (qs.foldl (selQ H) []) (qs.foldl (selQ H) [])) fun Hi=>P.G.ask f Hi as fun r=>match r with
  | .ok q Ho=>K (mrg H (qs.foldl (selQ H) []) Ho) (bkQ (qs.foldl (selQ H) []) H.length q)
  | .ovf=>P.X
noncomputable def clsO:OB→Nat
 | .fz (.obj C z1)=>C
 | .obj C z1=>C
 | z1=>0
noncomputable def clsQ (H:List OB):QV→Nat
 | .fr (.obj C z1)=>C
 | .own i=>(match H[i]? with
  | some o=>clsO o
  | none=>0)
 | z1=>0
noncomputable def boolQ (q:QV)(K:Bool→Prop):Prop:=match q with
 | .fr (.bool b)=>K b
 | z1=>False
noncomputable def nmL:List Str:=(["amount","before","begins","box","boxes","breadth","broad","by","cell","cells","column","columns","count","deep","depth","digit","down","due","edge","edges","ending","excess","first","fixed","flexed","flow","flows","found","gap","glue","goal","height","high","is_vertical","items","k","kept","kind","lap","last","leader","less","line","lines","low","made","many","mode","model","more","most_depth","node","number","one","order","orders","other","others","out","outside","own","part","parts","ratio","refused","report","row","rows","rule","script","self","shrink","shrink_order","size","sizes","skip","skips","sort","spans","stretch","stretch_order","sums","table","told","total","totals","turn","turns","unit","up","upright","value","wanted","wants","way","whole","widest","width"]:List String).map Str.ofString
noncomputable def nmG (x:Nat):Str:=nmL[x]?.getD Str.empty
end
section
noncomputable def fnm:Nat→Str
 | 0=>"width"
 | 1=>"height"
 | 2=>"depth"
 | 3=>"items"
 | 4=>"shift"
 | 5=>"sign"
 | 6=>"order"
 | 7=>"ratio"
 | 8=>"kind"
 | 9=>"glue"
 | 10=>"sort"
 | 11=>"leader"
 | 12=>"stretch"
 | 13=>"stretch_order"
 | 14=>"shrink"
 | 15=>"shrink_order"
 | 16=>"natural"
 | 17=>"spans"
 | 18=>"totals"
 | 19=>"is_vertical"
 | 20=>"value"
 | z1=>""
noncomputable def zp:List Nat→List AV→List (Str×AV)
 | f::fs,a::as=>(fnm f,a)::zp fs as
 | z1,z2=>[]
inductive GD where
 | int (i:Int)|fn (j:Nat)|bi (id:String)|ty (n:String)
noncomputable def GD.ctorIdx (x:GD):Nat:=@GD.casesOn (fun _=>Nat) x (fun _=>0) (fun _=>1) (fun _=>2) (fun _=>3)
noncomputable def GD.av (W:Wo):GD→AV
 | .int i=>.int i
 | .fn j=>.ref (W.ad j)
 | .bi id=>.bi id
 | .ty n=>.ty n
noncomputable def fnsT:List (Nat×String) :=
 ([(14,"is_whole"),(15,"check_whole"),(16,"check_number"),(17,"check_dimen"),(18,"rounded"),(25,"badness"),(28,"Glue"),(29,"top_order"),(30,"Totals"),(39,"Box"),(40,"Rule"),(41,"Kern"),(42,"Skip"),(43,"Penalty"),(44,"Unset"),(45,"check_depth"),(47,"described_rest"),(48,"described"),(49,"described_list"),(50,"width_of"),(51,"height_of"),(52,"depth_of"),(53,"line_height"),(54,"line_depth"),(58,"natural_line"),(59,"across"),(60,"check_column"),(61,"natural_column"),(62,"quotient"),(63,"set_glue")]:List (Nat×String)) ++
 ([(64,"flex"),(65,"set_part"),(66,"part_size"),(67,"places"),(68,"moved"),(69,"goal_size"),(70,"set_box"),(71,"hpack"),(72,"vpack"),(75,"along"),(76,"check_skips"),(77,"placed_cells"),(78,"widths"),(79,"empty_box"),(80,"tab_node"),(81,"prototype"),(82,"row_box"),(83,"set_cell"),(84,"set_row"),(85,"set_rule"),(86,"finished"),(88,"_law_box"),(89,"_law_take"),(90,"_law_size"),(91,"_law_flow"),(92,"_law_list"),(93,"_law_cell"),(94,"_law_other"),(95,"_law_stays"),(96,"_law_own"),(97,"_law_line")]:List (Nat×String)) ++
 ([(98,"_law_table"),(99,"_law_flat"),(100,"_law_due"),(101,"_law_picked"),(102,"_law_amount"),(103,"_law_round"),(104,"law")]:List (Nat×String))
noncomputable def intsT:List (Int×String) :=
 ([(1073741823,"MAX_DIMEN"),(2147483647,"MAX_NUMBER"),(10000,"INF_BAD"),(0,"NORMAL"),(1,"FIL"),(2,"FILL"),(3,"FILLL"),(0,"CHAR"),(1,"LIGATURE"),(2,"HBOX"),(3,"VBOX"),(4,"RULE"),(5,"KERN"),(6,"GLUE"),(7,"PENALTY"),(8,"DISC"),(9,"MARK"),(10,"INSERT"),(11,"ADJUST"),(12,"MATH"),(13,"SPECIAL"),(14,"UNSET"),(0,"NATURAL"),(1,"STRETCHED"),(2,"SHRUNK"),(0,"FONT_KERN"),(3,"MU_KERN"),(0,"PLAIN"),(1,"ALEADERS"),(3,"XLEADERS")]:List (Int×String)) ++
 ([(5,"NONSCRIPT"),(100,"NAMED"),(60,"DEEPEST"),(0,"EXACTLY"),(1,"SPREAD"),(0,"FINE"),(1,"LOOSE"),(2,"TIGHT"),(3,"OVERFULL"),(109,"TAB_SORT")]:List (Int×String))
noncomputable def globT:List (Str×GD):=fnsT.map (fun p=>(Str.ofString p.2,.fn p.1))++intsT.map (fun p=>(Str.ofString p.2,.int p.1))++["len","isinstance","max","sum","abs","min"].map (fun p=>(Str.ofString p,.bi p)) ++
 ["enumerate","range","tuple","list","int","bool"].map (fun p=>(Str.ofString p,.ty p))
noncomputable def stAt (i:Nat):Stmt:=(PySem.Challenge.pw_tu0010_01.main.body[i]?).getD (.Pass default)
noncomputable def mtAt (i j:Nat):Stmt:=match stAt i with|.ClassDef _ _ _ b _ _ _ _ _ _ _=>(b[j]?).getD (.Pass default)|_=>.Pass default
noncomputable def bodyOf:Stmt→List Stmt|.FunctionDef _ _ b _ _ _ _ _ _ _=>b|_=>[]
noncomputable def scopeOf:Stmt→Scope|.FunctionDef _ _ _ _ _ _ s _ _ _=>s|_=>default
noncomputable def parsOf:Stmt→Arguments|.FunctionDef _ a _ _ _ _ _ _ _ _=>a|_=>default
noncomputable def nameOf:Stmt→Str|.FunctionDef n _ _ _ _ _ _ _ _ _=>n|.ClassDef n ..=>n|_=>Str.empty
noncomputable def Dfl (K:Frag)(dV:Value):List AV→Prop
 | []=>dV=.none
 | ds=>∃ T o items n,dV=.ref T∧K.lookup T=some o∧o.data=.seq (List.toArray items) n∧items.map er=ds
inductive FnAt (K:Frag)(st:Stmt)(f:Addr)(ds:List AV):Prop
 | mk (oc:Value) (od:Option Addr) (osl:Array (Option Value)) (qual:Str) (dV kV doc pm:Value) (an:Option Addr) (cdv ct:Value) (h1:K.lookup f=some ⟨oc,od,.func (fnOf (nameOf st) qual (parsOf st) (bodyOf st) (scopeOf st) dV kV doc pm an cdv ct),osl⟩) (h2:codeIn K cdv qual=true) (h3:Dfl K dV ds)
noncomputable def fSt (f:Nat):Stmt:=bif f.blt 1000 then stAt f else mtAt (f / 100) (f % 100)
noncomputable def fAd (W:Wo)(f:Nat):Addr:=bif f.blt 1000 then W.ad f else W.am (f / 100) (f % 100)
noncomputable def meT:List (Nat×Str×Nat):=[(28,"parts",1),(30,"add",1),(30,"widen",2),(30,"stretch_top",3),(30,"shrink_top",4)]
noncomputable def mkT:List (Nat×Nat):=[(28,0),(30,0),(39,0),(40,1),(41,1),(42,1),(43,1),(44,1)]
noncomputable def fnT:List (Nat×List PV):=[14,15,16,17,18,25,29,45,47,50,51,52,53,54,58,59,60,61,62,63,64,65,66,67,69,70,75,76,77,78,79,80,81,82,83,84,85,86,88,89,90,91,92,93,94,95,96,97,98,99,100,101,102,103,104,
  2801,3000,3001,3002,3003,3004,3900,4001,4101,4301].map (fun j=>(j,[])) ++
 [(48,[.int 0]),(49,[.int 0]),(71,[.int 1,.int 0,.none]),(72,[.int 1,.int 0,.int 1073741823]),(2800,[.int 0,.int 0,.int 0,.int 0,.int 0]),(4201,[.none]),(4401,[.bool false])]
noncomputable def boOp:BO→Operator
 | .add=>.Add
 | .sub=>.Sub
 | .mul=>.Mult
 | .fdv=>.FloorDiv
 | .mod=>.Mod
 | .pow=>.Pow
noncomputable def coOp:CO→CmpOp
 | .eq=>.Eq
 | .ne=>.NotEq
 | .lt=>.Lt
 | .le=>.LtE
 | .gt=>.Gt
 | .ge=>.GtE
 | .isn=>.Is
 | .nin=>.IsNot
noncomputable def bltN:Nat→GD
 | 0=>.bi "len"
 | 1=>.bi "max"
 | 2=>.bi "min"
 | 3=>.bi "abs"
 | 4=>.bi "sum"
 | 5=>.ty "int"
 | 6=>.ty "tuple"
 | z1=>.ty "list"
noncomputable def bltS:Nat→Str
 | 0=>"len"
 | 1=>"max"
 | 2=>"min"
 | 3=>"abs"
 | 4=>"sum"
 | 5=>"int"
 | 6=>"tuple"
 | z1=>"list"
noncomputable def isiN:Nat→GD
 | 0=>.ty "int"
 | 1=>.ty "bool"
 | 2=>.ty "list"
 | z1=>.fn 28
noncomputable def isiS:Nat→Str
 | 0=>"int"
 | 1=>"bool"
 | 2=>"list"
 | z1=>"Glue"
noncomputable def opN:Nat→List (Nat×String)→Option Str
 | z1,[]=>none
 | f,(g,n)::r=>bif f.beq g then some (Str.ofString n) else opN f r
noncomputable def fnS (f:Nat):Str:=(opN f fnsT).getD Str.empty
noncomputable def opM (C j:Nat):List (Nat×Str×Nat)→Option Str
 | []=>none
 | p::r=>bif p.1.beq C&&p.2.2.beq j then some p.2.1 else opM C j r
noncomputable def meS (C j:Nat):Str:=(opM C j meT).getD Str.empty
noncomputable def kidE:Expr→List Expr
 | .BoolOp z1 vs z2=>vs
 | .BinOp l z1 r z2=>[l,r]
 | .UnaryOp z1 x z2=>[x]
 | .IfExp t b o z1=>[t,b,o]
 | .ListComp e gs z1 z2=>(match gs with
  | ⟨t,it,ifs,z1⟩::z2=>e::t::it::ifs
  | []=>[])
 | .Compare l z1 cs z2=>l::cs
 | .Call f as z1 z2=>f::as
 | .Attribute v z1 z2=>[v]
 | .Subscript v s z1=>[v,s]
 | .List es z1=>es
 | .Tuple es z1 z2=>es
 | .Slice l u z1 p=>[l.getD (.Name Str.empty p),u.getD (.Name Str.empty p)]
 | z1=>[]
noncomputable def scE:Expr→Scope
 | .ListComp z1 z2 s z3=>s
 | z1=>default
noncomputable def numE:Expr→Nat
 | .Constant z1 k z2=>k
 | .Tuple z1 k z2=>k
 | z1=>0
noncomputable def noE:Expr:=.Name Str.empty default
noncomputable def hdE (es:List Expr):Expr:=es.headD noE
noncomputable def k0 (e:Expr):Expr:=hdE (kidE e)
noncomputable def k1 (e:Expr):Expr:=hdE (kidE e).tail
noncomputable def k2 (e:Expr):Expr:=hdE (kidE e).tail.tail
noncomputable def cstP:PV→Const
 | .bool b=>.bool b
 | .int i=>.int i
 | z1=>.none
noncomputable def isNilX:XE→Bool
 | .nil=>true
 | z1=>false
noncomputable def nmE (x:Nat)(e:Expr):Expr:=.Name (nmG x) e.pos
noncomputable def toTs (ts:List Nat)(e:Expr):Expr:=match ts with
 | [x]=>nmE x e
 | [x,y]=>.Tuple [nmE x (k0 e),nmE y (k1 e)] (numE e) e.pos
 | z1=>noE
noncomputable def itE (s:Nat)(e x:Expr)(as:List Expr):Expr:=match s with
 | 0=>x
 | 1=>.Call (.Name "range" (k0 e).pos) as [] e.pos
 | z1=>.Call (.Name "enumerate" (k0 e).pos) as [] e.pos
mutual
noncomputable def toE:XE→Expr→Expr
 | .k v,e=>.Constant (cstP v) (numE e) e.pos
 | .g j,e=>.Name ((intsT[j]?.map fun p=>Str.ofString p.2).getD Str.empty) e.pos
 | .v x,e=>.Name (nmG x) e.pos
 | .fz a,e=>toE a e
 | .bin o a b,e=>.BinOp (toE a (k0 e)) (boOp o) (toE b (k1 e)) e.pos
 | .neg a,e=>.UnaryOp .USub (toE a (k0 e)) e.pos
 | .not a,e=>.UnaryOp .Not (toE a (k0 e)) e.pos
 | .boo o as,e=>.BoolOp (bif o then .And else .Or) (toL as (kidE e)) e.pos
 | .cmp o a b,e=>.Compare (toE a (k0 e)) [coOp o] [toE b (k1 e)] e.pos
 | .cmp2 o p a b c,e=>.Compare (toE a (k0 e)) [coOp o,coOp p] [toE b (k1 e),toE c (k2 e)] e.pos
 | .ife t a b,e=>.IfExp (toE t (k0 e)) (toE a (k1 e)) (toE b (k2 e)) e.pos
 | .att a f,e=>.Attribute (toE a (k0 e)) (fnm f) e.pos
 | .sub a i,e=>.Subscript (toE a (k0 e)) (toE i (k1 e)) e.pos
 | .cut a l u,e=>.Subscript (toE a (k0 e)) (.Slice (bif isNilX l then none else some (toE l (k0 (k1 e)))) (bif isNilX u then none else some (toE u (k1 (k1 e)))) none (k1 e).pos) e.pos
 | .call f as,e=>.Call (.Name (fnS f) (k0 e).pos) (toL as (kidE e).tail) [] e.pos
 | .meth C j a as,e=>.Call (.Attribute (toE a (k0 (k0 e))) (meS C j) { (k0 e).pos with endLine:=e.pos.line }) (toL as (kidE e).tail) [] e.pos
 | .blt f as,e=>.Call (.Name (bltS f) (k0 e).pos) (toL as (kidE e).tail) [] e.pos
 | .isi t a,e=>.Call (.Name "isinstance" (k0 e).pos) [toE a (k1 e),.Name (isiS t) (k2 e).pos] [] e.pos
 | .lst as,e=>.List (toL as (kidE e)) e.pos
 | .tup as,e=>.Tuple (toL as (kidE e)) (numE e) e.pos
 | .tupo as,e=>.Tuple (toL as (kidE e)) (numE e) e.pos
 | .comp ns z1 ts s it c b,e=>.ListComp (toE b (k0 e)) [⟨toTs ts (k1 e),itE s (k2 e) (toE it (k2 e)) (toL it (kidE (k2 e)).tail),toL c (kidE e).tail.tail.tail,0⟩] { scE e with names:=ns,kind:=.function } e.pos
 | .rows ns x n,e=>.ListComp (.List [] (k0 e).pos) [⟨nmE x (k1 e),.Call (.Name "range" (k0 (k2 e)).pos) [toE n (k1 (k2 e))] [] (k2 e).pos,[],0⟩] { scE e with names:=ns,kind:=.function } e.pos
 | .nil,e=>noE
 | .cons z1 z2,e=>noE
noncomputable def toL:XE→List Expr→List Expr
 | .cons a r,es=>toE a (hdE es)::toL r es.tail
 | z1,z2=>[]
end
noncomputable def kdIn (ns:List (Str×NameKind))(kd:Str→Option NameKind)(x:Str):Option NameKind:=match ns.lookup x with
 | some .free=>(match kd x with|some .cell=>some .cell|_=>some .free)
 | k=>k
noncomputable def isGl (kd:Str→Option NameKind)(x:Str):Bool:=match kd x with
 | some .globalImplicit=>true
 | z1=>false
noncomputable def isCl (kd:Str→Option NameKind)(x:Str):Bool:=match kd x with
 | some .cell=>true
 | some .free=>true
 | z1=>false
noncomputable def stoK (kd:Str→Option NameKind)(x:Nat):Bool:=x.blt nmL.length&&match kd (nmG x) with
 | some .local=>true
 | some .cell=>true
 | z1=>false
noncomputable def isFree (ns:List (Str×NameKind))(x:Nat):Bool:=match ns.lookup (nmG x) with
 | some .free=>!(cellNames ns).contains (nmG x)
 | z1=>false
noncomputable def okNs (ns:List (Str×NameKind)):Bool:=ns.all (fun x=>x.2 != .local || ns.lookup x.1 == some .local)&&ns.lookup (("__debug__" : String):Str) == none&&ns.lookup (("__classdict__" : String):Str) == none
noncomputable def frees (fv:List Nat):En→En
 | []=>[]
 | (x,q)::r=>bif mem x fv then (x,q)::frees fv r else frees fv r
noncomputable def plX:XE→Bool
 | .v z1=>true
 | .att z1 z2=>true
 | .sub z1 z2=>true
 | .g z1=>true
 | .fz a=>plX a
 | z1=>false
noncomputable def tsX:XE→Bool
 | .ife z1 z2 z3=>false
 | .fz z1=>false
 | z1=>true
noncomputable def callX:XE→Bool
 | .call z1 z2=>true
 | .meth z1 z2 z3 z4=>true
 | z1=>false
noncomputable def plainV:PV→Bool
 | .none=>true
 | .bool z1=>true
 | .int z1=>true
 | z1=>false
noncomputable def lenX:XE→Nat
 | .cons z1 r=>lenX r+1
 | z1=>0
noncomputable def bsX:XE→Bool
 | .cons a r=>tsX a&&(isNilX r || bsX r)
 | z1=>false
noncomputable def csX:XE→Bool
 | .cons a r=>tsX a&&isNilX r
 | .nil=>true
 | z1=>false
noncomputable def glO (kd:Str→Option NameKind):Option Str→Bool
 | some x=>isGl kd x
 | none=>false
noncomputable def itG (kd:Str→Option NameKind):Nat→Bool
 | 0=>true
 | 1=>isGl kd "range"
 | z1=>isGl kd "enumerate"
noncomputable def okX:XE→(Str→Option NameKind)→Bool
 | .k v,z1=>plainV v
 | .g j,kd=>glO kd (intsT[j]?.map fun p=>Str.ofString p.2)
 | .v z1,z2=>true
 | .fz a,kd=>okX a kd
 | .bin z1 a b,kd=>okX a kd&&okX b kd
 | .neg a,kd=>okX a kd
 | .not a,kd=>tsX a&&okX a kd
 | .boo z1 as,kd=>bsX as&&okX as kd
 | .cmp z1 a b,kd=>okX a kd&&okX b kd
 | .cmp2 z1 z2 a b c,kd=>okX a kd&&okX b kd&&okX c kd
 | .ife t a b,kd=>tsX t&&okX t kd&&okX a kd&&okX b kd
 | .att a z1,kd=>plX a&&okX a kd
 | .sub a i,kd=>okX a kd&&okX i kd
 | .cut a l u,kd=>okX a kd&&okX l kd&&okX u kd
 | .call f as,kd=>glO kd (opN f fnsT)&&okX as kd
 | .meth C j a as,kd=>plX a&&(lenX as).blt 30&&(opM C j meT).isSome&&okX a kd&&okX as kd
 | .blt f as,kd=>isGl kd (bltS f)&&okX as kd
 | .isi t a,kd=>isGl kd "isinstance" && isGl kd (isiS t)&&okX a kd
 | .lst as,kd=>okX as kd
 | .tup as,kd=>okX as kd
 | .tupo as,kd=>okX as kd
 | .comp ns fv ts s it c e,kd=>okNs ns&&(freeNames ns).all (isCl kd)&&fv.all (isFree ns)&&ts.all (fun x=>stoK (fun y=>ns.lookup y) x&&!(mem x fv))&&itG kd s&&csX c&&okX it kd&&okX c (kdIn ns kd)&&okX e (kdIn ns kd)
 | .rows ns x n,kd=>okNs ns&&(freeNames ns).all (isCl kd)&&isGl kd "range" && stoK (fun y=>ns.lookup y) x&&okX n kd
 | .nil,z1=>true
 | .cons a r,kd=>okX a kd&&okX r kd
noncomputable def bindO (ts:List Nat)(i:IC)(ρ:En)(K:En→Prop):Prop:=match ts with
 | []=>False
 | x::ts=>(match ts with
  | []=>(match i with
   | .one v=>K (st ρ x (.fr v))
   | .two z1 z2=>False)
  | y::ts=>(match ts with
   | []=>(match i with
    | .two u v=>K (st (st ρ x (.fr u)) y (.fr v))
    | .one v=>(match v with
     | .tup vs=>(match vs with
      | [u,v]=>K (st (st ρ x (.fr u)) y (.fr v))
      | z1=>False)
     | z1=>False))
   | z1::z2=>False))
noncomputable def preH:List OB→List OB→Prop
 | [],z1=>True
 | o::J,H=>match H with
  | o'::H=>o'=o∧preH J H
  | []=>False
noncomputable def agr (ρ:En):En→Prop
 | []=>True
 | (x,o)::J=>lk ρ x=some o∧agr ρ J
noncomputable def okN (n:Nat):QV→Bool
 | .fr z1=>true
 | .own i=>i.blt n
noncomputable def okO (n:Nat)(o:OB):Bool:=(partsO o).all (okN n)
noncomputable def okH (n:Nat)(J:List OB):Bool:=Nat.ble n J.length&&J.all (okO J.length)
noncomputable def okJ (k:Nat)(ρ:En)(H:List OB):Bool:=Nat.ble k H.length&&(ρ.all fun p=>okN H.length p.2)&&H.all (okO H.length)
noncomputable def sO (b:Bool)(H:List OB)(w:KQ→Prop)(K:List OB→Option Int→Prop):Prop:=match b with
 | true=>K H none
 | false=>w fun H q=>frz H q fun H v=>opB (bound v) fun i=>K H i
noncomputable def sIt (s:Nat)(w:KQ→Prop)(ws:(List OB→List QV→Prop)→Prop)(K:List OB→Itr→Prop):Prop:=match s with
 | 0=>w fun H q=>frz H q fun H v=>opB (seqP v) fun xs=>K H (.seq xs)
 | s+1=>ws fun H qs=>frzQs (frzI 4) H qs fun H vs=>itrQ (s+1) (K H) vs
noncomputable def Px.calm (P:Px):Px:=⟨P.G,False⟩
noncomputable def rowK (H:List OB)(K:KQ):Itr→Prop
 | .rng a b=>okH H.length H=true∧(b-a).toNat≤1000∧K (H++List.replicate (b-a).toNat (.lst [])++[.ol ((List.range (b-a).toNat).map fun i=>.own (H.length+i))]) (.own (H.length+(b-a).toNat))
 | z1=>False
noncomputable abbrev WQ:=List OB→KQ→Prop
noncomputable abbrev KL:=List OB→List QV→Prop
noncomputable abbrev WL:=List OB→KL→Prop
noncomputable def kFz (K:KQ):KQ:=fun H q=>frz H q fun H v=>K H (.fr v)
noncomputable def kBin2 (o:BO)(u:PV)(K:KQ):KQ:=fun H q=>frz H q fun H w=>binQ H K o u w
noncomputable def kBin (o:BO)(w:WQ)(K:KQ):KQ:=fun H q=>frz H q fun H u=>w H (kBin2 o u K)
noncomputable def kNeg (K:KQ):KQ:=fun H q=>frz H q fun H v=>intP v fun i=>conI H (-i) K
noncomputable def kNot (K:KQ):KQ:=fun H q=>boolQ q fun b=>conB H (!b) K
noncomputable def kBoo (K:KQ):Bool→List OB→Prop:=fun b H=>conB H b K
noncomputable def kCmp2 (o:CO)(u:PV)(K:KQ):KQ:=fun H q=>frz H q fun H w=>cmpQ o u w fun r=>conB H r K
noncomputable def kCmp (o:CO)(w:WQ)(K:KQ):KQ:=fun H q=>frz H q fun H u=>w H (kCmp2 o u K)
noncomputable def kCh2 (o p:CO)(u:PV)(w:WQ)(K:KQ):KQ:=fun H q=>frz H q fun H v=>cmpQ o u v fun r=>brB r (w H (kCmp2 p v K)) (conB H false K)
noncomputable def kCh (o p:CO)(w w':WQ)(K:KQ):KQ:=fun H q=>frz H q fun H u=>w H (kCh2 o p u w' K)
noncomputable def kIfe (w w':WQ)(K:KQ):KQ:=fun H q=>boolQ q fun r=>brB r (w H K) (w' H K)
noncomputable def kAtt (f:Nat)(K:KQ):KQ:=fun H q=>attQ H f (K H) q
noncomputable def kSub2 (q:QV)(K:KQ):KQ:=fun H j=>frz H j fun H j=>subQ H q j (K H)
noncomputable def kSub (w:WQ)(K:KQ):KQ:=fun H q=>w H (kSub2 q K)
noncomputable def kCut (l u:Bool)(w w':WQ)(K:KQ):KQ:=fun H q=>frz H q fun H v=>sO l H (w H) fun H lo=>sO u H (w' H) fun H hi=>cutQ H lo hi K v
noncomputable def kCall (f:Nat)(P:Px)(K:KQ):KL:=fun H qs=>callQ P f H qs K
noncomputable def kMeth2 (f:Nat)(P:Px)(q:QV)(K:KQ):KL:=fun H qs=>callQ P f H (q::qs) K
noncomputable def kMeth (C j:Nat)(P:Px)(w:WL)(K:KQ):KQ:=fun H q=>ifB ((clsQ H q).beq C) (w H (kMeth2 (C*100+j) P q K))
noncomputable def kBlt (f:Nat)(K:KQ):KL:=fun H qs=>frzQs (frzI 4) H qs fun H vs=>bltQ H f K vs
noncomputable def kIsi (t:Nat)(K:KQ):KQ:=fun H q=>frz H q fun H v=>isiQ (fun b=>conB H b K) v t
noncomputable def kLst (K:KQ):KL:=fun H qs=>frzQs (frzI 4) H qs fun H vs=>small vs∧newL H vs K
noncomputable def kTup (K:KQ):KL:=fun H qs=>frzQs (frzI 4) H qs fun H vs=>small vs∧K H (.fr (.tup vs))
noncomputable def kTupo (K:KQ):KL:=fun H qs=>small qs∧K (H++[.tup qs]) (.own H.length)
noncomputable def kRows (K:KQ):KQ:=fun H q=>frzQs (frzI 4) H [q] fun H vs=>itrQ 1 (rowK H K) vs
noncomputable def kCons2 (q:QV)(K:KL):KL:=fun H qs=>K H (q::qs)
noncomputable def kCons (w:WL)(K:KL):KQ:=fun H q=>w H (kCons2 q K)
noncomputable def kBs (o z:Bool)(w:List OB→(Bool→List OB→Prop)→Prop)(K:Bool→List OB→Prop):KQ:=fun H q=>boolQ q fun b=>match z with
 | true=>K b H
 | false=>match o with
  | true=>brB b (w H K) (K false H)
  | false=>brB b (K true H) (w H K)
noncomputable def kEl (A A':List PV)(J':List OB):KQ:=fun H q=>frz H q fun H v=>A'=A++[v]∧preH J' H
noncomputable def kPick (w:WQ)(A A':List PV)(J':List OB):Bool→List OB→Prop:=fun b H=>brB b (w H (kEl A A' J')) (A'=A∧preH J' H)
@[irreducible] noncomputable def kComp (fv ts:List Nat)(wc:En→List OB→(Bool→List OB→Prop)→Prop)(we:En→WQ)(ρ:En)(K:KQ):List OB→Itr→Prop:=fun H I=>I.len≤1000∧∃ (J:Nat→List OB) (A:Nat→List PV),J 0=H∧A 0=[]∧(∀ k,okH H.length (J k)=true) ∧
   (∀ k,I.all (fun x=>bindO ts x (frees fv ρ) fun ρ=>wc ρ (J k) (kPick (we ρ) (A k) (A (k+1)) (J (k+1)))) k)∧newL (J I.len) (A I.len) K
noncomputable def kTst (K:Bool→List OB→Prop):KQ:=fun H q=>boolQ q fun b=>K b H
mutual
noncomputable def sX:XE→Px→En→List OB→KQ→Prop
 | .k v,P,ρ,H,K=>K H (.fr v)
 | .g j,P,ρ,H,K=>opB intsT[j]? fun p=>K H (.fr (.int p.1))
 | .v x,P,ρ,H,K=>opB (lk ρ x) fun q=>K H q
 | .fz a,P,ρ,H,K=>sX a P ρ H (kFz K)
 | .bin o a b,P,ρ,H,K=>sX a P ρ H (kBin o (sX b P ρ) K)
 | .neg a,P,ρ,H,K=>sX a P ρ H (kNeg K)
 | .not a,P,ρ,H,K=>sX a P ρ H (kNot K)
 | .boo o as,P,ρ,H,K=>sB o as P ρ H (kBoo K)
 | .cmp o a b,P,ρ,H,K=>sX a P ρ H (kCmp o (sX b P ρ) K)
 | .cmp2 o p a b c,P,ρ,H,K=>sX a P ρ H (kCh o p (sX b P ρ) (sX c P ρ) K)
 | .ife t a b,P,ρ,H,K=>sX t P ρ H (kIfe (sX a P ρ) (sX b P ρ) K)
 | .att a f,P,ρ,H,K=>sX a P ρ H (kAtt f K)
 | .sub a i,P,ρ,H,K=>sX a P ρ H (kSub (sX i P ρ) K)
 | .cut a l u,P,ρ,H,K=>sX a P ρ H (kCut (isNilX l) (isNilX u) (sX l P ρ) (sX u P ρ) K)
 | .call f as,P,ρ,H,K=>sXs as P ρ H (kCall f P K)
 | .meth C j a as,P,ρ,H,K=>sX a P ρ H (kMeth C j P (sXs as P ρ) K)
 | .blt f as,P,ρ,H,K=>sXs as P ρ H (kBlt f K)
 | .isi t a,P,ρ,H,K=>sX a P ρ H (kIsi t K)
 | .lst as,P,ρ,H,K=>sXs as P ρ H (kLst K)
 | .tup as,P,ρ,H,K=>sXs as P ρ H (kTup K)
 | .tupo as,P,ρ,H,K=>sXs as P ρ H (kTupo K)
 | .comp z1 fv ts s it c e,P,ρ,H,K=>sIt s (sX it P ρ H) (sXs it P ρ H) (kComp fv ts (sC c P.calm) (sX e P.calm) ρ K)
 | .rows z1 z2 n,P,ρ,H,K=>sX n P ρ H (kRows K)
 | .nil,z1,z2,z3,z4=>False
 | .cons z1 z2,z3,z4,z5,z6=>False
noncomputable def sXs:XE→Px→En→List OB→(List OB→List QV→Prop)→Prop
 | .nil,P,ρ,H,K=>K H []
 | .cons a r,P,ρ,H,K=>sX a P ρ H (kCons (sXs r P ρ) K)
 | z1,z2,z3,z4,z5=>False
noncomputable def sB (o:Bool):XE→Px→En→List OB→(Bool→List OB→Prop)→Prop
 | .cons a r,P,ρ,H,K=>sX a P ρ H (kBs o (isNilX r) (sB o r P ρ) K)
 | z1,z2,z3,z4,z5=>False
noncomputable def sC:XE→Px→En→List OB→(Bool→List OB→Prop)→Prop
 | .nil,P,ρ,H,K=>K true H
 | .cons a r,P,ρ,H,K=>sX a P ρ H (kTst K)
 | z1,z2,z3,z4,z5=>False
end
noncomputable abbrev KT:=Fl→En→List OB→Prop
noncomputable def tupQ (H:List OB)(q:QV)(K:List QV→Prop):Prop:=match q with
 | .fr v=>(match v with
  | .tup vs=>K (vs.map .fr)
  | z1=>False)
 | .own i=>opB H[i]? fun o=>(match o with
  | .tup qs=>K qs
  | .fz v=>(match v with
   | .tup vs=>K (vs.map .fr)
   | z1=>False)
  | z1=>False)
noncomputable def unpQ:List Tg→List QV→En→List OB→(En→List OB→Prop)→Prop
 | [],qs,ρ,H,K=>(match qs with
  | []=>K ρ H
  | z1::z2=>False)
 | t::ts,qs,ρ,H,K=>(match qs with
  | []=>False
  | q::qs=>(match t with
   | .n x=>unpQ ts qs (st ρ x q) H K
   | .a x f=>opB (lk ρ x) fun o=>setQ H o f q fun H=>unpQ ts qs ρ H K))
noncomputable def addP (u v:PV)(K:PV→Prop):Prop:=intP u fun x=>intP v fun y=>K (.int (x+y))
noncomputable abbrev WT:=En→List OB→KT→Prop
noncomputable def kSeq (w:WT)(K:KT):KT:=fun fl ρ H=>match fl with
 | .nx=>w ρ H K
 | .rt q=>K (.rt q) ρ H
noncomputable def kRet (ρ:En)(K:KT):KQ:=fun H q=>K (.rt q) ρ H
noncomputable def kEx (ρ:En)(K:KT):KQ:=fun H q=>K .nx ρ H
noncomputable def kAsg (x:Nat)(ρ:En)(K:KT):KQ:=fun H q=>K .nx (st ρ x q) H
noncomputable def kUnp (ts:List Tg)(ρ:En)(K:KT):KQ:=fun H q=>tupQ H q fun qs=>unpQ ts qs ρ H fun ρ H=>K .nx ρ H
noncomputable def kSetA2 (f:Nat)(q:QV)(ρ:En)(K:KT):KQ:=fun H o=>setQ H o f q fun H=>K .nx ρ H
noncomputable def kSetA (f:Nat)(w:WQ)(ρ:En)(K:KT):KQ:=fun H q=>w H (kSetA2 f q ρ K)
noncomputable def putI (H:List OB)(o:QV)(j v:PV)(ρ:En)(K:KT):Prop:=lstQ H o fun n xs=>intP j fun j=>0≤j∧j.toNat<xs.length∧K .nx ρ (H.set n (.lst (xs.set j.toNat v)))
noncomputable def kSetI3 (v:PV)(o:QV)(ρ:En)(K:KT):KQ:=fun H j=>frz H j fun H j=>putI H o j v ρ K
noncomputable def kSetI2 (v:PV)(w:WQ)(ρ:En)(K:KT):KQ:=fun H o=>w H (kSetI3 v o ρ K)
noncomputable def kSetI (w w':WQ)(ρ:En)(K:KT):KQ:=fun H q=>frz H q fun H v=>w H (kSetI2 v w' ρ K)
noncomputable def kAugA2 (f:Nat)(o:QV)(u:PV)(ρ:En)(K:KT):KQ:=fun H q=>frz H q fun H v=>addP u v fun w=>setQ H o f (.fr w) fun H=>K .nx ρ H
noncomputable def kAugA (f:Nat)(w:WQ)(ρ:En)(K:KT):KQ:=fun H o=>attQ H f (fun q=>frz H q fun H u=>w H (kAugA2 f o u ρ K)) o
noncomputable def kAugI3 (o:QV)(j u:PV)(ρ:En)(K:KT):KQ:=fun H q=>frz H q fun H v=>addP u v fun w=>putI H o j w ρ K
noncomputable def kAugI2 (o:QV)(w:WQ)(ρ:En)(K:KT):KQ:=fun H j=>frz H j fun H j=>opB (pvQ H o) fun v=>opB (seqP v) fun xs=>opB (atP xs j) fun u=>w H (kAugI3 o j u ρ K)
noncomputable def kAugI (w w':WQ)(ρ:En)(K:KT):KQ:=fun H o=>w H (kAugI2 o w' ρ K)
noncomputable def kApp2 (o:QV)(ρ:En)(K:KT):KQ:=fun H q=>frz H q fun H v=>lstQ H o fun n xs=>small (xs++[v])∧K .nx ρ (H.set n (.lst (xs++[v])))
noncomputable def kApp (w:WQ)(ρ:En)(K:KT):KQ:=fun H o=>lstQ H o fun zz zz=>w H (kApp2 o ρ K)
noncomputable def kExt2 (o:QV)(ρ:En)(K:KT):KQ:=fun H q=>frz H q fun H v=>(match v with
  | .lst ys=>lstQ H o fun n xs=>small (xs++ys)∧K .nx ρ (H.set n (.lst (xs++ys)))
  | z1=>False)
noncomputable def kExt (w:WQ)(ρ:En)(K:KT):KQ:=fun H o=>lstQ H o fun zz zz=>w H (kExt2 o ρ K)
noncomputable def kIf (w w':WT)(ρ:En)(K:KT):KQ:=fun H q=>boolQ q fun r=>brB r (w ρ H K) (w' ρ H K)
noncomputable def kTurn (B:Prop)(J:En×List OB)(K:KT):KT:=fun fl ρ H=>match fl with
 | .nx=>B∧preH J.2 H∧agr ρ J.1
 | .rt q=>K (.rt q) ρ H
@[irreducible] noncomputable def kLoop (c:Nat)(ts:List Nat)(w:WT)(ρ:En)(K:KT):List OB→Itr→Prop:=fun H I=>∃ (J:Nat→En×List OB) (B:Nat→Prop),B 0∧preH (J 0).2 H∧agr ρ (J 0).1∧(∀ k,okJ (c / 2) (J k).1 (J k).2=true) ∧
   (∀ k,B k→I.all (fun x=>bindO ts x (J k).1 fun ρ=>w ρ (J k).2 (kTurn (B (k+1)) (J (k+1)) K)) k)∧(B I.len→K .nx (J I.len).1 (J I.len).2)
noncomputable def gcQ:List Nat→En→List OB→(En→List OB→Prop)→Prop
 | [],ρ,H,K=>K ρ H
 | x::xs,ρ,H,K=>opB (lk ρ x) fun q=>frz H q fun H v=>gcQ xs (st ρ x (.fr v)) H K
noncomputable def kGc (c n:Nat)(w:WT)(K:KT):En→List OB→Prop:=fun ρ H=>okJ (c / 2) ρ (H.take n)=true∧w ρ (H.take n) K
noncomputable def sT (c:Nat):XT→Px→En→List OB→KT→Prop
 | .nil,P,ρ,H,K=>K .nx ρ H
 | .seq s r,P,ρ,H,K=>sT c s P ρ H (kSeq (sT c r P) K)
 | .pass,P,ρ,H,K=>K .nx ρ H
 | .ret e,P,ρ,H,K=>sX e P ρ H (kRet ρ K)
 | .ex e,P,ρ,H,K=>sX e P ρ H (kEx ρ K)
 | .asg x e,P,ρ,H,K=>sX e P ρ H (kAsg x ρ K)
 | .unp ts e,P,ρ,H,K=>sX e P ρ H (kUnp ts ρ K)
 | .setA a f e,P,ρ,H,K=>sX e P ρ H (kSetA f (sX a P ρ) ρ K)
 | .setI l i e,P,ρ,H,K=>sX e P ρ H (kSetI (sX l P ρ) (sX i P ρ) ρ K)
 | .augA a f e,P,ρ,H,K=>sX a P ρ H (kAugA f (sX e P ρ) ρ K)
 | .augI l i e,P,ρ,H,K=>sX l P ρ H (kAugI (sX i P ρ) (sX e P ρ) ρ K)
 | .app l e,P,ρ,H,K=>sX l P ρ H (kApp (sX e P ρ) ρ K)
 | .ext l e,P,ρ,H,K=>sX l P ρ H (kExt (sX e P ρ) ρ K)
 | .ife t a b,P,ρ,H,K=>sX t P ρ H (kIf (sT c a P) (sT c b P) ρ K)
 | .loop ts s it b,P,ρ,H,K=>sIt s (sX it P ρ H) (sXs it P ρ H) (kLoop c ts (sT c b P.calm) ρ K)
 | .raise,P,ρ,H,K=>P.X
 | .bad,P,ρ,H,K=>False
 | .gc xs n r,P,ρ,H,K=>gcQ xs ρ H (kGc c n (sT c r P) K)
 | .tryN b,P,ρ,H,K=>c=0∧sT c b ⟨P.G,K (.rt (.fr .none)) [] []⟩ ρ H K
noncomputable def valS:Stmt→Expr
 | .Return e z1=>e.getD noE
 | .Expr e z1=>e
 | .Assign z1 e z2=>e
 | .AugAssign z1 z2 e z3=>e
 | .If t z1 z2 z3=>t
 | .For z1 it z2 z3 z4=>it
 | .Raise e z1 z2=>e.getD noE
 | z1=>noE
noncomputable def tgtS:Stmt→Expr
 | .Assign ts z1 z2=>hdE ts
 | .AugAssign t z1 z2 z3=>t
 | .For t z1 z2 z3 z4=>t
 | z1=>noE
noncomputable def bodS:Stmt→List Stmt
 | .If z1 a z2 z3=>a
 | .For z1 z2 b z3 z4=>b
 | .Try b z1 z2 z3 z4=>b
 | z1=>[]
noncomputable def elsS:Stmt→List Stmt
 | .If z1 z2 b z3=>b
 | z1=>[]
noncomputable def hdlS:Stmt→Expr×Expr×Pos×Pos
 | .Try z1 (.ExceptHandler (some t) z2 (.Return (some e) p::z3) q::z4) z5 z6 z7=>(t,e,p,q)
 | z1=>(noE,noE,default,default)
noncomputable def hdS (L:List Stmt):Stmt:=L.headD (.Pass default)
noncomputable def strE:Expr→Str
 | .Constant (.str t) z1 z2=>t
 | z1=>Str.empty
noncomputable def toTg:List Tg→List Expr→List Expr
 | [],z1=>[]
 | .n x::ts,es=>nmE x (hdE es)::toTg ts es.tail
 | .a x f::ts,es=>.Attribute (nmE x (k0 (hdE es))) (fnm f) (hdE es).pos::toTg ts es.tail
noncomputable def mcE (o:Expr)(n:Str)(a e:Expr):Expr:=.Call (.Attribute o n { (k0 e).pos with endLine:=e.pos.line }) [a] [] e.pos
mutual
noncomputable def toS:XT→Stmt→Stmt
 | .pass,S=>.Pass S.pos
 | .ret e,S=>.Return (some (toE e (valS S))) S.pos
 | .ex e,S=>.Expr (toE e (valS S)) S.pos
 | .asg x e,S=>.Assign [nmE x (tgtS S)] (toE e (valS S)) S.pos
 | .unp ts e,S=>.Assign [.Tuple (toTg ts (kidE (tgtS S))) (numE (tgtS S)) (tgtS S).pos] (toE e (valS S)) S.pos
 | .setA a f e,S=>.Assign [.Attribute (toE a (k0 (tgtS S))) (fnm f) (tgtS S).pos] (toE e (valS S)) S.pos
 | .setI l i e,S=>.Assign [.Subscript (toE l (k0 (tgtS S))) (toE i (k1 (tgtS S))) (tgtS S).pos] (toE e (valS S)) S.pos
 | .augA a f e,S=>.AugAssign (.Attribute (toE a (k0 (tgtS S))) (fnm f) (tgtS S).pos) .Add (toE e (valS S)) S.pos
 | .augI l i e,S=>.AugAssign (.Subscript (toE l (k0 (tgtS S))) (toE i (k1 (tgtS S))) (tgtS S).pos) .Add (toE e (valS S)) S.pos
 | .app l e,S=>.Expr (mcE (toE l (k0 (k0 (valS S)))) "append" (toE e (k1 (valS S))) (valS S)) S.pos
 | .ext l e,S=>.Expr (mcE (toE l (k0 (k0 (valS S)))) "extend" (toE e (k1 (valS S))) (valS S)) S.pos
 | .ife t a b,S=>.If (toE t (valS S)) (toT a (bodS S)) (toT b (elsS S)) S.pos
 | .loop ts s it b,S=>.For (toTs ts (tgtS S)) (itE s (valS S) (toE it (valS S)) (toL it (kidE (valS S)).tail)) (toT b (bodS S)) [] S.pos
 | .raise,S=>.Raise (some (.Call (.Name "Overflow" (k0 (valS S)).pos) [.Constant (.str (strE (k1 (valS S)))) (numE (k1 (valS S))) (k1 (valS S)).pos] [] (valS S).pos)) none S.pos
 | .tryN b,S=>.Try (toT b (bodS S)) [.ExceptHandler (some (.Name "Overflow" (hdlS S).1.pos)) none [.Return (some (.Constant .none (numE (hdlS S).2.1) (hdlS S).2.1.pos)) (hdlS S).2.2.1] (hdlS S).2.2.2] [] [] S.pos
 | .bad,S=>S
 | .gc z1 z2 z3,S=>S
 | .nil,S=>S
 | .seq z1 z2,S=>S
noncomputable def toT:XT→List Stmt→List Stmt
 | .seq s r,L=>toS s (hdS L)::toT r L.tail
 | .gc z1 z2 r,L=>toT r L
 | z1,z2=>[]
end
noncomputable def isComp:XE→Bool
 | .comp z1 z2 z3 z4 z5 z6 z7=>true
 | .rows z1 z2 z3=>true
 | .fz a=>isComp a
 | z1=>false
noncomputable def ncX:XE→Bool
 | .lst z1=>true
 | .call z1 z2=>true
 | .cmp z1 z2 z3=>true
 | .bin z1 a z2=>(match a with
  | .lst z1=>true
  | z1=>false)
 | .cut a z1 z2=>(match a with
  | .v z1=>true
  | z1=>false)
 | z1=>false
noncomputable def kX:XE→Bool
 | .k z1=>true
 | z1=>false
noncomputable def kXs:XE→Bool
 | .cons a r=>kX a&&kXs r
 | .nil=>true
 | z1=>false
noncomputable def tupX:XE→Bool
 | .cons a r=>ncX a || kX a&&kXs r
 | z1=>false
noncomputable def fzX:XE→Bool
 | .fz a=>!isComp a
 | z1=>true
noncomputable def unpX:XE→Bool
 | .tup as=>tupX as
 | .tupo as=>tupX as
 | .fz z1=>false
 | e=>!isComp e
noncomputable def tgN:List Tg→List Nat
 | []=>[]
 | .n x::r=>x::tgN r
 | .a z1 z2::r=>tgN r
noncomputable def tgK (kd:Str→Option NameKind):Tg→Bool
 | .n x=>stoK kd x
 | .a z1 z2=>true
noncomputable def lsT:XT→Bool
 | .nil=>true
 | .gc z1 z2 z3=>true
 | .seq z1 z2=>true
 | z1=>false
noncomputable def okT:XT→(Str→Option NameKind)→Bool
 | .nil,z1=>true
 | .seq s r,kd=>(!lsT s&&lsT r)&&okT s kd&&okT r kd
 | .pass,z1=>true
 | .ret e,kd=>okX e kd
 | .ex e,kd=>callX e&&okX e kd
 | .asg x e,kd=>stoK kd x&&fzX e&&okX e kd
 | .unp ts e,kd=>ts.all (tgK kd)&&nodB (tgN ts)&&unpX e&&okX e kd
 | .setA a z1 e,kd=>!isComp e&&okX a kd&&okX e kd
 | .setI l i e,kd=>!isComp e&&okX l kd&&okX i kd&&okX e kd
 | .augA a z1 e,kd=>okX a kd&&okX e kd
 | .augI l i e,kd=>okX l kd&&okX i kd&&okX e kd
 | .app l e,kd=>plX l&&okX l kd&&okX e kd
 | .ext l e,kd=>plX l&&okX l kd&&okX e kd
 | .ife t a b,kd=>(tsX t&&(lsT a&&lsT b))&&okX t kd&&okT a kd&&okT b kd
 | .loop ts s it b,kd=>ts.all (stoK kd)&&itG kd s&&okX it kd&&(lsT b&&okT b kd)
 | .raise,kd=>isGl kd "Overflow"
 | .bad,z1=>true
 | .gc z1 z2 r,kd=>lsT r&&okT r kd
 | .tryN b,kd=>isGl kd "Overflow" && (lsT b&&okT b kd)
end
set_option autoImplicit false
structure Rt where
 F:View
 w:List Addr
 τ:Addr→Option Nat
inductive SeqR (F:View)(mk:List AV→AO)(P:List AV→Prop)(a:AV):Prop
 | mk (l:Addr) (as:List AV) (e:a=.ref l) (h:F l=some (mk as)) (n:as.length≤1000) (r:P as)
inductive ObjR (W:Wo)(F:View)(C:Nat)(P:List AV→Prop)(a:AV):Prop
 | mk (x d:Addr) (as:List AV) (e:a=.ref x) (h:F x=some (.inst (W.ad C) d)) (g:F d=some (.dict (zp (flds C) as))) (r:P as)
inductive ConsR {α:Type}(P:α→Prop)(Ps:List α→Prop)(as:List α):Prop
 | mk (a:α) (r:List α) (e:as=a::r) (h:P a) (t:Ps r)
section
variable (W:Wo) (F:View)
mutual
noncomputable def Rel:PV→AV→Prop
 | .none,a=>a=.none
 | .bool b,a=>a=.bool b
 | .int i,a=>a=.int i
 | .lst xs,a=>SeqR F .list (Rels xs) a
 | .tup xs,a=>SeqR F .tup (Rels xs) a
 | .obj C xs,a=>ObjR W F C (Rels xs) a
noncomputable def Rels:List PV→List AV→Prop
 | [],as=>as=[]
 | x::xs,as=>ConsR (Rel x) (Rels xs) as
end
end
inductive OwnR (w:List Addr)(i:Nat)(a:AV):Prop
 | mk (x:Addr) (h:w[i]?=some x) (e:a=.ref x)
noncomputable def QR (W:Wo)(R:Rt):QV→AV→Prop
 | .fr v,a=>Rel W R.F v a
 | .own i,a=>OwnR R.w i a
noncomputable def QRs (W:Wo)(R:Rt):List QV→List AV→Prop
 | [],as=>as=[]
 | q::qs,as=>ConsR (QR W R q) (QRs W R qs) as
inductive LstO (W:Wo)(V:View)(R:Rt)(i:Nat)(x:Addr)(xs:List PV):Prop
 | mk (as:List AV) (h:V x=some (.list as)) (t:R.τ x=some i) (n:as.length≤1000) (r:Rels W R.F xs as)
inductive TupO (W:Wo)(V:View)(R:Rt)(i:Nat)(x:Addr)(mk:List AV→AO)(qs:List QV):Prop
 | mk (as:List AV) (h:V x=some (mk as)) (t:R.τ x=some i) (n:as.length≤1000) (r:QRs W R qs as)
inductive ObjO (W:Wo)(V:View)(R:Rt)(i:Nat)(x:Addr)(C:Nat)(qs:List QV):Prop
 | mk (d:Addr) (as:List AV) (h:V x=some (.inst (W.ad C) d)) (t:R.τ x=some i) (g:V d=some (.dict (zp (flds C) as))) (u:R.τ d=some i) (r:QRs W R qs as)
noncomputable def RootR (W:Wo)(V:View)(R:Rt)(i:Nat)(x:Addr):OB→Prop
 | .fz v=>Rel W R.F v (.ref x)
 | .lst xs=>LstO W V R i x xs
 | .obj C qs=>ObjO W V R i x C qs
 | .tup qs=>TupO W V R i x .tup qs
 | .ol qs=>TupO W V R i x .list qs
structure Core (W:Wo)(V:View)(R:Rt)(H:List OB):Prop where
 fre:∀ b,V b=none→R.τ b=none
 le:Le R.F V
 off:∀ b o,R.F b=some o→R.τ b=none
 nc:∀ b v,R.F b≠some (.cell v)
 nt:∀ b i v,R.τ b=some i→V b≠some (.cell v)
 tag:∀ b i,R.τ b=some i→i<H.length
 wl:R.w.length=H.length
 rt:∀ i x o,R.w[i]?=some x→H[i]?=some o→RootR W V R i x o
structure RLe (R R':Rt):Prop where
 f:Le R.F R'.F
 w:∀(j:Nat)(y:Addr),R.w[j]?=some y→R'.w[j]?=some y
section
variable {W:Wo} {F F':View} {V V':View} {R R' R2:Rt} {H H':List OB}
theorem RLe.refl (R:Rt):RLe R R:=⟨Le.refl _,fun zz zz h=>h⟩
theorem RLe.trans (h:RLe R R')(k:RLe R' R2):RLe R R2:=⟨h.f.trans k.f,fun j y e=>k.w j y (h.w j y e)⟩
theorem SeqR.mono {mk:List AV→AO}{P P':List AV→Prop}{a:AV}(k:Le F F')(hp:∀ as,P as→P' as)(h:SeqR F mk P a):SeqR F' mk P' a :=
 h.rec fun l as e h n r=>⟨l,as,e,k _ _ h,n,hp _ r⟩
theorem ObjR.mono {C:Nat}{P P':List AV→Prop}{a:AV}(k:Le F F')(hp:∀ as,P as→P' as)(h:ObjR W F C P a):ObjR W F' C P' a :=
 h.rec fun x d as e h g r=>⟨x,d,as,e,k _ _ h,k _ _ g,hp _ r⟩
theorem ConsR.mono {α:Type}{P P':α→Prop}{Ps Ps':List α→Prop}{as:List α}(hp:∀ a,P a→P' a)(hs:∀ as,Ps as→Ps' as)(h:ConsR P Ps as):ConsR P' Ps' as :=
 h.rec fun a r e h t=>⟨a,r,e,hp a h,hs r t⟩
mutual
theorem Rel.mono (k:Le F F'):∀(v:PV)(a:AV),Rel W F v a→Rel W F' v a
 | .none,z1,h=>h
 | .bool z1,z2,h=>h
 | .int z1,z2,h=>h
 | .lst xs,z1,h=>SeqR.mono k (Rels.mono k xs) h
 | .tup xs,z1,h=>SeqR.mono k (Rels.mono k xs) h
 | .obj z1 xs,z2,h=>ObjR.mono k (Rels.mono k xs) h
theorem Rels.mono (k:Le F F'):∀(v:List PV)(a:List AV),Rels W F v a→Rels W F' v a
 | [],z1,h=>h
 | x::xs,z1,h=>ConsR.mono (Rel.mono k x) (Rels.mono k xs) h
end
theorem QR.mono (k:RLe R R'):∀(q:QV)(a:AV),QR W R q a→QR W R' q a
 | .fr v,a,h=>Rel.mono k.f v a h
 | .own i,z1,hz2=>by
  obtain ⟨x,h,e⟩:=hz2
  exact ⟨x,k.w i x h,e⟩
theorem QRs.mono (k:RLe R R'):∀(qs:List QV)(as:List AV),QRs W R qs as→QRs W R' qs as
 | [],z1,h=>h
 | q::qs,z1,h=>ConsR.mono (QR.mono k q) (QRs.mono k qs) h
structure Stay (i:Nat)(V:View)(R:Rt)(V':View)(R':Rt):Prop where
 le:RLe R R'
 st:∀ b o,V b=some o→R.τ b=some i→V' b=some o
 tg:∀ b,R.τ b=some i→R'.τ b=some i
theorem RootR.mono {i:Nat}{x:Addr}(k:Stay i V R V' R'):∀ o:OB,RootR W V R i x o→RootR W V' R' i x o
 | .fz v,h=>Rel.mono k.le.f v _ h
 | .lst xs,hz1=>by
  obtain ⟨as,h,t,n,r⟩:=hz1
  exact ⟨as,k.st _ _ h t,k.tg _ t,n,Rels.mono k.le.f xs as r⟩
 | .obj C qs,hz1=>by
  obtain ⟨d,as,h,t,g,u,r⟩:=hz1
  exact ⟨d,as,k.st _ _ h t,k.tg _ t,k.st _ _ g u,k.tg _ u,QRs.mono k.le qs as r⟩
 | .tup qs,hz1=>by
  obtain ⟨as,h,t,n,r⟩:=hz1
  exact ⟨as,k.st _ _ h t,k.tg _ t,n,QRs.mono k.le qs as r⟩
 | .ol qs,hz1=>by
  obtain ⟨as,h,t,n,r⟩:=hz1
  exact ⟨as,k.st _ _ h t,k.tg _ t,n,QRs.mono k.le qs as r⟩
noncomputable def Rt.fro (R:Rt)(a:Addr)(o:AO):Rt:={ R with F:=put R.F a o }
theorem Core.fro (h:Core W V R H){a:Addr}{o:AO}(ha:V a=none)(ho:∀ v,o≠.cell v):Core W (put V a o) (R.fro a o) H∧RLe R (R.fro a o):=by
 have fa:R.F a=none:=Le.nil h.le ha
 have ne:∀ b i,R.τ b=some i→b≠a:=fun b i e q=>by rw [q,h.fre a ha] at e; injection e
 have le:RLe R (R.fro a o):=⟨Le.put' fa,fun zz zz e=>e⟩
 refine ⟨⟨fun b e=>h.fre b (Le.nil (Le.put' ha) e),fun b o' e=>?_,fun b o' e=>?_,fun b v e=>?_,fun b i v e q=>?_,h.tag,h.wl,fun i x ob e1 e2=>RootR.mono ⟨le,fun b o' q t=>?_,fun zz t=>t⟩ ob (h.rt i x ob e1 e2)⟩,le⟩
 ·by_cases q:b=a
  ·subst q; exact (put_self V b o).trans ((put_self R.F b o).symm.trans e)
  ·exact (put_ne _ _ q).trans (h.le b o' ((put_ne _ _ q).symm.trans e))
 ·by_cases q:b=a
  ·subst q; exact h.fre b ha
  ·exact h.off b o' ((put_ne _ _ q).symm.trans e)
 ·by_cases q:b=a
  ·subst q; exact ho v (Option.some.inj ((put_self _ _ _).symm.trans e))
  ·exact h.nc b v ((put_ne _ _ q).symm.trans e)
 ·exact h.nt b i v e ((put_ne _ _ (ne b i e)).symm.trans q)
 ·exact (put_ne _ _ (ne b i t)).trans q
noncomputable def Rt.new (R:Rt)(V V':View)(x:Addr):Rt:={ R with w:=R.w++[x],τ:=fun b=>if (V b).isNone&&(V' b).isSome then some R.w.length else R.τ b }
theorem append_some {α:Type}{l r:List α}{j:Nat}{y:α}(e:l[j]?=some y):(l++r)[j]?=some y:=by
 rw [List.getElem?_append_left (List.getElem?_eq_some_iff.mp e).1]; exact e
theorem new_old {b:Addr}{x:Addr}{o:AO}(e:V b=some o):(R.new V V' x).τ b=R.τ b:=if_neg (by rw [e]; exact Bool.false_ne_true)
theorem new_new {b:Addr}{x:Addr}{o:AO}(e:V b=none)(g:V' b=some o):(R.new V V' x).τ b=some R.w.length:=if_pos (by rw [e,g]; rfl)
theorem snoc_cases {α:Type}{l:List α}{a y:α}{j:Nat}(e:(l++[a])[j]?=some y):l[j]?=some y∨j=l.length∧a=y:=by
 by_cases q:j<l.length
 ·rw [List.getElem?_append_left q] at e; exact .inl e
 ·rw [List.getElem?_append_right (Nat.le_of_not_lt q)] at e
  have:j-l.length=0:=by
   rcases z:j-l.length with _|⟨z'⟩
   ·rfl
   ·rw [z] at e; injection e
  rw [this] at e
  exact .inr ⟨Nat.le_antisymm (Nat.le_of_sub_eq_zero this) (Nat.le_of_not_lt q),Option.some.inj e⟩
theorem Core.new (h:Core W V R H){x:Addr}{o:OB}(hV:Le V V')(hc:∀ b v,V b=none→V' b≠some (.cell v))(hr:RLe R (R.new V V' x)→RootR W V' (R.new V V' x) H.length x o):Core W V' (R.new V V' x) (H++[o])∧RLe R (R.new V V' x):=by
 have le:RLe R (R.new V V' x):=⟨Le.refl _,fun j y e=>append_some e⟩
 have some_of:∀{b i},R.τ b=some i→∃ o,V b=some o:=fun {b i} e=>by
  rcases q:V b with _|⟨o⟩
  ·rw [h.fre b q] at e; injection e
  ·exact ⟨o,rfl⟩
 refine ⟨⟨fun b e=>?_,fun b o' e=>hV b o' (h.le b o' e),fun b o' e=>(new_old (h.le b o' e)).trans (h.off b o' e),h.nc,fun b i v e q=>?_,fun b i e=>?_,?_,fun i y ob e1 e2=>?_⟩,le⟩
 ·have:(R.new V V' x).τ b=R.τ b:=if_neg (by rw [e]; cases V b <;> exact Bool.false_ne_true)
  exact this.trans (h.fre b (Le.nil hV e))
 ·rcases z:V b with _|⟨o'⟩
  ·exact hc b v z q
  ·refine h.nt b i v ((new_old z).symm.trans e) ?_
   rw [hV b o' z] at q; rw [z]; exact q
 ·rw [List.length_append]
  rcases z:V b with _|⟨o'⟩
  ·rcases z':V' b with _|⟨o'⟩
   ·have:(R.new V V' x).τ b=R.τ b:=if_neg (by rw [z']; cases V b <;> exact Bool.false_ne_true)
    rw [this,h.fre b z] at e; injection e
   ·have:=(new_new (R:=R) (x:=x) z z').symm.trans e; (injection this with this; subst this); show R.w.length<H.length+1; rw [h.wl]; lia
  ·have:=h.tag b i ((new_old z).symm.trans e); show i<H.length+1; lia
 ·show (R.w++[x]).length=_
  rw [List.length_append,List.length_append,h.wl]; rfl
 ·rcases snoc_cases e1 with e1|⟨e3,rfl⟩
  ·have hi:i<H.length:=by rw [← h.wl]; exact (List.getElem?_eq_some_iff.mp e1).1
   rw [List.getElem?_append_left hi] at e2
   exact RootR.mono ⟨le,fun b o' q zz=>hV b o' q,fun b t=>(by obtain ⟨o',z⟩:=some_of t; exact (new_old z).trans t)⟩ ob (h.rt i y ob e1 e2)
  ·rw [e3,h.wl,List.getElem?_concat_length] at e2
   (injection e2 with e2; subst e2)
   rw [e3,h.wl]
   exact hr le
theorem Core.turn (h:Core W V R H){i:Nat}{x:Addr}{o o₀:OB}(hi:H[i]?=some o₀)(hx:R.w[i]?=some x)(hs:∀ b,R.τ b≠some i→V' b=V b)(hn:∀ b,V' b=none→V b=none)(hc:∀ b v,R.τ b=some i→V' b≠some (.cell v))(hr:RootR W V' R i x o):Core W V' R (H.set i o):=by
 refine ⟨fun b e=>h.fre b (hn b e),fun b o' e=>(hs b fun q=>?_).trans (h.le b o' e),h.off,h.nc,fun b j v e q=>?_,fun b j e=>by rw [List.length_set]; exact h.tag b j e,by rw [List.length_set]; exact h.wl,fun j y ob e1 e2=>?_⟩
 ·rw [h.off b o' e] at q; injection q
 ·by_cases z:j=i
  ·exact hc b v (z▸e) q
  ·exact h.nt b j v e ((hs b fun q'=>z (Option.some.inj (e.symm.trans q'))).symm.trans q)
 ·by_cases z:i=j
  ·subst z
   rw [List.getElem?_set_self (List.getElem?_eq_some_iff.mp hi).1] at e2
   (injection e2 with e2; subst e2); rw [hx] at e1; (injection e1 with e1; subst e1); exact hr
  ·rw [List.getElem?_set_ne z] at e2
   exact RootR.mono ⟨RLe.refl _,fun b o' q t=>(hs b fun q'=>z (Option.some.inj (q'.symm.trans t))).trans q,fun zz t=>t⟩ ob (h.rt j y ob e1 e2)
noncomputable def Rt.frz (R:Rt)(V:View)(i:Nat):Rt:={ R with F:=fun b=>if R.τ b=some i then V b else R.F b,τ:=fun b=>if R.τ b=some i then none else R.τ b }
theorem frz_own {b:Addr}{i:Nat}(e:R.τ b=some i):(R.frz V i).F b=V b:=if_pos e
theorem Core.frz (h:Core W V R H){i:Nat}{x:Addr}{v:PV}{o₀:OB}(hi:H[i]?=some o₀)(hx:R.w[i]?=some x)(hr:RLe R (R.frz V i)→Rel W (R.frz V i).F v (.ref x)):Core W V (R.frz V i) (H.set i (.fz v))∧RLe R (R.frz V i):=by
 have le:RLe R (R.frz V i):=⟨fun b o e=>(if_neg fun q=>by rw [h.off b o e] at q; injection q).trans e,fun zz zz e=>e⟩
 have ne:∀{b j},(R.frz V i).τ b=some j→R.τ b=some j∧j≠i:=fun {b j} e=>by
  by_cases z:R.τ b=some i
  ·have:(R.frz V i).τ b=none:=if_pos z
   rw [this] at e; injection e
  ·have:(R.frz V i).τ b=R.τ b:=if_neg z
   rw [this] at e
   exact ⟨e,fun q=>z (q▸e)⟩
 refine ⟨⟨fun b e=>?_,fun b o e=>?_,fun b o e=>?_,fun b w e=>?_,fun b j w e=>h.nt b j w (ne e).1,fun b j e=>by rw [List.length_set]; exact h.tag b j (ne e).1,by rw [List.length_set]; exact h.wl,fun j y ob e1 e2=>?_⟩,le⟩
 ·have:(R.frz V i).τ b=R.τ b:=if_neg (by rw [h.fre b e]; exact fun q=>by injection q)
  exact this.trans (h.fre b e)
 ·by_cases z:R.τ b=some i
  ·exact (frz_own z).symm.trans e
  ·exact h.le b o ((if_neg z).symm.trans e)
 ·by_cases z:R.τ b=some i
  ·exact if_pos z
  ·exact (if_neg z).trans (h.off b o ((if_neg z).symm.trans e))
 ·by_cases z:R.τ b=some i
  ·exact h.nt b i w z ((frz_own z).symm.trans e)
  ·exact h.nc b w ((if_neg z).symm.trans e)
 ·by_cases z:i=j
  ·subst z
   rw [List.getElem?_set_self (List.getElem?_eq_some_iff.mp hi).1] at e2
   (injection e2 with e2; subst e2)
   have e1:R.w[i]?=some y:=e1
   rw [hx] at e1; (injection e1 with e1; subst e1); exact hr le
  ·rw [List.getElem?_set_ne z] at e2
   exact RootR.mono ⟨le,fun zz zz q zz=>q,fun b t=>(if_neg fun q=>z (Option.some.inj (q.symm.trans t))).trans t⟩ ob (h.rt j y ob e1 e2)
theorem Core.cell (h:Core W V R H){a:Addr}{u v:Option AV}(ha:V a=some (.cell u)):Core W (put V a (.cell v)) R H:=by
 have ne:∀ b i,R.τ b=some i→b≠a:=fun b i e q=>h.nt b i u e (q▸ha)
 refine ⟨fun b e=>h.fre b ?_,fun b o e=>(put_ne _ _ ?_).trans (h.le b o e),h.off,h.nc,fun b i w e q=>h.nt b i w e ((put_ne _ _ (ne b i e)).symm.trans q),h.tag,h.wl,fun i x o e1 e2=>RootR.mono ⟨RLe.refl _,fun b o' q t=>(put_ne _ _ (ne b i t)).trans q,fun zz t=>t⟩ o (h.rt i x o e1 e2)⟩
 ·by_cases q:b=a
  ·subst q; rw [put_self] at e; injection e
  ·exact (put_ne _ _ q).symm.trans e
 ·rintro rfl
  exact h.nc b u ((h.le b o e).symm.trans ha▸e)
end
noncomputable def avP:PV→AV
 | .none=>.none
 | .bool b=>.bool b
 | .int i=>.int i
 | _=>.other
noncomputable def mkOk (K:Frag)(C fI:Addr):Bool:=makesIn K C&&findIn K (.ref C) "__init__" == some (some (.ref fI))&&typeIn K (.ref fI) == some (.type "function")&&keepIn K (.ref C)
structure PF (W:Wo):Prop where
 gl:∀ p∈globT,gv W.K p.1=some (p.2.av W)
 fn:∀ p∈fnT,FnAt W.K (fSt p.1) (fAd W p.1) (p.2.map avP)
 pa:∀ C,∀ f∈flds C,∃ o,ca W.K (W.ad C) (fnm f)=some o
 pk:∀ C i,catK C=some i→ca W.K (W.ad C) (fnm 8)=some (some (.int i))
 ps:∀ C,∀ f∈flds C,sa W.K (W.ad C) (fnm f)=true
 pm:∀ p∈meT,me W.K (W.ad p.1) p.2.1=some (W.am p.1 p.2.2)
 cl:∀ p∈mkT,mkOk W.K (W.ad p.1) (W.am p.1 p.2)=true
 ni:∀ C,(flds C).isEmpty=false→noIsi W.K (W.ad C)=true
 is:isIn W.K (.ref (W.ad 28)) (W.ad 28)=true
noncomputable def Sm (W:Wo)(n:Nat)(f:Nat)(H:List OB)(qs:List QV)(r:Rs):Prop:=∀(V:View)(R:Rt)(as:List AV),Core W V R H→(∀ b o,V b=some o→R.F b=some o∨∃ i,R.τ b=some i)→QRs W R qs as →
 Call W n (.ref (fAd W f)) as V (fun a V'=>∃ q Ho R',r=.ok q Ho∧Core W V' R' Ho∧RLe R R'∧QR W R' q a) fun V'=>r=.ovf∧Le R.F V'
structure Fx where
 W:Wo
 P:Px
 kd:Str→Option NameKind
 n:Nat
 cl:Str→Option Addr
 env:Env
 A:Around
 fs:List Addr
 O:Heap
 E:Value→Shared→Prop
 F0:View
 w0:List Addr
 C0:View
 bok:Bok W A fs O env n
 eok:EnvOk { W:=W,n:=n,kd:=kd,cl:=cl } env
 ext:∀(m:Mp)(V:View)(v:Value)(s:Shared)(stk:List Env),A.frames=some stk→XF W stk fs O env.locals m V v s→P.X→Le F0 V→E v s
 inj:∀ x y a,cl x=some a→cl y=some a→x=y
 clk:∀ x,isCl kd x=true→∃ a,cl x=some a
 snd:∀ f H as r,P.G.at f H as r→Sm W n f H as r
 pf:PF W
noncomputable abbrev Fx.c (C:Fx):Cf:={ W:=C.W,n:=C.n,kd:=C.kd,cl:=C.cl }
noncomputable abbrev Sk:=List (QV×Value)
structure Fs where
 W:Wo
 kd:Str→Option NameKind
 cl:Str→Option Addr
noncomputable abbrev Fx.b (C:Fx):Fs:=⟨C.W,C.kd,C.cl⟩
inductive NmR (C:Fs)(m:Mp)(V:View)(R:Rt)(x:Str)(q:QV):Prop
 | loc (a:AV) (k:C.kd x=some .local) (h:m x=some a) (r:QR C.W R q a)
 | cel (a:AV) (b:Addr) (k:C.kd x=some .cell∨C.kd x=some .free) (h:C.cl x=some b) (e:V b=some (.cell (some a))) (r:QR C.W R q a)
structure Mv (V:View)(R:Rt)(V':View)(R':Rt):Prop where
 le:RLe R R'
 ce:∀ a o,V a=some (.cell o)→V' a=some (.cell o)
structure Side (C:Fs)(F0:View)(w0:List Addr)(C0:View)(ρ:En)(k:Sk)(m:Mp)(V:View)(R:Rt):Prop where
 nm:∀ x q,lk ρ x=some q→x<nmL.length∧NmR C m V R (nmG x) q
 sk:∀ p∈k,QR C.W R p.1 (er p.2)
 f0:Le F0 R.F
 w0:∀(j:Nat)(y:Addr),w0[j]?=some y→R.w[j]?=some y
 ce:∀ x a,C.cl x=some a→∃ o,V a=some (.cell o)
 c0:∀ a v,C0 a=some (.cell v)→V a=some (.cell v)
structure Op (C:Fx)(ρ:En)(H:List OB)(k:Sk)(s:Shared)(R:Rt)(V:View)(m:Mp):Prop where
 f:SF C.W C.fs C.O C.env.locals m V s
 c:Core C.W V R H
 d:Side C.b C.F0 C.w0 C.C0 ρ k m V R
inductive St (C:Fx)(ρ:En)(H:List OB)(k:Sk)(s:Shared):Prop
 | mk (R:Rt) (V:View) (m:Mp) (o:Op C ρ H k s R V m)
noncomputable def Wp (C:Fx){α:Type}(t:Sem α)(Q:α→Shared→Prop)(s:Shared):Prop:=wpAny (model C.W.prog C.W.w) C.A t Q C.E s
inductive Pst (C:Fx)(ρ:En)(k:Sk)(K:KQ)(v:Value)(s:Shared):Prop
 | mk (H:List OB) (q:QV) (h:K H q) (st:St C ρ H ((q,v)::k) s)
inductive Tst (C:Fx)(ρ:En)(k:Sk)(K:Bool→List OB→Prop)(b:Bool)(s:Shared):Prop
 | mk (H:List OB) (h:K b H) (st:St C ρ H k s)
inductive Lst (C:Fx)(ρ:En)(k:Sk)(K:List OB→List QV→Prop)(vs:List Value)(s:Shared):Prop
 | mk (H:List OB) (l:Sk) (h:K H (l.map (·.1))) (e:vs=l.map (·.2)) (st:St C ρ H (l++k) s)
section
variable {C:Fx} {ρ:En} {H H':List OB} {k k':Sk} {s:Shared} {V V':View} {R R' R2:Rt} {m m':Mp}
theorem NmR.mv {C:Fs}{x:Str}{q:QV}(h:Mv V R V' R')(n:NmR C m V R x q):NmR C m V' R' x q:=by
 rcases n with ⟨a,k,e,r⟩|⟨a,b,k,g,e,r⟩
 ·exact .loc a k e (r.mono h.le)
 ·exact .cel a b k g (h.ce b _ e) (r.mono h.le)
theorem Side.mv {C:Fs}{F0 C0:View}{w0:List Addr}(d:Side C F0 w0 C0 ρ k m V R)(h:Mv V R V' R'):Side C F0 w0 C0 ρ k m V' R' :=
 ⟨fun x q e=>⟨(d.nm x q e).1,(d.nm x q e).2.mv h⟩,fun p hp=>(d.sk p hp).mono h.le,d.f0.trans h.le.f,fun j y e=>h.le.w j y (d.w0 j y e),fun x a e=>(by obtain ⟨o,g⟩:=d.ce x a e; exact ⟨o,h.ce a _ g⟩),fun a v e=>h.ce a v (d.c0 a v e)⟩
theorem Side.skm {C:Fs}{F0 C0:View}{w0:List Addr}(d:Side C F0 w0 C0 ρ k m V R)(h:∀ p∈k',QR C.W R p.1 (er p.2)):Side C F0 w0 C0 ρ k' m V R:=⟨d.nm,h,d.f0,d.w0,d.ce,d.c0⟩
theorem St.sub (st:St C ρ H k s)(h:∀ p∈k',p∈k):St C ρ H k' s:=st.rec fun R V m o=>⟨R,V,m,o.f,o.c,o.d.skm fun p hp=>o.d.sk p (h p hp)⟩
theorem St.drop {p:QV×Value}(st:St C ρ H (p::k) s):St C ρ H k s:=st.sub fun zz h=>.tail _ h
theorem St.tok (st:St C ρ H k s)(t:Nat):St C ρ H k { s with toks:=t }:=st.rec fun R V m o=>⟨R,V,m,o.f.tok t,o.c,o.d⟩
theorem St.grown (st:St C ρ H k s){h':Heap}{t:Nat}(g:∀ b o,s.heap.get? b=some o→h'.get? b=some o):St C ρ H k { s with heap:=h',toks:=t }:=st.rec fun R V m o=>⟨R,V,m,o.f.grown g,o.c,o.d⟩
theorem Side.push {C:Fs}{F0 C0:View}{w0:List Addr}(d:Side C F0 w0 C0 ρ k m V R){q:QV}{v:Value}(h:QR C.W R q (er v)):Side C F0 w0 C0 ρ ((q,v)::k) m V R:=d.skm fun p hp=>by
 cases hp with
 | head=>exact h
 | tail _ hp=>exact d.sk p hp
theorem St.con (st:St C ρ H k s){v:PV}{x:Value}(h:∀ F,Rel C.W F v (er x)):St C ρ H ((.fr v,x)::k) s:=st.rec fun R V m o=>⟨R,V,m,o.f,o.c,o.d.push (h R.F)⟩
theorem St.conT (st:St C ρ H k s){v:PV}{x:Value}{t:Nat}{K:KQ}(q:K H (.fr v))(h:∀ F,Rel C.W F v (er x)):Pst C ρ k K x { s with toks:=t }:=⟨H,_,q,(st.tok t).con h⟩
theorem Op.new (o:Op C ρ H k s R V m){h':Heap}{t:Nat}{x:Addr}{ob:OB}(f:SF C.W C.fs C.O C.env.locals m V' { s with heap:=h',toks:=t })(hV:Le V V')(hc:∀ b v,V b=none→V' b≠some (.cell v))(hr:RLe R (R.new V V' x)→RootR C.W V' (R.new V V' x) R.w.length x ob) :
  St C ρ (H++[ob]) ((.own H.length,.ref x)::k) { s with heap:=h',toks:=t } :=
 have ⟨c,l⟩:=o.c.new hV hc (o.c.wl▸hr)
 ⟨_,V',m,f,c,(o.d.mv ⟨l,fun a o e=>hV a _ e⟩).push ⟨x,(congrArg (fun n=>(R.w++[x])[n]?) o.c.wl.symm).trans List.getElem?_concat_length,rfl⟩⟩
theorem cell_put {a:Addr}{o:AO}(ho:∀ v,o≠.cell v)(b:Addr)(v:Option AV)(e:V b=none):put V a o b≠some (.cell v):=by
 by_cases q:b=a
 ·rw [q,put_self]; exact fun z=>ho v (Option.some.inj z)
 ·rw [put_ne _ _ q,e]; exact fun z=>by injection z
theorem Op.newL (o:Op C ρ H k s R V m){h':Heap}{t:Nat}{a:Addr}{vs:List Value}{n:Nat}{xs:List PV}(g:∀ b o,s.heap.get? b=some o→h'.get? b=some o)(ha:s.heap.get? a=none)
  (hob:h'.get? a=some { cls:=.type "list",data:=.seq (List.toArray vs) n }) (hl:vs.length≤1000) (r:Rels C.W R.F xs (vs.map er)):St C ρ (H++[.lst xs]) ((.own H.length,.ref a)::k) { s with heap:=h',toks:=t } :=
 o.new (o.f.add g ha hob (o:=.list (vs.map er)) ⟨vs,n,rfl,rfl⟩) (Le.put' (view_none o.f.toSC ha)) (cell_put fun zz q=>by injection q) fun l=>⟨_,put_self _ _ _,new_new (view_none o.f.toSC ha) (put_self _ _ _),by rw [List.length_map]; exact hl,Rels.mono l.f xs _ r⟩
theorem Op.newTo (o:Op C ρ H k s R V m){h':Heap}{t:Nat}{a:Addr}{vs:List Value}{n:Nat}{qs:List QV}(g:∀ b o,s.heap.get? b=some o→h'.get? b=some o)(ha:s.heap.get? a=none)
  (hob:h'.get? a=some { cls:=.type "tuple",data:=.seq (List.toArray vs) n }) (hl:vs.length≤1000) (r:QRs C.W R qs (vs.map er)):St C ρ (H++[.tup qs]) ((.own H.length,.ref a)::k) { s with heap:=h',toks:=t } :=
 o.new (o.f.add g ha hob (o:=.tup (vs.map er)) ⟨vs,n,rfl,rfl⟩) (Le.put' (view_none o.f.toSC ha)) (cell_put fun zz q=>by injection q) fun l=>⟨_,put_self _ _ _,new_new (view_none o.f.toSC ha) (put_self _ _ _),by rw [List.length_map]; exact hl,QRs.mono l qs _ r⟩
theorem Op.newT (o:Op C ρ H k s R V m){h':Heap}{t:Nat}{a:Addr}{vs:List Value}{n:Nat}{xs:List PV}(g:∀ b o,s.heap.get? b=some o→h'.get? b=some o)(ha:s.heap.get? a=none)
  (hob:h'.get? a=some { cls:=.type "tuple",data:=.seq (List.toArray vs) n }) (hl:vs.length≤1000) (r:Rels C.W R.F xs (vs.map er)):St C ρ H ((.fr (.tup xs),.ref a)::k) { s with heap:=h',toks:=t } :=
 have hv:=view_none o.f.toSC ha
 have ⟨c,l⟩:=o.c.fro (o:=.tup (vs.map er)) hv fun zz q=>by injection q
 ⟨_,_,m,o.f.add g ha hob (o:=.tup (vs.map er)) ⟨vs,n,rfl,rfl⟩,c,(o.d.mv ⟨l,fun b zz e=>Le.put' hv b _ e⟩).push ⟨a,vs.map er,rfl,put_self _ _ _,by rw [List.length_map]; exact hl,Rels.mono l.f xs _ r⟩⟩
theorem Wp.mono {α:Type}{t:Sem α}{Q Q':α→Shared→Prop}(h:Wp C t Q s)(g:∀ a s,Q a s→Q' a s):Wp C t Q' s:=wpAny_mono h g fun zz zz x=>x
theorem Wp.bind {α β:Type}{t:Sem α}{f:α→Sem β}{Q:α→Shared→Prop}{Q':β→Shared→Prop}(h:Wp C t Q s)(g:∀ a s,Q a s→Wp C (f a) Q' s):Wp C (t >>= f) Q' s:=wpAny_bind (h.mono g)
theorem Wp.pure {α:Type}{a:α}{Q:α→Shared→Prop}(h:Q a s):Wp C (Pure.pure a) Q s:=wpAny_pure h
theorem Wp.hold {α:Type}{vs:List Value}{t:Sem α}{Q:α→Shared→Prop}(h:Wp C t Q s):Wp C (holding vs t) Q s:=wpAny_holding h
theorem Wp.at {α:Type}{p:Pos}{t:Sem α}{Q:α→Shared→Prop}(h:Wp C t Q s):Wp C (standAt p >>= fun zz=>t) Q s:=wpAny_bind (wpAny_standAt h)
theorem Wp.op {vs:List Value}{t:Sem Value}{Q:Value→Shared→Prop}(h:Wp C t Q s):Wp C (operate vs t) Q s:=PyProof.Rows.wpAny_operate' h
theorem Wp.rel {α:Type}{vs ks:List Value}{t:Sem α}{Q:α→Shared→Prop}(h:Wp C t Q s):Wp C (release vs ks >>= fun zz=>t) Q s:=wpAny_bind (PyProof.Rows.wpAny_release' h)
theorem Wp.v {β:Type}{t:Sem Value}{f:Value→Sem β}{K:KQ}{Q:β→Shared→Prop}(h:Wp C t (Pst C ρ k K) s)(g:∀ H q v s,K H q→St C ρ H ((q,v)::k) s→Wp C (f v) Q s):Wp C (t >>= f) Q s :=
 h.bind fun v s p=>p.rec fun H q h st=>g H q v s h st
theorem Wp.t {β:Type}{t:Sem Bool}{f:Bool→Sem β}{K:Bool→List OB→Prop}{Q:β→Shared→Prop}(h:Wp C t (Tst C ρ k K) s)(g:∀ H b s,K b H→St C ρ H k s→Wp C (f b) Q s):Wp C (t >>= f) Q s :=
 h.bind fun b s p=>p.rec fun H h st=>g H b s h st
theorem Wp.l {β:Type}{t:Sem (List Value)}{f:List Value→Sem β}{K:List OB→List QV→Prop}{Q:β→Shared→Prop}(h:Wp C t (Lst C ρ k K) s)(g:∀ H l s,K H (l.map (·.1))→St C ρ H (l++k) s→Wp C (f (l.map (·.2))) Q s):Wp C (t >>= f) Q s :=
 h.bind fun vs s p=>p.rec fun H l h e st=>by rw [e]; exact g H l s h st
theorem opB_of {α:Type}{o:Option α}{Q:α→Prop}(h:opB o Q):∃ a,o=some a∧Q a:=by
 rcases o with _|⟨a⟩
 ·exact h.elim
 ·exact ⟨a,rfl,h⟩
theorem ifB_of {b:Bool}{P:Prop}(h:ifB b P):b=true∧P:=by
 rcases b with _|_
 ·exact h.elim
 ·exact ⟨rfl,h⟩
end
inductive FrzR (W:Wo)(V:View)(R:Rt){α:Type}(rel:View→α→Prop)(K:List OB→α→Prop):Prop
 | mk (H':List OB) (v:α) (R':Rt) (h:K H' v) (c:Core W V R' H') (l:RLe R R') (kp:∀ b i o,V b=some o→R.τ b=some i→R'.τ b=some i∨R'.F b=some o) (r:rel R'.F v)
section
variable {W:Wo} {V:View} {R R':Rt} {H:List OB}
theorem FrzR.pre {α:Type}{rel:View→α→Prop}{K:List OB→α→Prop}(l:RLe R R')(kp:∀ b i o,V b=some o→R.τ b=some i→R'.τ b=some i∨R'.F b=some o)(h:FrzR W V R' rel K):FrzR W V R rel K :=
 h.rec fun H v R2 h c l2 kp2 r=>⟨H,v,R2,h,c,l.trans l2,fun b i o e t=>(kp b i o e t).elim (kp2 b i o e) fun g=>.inr (l2.f b o g),r⟩
theorem FrzR.now (c:Core W V R H){i:Nat}{x:Addr}{v:PV}{K:List OB→PV→Prop}(hx:R.w[i]?=some x)(hr:RLe R (R.frz V i)→Rel W (R.frz V i).F v (.ref x))(h:K (H.set i (.fz v)) v):FrzR W V R (fun F v=>Rel W F v (.ref x)) K :=
 have hi:i<H.length:=by rw [← c.wl]; exact (List.getElem?_eq_some_iff.mp hx).1
 have ⟨c',l⟩:=c.frz (List.getElem?_eq_getElem hi) hx hr
 ⟨_,v,_,h,c',l,fun b j o e t=>by
  by_cases q:j=i
  ·subst q; exact .inr ((frz_own t).trans e)
  ·exact .inl ((if_neg (by rw [t]; exact fun z=>q (Option.some.inj z))).trans t),hr l⟩
theorem frz_at {i:Nat}{b:Addr}{o:AO}(e:V b=some o)(h:R.τ b=some i∨R.F b=some o):(R.frz V i).F b=some o:=by
 show (if R.τ b=some i then V b else R.F b)=some o
 by_cases t:R.τ b=some i
 ·rw [if_pos t,e]
 ·rw [if_neg t]; exact h.resolve_left t
theorem frzQs_ok {g:List OB→Nat→(List OB→PV→Prop)→Prop}(ih:∀{R:Rt}{H:List OB}{i:Nat}{x:Addr}{K:List OB→PV→Prop},g H i K→Core W V R H→R.w[i]?=some x→FrzR W V R (fun F v=>Rel W F v (.ref x)) K) :
  ∀(qs:List QV){R:Rt}{H:List OB}{as:List AV}{K:List OB→List PV→Prop},frzQs g H qs K→Core W V R H→QRs W R qs as→FrzR W V R (fun F vs=>Rels W F vs as) K
 | [],R,H,as,K,h,c,r=>⟨H,[],R,h,c,.refl R,fun zz zz zz zz t=>.inl t,r⟩
 | .fr v::qs,R,H,_,K,h,c,hz7=>by
  obtain ⟨a,as,rfl,r1,r2⟩:=hz7
  exact
  (frzQs_ok ih qs (K:=fun H vs=>K H (v::vs)) h c r2).rec fun H vs R' h c l kp r=>⟨H,v::vs,R',h,c,l,kp,a,as,rfl,Rel.mono l.f v a r1,r⟩
 | .own i::qs,R,H,_,K,h,c,hz7=>by
  obtain ⟨_,as,rfl,⟨x,hx,rfl⟩,r2⟩:=hz7
  exact
  (ih h c hx).rec fun H v R1 h c l kp r=>.pre l kp ((frzQs_ok ih qs (K:=fun H vs=>K H (v::vs)) h c (QRs.mono l qs as r2)).rec fun H vs R' h c l kp r'=>⟨H,v::vs,R',h,c,l,kp,_,as,rfl,Rel.mono l.f v _ r,r'⟩)
theorem frzI_ok:∀(n:Nat){R:Rt}{H:List OB}{i:Nat}{x:Addr}{K:List OB→PV→Prop},frzI n H i K→Core W V R H→R.w[i]?=some x→FrzR W V R (fun F v=>Rel W F v (.ref x)) K
 | 0,_,_,_,_,_,h,_,_=>h.elim
 | n+1,R,H,i,x,K,h,c,hx=>by
  obtain ⟨o,ho,h⟩:=opB_of h
  have rt:=c.rt i x o hx ho
  rcases o with ⟨v⟩|⟨xs⟩|⟨Cn,qs⟩|⟨qs⟩|⟨qs⟩
  ·exact ⟨H,v,R,h,c,.refl R,fun zz zz zz zz t=>.inl t,rt⟩
  ·obtain ⟨as,h1,t,hn,r⟩:=rt
   exact .now (v:=.lst xs) c hx (fun l=>⟨x,as,rfl,frz_at h1 (.inl t),hn,Rels.mono l.f xs as r⟩) h
  ·obtain ⟨d,as,h1,t,g,u,r⟩:=rt
   exact (frzQs_ok (fun {R H i x K}=>frzI_ok n) qs h c r).rec fun H vs R1 h c l kp r=>.pre l kp (.now (v:=.obj Cn vs) c (l.w i x hx) (fun l2=>⟨x,d,as,rfl,frz_at h1 (kp _ _ _ h1 t),frz_at g (kp _ _ _ g u),Rels.mono l2.f vs as r⟩) h)
  ·obtain ⟨as,h1,t,hn,r⟩:=rt
   exact (frzQs_ok (fun {R H i x K}=>frzI_ok n) qs h c r).rec fun H vs R1 h c l kp r=>.pre l kp (.now (v:=.tup vs) c (l.w i x hx) (fun l2=>⟨x,as,rfl,frz_at h1 (kp _ _ _ h1 t),hn,Rels.mono l2.f vs as r⟩) h)
  ·obtain ⟨as,h1,t,hn,r⟩:=rt
   exact (frzQs_ok (fun {R H i x K}=>frzI_ok n) qs h c r).rec fun H vs R1 h c l kp r=>.pre l kp (.now (v:=.lst vs) c (l.w i x hx) (fun l2=>⟨x,as,rfl,frz_at h1 (kp _ _ _ h1 t),hn,Rels.mono l2.f vs as r⟩) h)
end
section
variable {C:Fx} {ρ:En} {H:List OB} {k:Sk} {s:Shared}
theorem frzQ_ok {W:Wo}{V:View}{R:Rt}{q:QV}{a:AV}{K:List OB→PV→Prop}(h:frz H q K)(c:Core W V R H)(r:QR W R q a):FrzR W V R (fun F v=>Rel W F v a) K:=by
 rcases q with ⟨v⟩|⟨i⟩
 ·exact ⟨H,v,R,h,c,.refl R,fun zz zz zz zz t=>.inl t,r⟩
 ·obtain ⟨x,hx,rfl⟩:=r; exact frzI_ok 4 h c hx
theorem Wp.f {β:Type}{t:Sem Value}{f:Value→Sem β}{K:List OB→PV→Prop}{Q:β→Shared→Prop}(h:Wp C t (Pst C ρ k fun H q=>frz H q K) s)(g:∀ H v x s,K H v→St C ρ H ((.fr v,x)::k) s→Wp C (f x) Q s):Wp C (t >>= f) Q s :=
 h.v fun H q x s h ⟨R,V,m,o⟩=>(frzQ_ok h o.c (o.d.sk _ (.head _))).rec fun H' v R' h c l kp r=>g H' v x s h ⟨R',V,m,o.f,c,((o.d.mv ⟨l,fun zz zz e=>e⟩).skm fun p hp=>(o.d.sk p (.tail _ hp)).mono l).push r⟩
theorem Sk.rs {C:Fx}{R:Rt}:∀{l:Sk},(∀ p∈l,QR C.W R p.1 (er p.2))→QRs C.W R (l.map (·.1)) ((l.map (·.2)).map er)
 | [],_=>rfl
 | p::l,h=>⟨_,_,rfl,h p (.head _),Sk.rs fun q hq=>h q (.tail _ hq)⟩
theorem St.frzs {l:Sk}(st:St C ρ H (l++k) s){K:List OB→List PV→Prop}{G:Prop}(h:frzQs (frzI 4) H (l.map (·.1)) K)(g:∀ H vs R V m,K H vs→Op C ρ H k s R V m→Rels C.W R.F vs ((l.map (·.2)).map er)→G):G :=
 st.rec fun R V m o=>(frzQs_ok (fun {R H i x K}=>frzI_ok 4) _ h o.c (Sk.rs fun p hp=>o.d.sk p (List.mem_append_left _ hp))).rec fun H' vs R' h c l kp r=>g H' vs R' V m h ⟨o.f,c,(o.d.skm fun p hp=>o.d.sk p (List.mem_append_right _ hp)).mv ⟨l,fun zz zz e=>e⟩⟩ r
end
inductive SqO (W:Wo)(F:View)(cl:String)(h:Heap)(xs:List PV)(v:Value):Prop
 | mk (l:Addr) (vs:List Value) (n:Nat) (e:v=.ref l) (g:h.get? l=some { cls:=.type cl,data:=.seq (List.toArray vs) n }) (z:vs.length≤1000) (r:Rels W F xs (vs.map er))
section
variable {C:Fx} {ρ:En} {H:List OB} {k:Sk} {s:Shared} {R:Rt} {V:View} {m:Mp} {K:KQ}
theorem Op.ls (o:Op C ρ H k s R V m){xs:List PV}{v:Value}(h:Rel C.W R.F (.lst xs) (er v)):SqO C.W R.F "list" s.heap xs v:=by
 refine cp fun kk=>?_
 obtain ⟨l,as,e,h,n,r⟩:=h
 obtain ⟨vs,c,g,rfl⟩:=ls_obj o.f (o.c.le _ _ h)
 refine kk ?_
 exact ⟨l,vs,c,er_ref e,g,by rwa [List.length_map] at n,r⟩
theorem Op.tp (o:Op C ρ H k s R V m){xs:List PV}{v:Value}(h:Rel C.W R.F (.tup xs) (er v)):SqO C.W R.F "tuple" s.heap xs v:=by
 refine cp fun kk=>?_
 obtain ⟨l,as,e,h,n,r⟩:=h
 obtain ⟨vs,c,g,rfl⟩:=tp_obj o.f (o.c.le _ _ h)
 refine kk ?_
 exact ⟨l,vs,c,er_ref e,g,by rwa [List.length_map] at n,r⟩
theorem Rels.append {W:Wo}{F:View}:∀{xs ys:List PV}{as bs:List AV},Rels W F xs as→Rels W F ys bs→Rels W F (xs++ys) (as++bs)
 | [],z1,as,z2,h,g=>by rw [show as=[] from h]; exact g
 | z1::z2,z3,z4,z5,hz4,g=>by
  obtain ⟨a,r,rfl,h,t⟩:=hz4
  exact ⟨a,_,rfl,h,t.append g⟩
theorem Rels.len {W:Wo}{F:View}:∀{xs:List PV}{as:List AV},Rels W F xs as→xs.length=as.length
 | [],as,h=>by rw [show as=[] from h]; rfl
 | z1::z2,z3,hz2=>by
  obtain ⟨a,r,rfl,h,t⟩:=hz2
  exact congrArg (·+1) t.len
theorem small_line {n:Nat}(h:n≤1000):n≤sizeLine:=Nat.le_trans h (by rw [sizeLine_eq]; omega)
theorem SqO.len {W:Wo}{F:View}{xs:List PV}{vs:List Value}(r:Rels W F xs (vs.map er)):xs.length=vs.length:=r.len.trans (List.length_map _)
theorem app_small {W:Wo}{F:View}{xs ys:List PV}{vs ws:List Value}(r:Rels W F xs (vs.map er))(t:Rels W F ys (ws.map er))(h:small (xs++ys)):(vs++ws).length≤1000:=by
 rw [List.length_append,← SqO.len r,← SqO.len t,← List.length_append]; exact h
theorem size_arr {vs ws:List Value}(h:(vs++ws).length≤1000):vs.toArray.size+ws.toArray.size≤sizeLine:=by
 rw [List.size_toArray,List.size_toArray,← List.length_append]; exact small_line h
theorem app_rel {W:Wo}{F:View}{xs ys:List PV}{vs ws:List Value}(r:Rels W F xs (vs.map er))(t:Rels W F ys (ws.map er)):Rels W F (xs++ys) ((vs++ws).map er):=by rw [List.map_append]; exact r.append t
theorem arr_app (vs ws:List Value):vs.toArray++ws.toArray=(vs++ws).toArray:=by simp
theorem arr_nil {W:Wo}{F:View}{xs:List PV}{vs:List Value}(r:Rels W F xs (vs.map er))(h:xs≠[]):¬ vs.toArray.isEmpty=true:=by
 rcases vs with _|⟨v,vs⟩
 ·exact absurd (List.length_eq_zero_iff.mp (SqO.len r)) h
 ·exact Bool.false_ne_true
theorem Op.pushL (o:Op C ρ H k s R V m){t:Nat}{vs:List Value}{n:Nat}{xs:List PV}(hl:vs.length≤1000)(r:Rels C.W R.F xs (vs.map er))(q:Mine.Internal.newL H xs K):Pst C ρ k K (.ref s.heap.objs.size) { s with heap:=s.heap.push { cls:=.type "list",data:=.seq (List.toArray vs) n },toks:=t } :=
 ⟨_,_,q,o.newL (fun b o e=>Heap.get?_push_of_some _ e) (get_size _) (Heap.get?_push_size _ rfl) hl r⟩
theorem Op.pushT (o:Op C ρ H k s R V m){t:Nat}{vs:List Value}{n:Nat}{xs:List PV}(hl:vs.length≤1000)(r:Rels C.W R.F xs (vs.map er))(q:K H (.fr (.tup xs))):Pst C ρ k K (.ref s.heap.objs.size) { s with heap:=s.heap.push { cls:=.type "tuple",data:=.seq (List.toArray vs) n },toks:=t } :=
 ⟨_,_,q,o.newT (fun b o e=>Heap.get?_push_of_some _ e) (get_size _) (Heap.get?_push_size _ rfl) hl r⟩
theorem Op.less (o:Op C ρ H k s R V m){k':Sk}(h:∀ p∈k',p∈k):Op C ρ H k' s R V m:=⟨o.f,o.c,o.d.skm fun p hp=>o.d.sk p (h p hp)⟩
theorem Op.st (o:Op C ρ H k s R V m):St C ρ H k s:=⟨R,V,m,o⟩
theorem in2 {p q:QV×Value}:∀ x∈k,x∈p::q::k:=fun zz h=>.tail _ (.tail _ h)
theorem in1 {p:QV×Value}:∀ x∈k,x∈p::k:=fun zz h=>.tail _ h
theorem q_ari (st:St C ρ H k s){x y:Int}{t u:Tok}:∀(o:BO),ariQ H K x y o→Wp C (binaryOp (boOp o) (.int x t) (.int y u)) (Pst C ρ k K) s
 | .add,h=>P.add_int (st.conT h fun zz=>rfl)
 | .sub,h=>P.sub_int (st.conT h fun zz=>rfl)
 | .mul,h=>AutoIntOps.mul_0 (st.conT h.2 fun zz=>rfl) (h.1.elim (fun q=>.of_left (small_bits q)) fun q=>.of_right (small_bits q))
 | .fdv,h=>AutoIntOps.floordiv_1 (by simpa using h.1) (not_pylong h.2.1) (st.conT h.2.2 fun zz=>rfl)
 | .mod,h=>AutoIntOps.mod_1 (by simpa using h.1) (st.conT h.2 fun zz=>rfl)
 | .pow,hz1=>by
  obtain ⟨g,h⟩:=hz1
  rcases g with ⟨rfl,rfl⟩|⟨rfl,rfl⟩
  ·exact pow18 fun zz=>st.conT h fun zz=>rfl
  ·exact pow30 fun zz=>st.conT h fun zz=>rfl
theorem q_addL {a b:Value}{xs ys:List PV}(o:Op C ρ H k s R V m)(h1:SqO C.W R.F "list" s.heap xs a)(h2:SqO C.W R.F "list" s.heap ys b)(hz:small (xs++ys))(q:newL H (xs++ys) K):Wp C (binaryOp .Add a b) (Pst C ρ k K) s:=by
 obtain ⟨la,vs,n,rfl,g1,z1,r1⟩:=h1
 obtain ⟨lb,ws,n',rfl,g2,z2,r2⟩:=h2
 have z:=app_small r1 r2 hz
 refine concat_meets ⟨_,g1,rfl⟩ ⟨_,g2,rfl⟩ noFill_list_add seq_list_add PySem.F.slot_list_add PySem.F.entry_list_add (PySem.F.args_list_add_2 _ _) (list_addW _ _ vs.toArray ws.toArray n n' _ _ _ _ (size_arr z)) ⟨g1,g2,?_⟩
 rw [arr_app]
 exact o.pushL (t:=s.toks) z (app_rel r1 r2) q
theorem q_addT {a b:Value}{xs ys:List PV}(o:Op C ρ H k s R V m)(h1:SqO C.W R.F "tuple" s.heap xs a)(h2:SqO C.W R.F "tuple" s.heap ys b)(h:addT H K xs ys .add):Wp C (binaryOp .Add a b) (Pst C ρ k K) s:=by
 obtain ⟨la,vs,n,rfl,g1,z1,r1⟩:=h1
 obtain ⟨lb,ws,n',rfl,g2,z2,r2⟩:=h2
 have z:=app_small r1 r2 h.2.2.1
 refine concat_meets ⟨_,g1,rfl⟩ ⟨_,g2,rfl⟩ noFill_tuple_add seq_tuple_add PySem.F.slot_tuple_add PySem.F.entry_tuple_add (PySem.F.args_tuple_add_2 _ _) (tuple_addW2 _ _ vs.toArray ws.toArray n n' _ _ _ _ (arr_nil r1 h.1) (arr_nil r2 h.2.1) (size_arr z)) ⟨g1,g2,?_⟩
 rw [arr_app]
 exact o.pushT (t:=s.toks) z (app_rel r1 r2) h.2.2.2
theorem Rels.flat {W:Wo}{F:View}{xs:List PV}{vs:List Value}(r:Rels W F xs (vs.map er)):∀ n:Nat,Rels W F (List.replicate n xs).flatten ((List.replicate n vs).flatten.map er)
 | 0=>rfl
 | n+1=>by
  rw [List.replicate_succ,List.replicate_succ,List.flatten_cons,List.flatten_cons]
  exact app_rel r (Rels.flat r n)
theorem rep_arith {n:Nat}{k:Int}(h:k.natAbs≤1000)(z:n*k.toNat≤256):n*k.toNat≤1000∧-9223372036854775808≤k∧k<9223372036854775808:=⟨Nat.le_trans z (by decide),Int.le_trans (by decide) (na_bd h).1,Int.lt_of_le_of_lt (na_bd h).2 (by decide)⟩
theorem q_repL {a:Value}{xs:List PV}{y:Int}{u:Tok}(o:Op C ρ H k s R V m)(h1:SqO C.W R.F "list" s.heap xs a)(h:repL H K xs y .mul):Wp C (binaryOp .Mult a (.int y u)) (Pst C ρ k K) s:=by
 refine cp fun kk=>?_
 obtain ⟨la,vs,n,rfl,g1,z1,r1⟩:=h1
 obtain ⟨hk,hz,h⟩:=h
 rw [SqO.len r1] at hz
 have hz2:vs.toArray.size*y.toNat≤256:=hz
 refine kk ?_
 refine wpAny_binaryOp_repeat_ref (T:="list") (U:="int") (by decide) ⟨_,g1,rfl⟩ (fun s'=>typeIs_int s' y u) noFill_list_mul F.fills_int_mul F.slot_int_rmul repeat_list F.slot_int_index.lookup
  (call_meets F.slot_int_rmul (typeIs_int s y u) F.entry_int_rmul (F.args_int_rmul_2 _ _) (lm_int_rmul_list_any y u la vs.toArray n _ _)
   ⟨g1,rfl,⟨_,g1,rfl⟩,call_meets F.slot_list_mul ⟨_,g1,rfl⟩ F.entry_list_mul (F.args_list_mul_2 _ _)
    (lm_list_mul_any la vs.toArray n _ _ y u (by simp [Builtin.List.listFitsIndex]; exact ⟨Int.le_trans (by decide) (na_bd hk).1,Int.lt_of_le_of_lt (na_bd hk).2 (by decide)⟩) (by omega) (by simp [Builtin.List.listTooLong,sizeLine]; omega))
    ⟨g1,?_⟩⟩)
 rw [listMul_foldl_if]
 refine o.pushL (t:=s.toks) ?_ (r1.flat y.toNat) h
 rw [List.length_flatten,List.map_replicate,List.sum_replicate_nat,Nat.mul_comm]
 exact (rep_arith hk hz).1
theorem q_bin {a b:Value}{u w:PV}{op:BO}(st:St C ρ H ((.fr w,b)::(.fr u,a)::k) s)(h:binQ H K op u w):Wp C (binaryOp (boOp op) a b) (Pst C ρ k K) s:=by
 obtain ⟨R,V,m,o⟩:=st
 have r1:=o.d.sk _ (.tail _ (.head _))
 have r2:=o.d.sk _ (.head _)
 have o':=o.less in2
 rcases u with _|_|⟨x⟩|⟨xs⟩|⟨xs⟩|_
 ·exact h.elim
 ·exact h.elim
 ·obtain ⟨t,rfl⟩:=er_int r1
  rcases w with _|_|⟨y⟩|_|_|_|_|_
  ·exact h.elim
  ·exact h.elim
  ·obtain ⟨u,rfl⟩:=er_int r2; exact q_ari o'.st op h
  ·exact h.elim
  ·exact h.elim
  ·exact h.elim
  ·exact h.elim
  ·exact h.elim
 ·rcases w with _|_|⟨y⟩|⟨ys⟩|_|_
  ·exact h.elim
  ·exact h.elim
  ·rcases op with _|_|_|_|_|_
   ·exact h.elim
   ·exact h.elim
   ·obtain ⟨u,rfl⟩:=er_int r2; exact q_repL o' (o'.ls r1) h
   ·exact h.elim
   ·exact h.elim
   ·exact h.elim
  ·rcases op with _|_|_|_|_|_
   ·exact q_addL o' (o'.ls r1) (o'.ls r2) h.1 h.2
   ·exact h.elim
   ·exact h.elim
   ·exact h.elim
   ·exact h.elim
   ·exact h.elim
  ·exact h.elim
  ·exact h.elim
 ·cases w with
  | tup ys =>
   cases op with
   | add=>exact q_addT o' (o'.tp r1) (o'.tp r2) h
   | _=>exact h.elim
  | _=>exact h.elim
 ·exact h.elim
end
mutual
noncomputable def pyP:PV→PyData
 | .int i=>.int i
 | .tup ds=>.tuple (pyPs ds)
 | .lst ds=>.list (pyPs ds)
 | .none=>.none
 | .bool z1=>.none
 | .obj z1 z2=>.none
noncomputable def pyPs:List PV→List PyData
 | []=>[]
 | d::ds=>pyP d::pyPs ds
end
theorem lays:∀(n:Nat),(∀ v,Dat n v→(pyP v).canLay0=true∧(pyP v).depth≤n)→∀ xs:List PV,(∀ x∈xs,Dat n x)→PyData.canLayAll0 (pyPs xs)=true∧PyData.depthAll (pyPs xs)≤n
 | n,ih,[],z1=>⟨rfl,Nat.zero_le _⟩
 | n,ih,x::xs,h=>by
  have h1:=ih x (h x (.head _))
  have h2:=lays n ih xs fun y hy=>h y (.tail _ hy)
  exact ⟨by rw [pyPs,PyData.canLayAll0,h1.1,h2.1]; rfl,Nat.max_le.mpr ⟨h1.2,h2.2⟩⟩
theorem lay (n:Nat):∀ v,Dat n v→(pyP v).canLay0=true∧(pyP v).depth≤n:=by
 induction n with
 | zero=>intro v h; cases v <;> first|exact h.elim|exact ⟨rfl,Nat.le_refl _⟩
 | succ n ih =>
  intro v h
  rcases v with _|_|⟨i⟩|⟨xs⟩|⟨xs⟩|_
  ·exact ⟨rfl,Nat.zero_le _⟩
  ·exact h.elim
  ·exact ⟨rfl,Nat.zero_le _⟩
  ·have:=lays n ih xs h; exact ⟨this.1,Nat.succ_le_succ this.2⟩
  ·have:=lays n ih xs h; exact ⟨this.1,Nat.succ_le_succ this.2⟩
  ·exact h.elim
theorem eqvs {n:Nat}(ih:∀ v w,Dat n v→Dat n w→(PyData.eqv (pyP v) (pyP w)=true ↔ v=w)):∀ xs ys:List PV,(∀ x∈xs,Dat n x)→(∀ x∈ys,Dat n x)→(PyData.eqvAll (pyPs xs) (pyPs ys)=true ↔ xs=ys)
 | [],[],z1,z2=>⟨fun zz=>rfl,fun zz=>rfl⟩
 | [],z1::z2,z3,z4=>⟨(fun h=>by injection h),(fun h=>by injection h)⟩
 | z1::z2,[],z3,z4=>⟨(fun h=>by injection h),(fun h=>by injection h)⟩
 | x::xs,y::ys,h,g=>by
  show (PyData.eqv (pyP x) (pyP y)&&PyData.eqvAll (pyPs xs) (pyPs ys))=true ↔ _
  rw [Bool.and_eq_true,ih x y (h x (.head _)) (g y (.head _)),eqvs ih xs ys (fun z hz=>h z (.tail _ hz)) fun z hz=>g z (.tail _ hz)]
  exact ⟨fun ⟨a,b⟩=>by rw [a,b],fun e=>by cases e; exact ⟨rfl,rfl⟩⟩
theorem eqvI (i j:Int):(PyData.eqv (pyP (.int i)) (pyP (.int j))=true ↔ PV.int i=PV.int j):=by
 simp only [pyP,PyData.eqv,beq_iff_eq]
 exact ⟨(fun e=>by rw [e]),(fun e=>by cases e; rfl)⟩
theorem eqv (n:Nat):∀ v w,Dat n v→Dat n w→(PyData.eqv (pyP v) (pyP w)=true ↔ v=w):=by
 induction n with
 | zero =>
  intro v w h g
  cases v <;> first|exact h.elim|(cases w <;> first|exact g.elim|exact ⟨fun zz=>rfl,fun zz=>rfl⟩|exact ⟨(fun h=>by injection h),(fun h=>by injection h)⟩|exact eqvI _ _)
 | succ n ih =>
  intro v w h g
  cases v <;> first|exact h.elim|(cases w <;> first|exact g.elim|exact ⟨fun zz=>rfl,fun zz=>rfl⟩|exact ⟨(fun h=>by cases h),(fun h=>by cases h)⟩|exact eqvI _ _|exact (eqvs ih _ _ h g).trans ⟨(fun e=>by rw [e]),(fun e=>by cases e; rfl)⟩)
section
set_option linter.unusedSectionVars false
variable {W:Wo} {F V:View} {h:Heap} (hv:∀ a o,V a=some o→∃ ob,h.get? a=some ob∧RO ob o) (hF:Le F V)
include hv hF
theorem rdPs {n:Nat}(ih:∀(v:PV)(x:Value),Dat n v→Rel W F v (er x)→∃ as,Reads h x (pyP v) as):∀(vs:List PV)(xs:List Value),(∀ v∈vs,Dat n v)→Rels W F vs (xs.map er)→∃ as,ReadsAll h xs (pyPs vs) as
 | [],xs,z1,r=>by cases xs with
  | nil=>exact ⟨_,.nil⟩
  | cons z1 z2=>injection r
 | v::vs,xs,d,r=>by
  obtain ⟨a,t,e,r1,r2⟩:=r
  rcases xs with _|⟨x,xs⟩
  ·injection e
  ·cases e
   obtain ⟨as,q⟩:=ih v x (d v (.head _)) r1
   obtain ⟨bs,p⟩:=rdPs ih vs xs (fun z hz=>d z (.tail _ hz)) r2
   exact ⟨_,.cons q p⟩
theorem rdP (n:Nat):∀(v:PV)(x:Value),Dat n v→Rel W F v (er x)→∃ as,Reads h x (pyP v) as:=by
 induction n with
 | zero =>
  intro v x d r
  rcases v with _|_|⟨i⟩|_|_|_|_|_
  ·rw [er_none r]; exact ⟨_,Reads.none⟩
  ·exact d.elim
  ·obtain ⟨t,rfl⟩:=er_int r; exact ⟨_,Reads.int i t⟩
  ·exact d.elim
  ·exact d.elim
  ·exact d.elim
  ·exact d.elim
  ·exact d.elim
 | succ n ih =>
  intro v x d r
  rcases v with _|_|⟨i⟩|⟨xs⟩|⟨xs⟩|_
  ·rw [er_none r]; exact ⟨_,Reads.none⟩
  ·exact d.elim
  ·obtain ⟨t,rfl⟩:=er_int r; exact ⟨_,Reads.int i t⟩
  ·refine cp fun kk=>?_
   obtain ⟨l,as,e,g,_,r⟩:=r
   refine kk ?_
   refine (Eq.symm (er_ref e))▸?_
   refine cp fun kk=>?_
   obtain ⟨ob,h1,vs,n,rfl,rfl⟩:=hv _ _ (hF _ _ g)
   obtain ⟨as,q⟩:=rdPs hv hF ih xs vs d r
   refine kk ?_
   exact ⟨_,reads_list_at h1 rfl rfl (q)⟩
  ·refine cp fun kk=>?_
   obtain ⟨l,as,e,g,_,r⟩:=r
   refine kk ?_
   refine (Eq.symm (er_ref e))▸?_
   refine cp fun kk=>?_
   obtain ⟨ob,h1,vs,n,rfl,rfl⟩:=hv _ _ (hF _ _ g)
   obtain ⟨as,q⟩:=rdPs hv hF ih xs vs d r
   refine kk ?_
   exact ⟨as,reads_tuple_at h1 rfl rfl (q)⟩
  ·exact d.elim
end
inductive Bst (C:Fx)(ρ:En)(H:List OB)(k:Sk)(K:Bool→Prop)(v:Value)(s:Shared):Prop
 | mk (r:Bool) (e:v=.bool r) (h:K r) (st:St C ρ H k s)
theorem bne_dec {α:Type}[BEq α][LawfulBEq α][DecidableEq α](a b:α):(a != b)=decide (a≠b):=by rw [Bool.eq_iff_iff]; simp
section
variable {C:Fx} {ρ:En} {H:List OB} {k:Sk} {s:Shared} {R:Rt} {V:View} {m:Mp} {K:Bool→Prop}
theorem St.b (st:St C ρ H k s){r:Bool}(h:K r):Bst C ρ H k K (.bool r) s:=⟨r,rfl,h,st⟩
theorem Bst.v {KK:KQ}{v:Value}(h:Bst C ρ H k (fun b=>conB H b KK) v s):Pst C ρ k KK v s:=h.rec fun r e h st=>⟨H,_,h,st.con fun F=>congrArg er e⟩
theorem Fx.hu (C:Fx):C.A.units+64<cLine:=Nat.lt_of_le_of_lt (Nat.add_le_add_right (Nat.le_add_right _ _) 64) C.bok.units
theorem q_dat {a b:Value}{v w:PV}:∀(op:CO),Op C ρ H k s R V m→Rel C.W R.F v (er a)→Rel C.W R.F w (er b)→datQ v w K op→Wp C (compareOp (coOp op) a b) (Bst C ρ H k K) s:=fun op o r1 r2 ⟨d1,d2,h⟩=>by
 obtain ⟨as,ra⟩:=rdP o.f.view o.c.le 8 v a d1 r1
 obtain ⟨bs,rb⟩:=rdP o.f.view o.c.le 8 w b d2 r2
 have l1:=lay 8 v d1
 have l2:=lay 8 w d2
 have e:=eqv 8 v w d1 d2
 have sh:∀{v:PV},(pyP v).canLay0=true∧(pyP v).depth≤8→SeqAt.shaped (pyP v)=true:=fun l=>by
  unfold SeqAt.shaped; rw [l.1]; simp; lia
 rcases op with _|_|_|_|_|_|_|_
 ·exact eq_dataH ra rb (sh l1) (sh l2) C.hu (o.st.b (h _ e))
 ·exact ne_dataH ra rb (sh l1) (sh l2) C.hu (o.st.b (h _ e))
 ·exact (h _ e).elim
 ·exact (h _ e).elim
 ·exact (h _ e).elim
 ·exact (h _ e).elim
 ·exact (h _ e).elim
 ·exact (h _ e).elim
theorem q_nil {a b:Value}{xs:List PV}:∀ (op:CO),Op C ρ H k s R V m→SqO C.W R.F "list" s.heap xs a→SqO C.W R.F "list" s.heap [] b→eqC K (isNilL xs) op→Wp C (compareOp (coOp op) a b) (Bst C ρ H k K) s:=fun op o ⟨la,vs,n,e1,g1,z1,r1⟩ ⟨lb,ws,n',e2,g2,z2,r2⟩ h=>by
 subst e1 e2
 have hw:ws=[]:=List.length_eq_zero_iff.mp (SqO.len r2).symm
 subst hw
 have hu:=C.hu
 rcases xs with _|⟨x,xs⟩
 ·have hv:vs=[]:=List.length_eq_zero_iff.mp (SqO.len r1).symm
  subst hv
  rcases op with _|_|_|_|_|_|_|_
  ·exact SeqAt.RcAt.lists (e:=fun zz=>true) (isList_obj g1) (isList_obj g2) rfl (by lia) (fun j h1 zz=>absurd h1 (by simp)) _ _ _ _ (o.st.b h)
  ·exact SeqAt.RcNeAt.lists (e:=fun zz=>true) (isList_obj g1) (isList_obj g2) rfl (by lia) (fun j h1 zz=>absurd h1 (by simp)) _ _ _ _ (o.st.b h)
  ·exact h.elim
  ·exact h.elim
  ·exact h.elim
  ·exact h.elim
  ·exact h.elim
  ·exact h.elim
 ·have hv:(vs.toArray.size != (#[]:Array Value).size)=true:=by rw [List.size_toArray,← SqO.len r1]; rfl
  rcases op with _|_|_|_|_|_|_|_
  ·exact SeqAt.RcAt.lists_lengths (isList_obj g1) (isList_obj g2) hv (by lia) _ _ _ _ (o.st.b h)
  ·exact SeqAt.RcNeAt.lists_lengths (isList_obj g1) (isList_obj g2) hv (by lia) _ _ _ _ (o.st.b h)
  ·exact h.elim
  ·exact h.elim
  ·exact h.elim
  ·exact h.elim
  ·exact h.elim
  ·exact h.elim
theorem q_cmpI {x y:Int}{t u:Tok}(st:St C ρ H k s):∀(op:CO),cmpI x y K op→Wp C (compareOp (coOp op) (.int x t) (.int y u)) (Bst C ρ H k K) s
 | .eq,h=>P.eq_int (st.b (by rw [beq_dec]; exact h))
 | .ne,h=>P.ne_int (st.b (by rw [bne_dec]; exact h))
 | .lt,h=>P.lt_int (st.b h)
 | .le,h=>P.le_int (st.b h)
 | .gt,h=>P.gt_int (st.b h)
 | .ge,h=>P.ge_int (st.b h)
theorem q_cmpB {x y:Bool}(st:St C ρ H k s):∀(op:CO),eqC K (decide (x=y)) op→Wp C (compareOp (coOp op) (.bool x) (.bool y)) (Bst C ρ H k K) s
 | .eq,h=>PyProof.Rows.eq_bool (st.b (by rw [beq_dec]; exact h))
 | .ne,h=>PyProof.Rows.ne_bool (st.b (by rw [show (x != y)=!(x == y) from rfl,beq_dec]; exact h))
theorem rel_none {W:Wo}{F:View}{v:PV}{a:Value}(h:Rel W F v (er a)):(a == Value.none)=isNone v:=by
 rcases v with _|⟨b⟩|⟨i⟩|⟨xs⟩|⟨xs⟩|⟨Cn,xs⟩
 ·rw [er_none h]; rfl
 ·rw [er_bool h]; rfl
 ·obtain ⟨t,rfl⟩:=er_int h; rfl
 ·obtain ⟨l,as,e,_⟩:=h; rw [er_ref e]; rfl
 ·obtain ⟨l,as,e,_⟩:=h; rw [er_ref e]; rfl
 ·obtain ⟨l,d,as,e,_⟩:=h; rw [er_ref e]; rfl
theorem q_non {a:Value}{v:PV}(st:St C ρ H k s)(r:(a == Value.none)=isNone v):∀(op:CO),nonQ v K op→Wp C (compareOp (coOp op) a .none) (Bst C ρ H k K) s
 | .isn,h=>PySem.is_none (st.b (by rw [r]; exact h))
 | .nin,h=>PySem.isNot_none (st.b (by rw [r]; exact h))
theorem q_cmp {a b:Value}{u w:PV}{op:CO}(st:St C ρ H ((.fr w,b)::(.fr u,a)::k) s)(h:cmpQ op u w K):Wp C (compareOp (coOp op) a b) (Bst C ρ H k K) s:=by
 obtain ⟨R,V,m,o⟩:=st
 have r1:Rel C.W R.F u (er a):=o.d.sk _ (.tail _ (.head _))
 have r2:Rel C.W R.F w (er b):=o.d.sk _ (.head _)
 have o':=o.less in2
 cases w with
 | none=>rw [er_none r2]; exact q_non o'.st (rel_none r1) op h
 | int y=>cases u with
  | int x=>obtain ⟨t,rfl⟩:=er_int r1; obtain ⟨t',rfl⟩:=er_int r2; exact q_cmpI o'.st op h
  | _=>exact h.elim
 | bool y=>cases u with
  | bool x=>rw [er_bool r1,er_bool r2]; exact q_cmpB o'.st op h
  | _=>exact h.elim
 | lst ys=>cases u with
  | lst xs=>cases ys with
   | nil=>exact q_nil op o' (o'.ls r1) (o'.ls r2) h
   | cons y ys=>exact q_dat op o' r1 r2 h
  | _=>exact h.elim
 | tup ys=>cases u with
  | tup xs=>exact q_dat op o' r1 r2 h
  | _=>exact h.elim
 | obj _ _=>exact h.elim
theorem boolQ_of {q:QV}(h:boolQ q K):∃ b,q=.fr (.bool b)∧K b:=by
 rcases q with ⟨v⟩|⟨i⟩
 ·rcases v with _|⟨b⟩|_|_|_|_|_|_
  ·exact h.elim
  ·exact ⟨b,rfl,h⟩
  ·exact h.elim
  ·exact h.elim
  ·exact h.elim
  ·exact h.elim
  ·exact h.elim
  ·exact h.elim
 ·exact h.elim
theorem St.bool {q:QV}{v:Value}(st:St C ρ H ((q,v)::k) s)(h:boolQ q K):∃ b,v=.bool b∧K b∧St C ρ H k s:=by
 refine cp fun kk=>?_
 obtain ⟨b,rfl,h⟩:=boolQ_of h
 refine kk ?_
 exact ⟨b,st.rec fun R V m o=>er_bool (o.d.sk _ (.head _)),h,st.drop⟩
theorem q_tru {b:Bool}{Q:Bool→Shared→Prop}(h:Q b s):Wp C (truthy (.bool b)) Q s:=wpAny_truthy_bool h
theorem q_not {q:QV}{v:Value}{KK:KQ}(st:St C ρ H ((q,v)::k) s)(h:boolQ q fun b=>conB H (!b) KK):Wp C (unaryOp .Not v) (Pst C ρ k KK) s:=by
 obtain ⟨b,rfl,h,st⟩:=st.bool h
 exact not_value (wpAny_truthy_bool ⟨H,_,h,st.con fun zz=>rfl⟩)
theorem q_neg {u:PV}{v:Value}{KK:KQ}(st:St C ρ H ((.fr u,v)::k) s)(h:intP u fun i=>conI H (-i) KK):Wp C (unaryOp .USub v) (Pst C ρ k KK) s:=by
 have e:∃ i t,v=.int i t∧conI H (-i) KK:=by
  cases u with
  | int i=>exact st.rec fun R V m o=>(by obtain ⟨t,e⟩:=er_int (o.d.sk _ (.head _)); exact ⟨i,t,e,h⟩)
  | _=>exact h.elim
 refine cp fun kk=>?_
 obtain ⟨i,t,rfl,h⟩:=e
 refine kk ?_
 exact P.neg_int (st.drop.conT h fun zz=>rfl)
end
theorem fnm_inj:∀ f<21,∀ g<21,fnm f=fnm g→f=g:=by decide +kernel
theorem flds_of {P:List Nat→Prop}{C:Nat}(h:∀ l∈[28,30,39,40,41,42,43,44,0].map flds,P l):P (flds C):=by
 delta flds
 iterate 8 refine cl_ite (P:=P) (fun _=>h _ (List.mem_of_elem_eq_true rfl)) ?_
 exact h _ (List.mem_of_elem_eq_true rfl)
theorem flds_lt (C:Nat):∀ f∈flds C,f<21:=flds_of (P:=fun l=>∀ f∈l,f<21) (by decide +kernel)
theorem flds_len (C:Nat):(flds C).length≤100:=flds_of (P:=fun l=>l.length≤100) (by decide +kernel)
theorem beq_of {x y:Nat}(h:x.beq y=true):x=y:=Nat.eq_of_beq_eq_true h
theorem beq_self (x:Nat):x.beq x=true:=Nat.beq_refl x
theorem beq_ne {x y:Nat}(h:x.beq y=false):x≠y:=fun e=>by rw [e,beq_self] at h; injection h
theorem sucO_of {o:Option Nat}{i:Nat}(h:sucO o=some i):∃ j,o=some j∧i=j+1:=by
 rcases o with _|⟨j⟩
 ·injection h
 ·exact ⟨j,rfl,(Option.some.inj h).symm⟩
theorem fnd_mem {f:Nat}:∀{l:List Nat}{i:Nat},fnd f l=some i→f∈l
 | [],z1,h=>by injection h
 | y::r,i,h=>by
  unfold fnd at h
  rcases q:f.beq y with _|_
  ·rw [q] at h; obtain ⟨j,e,_⟩:=sucO_of h; exact .tail _ (fnd_mem e)
  ·rw [beq_of q]; exact .head _
theorem zp_lk {f:Nat}(hf:f<21):∀{l:List Nat}(as:List AV){i:Nat},(∀ g∈l,g<21)→fnd f l=some i→lkF (zp l as) (fnm f)=as[i]? ∧
  ∀ v,(i<as.length→putF (fnm f) v (zp l as)=zp l (as.set i v))∧(i=as.length→putF (fnm f) v (zp l as)=zp l (as++[v]))
 | [],as,i,z1,h=>by injection h
 | y::r,as,i,hl,h=>by
  unfold fnd at h
  rcases q:f.beq y with _|_
  ·rw [q] at h
   obtain ⟨j,e,rfl⟩:=sucO_of h
   have hn:fnm f≠fnm y:=fun e=>beq_ne q (fnm_inj f hf y (hl y (.head _)) e)
   rcases as with _|⟨a,as⟩
   ·exact ⟨rfl,fun v=>⟨(fun h=>by cases h),fun h=>by cases h⟩⟩
   ·have ih:=zp_lk hf as (fun g hg=>hl g (.tail _ hg)) e
    exact ⟨(if_neg hn).trans ih.1,fun v=>⟨fun h=>(if_neg hn).trans (congrArg _ ((ih.2 v).1 (Nat.lt_of_succ_lt_succ h))),fun h=>(if_neg hn).trans (congrArg _ ((ih.2 v).2 (Nat.succ.inj h)))⟩⟩
  ·rw [q] at h; obtain rfl:=Option.some.inj h
   have e:=beq_of q
   subst e
   rcases as with _|⟨a,as⟩
   ·exact ⟨rfl,fun v=>⟨(fun h=>by cases h),fun zz=>by cases r <;> rfl⟩⟩
   ·exact ⟨if_pos rfl,fun v=>⟨fun zz=>if_pos rfl,fun h=>by cases h⟩⟩
theorem ix_lk {C f i:Nat}(h:ix C f=some i)(as:List AV):lkF (zp (flds C) as) (fnm f)=as[i]?∧∀ v,(i<as.length→putF (fnm f) v (zp (flds C) as)=zp (flds C) (as.set i v))∧(i=as.length→putF (fnm f) v (zp (flds C) as)=zp (flds C) (as++[v])) :=
 zp_lk (flds_lt C f (fnd_mem h)) as (flds_lt C) h
theorem lk8c {C:Nat}{i:Int}:catK C=some i→fnd 8 (flds C)=none:=by
 delta catK
 iterate 5 refine cl_ite (P:=fun l=>l=some i→fnd 8 (flds C)=none) (fun e _=>by subst e; rfl) ?_
 exact fun h=>(Option.some_ne_none _ h.symm).elim
theorem lk8 {C:Nat}{i:Int}(h:catK C=some i):∀ as:List AV,lkF (zp (flds C) as) (fnm 8)=none:=by
 have key:∀ l:List Nat,fnd 8 l=none→(∀ g∈l,g<21)→∀ as:List AV,lkF (zp l as) (fnm 8)=none:=by
  intro l
  induction l with
  | nil=>intro _ _ as; rfl
  | cons y r ih =>
   intro h hl as
   unfold fnd at h
   rcases q:Nat.beq 8 y with _|_
   ·rw [q] at h
    have hn:fnm 8≠fnm y:=fun e=>beq_ne q (fnm_inj 8 (by decide) y (hl y (.head _)) e)
    rcases as with _|⟨a,as⟩
    ·rfl
    ·refine (if_neg hn).trans (ih ?_ (fun g hg=>hl g (.tail _ hg)) as)
     rcases z:fnd 8 r with _|⟨j⟩
     ·rfl
     ·rw [z] at h; injection h
   ·rw [q] at h; injection h
 exact key _ (lk8c h) (flds_lt C)
theorem zp_len:∀(l:List Nat)(as:List AV),(zp l as).length≤l.length
 | [],z1=>Nat.zero_le _
 | z1::z2,[]=>Nat.zero_le _
 | z1::l,z2::as=>Nat.succ_le_succ (zp_len l as)
section
variable {C:Fx} {ρ:En} {H:List OB} {k:Sk} {s:Shared} {R:Rt} {V:View} {m:Mp} {K:QV→Prop}
theorem Rel.plain {W:Wo}{F:View}{v:PV}{a:AV}(h:Rel W F v a):a.plain=true:=by
 rcases v with _|⟨b⟩|⟨i⟩|⟨xs⟩|⟨xs⟩|⟨Cn,xs⟩
 ·rw [show a=.none from h]; rfl
 ·rw [show a=.bool b from h]; rfl
 ·rw [show a=.int i from h]; rfl
 ·obtain ⟨_,_,rfl,_⟩:=h; rfl
 ·obtain ⟨_,_,rfl,_⟩:=h; rfl
 ·obtain ⟨_,_,_,rfl,_⟩:=h; rfl
theorem QR.plain {W:Wo}{q:QV}{a:AV}(h:QR W R q a):a.plain=true:=by
 rcases q with ⟨v⟩|⟨i⟩
 ·exact Rel.plain h
 ·obtain ⟨x,_,rfl⟩:=h; rfl
theorem QRs.get {W:Wo}:∀{qs:List QV}{as:List AV}{j:Nat}{q:QV},QRs W R qs as→qs[j]?=some q→∃ a,as[j]?=some a∧QR W R q a
 | [],z1,z2,z3,z4,e=>by injection e
 | z1::z2,z3,0,z4,hz4,e=>by
  obtain ⟨a,r,rfl,h,t⟩:=hz4
  obtain rfl:=Option.some.inj e; exact ⟨a,rfl,h⟩
 | z1::z2,z3,j+1,z4,hz4,e=>by
  obtain ⟨a,r,rfl,h,t⟩:=hz4
  exact QRs.get (j:=j) t e
theorem Rels.qs {W:Wo}:∀{vs:List PV}{as:List AV},Rels W R.F vs as→QRs W R (vs.map .fr) as
 | [],z1,h=>h
 | z1::z2,z3,hz2=>by
  obtain ⟨a,r,rfl,h,t⟩:=hz2
  exact ⟨a,r,rfl,h,t.qs⟩
inductive ObA (W:Wo)(V:View)(R:Rt)(Cn:Nat)(qs:List QV)(v:Value):Prop
 | mk (x d:Addr) (as:List AV) (e:v=.ref x) (h:V x=some (.inst (W.ad Cn) d)) (g:V d=some (.dict (zp (flds Cn) as))) (r:QRs W R qs as)
theorem Rel.ob {W:Wo}(l:Le R.F V){Cn:Nat}{vs:List PV}{v:Value}(h:Rel W R.F (.obj Cn vs) (er v)):ObA W V R Cn (vs.map .fr) v :=
 (by obtain ⟨x,d,as,e,h,g,r⟩:=h; exact ⟨x,d,as,er_ref e,l _ _ h,l _ _ g,Rels.qs r⟩)
noncomputable def attA (Cn f:Nat)(qs:List QV)(K:QV→Prop):Prop:=match ix Cn f with
 | some j=>opB qs[j]? K
 | none=>attC Cn f K
theorem attQ_of {q:QV}{v:Value}{f:Nat}(o:Op C ρ H k s R V m)(r:QR C.W R q (er v))(h:attQ H f K q):∃ Cn qs,ObA C.W V R Cn qs v∧attA Cn f qs K:=by
 have fr:∀ u:PV,Rel C.W R.F u (er v)→attV f K u→∃ Cn qs,ObA C.W V R Cn qs v∧attA Cn f qs K:=fun u r h=>by
  cases u with
  | obj Cn vs =>
   refine ⟨Cn,_,Rel.ob o.c.le r,?_⟩
   have h:attP Cn f vs K:=h
   unfold attP at h
   unfold attA
   cases e:ix Cn f with
   | none=>rw [e] at h; exact h
   | some j =>
    rw [e] at h
    refine cp fun kk=>?_
    obtain ⟨u,e,h⟩:=opB_of h
    refine kk ?_
    show opB (vs.map QV.fr)[j]? K
    rw [List.getElem?_map,e]; exact h
  | _=>exact h.elim
 cases q with
 | fr u=>exact fr u r h
 | own i =>
  refine cp fun kk=>?_
  obtain ⟨x,hx,e⟩:=r
  obtain ⟨ob,e1,h⟩:=opB_of h
  have rt:=o.c.rt i x ob hx e1
  refine kk ?_
  cases ob with
  | fz u=>exact fr u (e▸rt) h
  | obj Cn qs=>obtain ⟨d,as,h1,_,h2,_,h3⟩:=rt; exact ⟨Cn,qs,⟨x,d,as,er_ref e,h1,h2,h3⟩,h⟩
  | _=>exact h.elim
theorem q_att {q:QV}{v:Value}{f:Nat}{b:Bool}{K:KQ}(st:St C ρ H ((q,v)::k) s)(h:attQ H f (K H) q):Wp C (getAttr v (fnm f) b) (Pst C ρ k K) s:=by
 obtain ⟨R,V,m,o⟩:=st
 obtain ⟨Cn,qs,⟨x,d,as,rfl,h1,h2,h3⟩,h⟩:=attQ_of o (o.d.sk _ (.head _)) h
 have go:∀ u:Option AV,ca C.W.K (C.W.ad Cn) (fnm f)=some u→(match lkF (zp (flds Cn) as) (fnm f) with
   | some v=>v.plain=true∧∃ q,K H q∧QR C.W R q v
   | none=>∃ v,u=some v∧∃ q,K H q∧QR C.W R q v)→Wp C (getAttr (.ref x) (fnm f) b) (Pst C ρ k K) s:=fun u hu g =>
  (show Wp C _ _ _ from s_attr (c:=C.c) (m:=m) (V:=V) (a:=.ref x) (n:=fnm f) (x:=b) (Q:=fun v=>∃ q,K H q∧QR C.W R q v) ⟨C.W.ad Cn,d,_,u,h1,h2,hu,g⟩ C.env C.A C.fs C.O s C.E C.eok C.bok o.f fun zz zz zz zz zz zz h=>h.elim).mono
   fun w s' hz=>by obtain ⟨V',f',e,q,kq,r⟩:=hz; subst e; exact ⟨H,q,kq,R,V',m,f',o.c,(o.less in1).d.push r⟩
 unfold attA at h
 rcases e:ix Cn f with _|⟨j⟩
 ·rw [e] at h
  obtain ⟨i,e2,g⟩:=opB_of (show attC Cn f (K H) from h)
  unfold cat at e2
  rcases q:f.beq 8 with _|_
  ·rw [q] at e2; injection e2
  ·rw [q] at e2
   have e3:=beq_of q
   subst e3
   refine go _ (C.pf.pk Cn i e2) ?_
   rw [lk8 e2]
   exact ⟨_,rfl,_,g,rfl⟩
 ·rw [e] at h
  obtain ⟨q,e2,h⟩:=opB_of h
  obtain ⟨a,e3,r⟩:=QRs.get h3 e2
  obtain ⟨u,hu⟩:=C.pf.pa Cn f (fnd_mem e)
  refine go u hu ?_
  rw [(ix_lk e as).1,e3]
  exact ⟨QR.plain r,q,h,r⟩
inductive Ust (C:Fx)(ρ:En)(k:Sk)(K:List OB→Prop)(s:Shared):Prop
 | mk (H:List OB) (h:K H) (st:St C ρ H k s)
theorem QRs.len {W:Wo}:∀{qs:List QV}{as:List AV},QRs W R qs as→qs.length=as.length
 | [],as,h=>by rw [show as=[] from h]; rfl
 | z1::z2,z3,hz2=>by
  obtain ⟨a,r,rfl,h,t⟩:=hz2
  exact congrArg (·+1) t.len
theorem QRs.snoc {W:Wo}{q:QV}{a:AV}(g:QR W R q a):∀{qs:List QV}{as:List AV},QRs W R qs as→QRs W R (qs++[q]) (as++[a])
 | [],as,h=>by rw [show as=[] from h]; exact ⟨a,[],rfl,g,rfl⟩
 | _::_,_,⟨a,r,rfl,h,t⟩=>⟨a,_,rfl,h,QRs.snoc g t⟩
theorem QRs.set {W:Wo}{q:QV}{a:AV}(g:QR W R q a):∀{qs:List QV}{as:List AV}(j:Nat),QRs W R qs as→QRs W R (qs.set j q) (as.set j a)
 | [],as,z1,h=>by rw [show as=[] from h]; rfl
 | z1::z2,z3,0,hz3=>by
  obtain ⟨b,r,rfl,h,t⟩:=hz3
  exact ⟨a,r,rfl,g,t⟩
 | z1::z2,z3,j+1,hz3=>by
  obtain ⟨b,r,rfl,h,t⟩:=hz3
  exact ⟨b,_,rfl,h,QRs.set g j t⟩
theorem setF_of {W:Wo}{Cn f:Nat}{qs qs':List QV}{q:QV}{as:List AV}{a:AV}(r:QRs W R qs as)(g:QR W R q a)(h:setF Cn f qs q=some qs'):f∈flds Cn∧∃ as',putF (fnm f) a (zp (flds Cn) as)=zp (flds Cn) as'∧QRs W R qs' as':=by
 unfold setF at h
 rcases e:ix Cn f with _|⟨j⟩
 ·rw [e] at h; injection h
 ·rw [e] at h
  have h:(bif j.blt qs.length then some (qs.set j q) else bif j.beq qs.length then some (qs++[q]) else none)=some qs':=h
  have lk:=(ix_lk e as).2 a
  refine ⟨fnd_mem e,?_⟩
  rcases q1:j.blt qs.length with _|_
  ·rw [q1] at h
   rcases q2:j.beq qs.length with _|_
   ·rw [q2] at h; injection h
   ·rw [q2] at h; obtain rfl:=Option.some.inj h; exact ⟨_,lk.2 (r.len▸beq_of q2),QRs.snoc g r⟩
  ·rw [q1] at h; obtain rfl:=Option.some.inj h; exact ⟨_,lk.1 (r.len▸Nat.le_of_ble_eq_true q1),QRs.set g j r⟩
theorem Core.get {W:Wo}(c:Core W V R H){i:Nat}{x:Addr}(hx:R.w[i]?=some x):i<H.length:=by rw [← c.wl]; exact (List.getElem?_eq_some_iff.mp hx).1
theorem put_none {a b:Addr}{o o':AO}(ha:V a=some o)(h:put V a o' b=none):V b=none:=by
 by_cases q:b=a
 ·subst q; rw [put_self] at h; injection h
 ·exact (put_ne _ _ q).symm.trans h
theorem put_cell {a b:Addr}{o o':AO}{v:Option AV}(ha:V a=some o)(ho:∀ v,o≠.cell v)(e:V b=some (.cell v)):put V a o' b=some (.cell v):=by
 rw [put_ne,e]; rintro rfl; rw [ha] at e; exact ho v (Option.some.inj e)
theorem Op.turn (o:Op C ρ H k s R V m){i:Nat}{x a:Addr}{ob:OB}{oo o':AO}(hx:R.w[i]?=some x)(ha:V a=some oo)(ht:R.τ a=some i)(hc:∀ v,o'≠.cell v)(hc':∀ v,oo≠.cell v){s':Shared}(f:SF C.W C.fs C.O C.env.locals m (put V a o') s')
  (hr:RootR C.W (put V a o') R i x ob):St C ρ (H.set i ob) k s' :=
 ⟨R,_,m,f,o.c.turn (List.getElem?_eq_getElem (o.c.get hx)) hx (fun b e=>put_ne _ _ fun q=>e (q▸ht)) (fun b e=>put_none ha e) (fun b v t e=>by
  by_cases q:b=a
  ·subst q; rw [put_self] at e; exact hc v (Option.some.inj e)
  ·rw [put_ne _ _ q] at e; exact o.c.nt b i v t e) hr,o.d.mv ⟨.refl R,fun b v e=>put_cell ha hc' e⟩⟩
theorem q_set {q t:QV}{v w:Value}{f:Nat}{K:List OB→Prop}(st:St C ρ H ((t,w)::(q,v)::k) s)(h:setQ H t f q K):Wp C (setAttr w (fnm f) v) (fun zz s=>Ust C ρ k K s) s:=by
 refine cp fun kk=>?_
 obtain ⟨R,V,m,o⟩:=st
 have rt:QR C.W R t (er w):=o.d.sk _ (.head _)
 have rq:QR C.W R q (er v):=o.d.sk _ (.tail _ (.head _))
 refine kk ?_
 rcases t with ⟨_⟩|⟨i⟩
 ·exact h.elim
 ·refine cp fun kk=>?_
  obtain ⟨x,hx,e⟩:=rt
  have e:=er_ref e
  subst e
  obtain ⟨ob,e1,h⟩:=opB_of h
  refine kk ?_
  rcases ob with _|_|⟨Cn,qs⟩|_|_
  ·exact h.elim
  ·exact h.elim
  ·refine cp fun kk=>?_
   obtain ⟨qs',e2,h⟩:=opB_of h
   obtain ⟨d,as,h1,t1,h2,t2,h3⟩:=o.c.rt i x _ hx e1
   obtain ⟨hf,as',e3,r⟩:=setF_of h3 rq e2
   refine kk ?_
   refine (show Wp C _ _ _ from s_set (c:=C.c) (m:=m) (V:=V) (a:=.ref x) (v:=v) (n:=fnm f) (Q:=fun V'=>V'=put V d (.dict (zp (flds Cn) as'))) ⟨C.W.ad Cn,d,_,h1,h2,C.pf.ps Cn f hf,Nat.le_trans (zp_len _ _) (flds_len _),by rw [e3]⟩ C.env C.A C.fs C.O s C.E C.eok C.bok o.f fun zz zz zz zz zz zz h=>h.elim).mono
    fun zz s' hz=>?_
   obtain ⟨V',f',e⟩:=hz
   subst e
   refine ⟨_,h,(o.less in2).turn hx h2 t2 (fun zz q=>by cases q) (fun zz q=>by cases q) f' ⟨d,as',(put_ne _ _ ?_).trans h1,t1,put_self _ _ _,t2,r⟩⟩
   rintro rfl
   rw [h1] at h2; cases h2
  ·exact h.elim
  ·exact h.elim
end
theorem Rels.get {W:Wo}{F:View}:∀{vs:List PV}{as:List AV}{j:Nat}{v:PV},Rels W F vs as→vs[j]?=some v→∃ a,as[j]?=some a∧Rel W F v a
 | [],z1,z2,z3,z4,e=>by injection e
 | z1::z2,z3,0,z4,hz4,e=>by
  obtain ⟨a,r,rfl,h,t⟩:=hz4
  obtain rfl:=Option.some.inj e; exact ⟨a,rfl,h⟩
 | z1::z2,z3,j+1,z4,hz4,e=>by
  obtain ⟨a,r,rfl,h,t⟩:=hz4
  exact Rels.get (j:=j) t e
theorem Rels.getV {W:Wo}{F:View}{xs:List PV}{vs:List Value}{j:Nat}{u:PV}(r:Rels W F xs (vs.map er))(e:xs[j]?=some u):∃ v,vs[j]?=some v∧Rel W F u (er v)∧j<vs.length:=by
 refine cp fun kk=>?_
 obtain ⟨a,e1,r1⟩:=r.get e
 rw [List.getElem?_map] at e1
 obtain ⟨v,e2,rfl⟩:=Option.map_eq_some_iff.mp e1
 refine kk ?_
 exact ⟨v,e2,r1,(List.getElem?_eq_some_iff.mp e2).1⟩
theorem Rels.take {W:Wo}{F:View}:∀{xs:List PV}{as:List AV}(n:Nat),Rels W F xs as→Rels W F (xs.take n) (as.take n)
 | [],as,n,h=>by rw [show as=[] from h,List.take_nil,List.take_nil]; rfl
 | z1::z2,z3,0,hz3=>by
  obtain ⟨a,r,rfl,h,t⟩:=hz3
  exact rfl
 | z1::z2,z3,n+1,hz3=>by
  obtain ⟨a,r,rfl,h,t⟩:=hz3
  exact ⟨a,_,rfl,h,t.take n⟩
theorem Rels.drop {W:Wo}{F:View}:∀{xs:List PV}{as:List AV}(n:Nat),Rels W F xs as→Rels W F (xs.drop n) (as.drop n)
 | [],as,n,h=>by rw [show as=[] from h,List.drop_nil,List.drop_nil]; rfl
 | _::_,_,0,⟨a,r,rfl,h,t⟩=>⟨a,r,rfl,h,t⟩
 | _::_,_,n+1,⟨a,r,rfl,h,t⟩=>t.drop n
section
variable {C:Fx} {ρ:En} {H:List OB} {k:Sk} {s:Shared} {R:Rt} {V:View} {m:Mp} {K:KQ}
theorem atP_of {xs:List PV}{j u:PV}(h:atP xs j=some u):∃ (i:Int) (n:Nat),j=.int i∧xs[n]?=some u∧(i=n∨i<0∧i+xs.length=n):=by
 rcases j with _|_|⟨i⟩|_|_|_|_|_
 ·injection h
 ·injection h
 ·rcases i with ⟨n⟩|⟨n⟩
  ·exact ⟨_,n,rfl,h,.inl rfl⟩
  ·by_cases q:0≤Int.negSucc n+xs.length
   ·have h:(if 0≤Int.negSucc n+(xs.length:Int) then xs[(Int.negSucc n+(xs.length:Int)).toNat]? else none)=some u:=h
    rw [if_pos q] at h
    exact ⟨_,_,rfl,h,.inr ⟨Int.negSucc_lt_zero n,(Int.toNat_of_nonneg q).symm⟩⟩
   ·have h:(if 0≤Int.negSucc n+(xs.length:Int) then xs[(Int.negSucc n+(xs.length:Int)).toNat]? else none)=some u:=h
    rw [if_neg q] at h; injection h
 ·injection h
 ·injection h
 ·injection h
 ·injection h
 ·injection h
theorem Op.rd (o:Op C ρ H k s R V m){q:QV}{v:Value}{u:PV}{xs:List PV}(r:QR C.W R q (er v))(h:pvQ H q=some u)(h2:seqP u=some xs):SqO C.W R.F "list" s.heap xs v∨SqO C.W R.F "tuple" s.heap xs v:=by
 have fr:∀ u:PV,Rel C.W R.F u (er v)→seqP u=some xs→SqO C.W R.F "list" s.heap xs v∨SqO C.W R.F "tuple" s.heap xs v:=fun u r h=>by
  cases u with
  | lst ys=>obtain rfl:=Option.some.inj h; exact .inl (o.ls r)
  | tup ys=>obtain rfl:=Option.some.inj h; exact .inr (o.tp r)
  | _=>injection h
 cases q with
 | fr u=>obtain rfl:=Option.some.inj h; exact fr u r h2
 | own i =>
  obtain ⟨x,hx,e⟩:=r
  have h:(match H[i]? with
   | some (.fz v)=>some v
   | some (.lst xs)=>some (.lst xs)
   | _=>none)=some u:=h
  cases e1:H[i]? with
  | none=>rw [e1] at h; injection h
  | some ob =>
   rw [e1] at h
   have rt:=o.c.rt i x ob hx e1
   cases ob with
   | fz u=>obtain rfl:=Option.some.inj h; exact fr u (e▸rt) h2
   | lst ys =>
    obtain rfl:=Option.some.inj h; obtain rfl:=Option.some.inj h2
    obtain ⟨as,g,_,n,r⟩:=rt
    obtain ⟨vs,c,g2,rfl⟩:=ls_obj o.f g
    exact .inl ⟨x,vs,c,er_ref e,g2,by rwa [List.length_map] at n,r⟩
   | _=>injection h
theorem idx_arith {i:Int}{n l:Nat}(h:i=n∨i<0∧i+l=n)(hl:l≤1000)(hn:n<l):(0≤i∧i.toNat=n∧i<9223372036854775808)∨(i<0∧0≤i+l∧(i+l).toNat=n∧-9223372036854775808≤i):=by
 have hn':(n:Int)<9223372036854775808:=Int.lt_of_lt_of_le (Int.ofNat_lt.mpr (Nat.lt_of_lt_of_le hn hl)) (by decide)
 rcases h with rfl|⟨h0,h1⟩
 ·exact .inl ⟨Int.natCast_nonneg n,Int.toNat_natCast n,hn'⟩
 ·exact .inr ⟨h0,h1▸Int.natCast_nonneg n,(congrArg Int.toNat h1).trans (Int.toNat_natCast n),by lia⟩
theorem seqIdx_of {i:Int}{n l:Nat}(h:i=n∨i<0∧i+l=n)(hn:n<l):seqIndex? i l=some n:=by
 rcases h with rfl|⟨h0,h1⟩
 ·exact seqIdx_pos (Int.natCast_nonneg n) hn
 ·have:=seqIdx_neg (n:=l) h0 (h1▸Int.natCast_nonneg n) (by rw [h1]; exact hn)
  rw [this,h1]; rfl
theorem q_subF {a b:Value}{q:QV}{j u w:PV}{xs:List PV}(st:St C ρ H ((.fr j,b)::(q,a)::k) s)(h1:pvQ H q=some u)(h2:seqP u=some xs)(h3:atP xs j=some w)(hk:K H (.fr w)) :
  (∃ T id,s.TypeIs a T∧typeLookup (.type T) (Str.ofString "__getitem__")=pure (some (.builtin id)))∧Wp C (getItem a b) (Pst C ρ k K) s:=by
 obtain ⟨R,V,m,o⟩:=st
 obtain ⟨i,n,rfl,e1,e2⟩:=atP_of h3
 obtain ⟨t,rfl⟩:=er_int (show er b=.int i from o.d.sk _ (.head _))
 rcases o.rd (o.d.sk _ (.tail _ (.head _))) h1 h2 with ⟨l,vs,c,rfl,g,z,r⟩|⟨l,vs,c,rfl,g,z,r⟩
 ·refine cp fun kk=>?_
  obtain ⟨v,e3,r1,hn⟩:=r.getV e1
  rw [SqO.len r] at e2
  refine kk ?_
  refine ⟨⟨"list",_,⟨_,g,rfl⟩,list_getitem_lookup⟩,?_⟩
  have fin:Pst C ρ k K v s:=⟨H,_,hk,R,V,m,o.f,o.c,(o.less in2).d.push r1⟩
  rcases idx_arith e2 z hn with ⟨h0,h1,h2⟩|⟨h0,h1,h2,h4⟩
  ·exact wpAny_getItem_list (isList_obj g) h0 h2 (by rw [h1]; simpa using e3) fin
  ·exact wpAny_getItem_list_neg (isList_obj g) h0 (by rw [List.size_toArray]; lia) h4 (by rw [List.size_toArray,h2]; simpa using e3) fin
 ·refine cp fun kk=>?_
  obtain ⟨v,e3,r1,hn⟩:=r.getV e1
  rw [SqO.len r] at e2
  have hb:=idx_arith e2 z hn
  refine kk ?_
  exact ⟨⟨"tuple",_,⟨_,g,rfl⟩,slot_tuple_getitem.lookup⟩,P.getItem_tuple (k:=n) (items:=vs.toArray) (n:=c) g (hb.elim (fun a=>Int.le_trans (by decide) a.1) fun a=>Int.le_trans (by decide) a.2.2.2) (hb.elim (fun a=>Int.lt_of_lt_of_le a.2.2 (by decide)) fun a=>Int.lt_trans a.1 (by decide)) (by rw [List.size_toArray]; exact seqIdx_of e2 hn) (by simpa using e3) ⟨H,_,hk,R,V,m,o.f,o.c,(o.less in2).d.push r1⟩⟩
theorem q_sub {a b:Value}{q:QV}{j:PV}(st:St C ρ H ((.fr j,b)::(q,a)::k) s)(h:subQ H q j (K H)) :
  (∃ T id,s.TypeIs a T∧typeLookup (.type T) (Str.ofString "__getitem__")=pure (some (.builtin id)))∧Wp C (getItem a b) (Pst C ρ k K) s:=by
 unfold subQ at h
 cases z:pvQ H q with
 | some u =>
  rw [z] at h
  refine cp fun kk=>?_
  obtain ⟨xs,h2,h⟩:=opB_of h
  obtain ⟨w,h3,h⟩:=opB_of h
  refine kk ?_
  exact q_subF st z h2 h3 h
 | none =>
  rw [z] at h
  refine cp fun kk=>?_
  obtain ⟨R,V,m,o⟩:=st
  have ra:QR C.W R q (er a):=o.d.sk _ (.tail _ (.head _))
  have rj:Rel C.W R.F j (er b):=o.d.sk _ (.head _)
  refine kk ?_
  cases q with
  | fr _=>exact h.elim
  | own i =>
   refine cp fun kk=>?_
   obtain ⟨x,hx,e⟩:=ra
   have e:=er_ref e
   subst e
   obtain ⟨ob,e1,h⟩:=opB_of h
   refine kk ?_
   cases ob with
   | ol qs =>
    have h:intP j fun n=>0≤n∧qs.length≤1000∧opB qs[n.toNat]? (K H):=h
    cases j with
    | int n =>
     refine cp fun kk=>?_
     obtain ⟨t,rfl⟩:=er_int rj
     obtain ⟨h0,hl,h⟩:=h
     obtain ⟨p,e2,h⟩:=opB_of h
     obtain ⟨as,g,_,_,r⟩:=o.c.rt i x _ hx e1
     obtain ⟨vs,c,g2,rfl⟩:=ls_obj o.f g
     obtain ⟨v',e3,r1⟩:=QRs.get r e2
     rw [List.getElem?_map] at e3
     obtain ⟨v,e4,rfl⟩:=Option.map_eq_some_iff.mp e3
     have hn:n.toNat<qs.length:=(List.getElem?_eq_some_iff.mp e2).1
     refine kk ?_
     exact ⟨⟨"list",_,⟨_,g2,rfl⟩,list_getitem_lookup⟩,wpAny_getItem_list (isList_obj g2) h0 (Int.lt_of_lt_of_le ((Int.toNat_lt h0).mp hn) (Int.le_trans (Int.ofNat_le.mpr hl) (by decide))) (by simpa using e4) ⟨H,p,h,R,V,m,o.f,o.c,(o.less in2).d.push r1⟩⟩
    | _=>exact h.elim
   | _=>exact h.elim
theorem bnd_of {v:PV}{x:Value}{i:Option Int}{F:View}(h:bound v=some i)(g:bndOk i)(r:Rel C.W F v (er x)):Bnd x i:=by
 cases v with
 | none=>obtain rfl:=Option.some.inj h; exact .inl ⟨r,rfl⟩
 | int j=>obtain rfl:=Option.some.inj h; exact .inr ⟨j,r,g.1,g.2,rfl⟩
 | _=>injection h
theorem cutP_eq {α:Type}(xs:List α)(lo hi:Option Int):cutP xs lo hi=(xs.drop (loN lo xs.length)).take (hiN hi xs.length-loN lo xs.length):=by
 unfold cutP
 refine (Eq.symm List.drop_take)▸?_
 have e1:xs.drop ((lo.map Int.toNat).getD 0)=xs.drop (loN lo xs.length):=by
  rcases lo with _|⟨i⟩
  ·rfl
  ·show xs.drop i.toNat=xs.drop (min i.toNat xs.length)
   by_cases h:i.toNat≤xs.length
   ·rw [Nat.min_eq_left h]
   ·rw [Nat.min_eq_right (by lia),List.drop_eq_nil_of_le (by lia),List.drop_eq_nil_of_le (by lia)]
 have hl3:loN lo xs.length=(lo.map Int.toNat).getD 0∨loN lo xs.length=xs.length:=by
  rcases lo with _|⟨i⟩
  ·exact .inl rfl
  ·exact (Nat.le_total i.toNat xs.length).elim (fun h=>.inl (Nat.min_eq_left h)) fun h=>.inr (Nat.min_eq_right h)
 refine (Eq.symm e1)▸?_
 rcases hl3 with e|e
 ·(refine e▸?_)
  rcases hi with _|⟨j⟩
  ·rfl
  ·show List.take (j.toNat-loN lo xs.length) _=List.take (min j.toNat xs.length-loN lo xs.length) _
   by_cases h:j.toNat≤xs.length
   ·rw [Nat.min_eq_left h]
   ·rw [Nat.min_eq_right (by lia),List.take_of_length_le (by rw [List.length_drop]; exact Nat.sub_le_sub_right (Nat.le_of_not_le h) _),List.take_of_length_le (by simp)]
 ·rw [e,List.drop_length,List.take_nil,List.take_nil]
theorem q_cut {a b d:Value}{v x y:PV}{lo hi:Option Int}(st:St C ρ H ((.fr y,d)::(.fr x,b)::(.fr v,a)::k) s)(hx:bound x=some lo)(hy:bound y=some hi)(h:cutQ H lo hi K v) :
  (∃ T id,({ s with heap:=s.heap.push { cls:=.type "slice",data:=.fields #[b,d,.none] } }:Shared).TypeIs a T∧typeLookup (.type T) (Str.ofString "__getitem__")=pure (some (.builtin id))) ∧
  Wp C (getItem a (.ref s.heap.objs.size)) (Pst C ρ k K) { s with heap:=s.heap.push { cls:=.type "slice",data:=.fields #[b,d,.none] } }:=by
 obtain ⟨R,V,m,o⟩:=st
 have r1:Rel C.W R.F x (er b):=o.d.sk _ (.tail _ (.head _))
 have r2:Rel C.W R.F y (er d):=o.d.sk _ (.head _)
 have r0:Rel C.W R.F v (er a):=o.d.sk _ (.tail _ (.tail _ (.head _)))
 have o1:Op C ρ H k { s with heap:=s.heap.push { cls:=.type "slice",data:=.fields #[b,d,.none] } } R V m:=⟨o.f.grown (t:=s.toks) fun b o e=>Heap.get?_push_of_some _ e,o.c,o.d.skm fun p hp=>o.d.sk p (.tail _ (.tail _ (.tail _ hp)))⟩
 have hr:∀{xs:List PV}{vs:List Value},vs.length≤1000→Rels C.W R.F xs (vs.map er)→((vs.drop (loN lo vs.length)).take (hiN hi vs.length-loN lo vs.length)).length≤1000∧Rels C.W R.F (cutP xs lo hi) (((vs.drop (loN lo vs.length)).take (hiN hi vs.length-loN lo vs.length)).map er):=fun z r=>by
  refine ⟨Nat.le_trans (List.length_take_le' ..) (by rw [List.length_drop]; exact Nat.le_trans (Nat.sub_le ..) z),?_⟩
  rw [cutP_eq,SqO.len r,List.map_take,List.map_drop]
  exact (r.drop _).take _
 cases v with
 | lst xs =>
  obtain ⟨h1,h2,h⟩:=h
  obtain ⟨l,vs,c,rfl,g,z,r⟩:=o1.ls r0
  have bl:=bnd_of hx h1 r1
  have bu:=bnd_of hy h2 r2
  refine ⟨⟨"list",_,⟨_,g,rfl⟩,list_getitem_lookup⟩,?_⟩
  refine wpAny_getItem_list_slice (isList_obj g) (Heap.IsSliceOf.new ..) bl.part bu.part .none (by simp) ?_ (by rw [List.size_toArray]; exact small_line z)
  rw [pick_cut vs lo hi bl.pos bu.pos]
  exact o1.pushL (t:=s.toks) (hr z r).1 (hr z r).2 h
 | tup xs =>
  obtain ⟨h1,h2,h3,h4,h⟩:=h
  obtain ⟨l,vs,c,rfl,g,z,r⟩:=o1.tp r0
  have bl:=bnd_of hx h1 r1
  have bu:=bnd_of hy h2 r2
  refine ⟨⟨"tuple",_,⟨_,g,rfl⟩,slot_tuple_getitem.lookup⟩,?_⟩
  refine cut_tuple (vs:=vs) ⟨_,g,rfl,_,rfl⟩ (Heap.IsSliceOf.new ..) bl.part bu.part bl.pos bu.pos (fun q=>h3 ?_) (o1.pushT (t:=s.toks) (hr z r).1 (hr z r).2 h) (small_line z)
  rw [cutP_eq,SqO.len r]
  refine ((List.take_sublist _ _).trans (List.drop_sublist _ _)).eq_of_length ?_
  rw [List.length_take,List.length_drop,SqO.len r,← List.length_drop,← List.length_take,q]
 | _=>exact h.elim
end
theorem rels_ints {W:Wo}{F:View}:∀{ns:List Int}{as:List AV},Rels W F (ns.map PV.int) as→as=ns.map .int
 | [],as,h=>h
 | z1::z2,z3,hz2=>by
  obtain ⟨a,r,rfl,h,t⟩:=hz2
  rw [show a=_ from h,rels_ints t]; rfl
section
variable {C:Fx} {ρ:En} {H:List OB} {k:Sk} {s:Shared} {R:Rt} {V:View} {m:Mp} {K:KQ}
theorem Op.all (o:Op C ρ H k s R V m){h':Heap}{t:Nat}{mr:Str→Option Value}(hm:∀ x v,m x=some v→∃ u,mr x=some u∧er u=v)(F:Fr nilH C.env.locals h' mr)(N:News nilH C.env.locals h' (allN s.heap C.env.locals)):Op C ρ H k { s with heap:=h',toks:=t } R V m:=⟨o.f.ofAll hm F N,o.c,o.d⟩
theorem Op.int (o:Op C ρ H k s R V m){i j:Int}{t:Tok}(h:conI H i K)(e:j=i):Pst C ρ k K (.int j t) s:=⟨H,_,h,o.st.con fun zz=>by rw [e]; rfl⟩
theorem map_one' {W:Wo}{F:View}{v:PV}{xs:List Value}(r:Rels W F [v] (xs.map er)):∃ x,xs=[x]∧Rel W F v (er x):=by
 obtain ⟨a,t,e,h,g⟩:=r
 rw [show t=[] from g] at e
 obtain ⟨x,rfl,rfl⟩:=map_one e
 exact ⟨x,rfl,h⟩
theorem map_two' {W:Wo}{F:View}{v w:PV}{xs:List Value}(r:Rels W F [v,w] (xs.map er)):∃ x y,xs=[x,y]∧Rel W F v (er x)∧Rel W F w (er y):=by
 refine cp fun kk=>?_
 obtain ⟨a,t,e,h,b,t',rfl,h2,g⟩:=r
 rw [show t'=[] from g] at e
 obtain ⟨x,y,rfl,rfl,rfl⟩:=map_two e
 refine kk ?_
 exact ⟨x,y,rfl,h,h2⟩
noncomputable def GD.val:GD→Value
 | .bi id=>.builtin id
 | .ty n=>.type n
 | z1=>.none
theorem len_fits {n:Nat}(h:n≤1000):(n:Int)<2 ^ 63:=Int.lt_of_le_of_lt (Int.ofNat_le.mpr h) (by decide)
theorem max_if (x y:Int):max x y=if y > x then y else x:=by
 by_cases h:y > x
 ·rw [if_pos h]; exact Int.max_eq_right (Int.le_of_lt h)
 ·rw [if_neg h]; exact Int.max_eq_left (Int.not_lt.mp h)
theorem min_if (x y:Int):min x y=if y<x then y else x:=by
 by_cases h:y<x
 ·rw [if_pos h]; exact Int.min_eq_right (Int.le_of_lt h)
 ·rw [if_neg h]; exact Int.min_eq_left (Int.not_lt.mp h)
theorem abs_if (x:Int):(if x<0 then -x else x)=(x.natAbs:Int):=by
 by_cases h:x<0
 ·rw [if_pos h]; exact (Int.ofNat_natAbs_of_nonpos (Int.le_of_lt h)).symm
 ·rw [if_neg h]; exact (Int.natAbs_of_nonneg (Int.not_lt.mp h)).symm
theorem q_bltL {a:Value}{xs:List PV}:∀ (f:Nat),Op C ρ H k s R V m→SqO C.W R.F "list" s.heap xs a→bltL H K xs f→Wp C (call (bltN f).val [a]) (Pst C ρ k K) s
 | 0,o,hz2,h=>by
  obtain ⟨l,vs,n,e,g,z,r⟩:=hz2
  exact e▸call_len_list (isList_obj g) (by rw [List.size_toArray]; exact len_fits z) (o.st.conT (show K H (.fr (.int xs.length)) from h) fun zz=>by rw [List.size_toArray,SqO.len r]; rfl)
 | 1,o,hz2,hz3=>by
  obtain ⟨l,vs,c,e,g,z,r⟩:=hz2
  obtain ⟨n,ns,e2,h⟩:=hz3
  subst e e2
  refine cp fun kk=>?_
  obtain ⟨mr,F,hm⟩:=o.f.fr
  refine kk ?_
  exact max_list_N C.bok.hnd F (allN_news s.heap C.env.locals) (isList_obj g) (intsAre_of _ _ (rels_ints r)) (Nat.succ_pos _) fun h' M t tk F' N' h1 h2=>(o.all (t:=tk) hm F' N').int h (foldl_max ns n M h1 h2)
 | 4,o,hz2,hz3=>by
  obtain ⟨l,vs,c,e,g,z,r⟩:=hz2
  obtain ⟨ns,e2,h⟩:=hz3
  subst e e2
  refine cp fun kk=>?_
  obtain ⟨ys,rfl,rfl⟩:=intPairs_of _ _ (rels_ints r)
  refine kk ?_
  refine sum_intListG (xs:=ys.toArray) C.bok.hnd (by simpa [intItems] using isList_obj g) fun h' tk t' kp=>(Op.int (s:={ s with heap:=h',toks:=tk }) ⟨o.f.grown kp,o.c,o.d⟩ h ?_)
  rw [preSum_eq]
  exact congrArg List.sum (List.take_of_length_le (by simp))
 | 6,o,hz2,h=>by
  obtain ⟨l,vs,c,e,g,z,r⟩:=hz2
  subst e
  refine call_tuple_list (isList_obj g) (fun h' kp=>?_) (by rw [List.size_toArray]; exact small_line z)
  exact ⟨_,_,h,o.newT (t:=s.toks) (fun b o e=>Heap.get?_push_of_some _ (kp b o e)) (none_of_keeps kp (get_size h')) (Heap.get?_push_size _ rfl) z r⟩
 | 7,o,hz2,h=>by
  obtain ⟨l,vs,c,e,g,z,r⟩:=hz2
  subst e
  refine call_list_seq (T:="list") _ (.inl rfl) g rfl rfl (fun h' c' kp hob=>?_) (by rw [List.size_toArray]; exact small_line z)
  exact ⟨_,_,h,o.newL (t:=s.toks) kp (get_size _) hob z r⟩
 | 2,z1,z2,h=>h.elim
 | 3,z1,z2,h=>h.elim
 | 5,z1,z2,h=>h.elim
 | f+8,z1,z2,h=>h.elim
theorem q_blt1 {v:PV}{x:Value}{f:Nat}(o:Op C ρ H k s R V m)(r:Rel C.W R.F v (er x))(h:blt1 H K v f):Wp C (call (bltN f).val [x]) (Pst C ρ k K) s:=by
 rcases v with _|⟨b⟩|⟨i⟩|⟨xs⟩|⟨xs⟩|_
 ·exact h.elim
 ·obtain ⟨q,h⟩:=ifB_of h
  refine (Eq.symm (beq_of q))▸?_; refine (Eq.symm (er_bool r))▸?_
  exact call_int_bool (o.st.conT h fun zz=>rfl)
 ·obtain ⟨q,h⟩:=ifB_of h
  obtain ⟨t,rfl⟩:=er_int r
  refine (Eq.symm (beq_of q))▸?_
  exact call_abs_int fun u tk=>o.st.conT h fun zz=>congrArg AV.int (abs_if i)
 ·exact q_bltL f o (o.ls r) h
 ·obtain ⟨q,h⟩:=ifB_of h
  obtain ⟨l,vs,n,rfl,g,z,r'⟩:=o.tp r
  refine (Eq.symm (beq_of q))▸?_
  exact P.len_tuple (n:=n) (items:=vs.toArray) g (by rw [List.size_toArray]; exact Int.not_le.mpr (len_fits z)) (o.st.conT h fun zz=>by rw [List.size_toArray,SqO.len r']; rfl)
 ·exact h.elim
theorem q_blt2 {x y:Int}{t u:Tok}:∀(f:Nat),Op C ρ H k s R V m→blt2 H K x y f→Wp C (call (bltN f).val [.int x t,.int y u]) (Pst C ρ k K) s
 | 0,o,h=>h.elim
 | 1,o,h=>(by obtain ⟨mr,F,hm⟩:=o.f.fr; exact max_two_N C.bok.hnd F (allN_news s.heap C.env.locals) fun h' tk F' N'=>(o.all (t:=tk) hm F' N').int h (max_if x y).symm)
 | 2,o,h=>(by obtain ⟨mr,F,hm⟩:=o.f.fr; exact min_two_N C.bok.hnd F (allN_news s.heap C.env.locals) fun h' tk F' N'=>(o.all (t:=tk) hm F' N').int h (min_if x y).symm)
 | f+3,o,h=>h.elim
theorem intP_of {v:PV}{P:Int→Prop}(h:intP v P):∃ i,v=.int i∧P i:=by
 cases v with
 | int i=>exact ⟨i,rfl,h⟩
 | _=>exact h.elim
theorem q_blt {vs:List PV}{xs:List Value}{f:Nat}(o:Op C ρ H k s R V m)(r:Rels C.W R.F vs (xs.map er))(h:bltQ H f K vs):Wp C (call (bltN f).val xs) (Pst C ρ k K) s:=by
 rcases vs with _|⟨v,vs⟩
 ·exact h.elim
 ·rcases vs with _|⟨w,vs⟩
  ·obtain ⟨x,rfl,r1⟩:=map_one' r
   exact q_blt1 o r1 h
  ·rcases vs with _|⟨_,_⟩
   ·obtain ⟨x,y,rfl,r1,r2⟩:=map_two' r
    obtain ⟨i,rfl,h⟩:=intP_of h
    obtain ⟨j,rfl,h⟩:=intP_of h
    obtain ⟨t,rfl⟩:=er_int r1
    obtain ⟨u,rfl⟩:=er_int r2
    exact q_blt2 f o h
   ·exact h.elim
theorem q_isi {v:PV}{a b:Value}{t:Nat}(o:Op C ρ H k s R V m)(r:Rel C.W R.F v (er a))(e:er b=(isiN t).av C.W)(h:isiQ (fun b=>conB H b K) v t):Wp C (call (.builtin "isinstance") [a,b]) (Pst C ρ k K) s:=by
 have X:=C.bok.kin o.f.toSC
 have yes:∀ b:Bool,conB H b K→∀ n:Nat,Pst C ρ k K (.bool b) { s with toks:=n }:=fun b h n=>o.st.conT h fun zz=>rfl
 rcases v with _|_|⟨i⟩|⟨xs⟩|_|⟨Cn,fs⟩
 ·exact h.elim
 ·exact h.elim
 ·obtain ⟨tk,rfl⟩:=er_int r
  match t,e,h with
  | 0,e,h=>rw [er_ty e]; exact call_isinstance_yes (typeIs_int _ _ _) PySem.F.isi_meta_int PySem.F.isi_self_int (yes true h s.toks)
  | 1,e,h=>rw [er_ty e]; exact call_isinstance (isinstance_false_int (by decide) PySem.F.isi_meta_bool PySem.F.sub_int_bool) (yes false h _)
 ·obtain ⟨q,h⟩:=ifB_of h
  have q:=beq_of q
  subst q
  obtain ⟨l,vs,n,rfl,g,z,r'⟩:=o.ls r
  refine (Eq.symm (er_ty e))▸?_
  exact call_isinstance_yes (Tx:="list") ⟨_,g,rfl⟩ PySem.F.isi_meta_list PySem.F.isi_self_list (yes true h s.toks)
 ·exact h.elim
 ·obtain ⟨x,d,as,rfl,hi,hd,_⟩:=Rel.ob o.c.le r
  obtain ⟨ob,ho,rfl⟩:=o.f.view _ _ hi
  match t,e,h with
  | 2,e,h =>
   obtain ⟨q,h⟩:=ifB_of h
   obtain ⟨od,hod,es,c,rfl,hf⟩:=o.f.view _ _ hd
   have hn:=C.pf.ni Cn (by cases z:(flds Cn).isEmpty with|false=>rfl|true=>rw [z] at q; injection q)
   unfold noIsi at hn
   simp only [Bool.and_eq_true,beq_iff_eq] at hn
   obtain ⟨⟨⟨⟨⟨⟨n1,n2⟩,n3⟩,n4⟩,n5⟩,n6⟩,n7⟩:=hn
   refine (Eq.symm (er_ty e))▸?_
   exact kin_callT X (ox:=instObj _ d) (od:=dictOf es c) ⟨ho,rfl,rfl,hod⟩ n1 PySem.F.isi_meta_list n2 n3 n4 n5 n6 n7 (yes false h _)
  | 3,e,h =>
   obtain ⟨q,h⟩:=ifB_of h
   have q:=beq_of q
   subst q
   refine (Eq.symm (er_ref e))▸?_
   exact isi_call X (fun M=>(Looks.ld (o:=instObj _ d) ho).andThen .now) C.pf.is (by intro q; injection q) (yes true h s.toks)
theorem q_append {a b:Value}{v:PV}{q:QV}{K':List OB→Prop}(st:St C ρ H ((.fr v,b)::(q,a)::k) s)(h:lstQ H q fun i xs=>small (xs++[v])∧K' (H.set i (.lst (xs++[v])))):Wp C (call (.builtin "list.append") [a,b]) (fun r s=>r=.none∧Ust C ρ k K' s) s:=by
 obtain ⟨R,V,m,o⟩:=st
 have rb:Rel C.W R.F v (er b):=o.d.sk _ (.head _)
 have ra:QR C.W R q (er a):=o.d.sk _ (.tail _ (.head _))
 rcases q with ⟨_⟩|⟨i⟩
 ·exact h.elim
 ·obtain ⟨x,hx,e⟩:=ra
  have e:=er_ref e
  subst e
  obtain ⟨ob,e1,h⟩:=opB_of h
  rcases ob with _|⟨xs⟩|_|_|_
  ·exact h.elim
  ·obtain ⟨hz,h⟩:=h
   obtain ⟨as,g,t1,n,r⟩:=o.c.rt i x _ hx e1
   obtain ⟨vs,c,g2,rfl⟩:=ls_obj o.f g
   have z:(vs++[b]).length≤1000:=app_small (ys:=[v]) (ws:=[b]) r ⟨er b,[],rfl,rb,rfl⟩ hz
   refine append_at g2 (fun h' hs hob=>⟨rfl,_,h,?_⟩) (by rw [List.size_toArray]; exact small_line (Nat.le_trans (by rw [List.length_append]; exact Nat.le_add_right ..) z))
   exact (o.less in2).turn hx g t1 (o':=.list ((vs++[b]).map er)) (fun zz q=>by injection q) (fun zz q=>by injection q) (o.f.turn (t:=s.toks) g (fun b o hb e=>(hs.2 b hb).trans e) hob ⟨vs++[b],c+1,by simp,rfl⟩)
    ⟨_,put_self _ _ _,t1,by rw [List.length_map]; exact z,app_rel (ys:=[v]) (ws:=[b]) r ⟨er b,[],rfl,rb,rfl⟩⟩
  ·exact h.elim
  ·exact h.elim
  ·exact h.elim
theorem q_extend {a b:Value}{ys:List PV}{q:QV}{K':List OB→Prop}(st:St C ρ H ((.fr (.lst ys),b)::(q,a)::k) s)(h:lstQ H q fun i xs=>small (xs++ys)∧K' (H.set i (.lst (xs++ys)))):Wp C (call (.builtin "list.extend") [a,b]) (fun r s=>r=.none∧Ust C ρ k K' s) s:=by
 obtain ⟨R,V,m,o⟩:=st
 have rb:Rel C.W R.F (.lst ys) (er b):=o.d.sk _ (.head _)
 have ra:QR C.W R q (er a):=o.d.sk _ (.tail _ (.head _))
 rcases q with ⟨_⟩|⟨i⟩
 ·exact h.elim
 ·obtain ⟨x,hx,e⟩:=ra
  have e:=er_ref e
  subst e
  obtain ⟨ob,e1,h⟩:=opB_of h
  rcases ob with _|⟨xs⟩|_|_|_
  ·exact h.elim
  ·obtain ⟨hz,h⟩:=h
   obtain ⟨as,g,t1,n,r⟩:=o.c.rt i x _ hx e1
   obtain ⟨vs,c,g2,rfl⟩:=ls_obj o.f g
   obtain ⟨lb,ws,cb,rfl,gb,zb,rb'⟩:=o.ls rb
   have z:=app_small r rb' hz
   obtain ⟨mr,F,hm⟩:=o.f.fr
   have hlL:x≠C.env.locals:=by rintro rfl; rw [o.f.offL] at g; injection g
   obtain ⟨pre,post,e1,p1,p2⟩:=split_at (mem_allN.mpr ⟨hlL,g2⟩) (allN_nodup s.heap C.env.locals)
   refine extend_in F (e1▸allN_news s.heap C.env.locals) p1 p2 gb (fun h' n' F' N'=>⟨rfl,_,h,?_⟩) (by simpa using small_line z)
   exact (o.less in2).turn hx g t1 (o':=.list ((vs++ws).map er)) (fun zz q=>by injection q) (fun zz q=>by injection q) (o.f.ofNews (t:=s.toks) hm g e1 F' N' ⟨vs++ws,n',by simp,rfl⟩)
    ⟨_,put_self _ _ _,t1,by rw [List.length_map]; exact z,app_rel r rb'⟩
  ·exact h.elim
  ·exact h.elim
  ·exact h.elim
theorem Rels.set {W:Wo}{F:View}{u:PV}{a:AV}(g:Rel W F u a):∀{xs:List PV}{as:List AV}(j:Nat),Rels W F xs as→Rels W F (xs.set j u) (as.set j a)
 | [],as,z1,h=>by rw [show as=[] from h]; rfl
 | z1::z2,z3,0,hz3=>by
  obtain ⟨b,r,rfl,h,t⟩:=hz3
  exact ⟨a,r,rfl,g,t⟩
 | z1::z2,z3,j+1,hz3=>by
  obtain ⟨b,r,rfl,h,t⟩:=hz3
  exact ⟨b,_,rfl,h,t.set g j⟩
theorem q_setItem {a b d:Value}{j v:PV}{q:QV}{K':List OB→Prop}(st:St C ρ H ((.fr j,b)::(q,a)::(.fr v,d)::k) s)(h:lstQ H q fun i xs=>intP j fun n=>0≤n∧n.toNat<xs.length∧K' (H.set i (.lst (xs.set n.toNat v)))):Wp C (setItem a b d) (fun zz s=>Ust C ρ k K' s) s:=by
 obtain ⟨R,V,m,o⟩:=st
 have rj:Rel C.W R.F j (er b):=o.d.sk _ (.head _)
 have ra:QR C.W R q (er a):=o.d.sk _ (.tail _ (.head _))
 have rv:Rel C.W R.F v (er d):=o.d.sk _ (.tail _ (.tail _ (.head _)))
 rcases q with ⟨_⟩|⟨i⟩
 ·exact h.elim
 ·obtain ⟨x,hx,e⟩:=ra
  have e:=er_ref e
  subst e
  obtain ⟨ob,e1,h⟩:=opB_of h
  rcases ob with _|⟨xs⟩|_|_|_
  ·exact h.elim
  ·obtain ⟨n,rfl,h0,h1,h⟩:=intP_of h
   obtain ⟨t,rfl⟩:=er_int rj
   obtain ⟨as,g,t1,hn,r⟩:=o.c.rt i x _ hx e1
   obtain ⟨vs,c,g2,rfl⟩:=ls_obj o.f g
   rw [SqO.len r] at h1
   rw [List.length_map] at hn
   have hb:n<2 ^ 63∧n<vs.toArray.size:=by rw [List.size_toArray]; exact ⟨Int.lt_of_lt_of_le ((Int.toNat_lt h0).mp h1) (Int.le_trans (Int.ofNat_le.mpr hn) (by decide)),(Int.toNat_lt h0).mp h1⟩
   refine set_list g2 h0 hb.1 hb.2 fun h' n' hob hs=>⟨_,h,?_⟩
   exact (o.less fun p hp=>.tail _ (.tail _ (.tail _ hp))).turn hx g t1 (o':=.list ((vs.set n.toNat d).map er)) (fun zz q=>by injection q) (fun zz q=>by injection q) (o.f.turn (t:=s.toks) g (fun b o hb e=>(hs.2 b hb).trans e) hob ⟨vs.set n.toNat d,n',by simp,rfl⟩)
    ⟨_,put_self _ _ _,t1,by rw [List.length_map,List.length_set]; exact hn,by rw [List.map_set]; exact r.set rv _⟩
  ·exact h.elim
  ·exact h.elim
  ·exact h.elim
end
theorem mem_of {i:Nat}:∀{l:List Nat},mem i l=true ↔ i∈l
 | []=>⟨(fun h=>by cases h),(fun h=>by cases h)⟩
 | j::r=>by
  unfold mem
  rcases q:i.beq j with _|_
  ·exact mem_of.trans ⟨.tail _,fun h=>by cases h with|head=>rw [beq_self] at q; injection q|tail _ h=>exact h⟩
  ·rw [beq_of q]; exact ⟨fun _=>.head _,fun _=>rfl⟩
theorem fnd_get {i:Nat}:∀{l:List Nat}{p:Nat},fnd i l=some p→l[p]?=some i
 | [],z1,h=>by injection h
 | y::r,p,h=>by
  unfold fnd at h
  rcases q:i.beq y with _|_
  ·rw [q] at h; obtain ⟨j,e,rfl⟩:=sucO_of h; exact fnd_get (l:=r) e
  ·rw [q] at h; obtain rfl:=Option.some.inj h; rw [beq_of q]; rfl
theorem fnd_of {i:Nat}:∀{l:List Nat}{p:Nat},nodB l=true→l[p]?=some i→fnd i l=some p
 | [],z1,z2,h=>by injection h
 | y::r,0,z1,h=>by obtain rfl:=Option.some.inj h; unfold fnd; rw [beq_self]; rfl
 | y::r,p+1,nd,h=>by
  unfold nodB at nd
  rcases q:mem y r with _|_
  ·rw [q] at nd
   unfold fnd
   rcases z:i.beq y with _|_
   ·rw [fnd_of (l:=r) nd h]; rfl
   ·rw [← beq_of z] at q; rw [mem_of.mpr (List.mem_of_getElem? (show r[p]?=some i from h))] at q; injection q
  ·rw [q] at nd; injection nd
noncomputable def inV (V:View)(R:Rt)(sel:List Nat):View:=fun b=>match R.F b with
 | some o=>some o
 | none=>match R.τ b with
  | some i=>bif mem i sel then V b else none
  | none=>none
noncomputable def inW (w:List Addr)(sel:List Nat):List Addr:=sel.map fun i=>w[i]?.getD 0
noncomputable def inT (τ:Addr→Option Nat)(sel:List Nat):Addr→Option Nat:=fun b=>match τ b with
 | some i=>fnd i sel
 | none=>none
noncomputable def inR (R:Rt)(sel:List Nat):Rt:=⟨R.F,inW R.w sel,inT R.τ sel⟩
section
variable {W:Wo} {V:View} {R:Rt} {H:List OB} {sel:List Nat}
theorem inV_fro {b:Addr}{o:AO}(h:R.F b=some o):inV V R sel b=some o:=by unfold inV; rw [h]
theorem inV_own (c:Core W V R H){b:Addr}{i:Nat}(h:R.τ b=some i)(hi:mem i sel=true):inV V R sel b=V b:=by
 have:R.F b=none:=by
  rcases q:R.F b with _|⟨o⟩
  ·rfl
  ·rw [c.off b o q] at h; injection h
 unfold inV; rw [this,h]
 show (bif mem i sel then V b else none)=V b
 rw [hi]; rfl
theorem inV_out {b:Addr}(h:R.F b=none)(g:∀ i,R.τ b=some i→mem i sel=false):inV V R sel b=none:=by
 unfold inV; rw [h]
 rcases q:R.τ b with _|⟨i⟩
 ·rfl
 ·show (bif mem i sel then V b else none)=none; rw [g i q]; rfl
theorem inV_le (c:Core W V R H):Le (inV V R sel) V:=fun b o e=>by
 unfold inV at e
 rcases q:R.F b with _|⟨o'⟩
 ·rw [q] at e
  rcases t:R.τ b with _|⟨i⟩
  ·rw [t] at e; injection e
  ·rw [t] at e
   have e:(bif mem i sel then V b else none)=some o:=e
   rcases z:mem i sel with _|_
   ·rw [z] at e; injection e
   ·rw [z] at e; exact e
 ·rw [q] at e; exact (c.le b o' q).trans e
theorem inT_of {b:Addr}{i p:Nat}(h:R.τ b=some i)(e:fnd i sel=some p):(inR R sel).τ b=some p:=by
 show inT R.τ sel b=_
 unfold inT; rw [h]; exact e
theorem inT_inv {b:Addr}{p:Nat}(h:(inR R sel).τ b=some p):∃ i,R.τ b=some i∧sel[p]?=some i∧mem i sel=true:=by
 have h:inT R.τ sel b=some p:=h
 unfold inT at h
 rcases q:R.τ b with _|⟨i⟩
 ·rw [q] at h; injection h
 ·rw [q] at h; exact ⟨i,rfl,fnd_get h,mem_of.mpr (fnd_mem h)⟩
theorem inW_get {w:List Addr}{p i:Nat}{x:Addr}(h:sel[p]?=some i)(e:w[i]?=some x):(inW w sel)[p]?=some x:=by
 unfold inW; rw [List.getElem?_map,h]; show some (w[i]?.getD 0)=_; rw [e]; rfl
theorem renQ_ok (c:Core W V R H){q q':QV}{a:AV}(h:renQ H sel q=some q')(r:QR W R q a):QR W (inR R sel) q' a:=by
 rcases q with ⟨v⟩|⟨i⟩
 ·obtain rfl:=Option.some.inj h; exact r
 ·obtain ⟨x,hx,rfl⟩:=r
  unfold renQ at h
  rcases e:fnd i sel with _|⟨p⟩
  ·simp only [e] at h
   rcases z:H[i]? with _|⟨ob⟩
   ·rw [z] at h; injection h
   ·rw [z] at h
    rcases ob with ⟨v⟩|_|_|_|_
    ·obtain rfl:=Option.some.inj h; exact c.rt i x _ hx z
    ·injection h
    ·injection h
    ·injection h
    ·injection h
  ·simp only [e] at h; obtain rfl:=Option.some.inj h; exact ⟨x,inW_get (fnd_get e) hx,rfl⟩
theorem renQs_ok (c:Core W V R H):∀{qs qs':List QV}{as:List AV},renQs H sel qs=some qs'→QRs W R qs as→QRs W (inR R sel) qs' as
 | [],z1,z2,h,r=>by obtain rfl:=Option.some.inj h; exact r
 | q::qs,qs',z1,h,hz4=>by
  obtain ⟨a,t,rfl,r,g⟩:=hz4
  unfold renQs at h
  rcases e:renQ H sel q with _|⟨q'⟩
  ·rw [e] at h; injection h
  ·rw [e] at h
   rcases z:renQs H sel qs with _|⟨r'⟩
   ·rw [z] at h; injection h
   ·rw [z] at h; obtain rfl:=Option.some.inj h; exact ⟨a,t,rfl,renQ_ok c e r,renQs_ok c z g⟩
theorem renOs_get:∀{l:List Nat}{Hi:List OB},renOs H sel l=some Hi→Hi.length=l.length∧∀(p:Nat)(o:OB),Hi[p]?=some o→∃ (i:Nat) (o':OB),l[p]?=some i∧H[i]?=some o'∧renO H sel o'=some o
 | [],z1,h=>by obtain rfl:=Option.some.inj h; exact ⟨rfl,fun p o e=>by cases e⟩
 | i::l,Hi,h=>by
  unfold renOs at h
  rcases e:H[i]? with _|⟨o⟩
  ·rw [e] at h; injection h
  ·rw [e] at h
   rcases z:renO H sel o with _|⟨o'⟩
   ·simp only [z] at h; injection h
   ·simp only [z] at h
    rcases y:renOs H sel l with _|⟨Hi'⟩
    ·rw [y] at h; injection h
    ·rw [y] at h; obtain rfl:=Option.some.inj h
     obtain ⟨h1,h2⟩:=renOs_get y
     refine ⟨congrArg (·+1) h1,fun p ob e'=>?_⟩
     rcases p with _|⟨p⟩
     ·obtain rfl:=Option.some.inj e'; exact ⟨i,o,rfl,e,z⟩
     ·exact h2 p ob e'
theorem map_some {α β:Type}{f:α→β}{o:Option α}{b:β}(h:o.map f=some b):∃ a,o=some a∧f a=b:=Option.map_eq_some_iff.mp h
theorem RootR.mv {V':View}{R':Rt}{i j:Nat}{x:Addr}{o o':OB}(l:Le R.F R'.F)(g:∀ b o,V b=some o→R.τ b=some i→V' b=some o∧R'.τ b=some j) (hq:match o with
  | .fz v=>o'=.fz v
  | .lst xs=>o'=.lst xs
  | .obj Cn qs=>∃ qs',o'=.obj Cn qs'∧∀ as,QRs W R qs as→QRs W R' qs' as
  | .tup qs=>∃ qs',o'=.tup qs'∧∀ as,QRs W R qs as→QRs W R' qs' as
  | .ol qs=>∃ qs',o'=.ol qs'∧∀ as,QRs W R qs as→QRs W R' qs' as) (h:RootR W V R i x o):RootR W V' R' j x o':=by
 rcases o with ⟨v⟩|⟨xs⟩|⟨Cn,qs⟩|⟨qs⟩|⟨qs⟩
 ·rw [hq]; exact Rel.mono l v _ h
 ·obtain ⟨as,h1,t,n,r⟩:=h; rw [hq]; exact ⟨as,(g _ _ h1 t).1,(g _ _ h1 t).2,n,Rels.mono l xs as r⟩
 ·obtain ⟨d,as,h1,t,h2,u,r⟩:=h; obtain ⟨qs',rfl,f⟩:=hq; exact ⟨d,as,(g _ _ h1 t).1,(g _ _ h1 t).2,(g _ _ h2 u).1,(g _ _ h2 u).2,f as r⟩
 ·obtain ⟨as,h1,t,n,r⟩:=h; obtain ⟨qs',rfl,f⟩:=hq; exact ⟨as,(g _ _ h1 t).1,(g _ _ h1 t).2,n,f as r⟩
 ·obtain ⟨as,h1,t,n,r⟩:=h; obtain ⟨qs',rfl,f⟩:=hq; exact ⟨as,(g _ _ h1 t).1,(g _ _ h1 t).2,n,f as r⟩
theorem Core.into (c:Core W V R H){Hi:List OB}(nd:nodB sel=true)(h:renOs H sel sel=some Hi):Core W (inV V R sel) (inR R sel) Hi:=by
 obtain ⟨h1,h2⟩:=renOs_get h
 have own:∀{b:Addr}{p:Nat},(inR R sel).τ b=some p→∃ i,R.τ b=some i∧sel[p]?=some i∧inV V R sel b=V b:=fun t=>(by obtain ⟨i,t1,t2,t3⟩:=inT_inv t; exact ⟨i,t1,t2,inV_own c t1 t3⟩)
 refine ⟨fun b e=>?_,fun b o e=>inV_fro e,fun b o e=>?_,c.nc,fun b p v e q=>?_,fun b p e=>?_,?_,fun p x o e1 e2=>?_⟩
 ·rcases q:(inR R sel).τ b with _|⟨p⟩
  ·rfl
  ·obtain ⟨i,t1,_,t3⟩:=own q; rw [t3] at e; rw [c.fre b e] at t1; injection t1
 ·rcases q:(inR R sel).τ b with _|⟨p⟩
  ·rfl
  ·obtain ⟨i,t1,_⟩:=own q; rw [c.off b o e] at t1; injection t1
 ·obtain ⟨i,t1,_,t3⟩:=own e; rw [t3] at q; exact c.nt b i v t1 q
 ·obtain ⟨i,_,t2,_⟩:=own e; rw [h1]; exact (List.getElem?_eq_some_iff.mp t2).1
 ·show (inW R.w sel).length=_; unfold inW; rw [List.length_map,h1]
 ·obtain ⟨i,o',s1,s2,s3⟩:=h2 p o e2
  have hi:i<R.w.length:=by rw [c.wl]; exact (List.getElem?_eq_some_iff.mp s2).1
  have hw:=List.getElem?_eq_getElem hi
  have e1:(inW R.w sel)[p]?=some x:=e1
  rw [inW_get s1 hw] at e1
  obtain rfl:=Option.some.inj e1
  have rt:=c.rt i _ o' hw s2
  refine RootR.mv (R:=R) (R':=inR R sel) (Le.refl _) (fun b ob v t=>⟨(inV_own c t (mem_of.mpr (List.mem_of_getElem? s1))).trans v,inT_of t (fnd_of nd s1)⟩) ?_ rt
  rcases o' with ⟨v⟩|⟨xs⟩|⟨Cn,qs⟩|⟨qs⟩|⟨qs⟩
  ·obtain rfl:=Option.some.inj s3; rfl
  ·obtain rfl:=Option.some.inj s3; rfl
  ·obtain ⟨qs',e,rfl⟩:=map_some s3; exact ⟨qs',rfl,fun as r=>renQs_ok c e r⟩
  ·obtain ⟨qs',e,rfl⟩:=map_some s3; exact ⟨qs',rfl,fun as r=>renQs_ok c e r⟩
  ·obtain ⟨qs',e,rfl⟩:=map_some s3; exact ⟨qs',rfl,fun as r=>renQs_ok c e r⟩
end
noncomputable def Off (P V P' V':View):Prop:=∀ a o,V a=some o→P a=none→V' a=some o∧P' a=none
noncomputable def over (P V P':View):View:=fun a=>match P' a with
 | some o=>some o
 | none=>if (P a).isSome then none else V a
theorem over_l {P V P':View}:Le P' (over P V P'):=fun a o e=>by unfold over; rw [e]
theorem over_cases {P V P':View}{a:Addr}{o:AO}(e:over P V P' a=some o):P' a=some o∨(V a=some o∧P a=none):=by
 unfold over at e
 rcases q:P' a with _|⟨o'⟩
 ·rw [q] at e
  rcases z:P a with _|⟨o'⟩
  ·rw [z] at e; exact .inr ⟨e,rfl⟩
  ·rw [z] at e; injection e
 ·rw [q] at e; exact .inl e
section
variable {W:Wo} {fs:List Addr} {O:Heap} {P V:View} {s:Shared} {A:Around} {n:Nat}
theorem SC.notP (st:SC W fs O V s)(hP:Le P V)(b:Addr)(o:Obj)(e:O.get? b=some o):P b=none:=by
 rcases q:P b with _|⟨x⟩
 ·rfl
 ·rw [st.off b x (hP b x q)] at e; injection e
theorem SC.sl (st:SC W fs O V s)(hP:Le P V):Sl fs O (hideV s.heap P):=fun b o e=>(by obtain ⟨sl,h1,h2⟩:=st.keep b o e; exact ⟨sl,hideV_of h1 (st.notP hP b o e),h2⟩)
theorem Cok.less (ok:Cok W A fs O n)(st:SC W fs O V s)(hP:Le P V):Cok W A fs (hideV s.heap P) n:=by
 have step:=st.sl hP
 have fn:∀ b∈fs,W.base.get? b=none∧∃ o,(hideV s.heap P).get? b=some o∧∀ vs,o.data≠.fields vs:=fun b hb=>(by obtain ⟨h1,o,h2,h3⟩:=ok.fsn b hb; exact (by obtain ⟨sl,h4,_⟩:=step b o h2; exact ⟨h1,_,h4,h3⟩))
 refine ⟨ok.ok,fun b o e=>step.exact (ok.stays b o e) fun q=>?_,?_,fn,ok.hnd,ok.depth,ok.units⟩
 ·rw [(ok.fsn b q).1] at e; injection e
 ·refine cp fun kk=>?_
  obtain ⟨stk,a1,a2,a3⟩:=ok.frames
  refine kk ?_
  refine ⟨stk,a1,funFrames_of fun x hx=>?_,a3⟩
  refine cp fun kk=>?_
  obtain ⟨b1,L,b2,b3,_⟩:=of_funFrames a2 x hx
  refine kk ?_
  exact ⟨b1,L,b2,b3,(fn L (a3 L (List.mem_filterMap.mpr ⟨x,hx,b2⟩))).2⟩
theorem SC.less (st:SC W fs O V s)(hP:Le P V):SC W fs (hideV s.heap P) P s:=⟨.of_keeps fun zz zz e=>(hideV_some e).1,fun a o e=>st.view a o (hP a o e),fun a o e=>by rw [hideV_get,e]; rfl,st.gens,st.drawn,st.os⟩
theorem SC.hid (st:SC W fs O V s)(a:Addr)(o:AO)(e:V a=some o)(q:P a=none):∃ ob,(hideV s.heap P).get? a=some ob∧RO ob o:=(by obtain ⟨ob,h1,h2⟩:=st.view a o e; exact ⟨ob,hideV_of h1 q,h2⟩)
theorem SC.more (st:SC W fs O V s)(ok:Cok W A fs O n)(hP:Le P V){P':View}{s':Shared}(sc:SC W fs (hideV s.heap P) P' s'):SC W fs O (over P V P') s'∧Off P V P' (over P V P'):=by
 have step:=st.sl hP
 have offO:∀{a:Addr},(hideV s.heap P).get? a=none→O.get? a=none:=fun {a} e=>by
  rcases q:O.get? a with _|⟨x⟩
  ·rfl
  ·obtain ⟨sl,h1,_⟩:=step a x q; rw [e] at h1; injection h1
 refine ⟨⟨step.trans sc.keep,fun a o e=>(over_cases e).elim (sc.view a o) fun ⟨q1,q2⟩=>?_,fun a o e=>(over_cases e).elim (fun q=>offO (sc.off a o q)) fun q=>st.off a o q.1,sc.gens,sc.drawn,sc.os⟩,fun a o e q=>?_⟩
 ·refine cp fun kk=>?_
  obtain ⟨ob,h1,h2⟩:=st.hid a o q1 q2
  refine kk ?_
  refine ⟨ob,sc.keep.exact h1 fun q=>?_,h2⟩
  obtain ⟨_,o',h2,_⟩:=ok.fsn a q
  rw [st.off a o q1] at h2; injection h2
 ·have:P' a=none:=by
   rcases q':P' a with _|⟨x⟩
   ·rfl
   ·obtain ⟨ob,h1,_⟩:=st.hid a o e q; rw [sc.off a x q'] at h1; injection h1
  refine ⟨?_,this⟩
  unfold over; rw [this]; simp only [q,Option.isSome_none,Bool.false_eq_true,if_false]; exact e
theorem Call.frame {f:AV}{args:List AV}{Q:AV→View→Prop}{X:View→Prop}(h:Call W n f args P Q X)(hP:Le P V) :
  Call W n f args V (fun r V'=>∃ P',Q r P'∧Le P' V'∧Off P V P' V') (fun V'=>∃ P',X P'∧Le P' V'):=by
 refine ⟨h.keep,fun A fs O s fv vs E ok st e1 e2 hE=>?_⟩
 refine codeAny_mono (h.run A fs (hideV s.heap P) s fv vs E (ok.less st hP) (st.less hP) e1 e2 fun v s' P' stk a b x=>?_) fun r s' x=>?_
 ·refine cp fun kk=>?_
  obtain ⟨e,B,rfl,b1,b2,b3,b4⟩:=b
  refine kk ?_
  refine hE _ s' (over P V P') stk a ⟨e,B,rfl,b1,fun b o eo hb=>b2 b o ((st.sl hP).exact eo hb) hb,fun a o ea=>(over_cases ea).elim (b3 a o) fun ⟨q1,q2⟩=>?_,(st.more ok hP b4).1⟩ ⟨P',x,over_l⟩
  refine cp fun kk=>?_
  obtain ⟨ob,h1,h2⟩:=st.hid a o q1 q2
  refine kk ?_
  refine ⟨ob,b2 a ob h1 fun q=>?_,h2⟩
  obtain ⟨_,o',h2,_⟩:=ok.fsn a q
  rw [st.off a o q1] at h2; injection h2
 ·rcases r with e|(v|_|_|_) <;> first|exact x|exact x.elim|skip
  refine cp fun kk=>?_
  obtain ⟨P',a,b⟩:=x
  obtain ⟨k1,k2⟩:=st.more ok hP a
  refine kk ?_
  exact ⟨over P V P',k1,P',b,over_l,k2⟩
end
noncomputable def outT (V P:View)(R R':Rt)(sel:List Nat)(n:Nat):Addr→Option Nat:=fun b=>bif (V b).isSome&&(P b).isNone then R.τ b else (R'.τ b).map (mu sel n)
noncomputable def outR (V P:View)(R R':Rt)(sel:List Nat):Rt:=⟨R'.F,R.w++R'.w.drop sel.length,outT V P R R' sel R.w.length⟩
theorem setL_len:∀(is:List Nat)(H os:List OB),(setL is H os).length=H.length
 | [],z1,z2=>rfl
 | z1::z2,z3,[]=>rfl
 | i::is,H,o::os=>(setL_len is _ os).trans List.length_set
theorem setL_out {i:Nat}:∀(is:List Nat)(H os:List OB),i ∉ is→(setL is H os)[i]?=H[i]?
 | [],z1,z2,z3=>rfl
 | z1::z2,z3,[],z4=>rfl
 | j::is,H,o::os,h=>(setL_out is _ os fun q=>h (.tail _ q)).trans (List.getElem?_set_ne fun e=>h (by rw [e]; exact .head _))
theorem setL_in {i:Nat}{o:OB}:∀(is:List Nat)(H os:List OB)(p:Nat),nodB is=true→is[p]?=some i→os[p]?=some o→i<H.length→(setL is H os)[i]?=some o
 | [],z1,z2,z3,z4,h,z5,z6=>by injection h
 | z1::z2,z3,[],z4,z5,z6,h,z7=>by injection h
 | j::is,H,o'::os,p,nd,h1,h2,hi=>by
  unfold nodB at nd
  rcases q:mem j is with _|_
  ·rw [q] at nd
   rcases p with _|⟨p⟩
   ·obtain rfl:=Option.some.inj h1; obtain rfl:=Option.some.inj h2
    exact (setL_out is _ os fun z=>by rw [mem_of.mpr z] at q; cases q).trans (List.getElem?_set_self hi)
   ·exact setL_in is _ os p nd h1 h2 (by rw [List.length_set]; exact hi)
  ·rw [q] at nd; injection nd
theorem mu_in {sel:List Nat}{n j i:Nat}(h:sel[j]?=some i):mu sel n j=i:=by unfold mu; rw [h]
theorem mu_out {sel:List Nat}{n j:Nat}(h:sel.length≤j):mu sel n j=n+(j-sel.length):=by unfold mu; rw [List.getElem?_eq_none h]
section
variable {W:Wo} {V V' P':View} {R R':Rt} {H Ho:List OB} {sel:List Nat}
structure Back (W:Wo)(V:View)(R:Rt)(H:List OB)(sel:List Nat)(P':View)(R':Rt)(Ho:List OB)(V':View):Prop where
 c:Core W V R H
 nd:nodB sel=true
 lt:∀ i∈sel,i<H.length
 c':Core W P' R' Ho
 le:RLe (inR R sel) R'
 pv:Le P' V'
 off:Off (inV V R sel) V P' V'
theorem Back.len (h:Back W V R H sel P' R' Ho V'):sel.length≤Ho.length:=by
 have:(inW R.w sel).length=sel.length:=List.length_map _
 refine h.c'.wl▸?_; refine this▸?_
 refine Nat.le_of_not_lt fun q=>?_
 have:=h.le.w _ _ (List.getElem?_eq_getElem q)
 rw [List.getElem?_eq_none (Nat.le_refl _)] at this; injection this
theorem outT_old {b:Addr}{o:AO}(e:V b=some o)(p:inV V R sel b=none):(outR V (inV V R sel) R R' sel).τ b=R.τ b:=by
 show (bif (V b).isSome&&(inV V R sel b).isNone then R.τ b else (R'.τ b).map (mu sel R.w.length))=R.τ b
 rw [e,p]; rfl
theorem outT_new (h:Back W V R H sel P' R' Ho V'){b:Addr}(e:P' b≠none):(outR V (inV V R sel) R R' sel).τ b=(R'.τ b).map (mu sel R.w.length):=by
 show (bif (V b).isSome&&(inV V R sel b).isNone then R.τ b else (R'.τ b).map (mu sel R.w.length))=_
 rcases z:V b with _|⟨o⟩
 ·rfl
 ·rcases y:inV V R sel b with _|⟨o⟩
  ·exact absurd (h.off b o z y).2 e
  ·rfl
theorem outT_inv (h:Back W V R H sel P' R' Ho V'){b:Addr}{i:Nat}(e:(outR V (inV V R sel) R R' sel).τ b=some i):(∃ o,V b=some o∧V' b=some o∧R.τ b=some i∧P' b=none)∨∃ j o,R'.τ b=some j∧P' b=some o∧V' b=some o∧i=mu sel R.w.length j:=by
 have new:(R'.τ b).map (mu sel R.w.length)=some i→∃ j o,R'.τ b=some j∧P' b=some o∧V' b=some o∧i=mu sel R.w.length j:=fun e=>by
  obtain ⟨j,t,rfl⟩:=map_some e
  rcases q:P' b with _|⟨o⟩
  ·rw [h.c'.fre b q] at t; injection t
  ·exact ⟨j,o,t,rfl,h.pv b o q,rfl⟩
 have e:(bif (V b).isSome&&(inV V R sel b).isNone then R.τ b else (R'.τ b).map (mu sel R.w.length))=some i:=e
 rcases z:V b with _|⟨o⟩
 ·rw [z] at e; exact .inr (new e)
 ·rcases y:inV V R sel b with _|⟨o⟩
  ·rw [z,y] at e; exact .inl ⟨o,rfl,(h.off b o z y).1,e,(h.off b o z y).2⟩
  ·rw [z,y] at e; exact .inr (new e)
theorem Back.w (h:Back W V R H sel P' R' Ho V'){j:Nat}{x:Addr}(e:R'.w[j]?=some x):(outR V (inV V R sel) R R' sel).w[mu sel R.w.length j]?=some x:=by
 show (R.w++R'.w.drop sel.length)[_]?=_
 rcases q:sel[j]? with _|⟨i⟩
 ·have hl:=List.getElem?_eq_none_iff.mp q
  rw [mu_out hl,List.getElem?_append_right (Nat.le_add_right ..),Nat.add_sub_cancel_left,List.getElem?_drop,Nat.add_sub_cancel' hl,e]
 ·rw [mu_in q]
  have hi:i<R.w.length:=by rw [h.c.wl]; exact h.lt i (List.mem_of_getElem? q)
  have:=h.le.w j _ (inW_get q (List.getElem?_eq_getElem hi))
  rw [e] at this
  rw [List.getElem?_append_left hi,List.getElem?_eq_getElem hi,Option.some.inj this]
theorem Back.q (h:Back W V R H sel P' R' Ho V'){q:QV}{a:AV}(r:QR W R' q a):QR W (outR V (inV V R sel) R R' sel) (bkQ sel R.w.length q) a:=by
 rcases q with ⟨v⟩|⟨j⟩
 ·exact r
 ·obtain ⟨x,e,rfl⟩:=r; exact ⟨x,h.w e,rfl⟩
theorem Back.qs (h:Back W V R H sel P' R' Ho V'):∀{qs:List QV}{as:List AV},QRs W R' qs as→QRs W (outR V (inV V R sel) R R' sel) (qs.map (bkQ sel R.w.length)) as
 | [],z1,r=>r
 | z1::z2,z3,hz2=>by
  obtain ⟨a,t,rfl,r,g⟩:=hz2
  exact ⟨a,t,rfl,h.q r,h.qs g⟩
theorem Back.mv (h:Back W V R H sel P' R' Ho V'):Mv V R V' (outR V (inV V R sel) R R' sel) :=
 ⟨⟨h.le.f,fun j y e=>append_some e⟩,fun a o e=>(h.off a _ e (inV_out (by
  rcases q:R.F a with _|⟨o'⟩
  ·rfl
  ·exact absurd ((h.c.le a o' q).symm.trans e▸q) (h.c.nc a o)) fun i t=>absurd e (h.c.nt a i o t))).1⟩
theorem Back.core (h:Back W V R H sel P' R' Ho V'):Core W V' (outR V (inV V R sel) R R' sel) (mrg H sel Ho):=by
 have hl:=h.len
 have hn:=h.c.wl
 have hH:(setL sel H ((Ho.take sel.length).map (bkO sel H.length))).length=H.length:=setL_len _ _ _
 refine ⟨fun b e=>?_,fun b o e=>h.pv b o (h.c'.le b o e),fun b o e=>?_,h.c'.nc,fun b i v e q=>?_,fun b i e=>?_,?_,fun i x o e1 e2=>?_⟩
 ·rcases q:(outR V (inV V R sel) R R' sel).τ b with _|⟨i⟩
  ·rfl
  ·rcases outT_inv h q with ⟨o,_,g,_⟩|⟨j,o,_,_,g,_⟩ <;> (rw [e] at g; injection g)
 ·have hp:=h.c'.le b o e
  rw [outT_new h (by rw [hp]; exact fun z=>by injection z),h.c'.off b o e]; rfl
 ·rcases outT_inv h e with ⟨o,g1,g,t,_⟩|⟨j,o,t,g1,g,_⟩
  ·exact h.c.nt b i v t (g1.trans (g.symm.trans q))
  ·exact h.c'.nt b j v t (g1.trans (g.symm.trans q))
 ·show i<(setL sel H ((Ho.take sel.length).map (bkO sel H.length))++_).length
  rw [List.length_append,hH,List.length_map,List.length_drop]
  rcases outT_inv h e with ⟨o,_,_,t,_⟩|⟨j,o,t,_,_,rfl⟩
  ·exact Nat.lt_of_lt_of_le (h.c.tag b i t) (Nat.le_add_right ..)
  ·have hj:=h.c'.tag b j t
   rcases q:sel[j]? with _|⟨i⟩
   ·have:=List.getElem?_eq_none_iff.mp q; rw [mu_out this,hn]; exact Nat.add_lt_add_left (Nat.sub_lt_sub_right this hj) _
   ·rw [mu_in q]; exact Nat.lt_of_lt_of_le (h.lt i (List.mem_of_getElem? q)) (Nat.le_add_right ..)
 ·show (R.w++R'.w.drop sel.length).length=(setL sel H ((Ho.take sel.length).map (bkO sel H.length))++_).length
  rw [List.length_append,List.length_append,hH,List.length_map,List.length_drop,List.length_drop,hn,h.c'.wl]
 ·have new:∀{j:Nat}{o:OB},R'.w[j]?=some x→Ho[j]?=some o→i=mu sel R.w.length j→RootR W V' (outR V (inV V R sel) R R' sel) i x (bkO sel H.length o):=fun {j o} g1 g2 g3=>by
   subst g3
   refine hn▸?_
   refine RootR.mv (R:=R') (R':=outR V (inV V R sel) R R' sel) (Le.refl _) (fun b ob v t=>⟨h.pv b ob v,by rw [outT_new h (by rw [v]; exact fun z=>by injection z),t]; rfl⟩) ?_ (h.c'.rt j x o g1 g2)
   rcases o with _|_|⟨Cn,qs⟩|⟨qs⟩|⟨qs⟩
   ·rfl
   ·rfl
   ·exact ⟨_,rfl,fun as r=>h.qs r⟩
   ·exact ⟨_,rfl,fun as r=>h.qs r⟩
   ·exact ⟨_,rfl,fun as r=>h.qs r⟩
  have e1:(R.w++R'.w.drop sel.length)[i]?=some x:=e1
  have e2:(setL sel H ((Ho.take sel.length).map (bkO sel H.length))++(Ho.drop sel.length).map (bkO sel H.length))[i]?=some o:=e2
  by_cases hi:i<H.length
  ·rw [List.getElem?_append_left (hn▸hi)] at e1
   rw [List.getElem?_append_left (Nat.lt_of_lt_of_eq hi hH.symm)] at e2
   by_cases hs:i∈sel
   ·obtain ⟨p,hp⟩:=List.mem_iff_getElem?.mp hs
    have hpl:p<sel.length:=(List.getElem?_eq_some_iff.mp hp).1
    have hpo:p<Ho.length:=Nat.lt_of_lt_of_le hpl hl
    have e3:=setL_in (o:=bkO sel H.length Ho[p]) sel H ((Ho.take sel.length).map (bkO sel H.length)) p h.nd hp (by rw [List.getElem?_map,List.getElem?_take,if_pos hpl,List.getElem?_eq_getElem hpo]; rfl) hi
    rw [e3] at e2; obtain rfl:=Option.some.inj e2
    exact new (h.le.w p x (inW_get hp e1)) (List.getElem?_eq_getElem hpo) (mu_in hp).symm
   ·rw [setL_out _ _ _ hs] at e2
    refine RootR.mono ⟨h.mv.le,fun b ob v t=>?_,fun b t=>?_⟩ o (h.c.rt i x o e1 e2)
    ·refine (h.off b ob v (inV_out ?_ fun j t'=>?_)).1
     ·rcases q:R.F b with _|⟨o'⟩
      ·rfl
      ·rw [h.c.off b o' q] at t; injection t
     ·rw [t] at t'; obtain rfl:=Option.some.inj t'
      rcases z:mem i sel with _|_
      ·rfl
      ·exact absurd (mem_of.mp z) hs
    ·rcases v:V b with _|⟨ob⟩
     ·rw [h.c.fre b v] at t; injection t
     ·refine (outT_old v (inV_out ?_ fun j t'=>?_)).trans t
      ·rcases q:R.F b with _|⟨o'⟩
       ·rfl
       ·rw [h.c.off b o' q] at t; injection t
      ·rw [t] at t'; obtain rfl:=Option.some.inj t'
       rcases z:mem i sel with _|_
       ·rfl
       ·exact absurd (mem_of.mp z) hs
  ·have hi:=Nat.le_of_not_lt hi
   rw [List.getElem?_append_right (hn▸hi),List.getElem?_drop,hn] at e1
   rw [List.getElem?_append_right (Nat.le_trans (Nat.le_of_eq hH) hi),hH,List.getElem?_map,List.getElem?_drop] at e2
   obtain ⟨o',e3,rfl⟩:=map_some e2
   exact new e1 e3 (by rw [mu_out (Nat.le_add_right ..),hn]; exact sub_ar3 hi)
end
theorem renOs_lt {H:List OB}{sel:List Nat}{Hi:List OB}(h:renOs H sel sel=some Hi):∀ i∈sel,i<H.length:=fun i hi=>by
 refine cp fun kk=>?_
 obtain ⟨h1,h2⟩:=renOs_get h
 obtain ⟨p,hp⟩:=List.mem_iff_getElem?.mp hi
 have hl:p<Hi.length:=by rw [h1]; exact (List.getElem?_eq_some_iff.mp hp).1
 obtain ⟨i',o',e1,e2,_⟩:=h2 p _ (List.getElem?_eq_getElem hl)
 rw [hp] at e1; obtain rfl:=Option.some.inj e1
 refine kk ?_
 exact (List.getElem?_eq_some_iff.mp e2).1
section
variable {C:Fx} {ρ:En} {H:List OB} {k l:Sk} {s:Shared} {R:Rt} {V:View} {m:Mp} {K:KQ}
theorem inV_dom (b:Addr)(o:AO){sel:List Nat}(h:inV V R sel b=some o):(inR R sel).F b=some o∨∃ i,(inR R sel).τ b=some i:=by
 rcases q:R.F b with _|⟨o'⟩
 ·unfold inV at h; rw [q] at h
  rcases t:R.τ b with _|⟨i⟩
  ·rw [t] at h; injection h
  ·rw [t] at h
   have h:(bif mem i sel then V b else none)=some o:=h
   rcases z:mem i sel with _|_
   ·rw [z] at h; injection h
   ·obtain ⟨p,hp⟩:∃ p,fnd i sel=some p:=by
     rcases y:fnd i sel with _|⟨p⟩
     ·have:∀ l:List Nat,mem i l=true→fnd i l≠none:=by
       intro l
       induction l with
       | nil=>intro h; injection h
       | cons j r ih =>
        intro h
        unfold mem at h; unfold fnd
        rcases w:i.beq j with _|_
        ·rw [w] at h
         rcases v:fnd i r with _|⟨p⟩
         ·exact absurd v (ih h)
         ·exact fun e=>by injection e
        ·exact fun e=>by injection e
      exact absurd y (this sel z)
     ·exact ⟨p,rfl⟩
    exact .inr ⟨p,inT_of t hp⟩
 ·rw [inV_fro q] at h; exact .inl (q.trans h)
theorem q_own (st:St C ρ H (l++k) s){f:Nat}(h:callQ C.P f H (l.map (·.1)) K):Kp C.W.K (.ref (fAd C.W f)) s.heap∧Wp C (call (.ref (fAd C.W f)) (l.map (·.2))) (Pst C ρ k K) s:=by
 refine cp fun kk=>?_
 obtain ⟨R,V,m,o⟩:=st
 refine kk ?_
 unfold callQ at h
 refine cp fun kk=>?_
 obtain ⟨nd,h⟩:=ifB_of h
 obtain ⟨as,h1,h⟩:=opB_of h
 obtain ⟨Hi,h2,h⟩:=opB_of h
 obtain ⟨r,hg,h⟩:=Gm.ask_of h
 refine kk ?_
 generalize (l.map (·.1)).foldl (selQ H) []=sel at nd h1 h2 h
 have hr:=renQs_ok o.c h1 (Sk.rs fun p hp=>o.d.sk p (List.mem_append_left _ hp))
 have ca:=C.snd f Hi as r hg (inV V R sel) (inR R sel) _ (o.c.into nd h2) (fun b o e=>inV_dom b o e) hr
 refine ⟨⟨C.bok.kin o.f.toSC,.inl (ca.keep _ rfl)⟩,?_⟩
 have w:=body_call (fv:=.ref (fAd C.W f)) (E:=C.E) C.bok o.f (ca.frame (inV_le o.c)) fun v s' V' stk a xf hz=>by obtain ⟨P',⟨e,l⟩,lp⟩:=hz; exact C.ext m V' v s' stk a xf (by subst e; exact h) ((o.d.f0.trans l).trans lp)
 refine Wp.mono w fun a s' h'=>?_
 refine cp fun kk=>?_
 obtain ⟨V',f',P',⟨q,Ho,R',e,c',le,rq⟩,pv,off⟩:=h'
 subst e
 have B:Back C.W V R H sel P' R' Ho V':=⟨o.c,nd,renOs_lt h2,c',le,pv,off⟩
 have hq:=B.q rq
 rw [o.c.wl] at hq
 refine kk ?_
 exact ⟨_,_,h,_,V',m,f',B.core,((o.d.skm fun p hp=>o.d.sk p (List.mem_append_right _ hp)).mv B.mv).push hq⟩
theorem nm_nodup:nmL.Nodup:=by decide +kernel
theorem nmG_at {x:Nat}(h:x<nmL.length):nmG x=nmL[x]:=by unfold nmG; rw [List.getElem?_eq_getElem h]; rfl
theorem nmG_inj {x y:Nat}(hx:x<nmL.length)(hy:y<nmL.length)(e:nmG x=nmG y):x=y:=by
 rw [nmG_at hx,nmG_at hy] at e
 exact (List.getElem_inj nm_nodup).mp e
theorem lk_st:∀(ρ:En)(x:Nat)(q:QV)(y:Nat),lk (st ρ x q) y=if y=x then some q else lk ρ y
 | [],x,q,y=>by
  show (bif y.beq x then some q else none)=_
  rcases e:y.beq x with _|_
  ·rw [if_neg (beq_ne e)]; rfl
  ·rw [if_pos (beq_of e)]; rfl
 | (z,p)::r,x,q,y=>by
  unfold st
  rcases e:x.beq z with _|_
  ·show (bif y.beq z then some p else lk (st r x q) y)=if y=x then some q else (bif y.beq z then some p else lk r y)
   refine (Eq.symm (lk_st r x q y))▸?_
   rcases e2:y.beq z with _|_
   ·rfl
   ·exact (if_neg fun e3:y=x=>beq_ne e (e3.symm.trans (beq_of e2))).symm
  ·refine (beq_of e)▸?_
   show (bif y.beq x then some q else lk r y)=if y=x then some q else (bif y.beq x then some p else lk r y)
   rcases e2:y.beq x with _|_
   ·rw [if_neg (beq_ne e2)]; rfl
   ·rw [if_pos (beq_of e2)]; rfl
theorem q_name {x:Nat}{q:QV}{p:Pos}(st:St C ρ H k s)(h:lk ρ x=some q)(hk:K H q):Wp C (eval (.Name (nmG x) p) C.env) (Pst C ρ k K) s:=by
 refine cp fun kk=>?_
 obtain ⟨R,V,m,o⟩:=st
 refine kk ?_
 rcases (o.d.nm x q h).2 with ⟨a,kd,g,r⟩|⟨a,b,kd,g,e,r⟩
 ·refine cp fun kk=>?_
  obtain ⟨mr,hn,hm⟩:=o.f.ns
  obtain ⟨u,hu,rfl⟩:=hm _ a g
  refine kk ?_
  exact wpAny_Name (wpAny_loadName_local C.bok.kind ((C.eok.kd _).symm.trans kd) hn hu ⟨H,q,hk,R,V,m,o.f,o.c,o.d.push r⟩) (kd_ne C.eok kd).1
 ·refine cp fun kk=>?_
  obtain ⟨ob,hob,w,hw,he⟩:=o.f.view _ _ e
  refine kk ?_
  rcases w with _|⟨u⟩
  ·injection he
  ·refine cp fun kk=>?_
   obtain rfl:=Option.some.inj he
   have fin:Pst C ρ k K u s:=⟨H,q,hk,R,V,m,o.f,o.c,o.d.push r⟩
   refine kk ?_
   rcases kd with kd|kd
   ·exact wpAny_Name (wpAny_loadName_cell C.bok.kind ((C.eok.kd _).symm.trans kd) (C.eok.cl _ b g) ⟨ob,hob,hw⟩ fin) (kd_ne C.eok kd).1
   ·exact wpAny_Name (wpAny_loadName_free C.bok.kind ((C.eok.kd _).symm.trans kd) (C.eok.cl _ b g) ⟨ob,hob,hw⟩ fin (kd_ne C.eok kd).2) (kd_ne C.eok kd).1
theorem isGl_of {kd:Str→Option NameKind}{x:Str}(h:isGl kd x=true):kd x=some .globalImplicit:=by
 unfold isGl at h
 rcases q:kd x with _|⟨n⟩
 ·rw [q] at h; injection h
 ·rw [q] at h; cases n <;> first|rfl|injection h
theorem q_glob {x:Str}{p:Pos}{a:AV}{Q:Value→Shared→Prop}(st:St C ρ H k s)(hk:isGl C.kd x=true)(hv:gv C.W.K x=some a)(h:∀ v,er v=a→Q v s):Wp C (eval (.Name x p) C.env) Q s:=by
 refine cp fun kk=>?_
 obtain ⟨R,V,m,o⟩:=st
 have kd:C.c.kd x=some .globalImplicit:=isGl_of hk
 have X:=C.bok.kin o.f.toSC
 have T:=C.bok.top o.f.toSC
 have hns:s.heap.Ns C.env.globals C.W.mg:=by rw [C.bok.glob]; exact T.g
 refine kk ?_
 unfold gv at hv
 by_cases hn:x = "__name__"
 ·rw [if_pos hn] at hv; injection hv
 ·rw [if_neg hn] at hv
  rcases q:nsIn C.W.K mainGlobals x with _|⟨r⟩
  ·rw [q] at hv; injection hv
  ·rw [q] at hv
   rcases r with _|⟨v⟩
   ·refine cp fun kk=>?_
    obtain ⟨u,hb,e⟩:=map_some hv
    refine kk ?_
    exact Name_function_global C.bok.kind ((C.eok.kd x).symm.trans kd) (loadGlobal_builtin hns (mg_none_of X T.g q) (by rw [C.bok.blt]; exact T.b) ((T.builtins x hn).trans hb) (h u e)) (kd_ne C.eok kd).1
   ·exact Name_function_global C.bok.kind ((C.eok.kd x).symm.trans kd) (loadGlobal_global hns (mg_of X T.g q) (h v (Option.some.inj hv))) (kd_ne C.eok kd).1
theorem stoK_of {kd:Str→Option NameKind}{x:Nat}(h:stoK kd x=true):x<nmL.length∧(kd (nmG x)=some .local∨kd (nmG x)=some .cell):=by
 unfold stoK at h
 rw [Bool.and_eq_true] at h
 refine ⟨Nat.le_of_ble_eq_true h.1,?_⟩
 have h:=h.2
 rcases q:kd (nmG x) with _|⟨n⟩
 ·rw [q] at h; injection h
 ·rw [q] at h; cases n <;> first|exact .inl rfl|exact .inr rfl|injection h
theorem q_store {x:Nat}{q:QV}{v:Value}(st:St C ρ H ((q,v)::k) s)(hs:stoK C.kd x=true)(hc:∀ a v,C.cl (nmG x)=some a→C.C0 a≠some (.cell v)):Wp C (storeName C.env (nmG x) v) (fun zz s=>St C (Mine.Internal.st ρ x q) H k s) s:=by
 obtain ⟨R,V,m,o⟩:=st
 obtain ⟨hx,kd⟩:=stoK_of hs
 have rq:QR C.W R q (er v):=o.d.sk _ (.head _)
 have old:∀ y p,lk (Mine.Internal.st ρ x q) y=some p→(y=x∧p=q)∨(nmG y≠nmG x∧y<nmL.length∧NmR C.b m V R (nmG y) p):=fun y p e=>by
  rw [lk_st] at e
  by_cases h:y=x
  ·rw [if_pos h] at e; exact .inl ⟨h,(Option.some.inj e).symm⟩
  ·rw [if_neg h] at e; obtain ⟨h1,h2⟩:=o.d.nm y p e; exact .inr ⟨fun z=>h (nmG_inj h1 hx z),h1,h2⟩
 rcases kd with kd|kd
 ·obtain ⟨mr,hn,hm⟩:=o.f.ns
  refine wpAny_storeName_local ((C.eok.kd _).symm.trans kd) hn (fun h' hn' hs=>⟨R,V,_,o.f.store hm (fun b o hb q=>(hs.2 b hb).trans q) hn',o.c,fun y p e=>?_,fun p hp=>o.d.sk p (.tail _ hp),o.d.f0,o.d.w0,o.d.ce,o.d.c0⟩) (by rw [C.bok.kind]; rfl)
  rcases old y p e with ⟨rfl,rfl⟩|⟨h1,h2,h3⟩
  ·exact ⟨hx,.loc (er v) kd (if_pos rfl) rq⟩
  ·refine ⟨h2,?_⟩
   rcases h3 with ⟨a,k,g,r⟩|⟨a,b,k,g,e,r⟩
   ·exact .loc a k ((if_neg h1).trans g) r
   ·exact .cel a b k g e r
 ·obtain ⟨a,ha⟩:=C.clk (nmG x) (by unfold isCl; rw [kd])
  obtain ⟨w0,hv⟩:=o.d.ce _ _ ha
  obtain ⟨ob,hob,w,hw,he⟩:=o.f.view _ _ hv
  refine wpAny_storeName_cell C.bok.kind ((C.eok.kd _).symm.trans kd) (C.eok.cl _ a ha) ⟨ob,hob,hw⟩ fun h' ⟨ob',h1,h2⟩ hs=>⟨R,_,m,o.f.turn (t:=s.toks) (o:=.cell (some (er v))) hv (fun b o hb q=>(hs.2 b hb).trans q) h1 ⟨_,h2,rfl⟩,o.c.cell hv,fun y p e=>?_,fun p hp=>o.d.sk p (.tail _ hp),o.d.f0,o.d.w0,fun y b e=>?_,fun b v e=>(put_ne _ _ fun z=>hc a v ha (by rw [← z]; exact e)).trans (o.d.c0 b v e)⟩
  ·rcases old y p e with ⟨rfl,rfl⟩|⟨h1,h2,h3⟩
   ·exact ⟨hx,.cel (er v) a (.inl kd) ha (put_self _ _ _) rq⟩
   ·refine ⟨h2,?_⟩
    rcases h3 with ⟨a,k,g,r⟩|⟨b,d,k,g,e,r⟩
    ·exact .loc a k g r
    ·exact .cel b d k g ((put_ne _ _ fun z=>h1 (C.inj _ _ _ (z▸g) ha)).trans e) r
  ·by_cases z:b=a
   ·exact ⟨_,by rw [z]; exact put_self _ _ _⟩
   ·obtain ⟨w,g⟩:=o.d.ce y b e; exact ⟨w,(put_ne _ _ z).trans g⟩
end
noncomputable def shp:Expr→Bool
 | .Set z1 z2 z3=>false
 | .Starred z1 z2=>false
 | .Slice z1 z2 z3 z4=>false
 | z1=>true
theorem toE_shp (x:XE):∀ e,shp (toE x e)=true:=by
 induction x with
 | fz a ih=>exact ih
 | _=>intro e; rfl
theorem sh_mark {op:CmpOp}{E:Expr}(h:shp E=true):behindInMarks op E=false:=by
 cases E <;> first|rfl|exact absurd h Bool.false_ne_true
theorem sh_sub {E:Expr}(h:shp E=true)(o i:Value):subscripted E false o i=operate [o,i] (getItem o i):=by
 cases E <;> first|rfl|exact absurd h Bool.false_ne_true
theorem sh_star {E:Expr}(h:shp E=true)(r:List Expr)(env:Env):starEach (E::r) env=(false,eval E env)::starEach r env:=by
 cases E <;> first|rfl|exact absurd h Bool.false_ne_true
theorem sh_nos {E:Expr}(h:shp E=true){r:List Expr}(g:noStar r=true):noStar (E::r)=true:=by
 cases E <;> first|exact g|exact absurd h Bool.false_ne_true
theorem sh_fold {E:Expr}(h:shp E=true)(env:Env)(v:Value):foldedSetIterable E env v=pure v:=by
 cases E <;> first|rfl|exact absurd h Bool.false_ne_true
theorem mark (op:CmpOp)(x:XE)(e:Expr)(t:Sem Value):markedBehindIn op (toE x e) t=t:=markedBehindIn_of_false (sh_mark (toE_shp x e))
theorem toL_nos (x:XE):∀ es,noStar (toL x es)=true:=by
 induction x with
 | cons a r _ ih=>exact fun es=>sh_nos (toE_shp a _) (ih _)
 | _=>exact fun es=>rfl
theorem plX_of (x:XE):∀ e,plX x=true→plainE (toE x e):=by
 induction x with
 | fz a ih=>exact ih
 | v _=>exact fun zz zz=>trivial
 | g _=>exact fun zz zz=>trivial
 | att _ _ _=>exact fun zz zz=>trivial
 | sub _ _ _ _=>exact fun zz zz=>trivial
 | _=>exact fun zz h=>by injection h
theorem lenX_of (x:XE):∀ es,(toL x es).length=lenX x:=by
 induction x with
 | cons a r _ ih=>exact fun es=>congrArg (·+1) (ih _)
 | _=>exact fun es=>rfl
inductive Bx (C:Fx)(ρ:En)(k:Sk)(K:Bool→List OB→Prop)(v:Value)(s:Shared):Prop
 | mk (b:Bool) (H:List OB) (e:v=.bool b) (h:K b H) (st:St C ρ H k s)
noncomputable def boO (o:Bool):BoolOp:=bif o then .And else .Or
structure OneX (x:XE):Prop where
 ev:∀(C:Fx)(e:Expr)(ρ:En)(H:List OB)(k:Sk)(s:Shared)(K:KQ),okX x C.kd=true→St C ρ H k s→sX x C.P ρ H K→Wp C (eval (toE x e) C.env) (Pst C ρ k K) s
 et:tsX x=true→∀(C:Fx)(e:Expr)(ρ:En)(H:List OB)(k:Sk)(s:Shared)(K:Bool→List OB→Prop),okX x C.kd=true→St C ρ H k s→sX x C.P ρ H (fun H q=>boolQ q fun b=>K b H)→Wp C (isTrue (toE x e) C.env (eval (toE x e) C.env)) (Tst C ρ k K) s
section
variable {C:Fx} {ρ:En} {H:List OB} {k l:Sk} {s:Shared} {K:KQ} {a b c:XE}
theorem t_of {x:XE}(ev:∀(C:Fx)(e:Expr)(ρ:En)(H:List OB)(k:Sk)(s:Shared)(K:KQ),okX x C.kd=true→St C ρ H k s→sX x C.P ρ H K→Wp C (eval (toE x e) C.env) (Pst C ρ k K) s)(h:∀ e env w,isTrue (toE x e) env w=w >>= fun v=>standAt (toE x e).pos >>= fun zz=>holding [v] (truthy v)):OneX x :=
 ⟨ev,fun zz C e ρ H k s K ok st q=>by
  rw [h]
  refine (ev C e ρ H k s _ ok st q).v fun H q v s h st=>?_
  obtain ⟨b,rfl,h,st⟩:=st.bool h
  exact .at (.hold (q_tru ⟨H,h,st⟩))⟩
theorem Pst.bx {K:Bool→List OB→Prop}{v:Value}(h:Pst C ρ k (fun H q=>boolQ q fun b=>K b H) v s):Bx C ρ k K v s:=h.rec fun H q h st=>(by obtain ⟨b,e,h,st⟩:=st.bool h; exact ⟨b,H,e,h,st⟩)
theorem Bx.v {v:Value}(h:Bx C ρ k (fun b H=>conB H b K) v s):Pst C ρ k K v s:=h.rec fun b H e h st=>⟨H,_,h,st.con fun F=>congrArg er e⟩
theorem frz_st {K:List OB→PV→Prop}{q:QV}{v:Value}{G:Prop}(st:St C ρ H ((q,v)::k) s)(h:frz H q K)(g:∀ H u,K H u→St C ρ H ((.fr u,v)::k) s→G):G :=
 st.rec fun R V m o=>(frzQ_ok h o.c (o.d.sk _ (.head _))).rec fun H' u R' h c l kp r=>g H' u h ⟨R',V,m,o.f,c,((o.d.mv ⟨l,fun zz zz e=>e⟩).skm fun p hp=>(o.d.sk p (.tail _ hp)).mono l).push r⟩
theorem brB_t {P Q:Prop}(h:brB true P Q):P:=h
theorem brB_f {P Q:Prop}(h:brB false P Q):Q:=h
theorem dup2 {p q:QV×Value}:∀ x∈p::q::p::k,x∈p::q::k:=fun x h=>by
 cases h with
 | head=>exact .head _
 | tail z1 h=>cases h with
  | head=>exact .tail _ (.head _)
  | tail z1 h=>cases h with
   | head=>exact .head _
   | tail z1 h=>exact .tail _ (.tail _ h)
theorem an {a b:Bool}(h:(a&&b)=true):a=true∧b=true:=by rwa [Bool.and_eq_true] at h
theorem x_k (v:PV):OneX (.k v):=t_of (fun C e ρ H k s K ok st q=>by
 cases v with
 | none=>exact wpAny_Constant_none ⟨H,_,q,st.con fun zz=>rfl⟩
 | bool b=>exact wpAny_Constant_bool ⟨H,_,q,st.con fun zz=>rfl⟩
 | int i=>exact wpAny_Constant_int (st.conT q fun zz=>rfl)
 | _=>injection ok) fun zz zz zz=>rfl
theorem glob_mem {p:Int×String}(h:p∈intsT):(Str.ofString p.2,GD.int p.1)∈globT:=List.mem_append_left _ (List.mem_append_left _ (List.mem_append_right _ (List.mem_map_of_mem (f:=fun p:Int×String=>(Str.ofString p.2,GD.int p.1)) h)))
theorem x_g (j:Nat):OneX (.g j):=t_of (fun C e ρ H k s K ok st q=>by
 refine cp fun kk=>?_
 obtain ⟨p,h,q⟩:=opB_of q
 have ok:glO C.kd (intsT[j]?.map fun p=>Str.ofString p.2)=true:=ok
 rw [h] at ok
 refine kk ?_
 show Wp C (eval (.Name ((intsT[j]?.map fun p=>Str.ofString p.2).getD Str.empty) e.pos) C.env) _ s
 rw [h]
 exact q_glob st ok (C.pf.gl _ (glob_mem (List.mem_of_getElem? h))) fun v e=>⟨H,_,q,st.con fun zz=>e⟩) fun zz zz zz=>rfl
theorem x_v (x:Nat):OneX (.v x):=t_of (fun C e ρ H k s K ok st q=>by
 refine cp fun kk=>?_
 obtain ⟨p,h,q⟩:=opB_of q
 refine kk ?_
 exact q_name st h q) fun zz zz zz=>rfl
theorem x_fz (iha:OneX a):OneX (.fz a):=⟨fun C e ρ H k s K ok st q=>(iha.ev C e ρ H k s _ ok st q).mono fun v s p=>p.rec fun H q h st=>frz_st st h fun H u h st=>⟨H,_,h,st⟩,fun h=>by cases h⟩
theorem x_bin (o:BO)(iha:OneX a)(ihb:OneX b):OneX (.bin o a b):=t_of (fun C e ρ H k s K ok st q =>
 (iha.ev C (k0 e) ρ H k s _ (an ok).1 st q).f fun H u va s q st=>(ihb.ev C (k1 e) ρ H _ s _ (an ok).2 st q).hold.f fun H w vb s q st=>.at (.op (q_bin st q))) fun zz zz zz=>rfl
theorem x_neg (iha:OneX a):OneX (.neg a):=t_of (fun C e ρ H k s K ok st q=>(iha.ev C (k0 e) ρ H k s _ ok st q).f fun H u va s q st=>.at (.hold (q_neg st q))) fun zz zz zz=>rfl
theorem x_not (iha:OneX a):OneX (.not a):=⟨fun C e ρ H k s K ok st q=>(iha.ev C (k0 e) ρ H k s _ (an ok).2 st q).v fun H u va s q st=>.at (.hold (q_not st q)),
 fun zz C e ρ H k s K ok st q=>(iha.et (an ok).1 C (k0 e) ρ H k s (fun b H=>K (!b) H) (an ok).2 st q).t fun H b s h st=>.pure ⟨H,h,st⟩⟩
theorem Wp.bo {β:Type}{t:Sem Value}{f:Value→Sem β}{K:Bool→Prop}{Q:β→Shared→Prop}(h:Wp C t (Bst C ρ H k K) s)(g:∀ b s,K b→St C ρ H k s→Wp C (f (.bool b)) Q s):Wp C (t >>= f) Q s :=
 h.bind fun v s p=>p.rec fun r e h st=>by rw [e]; exact g r s h st
theorem Wp.tb {β:Type}{b:Bool}{vs:List Value}{f:Bool→Sem β}{Q:β→Shared→Prop}(h:Wp C (f b) Q s):Wp C (holding vs (truthy (.bool b)) >>= f) Q s :=
 Wp.bind (.hold (q_tru (Q:=fun r s'=>r=b∧s'=s) ⟨rfl,rfl⟩)) fun r s' e=>by rw [e.1,e.2]; exact h
theorem x_cmp (o:CO)(iha:OneX a)(ihb:OneX b):OneX (.cmp o a b):=⟨fun C e ρ H k s K ok st q =>
  (iha.ev C (k0 e) ρ H k s _ (an ok).1 st q).f fun H u va s q st=>Wp.f (k:=(.fr u,va)::k) (.hold (by rw [mark]; exact ihb.ev C (k1 e) ρ H _ s _ (an ok).2 st q)) fun H w vb s q st=>.at (.op ((q_cmp st q).mono fun zz zz h=>h.v)),
 fun zz C e ρ H k s K ok st q =>
  (iha.ev C (k0 e) ρ H k s _ (an ok).1 st q).f fun H u va s q st=>Wp.f (k:=(.fr u,va)::k) (.hold (by rw [mark]; exact ihb.ev C (k1 e) ρ H _ s _ (an ok).2 st q)) fun H w vb s q st=>.at (.bo (.op (q_cmp st q)) fun r s h st=>.hold (q_tru ⟨H,h,st⟩))⟩
theorem x_cmp2 (o p:CO)(iha:OneX a)(ihb:OneX b)(ihc:OneX c):OneX (.cmp2 o p a b c):=⟨fun C e ρ H k s K ok st q =>
  (iha.ev C (k0 e) ρ H k s _ (an (an ok).1).1 st q).f fun H u va s q st=>(ihb.ev C (k1 e) ρ H _ s _ (an (an ok).1).2 st q).hold.f fun H w vb s q st=>.at (.bo (.hold (q_cmp (st.sub dup2) q)) fun r s h st=>.rel (.tb (by
   rcases r with _|_
   ·exact .pure ⟨H,_,brB_f h,st.drop.con fun zz=>rfl⟩
   ·exact Wp.f (k:=(.fr w,vb)::k) (.hold (by rw [mark]; exact ihc.ev C (k2 e) ρ H _ s _ (an ok).2 st (brB_t h))) fun H z vc s q st=>.at (.op ((q_cmp st q).mono fun zz zz h=>h.v))))),
 fun zz C e ρ H k s K ok st q =>
  (iha.ev C (k0 e) ρ H k s _ (an (an ok).1).1 st q).f fun H u va s q st=>(ihb.ev C (k1 e) ρ H _ s _ (an (an ok).1).2 st q).hold.f fun H w vb s q st=>.at (.bo (.hold (q_cmp (st.sub dup2) q)) fun r s h st=>.rel (.tb (by
   rcases r with _|_
   ·exact .pure ⟨H,brB_f h,st.drop⟩
   ·exact Wp.f (k:=(.fr w,vb)::k) (.hold (by rw [mark]; exact ihc.ev C (k2 e) ρ H _ s _ (an ok).2 st (brB_t h))) fun H z vc s q st=>.at (.bo (.op (q_cmp st q)) fun r s h st=>.hold (q_tru ⟨H,h,st⟩)))))⟩
theorem x_ife (iha:OneX a)(ihb:OneX b)(ihc:OneX c):OneX (.ife a b c):=⟨fun C e ρ H k s K ok st q=>(iha.et (an (an (an ok).1).1).1 C (k0 e) ρ H k s _ (an (an (an ok).1).1).2 st q).t fun H r s q st=>by
  cases r with
  | true=>exact ihb.ev C (k1 e) ρ H k s K (an (an ok).1).2 st q
  | false=>exact ihc.ev C (k2 e) ρ H k s K (an ok).2 st q,fun h=>by cases h⟩
theorem x_att (f:Nat)(iha:OneX a):OneX (.att a f):=t_of (fun C e ρ H k s K ok st q=>by
 show Wp C (attributeBase (toE a (k0 e)) (fnm f) C.env (eval (toE a (k0 e)) C.env) >>= fun o=>standAt e.pos.atName >>= fun zz=>holding [o] (getAttr o (fnm f) true) >>= fun r=>letTemporaryGo (toE a (k0 e)) o r >>= fun zz=>pure r) _ s
 rw [base_plain (plX_of a _ (an ok).1)]
 exact (iha.ev C (k0 e) ρ H k s _ (an ok).2 st q).v fun H u va s q st=>.at (.bind (.hold (q_att st q)) fun v s h=>letGo_ok (wpAny_pure h))) fun zz zz zz=>rfl
theorem x_sub (iha:OneX a)(ihb:OneX b):OneX (.sub a b):=t_of (fun C e ρ H k s K ok st q =>
 (iha.ev C (k0 e) ρ H k s _ (an ok).1 st q).v fun H u va s q st=>(ihb.ev C (k1 e) ρ H _ s _ (an ok).2 st q).hold.f fun H j vb s q st=>.at (by
  obtain ⟨hT,g⟩:=q_sub st q
  exact sub_tail hT (sh_sub (toE_shp b _) _ _) g)) fun zz zz zz=>rfl
theorem sO_ok {x:XE}(ih:OneX x){e:Expr}{b:Bool}{K:List OB→Option Int→Prop}{Q:Value→Shared→Prop}(hb:isNilX x=b)(ok:okX x C.kd=true)(st:St C ρ H k s)(q:sO b H (sX x C.P ρ H) K)(h:∀ H v y i s,bound y=some i→K H i→St C ρ H ((.fr y,v)::k) s→Q v s) :
  Wp C (evalPart (bif b then none else some (toE x e)) C.env) Q s:=by
 rcases b with _|_
 ·exact (ih.ev C e ρ H k s _ ok st q).mono fun v s p=>p.rec fun H q g st=>frz_st st g fun H u g st=>(by obtain ⟨i,e,g⟩:=opB_of g; exact h H v u i s e g st)
 ·exact Wp.pure (a:=Value.none) (h H _ .none none s rfl q (st.con fun zz=>rfl))
theorem Wp.seq {α β:Type}{t:Sem α}{f:α→Sem β}{Q:β→Shared→Prop}(h:Wp C t (fun a s=>Wp C (f a) Q s) s):Wp C (t >>= f) Q s:=wpAny_bind h
theorem x_cut (iha:OneX a)(ihb:OneX b)(ihc:OneX c):OneX (.cut a b c):=t_of (fun C e ρ H k s K ok st q =>
 (iha.ev C (k0 e) ρ H k s _ (an (an ok).1).1 st q).f fun H u va s q st=>.seq (.hold (wpAny_Slice (sO_ok ihb rfl (an (an ok).1).2 st q fun H vb x i s hx q st=>sO_ok ihc rfl (an ok).2 st q fun H vc y j s hy q st=>by
  rw [evalPart_none]
  refine wpAny_pure (Wp.at ?_)
  exact sub_tail (q_cut st hx hy q).1 rfl (q_cut st hx hy q).2)))) fun zz zz zz=>rfl
end
noncomputable def ManyX (x:XE):Prop:=∀(C:Fx)(es:List Expr)(p:Pos)(ρ:En)(H:List OB)(k:Sk)(s:Shared)(K:List OB→List QV→Prop),okX x C.kd=true→St C ρ H k s→sXs x C.P ρ H K→Wp C (spliced (backTo p (starEach (toL x es) C.env))) (Lst C ρ k K) s
section
variable {C:Fx} {ρ:En} {H:List OB} {k l:Sk} {s:Shared} {K:KQ} {a b c as r:XE}
theorem in_app {p:QV×Value}:∀ x∈p::l++k,x∈l++p::k:=fun x h=>by
 rcases List.mem_cons.mp h with rfl|h
 ·exact List.mem_append_right _ (.head _)
 ·rcases List.mem_append.mp h with h|h
  ·exact List.mem_append_left _ h
  ·exact List.mem_append_right _ (.tail _ h)
theorem l_nil:ManyX .nil:=fun C es p ρ H k s K ok st q=>Wp.pure (a:=[]) ⟨H,[],q,rfl,st⟩
theorem l_cons (iha:OneX a)(ihr:ManyX r):ManyX (.cons a r):=fun C es p ρ H k s K ok st q=>by
 show Wp C (spliced (backTo p (starEach (toE a (hdE es)::toL r es.tail) C.env))) _ s
 rw [sh_star (toE_shp a _)]
 exact Wp.v (iha.ev C (hdE es) ρ H k s _ (an ok).1 st q) fun H u va s q st=>Wp.seq (Wp.pure (Wp.seq (.hold ((ihr C es.tail p ρ H _ s _ (an ok).2 st q).mono fun vs s h=>h.rec fun H l h e st=>by
  refine (Eq.symm e)▸?_
  exact .pure ⟨H,(u,va)::l,h,rfl,st.sub in_app⟩))))
theorem call_w {fv:Value}{first:List Value}{es:List Expr}{p:Pos}{Q:Value→Shared→Prop}(hs:noStar es=true)(h:Wp C (spliced (backTo p (starEach es C.env))) (fun vs s=>Kp C.W.K fv s.heap∧Wp C (call fv (first++vs)) Q s) s) :
  Wp C (callWith p fv first (backTo p (starEach es C.env)) []) Q s:=callWith_w (K:=C.W.K) hs h
theorem opN_mem {f:Nat}{x:Str}:∀{l:List (Nat×String)},opN f l=some x→∃ n,(f,n)∈l∧x=Str.ofString n
 | [],h=>by injection h
 | (g,n)::r,h=>by
  unfold opN at h
  rcases q:f.beq g with _|_
  ·rw [q] at h; obtain ⟨m,h1,h2⟩:=opN_mem (l:=r) h; exact ⟨m,.tail _ h1,h2⟩
  ·rw [q] at h; obtain rfl:=Option.some.inj h; exact ⟨n,by rw [beq_of q]; exact .head _,rfl⟩
theorem fns_lt:∀ p∈fnsT,p.1.blt 1000=true:=by decide +kernel
theorem fn_mem {p:Nat×String}(h:p∈fnsT):(Str.ofString p.2,GD.fn p.1)∈globT:=List.mem_append_left _ (List.mem_append_left _ (List.mem_append_left _ (List.mem_map_of_mem (f:=fun p:Nat×String=>(Str.ofString p.2,GD.fn p.1)) h)))
theorem fAd_fn {W:Wo}{f:Nat}(h:f.blt 1000=true):fAd W f=W.ad f:=by unfold fAd; rw [h]; rfl
theorem x_call (f:Nat)(ih:ManyX as):OneX (.call f as):=t_of (fun C e ρ H k s K ok st q=>by
 obtain ⟨x,hx,hk⟩:∃ x,opN f fnsT=some x∧isGl C.kd x=true:=by
  have h:glO C.kd (opN f fnsT)=true:=(an ok).1
  rcases z:opN f fnsT with _|⟨x⟩
  ·rw [z] at h; injection h
  ·rw [z] at h; exact ⟨x,rfl,h⟩
 obtain ⟨n,hm,rfl⟩:=opN_mem hx
 have e1:fAd C.W f=C.W.ad f:=fAd_fn (fns_lt _ hm)
 show Wp C (eval (.Name ((opN f fnsT).getD Str.empty) (k0 e).pos) C.env >>= fun fv=>callWith e.pos fv [] (backTo e.pos (starEach (toL as (kidE e).tail) C.env)) []) _ s
 refine (Eq.symm hx)▸?_
 refine .seq (q_glob st hk (C.pf.gl _ (fn_mem hm)) fun v ev=>?_)
 have ev:v=.ref (fAd C.W f):=by rw [e1]; exact er_ref ev
 subst ev
 exact call_w (toL_nos as _) ((ih C _ e.pos ρ H k s _ (an ok).2 st q).mono fun vs s h=>h.rec fun H l h e st=>by rw [e]; exact q_own st h)) fun zz zz zz=>rfl
theorem blt_mem (f:Nat):(bltS f,bltN f)∈globT:=by
 have h:∀ n:String,n∈["len","isinstance","max","sum","abs","min"]→(Str.ofString n,GD.bi n)∈globT:=fun n h=>List.mem_append_left _ (List.mem_append_right _ (List.mem_map_of_mem (f:=fun p=>(Str.ofString p,GD.bi p)) h))
 have g:∀ n:String,n∈["enumerate","range","tuple","list","int","bool"]→(Str.ofString n,GD.ty n)∈globT:=fun n h=>List.mem_append_right _ (List.mem_map_of_mem (f:=fun p=>(Str.ofString p,GD.ty p)) h)
 match f with
 | 0=>exact h "len" (.head _)
 | 1=>exact h "max" (.tail _ (.tail _ (.head _)))
 | 2=>exact h "min" (.tail _ (.tail _ (.tail _ (.tail _ (.tail _ (.head _))))))
 | 3=>exact h "abs" (.tail _ (.tail _ (.tail _ (.tail _ (.head _)))))
 | 4=>exact h "sum" (.tail _ (.tail _ (.tail _ (.head _))))
 | 5=>exact g "int" (.tail _ (.tail _ (.tail _ (.tail _ (.head _)))))
 | 6=>exact g "tuple" (.tail _ (.tail _ (.head _)))
 | f+7=>exact g "list" (.tail _ (.tail _ (.tail _ (.head _))))
theorem blt_val {W:Wo}(f:Nat){v:Value}(h:er v=(bltN f).av W):v=(bltN f).val∧((∃ i,(bltN f).val=.builtin i)∨∃ t,(bltN f).val=.type t):=by
 match f,h with
 | 0,h=>exact ⟨er_bi h,.inl ⟨_,rfl⟩⟩
 | 1,h=>exact ⟨er_bi h,.inl ⟨_,rfl⟩⟩
 | 2,h=>exact ⟨er_bi h,.inl ⟨_,rfl⟩⟩
 | 3,h=>exact ⟨er_bi h,.inl ⟨_,rfl⟩⟩
 | 4,h=>exact ⟨er_bi h,.inl ⟨_,rfl⟩⟩
 | 5,h=>exact ⟨er_ty h,.inr ⟨_,rfl⟩⟩
 | 6,h=>exact ⟨er_ty h,.inr ⟨_,rfl⟩⟩
 | f+7,h=>exact ⟨er_ty h,.inr ⟨_,rfl⟩⟩
theorem x_blt (f:Nat)(ih:ManyX as):OneX (.blt f as):=t_of (fun C e ρ H k s K ok st q=>by
 refine Wp.seq (q_glob st (an ok).1 (C.pf.gl _ (blt_mem f)) fun v ev=>?_)
 obtain ⟨ev,hv⟩:=blt_val f ev
 subst ev
 exact call_w (toL_nos as _) ((ih C _ e.pos ρ H k s _ (an ok).2 st q).mono fun vs s h=>h.rec fun H l h e st=>st.frzs h fun H vs R V m h o r=>by rw [e]; exact ⟨⟨C.bok.kin o.f.toSC,.inr hv⟩,q_blt o r h⟩)) fun zz zz zz=>rfl
theorem isi_mem (t:Nat):((Str.ofString "isinstance",GD.bi "isinstance")∈globT)∧(isiS t,isiN t)∈globT:=by
 have g:∀ n:String,n∈["enumerate","range","tuple","list","int","bool"]→(Str.ofString n,GD.ty n)∈globT:=fun n h=>List.mem_append_right _ (List.mem_map_of_mem (f:=fun p=>(Str.ofString p,GD.ty p)) h)
 refine ⟨List.mem_append_left _ (List.mem_append_right _ (List.mem_map_of_mem (f:=fun p=>(Str.ofString p,GD.bi p)) (.tail _ (.head _)))),?_⟩
 match t with
 | 0=>exact g "int" (.tail _ (.tail _ (.tail _ (.tail _ (.head _)))))
 | 1=>exact g "bool" (.tail _ (.tail _ (.tail _ (.tail _ (.tail _ (.head _))))))
 | 2=>exact g "list" (.tail _ (.tail _ (.tail _ (.head _))))
 | t+3=>exact fn_mem (p:=(28,"Glue")) (by decide +kernel)
theorem spl_one {t:Sem Value}{p:Pos}{Q:List Value→Shared→Prop}(h:Wp C t (fun v s=>Q [v] s) s):Wp C (spliced (backTo p [(false,t)])) Q s :=
 Wp.seq (f:=fun v=>(pure [v]:Sem (List Value)) >>= fun here=>holding here (pure []) >>= fun vs=>pure (here++vs)) (h.mono fun v s h=>Wp.seq (Wp.pure (Wp.seq (.hold (Wp.pure (Wp.pure h))))))
theorem x_isi (t:Nat)(iha:OneX a):OneX (.isi t a):=t_of (fun C e ρ H k s K ok st q=>by
 have hk:=an (an ok).1
 refine Wp.seq (q_glob st hk.1 (C.pf.gl _ (isi_mem t).1) fun v ev=>?_)
 refine (Eq.symm (er_bi ev))▸?_
 refine call_w (es:=[toE a (k1 e),.Name (isiS t) (k2 e).pos]) (sh_nos (toE_shp a _) rfl) ?_
 rw [sh_star (toE_shp a _)]
 refine Wp.v (iha.ev C (k1 e) ρ H k s _ (an ok).2 st q) fun H u va s q st=>Wp.seq (Wp.pure (Wp.seq (.hold ?_)))
 refine spl_one (q_glob st hk.2 (C.pf.gl _ (isi_mem t).2) fun v ev=>Wp.pure (frz_st st q fun H u q st=>?_))
 obtain ⟨R,V,m,o⟩:=st
 exact ⟨⟨C.bok.kin o.f.toSC,.inr (.inl ⟨_,rfl⟩)⟩,q_isi (o.less in1) (o.d.sk _ (.head _)) ev q⟩) fun zz zz zz=>rfl
theorem lst_rels {R:Rt}{vs:List PV}{l:Sk}(r:Rels C.W R.F vs ((l.map (·.2)).map er))(h:small vs):(l.map (·.2)).length≤1000:=by
 rw [← SqO.len r]; exact h
theorem x_lst (ih:ManyX as):OneX (.lst as):=t_of (fun C e ρ H k s K ok st q=>Wp.at (Wp.l (ih C (kidE e) e.pos ρ H k s _ ok st q) fun H l s q st=>st.frzs q fun H vs R V m q o r =>
 wpAny_newObj_type (o.pushL (t:=s.toks) (lst_rels r q.1) r q.2) (by show (l.map (·.2)).toArray.size≤sizeLine; rw [List.size_toArray]; exact small_line (lst_rels r q.1)))) fun zz zz zz=>rfl
theorem x_tup (ih:ManyX as):OneX (.tup as):=t_of (fun C e ρ H k s K ok st q=>Wp.at (Wp.l (ih C (kidE e) e.pos ρ H k s _ ok st q) fun H l s q st=>st.frzs q fun H vs R V m q o r =>
 wpAny_newObj_type (o.pushT (t:=s.toks) (lst_rels r q.1) r q.2) (by show (l.map (·.2)).toArray.size≤sizeLine; rw [List.size_toArray]; exact small_line (lst_rels r q.1)))) fun zz zz zz=>rfl
theorem x_tupo (ih:ManyX as):OneX (.tupo as):=t_of (fun C e ρ H k s K ok st q=>Wp.at (Wp.l (ih C (kidE e) e.pos ρ H k s _ ok st q) fun H l s q st=>by
 have z:(l.map (·.2)).length≤1000:=by
  have h:(l.map (·.1)).length≤1000:=q.1
  rw [List.length_map] at h ⊢; exact h
 obtain ⟨R,V,m,o⟩:=st
 refine wpAny_newObj_type ⟨_,_,q.2,(o.less fun p hp=>List.mem_append_right _ hp).newTo (t:=s.toks) (vs:=l.map (·.2)) (n:=0) (fun b o e=>Heap.get?_push_of_some _ e) (get_size _) (Heap.get?_push_size _ rfl) z (Sk.rs fun p hp=>o.d.sk p (List.mem_append_left _ hp))⟩ ?_
 show (l.map (·.2)).toArray.size≤sizeLine
 rw [List.size_toArray]; exact small_line z)) fun zz zz zz=>rfl
end
set_option backward.match.sparseCases true
structure BoX (x:XE):Prop where
 eb:∀(o:Bool)(C:Fx)(es:List Expr)(p:Pos)(ρ:En)(H:List OB)(k:Sk)(s:Shared)(K:Bool→List OB→Prop),bsX x=true→okX x C.kd=true→St C ρ H k s→sB o x C.P ρ H K→Wp C (boolOp p (boO o) (evalEach (toL x es) C.env)) (Bx C ρ k K) s
 ea:∀(o:Bool)(C:Fx)(es:List Expr)(ρ:En)(H:List OB)(k:Sk)(s:Shared)(K:Bool→List OB→Prop),bsX x=true→okX x C.kd=true→St C ρ H k s→sB o x C.P ρ H K→Wp C (allTrue (boO o) (toL x es) C.env) (Tst C ρ k K) s
noncomputable def TsX (x:XE):Prop:=∀(C:Fx)(es:List Expr)(ρ:En)(H:List OB)(k:Sk)(s:Shared)(K:Bool→List OB→Prop),csX x=true→okX x C.kd=true→St C ρ H k s→sC x C.P ρ H K→Wp C (ifsT (toL x es) C.env) (Tst C ρ k K) s
section
variable {C:Fx} {ρ:En} {H:List OB} {k l:Sk} {s:Shared} {K:KQ} {a b c as r:XE}
theorem nil_of {x:XE}(h:isNilX x=true):x=.nil:=by cases x <;> first|rfl|exact absurd h Bool.false_ne_true
theorem bs_cons {x:XE}(h:bsX x=true):∃ a r,x=.cons a r:=by cases x <;> first|exact ⟨_,_,rfl⟩|injection h
theorem b_cons (iha:OneX a)(ihr:BoX r):BoX (.cons a r):=by
 refine ⟨fun o C es p ρ H k s K bs ok st q=>?_,fun o C es ρ H k s K bs ok st q=>?_⟩
 ·have w:=iha.ev C (hdE es) ρ H k s _ (an ok).1 st q
  have ht:=(an bs).2
  rw [Bool.or_eq_true] at ht
  rcases z:isNilX r with _|_
  ·rw [z] at w ht
   have ht:=ht.resolve_left fun h=>by injection h
   have e1:∀ t:Sem Value,boolOp p (boO o) (t::evalEach (toL r es.tail) C.env)=(t >>= fun v=>standAt p >>= fun zz=>holding [v] (truthy v) >>= fun t=>match boO o,t with
    | .And,false|.Or,true=>pure v
    | z1,z2=>boolOp p (boO o) (evalEach (toL r es.tail) C.env)):=fun t=>by obtain ⟨a',r',e⟩:=bs_cons ht; rw [e]; rfl
   show Wp C (boolOp p (boO o) (eval (toE a (hdE es)) C.env::evalEach (toL r es.tail) C.env)) _ s
   rw [e1]
   refine w.bind fun v s h=>h.bx.rec fun b H e g st=>?_
   refine (Eq.symm e)▸?_
   refine .at (.tb ?_)
   rcases o with _|_
   ·rcases b with _|_
    ·exact ihr.eb false C es.tail p ρ H k s K ht (an ok).2 st g
    ·exact .pure ⟨true,H,rfl,g,st⟩
   ·rcases b with _|_
    ·exact .pure ⟨false,H,rfl,g,st⟩
    ·exact ihr.eb true C es.tail p ρ H k s K ht (an ok).2 st g
  ·rw [z] at w
   refine (Eq.symm (nil_of z))▸?_
   exact w.mono fun v s h=>h.bx
 ·have ht:=(an bs).2
  rw [Bool.or_eq_true] at ht
  refine Wp.bind (f:=fun b=>match boO o,b with
   | .And,false=>pure false
   | .Or,true=>pure true
   | z1,z2=>allTrue (boO o) (toL r es.tail) C.env) (iha.et (an bs).1 C (hdE es) ρ H k s _ (an ok).1 st q) fun b s h=>h.rec fun H g st=>?_
  rcases z:isNilX r with _|_
  ·rw [z] at g ht
   have ht:=ht.resolve_left fun h=>by injection h
   rcases o with _|_
   ·rcases b with _|_
    ·exact ihr.ea false C es.tail ρ H k s K ht (an ok).2 st g
    ·exact .pure ⟨H,g,st⟩
   ·rcases b with _|_
    ·exact .pure ⟨H,g,st⟩
    ·exact ihr.ea true C es.tail ρ H k s K ht (an ok).2 st g
  ·rw [z] at g
   refine (Eq.symm (nil_of z))▸?_
   cases o <;> cases b <;> exact .pure ⟨H,g,st⟩
theorem x_boo (o:Bool)(ih:BoX as):OneX (.boo o as):=⟨fun C e ρ H k s K ok st q=>(ih.eb o C (kidE e) e.pos ρ H k s _ (an ok).1 (an ok).2 st q).mono fun v s h=>h.v,fun zz C e ρ H k s K ok st q=>ih.ea o C (kidE e) ρ H k s K (an ok).1 (an ok).2 st q⟩
theorem c_nil:TsX .nil:=fun C es ρ H k s K cs ok st q=>Wp.pure (a:=true) ⟨H,q,st⟩
theorem c_cons (iha:OneX a):TsX (.cons a r):=fun C es ρ H k s K cs ok st q=>by
 refine (Eq.symm (nil_of (an cs).2))▸?_
 have e1:ifsT [toE a (hdE es)] C.env=(isTrue (toE a (hdE es)) C.env (eval (toE a (hdE es)) C.env) >>= fun ok=>pure ok):=by
  unfold ifsT
  rw [List.forIn_cons]
  rw [if_pos rfl,bind_assoc]
  rfl
 refine (Eq.symm e1)▸?_
 exact (iha.et (an cs).1 C (hdE es) ρ H k s K (an ok).1 st q).bind fun b s h=>.pure h
theorem opM_mem {Cn j:Nat}{x:Str}:∀{l:List (Nat×Str×Nat)},opM Cn j l=some x→(Cn,x,j)∈l
 | [],h=>by injection h
 | p::r,h=>by
  unfold opM at h
  rcases q:p.1.beq Cn&&p.2.2.beq j with _|_
  ·rw [q] at h; exact .tail _ (opM_mem (l:=r) h)
  ·rw [q] at h; (injection h with h; subst h)
   rw [Bool.and_eq_true] at q
   have e:(Cn,p.2.1,j)=p:=by rw [← beq_of q.1,← beq_of q.2]
   rw [e]; exact .head _
theorem me_facts:∀ p∈meT,p.1.beq 0=false∧(p.1*100+p.2.2).blt 1000=false∧(p.1*100+p.2.2) / 100=p.1∧(p.1*100+p.2.2) % 100=p.2.2∧∀ y∈flds p.1,fnm y≠p.2.1:=by decide +kernel
theorem zp_none {n:Str}:∀{l:List Nat}(as:List AV),(∀ y∈l,fnm y≠n)→lkF (zp l as) n=none
 | [],as,z1=>rfl
 | y::r,[],z1=>rfl
 | y::r,a::as,h=>(if_neg fun e=>h y (.head _) e.symm).trans (zp_none as fun z hz=>h z (.tail _ hz))
theorem cls_of {R:Rt}{V:View}{m:Mp}{q:QV}{v:Value}{Cn:Nat}(o:Op C ρ H k s R V m)(r:QR C.W R q (er v))(h:(clsQ H q).beq Cn=true)(h0:Cn.beq 0=false):∃ qs,ObA C.W V R Cn qs v:=by
 have no:∀{G:Prop},Nat.beq 0 Cn=true→G:=fun e=>absurd (beq_of e).symm (beq_ne h0)
 have fr:∀ u:PV,Rel C.W R.F u (er v)→(clsQ H (.fr u)).beq Cn=true→∃ qs,ObA C.W V R Cn qs v:=fun u r h=>by
  cases u with
  | obj Cm vs=>rw [show Cm=Cn from beq_of h] at r; exact ⟨_,Rel.ob o.c.le r⟩
  | _=>exact no h
 cases q with
 | fr u=>exact fr u r h
 | own i =>
  obtain ⟨x,hx,e⟩:=r
  have h:(match H[i]? with
   | some o=>clsO o
   | none=>0).beq Cn=true:=h
  cases z:H[i]? with
  | none=>rw [z] at h; exact no h
  | some ob =>
   rw [z] at h
   have rt:=o.c.rt i x ob hx z
   cases ob with
   | fz u =>
    refine fr u (e▸rt) ?_
    cases u <;> exact h
   | obj Cm qs =>
    rw [show Cm=Cn from beq_of h] at rt
    obtain ⟨d,as,h1,_,h2,_,h3⟩:=rt
    exact ⟨qs,x,d,as,er_ref e,h1,h2,h3⟩
   | _=>exact no h
theorem q_getm {q:QV}{v:Value}{Cn j:Nat}{n:Str}{pl:Sem Bool}{Q:Value×List Value→Shared→Prop}(st:St C ρ H ((q,v)::k) s)(hc:(clsQ H q).beq Cn=true)(hm:(Cn,n,j)∈meT)(h:Q (.ref (C.W.am Cn j),[v]) s):Wp C (getMethod v n pl) Q s:=by
 refine cp fun kk=>?_
 obtain ⟨R,V,m,o⟩:=st
 obtain ⟨f0,_,_,_,f4⟩:=me_facts _ hm
 obtain ⟨qs,x,d,as,rfl,h1,h2,_⟩:=cls_of o (o.d.sk _ (.head _)) hc f0
 obtain ⟨ob,ho,rfl⟩:=o.f.view _ _ h1
 obtain ⟨od,hod,es,c,rfl,hf⟩:=o.f.view _ _ h2
 have e:=C.pf.pm _ hm
 refine kk ?_
 unfold me at e
 rcases hp:plainGet C.W.K (C.W.ad Cn) n with _|_
 ·rw [hp] at e; injection e
 ·rw [if_pos hp] at e
  rcases g:findIn C.W.K (.ref (C.W.ad Cn)) n with _|⟨w⟩
  ·rw [g] at e; injection e
  ·rw [g] at e
   rcases w with _|⟨w⟩
   ·injection e
   ·cases w with
    | ref g' =>
     have e:(if isFn C.W.K (.ref g') then some g' else none)=some (C.W.am Cn j):=e
     cases hfn:isFn C.W.K (.ref g') with
     | false=>rw [hfn] at e; injection e
     | true =>
      rw [if_pos hfn] at e
      (injection e with e; subst e)
      exact method_fn (C.bok.kin o.f.toSC) (ox:=instObj _ d) (od:=some (dictOf es c)) ⟨ho,rfl,rfl,hod⟩ (plainGet_of hp).1 (plainGet_of hp).2 g (beq_iff_eq.mp hfn) (show (lookIn n (dictOf es c)).map (·.isSome)=some false by rw [lookIn_dict,(fr_get hf n).2.2 (zp_none as f4)]; rfl) h
    | _=>injection e
theorem meth_eq {o:Expr}{n:Str}{ap p:Pos}{env:Env}{ov:Value}{es:List Expr}(hs:noStar es=true)(hl:es.length<30)(he:ap.endLine=p.line) :
  methodCall o n ap p env ov (es.length+([]:List Keyword).length) (backTo p (starEach es env)) (backToKw p (keywordEach [] env))=holding [ov] (getMethod ov n (do return (← importBound o env).getD true)) >>= fun fx=>callWith p fx.1 fx.2 (backTo p (starEach es env)) []:=by
 delta methodCall
 refine (Eq.symm (form_true hs hl))▸?_
 delta calleeOf methodCallPos
 rw [he,beq_self_eq_true]
 rfl
theorem in_meth {p:QV×Value}:∀ x∈(p::l)++k,x∈l++p::k:=in_app
theorem x_meth (Cn j:Nat)(iha:OneX a)(ih:ManyX as):OneX (.meth Cn j a as):=t_of (fun C e ρ H k s K ok st q=>by
 have hh:=an (an (an ok).1).1
 have h1:=an hh.1
 refine cp fun kk=>?_
 obtain ⟨n,hn⟩:=Option.isSome_iff_exists.mp hh.2
 have hm:=opM_mem hn
 obtain ⟨_,f1,f2,f3,_⟩:=me_facts _ hm
 have hA:fAd C.W (Cn*100+j)=C.W.am Cn j:=by unfold fAd; rw [show (Cn*100+j).blt 1000=false from f1]; show C.W.am ((Cn*100+j) / 100) ((Cn*100+j) % 100)=_; rw [show (Cn*100+j) / 100=Cn from f2,show (Cn*100+j) % 100=j from f3]
 have hN:meS Cn j=n:=by unfold meS; rw [hn]; rfl
 refine kk ?_
 show Wp C (attributeBase (toE a (k0 (k0 e))) (meS Cn j) C.env (eval (toE a (k0 (k0 e))) C.env) >>= fun ov=>standAt ({ (k0 e).pos with endLine:=e.pos.line }:Pos).atName >>= fun zz=>methodCall (toE a (k0 (k0 e))) (meS Cn j) { (k0 e).pos with endLine:=e.pos.line } e.pos C.env ov ((toL as (kidE e).tail).length+([]:List Keyword).length) (backTo e.pos (starEach (toL as (kidE e).tail) C.env)) (backToKw e.pos (keywordEach [] C.env))) _ s
 refine (Eq.symm (base_plain (plX_of a _ h1.1)))▸?_; refine (Eq.symm hN)▸?_
 refine (iha.ev C (k0 (k0 e)) ρ H k s _ (an (an ok).1).2 st q).v fun H u va s q st=>.at ?_
 obtain ⟨hc,q⟩:=ifB_of q
 rw [meth_eq (toL_nos as _) (by rw [lenX_of]; exact Nat.le_of_ble_eq_true h1.2) rfl]
 refine .seq (.hold (q_getm st hc hm ?_))
 refine call_w (toL_nos as _) ((ih C _ e.pos ρ H _ s _ (an ok).2 st q).mono fun vs s h=>h.rec fun H l h e st=>?_)
 refine (Eq.symm e)▸?_; refine hA▸?_
 exact q_own (l:=(u,va)::l) (st.sub in_meth) h) fun zz zz zz=>rfl
theorem q_getl {q:QV}{v:Value}{pl:Sem Bool}{Q:Value×List Value→Shared→Prop}{K:Nat→List PV→Prop}(st:St C ρ H ((q,v)::k) s)(hq:lstQ H q K):(Q (.builtin "list.append",[v]) s→Wp C (getMethod v "append" pl) Q s)∧(Q (.builtin "list.extend",[v]) s→Wp C (getMethod v "extend" pl) Q s):=by
 refine cp fun kk=>?_
 obtain ⟨R,V,m,o⟩:=st
 have ra:QR C.W R q (er v):=o.d.sk _ (.head _)
 refine kk ?_
 rcases q with ⟨_⟩|⟨i⟩
 ·exact hq.elim
 ·refine cp fun kk=>?_
  obtain ⟨x,hx,e⟩:=ra
  have e:=er_ref e
  subst e
  obtain ⟨ob,e1,h⟩:=opB_of hq
  refine kk ?_
  rcases ob with _|⟨xs⟩|_|_|_
  ·exact h.elim
  ·refine cp fun kk=>?_
   obtain ⟨as,g,t1,n,r⟩:=o.c.rt i x _ hx e1
   obtain ⟨vs,c,g2,rfl⟩:=ls_obj o.f g
   have hT:s.TypeIs (.ref x) "list":=⟨_,g2,rfl⟩
   refine kk ?_
   exact ⟨fun h=>getMethod_builtin hT PySem.F.plainAttrs_list PySem.F.slot_list_append PySem.F.type_list_append (fun a e=>by (injection e with e; subst e); exact ⟨_,g2,rfl⟩) h,fun h=>getMethod_builtin hT PySem.F.plainAttrs_list PySem.F.slot_list_extend PySem.F.type_list_extend (fun a e=>by (injection e with e; subst e); exact ⟨_,g2,rfl⟩) h⟩
  ·exact h.elim
  ·exact h.elim
  ·exact h.elim
end
set_option backward.match.sparseCases false
noncomputable def ICR (W:Wo)(F:View):IC→It→Prop
 | .one v,.one a=>Rel W F v a
 | .two u v,.two a b=>Rel W F u a∧Rel W F v b
 | z1,z2=>False
noncomputable def ItsR (W:Wo)(F:View):Itr→List It→Prop
 | .seq xs,is=>∃ as,is=as.map .one∧Rels W F xs as
 | .rng a b,is=>is=rangeF a b
 | .enu xs,is=>∃ as,is=enumF 0 as∧Rels W F xs as
theorem rangeF_len (a b:Int):(rangeF a b).length=(b-a).toNat:=by unfold rangeF; rw [List.length_map,List.length_range]
theorem ItsR.len {W:Wo}{F:View}{I:Itr}{is:List It}(h:ItsR W F I is):is.length=I.len:=by
 rcases I with ⟨xs⟩|⟨a,b⟩|⟨xs⟩
 ·obtain ⟨as,rfl,r⟩:=h; rw [List.length_map]; exact r.len.symm
 ·rw [show is=_ from h]; exact rangeF_len a b
 ·obtain ⟨as,rfl,r⟩:=h; rw [en_none]; exact r.len.symm
theorem ItsR.mono {W:Wo}{F F':View}(l:Le F F'){I:Itr}{is:List It}(h:ItsR W F I is):ItsR W F' I is:=by
 rcases I with ⟨xs⟩|⟨a,b⟩|⟨xs⟩
 ·obtain ⟨as,e,r⟩:=h; exact ⟨as,e,Rels.mono l _ _ r⟩
 ·exact h
 ·obtain ⟨as,e,r⟩:=h; exact ⟨as,e,Rels.mono l _ _ r⟩
theorem Rels.at {W:Wo}{F:View}:∀{vs:List PV}{as:List AV}{j:Nat}{a:AV},Rels W F vs as→as[j]?=some a→∃ v,vs[j]?=some v∧Rel W F v a
 | [],as,j,a,h,e=>by rw [show as=[] from h] at e; injection e
 | z1::z2,z3,0,z4,hz4,e=>by
  obtain ⟨a,r,rfl,h,t⟩:=hz4
  (injection e with e; subst e); exact ⟨_,rfl,h⟩
 | z1::z2,z3,j+1,z4,hz4,e=>by
  obtain ⟨a,r,rfl,h,t⟩:=hz4
  exact Rels.at (j:=j) t e
theorem ItsR.at {W:Wo}{F:View}{I:Itr}{is:List It}{n:Nat}{x:It}{P:IC→Prop}(h:ItsR W F I is)(e:is[n]?=some x)(hp:I.all P n):∃ i,P i∧ICR W F i x:=by
 rcases I with ⟨xs⟩|⟨a,b⟩|⟨xs⟩
 ·obtain ⟨as,rfl,r⟩:=h
  rw [List.getElem?_map] at e
  obtain ⟨a,e1,rfl⟩:=map_some e
  obtain ⟨v,e2,r⟩:=r.at e1
  exact ⟨.one v,hp v e2,r⟩
 ·rw [show is=_ from h] at e
  have hn:n<(b-a).toNat:=rangeF_len a b▸(List.getElem?_eq_some_iff.mp e).1
  unfold rangeF at e
  rw [List.getElem?_map,List.getElem?_range hn] at e
  (injection e with e; subst e)
  exact ⟨.one (.int (a+n)),hp hn,rfl⟩
 ·obtain ⟨as,rfl,r⟩:=h
  obtain ⟨a,e1,rfl⟩:=en_get as 0 n x e
  obtain ⟨v,e2,r⟩:=r.at e1
  exact ⟨.two (.int n) v,hp v e2,by rw [Nat.zero_add]; exact ⟨rfl,r⟩⟩
inductive StI (C:Fx)(ρ:En)(H:List OB)(k:Sk)(I:Itr)(K:ItK)(ow:List Addr)(n:Nat)(s:Shared):Prop
 | mk (R:Rt) (V:View) (m:Mp) (is:List It) (o:Op C ρ H k s R V m) (a:Aside ow C.O V C.env.locals) (iv:∀ V',Le R.F V'→K.InV is V') (r:ItsR C.W R.F I is) (t:K.At n s.heap)
inductive StartI (C:Fx)(ρ:En)(k:Sk)(K:List OB→Itr→Prop)(v:Value)(s:Shared):Prop
 | mk (H:List OB) (I:Itr) (Kt:ItK) (e:v=.ref Kt.top) (h:K H I) (st:StI C ρ H k I Kt Kt.own 0 s)
section
variable {C:Fx} {ρ:En} {H:List OB} {k l:Sk} {s:Shared} {R:Rt} {V:View} {m:Mp} {K:List OB→Itr→Prop} {a b c as r:XE}
theorem Started.go {o:Op C ρ H k s R V m}{v:Value}{s':Shared}{I:Itr}{is:List It}(h:Started C.c C.fs C.O C.env.locals m (fun is' keep V'=>is'=is∧V'=V∧∀ V',Le R.F V'→keep V') v s')(r:ItsR C.W R.F I is)(q:K H I):StartI C ρ k K v s':=by
 refine cp fun kk=>?_
 obtain ⟨Kt,V',is',keep,e,f,ow,t,⟨rfl,rfl,g⟩,iv⟩:=h
 refine kk ?_
 exact ⟨H,I,Kt,e,q,R,V',m,is',⟨f,o.c,o.d⟩,ow,fun V' l=>iv V' (g V' l),r,t⟩
theorem sq_line {n:Nat}(h:n≤1000):n<2 ^ 24:=Nat.lt_of_le_of_lt h (by decide)
theorem i_seq {v:Value}{u:PV}{xs:List PV}(o:Op C ρ H k s R V m)(r:Rel C.W R.F u (er v))(h:seqP u=some xs)(q:K H (.seq xs)):Wp C (pyIter v) (StartI C ρ k K) s:=by
 have go:∀ l as (V1:View→Prop),er v=.ref l→as.length≤1000→Rels C.W R.F xs as→(V l=some (.list as)∧(∀ V',Le R.F V'→V' l=some (.list as))∨V l=some (.tup as)∧(∀ V',Le R.F V'→V' l=some (.tup as)))→Wp C (pyIter v) (StartI C ρ k K) s:=fun l as zz e hl r g =>
  (show Wp C _ _ _ from iter_seq (c:=C.c) (R:=fun is' keep V'=>is'=as.map .one∧V'=V∧∀ V',Le R.F V'→keep V') o.f (by rw [e]; exact ⟨as,sq_line hl,g.imp (fun g=>⟨g.1,rfl,rfl,g.2⟩) fun g=>⟨g.1,rfl,rfl,g.2⟩⟩)).mono fun v s' h=>Started.go (o:=o) h (I:=.seq xs) ⟨as,rfl,r⟩ q
 cases u with
 | lst ys=>(injection h with h; subst h); obtain ⟨l,as,e,g,n,r⟩:=r; exact go l as (fun zz=>True) e n r (.inl ⟨o.c.le _ _ g,fun V' h=>h _ _ g⟩)
 | tup ys=>(injection h with h; subst h); obtain ⟨l,as,e,g,n,r⟩:=r; exact go l as (fun zz=>True) e n r (.inr ⟨o.c.le _ _ g,fun V' h=>h _ _ g⟩)
 | _=>injection h
theorem i_enu {v:Value}{xs:List PV}(o:Op C ρ H k s R V m)(r:Rel C.W R.F (.lst xs) (er v))(q:K H (.enu xs)):Wp C (call (.type "enumerate") [v]) (fun r s=>Wp C (pyIter r) (StartI C ρ k K) s) s:=by
 refine cp fun kk=>?_
 obtain ⟨l,as,e,g,n,r⟩:=r
 refine kk ?_
 exact (show Wp C _ _ _ from iter_enum (c:=C.c) (R:=fun is' keep V'=>is'=enumF 0 as∧V'=V∧∀ V',Le R.F V'→keep V') o.f (by rw [e]; exact ⟨as,o.c.le _ _ g,rfl,rfl,fun V' h=>h _ _ g⟩)).mono fun v s' h=>Wp.mono h fun v s' h=>Started.go (o:=o) h (I:=.enu xs) ⟨as,rfl,r⟩ q
theorem i_rng {vs:List PV}{xs:List Value}(o:Op C ρ H k s R V m)(r:Rels C.W R.F vs (xs.map er))(h:itrQ 1 (K H) vs):Wp C (call (.type "range") xs) (fun r s=>Wp C (pyIter r) (StartI C ρ k K) s) s:=by
 have go:∀ (a b:Int),K H (.rng a b)→((∃ b',xs.map er=[.int b']∧b'.natAbs<2 ^ 24∧rangeF 0 b'=rangeF a b)∨∃ a' b',xs.map er=[.int a',.int b']∧a'.natAbs<2 ^ 24∧b'.natAbs<2 ^ 24∧rangeF a' b'=rangeF a b)→Wp C (call (.type "range") xs) (fun r s=>Wp C (pyIter r) (StartI C ρ k K) s) s:=fun a b q g =>
  (show Wp C _ _ _ from iter_range (c:=C.c) (R:=fun is' keep V'=>is'=rangeF a b∧V'=V∧∀ V',Le R.F V'→keep V') o.f (g.imp (fun ⟨b',e1,e2,e3⟩=>⟨b',e1,e2,e3,rfl,fun zz zz=>trivial⟩) fun ⟨a',b',e1,e2,e3,e4⟩=>⟨a',b',e1,e2,e3,e4,rfl,fun zz zz=>trivial⟩)).mono fun v s' h=>Wp.mono h fun v s' h=>Started.go (o:=o) h (I:=.rng a b) rfl q
 rcases vs with _|⟨v,vs⟩
 ·exact h.elim
 ·rcases vs with _|⟨w,vs⟩
  ·refine cp fun kk=>?_
   obtain ⟨b,rfl,h⟩:=intP_of h
   obtain ⟨x,rfl,r1⟩:=map_one' r
   refine kk ?_
   exact go 0 b h.2.2 (.inl ⟨b,by rw [List.map_cons,show er x=.int b from r1]; rfl,h.2.1,rfl⟩)
  ·rcases vs with _|⟨_,_⟩
   ·refine cp fun kk=>?_
    obtain ⟨a,rfl,h⟩:=intP_of h
    obtain ⟨b,rfl,h⟩:=intP_of h
    obtain ⟨x,y,rfl,r1,r2⟩:=map_two' r
    refine kk ?_
    exact go a b h.2.2 (.inr ⟨a,b,by rw [List.map_cons,List.map_cons,show er x=.int a from r1,show er y=.int b from r2]; rfl,h.1,h.2.1,rfl⟩)
   ·exact h.elim
theorem ty_mem (n:String)(h:n∈["enumerate","range","tuple","list","int","bool"]):(Str.ofString n,GD.ty n)∈globT:=List.mem_append_right _ (List.mem_map_of_mem (f:=fun p=>(Str.ofString p,GD.ty p)) h)
theorem it_ok (n:Nat)(ih:n=0→OneX a)(il:ManyX a){e:Expr}(hg:itG C.kd n=true)(ok:okX a C.kd=true)(st:St C ρ H k s)(q:sIt n (sX a C.P ρ H) (sXs a C.P ρ H) K):Wp C (eval (itE n e (toE a e) (toL a (kidE e).tail)) C.env) (fun x s=>Wp C (pyIter x) (StartI C ρ k K) s) s:=by
 have call2:∀(nm:String),(Str.ofString nm,GD.ty nm)∈globT→isGl C.kd (Str.ofString nm)=true→(∀ H vs xs s (R:Rt) V m,Op C ρ H k s R V m→Rels C.W R.F vs (xs.map er)→itrQ n (K H) vs→Wp C (call (.type nm) xs) (fun r s=>Wp C (pyIter r) (StartI C ρ k K) s) s) →
   (sXs a C.P ρ H fun H qs=>frzQs (frzI 4) H qs fun H vs=>itrQ n (K H) vs)→Wp C (eval (.Call (.Name (Str.ofString nm) (k0 e).pos) (toL a (kidE e).tail) [] e.pos) C.env) (fun x s=>Wp C (pyIter x) (StartI C ρ k K) s) s:=fun nm hm hk go q=>by
  refine Wp.seq (q_glob st hk (C.pf.gl _ hm) fun v ev=>?_)
  have ev:=er_ty ev
  subst ev
  exact call_w (toL_nos a _) ((il C _ e.pos ρ H k s _ ok st q).mono fun vs s h=>h.rec fun H l h e st=>st.frzs h fun H vs R V m h o r=>by rw [e]; exact ⟨⟨C.bok.kin o.f.toSC,.inr (.inr ⟨_,rfl⟩)⟩,go H vs _ s R V m o r h⟩)
 have g:=call2
 rcases n with _|_|n
 ·exact ((ih rfl).ev C e ρ H k s _ ok st q).mono fun v s p=>p.rec fun H q h st=>frz_st st h fun H u h ⟨R,V,m,o⟩=>(by obtain ⟨xs,e,h⟩:=opB_of h; exact i_seq (o.less in1) (o.d.sk _ (.head _)) e h)
 ·exact g "range" (ty_mem _ (.tail _ (.head _))) hg (fun H vs xs s R V m o r h=>i_rng o r h) q
 ·refine g "enumerate" (ty_mem _ (.head _)) hg (fun H vs xs s R V m o r h=>?_) q
  rcases n with _|⟨n⟩
  ·rcases vs with _|⟨v,vs⟩
   ·exact h.elim
   ·cases vs with
    | cons _ _=>exact h.elim
    | nil =>
     obtain ⟨x,rfl,r1⟩:=map_one' r
     cases v with
     | lst xs=>exact i_enu o r1 h
     | _=>exact h.elim
  ·cases vs <;> exact h.elim
theorem it_fold {n:Nat}{e:Expr}(v:Value):foldedSetIterable (itE n e (toE a e) (toL a (kidE e).tail)) C.env v=pure v:=by
 match n with
 | 0=>exact sh_fold (toE_shp a e) _ _
 | 1=>rfl
 | n+2=>rfl
end
noncomputable def Fx.calm (C:Fx)(F:View)(E:Value→Shared→Prop)(O:Heap)(b:Bok C.W C.A C.fs O C.env C.n):Fx :=
 {W:=C.W,P:=C.P.calm,kd:=C.kd,n:=C.n,cl:=C.cl,env:=C.env,A:=C.A,fs:=C.fs,O:=O,E:=E,F0:=F,w0:=C.w0,C0:=C.C0,bok:=b,eok:=⟨C.eok.kd,C.eok.cl,C.eok.dbg,C.eok.cld⟩,ext:=fun zz zz zz zz zz zz zz h=>h.elim,inj:=C.inj,clk:=C.clk,snd:=C.snd,pf:=C.pf }
section
variable {C:Fx} {ρ:En} {H:List OB} {k l:Sk} {s:Shared} {R:Rt} {V:View} {m:Mp} {I:Itr} {K:ItK} {ow:List Addr} {n:Nat}
noncomputable abbrev Op.fx (o:Op C ρ H k s R V m)(E:Value→Shared→Prop):Fx:=C.calm R.F E (hid s.heap V C.env.locals) (C.bok.wide o.f)
theorem Op.wide (o:Op C ρ H k s R V m){E:Value→Shared→Prop}:Op (o.fx E) ρ H k s R V m:=⟨o.f.wide,o.c,o.d.nm,o.d.sk,.refl _,o.d.w0,o.d.ce,o.d.c0⟩
theorem fs_out (C:Fx){a:Addr}(h:C.O.get? a=none):a ∉ C.fs:=fun q=>by
 obtain ⟨_,o,e,_⟩:=C.bok.fsn a q
 rw [h] at e; injection e
theorem Op.narrow (o:Op C ρ H k s R V m){E:Value→Shared→Prop}(a:Aside ow C.O V C.env.locals)(al:∀ b∈ow,∃ ob,s.heap.get? b=some ob){ρ2:En}{H2:List OB}{k2:Sk}{s2:Shared}{R2:Rt}{V2:View}{m2:Mp}(o2:Op (o.fx E) ρ2 H2 k2 s2 R2 V2 m2) :
  Op C ρ2 H2 k2 s2 R2 V2 m2∧Le R.F R2.F∧Aside ow C.O V2 C.env.locals∧∀ b∈ow,∀ ob,s.heap.get? b=some ob→s2.heap.get? b=some ob:=by
 have f2:SF C.W C.fs (hid s.heap V C.env.locals) C.env.locals m2 V2 s2:=o2.f
 have hk:∀ b∈ow,∀ ob,s.heap.get? b=some ob→s2.heap.get? b=some ob∧V2 b=none:=fun b hb ob e=>by
  have h1:=hid_of e (a b hb).2.1 (a b hb).2.2
  refine ⟨f2.keep.exact h1 (fs_out C (a b hb).1),?_⟩
  rcases q:V2 b with _|⟨x⟩
  ·rfl
  ·rw [f2.off b x q] at h1; injection h1
 refine ⟨⟨o.f.narrow f2,o2.c,o2.d.nm,o2.d.sk,o.d.f0.trans o2.d.f0,o2.d.w0,o2.d.ce,o2.d.c0⟩,o2.d.f0,fun b hb=>?_,fun b hb ob e=>(hk b hb ob e).1⟩
 obtain ⟨ob,e⟩:=al b hb
 exact ⟨(a b hb).1,(hk b hb ob e).2,(a b hb).2.2⟩
noncomputable def Sto (C:Fx)(x:Nat):Prop:=stoK C.kd x=true∧∀ a v,C.cl (nmG x)=some a→C.C0 a≠some (.cell v)
theorem q_asgN {x:Nat}{p:Pos}{q:QV}{v:Value}(st:St C ρ H ((q,v)::k) s)(hs:Sto C x):Wp C (assign (.Name (nmG x) p) C.env v) (fun zz s=>St C (Mine.Internal.st ρ x q) H k s) s:=wpAny_assign_Name (q_store st hs.1 hs.2)
theorem q_pair {x y e:Nat}{p p1 p2:Pos}{u v:QV}{T:Addr}{n:Nat}{u₁ u₂:Value}(st:St C ρ H ((u,u₁)::(v,u₂)::k) s)(hT:s.heap.get? T=some { cls:=.type "tuple",data:=.seq #[u₁,u₂] n })(hx:Sto C x)(hy:Sto C y) :
  Wp C (assign (.Tuple [.Name (nmG x) p1,.Name (nmG y) p2] e p) C.env (.ref T)) (fun zz s=>St C (Mine.Internal.st (Mine.Internal.st ρ x u) y v) H k s) s:=by
 refine wpAny_assign_Tuple C.bok.hnd ⟨_,hT,rfl,_,rfl⟩ rfl rfl fun h' hs=>?_
 have st1:=st.grown (t:=s.toks) (h':=h') fun b o e=>hs b o (Nat.ne_of_lt (Heap.lt_size e)) e
 exact Wp.bind (.hold (q_asgN st1 hx)) fun zz s st=>Wp.bind (.hold (q_asgN st hy)) fun zz s st=>.pure st
inductive EnQ (C:Fx)(H:List OB)(k:Sk)(KK:En→Prop)(s:Shared):Prop
 | mk (ρ:En) (h:KK ρ) (st:St C ρ H k s)
theorem q_bind {ts:List Nat}{e:Expr}{i:IC}{z:It}{v:Value}{KK:En→Prop}(o:Op C ρ H k s R V m)(ir:ICR C.W R.F i z)(ou:Out2 K n z v s.heap)(hs:∀ x∈ts,Sto C x)(h:bindO ts i ρ KK):Wp C (assign (toTs ts e) C.env v) (fun zz s=>EnQ C H k KK s) s:=by
 have two:∀ {x y:Nat} {u w:PV} {T:Addr} {c:Nat} {u₁ u₂:Value},Sto C x→Sto C y→s.heap.get? T=some { cls:=.type "tuple",data:=.seq #[u₁,u₂] c }→Rel C.W R.F u (er u₁)→Rel C.W R.F w (er u₂)→KK (Mine.Internal.st (Mine.Internal.st ρ x (.fr u)) y (.fr w)) →
   Wp C (assign (toTs [x,y] e) C.env (.ref T)) (fun zz s=>EnQ C H k KK s) s:=fun hx hy hT r1 r2 h =>
  (q_pair (St.mk R V m ⟨o.f,o.c,(o.d.push (q:=.fr _) r2).push (q:=.fr _) r1⟩) hT hx hy).mono fun zz s st=>⟨_,h,st⟩
 rcases ts with _|⟨x,ts⟩
 ·exact h.elim
 ·have hx:=hs x (.head _)
  rcases ts with _|⟨y,ts⟩
  ·rcases i with ⟨u⟩|⟨u,w⟩
   ·rcases z with ⟨a⟩|⟨a,b⟩
    ·have e1:er v=a:=ou.2
     exact (q_asgN (St.mk R V m ⟨o.f,o.c,o.d.push (q:=.fr u) (e1▸ir)⟩) hx).mono fun zz s st=>⟨_,h,st⟩
    ·exact ir.elim
   ·exact h.elim
  ·rcases ts with _|⟨_,_⟩
   ·have hy:=hs y (.tail _ (.head _))
    rcases i with ⟨u⟩|⟨u,w⟩
    ·cases z with
     | two a b=>exact ir.elim
     | one a =>
      obtain ⟨_,rfl⟩:=ou
      cases u with
      | tup vs =>
       rcases vs with _|⟨u,vs⟩
       ·exact h.elim
       ·cases vs with
        | nil=>exact h.elim
        | cons w vs =>
         rcases vs with _|⟨_,_⟩
         ·obtain ⟨T,us,c,rfl,hT,_,r⟩:=o.tp ir
          obtain ⟨u₁,u₂,rfl,r1,r2⟩:=map_two' r
          exact two hx hy hT r1 r2 h
         ·exact h.elim
      | _=>exact h.elim
    ·rcases z with ⟨a⟩|⟨a,b⟩
     ·exact ir.elim
     ·obtain ⟨_,T,u₁,u₂,rfl,hT,rfl,rfl⟩:=ou
      exact two hx hy hT ir.1 ir.2 h
   ·exact h.elim
theorem bind_shp {ts:List Nat}{e:Expr}{i:IC}{z:It}{KK:En→Prop}{F:View}{W:Wo}(ir:ICR W F i z)(h:bindO ts i ρ KK):(∀ a b,z≠.two a b)∨∃ es c p,toTs ts e=.Tuple es c p:=by
 rcases ts with _|⟨y,ts⟩
 ·exact h.elim
 ·rcases ts with _|⟨z,ts⟩
  ·rcases i with ⟨u⟩|⟨u,w⟩
   ·rcases z with ⟨a⟩|⟨a,b⟩
    ·exact .inl fun zz zz q=>by injection q
    ·exact ir.elim
   ·exact h.elim
  ·rcases ts with _|⟨_,_⟩
   ·exact .inr ⟨_,_,_,rfl⟩
   ·exact h.elim
theorem turn {ts:List Nat}{e:Expr}{KK:En→Prop}{E:Value→Shared→Prop}{Q:Shared→Prop}(st:StI C ρ H k I K ow n s)(hK:∀ b∈K.own,b∈ow)(al:∀ b∈ow,∃ ob,s.heap.get? b=some ob)(hn:n<I.len)(hs:∀ x∈ts,Sto C x)(hb:I.all (fun i=>bindO ts i ρ KK) n)
  (g:∀(F:View)(O:Heap)(b:Bok C.W C.A C.fs O C.env C.n) ρ' s',KK ρ'→St (C.calm F E O b) ρ' H k s'→(∀ ρ2 H2 k2 s2,St (C.calm F E O b) ρ2 H2 k2 s2→StI C ρ2 H2 k2 I K ow (n+1) s2∧∀ b∈ow,b ∉ K.own→∀ ob,s.heap.get? b=some ob→s2.heap.get? b=some ob)→Q s') :
  wpAny (model C.W.prog C.W.w) C.A (pyNext (.ref K.top)) (fun r s₁=>∃ v,r=some v∧wpAny (model C.W.prog C.W.w) C.A (letOwnedTupleGo (toTs ts e) (.ref K.top) v) (fun zz s₂=>wpAny (model C.W.prog C.W.w) C.A (assign (toTs ts e) C.env v) (fun zz s₃=>Q s₃) E s₂) E s₁) E s:=by
 refine cp fun kk=>?_
 obtain ⟨R,V,m,is,o,a,iv,r,t⟩:=st
 obtain ⟨x,hx⟩:∃ x,is[n]?=some x:=⟨_,List.getElem?_eq_getElem (by rw [r.len]; exact hn)⟩
 obtain ⟨i,hb,ir⟩:=r.at hx hb
 have aK:Own K C.O V C.env.locals:=fun b hb=>a b (hK b hb)
 refine kk ?_
 refine wpAny_mono (next_item o.f aK t (iv V o.c.le) hx) (fun v s₁ hz=>?_) fun zz zz z=>z
 obtain ⟨v',e1,f₁,kp₁,ou⟩:=hz
 refine ⟨v',e1,wpAny_mono (go_ok f₁ aK ou (bind_shp ir hb)) (fun zz s₂ hz=>?_) fun zz zz z=>z⟩
 obtain ⟨f₂,kp₂,ou₂⟩:=hz
 have o₂:Op C ρ H k s₂ R V m:=⟨f₂,o.c,o.d⟩
 have al₂:∀ b∈ow,∃ ob,s₂.heap.get? b=some ob:=fun b hb=>by
  by_cases q:b∈K.own
  ·exact ou₂.1.alive b q
  ·obtain ⟨ob,e⟩:=al b hb
   exact ⟨ob,kp₂ _ _ q (kp₁ _ _ q e)⟩
 have w:Wp (o₂.fx E) (assign (toTs ts e) C.env v') _ s₂:=q_bind (C:=o₂.fx E) o₂.wide ir ou₂ hs hb
 refine wpAny_mono w (fun zz s₃ hz=>?_) fun zz zz z=>z
 obtain ⟨ρ',h,st⟩:=hz
 refine g _ _ _ ρ' s₃ h st fun ρ2 H2 k2 s2 hz=>?_
 obtain ⟨R2,V2,m2,o2⟩:=hz
 refine cp fun kk=>?_
 obtain ⟨o3,l3,a3,k3⟩:=o₂.narrow a al₂ o2
 refine kk ?_
 refine ⟨⟨R2,V2,m2,is,o3,a3,fun V' l=>iv V' (l3.trans l),r.mono l3,ou₂.1.frame fun b hb=>k3 b (hK b hb)⟩,fun b hb q ob e=>k3 b hb ob (kp₂ _ _ q (kp₁ _ _ q e))⟩
end
theorem preH_of:∀{J H:List OB},preH J H→∃ r,H=J++r
 | [],H,_=>⟨H,rfl⟩
 | o::J,[],h=>h.elim
 | o::J,o'::H,h=>(by obtain ⟨r,e⟩:=preH_of h.2; exact ⟨r,by rw [h.1,e]; rfl⟩)
noncomputable def Rt.cut (R:Rt)(n:Nat):Rt:=⟨R.F,R.w.take n,fun b=>match R.τ b with
 | some i=>bif i.blt n then some i else none
 | none=>none⟩
section
variable {W:Wo} {V:View} {R:Rt} {H J:List OB}
theorem cut_some {n:Nat}{b:Addr}{i:Nat}(h:(R.cut n).τ b=some i):R.τ b=some i∧i<n:=by
 have h:(match R.τ b with
  | some i=>bif i.blt n then some i else none
  | none=>none)=some i:=h
 rcases q:R.τ b with _|⟨j⟩
 ·rw [q] at h; injection h
 ·rw [q] at h
  have h:(bif j.blt n then some j else none)=some i:=h
  rcases z:j.blt n with _|_
  ·rw [z] at h; injection h
  ·rw [z] at h; obtain rfl:=Option.some.inj h; exact ⟨rfl,Nat.le_of_ble_eq_true z⟩
theorem cut_of {n:Nat}{b:Addr}{i:Nat}(h:R.τ b=some i)(hi:i<n):(R.cut n).τ b=some i:=by
 show (match R.τ b with
  | some i=>bif i.blt n then some i else none
  | none=>none)=some i
 refine (Eq.symm h)▸?_
 show (bif i.blt n then some i else none)=some i
 rw [show i.blt n=true from Nat.ble_eq_true_of_le hi]; rfl
theorem cut_w {n:Nat}{j:Nat}{y:Addr}(h:R.w[j]?=some y)(hj:j<n):(R.cut n).w[j]?=some y:=by
 show (R.w.take n)[j]?=some y
 rw [List.getElem?_take,if_pos hj,h]
theorem okO_qs {n:Nat}:∀{qs:List QV}{as:List AV},qs.all (okN n)=true→QRs W R qs as→QRs W (R.cut n) qs as
 | [],_,_,r=>r
 | q::qs,_,h,hz3=>by
  obtain ⟨a,t,rfl,r,g⟩:=hz3
  rw [List.all_cons] at h
  refine ⟨a,t,rfl,?_,okO_qs (an h).2 g⟩
  rcases q with ⟨v⟩|⟨i⟩
  ·exact r
  ·obtain ⟨x,hx,e⟩:=r; exact ⟨x,cut_w hx (Nat.le_of_ble_eq_true (an h).1),e⟩
theorem Core.cut (c:Core W V R H)(h:preH J H)(ok:J.all (okO J.length)=true):Core W V (R.cut J.length) J:=by
 obtain ⟨r,rfl⟩:=preH_of h
 refine ⟨fun b e=>?_,c.le,fun b o e=>?_,c.nc,fun b i v e=>c.nt b i v (cut_some e).1,fun b i e=>(cut_some e).2,?_,fun i x o e1 e2=>?_⟩
 ·rcases q:(R.cut J.length).τ b with _|⟨i⟩
  ·rfl
  ·have:=c.fre b e; rw [(cut_some q).1] at this; injection this
 ·rcases q:(R.cut J.length).τ b with _|⟨i⟩
  ·rfl
  ·have:=c.off b o e; rw [(cut_some q).1] at this; injection this
 ·show (R.w.take J.length).length=J.length
  rw [List.length_take,c.wl,List.length_append]; lia
 ·have hi:i<J.length:=(List.getElem?_eq_some_iff.mp e2).1
  have e1:(R.w.take J.length)[i]?=some x:=e1
  rw [List.getElem?_take,if_pos hi] at e1
  have hk:okO J.length o=true:=List.all_eq_true.mp ok o (List.mem_of_getElem? e2)
  refine RootR.mv (R:=R) (R':=R.cut J.length) (Le.refl _) (fun b o v t=>⟨v,cut_of t hi⟩) ?_ (c.rt i x o e1 (append_some e2))
  rcases o with _|_|⟨Cn,qs⟩|⟨qs⟩|⟨qs⟩
  ·rfl
  ·rfl
  ·exact ⟨qs,rfl,fun as r=>okO_qs hk r⟩
  ·exact ⟨qs,rfl,fun as r=>okO_qs hk r⟩
  ·exact ⟨qs,rfl,fun as r=>okO_qs hk r⟩
end
section
variable {C:Fx} {ρ ρ':En} {H:List OB} {k l:Sk} {s:Shared} {R:Rt} {V:View} {m:Mp} {I:Itr} {K:ItK} {ow:List Addr} {n:Nat}
theorem St.relk (st:St C ρ H k s)(h:∀ y q,lk ρ' y=some q→lk ρ y=some q):St C ρ' H k s:=st.rec fun R V m o=>⟨R,V,m,o.f,o.c,fun y q e=>o.d.nm y q (h y q e),o.d.sk,o.d.f0,o.d.w0,o.d.ce,o.d.c0⟩
theorem StI.relk (st:StI C ρ H k I K ow n s)(h:∀ y q,lk ρ' y=some q→lk ρ y=some q):StI C ρ' H k I K ow n s:=st.rec fun R V m is o a iv r t=>⟨R,V,m,is,⟨o.f,o.c,fun y q e=>o.d.nm y q (h y q e),o.d.sk,o.d.f0,o.d.w0,o.d.ce,o.d.c0⟩,a,iv,r,t⟩
theorem Op.side (o:Op C ρ H k s R V m){h':Heap}{t:Nat}(a:Aside ow C.O V C.env.locals)(g:∀ b o,b ∉ ow→s.heap.get? b=some o→h'.get? b=some o):Op C ρ H k { s with heap:=h',toks:=t } R V m:=⟨o.f.side ow a g,o.c,o.d⟩
theorem okN_mono {n n':Nat}(h:n≤n'){q:QV}(k:okN n q=true):okN n' q=true:=by
 rcases q with ⟨v⟩|⟨i⟩
 ·rfl
 ·exact Nat.ble_eq_true_of_le (Nat.le_trans (Nat.le_of_ble_eq_true k) h)
theorem QR.okN {q:QV}{a:AV}(c:Core C.W V R H)(r:QR C.W R q a):okN H.length q=true:=by
 rcases q with ⟨v⟩|⟨i⟩
 ·rfl
 ·obtain ⟨x,hx,_⟩:=r; exact Nat.ble_eq_true_of_le (c.get hx)
theorem NmR.okN {B:Fs}{x:Str}{q:QV}(c:Core B.W V R H)(r:NmR B m V R x q):okN H.length q=true:=by
 have go:∀ a,QR B.W R q a→Mine.Internal.okN H.length q=true:=fun a r=>by
  rcases q with ⟨v⟩|⟨i⟩
  ·rfl
  ·obtain ⟨x,hx,_⟩:=r; exact Nat.ble_eq_true_of_le (c.get hx)
 rcases r with ⟨a,_,_,r⟩|⟨a,_,_,_,_,r⟩
 ·exact go a r
 ·exact go a r
theorem QR.cut {W:Wo}{n:Nat}{q:QV}{a:AV}(h:Mine.Internal.okN n q=true)(r:QR W R q a):QR W (R.cut n) q a:=by
 rcases q with ⟨v⟩|⟨i⟩
 ·exact r
 ·obtain ⟨x,hx,e⟩:=r; exact ⟨x,cut_w hx (Nat.le_of_ble_eq_true h),e⟩
theorem Op.pre (o:Op C ρ H k s R V m){J:List OB}(h:preH J H)(ok:J.all (okO J.length)=true)(w:C.w0.length≤J.length)(hn:∀ y q,lk ρ y=some q→Mine.Internal.okN J.length q=true)(hk:∀ p∈k,Mine.Internal.okN J.length p.1=true):Op C ρ J k s (R.cut J.length) V m:=⟨o.f,o.c.cut h ok,fun y q e=>⟨(o.d.nm y q e).1,by
  rcases (o.d.nm y q e).2 with ⟨a,k,g,r⟩|⟨a,b,k,g,z,r⟩
  ·exact .loc a k g (r.cut (hn y q e))
  ·exact .cel a b k g z (r.cut (hn y q e))⟩,fun p hp=>(o.d.sk p hp).cut (hk p hp),o.d.f0,fun j y e=>cut_w (o.d.w0 j y e) (Nat.lt_of_lt_of_le (List.getElem?_eq_some_iff.mp e).1 w),o.d.ce,o.d.c0⟩
theorem St.pre (st:St C ρ H k s){J:List OB}(h:preH J H)(ok:J.all (okO J.length)=true)(w:C.w0.length≤J.length)(hn:∀ y q,lk ρ y=some q→Mine.Internal.okN J.length q=true)(hk:∀ p∈k,Mine.Internal.okN J.length p.1=true):St C ρ J k s:=st.rec fun R V m o=>⟨_,V,m,o.pre h ok w hn hk⟩
theorem bind_keep {ts:List Nat}{i:IC}{KK:En→Prop}(h:bindO ts i ρ KK):bindO ts i ρ fun ρ'=>KK ρ'∧(∀ y,y ∉ ts→lk ρ' y=lk ρ y)∧∀ y q,lk ρ' y=some q→lk ρ y=some q∨∃ v,q=.fr v:=by
 have one:∀{ρ:En}{x y:Nat}{q:QV},y≠x→lk (st ρ x q) y=lk ρ y:=fun h=>by rw [lk_st,if_neg h]
 have fr:∀{ρ:En}{x:Nat}{v:PV}(y:Nat)(q:QV),lk (st ρ x (.fr v)) y=some q→lk ρ y=some q∨∃ v,q=.fr v:=fun y q e=>by
  rw [lk_st] at e
  split at e
  ·exact .inr ⟨_,(Option.some.inj e).symm⟩
  ·exact .inl e
 rcases ts with _|⟨x,ts⟩
 ·exact h
 ·rcases ts with _|⟨z,ts⟩
  ·rcases i with ⟨v⟩|⟨_,_⟩
   ·exact ⟨h,fun y hy=>one fun e=>hy (by rw [e]; exact .head _),fr⟩
   ·exact h
  ·rcases ts with _|⟨_,_⟩
   ·have two:∀{u w:PV},KK (st (st ρ x (.fr u)) z (.fr w))→KK (st (st ρ x (.fr u)) z (.fr w))∧(∀ y,y ∉ [x,z]→lk (st (st ρ x (.fr u)) z (.fr w)) y=lk ρ y)∧∀ y q,lk (st (st ρ x (.fr u)) z (.fr w)) y=some q→lk ρ y=some q∨∃ v,q=.fr v:=fun h =>
     ⟨h,fun y hy=>(one fun e=>hy (by rw [e]; exact .tail _ (.head _))).trans (one fun e=>hy (by rw [e]; exact .head _)),fun y q e=>(fr y q e).elim (fr y q) .inr⟩
    rcases i with ⟨v⟩|⟨u,v⟩
    ·cases v with
     | tup vs =>
      rcases vs with _|⟨u,vs⟩
      ·exact h
      ·cases vs with
       | nil=>exact h
       | cons v vs =>
        rcases vs with _|⟨_,_⟩
        ·exact two h
        ·exact h
     | _=>exact h
    ·exact two h
   ·exact h
theorem all_mono {P Q:IC→Prop}{I:Itr}{n:Nat}(g:∀ i,P i→Q i)(h:I.all P n):I.all Q n:=by
 rcases I with ⟨xs⟩|⟨a,b⟩|⟨xs⟩
 ·exact fun v e=>g _ (h v e)
 ·exact fun e=>g _ (h e)
 ·exact fun v e=>g _ (h v e)
inductive CInv (C:Fx)(ρ:En)(J:Nat→List OB)(A:Nat→List QV)(k:Sk)(I:Itr)(K:ItK)(D:Addr)(n:Nat)(s:Shared):Prop
 | mk (j:Nat) (l:Sk) (d:Nat) (e:n=I.len-j) (hj:j≤I.len) (st:StI C ρ (J j) (l++k) I K (D::K.own) j s) (ha:l.map (·.1)=A j) (hl:l.length≤j) (hD:s.heap.get? D=some { cls:=.type "list",data:=.seq (List.toArray (l.map (·.2))) d })
theorem in_snoc {p:QV×Value}:∀ x∈(l++[p])++k,x∈p::(l++k):=fun x h=>by
 rcases List.mem_append.mp h with h|h
 ·rcases List.mem_append.mp h with h|h
  ·exact .tail _ (List.mem_append_left _ h)
  ·cases h with
   | head=>exact .head _
   | tail _ h=>cases h
 ·exact .tail _ (List.mem_append_right _ h)
theorem q_cloop {c e:XE}{ce:List Expr}{ee it te:Expr}{ts:List Nat}{sc:Scope}{p:Pos}{J:Nat→List OB}{A:Nat→List QV}{D:Addr}{Rr:Result→Shared→Prop}{KE:Nat→KQ}{KN:Nat→List OB→Prop}(hP:C.P=C.P.calm)(tc:TsX c)(te':OneX e)(cs:csX c=true)(okc:okX c C.kd=true)(oke:okX e C.kd=true)
  (hts:∀ x∈ts,Sto C x) (hfv:∀ y q,lk ρ y=some q→y ∉ ts) (hsz:I.len≤1000) (hDK:D ∉ K.own)
  (step:∀ n,I.all (fun x=>bindO ts x ρ fun ρ=>sC c C.P ρ (J n) fun b H=>brB b (sX e C.P ρ H (KE n)) (KN n H)) n) (hN:∀ n H,KN n H→A (n+1)=A n∧preH (J (n+1)) H)
  (hK:∀(n:Nat)(C':Fx)(ρ:En)(H:List OB)(k:Sk)(q:QV)(v:Value)(s:Shared),KE n H q→St C' ρ H ((q,v)::k) s→∃ q' H',A (n+1)=A n++[q']∧preH (J (n+1)) H'∧St C' ρ H' ((q',v)::k) s)
  (n0:Nat) (hn0:∀ y q,lk ρ y=some q→okN n0 q=true) (hk0:∀ p∈k,okN n0 p.1=true) (hw:C.w0.length≤n0) (okJ:∀ n,okH n0 (J n)=true) (hAo:∀ n,∀ q∈A n,okN (J n).length q=true)
  (st:StI C ρ (J 0) k I K (D::K.own) 0 s) (hA:A 0=[]) (hD:s.heap.get? D=some { cls:=.type "list",data:=.seq #[] })
  (fin:∀ (l:Sk) (d:Nat) (s':Shared) (R:Rt) (V:View) (m:Mp),Op C ρ (J I.len) (l++k) s' R V m→Aside [D] C.O V C.env.locals→l.map (·.1)=A I.len→l.length≤1000→s'.heap.get? D=some { cls:=.type "list",data:=.seq (List.toArray (l.map (·.2))) d }→Rr (.ok .next) s') :
  codeAny (model C.W.prog C.W.w) C.A (.compLoop (.ListComp (toE e ee) [⟨toTs ts te,it,toL c ce,0⟩] sc p) 0 (.ref K.top) (.ref D) C.env) Rr s:=by
 refine codeAny_loop rfl (CInv C ρ J A k I K D) (fun n s hI=>?_) I.len ⟨0,[],0,rfl,Nat.zero_le _,st,hA.symm,Nat.le_refl _,hD⟩
 obtain ⟨j,l,d,rfl,hj,st,ha,hl,hD⟩:=hI
 show wpAny _ C.A ((compTurn (.ListComp (toE e ee) [⟨toTs ts te,it,toL c ce,0⟩] sc p) 0 (.ref K.top) (.ref D) C.env).onRaise (fun x=>do noteFrame x C.env; theTreesLotGoes x)) _ _ s
 refine wpAny_noted ?_
 rw [compTurn_list]
 refine wpAny_bind (wpAny_standAt (wpAny_bind ?_))
 by_cases hn:j<I.len
 ·have al:∀ b∈D::K.own,∃ ob,s.heap.get? b=some ob:=fun b hb=>by
   rcases List.mem_cons.mp hb with rfl|hb
   ·exact ⟨_,hD⟩
   ·exact st.rec fun R V m is o a iv r t=>t.alive b hb
  refine' wpAny_mono (turn (e:=te) st (fun b hb=>.tail _ hb) al hn hts (all_mono (fun i h=>bind_keep h) (step j)) ?g) ?h fun zz zz z=>z
  case h =>
   intro r s₁ h
   obtain ⟨v,rfl,h⟩:=h
   exact wpAny_bind (wpAny_mono h (fun zz s₂ h=>wpAny_bind h) fun zz zz z=>z)
  case g =>
  intro F O b ρ' s₃ hq st₃ back
  obtain ⟨hq,kp,kf⟩:=hq
  have pre:∀{C':Fx}{l:Sk}{s':Shared}{H:List OB},C'.w0=C.w0→l.map (·.1)=A (j+1)→preH (J (j+1)) H→St C' ρ' H (l++k) s'→St C' ρ' (J (j+1)) (l++k) s':=fun {C' l s' H} e1 e2 e3 st=>by
   have ok:=an (okJ (j+1))
   have le:n0≤(J (j+1)).length:=Nat.le_of_ble_eq_true ok.1
   refine st.pre e3 ok.2 (by rw [e1]; exact Nat.le_trans hw le) (fun y q e=>?_) fun p hp=>?_
   ·rcases kf y q e with e|⟨v,rfl⟩
    ·exact okN_mono le (hn0 y q e)
    ·rfl
   ·rcases List.mem_append.mp hp with hp|hp
    ·exact hAo (j+1) _ (by rw [← e2]; exact List.mem_map_of_mem hp)
    ·exact okN_mono le (hk0 p hp)
  have names:∀ y q,lk ρ y=some q→lk ρ' y=some q:=fun y q e=>(kp y (hfv y q e)).trans e
  rw [hP] at hq
  refine wpAny_bind (wpAny_mono (tc (C.calm F _ O b) ce ρ' (J j) _ s₃ _ cs okc st₃ hq) (fun bb s₄ h=>h.rec fun H₄ hb st₄=>?_) fun zz zz z=>z)
  have side:∀ {H2 k2 s2},St (C.calm F _ O b) ρ' H2 k2 s2→StI C ρ H2 k2 I K (D::K.own) (j+1) s2∧s2.heap.get? D=some { cls:=.type "list",data:=.seq (List.toArray (l.map (·.2))) d }:=fun st=>(by obtain ⟨g1,g2⟩:=back _ _ _ _ st; exact ⟨g1.relk names,g2 D (.head _) hDK _ hD⟩)
  rcases bb with _|_
  ·have hb:=hN j _ (brB_f hb)
   obtain ⟨g1,g2⟩:=side (pre rfl (ha.trans hb.1.symm) hb.2 st₄)
   exact wpAny_pure ⟨rfl,_,Nat.sub_lt_sub_left hn (Nat.lt_succ_self j),j+1,l,d,rfl,hn,g1,ha.trans hb.1.symm,Nat.le_succ_of_le hl,g2⟩
  ·refine wpAny_bind (wpAny_bind (wpAny_mono (te'.ev (C.calm F _ O b) ee ρ' H₄ _ s₄ _ oke st₄ (brB_t hb)) (fun y s₅ h=>h.rec fun H₅ q hk st₅=>?_) fun zz zz z=>z))
   obtain ⟨q',H',e1,e2,st₆⟩:=hK j _ _ _ _ _ _ _ hk st₅
   obtain ⟨g1,g2⟩:=side (pre rfl (by rw [List.map_append,ha,e1]; rfl) e2 (st₆.sub in_snoc))
   refine wpAny_bind (append_at g2 (fun h' hs hob=>?_) (by rw [List.size_toArray,List.length_map]; exact small_line (Nat.le_trans hl (Nat.le_trans hj hsz))))
   obtain ⟨R,V,m,is,o,a,iv,r,t⟩:=g1
   refine wpAny_pure (wpAny_pure ⟨rfl,_,Nat.sub_lt_sub_left hn (Nat.lt_succ_self j),j+1,l++[(q',y)],d+1,rfl,hn,⟨R,V,m,is,o.side (ow:=[D]) (t:=s₅.toks) (fun b hb=>?_) (fun b o hb e=>?_),a,iv,r,t.frame fun b hb o e=>?_⟩,by rw [List.map_append,ha,e1]; rfl,by rw [List.length_append]; exact Nat.succ_le_succ hl,?_⟩)
   ·cases hb with
    | head=>exact a D (.head _)
    | tail _ hb=>cases hb
   ·exact (hs.2 b fun q=>hb (by rw [q]; exact .head _)).trans e
   ·exact (hs.2 b fun q=>hDK (q▸hb)).trans e
   ·rw [hob,List.map_append]; simp
 ·have:j=I.len:=Nat.le_antisymm hj (Nat.le_of_not_lt hn)
  subst this
  obtain ⟨R,V,m,is,o,a,iv,r,t⟩:=st
  have aK:Own K C.O V C.env.locals:=fun b hb=>a b (.tail _ hb)
  rw [← r.len] at t
  refine wpAny_mono (next_end C.bok.hnd o.f aK t (iv V o.c.le)) (fun x s₁ hz=>?_) fun zz zz z=>z
  obtain ⟨e,f₁,kp⟩:=hz
  subst e
  exact wpAny_pure (fin l d s₁ R V m ⟨f₁,o.c,o.d⟩ (fun b hb=>by
   cases hb with
   | head=>exact a D (.head _)
   | tail _ hb=>cases hb) ha (Nat.le_trans hl hsz) (kp _ _ hDK hD))
end
structure Into (xs:List Str)(cl:Str→Option Addr)(V:View)(cl':Str→Option Addr)(V':View):Prop where
 inj:∀ x y a,cl' x=some a→cl' y=some a→x=y
 clk:∀ x∈xs,∃ a,cl' x=some a∧V a=none
 old:∀ x,x ∉ xs→cl' x=cl x
 le:Le V V'
 new:∀ b o,V b=none→V' b=some o→∃ v,o=.cell v
 ce:∀ x a,cl' x=some a→∃ o,V' a=some (.cell o)
theorem intoC_ok:∀(xs:List Str)(cl:Str→Option Addr)(V:View){Q:(Str→Option Addr)→View→Prop},(∀ x y a,cl x=some a→cl y=some a→x=y)→(∀ x a,cl x=some a→∃ o,V a=some (.cell o))→(∀ cl' V',Into xs cl V cl' V'→Q cl' V')→intoC xs cl V Q
 | [],cl,V,Q,inj,ce,h=>h cl V ⟨inj,(fun x hx=>by cases hx),fun zz zz=>rfl,.refl _,(fun b o e g=>by rw [e] at g; injection g),ce⟩
 | x::xs,cl,V,Q,inj,ce,h=>fun a ha=>by
  have nc:∀ y,cl y≠some a:=fun y e=>by obtain ⟨o,g⟩:=ce y a e; rw [ha] at g; injection g
  refine intoC_ok xs _ _ (fun y z b e1 e2=>?_) (fun y b e=>?_) fun cl' V' g=>h cl' V' ⟨g.inj,fun y hy=>?_,fun y hy=>?_,(Le.put' ha).trans g.le,fun b o e1 e2=>?_,g.ce⟩
  ·by_cases h1:y=x
   ·by_cases h2:z=x
    ·rw [h1,h2]
    ·rw [if_pos h1] at e1; rw [if_neg h2] at e2; obtain rfl:=Option.some.inj e1; exact absurd e2 (nc z)
   ·rw [if_neg h1] at e1
    by_cases h2:z=x
    ·rw [if_pos h2] at e2; obtain rfl:=Option.some.inj e2; exact absurd e1 (nc y)
    ·rw [if_neg h2] at e2; exact inj y z b e1 e2
  ·by_cases h1:y=x
   ·rw [if_pos h1] at e; obtain rfl:=Option.some.inj e; exact ⟨_,put_self _ _ _⟩
   ·rw [if_neg h1] at e
    obtain ⟨o,q⟩:=ce y b e
    exact ⟨o,(put_ne _ _ (by rintro rfl; exact nc y e)).trans q⟩
  ·by_cases h1:y∈xs
   ·obtain ⟨b,e1,e2⟩:=g.clk y h1
    refine ⟨b,e1,?_⟩
    by_cases h2:b=a
    ·subst h2; rw [put_self] at e2; injection e2
    ·exact (put_ne _ _ h2).symm.trans e2
   ·rcases List.mem_cons.mp hy with rfl|hy
    ·exact ⟨a,(g.old _ h1).trans (if_pos rfl),ha⟩
    ·exact absurd hy h1
  ·exact (g.old y fun q=>hy (.tail _ q)).trans (if_neg fun q=>hy (by rw [q]; exact .head _))
  ·by_cases h1:b=a
   ·subst h1; have:=g.le b _ (put_self _ _ _); rw [e2] at this; obtain rfl:=Option.some.inj this; exact ⟨_,rfl⟩
   ·exact g.new b o ((put_ne _ _ h1).trans e1) e2
noncomputable def Fx.comp (C:Fx)(kd:Str→Option NameKind)(cl:Str→Option Addr)(env:Env)(fs:List Addr)(O:Heap)(F:View)(w0:List Addr)(C0:View)(b:Bok C.W C.A fs O env C.n)(e:EnvOk { W:=C.W,n:=C.n,kd:=kd,cl:=cl } env)
  (inj:∀ x y a,cl x=some a→cl y=some a→x=y) (clk:∀ x,isCl kd x=true→∃ a,cl x=some a):Fx :=
 {W:=C.W,P:=C.P.calm,kd:=kd,n:=C.n,cl:=cl,env:=env,A:=C.A,fs:=fs,O:=O,E:=C.E,F0:=F,w0:=w0,C0:=C0,bok:=b,eok:=e,ext:=fun zz zz zz zz zz zz zz h=>h.elim,inj:=inj,clk:=clk,snd:=C.snd,pf:=C.pf }
theorem isCl_of {kd:Str→Option NameKind}{x:Str}(h:isCl kd x=true):kd x=some .cell∨kd x=some .free:=by
 unfold isCl at h
 rcases q:kd x with _|⟨n⟩
 ·rw [q] at h; injection h
 ·rw [q] at h; cases n <;> first|exact .inl rfl|exact .inr rfl|injection h
theorem look_mem {x:Str}{k:NameKind}:∀{ns:List (Str×NameKind)},ns.lookup x=some k→(x,k)∈ns
 | [],h=>by injection h
 | (y,c)::r,h=>by
  rw [List.lookup_cons] at h
  by_cases e:x=y
  ·subst e; rw [beq_self_eq_true] at h; obtain rfl:=Option.some.inj h; exact .head _
  ·rw [beq_eq_false_iff_ne.mpr e] at h; exact .tail _ (look_mem h)
theorem cell_mem {x:Str}:∀{ns:List (Str×NameKind)},(x,NameKind.cell)∈ns→x∈cellNames ns
 | (y,c)::r,h=>by
  unfold cellNames
  rcases List.mem_cons.mp h with h|h
  ·cases h; show x∈if (NameKind.cell == NameKind.cell)=true then x::cellNames r else cellNames r; rw [if_pos (by decide)]; exact .head _
  ·split
   ·exact .tail _ (cell_mem h)
   ·exact cell_mem h
theorem Core.cells {W:Wo}{V V':View}{R:Rt}{H:List OB}(c:Core W V R H)(l:Le V V')(n:∀ b o,V b=none→V' b=some o→∃ v,o=.cell v):Core W V' R H:=by
 have st:∀ b i,R.τ b=some i→∃ o,V b=some o:=fun b i e=>by
  rcases q:V b with _|⟨o⟩
  ·rw [c.fre b q] at e; injection e
  ·exact ⟨o,rfl⟩
 exact ⟨fun b e=>c.fre b (Le.nil l e),c.le.trans l,c.off,c.nc,fun b i v e q=>by obtain ⟨o,z⟩:=st b i e; rw [l b o z] at q; exact c.nt b i v e (z.trans q),c.tag,c.wl,fun i x o e1 e2=>RootR.mono ⟨.refl _,fun b o v zz=>l b o v,fun zz t=>t⟩ o (c.rt i x o e1 e2)⟩
section
variable {C:Fx} {ρ ρ':En} {H:List OB} {k l:Sk} {s:Shared} {R:Rt} {V:View} {m:Mp} {I:Itr} {K:ItK} {ow:List Addr} {n:Nat}
theorem frees_lk {fv:List Nat}:∀{ρ:En}{y:Nat}{q:QV},lk (frees fv ρ) y=some q→lk ρ y=some q∧y∈fv
 | [],z1,z2,h=>by injection h
 | (z,p)::r,y,q,h=>by
  unfold frees at h
  rcases hm:mem z fv with _|_
  ·rw [hm] at h
   obtain ⟨h1,h2⟩:=frees_lk (ρ:=r) h
   refine ⟨?_,h2⟩
   show (bif y.beq z then some p else lk r y)=some q
   rcases e:y.beq z with _|_
   ·exact h1
   ·rw [← beq_of e,mem_of.mpr h2] at hm; injection hm
  ·rw [hm] at h
   have h:(bif y.beq z then some p else lk (frees fv r) y)=some q:=h
   show (bif y.beq z then some p else lk r y)=some q∧_
   rcases e:y.beq z with _|_
   ·rw [e] at h; exact frees_lk h
   ·rw [e] at h; exact ⟨h,by rw [beq_of e]; exact mem_of.mp hm⟩
theorem StI.at0 (st:StI C ρ H k I K ow n s):K.At n s.heap:=st.rec fun R V m is o a iv r t=>t
structure CompN (ns:List (Str×NameKind))(fv ts:List Nat)(kd:Str→Option NameKind):Prop where
 nk:okNs ns=true
 cap:∀ x∈freeNames ns,isCl kd x=true
 fvk:∀ x∈fv,isFree ns x=true
 tsk:∀ x∈ts,stoK (fun y=>ns.lookup y) x=true∧x ∉ fv
theorem CompN.sto {ns:List (Str×NameKind)}{fv ts:List Nat}(cn:CompN ns fv ts C.kd){cl:Str→Option Addr}{V':View}(g:Into (cellNames ns) (fun x=>if ns.lookup x=some .free then C.cl x else none) V cl V'){x:Nat}(hx:x∈ts):stoK (kdIn ns C.kd) x=true∧∀ a v,cl (nmG x)=some a→V a≠some (.cell v):=by
 obtain ⟨h,hl⟩:=stoK_of (cn.tsk x hx).1
 refine ⟨?_,fun a v e=>?_⟩
 ·delta stoK kdIn
  refine (Eq.symm (show x.blt nmL.length=true from Nat.ble_eq_true_of_le h))▸?_
  rcases hl with hl|hl <;> rw [hl] <;> rfl
 ·by_cases hm:nmG x∈cellNames ns
  ·obtain ⟨b,e1,e2⟩:=g.clk _ hm
   rw [e1] at e; obtain rfl:=Option.some.inj e
   rw [e2]; exact fun z=>by cases z
  ·rw [g.old _ hm,if_neg (by rcases hl with hl|hl <;> rw [hl] <;> exact fun z=>by cases z)] at e
   injection e
theorem CompN.clk {ns:List (Str×NameKind)}{fv ts:List Nat}(cn:CompN ns fv ts C.kd){cl:Str→Option Addr}{V':View}(g:Into (cellNames ns) (fun x=>if ns.lookup x=some .free then C.cl x else none) V cl V')(x:Str)(h:isCl (kdIn ns C.kd) x=true):∃ a,cl x=some a:=by
 by_cases hm:x∈cellNames ns
 ·obtain ⟨a,e,_⟩:=g.clk _ hm; exact ⟨a,e⟩
 ·rw [g.old _ hm]
  have hk:=isCl_of h
  unfold kdIn at hk
  rcases q:ns.lookup x with _|⟨n⟩
  ·rw [q] at hk; rcases hk with hk|hk <;> injection hk
  ·rw [q] at hk
   rcases n with _|_|_|_|_
   ·rcases hk with hk|hk <;> cases hk
   ·exact absurd (cell_mem (look_mem q)) hm
   ·rw [if_pos rfl]; exact C.clk x (cn.cap x (lookup_free q))
   ·rcases hk with hk|hk <;> cases hk
   ·rcases hk with hk|hk <;> cases hk
theorem CompN.nm {ns:List (Str×NameKind)}{fv ts:List Nat}(cn:CompN ns fv ts C.kd){cl:Str→Option Addr}{V':View}(g:Into (cellNames ns) (fun x=>if ns.lookup x=some .free then C.cl x else none) V cl V'){y:Nat}{q:QV}{x:Mp}(hy:y∈fv)(n:NmR C.b m V R (nmG y) q):NmR ⟨C.W,kdIn ns C.kd,cl⟩ x V' R (nmG y) q:=by
 have hf:=cn.fvk y hy
 unfold isFree at hf
 cases e:ns.lookup (nmG y) with
 | none=>rw [e] at hf; injection hf
 | some k =>
  rw [e] at hf
  cases k with
  | free =>
   have hm:nmG y ∉ cellNames ns:=fun z=>by
    rw [show (cellNames ns).contains (nmG y)=true from List.contains_iff_mem.mpr z] at hf; injection hf
   have hk:kdIn ns C.kd (nmG y)=some .cell∨kdIn ns C.kd (nmG y)=some .free:=by
    unfold kdIn; rw [e]
    cases C.kd (nmG y) with
    | none=>exact .inr rfl
    | some k=>cases k <;> first|exact .inl rfl|exact .inr rfl
   cases n with
   | loc a k h r=>rcases isCl_of (cn.cap _ (lookup_free e)) with z|z <;> (rw [show C.kd (nmG y)=_ from k] at z; cases z)
   | cel a b k h z r=>exact .cel a b hk ((g.old _ hm).trans ((if_pos e).trans h)) (g.le _ _ z) r
  | _=>injection hf
theorem into_ok (o:Op C ρ H k s R V m)(sc:Scope)(ns:List (Str×NameKind)):intoV { sc with names:=ns,kind:=.function } C.c V fun c' V'=>c'.kd=kdIn ns C.kd∧Into (cellNames ns) (fun x=>if ns.lookup x=some .free then C.cl x else none) V c'.cl V':=by
 show intoC (cellNames ns) (fun x=>if ns.lookup x=some .free then C.cl x else none) V fun cl V'=>_
 refine intoC_ok _ _ V (fun x y a e1 e2=>?_) (fun x a e=>?_) fun cl' V' g=>⟨rfl,g⟩
 ·by_cases z1:ns.lookup x=some .free
  ·by_cases z2:ns.lookup y=some .free
   ·rw [if_pos z1] at e1; rw [if_pos z2] at e2; exact C.inj x y a e1 e2
   ·rw [if_neg z2] at e2; injection e2
  ·rw [if_neg z1] at e1; injection e1
 ·by_cases z1:ns.lookup x=some .free
  ·rw [if_pos z1] at e; exact o.d.ce x a e
  ·rw [if_neg z1] at e; injection e
structure Own0 (C:Fx)(ρ:En)(k:Sk)(n0:Nat):Prop where
 nm:∀ y q,lk ρ y=some q→okN n0 q=true
 sk:∀ p∈k,okN n0 p.1=true
 w0:∀(j:Nat)(y:Addr),C.w0[j]?=some y→j<n0
inductive CompK (C:Fx)(ρ:En)(k:Sk)(fv ts:List Nat)(c e:XE)(Fin:List OB→List QV→Nat→Prop)(H:List OB)(I:Itr):Prop
 | mk (J:Nat→List OB) (A:Nat→List QV) (KE:Nat→KQ) (KN:Nat→List OB→Prop) (hsz:I.len≤1000) (hJ:J 0=H) (hA:A 0=[])
   (step:∀ n,I.all (fun x=>bindO ts x (frees fv ρ) fun ρ=>sC c C.P.calm ρ (J n) fun b H=>brB b (sX e C.P.calm ρ H (KE n)) (KN n H)) n) (hN:∀ n H,KN n H→A (n+1)=A n∧preH (J (n+1)) H)
   (hK:∀(n:Nat)(C':Fx)(ρ:En)(H:List OB)(k:Sk)(q:QV)(v:Value)(s:Shared),KE n H q→St C' ρ H ((q,v)::k) s→∃ q' H',A (n+1)=A n++[q']∧preH (J (n+1)) H'∧St C' ρ H' ((q',v)::k) s)
   (okJ:∀ n,okH H.length (J n)=true) (hAo:∀ n,∀ q∈A n,okN (J n).length q=true) (fin:Fin (J I.len) (A I.len) H.length)
theorem q_comp {c e:XE}{ce:List Expr}{ee it te:Expr}{ts fv:List Nat}{ns:List (Str×NameKind)}{sc:Scope}{p:Pos}{use:Option (Value→Sem Unit)}{first:Sem Value}{QQ:Value→Shared→Prop}{KI:List OB→Itr→Prop}{Fin:List OB→List QV→Nat→Prop}
  (tc:TsX c) (te':OneX e) (cs:csX c=true) (okc:okX c (kdIn ns C.kd)=true) (oke:okX e (kdIn ns C.kd)=true) (cn:CompN ns fv ts C.kd) (hs:∀ x,foldedSetIterable it C.env x=pure x)
  (hf:Wp C first (fun x s=>Wp C (pyIter x) (StartI C ρ k KI) s) s) (hI:∀ H I,KI H I→CompK C ρ k fv ts c e Fin H I)
  (fin:∀ (H:List OB) (A:List QV) (l:Sk) (d n0:Nat) (s':Shared) (R:Rt) (V:View) (m:Mp) (D Cl:Addr) (mC:Str→Option Value),Fin H A n0→Own0 C ρ k n0→Op C ρ H (l++k) s' R V m→Aside [D,Cl] C.O V C.env.locals→D≠Cl→l.map (·.1)=A→l.length≤1000→s'.heap.get? D=some { cls:=.type "list",data:=.seq (List.toArray (l.map (·.2))) d }→s'.heap.Ns Cl mC →
    compPost (model C.W.prog C.W.w) C.A C.E use QQ (.ref D) Cl (.ok .next) s') :
  Wp C (comprehension (.ListComp (toE e ee) [⟨toTs ts te,it,toL c ce,0⟩] { sc with names:=ns,kind:=.function } p) { sc with names:=ns,kind:=.function } C.env (firstIterPos [⟨toTs ts te,it,toL c ce,0⟩] p) (newList []) false first use) QQ s:=by
 have h1:okSc { sc with names:=ns,kind:=.function }=true:=cn.nk
 refine cp fun kk=>?_
 obtain ⟨k1,k2,k3,k4⟩:=okSc_facts h1
 have h2:∀ x∈freeNames ns,∃ a,C.cl x=some a:=fun x hx=>C.clk x (cn.cap x hx)
 obtain ⟨cs',hcs,hl⟩:=closureFor_ok (c:=C.c) (sc:={ sc with names:=ns,kind:=.function }) h2 C.eok
 refine kk ?_
 refine wpAny_comprehension_free (use:=use) (cl:=cs') rfl hs hcs k1 k2 (wpAny_mono hf (fun x s₁ h=>wpAny_mono h (fun itv s₂ h=>?_) fun zz zz z=>z) fun zz zz z=>z)
 refine cp fun kk=>?_
 obtain ⟨H,I,K,rfl,hk,R,V,m,is,o,a,iv,r,t⟩:=h
 obtain ⟨J,A,KE,KN,hsz,hJ,hA,step,hN,hK,okJ,hAo,hfin⟩:=hI H I hk
 subst hJ
 refine kk ?_
 refine wpAny_newObj_type ?_
 have o₃:Op C ρ (J 0) k { s₂ with heap:=s₂.heap.push { cls:=.type "list",dict:=none,data:=.seq ([]:List Value).toArray } } R V m:=⟨o.f.grown (t:=s₂.toks) fun b o q=>Heap.get?_push_of_some _ q,o.c,o.d⟩
 have hD:=Heap.get?_push_size s₂.heap (o:={ cls:=.type "list",dict:=none,data:=.seq ([]:List Value).toArray }) rfl
 have nD:s₂.heap.objs.size ∉ K.own:=fun q=>by obtain ⟨o,e⟩:=t.alive _ q; rw [get_size] at e; injection e
 have asd:Aside (s₂.heap.objs.size::K.own) C.O V C.env.locals:=fun b hb=>by
  rcases List.mem_cons.mp hb with rfl|hb
  ·exact own_new o.f (get_size s₂.heap)
  ·exact a b hb
 have t₃:K.At 0 (s₂.heap.push { cls:=.type "list",dict:=none,data:=.seq ([]:List Value).toArray }):=t.frame fun b zz o q=>Heap.get?_push_of_some _ q
 generalize hs3:({ s₂ with heap:=s₂.heap.push { cls:=.type "list",dict:=none,data:=.seq ([]:List Value).toArray } }:Shared)=s₃ at o₃
 have t₃:K.At 0 s₃.heap:=by rw [← hs3]; exact t₃
 have hD:s₃.heap.get? s₂.heap.objs.size=some { cls:=.type "list",dict:=none,data:=.seq ([]:List Value).toArray }:=by rw [← hs3]; exact hD
 generalize s₂.heap.objs.size=D at hD nD asd
 refine wpAny_mono (comp_env (c:=C.c) (sc:={ sc with names:=ns,kind:=.function }) h1 h2 (into_ok o₃ sc ns) C.eok C.bok o₃.f asd cs' hcs hl) (fun cenv s₄ h=>?_) fun zz zz z=>z
 obtain ⟨⟨cW,cn',ckd,ccl,cX,csc⟩,V₄,ec',⟨eW,en,eX⟩,bc',f₄,⟨ek,g⟩,kp,kv,hC⟩:=h
 subst eW; subst en; subst ek; subst eX
 have alive:∀ b∈D::K.own,∃ o,s₃.heap.get? b=some o:=fun b hb=>by
  rcases List.mem_cons.mp hb with rfl|hb
  ·exact ⟨_,hD⟩
  ·exact t₃.alive b hb
 have own4:Aside (D::K.own) (hidO s₃.heap V (D::K.own)) V₄ cenv.locals:=fun b hb=>by
  obtain ⟨o,e⟩:=alive b hb
  refine ⟨?_,kv b o e (asd b hb).2.1,fun q=>by rw [q,hC] at e; cases e⟩
  rcases q:(hidO s₃.heap V (D::K.own)).get? b with _|⟨o'⟩
  ·rfl
  ·exact absurd hb (hidO_some q).2.2
 have st0:StI (C.comp (kdIn ns C.kd) ccl { cenv with scope:=relabel { sc with names:=ns,kind:=.function } C.env } (C.env.locals::C.fs) (hidO s₃.heap V (D::K.own)) R.F R.w V bc' ⟨ec'.kd,ec'.cl,ec'.dbg,ec'.cld⟩ g.inj (cn.clk g)) (frees fv ρ) (J 0) k I K (D::K.own) 0 s₄ :=
  ⟨R,V₄,_,is,⟨f₄,o.c.cells g.le g.new,fun y q e=>⟨(o.d.nm y q (frees_lk e).1).1,cn.nm g (frees_lk e).2 (o.d.nm y q (frees_lk e).1).2⟩,o.d.sk,.refl _,fun zz zz e=>e,g.ce,fun a v e=>g.le a _ e⟩,own4,iv,r,t₃.frame fun b zz o q=>kp b o q⟩
 have loop:=q_cloop (C:=C.comp (kdIn ns C.kd) ccl { cenv with scope:=relabel { sc with names:=ns,kind:=.function } C.env } (C.env.locals::C.fs) (hidO s₃.heap V (D::K.own)) R.F R.w V bc' ⟨ec'.kd,ec'.cl,ec'.dbg,ec'.cld⟩ g.inj (cn.clk g)) (ce:=ce) (ee:=ee) (it:=it) (te:=te) (sc:={ sc with names:=ns,kind:=.function }) (p:=p)
  (Rr:=compPost (model C.W.prog C.W.w) C.A C.E use QQ (.ref D) cenv.locals) rfl tc te' cs okc oke (fun x hx=>cn.sto g hx) (fun y q e hy=>(cn.tsk y hy).2 (frees_lk e).2) hsz nD step hN hK (J 0).length (fun y q e=>NmR.okN o.c (o.d.nm y q (frees_lk e).1).2) (fun p hp=>QR.okN o.c (o.d.sk p hp)) (Nat.le_of_eq o.c.wl) okJ hAo st0 hA (kp _ _ hD)
  fun l d s₅ R₅ V₅ m₅ o₅ a₅ e₅ hl₅ hD₅=>by
   refine cp fun kk=>?_
   obtain ⟨mC,nC,_⟩:=o₅.f.ns
   have ne:cenv.locals≠C.env.locals:=fun q=>by obtain ⟨o,e⟩:=o₃.f.L_some; rw [← q,hC] at e; injection e
   refine kk ?_
   refine fin (J I.len) (A I.len) l d _ s₅ R₅ V₅ m D cenv.locals mC hfin ⟨fun y q e=>NmR.okN o.c (o.d.nm y q e).2,fun p hp=>QR.okN o.c (o.d.sk p hp),fun j y e=>Nat.lt_of_lt_of_eq (List.getElem?_eq_some_iff.mp (o.d.w0 j y e)).1 o.c.wl⟩ ⟨SF.back2 o₃.f.offO (o₃.f.stays2 asd) (o₃.f.ns2 asd) o₅.f.toSC,o₅.c,(o.d.mv ⟨⟨o₅.d.f0,o₅.d.w0⟩,fun a v e=>o₅.d.c0 a v e⟩).skm o₅.d.sk⟩ (fun b hb=>?_) (fun q=>by rw [q,hC] at hD; injection hD) e₅ hl₅ hD₅ nC
   cases hb with
   | head=>exact ⟨(asd D (.head _)).1,(a₅ D (.head _)).2.1,(asd D (.head _)).2.2⟩
   | tail z1 hb =>
    cases hb with
    | head=>exact ⟨keep_none o₃.f.toSC hC,o₅.f.offL,ne⟩
    | tail z1 hb=>cases hb
 exact codeAny_compStart_list loop (iter_self st0.at0 loop)
end
section
variable {C:Fx} {ρ ρ':En} {H:List OB} {k l:Sk} {s:Shared} {R:Rt} {V:View} {m:Mp} {I:Itr} {K:KQ} {ow:List Addr} {n:Nat}
theorem sk_rels {l:Sk}:∀{xs:List PV},(∀ p∈l,QR C.W R p.1 (er p.2))→l.map (·.1)=xs.map .fr→Rels C.W R.F xs ((l.map (·.2)).map er):=by
 induction l with
 | nil=>intro xs h e; cases xs with
  | nil=>rfl
  | cons x xs=>injection e
 | cons p l ih =>
  intro xs h e
  rcases xs with _|⟨x,xs⟩
  ·injection e
  ·have e1:p.1=.fr x:=(List.cons.inj e).1
   have h1:=h p (.head _)
   rw [e1] at h1
   exact ⟨_,_,rfl,h1,ih (fun q hq=>h q (.tail _ hq)) (List.cons.inj e).2⟩
theorem Op.joinL (o:Op C ρ H (l++k) s R V m){D:Addr}{d:Nat}{xs:List PV}(a:C.O.get? D=none∧V D=none∧D≠C.env.locals)(hD:s.heap.get? D=some { cls:=.type "list",data:=.seq (List.toArray (l.map (·.2))) d })(hl:l.length≤1000)(e:l.map (·.1)=xs.map .fr) :
  ∃ R' V',Op C ρ (H++[.lst xs]) ((.own H.length,.ref D)::k) s R' V' m∧∀ b,V b=none→b≠D→V' b=none:=by
 have r:=sk_rels (fun p hp=>o.d.sk p (List.mem_append_left _ hp)) e
 have f:=o.f.join (o:=.list ((l.map (·.2)).map er)) a.2.1 a.1 a.2.2 hD ⟨l.map (·.2),d,rfl,rfl⟩
 have ⟨c,le⟩:=o.c.new (x:=D) (o:=.lst xs) (Le.put' a.2.1) (cell_put fun zz q=>by injection q) fun le=>⟨_,put_self _ _ _,o.c.wl▸new_new a.2.1 (put_self _ _ _),by rw [List.length_map,List.length_map]; exact hl,Rels.mono le.f xs _ r⟩
 exact ⟨_,_,⟨f,c,((o.d.skm fun p hp=>o.d.sk p (List.mem_append_right _ hp)).mv ⟨le,fun b zz e=>Le.put' a.2.1 b _ e⟩).push ⟨D,(congrArg (fun n=>(R.w++[D])[n]?) o.c.wl.symm).trans List.getElem?_concat_length,rfl⟩⟩,fun b e q=>(put_ne _ _ q).trans e⟩
theorem CompC.go {fv ts:List Nat}{c e:XE}(h:kComp fv ts (sC c C.P.calm) (sX e C.P.calm) ρ K H I):CompK C ρ k fv ts c e (fun H A zz=>∃ xs:List PV,A=xs.map .fr∧newL H xs K) H I:=by
 unfold kComp at h
 refine cp fun kk=>?_
 obtain ⟨hsz,J,A,hJ,hA,okJ,step,fin⟩:=h
 refine kk ?_
 refine ⟨J,fun n=>(A n).map .fr,fun n=>kEl (A n) (A (n+1)) (J (n+1)),fun n H=>A (n+1)=A n∧preH (J (n+1)) H,hsz,hJ,by rw [hA]; rfl,step,fun n H h=>⟨by rw [h.1],h.2⟩,fun n C' ρ H k q v s h st=>frz_st st h fun H' u h st=>⟨_,H',by rw [h.1,List.map_append]; rfl,h.2,st⟩,okJ,fun n q hq=>?_,⟨_,rfl,fin⟩⟩
 obtain ⟨v,_,rfl⟩:=List.mem_map.mp hq
 rfl
theorem comp_chk {ns:List (Str×NameKind)}{fv ts:List Nat}{n:Nat}{it c e:XE}{kd:Str→Option NameKind}(h:okX (.comp ns fv ts n it c e) kd=true):CompN ns fv ts kd∧itG kd n=true∧csX c=true∧okX it kd=true∧okX c (kdIn ns kd)=true∧okX e (kdIn ns kd)=true:=by
 have h1:=an h
 have h2:=an h1.1
 have h3:=an h2.1
 have h4:=an h3.1
 have h5:=an h4.1
 have h6:=an h5.1
 have h7:=an h6.1
 have h8:=an h7.1
 refine ⟨⟨h8.1,fun x hx=>List.all_eq_true.mp h8.2 x hx,fun x hx=>List.all_eq_true.mp h7.2 x hx,fun x hx=>?_⟩,h5.2,h4.2,h3.2,h2.2,h1.2⟩
 have:=an (List.all_eq_true.mp h6.2 x hx)
 refine ⟨this.1,fun z=>?_⟩
 rw [mem_of.mpr z] at this; cases this.2
theorem comp_go {ns:List (Str×NameKind)}{fv ts:List Nat}{n:Nat}{it c e:XE}{ee:Expr}{use:Option (Value→Sem Unit)}{QQ:Value→Shared→Prop}(ih:OneX it)(il:ManyX it)(tc:TsX c)(te:OneX e)(ok:okX (.comp ns fv ts n it c e) C.kd=true)(st:St C ρ H k s)(q:sX (.comp ns fv ts n it c e) C.P ρ H K)
  (fin:∀(H:List OB)(q:QV)(s':Shared)(R:Rt)(V:View)(m:Mp)(D Cl:Addr)(mC:Str→Option Value),K H q→Op C ρ H ((q,.ref D)::k) s' R V m→Aside [Cl] C.O V C.env.locals→s'.heap.Ns Cl mC→compPost (model C.W.prog C.W.w) C.A C.E use QQ (.ref D) Cl (.ok .next) s') :
  Wp C (comprehension (toE (.comp ns fv ts n it c e) ee) { scE ee with names:=ns,kind:=.function } C.env (firstIterPos [⟨toTs ts (k1 ee),itE n (k2 ee) (toE it (k2 ee)) (toL it (kidE (k2 ee)).tail),toL c (kidE ee).tail.tail.tail,0⟩] ee.pos) (newList []) false (eval (itE n (k2 ee) (toE it (k2 ee)) (toL it (kidE (k2 ee)).tail)) C.env) use) QQ s:=by
 refine cp fun kk=>?_
 obtain ⟨cn,hg,cs,okit,okc,oke⟩:=comp_chk ok
 refine kk ?_
 refine q_comp (Fin:=fun H A zz=>∃ xs:List PV,A=xs.map .fr∧newL H xs K) tc te cs okc oke cn (fun x=>it_fold x) (it_ok n (fun zz=>ih) il hg okit st q) (fun H I h=>CompC.go h) fun H A l d n0 s' R V m D Cl mC hF h0 o a ne e hl hD hN=>?_
 refine cp fun kk=>?_
 obtain ⟨xs,rfl,hF⟩:=hF
 obtain ⟨R',V',o',hV⟩:=o.joinL (a D (.head _)) hD hl e
 refine kk ?_
 refine fin _ _ s' R' V' m D Cl mC hF o' (fun b hb=>?_) hN
 have:=a b (.tail _ hb)
 refine ⟨this.1,hV b this.2.1 ?_,this.2.2⟩
 cases hb with
 | head=>exact fun q=>ne q.symm
 | tail _ hb=>cases hb
theorem Op.joinO (o:Op C ρ H (l++k) s R V m){D:Addr}{d:Nat}(a:C.O.get? D=none∧V D=none∧D≠C.env.locals)(hD:s.heap.get? D=some { cls:=.type "list",data:=.seq (List.toArray (l.map (·.2))) d })(hl:l.length≤1000) :
  ∃ R' V',Op C ρ (H++[.ol (l.map (·.1))]) ((.own H.length,.ref D)::k) s R' V' m∧∀ b,V b=none→b≠D→V' b=none:=by
 have r:=Sk.rs (l:=l) fun p hp=>o.d.sk p (List.mem_append_left _ hp)
 have f:=o.f.join (o:=.list ((l.map (·.2)).map er)) a.2.1 a.1 a.2.2 hD ⟨l.map (·.2),d,rfl,rfl⟩
 have ⟨c,le⟩:=o.c.new (x:=D) (o:=.ol (l.map (·.1))) (Le.put' a.2.1) (cell_put fun zz q=>by injection q) fun le=>⟨_,put_self _ _ _,o.c.wl▸new_new a.2.1 (put_self _ _ _),by rw [List.length_map,List.length_map]; exact hl,QRs.mono le _ _ r⟩
 exact ⟨_,_,⟨f,c,((o.d.skm fun p hp=>o.d.sk p (List.mem_append_right _ hp)).mv ⟨le,fun b zz e=>Le.put' a.2.1 b _ e⟩).push ⟨D,(congrArg (fun n=>(R.w++[D])[n]?) o.c.wl.symm).trans List.getElem?_concat_length,rfl⟩⟩,fun b e q=>(put_ne _ _ q).trans e⟩
theorem preH_self:∀ H:List OB,preH H H
 | []=>trivial
 | o::H=>⟨rfl,preH_self H⟩
theorem okO_mono {n n':Nat}(h:n≤n'){o:OB}(k:okO n o=true):okO n' o=true:=List.all_eq_true.mpr fun q hq=>okN_mono h (List.all_eq_true.mp k q hq)
theorem rep_ok {H:List OB}(h:okH H.length H=true)(n:Nat):okH H.length (H++List.replicate n (.lst []))=true:=by
 unfold okH
 rw [Bool.and_eq_true]
 refine ⟨Nat.ble_eq_true_of_le (by rw [List.length_append]; exact Nat.le_add_right ..),List.all_eq_true.mpr fun o ho=>?_⟩
 rcases List.mem_append.mp ho with ho|ho
 ·exact okO_mono (by rw [List.length_append]; exact Nat.le_add_right ..) (List.all_eq_true.mp (an h).2 o ho)
 ·rw [(List.mem_replicate.mp ho).2]; rfl
theorem rep_succ (n:Nat):H++List.replicate n (OB.lst [])++[.lst []]=H++List.replicate (n+1) (.lst []):=by
 rw [List.replicate_succ',List.append_assoc]
theorem all_true {P:IC→Prop}{n:Nat}(h:∀ i,P (.one (.int i))){a b:Int}:Itr.all P n (.rng a b):=fun zz=>h _
theorem rows_k {x:Nat}(h:rowK H K I):CompK C ρ k [] [x] .nil (.lst .nil) (fun H' A zz=>∃ H n,H'=H++List.replicate n (.lst [])∧A=(List.range n).map (fun i=>QV.own (H.length+i))∧K (H++List.replicate n (.lst [])++[.ol ((List.range n).map fun i=>.own (H.length+i))]) (.own (H.length+n))) H I:=by
 rcases I with _|⟨a,b⟩|_
 ·exact h.elim
 ·refine cp fun kk=>?_
  obtain ⟨h1,h2,h3⟩:=h
  refine kk ?_
  refine ⟨fun n=>H++List.replicate n (.lst []),fun n=>(List.range n).map fun i=>.own (H.length+i),fun n H' q=>H'=H++List.replicate (n+1) (.lst [])∧q=.own (H.length+n),fun zz zz=>False,h2,List.append_nil _,rfl,fun n=>all_true fun i=>?_,fun zz zz h=>h.elim,fun n C' ρ H' k q v s h st=>?_,rep_ok h1,fun n q hq=>?_,⟨H,_,rfl,rfl,h3⟩⟩
  ·exact ⟨Nat.zero_le _,rep_succ n,by rw [List.length_append,List.length_replicate]⟩
  ·refine cp fun kk=>?_
   obtain ⟨rfl,rfl⟩:=h
   refine kk ?_
   exact ⟨_,_,by rw [List.range_succ,List.map_append]; rfl,preH_self _,st⟩
  ·refine cp fun kk=>?_
   obtain ⟨i,hi,rfl⟩:=List.mem_map.mp hq
   rw [List.mem_range] at hi
   refine kk ?_
   exact Nat.ble_eq_true_of_le (by rw [List.length_append,List.length_replicate]; lia)
 ·exact h.elim
theorem rows_chk {ns:List (Str×NameKind)}{x:Nat}{a:XE}{kd:Str→Option NameKind}(h:okX (.rows ns x a) kd=true):CompN ns [] [x] kd∧isGl kd "range" = true∧okX a kd=true:=by
 have h1:=an h
 have h2:=an h1.1
 have h3:=an h2.1
 have h4:=an h3.1
 refine ⟨⟨h4.1,fun x hx=>List.all_eq_true.mp h4.2 x hx,(fun x hx=>by cases hx),fun y hy=>?_⟩,h3.2,h1.2⟩
 cases hy with
 | head=>exact ⟨h2.2,(fun z=>by cases z)⟩
 | tail _ hy=>cases hy
theorem rows_go {ns:List (Str×NameKind)}{x:Nat}{a:XE}{ee:Expr}{use:Option (Value→Sem Unit)}{QQ:Value→Shared→Prop}(iha:OneX a)(ok:okX (.rows ns x a) C.kd=true)(st:St C ρ H k s)(q:sX (.rows ns x a) C.P ρ H K)
  (fin:∀(H:List OB)(q:QV)(s':Shared)(R:Rt)(V:View)(m:Mp)(D Cl:Addr)(mC:Str→Option Value),K H q→Op C ρ H ((q,.ref D)::k) s' R V m→Aside [Cl] C.O V C.env.locals→s'.heap.Ns Cl mC→compPost (model C.W.prog C.W.w) C.A C.E use QQ (.ref D) Cl (.ok .next) s') :
  Wp C (comprehension (toE (.rows ns x a) ee) { scE ee with names:=ns,kind:=.function } C.env (firstIterPos [⟨toTs [x] (k1 ee),itE 1 (k2 ee) noE (toL (.cons a .nil) (kidE (k2 ee)).tail),[],0⟩] ee.pos) (newList []) false (eval (itE 1 (k2 ee) noE (toL (.cons a .nil) (kidE (k2 ee)).tail)) C.env) use) QQ s:=by
 refine cp fun kk=>?_
 obtain ⟨cn,hg,oka⟩:=rows_chk ok
 refine kk ?_
 refine q_comp (Fin:=fun H' A zz=>∃ H n,H'=H++List.replicate n (.lst [])∧A=(List.range n).map (fun i=>QV.own (H.length+i))∧K (H++List.replicate n (.lst [])++[.ol ((List.range n).map fun i=>.own (H.length+i))]) (.own (H.length+n))) (ts:=[x]) (c:=.nil) (e:=.lst .nil) (ce:=[]) (te:=k1 ee) (it:=itE 1 (k2 ee) noE (toL (.cons a .nil) (kidE (k2 ee)).tail)) c_nil (x_lst l_nil) rfl rfl rfl cn (fun zz=>rfl) (it_ok (a:=.cons a .nil) 1 (fun h=>by injection h) (l_cons iha l_nil) hg (show (okX a C.kd&&true)=true by rw [oka]; rfl) st q) (fun H I h=>rows_k h) fun H' A l d n0 s' R V m D Cl mC hF h0 o a ne e hl hD hN=>?_
 refine cp fun kk=>?_
 obtain ⟨H,n,rfl,rfl,hK⟩:=hF
 obtain ⟨R',V',o',hV⟩:=o.joinO (a D (.head _)) hD hl
 rw [e,List.length_append,List.length_replicate] at o'
 refine kk ?_
 refine fin _ _ s' R' V' m D Cl mC hK o' (fun b hb=>?_) hN
 have:=a b (.tail _ hb)
 refine ⟨this.1,hV b this.2.1 ?_,this.2.2⟩
 cases hb with
 | head=>exact fun q=>ne q.symm
 | tail _ hb=>cases hb
theorem comp_end {H:List OB}{q:QV}{s':Shared}{D Cl:Addr}{mC:Str→Option Value}(hK:K H q)(o:Op C ρ H ((q,.ref D)::k) s' R V m)(a:Aside [Cl] C.O V C.env.locals)(hN:s'.heap.Ns Cl mC):compPost (model C.W.prog C.W.w) C.A C.E none (Pst C ρ k K) (.ref D) Cl (.ok .next) s' :=
 ⟨mC,hN,fun h' hs=>⟨H,q,hK,R,V,m,o.side (t:=s'.toks) a fun b o hb e=>(hs.2 b fun q=>hb (by rw [q]; exact .head _)).trans e⟩⟩
theorem x_comp (ns:List (Str×NameKind))(fv ts:List Nat)(n:Nat){it c e:XE}(ih:OneX it)(il:ManyX it)(tc:TsX c)(te:OneX e):OneX (.comp ns fv ts n it c e):=t_of (fun C ee ρ H k s K ok st q =>
 comp_go (use:=none) ih il tc te ok st q fun H q s' R V m D Cl mC hK o a hN=>comp_end hK o a hN) fun zz zz zz=>rfl
theorem x_rows (ns:List (Str×NameKind))(x:Nat){a:XE}(iha:OneX a):OneX (.rows ns x a):=t_of (fun C ee ρ H k s K ok st q=>rows_go (use:=none) iha ok st q fun H q s' R V m D Cl mC hK o a hN=>comp_end hK o a hN) fun zz zz zz=>rfl
structure AllX (x:XE):Prop where
 one:OneX x
 many:ManyX x
 bo:BoX x
 ts:TsX x
end
theorem not_one {x:XE}(h:∀ P ρ H K,¬ sX x P ρ H K):OneX x:=⟨fun C e ρ H k s K ok st q=>(h _ _ _ _ q).elim,fun zz C e ρ H k s K ok st q=>(h _ _ _ _ q).elim⟩
theorem AllX.of {x:XE}(h:OneX x)(m:∀ P ρ H K,¬ sXs x P ρ H K)(b:bsX x=false)(c:csX x=false):AllX x:=⟨h,fun C es p ρ H k s K ok st q=>(m _ _ _ _ q).elim,⟨fun o C es p ρ H k s K bs=>by (rw [b] at bs; injection bs),fun o C es ρ H k s K bs=>by (rw [b] at bs; injection bs)⟩,fun C es ρ H k s K cs=>by (rw [c] at cs; injection cs)⟩
theorem all_X (x:XE):AllX x:=by
 induction x with
 | k v=>exact .of (x_k v) (fun zz zz zz zz h=>h) rfl rfl
 | g j=>exact .of (x_g j) (fun zz zz zz zz h=>h) rfl rfl
 | v x=>exact .of (x_v x) (fun zz zz zz zz h=>h) rfl rfl
 | fz a ih=>exact .of (x_fz ih.one) (fun zz zz zz zz h=>h) rfl rfl
 | bin o a b ia ib=>exact .of (x_bin o ia.one ib.one) (fun zz zz zz zz h=>h) rfl rfl
 | neg a ih=>exact .of (x_neg ih.one) (fun zz zz zz zz h=>h) rfl rfl
 | not a ih=>exact .of (x_not ih.one) (fun zz zz zz zz h=>h) rfl rfl
 | boo o as ih=>exact .of (x_boo o ih.bo) (fun zz zz zz zz h=>h) rfl rfl
 | cmp o a b ia ib=>exact .of (x_cmp o ia.one ib.one) (fun zz zz zz zz h=>h) rfl rfl
 | cmp2 o p a b c ia ib ic=>exact .of (x_cmp2 o p ia.one ib.one ic.one) (fun zz zz zz zz h=>h) rfl rfl
 | ife t a b it ia ib=>exact .of (x_ife it.one ia.one ib.one) (fun zz zz zz zz h=>h) rfl rfl
 | att a f ih=>exact .of (x_att f ih.one) (fun zz zz zz zz h=>h) rfl rfl
 | sub a i ia ii=>exact .of (x_sub ia.one ii.one) (fun zz zz zz zz h=>h) rfl rfl
 | cut a l u ia il iu=>exact .of (x_cut ia.one il.one iu.one) (fun zz zz zz zz h=>h) rfl rfl
 | call f as ih=>exact .of (x_call f ih.many) (fun zz zz zz zz h=>h) rfl rfl
 | meth C j a as ia ih=>exact .of (x_meth C j ia.one ih.many) (fun zz zz zz zz h=>h) rfl rfl
 | blt f as ih=>exact .of (x_blt f ih.many) (fun zz zz zz zz h=>h) rfl rfl
 | isi t a ih=>exact .of (x_isi t ih.one) (fun zz zz zz zz h=>h) rfl rfl
 | lst as ih=>exact .of (x_lst ih.many) (fun zz zz zz zz h=>h) rfl rfl
 | tup as ih=>exact .of (x_tup ih.many) (fun zz zz zz zz h=>h) rfl rfl
 | tupo as ih=>exact .of (x_tupo ih.many) (fun zz zz zz zz h=>h) rfl rfl
 | nil=>exact ⟨not_one fun zz zz zz zz h=>h,l_nil,⟨(fun o C es p ρ H k s K bs=>by injection bs),(fun o C es ρ H k s K bs=>by injection bs)⟩,c_nil⟩
 | cons a r ia ir=>exact ⟨not_one fun zz zz zz zz h=>h,l_cons ia.one ir.many,b_cons ia.one ir.bo,c_cons ia.one⟩
 | comp ns fv ts s it c e ii ic ie=>exact .of (x_comp ns fv ts s ii.one ii.many ic.ts ie.one) (fun zz zz zz zz h=>h) rfl rfl
 | rows ns x n ih=>exact .of (x_rows ns x ih.one) (fun zz zz zz zz h=>h) rfl rfl
structure Ov (W:Wo):Prop where
 raise:∀ (C:Fx) (m:Mp) (V:View) (s:Shared) (S:Stmt) (Q:Flow→Shared→Prop),C.W=W→isGl C.kd "Overflow" = true→4≤C.n→SF C.W C.fs C.O C.env.locals m V s →
  (∀ v s' stk,C.A.frames=some stk→XF C.W stk C.fs C.O C.env.locals m V v s'→C.E v s')→Wp C (exec (toS .raise S) C.env) Q s
 catch_:∀ (C:Fx) (m:Mp) (V:View) (s:Shared) (v:Value) (outer:List Env) (b:Stmt) (p hp:Pos) (Q:Flow→Shared→Prop),C.W=W→isGl C.kd "Overflow" = true→C.A.frames=some (C.env::outer)→C.env.frame=some C.env.locals →
  XF C.W (C.env::outer) C.fs C.O C.env.locals m V v s→(∀ s' E',SF C.W C.fs C.O C.env.locals m V s'→wpAny (model C.W.prog C.W.w) (C.A.mark (some v)) (execs [b] C.env) Q E' s') →
  wpAny (model C.W.prog C.W.w) C.A (noteFrame v C.env) (fun zz s₂=>wpAny (model C.W.prog C.W.w) C.A (setFlight v none) (fun zz s₃=>wpAny (model C.W.prog C.W.w) C.A (handleBy v C.env [.ExceptHandler (some (.Name "Overflow" p)) none [b] hp]) Q C.E s₃) C.E s₂) C.E s
structure TopF (C:Fx)(c:Nat):Prop where
 c0:∀ a v,C.C0 a≠some (.cell v)
 fr:∃ outer,C.A.frames=some (C.env::outer)
 lf:C.env.frame=some C.env.locals
 wc:C.w0.length=c / 2
 nc:c % 2=0→∀ x a,C.cl x≠some a
 nn:4≤C.n
 ov:Ov C.W
inductive Fst (C:Fx)(K:KT)(s:Shared):Flow→Prop
 | nx (ρ:En) (H:List OB) (h:K .nx ρ H) (st:St C ρ H [] s):Fst C K s .next
 | rt (ρ:En) (H:List OB) (q:QV) (v:Value) (h:K (.rt q) ρ H) (st:St C ρ H [(q,v)] s):Fst C K s (.ret v)
noncomputable abbrev FstP (C:Fx)(K:KT):Flow→Shared→Prop:=fun fl s=>Fst C K s fl
noncomputable def OneS (a:XT):Prop:=∀(c:Nat)(C:Fx)(S:Stmt)(ρ:En)(H:List OB)(s:Shared)(K:KT),TopF C c→okT a C.kd=true→St C ρ H [] s→sT c a C.P ρ H K→Wp C (exec (toS a S) C.env) (FstP C K) s
noncomputable def ManyS (a:XT):Prop:=∀(c:Nat)(C:Fx)(L:List Stmt)(ρ:En)(H:List OB)(s:Shared)(K:KT),TopF C c→okT a C.kd=true→St C ρ H [] s→sT c a C.P ρ H K→Wp C (execs (toT a L) C.env) (FstP C K) s
section
variable {C:Fx} {ρ ρ':En} {H:List OB} {k l:Sk} {s:Shared} {R:Rt} {V:View} {m:Mp} {c:Nat} {K:KT}
theorem TopF.sto (T:TopF C c){x:Nat}(h:stoK C.kd x=true):Sto C x:=⟨h,fun a v zz=>T.c0 a v⟩
theorem St.fst (st:St C ρ H k s)(h:K .nx ρ H):Fst C K s .next:=.nx ρ H h (st.sub fun p hp=>by cases hp)
theorem s_pass:OneS .pass:=fun c C S ρ H s K T ok st q=>Wp.at (Wp.pure (.nx ρ H q st))
theorem s_ret {e:XE}(he:OneX e):OneS (.ret e):=fun c C S ρ H s K T ok st q=>Wp.at (Wp.v (he.ev C (valS S) ρ H [] s _ ok st q) fun H q v s h st=>Wp.pure (.rt ρ H q v h st))
theorem call_of {e:XE}(h:callX e=true)(ee:Expr):∃ f as p,toE e ee=.Call f as [] p:=by
 cases e <;> first|exact ⟨_,_,_,rfl⟩|exact absurd h Bool.false_ne_true
theorem drop_ok {f:Expr}{as:List Expr}{p pos:Pos}{v:Value}{Q:Flow→Shared→Prop}(h:Q .next s):Wp C (dropValue (.Call f as [] p) pos v) Q s:=by
 cases v with
 | ref a=>exact wpAny_bind (wpAny_standAt (wpAny_bind (wpAny_runValue (codeAny_builtin entry_let_go (show wpAny _ _ (ret .none) _ _ s from wpAny_pure (wpAny_pure h))))))
 | _=>exact wpAny_pure h
theorem exec_call {f:Expr}{as:List Expr}{p pos:Pos}{Q:Flow→Shared→Prop}(h:Wp C (eval (.Call f as [] p) C.env) (fun v s=>Wp C (dropValue (.Call f as [] p) pos v) Q s) s):Wp C (exec (.Expr (.Call f as [] p) pos) C.env) Q s:=by
 have hi:interactive C.env=false:=by unfold interactive; rw [C.bok.kind]; rfl
 rw [arm_exec_Expr,hi]
 exact Wp.at (Wp.seq (Wp.pure (a:=false) (Wp.seq h)))
theorem s_ex {e:XE}(he:OneX e):OneS (.ex e):=fun c C S ρ H s K T ok st q=>by
 refine cp fun kk=>?_
 obtain ⟨f,as,p,e1⟩:=call_of (an ok).1 (valS S)
 have w:=he.ev C (valS S) ρ H [] s _ (an ok).2 st q
 refine kk ?_
 show Wp C (exec (.Expr (toE e (valS S)) S.pos) C.env) _ s
 rw [e1] at w ⊢
 exact exec_call (w.mono fun v s h=>h.rec fun H q h st=>drop_ok (st.fst h))
theorem swap_no {e:XE}:∀(ee:Expr)(t:Expr)(n:Nat)(env:Env),isComp e=false→swapsWith (toE e ee) (some t) n env=pure false:=by
 induction e with
 | fz a ih=>exact ih
 | comp=>intro _ _ _ _ h; injection h
 | rows=>intro _ _ _ _ h; injection h
 | _=>intro _ _ _ _ _; rfl
theorem asg_w {e:Expr}{t:Expr}{pos:Pos}{Q:Flow→Shared→Prop}(h1:swapsWith e (some t) pos.line C.env=pure false)(h2:swappedStores [t] e C.env=pure none)(h3:assignEach [t] C.env=[(false,assign t C.env)])(h:Wp C (eval e C.env) (fun v s=>Wp C (assign t C.env v) (fun zz s=>Q .next s) s) s):Wp C (exec (.Assign [t] e pos) C.env) Q s:=by
 rw [exec_Assign_arm]
 refine Wp.at (Wp.seq ?_)
 show Wp C (swapsWith e (some t) pos.line C.env) _ s
 rw [h1]
 refine Wp.pure (Wp.seq (h.mono fun v s h=>?_))
 rw [h2,h3]
 exact Wp.seq (Wp.pure (Wp.seq (h.mono fun zz s h=>Wp.pure h)))
theorem asg_c {e:Expr}{x:Nat}{p pos:Pos}{bb:Bool}{Q:Flow→Shared→Prop}(h1:swapsWith e (some (.Name (nmG x) p)) pos.line C.env=pure bb)(h2:swappedStores [.Name (nmG x) p] e C.env=pure none)(h:Wp C (eval e C.env) (fun v s=>Wp C (assign (.Name (nmG x) p) C.env v) (fun zz s=>Q .next s) s) s)
  (g:Wp C (evalThenUse e C.env fun v=>assign (.Name (nmG x) p) C.env v) (fun zz s=>Q .next s) s):Wp C (exec (.Assign [.Name (nmG x) p] e pos) C.env) Q s:=by
 rcases bb with _|_
 ·exact asg_w h1 h2 rfl h
 ·rw [exec_Assign_arm]
  refine Wp.at (Wp.seq ?_)
  show Wp C (swapsWith e (some (.Name (nmG x) p)) pos.line C.env) _ s
  rw [h1]
  exact Wp.pure (Wp.seq (g.mono fun zz s h=>Wp.pure h))
theorem use_end {H:List OB}{q:QV}{x:Nat}{p:Pos}{s':Shared}{D Cl:Addr}{mC:Str→Option Value}{QQ:Value→Shared→Prop}(T:TopF C c)(hx:stoK C.kd x=true)(hQ:∀ v s,St C (st ρ x q) H [] s→QQ v s)(o:Op C ρ H [(q,.ref D)] s' R V m)(a:Aside [Cl] C.O V C.env.locals)(hN:s'.heap.Ns Cl mC) :
  compPost (model C.W.prog C.W.w) C.A C.E (some fun v=>assign (.Name (nmG x) p) C.env v) QQ (.ref D) Cl (.ok .next) s':=by
 refine cp fun kk=>?_
 obtain ⟨oc,es,ep,ho,hd,hr⟩:=hN
 have w:Wp (o.fx C.E) (assign (.Name (nmG x) p) C.env (.ref D)) _ s':=q_asgN (C:=o.fx C.E) o.wide.st ⟨hx,fun a v zz=>T.c0 a v⟩
 refine kk ?_
 refine wpAny_mono w (fun zz s₂ st=>?_) fun zz zz z=>z
 obtain ⟨R2,V2,m2,o2⟩:=st
 obtain ⟨o3,_,a3,k3⟩:=o.narrow a (fun b hb=>by cases hb with
  | head=>exact ⟨_,ho⟩
  | tail _ hb=>cases hb) o2
 exact ⟨mC,⟨oc,es,ep,k3 Cl (.head _) _ ho,hd,hr⟩,fun h' hs=>hQ _ _ ⟨R2,V2,m2,o3.side (t:=s₂.toks) a3 fun b o hb e=>(hs.2 b fun q=>hb (by rw [q]; exact .head _)).trans e⟩⟩
theorem s_asg {e:XE}(x:Nat)(he:AllX e)(hs:∀ it c b,(∃ ns fv ts n,e=.comp ns fv ts n it c b)→AllX it∧AllX c∧AllX b)(hr:∀ a,(∃ ns x,e=.rows ns x a)→AllX a):OneS (.asg x e):=fun c C S ρ H s K T ok st q=>by
 have hx:=(an (an ok).1).1
 have w:Wp C (eval (toE e (valS S)) C.env) (fun v s=>Wp C (assign (nmE x (tgtS S)) C.env v) (fun zz s=>FstP C K .next s) s) s:=(he.one.ev C (valS S) ρ H [] s _ (an ok).2 st q).mono fun v s h=>h.rec fun H q h st=>(q_asgN st (T.sto hx)).mono fun zz s st=>st.fst h
 rcases z:isComp e with _|_
 ·exact asg_w (swap_no _ _ _ _ z) rfl rfl w
 ·rcases e with _|_|_|⟨a⟩|_|_|_|_|_|_|_|_|_|_|_|_|_|_|_|_|_|_|_|⟨ns,fv,ts,n,it,ct,b⟩|⟨ns,y,a⟩
  ·injection z
  ·injection z
  ·injection z
  ·have h:(!isComp a)=true:=(an (an ok).1).2
   rw [show isComp a=true from z] at h; injection h
  ·injection z
  ·injection z
  ·injection z
  ·injection z
  ·injection z
  ·injection z
  ·injection z
  ·injection z
  ·injection z
  ·injection z
  ·injection z
  ·injection z
  ·injection z
  ·injection z
  ·injection z
  ·injection z
  ·injection z
  ·injection z
  ·injection z
  ·obtain ⟨i1,i2,i3⟩:=hs it ct b ⟨ns,fv,ts,n,rfl⟩
   exact asg_c rfl rfl w (Wp.bind (comp_go (QQ:=fun zz s=>FstP C K .next s) (use:=some fun v=>assign (nmE x (tgtS S)) C.env v) i1.one i1.many i2.ts i3.one (an ok).2 st q fun H q s' R V m D Cl mC hK o a hN=>use_end T hx (fun v s st=>st.fst hK) o a hN) fun zz s h=>Wp.pure h)
  ·exact asg_c rfl rfl w (Wp.bind (rows_go (QQ:=fun zz s=>FstP C K .next s) (use:=some fun v=>assign (nmE x (tgtS S)) C.env v) (hr a ⟨ns,y,rfl⟩).one (an ok).2 st q fun H q s' R V m D Cl mC hK o a hN=>use_end T hx (fun v s st=>st.fst hK) o a hN) fun zz s h=>Wp.pure h)
theorem nb {b:Bool}(h:(!b)=true):b=false:=by cases b <;> first|rfl|injection h
theorem s_setA {a e:XE}(f:Nat)(ha:OneX a)(he:OneX e):OneS (.setA a f e):=fun c C S ρ H s K T ok st q=>by
 refine asg_w (swap_no _ _ _ _ (nb (an (an ok).1).1)) rfl rfl ((he.ev C (valS S) ρ H [] s _ (an ok).2 st q).mono fun v s h=>h.rec fun H q h st=>?_)
 exact Wp.v (ha.ev C (k0 (tgtS S)) ρ H _ s _ (an (an ok).1).2 st h).hold fun H o w s h st=>Wp.at (Wp.bind (.hold (q_set st h)) fun zz s h=>h.rec fun H h st=>PyProof.Rows.wpAny_release' (st.fst h))
theorem s_setI {l i e:XE}(hl:OneX l)(hi:OneX i)(he:OneX e):OneS (.setI l i e):=fun c C S ρ H s K T ok st q=>by
 refine asg_w (swap_no _ _ _ _ (nb (an (an (an ok).1).1).1)) rfl rfl ((he.ev C (valS S) ρ H [] s _ (an ok).2 st q).mono fun v s h=>h.rec fun H q h st=>frz_st st h fun H u h st=>?_)
 exact Wp.v (hl.ev C (k0 (tgtS S)) ρ H _ s _ (an (an (an ok).1).1).2 st h).hold fun H o w s h st=>Wp.f (hi.ev C (k1 (tgtS S)) ρ H _ s _ (an (an ok).1).2 st h).hold fun H j w2 s h st=>Wp.at (Wp.bind (.hold (q_setItem st h)) fun zz s h=>h.rec fun H h st=>PyProof.Rows.wpAny_release' (st.fst h))
noncomputable def stL:List (Nat×QV)→En→En
 | [],ρ=>ρ
 | (x,q)::r,ρ=>stL r (st ρ x q)
theorem stL_not {y:Nat}:∀{l:List (Nat×QV)}{ρ:En},(∀ p∈l,p.1≠y)→lk (stL l ρ) y=lk ρ y
 | [],_,_=>rfl
 | (x,q)::r,ρ,h=>(stL_not fun p hp=>h p (.tail _ hp)).trans ((lk_st ρ x q y).trans (if_neg fun e=>h _ (.head _) e.symm))
theorem stL_mem {y:Nat}{v:QV}:∀{l:List (Nat×QV)}{ρ:En},(l.map (·.1)).Nodup→(y,v)∈l→lk (stL l ρ) y=some v
 | (x,q)::r,ρ,n,h=>by
  rw [List.map_cons,List.nodup_cons] at n
  cases h with
  | head=>exact (stL_not (l:=r) (ρ:=st ρ y v) fun p hp e=>n.1 (by rw [← e]; exact List.mem_map_of_mem (f:=(·.1)) hp)).trans ((lk_st ρ y v y).trans (if_pos rfl))
  | tail _ h=>exact stL_mem (l:=r) n.2 h
theorem stL_rev {l:List (Nat×QV)}{ρ:En}(n:(l.map (·.1)).Nodup)(y:Nat)(q:QV)(e:lk (stL l ρ) y=some q):lk (stL l.reverse ρ) y=some q:=by
 by_cases h:∃ p∈l,p.1=y
 ·obtain ⟨⟨x,v⟩,hp,rfl⟩:=h
  rw [stL_mem n hp] at e; obtain rfl:=Option.some.inj e
  exact stL_mem (by rw [List.map_reverse]; exact List.pairwise_reverse.mpr (n.imp fun h=>h.symm)) (List.mem_reverse.mpr hp)
 ·rw [stL_not fun p hp e=>h ⟨p,hp,e⟩] at e
  rw [stL_not fun p hp e=>h ⟨p,List.mem_reverse.mp hp,e⟩]; exact e
end
set_option tactic.hygienic true
set_option backward.match.sparseCases true
inductive EnH (C:Fx)(K:En→List OB→Prop)(s:Shared):Prop
 | mk (ρ:En) (H:List OB) (h:K ρ H) (st:St C ρ H [] s)
section
variable {C:Fx} {ρ ρ':En} {H:List OB} {k l:Sk} {s:Shared} {R:Rt} {V:View} {m:Mp} {c:Nat} {K:KT}
theorem St.tupQ {q:QV}{v:Value}{KK:List QV→Prop}(st:St C ρ H ((q,v)::k) s)(h:tupQ H q KK):∃ T l n,v=.ref T∧s.heap.get? T=some { cls:=.type "tuple",data:=.seq (List.toArray (l.map (·.2))) n }∧KK (l.map (·.1))∧St C ρ H (l++k) s:=by
 refine cp fun kk=>?_
 obtain ⟨R,V,m,o⟩:=st
 have mk:∀(qs:List QV)(vs:List Value),QRs C.W R qs (vs.map er)→∃ l:Sk,l.map (·.1)=qs∧l.map (·.2)=vs∧∀ p∈l,QR C.W R p.1 (er p.2):=fun qs=>by
  induction qs with
  | nil=>intro vs h; cases vs with
   | nil=>exact ⟨[],rfl,rfl,fun p hp=>by cases hp⟩
   | cons z1 z2=>injection h
  | cons q qs ih =>
   intro vs h
   refine cp fun kk=>?_
   obtain ⟨a,t,e,r,g⟩:=h
   refine kk ?_
   cases vs with
   | nil=>injection e
   | cons v vs =>
    cases e
    refine cp fun kk=>?_
    obtain ⟨l,e1,e2,hl⟩:=ih vs g
    refine kk ?_
    exact ⟨(q,v)::l,by rw [← e1]; rfl,by rw [← e2]; rfl,fun p hp=>by
     cases hp with
     | head=>exact r
     | tail _ hp=>exact hl p hp⟩
 have fin:∀ (qs:List QV) (vs:List Value) (T:Addr) (n:Nat),v=.ref T→s.heap.get? T=some { cls:=.type "tuple",data:=.seq (List.toArray vs) n }→QRs C.W R qs (vs.map er)→KK qs→∃ T l n,v=.ref T∧s.heap.get? T=some { cls:=.type "tuple",data:=.seq (List.toArray (l.map (·.2))) n }∧KK (l.map (·.1))∧St C ρ H (l++k) s:=fun qs vs T n e g r h=>by
  refine cp fun kk=>?_
  obtain ⟨l,rfl,rfl,hl⟩:=mk qs vs r
  refine kk ?_
  exact ⟨T,l,n,e,g,h,R,V,m,o.f,o.c,o.d.skm fun p hp=>(List.mem_append.mp hp).elim (hl p) fun hp=>o.d.sk p (.tail _ hp)⟩
 have fr:∀ u:PV,Rel C.W R.F u (er v)→Mine.Internal.tupQ H (.fr u) KK→∃ T l n,v=.ref T∧s.heap.get? T=some { cls:=.type "tuple",data:=.seq (List.toArray (l.map (·.2))) n }∧KK (l.map (·.1))∧St C ρ H (l++k) s:=fun u r h=>by
  cases u with
  | tup xs=>obtain ⟨T,vs,n,e,g,_,r⟩:=o.tp r; exact fin _ vs T n e g (Rels.qs r) h
  | _=>exact h.elim
 have r:=o.d.sk _ (.head _)
 refine kk ?_
 cases q with
 | fr u=>exact fr u r h
 | own i =>
  refine cp fun kk=>?_
  obtain ⟨x,hx,e⟩:=r
  obtain ⟨ob,e1,h⟩:=opB_of h
  have rt:=o.c.rt i x ob hx e1
  refine kk ?_
  cases ob with
  | tup qs =>
   refine cp fun kk=>?_
   obtain ⟨as,g,_,_,r⟩:=rt
   obtain ⟨vs,n,g2,rfl⟩:=tp_obj o.f g
   refine kk ?_
   exact fin qs vs x n (er_ref e) g2 r h
  | fz u=>exact fr u (e▸rt) h
  | _=>exact h.elim
theorem tg_len {es:List Expr}{ts:List Tg}:∀{qs:List QV}{ρ:En}{H:List OB}{KK:En→List OB→Prop},unpQ ts qs ρ H KK→qs.length=ts.length:=by
 induction ts with
 | nil=>intro qs ρ H KK h; cases qs with
  | nil=>rfl
  | cons z1 z2=>exact h.elim
 | cons t ts ih =>
  intro qs ρ H KK h
  rcases qs with _|⟨q,qs⟩
  ·exact h.elim
  ·refine congrArg (·+1) ?_
   rcases t with ⟨x⟩|⟨x,f⟩
   ·exact ih h
   ·obtain ⟨o,_,h⟩:=opB_of h
    rcases o with ⟨_⟩|⟨i⟩
    ·exact h.elim
    ·obtain ⟨ob,_,h⟩:=opB_of h
     rcases ob with _|_|⟨Cn,qs'⟩|_|_
     ·exact h.elim
     ·exact h.elim
     ·obtain ⟨_,_,h⟩:=opB_of h; exact ih h
     ·exact h.elim
     ·exact h.elim
theorem tg_each {env:Env}{ts:List Tg}:∀ es:List Expr,(assignEach (toTg ts es) env).length=ts.length∧(assignEach (toTg ts es) env).findIdx? (·.1)=none:=by
 induction ts with
 | nil=>exact fun es=>⟨rfl,rfl⟩
 | cons t ts ih =>
  intro es
  have h:=ih es.tail
  cases t <;> exact ⟨congrArg (·+1) h.1,by rw [toTg,show assignEach (_::toTg ts es.tail) env=(false,_)::assignEach (toTg ts es.tail) env from rfl,List.findIdx?_cons,h.2]; rfl⟩
theorem q_order (T:TopF C c){ts:List Tg}:∀(es:List Expr)(l:Sk){ρ:En}{H:List OB}{s:Shared}{KK:En→List OB→Prop},(∀ t∈ts,tgK C.kd t=true)→St C ρ H l s→unpQ ts (l.map (·.1)) ρ H KK→Wp C (assignInOrder ((assignEach (toTg ts es) C.env).map (·.2)) (l.map (·.2))) (fun zz s=>EnH C KK s) s:=by
 induction ts with
 | nil =>
  intro es l ρ H s KK hk st h
  rcases l with _|⟨_,_⟩
  ·exact Wp.pure ⟨ρ,H,h,st⟩
  ·exact h.elim
 | cons t ts ih =>
  intro es l ρ H s KK hk st h
  rcases l with _|⟨p,l⟩
  ·exact h.elim
  ·rcases t with ⟨x⟩|⟨x,f⟩
   ·exact Wp.bind (.hold (q_asgN st (T.sto (hk _ (.head _))))) fun zz s st=>ih es.tail l (fun t ht=>hk t (.tail _ ht)) st h
   ·refine cp fun kk=>?_
    obtain ⟨o,ho,h⟩:=opB_of h
    refine kk ?_
    refine Wp.bind (Q:=fun zz s=>Ust C ρ l (fun H=>unpQ ts (l.map (·.1)) ρ H KK) s) (.hold ?_) fun zz s h=>h.rec fun H h st=>ih es.tail l (fun t ht=>hk t (.tail _ ht)) st h
    exact Wp.v (k:=p::l) (K:=fun H q=>setQ H q f p.1 fun H=>unpQ ts (l.map (·.1)) ρ H KK) (.hold (q_name st ho h)) fun H o w s h st=>Wp.at (Wp.bind (.hold (q_set st h)) fun zz s h=>PyProof.Rows.wpAny_release' h)
theorem unpack_items {T:Addr}{vs:List Value}{n:Nat}{Q:List Value→Shared→Prop}(st:St C ρ H k s)(hT:s.heap.get? T=some { cls:=.type "tuple",data:=.seq (List.toArray vs) n })(h:∀ s',St C ρ H k s'→Q vs s'):Wp C (unpackItems (.ref T) vs.length none) Q s:=by
 have:=wpAny_unpackItems_tuple (prog:=C.W.prog) (w:=C.W.w) (E:=C.E) (Q:=Q) (items:=vs.toArray) C.bok.hnd ⟨_,hT,rfl,_,rfl⟩ fun h' hs=>h _ (st.grown (t:=s.toks) (h':=h') fun b o e=>hs b o (Nat.ne_of_lt (Heap.lt_size e)) e)
 rwa [List.size_toArray] at this
theorem q_names (T:TopF C c):∀(P:List (Nat×QV×Value)){ρ:En}{s:Shared},(∀ p∈P,stoK C.kd p.1=true)→St C ρ H (P.map (·.2)) s→Wp C (assignInOrder (P.map fun p=>bindName C.env (nmG p.1)) (P.map (·.2.2))) (fun zz s=>St C (stL (P.map fun p=>(p.1,p.2.1)) ρ) H [] s) s
 | [],ρ,s,z1,st=>Wp.pure st
 | (x,q,v)::P,ρ,s,h,st=>Wp.bind (.hold (wpAny_bindName (q_store st (h _ (.head _)) fun a v zz=>T.c0 a v))) fun zz s st=>q_names T P (fun p hp=>h p (.tail _ hp)) st
theorem unp_names {KK:En→List OB→Prop}:∀(P:List (Nat×QV×Value)){ρ:En},unpQ (P.map fun p=>.n p.1) (P.map (·.2.1)) ρ H KK→KK (stL (P.map fun p=>(p.1,p.2.1)) ρ) H
 | [],ρ,h=>h
 | p::P,ρ,h=>unp_names P h
theorem nodB_of:∀{l:List Nat},nodB l=true→l.Nodup
 | [],z1=>List.nodup_nil
 | i::r,h=>by
  unfold nodB at h
  rcases q:mem i r with _|_
  ·rw [q] at h; exact List.nodup_cons.mpr ⟨(fun z=>by rw [mem_of.mpr z] at q; injection q),nodB_of h⟩
  ·rw [q] at h; injection h
theorem ite_ind {c:Prop}[Decidable c]{α:Type}{a b:α}{R:α→Prop}(h1:R a)(h2:¬c→R b):R (ite c a b):=by
 by_cases h:c
 ·rw [if_pos h]; exact h1
 ·rw [if_neg h]; exact h2 h
noncomputable def swN (env:Env)(ts:List Expr)(line:Nat):List Str:=ts.filterMap fun t=>match t with|.Name id pos=>if env.kindOf id == some .local&&pos.line == line then some id else none|_=>none
noncomputable def SwR (env:Env)(ts:List Expr)(z:Sem (Option (List Str))):Prop:=z=pure none∨∃ line:Nat,(swN env ts line).length=ts.length∧z=pure (some (swN env ts line))
theorem swp_stores {ts vs:List Expr}{n n2:Nat}{p p2:Pos}(hv:vs.all (foldedForSure 8)=true∨vs.all (constantsAlone 8)=false) :
  swappedStores [.Tuple ts n p] (.Tuple vs n2 p2) C.env=pure none∨∃ line:Nat,(ts.filterMap fun t=>match t with|.Name id pos=>if C.env.kindOf id == some .local&&pos.line == line then some id else none|_=>none).length=ts.length∧swappedStores [.Tuple ts n p] (.Tuple vs n2 p2) C.env=pure (some (ts.filterMap fun t=>match t with|.Name id pos=>if C.env.kindOf id == some .local&&pos.line == line then some id else none|_=>none)):=by
 show SwR C.env ts _
 refine ite_ind (R:=SwR C.env ts) (.inl rfl) fun zz=>?_
 refine ite_ind (R:=SwR C.env ts) (.inl rfl) fun zz=>?_
 refine ite_ind (R:=SwR C.env ts) (.inl rfl) fun h=>?_
 refine ite_ind (R:=SwR C.env ts) (.inl rfl) fun h2=>?_
 refine .inr ⟨_,?_,if_neg (by rw [hv.resolve_left h2]; exact Bool.false_ne_true)⟩
 rw [Bool.or_eq_true,not_or,bne_iff_ne,Decidable.not_not] at h
 exact h.1
theorem ncX_of {a:XE}(h:ncX a=true)(e:Expr):constantsAlone 8 (toE a e)=false:=by
 rcases a with _|_|_|_|⟨o,a,b⟩|_|_|_|⟨o,a,b⟩|_|_|_|_|⟨a,l,u⟩|⟨f,as⟩|_|_|_|⟨as⟩|_|_|_|_|_|_
 ·exact absurd h Bool.false_ne_true
 ·exact absurd h Bool.false_ne_true
 ·exact absurd h Bool.false_ne_true
 ·exact absurd h Bool.false_ne_true
 ·cases a with
  | lst as=>rfl
  | _=>exact absurd h Bool.false_ne_true
 ·exact absurd h Bool.false_ne_true
 ·exact absurd h Bool.false_ne_true
 ·exact absurd h Bool.false_ne_true
 ·rfl
 ·exact absurd h Bool.false_ne_true
 ·exact absurd h Bool.false_ne_true
 ·exact absurd h Bool.false_ne_true
 ·exact absurd h Bool.false_ne_true
 ·rcases a with _|_|⟨x⟩|_|_|_|_|_|_|_|_|_|_|_|_|_|_|_|_|_|_|_|_|_|_
  ·exact absurd h Bool.false_ne_true
  ·exact absurd h Bool.false_ne_true
  ·have:(nmG x == ("__debug__" : Str))=false:=by
    by_cases hx:x<nmL.length
    ·have key:∀ y∈nmL,(y == ("__debug__" : Str))=false:=by decide +kernel
     rw [nmG_at hx]; exact key _ (List.getElem_mem hx)
    ·unfold nmG; rw [List.getElem?_eq_none (Nat.le_of_not_lt hx)]; decide +kernel
   show ((nmG x == ("__debug__" : Str))&&_)=false
   rw [this]; rfl
  ·exact absurd h Bool.false_ne_true
  ·exact absurd h Bool.false_ne_true
  ·exact absurd h Bool.false_ne_true
  ·exact absurd h Bool.false_ne_true
  ·exact absurd h Bool.false_ne_true
  ·exact absurd h Bool.false_ne_true
  ·exact absurd h Bool.false_ne_true
  ·exact absurd h Bool.false_ne_true
  ·exact absurd h Bool.false_ne_true
  ·exact absurd h Bool.false_ne_true
  ·exact absurd h Bool.false_ne_true
  ·exact absurd h Bool.false_ne_true
  ·exact absurd h Bool.false_ne_true
  ·exact absurd h Bool.false_ne_true
  ·exact absurd h Bool.false_ne_true
  ·exact absurd h Bool.false_ne_true
  ·exact absurd h Bool.false_ne_true
  ·exact absurd h Bool.false_ne_true
  ·exact absurd h Bool.false_ne_true
  ·exact absurd h Bool.false_ne_true
  ·exact absurd h Bool.false_ne_true
  ·exact absurd h Bool.false_ne_true
 ·rfl
 ·exact absurd h Bool.false_ne_true
 ·exact absurd h Bool.false_ne_true
 ·exact absurd h Bool.false_ne_true
 ·rfl
 ·exact absurd h Bool.false_ne_true
 ·exact absurd h Bool.false_ne_true
 ·exact absurd h Bool.false_ne_true
 ·exact absurd h Bool.false_ne_true
 ·exact absurd h Bool.false_ne_true
 ·exact absurd h Bool.false_ne_true
theorem kXs_of:∀{r:XE}(es:List Expr),kXs r=true→(toL r es).all (foldedForSure 8)=true:=by
 intro r
 induction r with
 | cons a r _ ih =>
  intro es h
  have h:=an h
  have:foldedForSure 8 (toE a (hdE es))=true:=by cases a <;> first|rfl|exact absurd h.1 Bool.false_ne_true
  show (foldedForSure 8 (toE a (hdE es))&&(toL r es.tail).all (foldedForSure 8))=true
  rw [this,ih _ h.2]; rfl
 | nil=>exact fun es zz=>rfl
 | _=>intro es h; injection h
theorem tupX_of {as:XE}(h:tupX as=true)(es:List Expr):(toL as es).all (foldedForSure 8)=true∨(toL as es).all (constantsAlone 8)=false:=by
 cases as with
 | cons a r =>
  have h:(ncX a || kX a&&kXs r)=true:=h
  rw [Bool.or_eq_true] at h
  rcases h with h|h
  ·right
   show (constantsAlone 8 (toE a (hdE es))&&_)=false
   rw [ncX_of h]; rfl
  ·exact .inl (kXs_of (r:=.cons a r) es h)
 | _=>exact absurd h Bool.false_ne_true
theorem swp_ok {e ee:_}{ts:List Expr}{n:Nat}{p:Pos}(h:unpX e=true):swappedStores [.Tuple ts n p] (toE e ee) C.env=pure none∨∃ line:Nat,(ts.filterMap fun t=>match t with|.Name id pos=>if C.env.kindOf id == some .local&&pos.line == line then some id else none|_=>none).length=ts.length∧swappedStores [.Tuple ts n p] (toE e ee) C.env=pure (some (ts.filterMap fun t=>match t with|.Name id pos=>if C.env.kindOf id == some .local&&pos.line == line then some id else none|_=>none)):=by
 rcases e with _|_|_|⟨a⟩|_|_|_|_|_|_|_|_|_|_|_|_|_|_|_|⟨as⟩|⟨as⟩|_|_|_|_
 ·exact .inl rfl
 ·exact .inl rfl
 ·exact .inl rfl
 ·injection h
 ·exact .inl rfl
 ·exact .inl rfl
 ·exact .inl rfl
 ·exact .inl rfl
 ·exact .inl rfl
 ·exact .inl rfl
 ·exact .inl rfl
 ·exact .inl rfl
 ·exact .inl rfl
 ·exact .inl rfl
 ·exact .inl rfl
 ·exact .inl rfl
 ·exact .inl rfl
 ·exact .inl rfl
 ·exact .inl rfl
 ·exact swp_stores (tupX_of h _)
 ·exact swp_stores (tupX_of h _)
 ·exact .inl rfl
 ·exact .inl rfl
 ·exact .inl rfl
 ·exact .inl rfl
theorem unpX_no {e:XE}(h:unpX e=true):isComp e=false:=by
 cases e <;> first|rfl|exact absurd h Bool.false_ne_true
theorem tg_names {ts:List Tg}{line:Nat}:∀ es:List Expr,((toTg ts es).filterMap fun t=>match t with|.Name id pos=>if C.env.kindOf id == some .local&&pos.line == line then some id else none|_=>none).length=(toTg ts es).length→∃ xs:List Nat,ts=xs.map .n∧((toTg ts es).filterMap fun t=>match t with|.Name id pos=>if C.env.kindOf id == some .local&&pos.line == line then some id else none|_=>none)=xs.map nmG:=by
 induction ts with
 | nil=>exact fun es zz=>⟨[],rfl,rfl⟩
 | cons t ts ih =>
  intro es h
  rcases t with ⟨x⟩|⟨x,f⟩
  ·have h:((nmE x (hdE es)::toTg ts es.tail).filterMap fun t=>match t with|.Name id pos=>if C.env.kindOf id == some .local&&pos.line == line then some id else none|_=>none).length=(nmE x (hdE es)::toTg ts es.tail).length:=h
   show ∃ xs:List Nat,Tg.n x::ts=xs.map .n∧((nmE x (hdE es)::toTg ts es.tail).filterMap fun t=>match t with|.Name id pos=>if C.env.kindOf id == some .local&&pos.line == line then some id else none|_=>none)=xs.map nmG
   rw [List.filterMap_cons] at h ⊢
   by_cases q:(C.env.kindOf (nmG x) == some .local&&(hdE es).pos.line == line)=true
   ·have e1:(match nmE x (hdE es) with|.Name id pos=>if C.env.kindOf id == some .local&&pos.line == line then some id else none|_=>none)=some (nmG x):=if_pos q
    rw [e1] at h ⊢
    refine cp fun kk=>?_
    obtain ⟨xs,e2,e3⟩:=ih es.tail (Nat.succ.inj h)
    refine kk ?_
    exact ⟨x::xs,by rw [e2]; rfl,by rw [e3]; rfl⟩
   ·have e1:(match nmE x (hdE es) with|.Name id pos=>if C.env.kindOf id == some .local&&pos.line == line then some id else none|_=>none)=none:=if_neg q
    rw [e1] at h
    have:=List.length_filterMap_le (fun t=>match t with|.Name id pos=>if C.env.kindOf id == some .local&&pos.line == line then some id else none|_=>none) (toTg ts es.tail)
    rw [h] at this
    exact absurd this (Nat.not_succ_le_self _)
  ·have h:((toTg ts es.tail).filterMap fun t=>match t with|.Name id pos=>if C.env.kindOf id == some .local&&pos.line == line then some id else none|_=>none).length=(toTg ts es.tail).length+1:=h
   have:=List.length_filterMap_le (fun t=>match t with|.Name id pos=>if C.env.kindOf id == some .local&&pos.line == line then some id else none|_=>none) (toTg ts es.tail)
   rw [h] at this
   exact absurd this (Nat.not_succ_le_self _)
theorem zip_maps:∀{xs:List Nat}{l:Sk},l.length=xs.length→∃ P:List (Nat×QV×Value),P.map (·.1)=xs∧P.map (·.2)=l
 | [],l=>fun h=>⟨[],rfl,(List.eq_nil_of_length_eq_zero h).symm⟩
 | x::xs,l=>fun h=>by
  rcases l with _|⟨p,l⟩
  ·injection h
  ·obtain ⟨P,e1,e2⟩:=zip_maps (xs:=xs) (l:=l) (Nat.succ.inj h)
   exact ⟨(x,p)::P,congrArg _ e1,congrArg _ e2⟩
theorem q_tuple (T:TopF C c){ts:List Tg}(es:List Expr){l:Sk}{A:Addr}{n d:Nat}{p:Pos}{KK:En→List OB→Prop}(hk:∀ t∈ts,tgK C.kd t=true)(hA:s.heap.get? A=some { cls:=.type "tuple",data:=.seq (List.toArray (l.map (·.2))) n })(hl:l.length=ts.length)(st:St C ρ H l s)(h:unpQ ts (l.map (·.1)) ρ H KK) :
  Wp C (assign (.Tuple (toTg ts es) d p) C.env (.ref A)) (fun zz s=>EnH C KK s) s:=by
 obtain ⟨g1,g2⟩:=tg_each (env:=C.env) (ts:=ts) es
 refine wpAny_assign_Tuple (items:=(l.map (·.2)).toArray) C.bok.hnd ⟨_,hA,rfl,_,rfl⟩ ?_ g2 fun h' hs=>?_
 ·rw [g1,List.size_toArray,List.length_map,hl]
 ·have w:=q_order T es l hk (st.grown (t:=s.toks) (h':=h') fun b o e=>hs b o (Nat.ne_of_lt (Heap.lt_size e)) e) h
  exact w
theorem asg_swap {names:List Str}{vs:List Value}{A:Addr}{n:Nat}{stores:List (Value→Sem Unit)}{Q:Flow→Shared→Prop}(st:St C ρ H k s)(hA:s.heap.get? A=some { cls:=.type "tuple",data:=.seq (List.toArray vs) n })(el:names.length=vs.length)(h:∀ s,St C ρ H k s→Wp C (assignInOrder (names.reverse.map fun n=>bindName C.env n) vs.reverse >>= fun zz=>pure Flow.next) Q s) :
  Wp C (assignStores C.env (.ref A) (some names) stores) Q s:=by
 show Wp C (rule "assign.swapped-stores" >>= fun zz=>unpackItems (.ref A) names.length none >>= fun items=>assignInOrder (names.reverse.map fun n=>bindName C.env n) items.reverse >>= fun zz=>(pure Flow.next:Sem Flow)) _ s
 rw [el]
 exact Wp.seq (wpAny_rule (Wp.seq (unpack_items st hA h)))
theorem s_unp {ts:List Tg}{e:XE}(he:OneX e):OneS (.unp ts e):=fun c C S ρ H s K T ok st q=>by
 have ok1:=an ok
 have ok2:=an ok1.1
 have ok3:=an ok2.1
 have hk:∀ t∈ts,tgK C.kd t=true:=fun t ht=>List.all_eq_true.mp ok3.1 t ht
 show Wp C (exec (.Assign [.Tuple (toTg ts (kidE (tgtS S))) (numE (tgtS S)) (tgtS S).pos] (toE e (valS S)) S.pos) C.env) _ s
 rw [exec_Assign_arm]
 refine Wp.at (Wp.seq ?_)
 show Wp C (swapsWith (toE e (valS S)) (some (.Tuple (toTg ts (kidE (tgtS S))) (numE (tgtS S)) (tgtS S).pos)) S.pos.line C.env) _ s
 rw [swap_no _ _ _ _ (unpX_no ok2.2)]
 refine Wp.pure ?_
 refine Wp.v (he.ev C (valS S) ρ H [] s _ ok1.2 st q) fun H q v s h st=>?_
 obtain ⟨A,l,n,rfl,hA,h,st⟩:=st.tupQ h
 rw [List.append_nil] at st
 have hl:=tg_len h (es:=[])
 rw [List.length_map] at hl
 rcases swp_ok (C:=C) (ts:=toTg ts (kidE (tgtS S))) (n:=numE (tgtS S)) (p:=(tgtS S).pos) (ee:=valS S) ok2.2 with e1|⟨line,e2,e1⟩
 ·rw [e1]
  refine Wp.seq (Wp.pure ?_)
  show Wp C (assign (.Tuple (toTg ts (kidE (tgtS S))) (numE (tgtS S)) (tgtS S).pos) C.env (.ref A) >>= fun zz=>(pure Flow.next:Sem Flow)) _ s
  exact Wp.bind (q_tuple T (kidE (tgtS S)) hk hA hl st h) fun zz s h=>h.rec fun ρ H h st=>Wp.pure (.nx ρ H h st)
 ·obtain ⟨xs,rfl,e3⟩:=tg_names (C:=C) (kidE (tgtS S)) e2
  rw [e1,e3]
  refine Wp.seq (Wp.pure ?_)
  obtain ⟨P,rfl,rfl⟩:=zip_maps (xs:=xs) (l:=l) (by rw [hl,List.length_map])
  have el:((P.map (·.1)).map nmG).length=((P.map (·.2)).map (·.2)).length:=by simp
  have hK:K .nx (stL (P.map fun p=>(p.1,p.2.1)) ρ) H:=unp_names (KK:=fun ρ H=>K .nx ρ H) P (by rw [List.map_map,List.map_map] at h; exact h)
  refine asg_swap st hA el fun s st=>?_
  have ea:(((P.map (·.1)).map nmG).reverse.map fun n=>bindName C.env n)=P.reverse.map fun p=>bindName C.env (nmG p.1):=by simp [List.map_reverse]
  have eb:((P.map (·.2)).map (·.2)).reverse=P.reverse.map (·.2.2):=by simp [List.map_reverse]
  rw [ea,eb]
  have hn:∀ p∈P,stoK C.kd p.1=true:=fun p hp=>hk (.n p.1) (List.mem_map_of_mem (f:=Tg.n) (List.mem_map_of_mem (f:=(·.1)) hp))
  have nd:((P.map fun p=>(p.1,p.2.1)).map (·.1)).Nodup:=by
   have:=nodB_of ok3.2
   have tn:∀ l:List Nat,tgN (l.map .n)=l:=fun l=>by induction l with
    | nil=>rfl
    | cons x l ih=>exact congrArg (x::·) ih
   rw [tn] at this
   rw [List.map_map]; exact this
  refine Wp.bind (q_names T P.reverse (fun p hp=>hn p (List.mem_reverse.mp hp)) (st.sub fun p hp=>?_)) fun zz s st=>Wp.pure (.nx _ H hK (st.relk fun y q e=>?_))
  ·rw [List.map_reverse] at hp; exact List.mem_reverse.mp hp
  ·rw [List.map_reverse]; exact stL_rev nd y q e
end
set_option tactic.hygienic false
set_option backward.match.sparseCases false
section
variable {C:Fx} {ρ ρ':En} {H:List OB} {k l:Sk} {s:Shared} {R:Rt} {V:View} {m:Mp} {c:Nat} {K:KT}
theorem q_iadd {a b:Value}{u w:PV}{KK:PV→Prop}{KQ':KQ}(st:St C ρ H ((.fr w,b)::(.fr u,a)::k) s)(h:addP u w KK)(g:∀ x,KK x→KQ' H (.fr x)):Wp C (inplaceOp .Add a b) (Pst C ρ k KQ') s:=by
 refine cp fun kk=>?_
 obtain ⟨x,e1,h1⟩:=intP_of h
 subst e1
 obtain ⟨y,e2,h2⟩:=intP_of h1
 subst e2
 obtain ⟨R,V,m,o⟩:=st
 obtain ⟨_,rfl⟩:=er_int (show er a=.int x from o.d.sk _ (.tail _ (.head _)))
 obtain ⟨_,rfl⟩:=er_int (show er b=.int y from o.d.sk _ (.head _))
 refine kk ?_
 exact AutoIntOps.iadd_0 ((o.less in2).st.conT (g _ h2) fun zz=>rfl)
theorem dup1 {p:QV×Value}:∀ x∈p::p::k,x∈p::k:=fun x h=>by
 cases h with
 | head=>exact .head _
 | tail z1 h=>exact h
theorem s_augA {a e:XE}(f:Nat)(ha:OneX a)(he:OneX e):OneS (.augA a f e):=fun c C S ρ H s K T ok st q=>by
 show Wp C (standAt S.pos >>= fun zz=>eval (toE a (k0 (tgtS S))) C.env >>= fun ov=>holding [ov] (standAt (tgtS S).pos.atName >>= fun zz=>getAttr ov (fnm f) true >>= fun old=>holding [old] (eval (toE e (valS S)) C.env) >>= fun v=>standAt S.pos >>= fun zz=>operate [old,v] (inplaceOp .Add old v)) >>= fun new =>
  standAt (tgtS S).pos.atName >>= fun zz=>holding [new,ov] (setAttr ov (fnm f) new) >>= fun zz=>release [new,ov] [] >>= fun zz=>(pure Flow.next:Sem Flow)) _ s
 refine .at (Wp.v (ha.ev C (k0 (tgtS S)) ρ H [] s _ (an ok).1 st q) fun H o ov s q st=>Wp.v (k:=[(o,ov)]) (K:=fun H w=>setQ H o f w fun H=>K .nx ρ H) (.hold (.at ?_)) fun H w nv s h st=>.at (.bind (.hold (q_set (k:=[]) (st.sub fun p hp=>?_) h)) fun zz s h=>h.rec fun H h st=>.rel (.pure (st.fst h))))
 ·exact Wp.f (q_att (K:=fun H q=>frz H q fun H u=>sX e C.P ρ H fun H q=>frz H q fun H v=>addP u v fun w=>setQ H o f (.fr w) fun H=>K .nx ρ H) (k:=[(o,ov)]) (st.sub dup1) q) fun H u x s q st=>Wp.f (he.ev C (valS S) ρ H _ s _ (an ok).2 st q).hold fun H v y s h st=>.at (.op (q_iadd st h fun x h=>h))
 ·cases hp with
  | head=>exact .tail _ (.head _)
  | tail z1 hp=>cases hp with
   | head=>exact .head _
   | tail z1 hp=>cases hp
theorem sh_aug {E:Expr}(h:shp E=true)(ov iv new:Value):augStore E ov iv new=holding [new,ov,iv] (setItem ov iv new) >>= fun zz=>release [new,ov,iv] [] >>= fun zz=>pure .next:=by
 cases E <;> first|rfl|injection h
theorem s_augI {l i e:XE}(hl:OneX l)(hi:OneX i)(he:OneX e):OneS (.augI l i e):=fun c C S ρ H s K T ok st q=>by
 show Wp C (standAt S.pos >>= fun zz=>eval (toE l (k0 (tgtS S))) C.env >>= fun ov=>holding [ov] (eval (toE i (k1 (tgtS S))) C.env) >>= fun iv=>holding [ov,iv] (standAt (tgtS S).pos >>= fun zz=>getItem ov iv >>= fun old=>holding [old] (eval (toE e (valS S)) C.env) >>= fun v=>standAt S.pos >>= fun zz=>operate [old,v] (inplaceOp .Add old v)) >>= fun new =>
  standAt (tgtS S).pos >>= fun zz=>augStore (toE i (k1 (tgtS S))) ov iv new) _ s
 refine .at (Wp.v (hl.ev C (k0 (tgtS S)) ρ H [] s _ (an (an ok).1).1 st q) fun H o ov s q st=>Wp.f (hi.ev C (k1 (tgtS S)) ρ H _ s _ (an (an ok).1).2 st q).hold fun H j iv s q st =>
  Wp.v (ρ:=ρ) (k:=[(.fr j,iv),(o,ov)]) (K:=fun H w=>∃ v,w=.fr v∧lstQ H o fun n xs=>intP j fun j=>0≤j∧j.toNat<xs.length∧K .nx ρ (H.set n (.lst (xs.set j.toNat v)))) (.hold (.at ?_)) fun H w nv s h st=>.at ?_)
 ·refine cp fun kk=>?_
  obtain ⟨v,h1,q⟩:=opB_of q
  obtain ⟨xs,h2,q⟩:=opB_of q
  obtain ⟨u,h3,q⟩:=opB_of q
  refine kk ?_
  refine Wp.v (q_subF (K:=fun H' q=>q=.fr u∧sX e C.P ρ H' fun H q=>frz H q fun H v=>addP u v fun w=>lstQ H o fun n xs=>intP j fun j=>0≤j∧j.toNat<xs.length∧K .nx ρ (H.set n (.lst (xs.set j.toNat w)))) (k:=[(.fr j,iv),(o,ov)]) (st.sub fun p hp=>?_) h1 h2 h3 ⟨rfl,q⟩).2 fun H q x s h st=>?_
  ·cases hp with
   | head=>exact .head _
   | tail z1 hp=>cases hp with
    | head=>exact .tail _ (.head _)
    | tail z1 hp=>exact hp
  ·refine cp fun kk=>?_
   obtain ⟨rfl,h⟩:=h
   refine kk ?_
   exact Wp.f (he.ev C (valS S) ρ H _ s _ (an ok).2 st h).hold fun H v y s h st=>.at (.op (q_iadd st h fun x h=>⟨x,rfl,h⟩))
 ·refine cp fun kk=>?_
  obtain ⟨v,rfl,h⟩:=h
  refine kk ?_
  rw [sh_aug (toE_shp i _)]
  refine .bind (.hold (q_setItem (k:=[]) (st.sub fun p hp=>?_) h)) fun zz s h=>h.rec fun H h st=>.rel (.pure (st.fst h))
  cases hp with
  | head=>exact .tail _ (.head _)
  | tail z1 hp=>cases hp with
   | head=>exact .tail _ (.tail _ (.head _))
   | tail z1 hp=>cases hp with
    | head=>exact .head _
    | tail z1 hp=>cases hp
theorem mc_w {l e:XE}{lb:Str}{id:String}{el ea ev:Expr}{pos:Pos}{G:List OB→QV→PV→Prop}(hl:OneX l)(he:OneX e)(hp:plX l=true)(ol:okX l C.kd=true)(oe:okX e C.kd=true)(st:St C ρ H [] s)(q:sX l C.P ρ H fun H o=>lstQ H o fun zz zz=>sX e C.P ρ H fun H q=>frz H q fun H v=>G H o v)
  (hg:∀(q:QV)(v:Value)(pl:Sem Bool)(Q:Value×List Value→Shared→Prop)(K:Nat→List PV→Prop) H k s,St C ρ H ((q,v)::k) s→lstQ H q K→Q (.builtin id,[v]) s→Wp C (getMethod v lb pl) Q s)
  (h:∀ H o v a b s,G H o v→St C ρ H [(.fr v,b),(o,a)] s→Wp C (call (.builtin id) [a,b]) (fun r s=>r=.none∧Ust C ρ [] (fun H=>K .nx ρ H) s) s):Wp C (exec (.Expr (mcE (toE l el) lb (toE e ea) ev) pos) C.env) (FstP C K) s:=by
 refine exec_call ?_
 show Wp C (attributeBase (toE l el) lb C.env (eval (toE l el) C.env) >>= fun ov=>standAt ({ (k0 ev).pos with endLine:=ev.pos.line }:Pos).atName >>= fun zz=>methodCall (toE l el) lb { (k0 ev).pos with endLine:=ev.pos.line } ev.pos C.env ov ([toE e ea].length+([]:List Keyword).length) (backTo ev.pos (starEach [toE e ea] C.env)) (backToKw ev.pos (keywordEach [] C.env))) _ s
 rw [base_plain (plX_of l _ hp)]
 refine Wp.v (hl.ev C el ρ H [] s _ ol st q) fun H o v s q st=>.at ?_
 rw [meth_eq (sh_nos (toE_shp e _) rfl) (by show 1<30; decide) rfl]
 refine Wp.seq (.hold (hg o v _ _ _ H _ s st q ?_))
 refine call_w (sh_nos (toE_shp e _) rfl) ?_
 rw [sh_star (toE_shp e _)]
 have q:sX e C.P ρ H fun H q=>frz H q fun H v=>G H o v:=by
  rcases o with ⟨_⟩|⟨i⟩
  ·exact q.elim
  ·obtain ⟨ob,e1,q⟩:=opB_of q
   rcases ob with _|⟨xs⟩|_|_|_
   ·exact q.elim
   ·exact q
   ·exact q.elim
   ·exact q.elim
   ·exact q.elim
 refine spl_one ((he.ev C ea ρ H _ s _ oe st q).mono fun w s z=>z.rec fun H u q st=>frz_st st q fun H u q st=>⟨?_,(h H o u v w s q st).mono fun r s h=>?_⟩)
 ·obtain ⟨R,V,m,o⟩:=st
  exact ⟨C.bok.kin o.f.toSC,.inr (.inl ⟨_,rfl⟩)⟩
 ·obtain ⟨rfl,H,h,st⟩:=h
  exact drop_ok (st.fst h)
theorem s_app {l e:XE}(hl:OneX l)(he:OneX e):OneS (.app l e):=fun c C S ρ H s K T ok st q =>
 mc_w hl he (an (an ok).1).1 (an (an ok).1).2 (an ok).2 st q (fun zz zz zz zz zz zz zz zz st h hq=>(q_getl st h).1 hq) fun H o v a b s h st=>q_append st h
theorem s_ext {l e:XE}(hl:OneX l)(he:OneX e):OneS (.ext l e):=fun c C S ρ H s K T ok st q =>
 mc_w hl he (an (an ok).1).1 (an (an ok).1).2 (an ok).2 st q (fun zz zz zz zz zz zz zz zz st h hq=>(q_getl st h).2 hq) fun H o v a b s h st=>by
  cases v with
  | lst ys=>exact q_extend st h
  | _=>exact h.elim
theorem s_nil:ManyS .nil:=fun c C L ρ H s K T ok st q=>wpAny_execs_nil (.nx ρ H q st)
theorem s_seq {a r:XT}(ha:lsT a=false→OneS a)(hr:lsT r=true→ManyS r):ManyS (.seq a r):=fun c C L ρ H s K T ok st q=>by
 have o1:=an ok
 have o2:=an o1.1
 have o3:=an o2.1
 refine wpAny_execs_cons ((ha (nb o3.1) c C (hdS L) ρ H s _ T o2.2 st q).mono fun fl s h=>?_)
 cases h with
 | nx ρ H h st=>exact hr o3.2 c C L.tail ρ H s K T o1.2 st h
 | rt ρ H q v h st=>exact .rt ρ H q v h st
theorem s_ife {t:XE}{a b:XT}(ht:OneX t)(ha:lsT a=true→ManyS a)(hb:lsT b=true→ManyS b):OneS (.ife t a b):=fun c C S ρ H s K T ok st q=>by
 have o1:=an ok
 have o2:=an o1.1
 have o3:=an o2.1
 have o4:=an o3.1
 have o5:=an o4.2
 refine Wp.at (Wp.t (ht.et o4.1 C (valS S) ρ H [] s _ o3.2 st q) fun H r s q st=>?_)
 rcases r with _|_
 ·exact hb o5.2 c C (elsS S) ρ H s K T o1.2 st (brB_f q)
 ·exact ha o5.1 c C (bodS S) ρ H s K T o2.2 st (brB_t q)
end
theorem agr_of {ρ:En}:∀{J:En},agr ρ J→∀ y q,lk J y=some q→lk ρ y=some q
 | [],z1,z2,z3,e=>by injection e
 | (x,o)::J,h,y,q,e=>by
  have e:(bif y.beq x then some o else lk J y)=some q:=e
  rcases z:y.beq x with _|_
  ·rw [z] at e; exact agr_of h.2 y q e
  ·rw [z] at e; rw [beq_of z]; exact h.1.trans e
theorem lk_all {P:QV→Bool}:∀{ρ:En},(ρ.all fun p=>P p.2)=true→∀ y q,lk ρ y=some q→P q=true
 | [],z1,z2,z3,e=>by injection e
 | (x,o)::ρ,h,y,q,e=>by
  have e:(bif y.beq x then some o else lk ρ y)=some q:=e
  have h:=an h
  rcases z:y.beq x with _|_
  ·rw [z] at e; exact lk_all h.2 y q e
  ·rw [z] at e; obtain rfl:=Option.some.inj e; exact h.1
inductive LInv (C:Fx)(J:Nat→En×List OB)(B:Nat→Prop)(I:Itr)(K:ItK)(n:Nat)(s:Shared):Prop
 | mk (j:Nat) (e:n=I.len-j) (hj:j≤I.len) (b:B j) (st:StI C (J j).1 (J j).2 [] I K K.own j s)
section
variable {C:Fx} {ρ ρ':En} {H:List OB} {k l:Sk} {s:Shared} {R:Rt} {V:View} {m:Mp} {c:Nat} {K:KT}
theorem Op.toJ (o:Op C ρ H [] s R V m){J:En×List OB}(h1:preH J.2 H)(h2:agr ρ J.1)(h3:okJ C.w0.length J.1 J.2=true):Op C J.1 J.2 [] s (R.cut J.2.length) V m :=
 have ok:=an h3
 have ok1:=an ok.1
 Op.pre (ρ:=J.1) ⟨o.f,o.c,fun y q e=>o.d.nm y q (agr_of h2 y q e),o.d.sk,o.d.f0,o.d.w0,o.d.ce,o.d.c0⟩ h1 ok.2 (Nat.le_of_ble_eq_true ok1.1) (lk_all ok1.2) fun p hp=>by cases hp
theorem St.toJ (st:St C ρ H [] s){J:En×List OB}(h1:preH J.2 H)(h2:agr ρ J.1)(h3:okJ C.w0.length J.1 J.2=true):St C J.1 J.2 [] s:=st.rec fun R V m o=>⟨_,V,m,o.toJ h1 h2 h3⟩
theorem s_loop {it:XE}{b:XT}(ts:List Nat)(n:Nat)(ih:OneX it)(il:ManyX it)(hb:lsT b=true→ManyS b):OneS (.loop ts n it b):=fun c C S ρ H s K T ok st q=>by
 have o1:=an ok
 have o4:=an o1.2
 have o2:=an o1.1
 have o3:=an o2.1
 have hts:∀ x∈ts,Sto C x:=fun x hx=>T.sto (List.all_eq_true.mp o3.1 x hx)
 refine wpAny_For (wpAny_mono (it_ok n (fun zz=>ih) il (e:=valS S) o3.2 o2.2 st q) (fun x s h=>wpAny_mono h (fun itv s h=>?_) fun zz zz z=>z) fun zz zz z=>z) fun x=>it_fold x
 obtain ⟨H,I,Kt,rfl,hk,st⟩:=h
 unfold kLoop at hk
 obtain ⟨J,B,b0,j0,j1,jo,step,fin⟩:=hk
 have jo':∀ n,okJ C.w0.length (J n).1 (J n).2=true:=fun n=>T.wc▸jo n
 have st0:StI C (J 0).1 (J 0).2 [] I Kt Kt.own 0 s:=st.rec fun R V m is o a iv r t=>⟨_,V,m,is,o.toJ j0 j1 (jo' 0),a,iv,r,t⟩
 refine codeAny_forLoop_any (LInv C J B I Kt) (fun n s hI=>?_) I.len ⟨0,rfl,Nat.zero_le _,b0,st0⟩
 obtain ⟨j,rfl,hj,bj,st⟩:=hI
 by_cases hn:j<I.len
 ·have al:∀ b∈Kt.own,∃ ob,s.heap.get? b=some ob:=fun b hb=>st.rec fun R V m is o a iv r t=>t.alive b hb
  refine' wpAny_mono (turn (e:=tgtS S) st (fun b hb=>hb) al hn hts (step j bj) ?g) ?h fun zz zz z=>z
  case h =>
   intro r s h
   obtain ⟨v,rfl,h⟩:=h
   exact h
  case g =>
   intro F O b' ρ' s₃ hq st₃ back
   refine wpAny_mono (hb o4.1 c (C.calm F _ O b') (bodS S) ρ' (J j).2 s₃ _ ⟨T.c0,T.fr,T.lf,T.wc,T.nc,T.nn,T.ov⟩ o4.2 st₃ hq) (fun fl s h=>?_) fun zz zz z=>z
   cases h with
   | nx ρ H h st=>exact ⟨_,Nat.sub_lt_sub_left hn (Nat.lt_succ_self j),j+1,rfl,hn,h.1,(back _ _ _ _ (st.toJ h.2.1 h.2.2 (jo' (j+1)))).1⟩
   | rt ρ H q v h st=>exact .rt ρ H q v h ((back _ _ _ _ st).1.rec fun R V m is o a iv r t=>.mk R V m o)
 ·have:j=I.len:=Nat.le_antisymm hj (Nat.le_of_not_lt hn)
  subst this
  obtain ⟨R,V,m,is,o,a,iv,r,t⟩:=st
  rw [← r.len] at t
  refine wpAny_mono (next_end C.bok.hnd o.f a t (iv V o.c.le)) (fun x s₁ hz=>?_) fun zz zz z=>z
  obtain ⟨e,f₁,kp⟩:=hz
  subst e
  exact wpAny_execs_nil (.nx _ _ (fin bj) (.mk R V m ⟨f₁,o.c,o.d⟩))
end
section
variable {C:Fx} {ρ ρ':En} {H:List OB} {k l:Sk} {s:Shared} {R:Rt} {V:View} {m:Mp} {c:Nat} {K:KT}
theorem s_raise:OneS .raise:=fun c C S ρ H s K T ok ⟨R,V,m,o⟩ q=>T.ov.raise C m V s S _ rfl ok T.nn o.f fun v s' stk e xf=>C.ext m V v s' stk e xf q (o.d.f0.trans o.c.le)
noncomputable def Fx.try (C:Fx)(X:Prop)(E:Value→Shared→Prop)(ext:∀(m:Mp)(V:View)(v:Value)(s:Shared)(stk:List Env),C.A.frames=some stk→XF C.W stk C.fs C.O C.env.locals m V v s→X→Le C.F0 V→E v s):Fx :=
 {W:=C.W,P:=⟨C.P.G,X⟩,kd:=C.kd,n:=C.n,cl:=C.cl,env:=C.env,A:=C.A,fs:=C.fs,O:=C.O,E:=E,F0:=C.F0,w0:=C.w0,C0:=C.C0,bok:=C.bok,eok:=C.eok,ext:=ext,inj:=C.inj,clk:=C.clk,snd:=C.snd,pf:=C.pf }
theorem s_try {b:XT}(hb:lsT b=true→ManyS b):OneS (.tryN b):=fun c C S ρ H s K T ok st q=>by
 refine cp fun kk=>?_
 obtain ⟨rfl,q⟩:=q
 have hk:=an ok
 have hk2:=an hk.2
 obtain ⟨outer,hfr⟩:=T.fr
 have hw:C.w0=[]:=List.length_eq_zero_iff.mp T.wc
 obtain ⟨R,V,m,o⟩:=st
 have fin:∀ m V s,K (.rt (.fr .none)) [] []→SF C.W C.fs C.O C.env.locals m V s→Le C.F0 V→Fst C K s (.ret .none):=fun m V s hk f l =>
  .rt [] [] (.fr .none) .none hk ⟨⟨C.F0,[],fun zz=>none⟩,V,m,f,⟨fun zz zz=>rfl,l,fun zz zz zz=>rfl,fun b v e=>o.c.nc b v (o.d.f0 b _ e),(fun zz zz zz e=>by injection e),(fun zz zz e=>by injection e),rfl,(fun zz zz zz e=>by injection e)⟩,
   ⟨(fun zz zz e=>by injection e),(fun p hp=>by
    cases hp with
    | head=>exact rfl
    | tail z1 hp=>cases hp),.refl _,(fun j y e=>by rw [hw] at e; injection e),(fun x a e=>absurd e (T.nc rfl x a)),fun a v e=>absurd e (T.c0 a v)⟩⟩
 refine kk ?_
 refine wpAny_Try_except (wpAny_mono (hb hk2.1 0 (C.try (K (.rt (.fr .none)) [] []) (fun e s₁=>wpAny (model C.W.prog C.W.w) C.A (noteFrame e C.env) (fun zz s₂=>wpAny (model C.W.prog C.W.w) C.A (setFlight e none) (fun zz s₃=>wpAny (model C.W.prog C.W.w) C.A (handleBy e C.env _) (FstP C K) C.E s₃) C.E s₂) C.E s₁) fun m V v s stk e xf hq l=>?_) (bodS S) ρ H s K ⟨T.c0,T.fr,T.lf,T.wc,T.nc,T.nn,T.ov⟩ hk2.2 ⟨R,V,m,o.f,o.c,o.d⟩ q) (fun fl s h=>?_) fun v s h=>h)
 ·rw [hfr] at e; obtain rfl:=Option.some.inj e
  refine T.ov.catch_ C m V s v outer _ _ _ _ rfl hk.1 hfr T.lf xf fun s' E' f=>wpAny_execs_cons ?_
  rw [arm_exec_Return]
  exact wpAny_bind (wpAny_standAt (wpAny_bind (wpAny_Constant_none (wpAny_pure (fin m V s' hq f l)))))
 ·cases h with
  | nx ρ H h st=>exact wpAny_execs_nil (.nx ρ H h (st.rec fun R V m o=>⟨R,V,m,o.f,o.c,o.d⟩))
  | rt ρ H q v h st=>exact .rt ρ H q v h (st.rec fun R V m o=>⟨R,V,m,o.f,o.c,o.d⟩)
end
theorem preH_take:∀(n:Nat)(H:List OB),preH (H.take n) H
 | 0,z1=>trivial
 | z1+1,[]=>trivial
 | n+1,z1::H=>⟨rfl,preH_take n H⟩
section
variable {C:Fx} {s:Shared}
theorem gc_ok:∀(xs:List Nat){ρ:En}{H:List OB}{KK:En→List OB→Prop},St C ρ H [] s→gcQ xs ρ H KK→∃ ρ' H',KK ρ' H'∧St C ρ' H' [] s
 | [],ρ,H,KK,st,h=>⟨ρ,H,h,st⟩
 | x::xs,ρ,H,KK,hz4,h=>by
  obtain ⟨R,V,m,o⟩:=hz4
  obtain ⟨q,e,h⟩:=opB_of h
  have key:∀ a:AV,QR C.W R q a→(∀ v R',Mv V R V R'→Rel C.W R'.F v a→NmR C.b m V R' (nmG x) (.fr v))→∃ ρ' H',KK ρ' H'∧St C ρ' H' [] s:=fun a r mk =>
   (frzQ_ok h o.c r).rec fun H' v R' h c l zz r'=>gc_ok xs ⟨R',V,m,o.f,c,⟨fun y q' e'=>by
    rw [lk_st] at e'
    by_cases z:y=x
    ·rw [if_pos z] at e'; obtain rfl:=Option.some.inj e'; rw [z]; exact ⟨(o.d.nm x q e).1,mk v R' ⟨l,fun zz zz e=>e⟩ r'⟩
    ·rw [if_neg z] at e'; exact ⟨(o.d.nm y q' e').1,(o.d.nm y q' e').2.mv ⟨l,fun zz zz e=>e⟩⟩,(fun p hp=>by cases hp),o.d.f0.trans l.f,fun j y e=>l.w j y (o.d.w0 j y e),o.d.ce,o.d.c0⟩⟩ h
  rcases (o.d.nm x q e).2 with ⟨a,k,g,r⟩|⟨a,b,k,g,z,r⟩
  ·exact key a r fun v R' zz r'=>.loc a k g r'
  ·exact key a r fun v R' zz r'=>.cel a b k g z r'
theorem s_gc {xs:List Nat}{n:Nat}{r:XT}(hr:lsT r=true→ManyS r):ManyS (.gc xs n r):=fun c C L ρ H s K T ok st q=>by
 have h:=an ok
 refine cp fun kk=>?_
 obtain ⟨ρ',H',⟨h1,h2⟩,⟨R,V,m,o⟩⟩:=gc_ok xs st q
 have a:=an h1
 have b:=an a.1
 refine kk ?_
 exact hr h.1 c C L ρ' (H'.take n) s K T h.2 ⟨_,V,m,o.pre (preH_take n H') a.2 (T.wc▸Nat.le_of_ble_eq_true b.1) (lk_all b.2) fun p hp=>by cases hp⟩ h2
end
structure AllT (x:XT):Prop where
 one:lsT x=false→OneS x
 many:lsT x=true→ManyS x
theorem AllT.of {x:XT}(h:OneS x)(m:lsT x=false):AllT x:=⟨fun zz=>h,fun e=>by (rw [m] at e; injection e)⟩
theorem AllT.ofM {x:XT}(h:ManyS x)(m:lsT x=true):AllT x:=⟨fun e=>by (rw [m] at e; injection e),fun zz=>h⟩
theorem all_T (x:XT):AllT x:=by
 have X:=fun e=>(all_X e).one
 induction x with
 | nil=>exact .ofM s_nil rfl
 | seq a r iha ihr=>exact .ofM (s_seq iha.one ihr.many) rfl
 | pass=>exact .of s_pass rfl
 | ret e=>exact .of (s_ret (X e)) rfl
 | ex e=>exact .of (s_ex (X e)) rfl
 | asg x e=>exact .of (s_asg x (all_X e) (fun a b c zz=>⟨all_X a,all_X b,all_X c⟩) fun a zz=>all_X a) rfl
 | unp ts e=>exact .of (s_unp (X e)) rfl
 | setA a f e=>exact .of (s_setA f (X a) (X e)) rfl
 | setI l i e=>exact .of (s_setI (X l) (X i) (X e)) rfl
 | augA a f e=>exact .of (s_augA f (X a) (X e)) rfl
 | augI l i e=>exact .of (s_augI (X l) (X i) (X e)) rfl
 | app l e=>exact .of (s_app (X l) (X e)) rfl
 | ext l e=>exact .of (s_ext (X l) (X e)) rfl
 | ife t a b iha ihb=>exact .of (s_ife (X t) iha.many ihb.many) rfl
 | loop ts n it b ihb=>exact .of (s_loop ts n (X it) (all_X it).many ihb.many) rfl
 | raise=>exact .of s_raise rfl
 | gc xs n r ih=>exact .ofM (s_gc ih.many) rfl
 | bad=>exact .of (fun c C S ρ H s K T ok st q=>q.elim) rfl
 | tryN b ihb=>exact .of (s_try ihb.many) rfl
noncomputable def fillS (slots l:List (Str×Value)):List (Str×Value):=l.foldl (fun acc x=>if (acc.lookup x.1).isNone then acc++[x] else acc) slots
theorem fill_for:∀(l slots:List (Str×Value)),(forIn l slots fun x s=>if (s.lookup x.1).isNone=true then pure (ForInStep.yield (s++[(x.1,x.2)])) else pure (ForInStep.yield s):Sem (List (Str×Value)))=pure (fillS slots l)
 | [],slots=>by rw [List.forIn_nil]; rfl
 | x::l,slots=>by
  rw [List.forIn_cons]
  unfold fillS
  rw [List.foldl_cons]
  by_cases h:(slots.lookup x.1).isNone=true
  ·rw [if_pos h,if_pos h,pure_bind]; exact fill_for l _
  ·rw [if_neg h,if_neg h,pure_bind]; exact fill_for l _
theorem lookup_snoc (n:Str)(x:Str×Value):∀ l:List (Str×Value),(l++[x]).lookup n=(l.lookup n).or (if n=x.1 then some x.2 else none)
 | []=>by
  rw [List.nil_append,List.lookup_cons]
  by_cases h:n=x.1
  ·rw [if_pos h,h]; simp
  ·rw [if_neg h,beq_eq_false_iff_ne.mpr h]; rfl
 | y::l=>by
  rw [List.cons_append,List.lookup_cons,List.lookup_cons]
  rcases n == y.1 with _|_
  ·exact lookup_snoc n x l
  ·rfl
theorem lookup_fill (n:Str):∀(l slots:List (Str×Value)),(fillS slots l).lookup n=(slots.lookup n).or (l.lookup n)
 | [],slots=>by rw [List.lookup_nil,Option.or_none]; rfl
 | x::l,slots=>by
  unfold fillS
  rw [List.foldl_cons]
  rw [List.lookup_cons]
  by_cases h:(slots.lookup x.1).isNone=true
  ·rw [if_pos h]
   have:=lookup_fill n l (slots++[x])
   unfold fillS at this
   rw [this,lookup_snoc,Option.or_assoc]
   by_cases e:n=x.1
   ·rw [if_pos e,beq_iff_eq.mpr e]; rfl
   ·rw [if_neg e,beq_eq_false_iff_ne.mpr e]; rfl
  ·rw [if_neg h]
   have:=lookup_fill n l slots
   unfold fillS at this
   rw [this]
   by_cases e:n=x.1
   ·rw [← e] at h
    rcases hs:slots.lookup n with _|⟨v⟩
    ·rw [hs] at h; exact absurd rfl h
    ·rfl
   ·rw [beq_eq_false_iff_ne.mpr e]
theorem lookup_zip {n:Str}:∀{ns:List Str}{vs:List Value}{i:Nat},ns.Nodup→ns[i]?=some n→(ns.zip vs).lookup n=vs[i]?
 | [],z1,i,z2,h=>by injection h
 | m::ns,[],i,z1,h=>by rw [List.zip_nil_right]; rfl
 | m::ns,v::vs,0,hn,h=>by obtain rfl:=Option.some.inj h; rw [List.zip_cons_cons,List.lookup_cons]; simp
 | m::ns,v::vs,i+1,hn,h=>by
  rw [List.nodup_cons] at hn
  rw [List.zip_cons_cons,List.lookup_cons]
  have hne:n≠m:=by rintro rfl; exact hn.1 (List.mem_of_getElem? h)
  rw [beq_eq_false_iff_ne.mpr hne]
  exact lookup_zip (i:=i) hn.2 h
theorem fmap_zip {F:Str→Option Value}:∀{ns:List Str}{ws:List Value},ns.length=ws.length→(∀(i:Nat)(n:Str),ns[i]?=some n→F n=ws[i]?)→ns.filterMap (fun n=>(F n).map fun x=>(n,x))=ns.zip ws
 | [],[],z1,z2=>rfl
 | n::ns,w::ws,h,hF=>by
  rw [List.filterMap_cons,hF 0 n rfl]
  rw [List.zip_cons_cons]
  show _::_=_
  congr 1
  exact fmap_zip (Nat.succ.inj h) fun i m e=>hF (i+1) m e
 | [],z1::z2,h,z3=>by injection h
 | z1::z2,[],h,z3=>by injection h
theorem ite_no {c:Prop}[Decidable c]{α:Type}{a b:Sem α}{M:Model}{A:Around}{E:Value→Shared→Prop}{Q:α→Shared→Prop}{s:Shared}(h:¬c)(k:wpAny M A b Q E s):wpAny M A (ite c a b) Q E s:=(if_neg h).symm▸k
theorem bind_gen {fd:FuncData}{vs:List Value}{ns:List Str}{ds:List Value}(h1:fd.params.posonlyargs=[])(h0:fd.params.args.map (·.arg)=ns)(h2:fd.params.kwonlyargs=[])(h3:fd.params.vararg=none)(h4:fd.params.kwarg=none)
  (hg:vs.length≤ns.length) (hd:ds.length≤ns.length) (hm:ns.length≤vs.length+ds.length) (hnd:ns.Nodup) {s:Shared} {M:Model} {A:Around} {E:Value→Shared→Prop} {Q:List (Str×Value)→Shared→Prop}
  (hs:∀ R:Option (Array Value)→Shared→Prop,(∀ o,(o.getD #[]).toList=ds→R o s)→wpAny M A (seqItems? fd.defaults) R E s) (q:Q (ns.zip (vs++ds.drop (vs.length+ds.length-ns.length))) s):wpAny M A (bindArgs fd ⟨vs,[]⟩) Q E s:=by
 have F:∀ i n,ns[i]?=some n→((ns.zip vs).lookup n).or (((ns.drop (ns.length-ds.length)).zip ds).lookup n)=(vs++ds.drop (vs.length+ds.length-ns.length))[i]?:=fun i n e=>by
  have hi:=(List.getElem?_eq_some_iff.mp e).1
  rw [lookup_zip hnd e]
  by_cases hv:i<vs.length
  ·rw [List.getElem?_append_left hv,List.getElem?_eq_getElem hv]; rfl
  ·rw [List.getElem?_append_right (Nat.le_of_not_lt hv),List.getElem?_eq_none (Nat.le_of_not_lt hv),Option.none_or,List.getElem?_drop]
   have e2:(ns.drop (ns.length-ds.length))[i-(ns.length-ds.length)]?=some n:=by
    rw [List.getElem?_drop,show ns.length-ds.length+(i-(ns.length-ds.length))=i from Nat.add_sub_cancel' (Nat.le_trans (Nat.sub_le_iff_le_add.mpr hm) (Nat.le_of_not_lt hv))]; exact e
   rw [lookup_zip (hnd.sublist (List.drop_sublist _ _)) e2]
   congr 1; exact sub_ar hd hm hv
 obtain ⟨n1,n2,⟨po,ar,va,ko,kd,ka,dd⟩,bo,sc,gl,cl,df,kdf,dc,py,an,co,ct,bu⟩:=fd
 obtain rfl:po=[]:=h1
 obtain rfl:ko=[]:=h2
 obtain rfl:va=none:=h3
 obtain rfl:ka=none:=h4
 refine wpAny_bind (m:=seqItems? df) (hs _ fun o ho=>?_)
 obtain rfl:ar.map (·.arg)=ns:=h0
 refine ite_no (fun e=>?_) ?_
 ·exact absurd (of_decide_eq_true (Bool.and_eq_true_iff.mp e).1) (Nat.not_lt_of_le hg)
 have miss:List.filter (fun n=>(List.lookup n ((ar.map (·.arg)).zip vs)).isNone) (List.take ((ar.map (·.arg)).length-ds.length) (ar.map (·.arg)))=[]:=by
  rw [List.filter_eq_nil_iff]
  intro n hn
  obtain ⟨i,hi⟩:=List.mem_iff_getElem?.mp hn
  rw [List.getElem?_take] at hi
  split at hi
  ·rw [lookup_zip hnd hi,List.getElem?_eq_getElem (Nat.lt_of_lt_of_le (by assumption) (Nat.sub_le_iff_le_add.mpr hm))]; simp
  ·injection hi
 have hdr:ds.drop (ds.length-(ar.map (·.arg)).length)=ds:=by rw [Nat.sub_eq_zero_of_le hd,List.drop_zero]
 obtain ⟨dr,hr⟩:∃ dr,dr=(o.getD #[]).toList.drop ((o.getD #[]).toList.length-(ar.map (·.arg)).length):=⟨_,rfl⟩
 have hr':dr=ds:=by rw [hr,ho]; exact hdr
 refine ite_no (fun e=>?_) ?_
 ·have e:(!(List.filter (fun n=>(List.lookup n ((ar.map (·.arg)).zip vs)).isNone) (List.take ((ar.map (·.arg)).length-((o.getD #[]).toList.drop ((o.getD #[]).toList.length-(ar.map (·.arg)).length)).length) (ar.map (·.arg)))).isEmpty)=true:=e
  rw [← hr,hr',miss] at e; injection e
 refine wpAny_bind (m:=forIn _ _ _) ?_
 rw [fill_for]
 refine wpAny_pure ?_
 refine wpAny_pure (a:=List.filterMap (fun n=>Option.map (fun x=>(n,x)) (List.lookup n (fillS ((ar.map (·.arg)).zip vs) ((List.drop ((ar.map (·.arg)).length-((o.getD #[]).toList.drop ((o.getD #[]).toList.length-(ar.map (·.arg)).length)).length) (ar.map (·.arg))).zip ((o.getD #[]).toList.drop ((o.getD #[]).toList.length-(ar.map (·.arg)).length)))))) (ar.map (·.arg)++[])) ?_
 show Q (List.filterMap (fun n=>Option.map (fun x=>(n,x)) (List.lookup n (fillS ((ar.map (·.arg)).zip vs) ((List.drop ((ar.map (·.arg)).length-((o.getD #[]).toList.drop ((o.getD #[]).toList.length-(ar.map (·.arg)).length)).length) (ar.map (·.arg))).zip ((o.getD #[]).toList.drop ((o.getD #[]).toList.length-(ar.map (·.arg)).length)))))) (ar.map (·.arg)++[])) s
 rw [← hr,hr',List.append_nil]
 have:(fun n=>Option.map (fun x=>(n,x)) (List.lookup n (fillS ((ar.map (·.arg)).zip vs) ((List.drop ((ar.map (·.arg)).length-ds.length) (ar.map (·.arg))).zip ds))))=fun n=>((((ar.map (·.arg)).zip vs).lookup n).or ((((ar.map (·.arg)).drop ((ar.map (·.arg)).length-ds.length)).zip ds).lookup n)).map fun x=>(n,x):=by
  funext n; rw [lookup_fill]
 rw [this,fmap_zip (ws:=vs++ds.drop (vs.length+ds.length-(ar.map (·.arg)).length)) (by rw [List.length_append,List.length_drop]; exact sub_ar2 hg hm) F]
 exact q
noncomputable def zipE:List Nat→List QV→En
 | x::xs,q::qs=>(x,q)::zipE xs qs
 | z1,z2=>[]
noncomputable def cutOk (c:Nat)(J:List OB)(q:QV):Bool:=Nat.ble c J.length&&(okN J.length q&&J.all (okO J.length))
noncomputable def selOk:Nat→Nat→List Nat→Bool
 | z1,0,z2=>true
 | z1,z2+1,[]=>false
 | i,c+1,j::r=>i.beq j&&selOk (i+1) c r
@[irreducible] noncomputable def retQ (c:Nat)(r:Rs)(q:QV)(H:List OB):Prop:=(∃ n,cutOk c (H.take n) q=true∧r=.ok q (H.take n))∨∃ sel q' Ho,selOk 0 c sel=true∧nodB sel=true∧renQ H sel q=some q'∧renOs H sel sel=some Ho∧r=.ok q' Ho
theorem selOk_get:∀{i c:Nat}{sel:List Nat},selOk i c sel=true→∀ j,j<c→sel[j]?=some (i+j)
 | z1,0,z2,z3,j,hj=>absurd hj (Nat.not_lt_zero j)
 | z1,z2+1,[],h,z3,z4=>absurd h Bool.false_ne_true
 | i,c+1,x::r,h,0,z1=>by
  have h1:=an h
  rw [← beq_of h1.1]; rfl
 | i,c+1,x::r,h,j+1,hj=>by
  have h1:=an h
  have:=selOk_get h1.2 j (Nat.lt_of_succ_lt_succ hj)
  rw [show i+(j+1)=i+1+j by lia]
  exact this
noncomputable def retK (c:Nat)(r:Rs):KT:=fun fl zz H=>match fl with
 | .nx=>retQ c r (.fr .none) H
 | .rt q=>retQ c r q H
noncomputable def kdOf1 (f:Nat)(x:Str):Option NameKind:=(scopeOf (fSt f)).names.lookup x
noncomputable def cOf (f:Nat)(H:List OB):Nat:=2*H.length+(bif (cellNames (scopeOf (fSt f)).names).isEmpty then 0 else 1)
structure FnOk (f:Nat)(ps:List Nat)(dfl:List PV)(body:XT):Prop where
 sc:okSc (scopeOf (fSt f))=true
 co:(scopeOf (fSt f)).isCoroutine=false
 ge:(scopeOf (fSt f)).isGenerator=false
 po:(parsOf (fSt f)).posonlyargs=[]
 ar:(parsOf (fSt f)).args.map (·.arg)=ps.map nmG
 ko:(parsOf (fSt f)).kwonlyargs=[]
 va:(parsOf (fSt f)).vararg=none
 ka:(parsOf (fSt f)).kwarg=none
 fr:freeNames (scopeOf (fSt f)).names=[]
 nd:nodB ps=true
 st:ps.all (stoK (kdOf1 f))=true
 ls:lsT body=true
 ok:okT body (kdOf1 f)=true
 dp:dfl.all plainV=true
 dl:dfl.length≤ps.length
 tx:toT body (bodyOf (fSt f))=bodyOf (fSt f)
theorem QRs.append {W:Wo}{R:Rt}:∀{qs ps:List QV}{as bs:List AV},QRs W R qs as→QRs W R ps bs→QRs W R (qs++ps) (as++bs)
 | [],z1,z2,z3,h,g=>by rw [show _=[] from h]; exact g
 | q::qs,z1,z2,z3,hz4,g=>by
  obtain ⟨a,t,e,r,h⟩:=hz4
  subst e; exact ⟨a,_,rfl,r,h.append g⟩
theorem QRs.dfl {W:Wo}{R:Rt}:∀{vs:List PV},vs.all plainV=true→QRs W R (vs.map .fr) (vs.map avP)
 | [],z1=>rfl
 | v::vs,h=>by
  rw [List.all_cons] at h
  refine ⟨avP v,_,rfl,?_,QRs.dfl (an h).2⟩
  have h1:=(an h).1
  cases v <;> first|exact rfl|injection h1
theorem zip3 {W:Wo}{R:Rt}:∀{ps:List Nat}{qs:List QV}{ws:List Value},ps.length=qs.length→QRs W R qs (ws.map er)→∃ l:List (Nat×QV×Value),l.map (·.1)=ps∧l.map (fun p=>(p.1,p.2.1))=zipE ps qs∧(∀ p∈l,QR W R p.2.1 (er p.2.2))∧l.map (fun p=>(nmG p.1,p.2.2))=(ps.map nmG).zip ws
 | [],[],[],z1,z2=>⟨[],rfl,rfl,(fun p hp=>by cases hp),rfl⟩
 | [],[],z1::z2,z3,h=>by injection h
 | x::ps,q::qs,[],z1,hz4=>by
  obtain ⟨a,t,e,_,_⟩:=hz4
  injection e
 | x::ps,q::qs,w::ws,hl,hz4=>by
  obtain ⟨a,t,e,r,h⟩:=hz4
  cases e
  refine cp fun kk=>?_
  obtain ⟨l,e1,e2,e3,e4⟩:=zip3 (Nat.succ.inj hl) h
  refine kk ?_
  exact ⟨(x,q,w)::l,by rw [← e1]; rfl,congrArg ((x,q)::·) e2,fun p hp=>(by
   cases hp with
   | head=>exact r
   | tail z1 hp=>exact e3 p hp),congrArg ((nmG x,w)::·) e4⟩
 | [],z1::z2,z3,h,z4=>by injection h
 | z1::z2,[],z3,h,z4=>by injection h
theorem zipE_lk {ps:List Nat}{qs:List QV}(nd:ps.Nodup){y:Nat}{q:QV}(h:lk (zipE ps qs) y=some q):(y,q)∈zipE ps qs:=by
 induction ps generalizing qs with
 | nil=>injection h
 | cons x ps ih =>
  rcases qs with _|⟨p,qs⟩
  ·injection h
  ·have h:(bif y.beq x then some p else lk (zipE ps qs) y)=some q:=h
   rcases e:y.beq x with _|_
   ·rw [e] at h; exact .tail _ (ih (List.nodup_cons.mp nd).2 h)
   ·rw [e] at h; obtain rfl:=Option.some.inj h; rw [beq_of e]; exact .head _
section
variable {C:Fx} {ρ:En} {H:List OB} {k:Sk} {s:Shared}
theorem q_pars (hc:∀ a v,C.C0 a≠some (.cell v))(g:Str×Value→PUnit→Sem (ForInStep PUnit))(hg:∀ n v u,g (n,v) u=(do storeName C.env n v; pure (.yield ⟨⟩))):∀(l:List (Nat×QV×Value)){ρ:En}{s:Shared},(∀ p∈l,stoK C.kd p.1=true)→St C ρ H (l.map (·.2)) s →
  Wp C (forIn (l.map fun p=>(nmG p.1,p.2.2)) ⟨⟩ g) (fun zz s=>St C (stL (l.map fun p=>(p.1,p.2.1)) ρ) H [] s) s
 | [],ρ,s,z1,st=>by rw [List.map_nil,List.forIn_nil]; exact Wp.pure st
 | (x,q,v)::l,ρ,s,h,st=>by
  rw [List.map_cons,List.forIn_cons,hg]
  have w:Wp C (storeName C.env (nmG x) v >>= fun zz=>(pure (ForInStep.yield PUnit.unit):Sem (ForInStep PUnit))) (fun r s=>r=ForInStep.yield PUnit.unit∧St C (Mine.Internal.st ρ x q) H (l.map (·.2)) s) s:=Wp.bind (q_store st (h _ (.head _)) fun a v zz=>hc a v) fun zz s st=>Wp.pure ⟨rfl,st⟩
  exact Wp.bind w fun r s h2=>by
   obtain ⟨rfl,st⟩:=h2
   exact q_pars hc g hg l (fun p hp=>h p (.tail _ hp)) st
end
theorem leave_F {W:Wo}{A:Around}{fs:List Addr}{O:Heap}{env:Env}{s:Shared}{E:Value→Shared→Prop}{m:Mp}{V:View}{outer:List Env}{v:Value}(f1:A.frames=some (env::outer))(f2:env.frame=some env.locals)(fsn:∀ b∈fs,∃ o,O.get? b=some o∧∀ vs,o.data≠.fields vs)(x:XF W (env::outer) fs O env.locals m V v s){M:Model}{Q:Unit→Shared→Prop}
  (h:∀ s',XS W outer fs O V v s'→Q () s'):wpAny M A (leaving env v) Q E s:=by
 refine cp fun kk=>?_
 obtain ⟨sf,e,B,rfl,⟨b1,b2,b3,oe,vs,a0,he,hc,hd,h0,hT⟩,bO,bV⟩:=x
 have fin:∀ h',Heap.LeftW B (env::outer) e (.ref W.exc) a0 s.heap h'→Q () { s with heap:=h' }:=by
  intro h' ⟨l1,l2,l3,l4⟩
  refine h _ ⟨e,B,rfl,⟨l1,b2,l2.2.2,?_⟩,bO,bV,⟨fun b o eo=>?_,fun a o ea=>?_,sf.off,sf.gens,sf.drawn,sf.os⟩⟩
  ·refine cp fun kk=>?_
   obtain ⟨oe',vs',T,oT,ts,g1,g2,g3,g4,g5⟩:=l3
   refine kk ?_
   exact ⟨oe',vs',a0,g1,g2.1,g3,g2.2,.inr ⟨oe',vs',T,oT,ts,g1,g2,g3,g4,g5⟩⟩
  ·by_cases hb:b∈fs
   ·refine cp fun kk=>?_
    obtain ⟨sl,k1,k2⟩:=sf.keep b o eo
    obtain ⟨o',q1,q2⟩:=fsn b hb
    rw [eo] at q1; (injection q1 with q1; subst q1)
    obtain ⟨sl',k3⟩:=l4 b _ k1 q2
    refine kk ?_
    exact ⟨sl',k3,fun q=>absurd hb q⟩
   ·exact ⟨o.slots,l1 _ _ (bO b o eo hb),fun zz=>rfl⟩
  ·refine cp fun kk=>?_
   obtain ⟨ob,q1,q2⟩:=bV a o ea
   refine kk ?_
   exact ⟨ob,l1 _ _ q1,q2⟩
 refine kk ?_
 rcases hT with hT|hT
 ·exact wpAny_leaving_firstW f1 b3 f2 he b1 b2 hd hT h0 fun h' hl=>fin h' (by rw [hc] at hl; exact hl)
 ·exact wpAny_leaving_nextW f1 b3 f2 hT b1 b2 fin
theorem zip_nm {ps:List Nat}(nd:ps.Nodup)(h:∀ x∈ps,x<nmL.length):(ps.map nmG).Nodup:=by
 induction ps with
 | nil=>exact List.nodup_nil
 | cons x ps ih =>
  rw [List.nodup_cons] at nd
  rw [List.map_cons,List.nodup_cons]
  refine ⟨fun q=>?_,ih nd.2 fun y hy=>h y (.tail _ hy)⟩
  obtain ⟨y,hy,e⟩:=List.mem_map.mp q
  rw [← nmG_inj (h y (.tail _ hy)) (h x (.head _)) e] at nd
  exact nd.1 hy
theorem binds_at {W:Wo}{R:Rt}{f:Nat}{ps:List Nat}{dfl:List PV}{body:XT}(T:FnOk f ps dfl body){qual:Str}{dV kV doc pm cdv ct:Value}{an:Option Addr}(hD:Dfl W.K dV (dfl.map avP)){qs:List QV}{vs:List Value}{s:Shared}(kin:W.K.In s.heap)(hq:QRs W R qs (vs.map er))
  (h1:qs.length≤ps.length) (h2:ps.length≤qs.length+dfl.length):∃ l:List (Nat×QV×Value),l.map (·.1)=ps∧l.map (fun p=>(p.1,p.2.1))=zipE ps (qs++(dfl.drop (qs.length+dfl.length-ps.length)).map .fr)∧(∀ p∈l,QR W R p.2.1 (er p.2.2)) ∧
   BindsTo s (fnOf (nameOf (fSt f)) qual (parsOf (fSt f)) (bodyOf (fSt f)) (scopeOf (fSt f)) dV kV doc pm an cdv ct) ⟨vs,[]⟩ (l.map fun p=>(nmG p.1,p.2.2)):=by
 have hvl:vs.length=qs.length:=by have:=hq.len; rw [List.length_map] at this; exact this.symm
 have fin:∀ ds:List Value,ds.map er=dfl.map avP→(∀ Q:Option (Array Value)→Shared→Prop,(∀ o,(o.getD #[]).toList=ds→Q o s)→∀(M:Model)(A:Around)(E:Value→Shared→Prop),wpAny M A (seqItems? dV) Q E s)→∃ l:List (Nat×QV×Value),l.map (·.1)=ps∧l.map (fun p=>(p.1,p.2.1))=zipE ps (qs++(dfl.drop (qs.length+dfl.length-ps.length)).map .fr)∧(∀ p∈l,QR W R p.2.1 (er p.2.2)) ∧
   BindsTo s (fnOf (nameOf (fSt f)) qual (parsOf (fSt f)) (bodyOf (fSt f)) (scopeOf (fSt f)) dV kV doc pm an cdv ct) ⟨vs,[]⟩ (l.map fun p=>(nmG p.1,p.2.2)):=fun ds hds hsq=>by
  have hdl:ds.length=dfl.length:=by have:=congrArg List.length hds; rwa [List.length_map,List.length_map] at this
  refine cp fun kk=>?_
  obtain ⟨l,e1,e2,e3,e4⟩:=zip3 (W:=W) (R:=R) (ps:=ps) (qs:=qs++(dfl.drop (qs.length+dfl.length-ps.length)).map .fr) (ws:=vs++ds.drop (qs.length+dfl.length-ps.length)) (by rw [List.length_append,List.length_map,List.length_drop]; exact sub_ar2 h1 h2) (by
   have e:∀ k,(ds.drop k).map er=(dfl.drop k).map avP:=fun k=>by rw [List.map_drop,hds,List.map_drop]
   rw [List.map_append,e]
   refine hq.append (QRs.dfl ?_)
   rw [List.all_eq_true]
   exact fun v hv=>List.all_eq_true.mp T.dp v (List.mem_of_mem_drop hv))
  refine kk ?_
  refine ⟨l,e1,e2,e3,fun M A E Q q=>?_⟩
  rw [e4] at q
  have hl:(ps.map nmG).length=ps.length:=List.length_map ..
  refine bind_gen (ns:=ps.map nmG) (ds:=ds) T.po T.ar T.ko T.va T.ka (by rw [hl,hvl]; exact h1) (by rw [hl,hdl]; exact T.dl) (by rw [hl,hvl,hdl]; exact h2) (zip_nm (nodB_of T.nd) fun x hx=>(stoK_of (List.all_eq_true.mp T.st x hx)).1) (fun R hR=>hsq R hR M A E) ?_
  rw [hl,hvl,hdl]; exact q
 rcases dfl with _|⟨d,dfl⟩
 ·have hD:dV=.none:=hD
  subst hD
  exact fin [] rfl fun R hR M A E=>wpAny_pure (hR none rfl)
 ·refine cp fun kk=>?_
  obtain ⟨T,o,items,k,rfl,hT,hdat,hit⟩:=hD
  refine kk ?_
  exact fin items hit fun R hR M A E=>wpAny_seqItems (kin _ _ hT) hdat (hR _ rfl)
theorem sound_fn {W:Wo}(F:PF W)(ov:Ov W){n f:Nat}(hn:4≤n){dfl:List PV}(hf:(f,dfl)∈fnT){ps:List Nat}{body:XT}(T:FnOk f ps dfl body){G:Gm}(hs:∀ f H as r,G.at f H as r→Sm W n f H as r){H:List OB}{qs:List QV}{r:Rs}
  (h1:qs.length≤ps.length) (h2:ps.length≤qs.length+dfl.length) (hb:sT (cOf f H) body ⟨G,r=.ovf⟩ (zipE ps (qs++(dfl.drop (qs.length+dfl.length-ps.length)).map .fr)) H (retK H.length r)):Sm W (n+1) f H qs r:=fun V R as core dom hq=>by
 refine cp fun kk=>?_
 obtain ⟨oc,od,osl,qual,dV,kV,doc,pm,an,cdv,ct,ho,hcd,hD⟩:=F.fn _ hf
 obtain ⟨k1,k2,k3,k4⟩:=okSc_facts T.sc
 refine kk ?_
 refine ⟨fun a e=>?_,fun A fs O s fv vs E ok st hfv ha hE=>?_⟩
 ·(injection e with e; subst e)
  have ho':W.K.lookup (fAd W f)=_:=ho
  delta keepIn
  show (match W.K.lookup (fAd W f) with|_=>_)=true
  rw [ho']
 obtain rfl:=er_ref hfv
 subst ha
 have kin:=ok.ok.kin.keeps (ok.base st)
 obtain ⟨l,e1,e2,e3,hbd⟩:=binds_at (qual:=qual) (dV:=dV) (kV:=kV) (doc:=doc) (pm:=pm) (cdv:=cdv) (ct:=ct) (an:=an) T hD kin hq h1 h2
 have nb:W.base.get? s.heap.objs.size=none:=none_of_keeps (ok.base st) (get_size _)
 refine codeAny_call_function (body:=bodyOf (fSt f)) (Nat.lt_of_le_of_lt (Nat.le_add_right _ _) ok.depth) (kin _ _ ho) rfl T.co T.ge rfl (codeRec_of kin hcd) ?_
 refine hbd _ _ _ _ ?_
 refine wpAny_bind (m:=alloc { cls:=.type "frame",data:=.dict #[] }) (wpAny_alloc ?_)
 refine wpAny_bind (wpAny_mono (lay_cells _ (fun name kind cells=>rfl) (scopeOf (fSt f)).names [] (fun zz=>none) _ _ (fun cl' V'=>Into (cellNames (scopeOf (fSt f)).names) (fun zz=>none) V cl' V') (enter_ns st _) (fun x a q=>by injection q) (intoC_ok _ _ _ (fun x y a q=>by injection q) (fun x a q=>by injection q) fun zz zz h=>h)) (fun cells s₁ h=>?_) fun zz zz z=>z)
 refine cp fun kk=>?_
 obtain ⟨cl,V₁,f₁,hcl,I,kp,_⟩:=h
 refine kk ?_
 dsimp only
 generalize hen:({ scope:=scopeOf (fSt f),locals:=s.heap.objs.size,globals:=mainGlobals,cells:=cells,qual:=qual ++ ".<locals>.",func:=some (fAd W f),code:=cdv,frame:=some s.heap.objs.size,builtins:=builtinsNs }:Env)=env
 have eL:env.locals=s.heap.objs.size:=by rw [← hen]
 have eK:env.scope=scopeOf (fSt f):=by rw [← hen]
 have eF:env.frame=some env.locals:=by rw [← hen]
 have ek:env.scope.kind=.function:=by rw [eK]; exact k1
 have ee:EnvOk { W:=W,n:=n,kd:=kdOf1 f,cl:=cl } env:=⟨fun x=>by rw [← hen]; rfl,fun x a q=>by rw [← hen]; exact hcl x a q,k3,k4⟩
 rw [← eL] at f₁ nb
 obtain ⟨stk,hs1,hs2,hs3⟩:=ok.frames
 have hfr:(A.deeper env).frames=some (env::stk):=Around.frames_deeper hs1
 have old:∀ e∈stk,e.scope.kind≠.module∧∃ L,e.frame=some L∧W.base.get? L=none∧(L=env.locals∨L∈fs):=fun e he=>by
  refine cp fun kk=>?_
  obtain ⟨a1,L,a2,a3,a4⟩:=of_funFrames hs2 e he
  refine kk ?_
  exact ⟨a1,L,a2,a3,.inr (hs3 L (List.mem_filterMap.mpr ⟨e,he,a2⟩))⟩
 have bokA:Bok W A.in1 fs O env n:={ ok:=ok.ok,stays:=ok.stays,fsn:=ok.fsn,new:=nb,hnd:=ok.hnd,frames:=⟨stk,hs1,old⟩,depth:=Nat.lt_of_succ_lt ok.depth,units:=un_le (k:=1) ok.units (by decide),glob:=by rw [← hen],blt:=by rw [← hen],kind:=ek }
 have bok:Bok W (A.deeper env) fs O env n :=
  {ok:=ok.ok,stays:=ok.stays,fsn:=ok.fsn,new:=nb,hnd:=ok.hnd
   frames:=⟨env::stk,hfr,fun e he=>by
    rcases List.mem_cons.mp he with rfl|he
    ·exact ⟨(by rw [ek]; decide),_,eF,nb,.inl rfl⟩
    ·exact old e he⟩
   depth:=Nat.lt_of_le_of_lt (Nat.le_of_eq (Nat.add_right_comm _ 1 _)) ok.depth
   units:=un_le (k:=3) ok.units (by decide)
   glob:=by rw [← hen],blt:=by rw [← hen],kind:=ek }
 have clk:∀ x,isCl (kdOf1 f) x=true→∃ a,cl x=some a:=fun x hx=>by
  rcases isCl_of hx with q|q
  ·obtain ⟨a,e,_⟩:=I.clk x (cell_mem (look_mem q)); exact ⟨a,e⟩
  ·have:=lookup_free q
   rw [T.fr] at this; cases this
 let C1:Fx:={ W:=W,P:=⟨G,False⟩,kd:=kdOf1 f,n:=n,cl:=cl,env:=env,A:=A.in1,fs:=fs,O:=O,E:=E,F0:=R.F,w0:=R.w,C0:=fun zz=>none,bok:=bokA,eok:=ee,ext:=fun zz zz zz zz zz zz zz h=>h.elim,inj:=I.inj,clk:=clk,snd:=hs,pf:=F }
 have st1:St C1 [] H (l.map (·.2)) s₁:=⟨R,V₁,_,f₁,core.cells I.le I.new,⟨(fun x q e=>by injection e),(fun p hp=>by
  refine cp fun kk=>?_
  obtain ⟨p',hp',rfl⟩:=List.mem_map.mp hp
  refine kk ?_
  exact e3 p' hp'),.refl _,fun zz zz e=>e,I.ce,(fun a v e=>by injection e)⟩⟩
 have stk1:∀ p∈l,stoK (kdOf1 f) p.1=true:=fun p hp=>List.all_eq_true.mp T.st p.1 (by rw [← e1]; exact List.mem_map_of_mem (f:=(·.1)) hp)
 refine wpAny_bind (wpAny_mono (q_pars (C:=C1) (fun zz zz e=>by injection e) _ (fun zz zz zz=>rfl) l stk1 st1) (fun zz s₂ st2=>wpAny_pure ?_) fun zz zz z=>z)
 have nd:=nodB_of T.nd
 have st3:St C1 (zipE ps (qs++(dfl.drop (qs.length+dfl.length-ps.length)).map .fr)) H [] s₂:=st2.relk fun y q e=>by
  refine (Eq.symm e2)▸?_
  exact stL_mem (by rw [← e2,List.map_map]; show (l.map (·.1)).Nodup; rw [e1]; exact nd) (zipE_lk nd e)
 refine ⟨(ok.ok.top.nolimit).keeps (st3.rec fun R V m o=>bokA.base o.f.toSC),codeAny_func ?_⟩
 have fin:∀ E1:Value→Shared→Prop,(∀ v s' m V',XF W (env::stk) fs O env.locals m V' v s'→r=.ovf→Le R.F V'→E1 v s')→wpAny (model W.prog W.w) (A.deeper env) (execs (bodyOf (fSt f)) env) (fun fl s'=>∃ v V',(fl=.ret v∨fl=.next∧v=.none)∧SC W fs O V' s'∧∃ q Ho R',r=.ok q Ho∧Core W V' R' Ho∧RLe R R'∧QR W R' q (er v)) E1 s₂:=fun E1 hE1=>by
  let C2:Fx:={ W:=W,P:=⟨G,r=.ovf⟩,kd:=kdOf1 f,n:=n,cl:=cl,env:=env,A:=A.deeper env,fs:=fs,O:=O,E:=E1,F0:=R.F,w0:=R.w,C0:=fun zz=>none,bok:=bok,eok:=ee,ext:=fun m V v s stk' e xf h l=>hE1 v s m V (by rw [hfr] at e; (injection e with e; subst e); exact xf) h l,inj:=I.inj,clk:=clk,snd:=hs,pf:=F }
  have st4:St C2 (zipE ps (qs++(dfl.drop (qs.length+dfl.length-ps.length)).map .fr)) H [] s₂:=st3.rec fun R V m o=>⟨R,V,m,o.f,o.c,o.d⟩
  have top:TopF C2 (cOf f H):=⟨(fun zz zz e=>by injection e),⟨stk,hfr⟩,eF,?_,?_,hn,ov⟩
  ·(refine T.tx▸?_)
   refine wpAny_mono ((all_T body).many T.ls (cOf f H) C2 (bodyOf (fSt f)) _ H s₂ (retK H.length r) top T.ok st4 hb) (fun fl s' h=>?_) fun zz zz z=>z
   have go:∀{ρ:En}{H':List OB}{q:QV}{v:Value},retQ H.length r q H'→St C2 ρ H' [(q,v)] s'→∃ V',SC W fs O V' s'∧∃ q Ho R',r=.ok q Ho∧Core W V' R' Ho∧RLe R R'∧QR W R' q (er v):=fun {ρ H' q v} h st=>by
    unfold retQ at h
    obtain ⟨R',V',m,o⟩:=st
    rcases h with ⟨n,h,e⟩|⟨sel,q',Ho,h1,h2,h3,h4,e⟩
    case inr =>
     have hP:=inV_le (sel:=sel) o.c
     have sc:=o.f.toSC
     refine ⟨inV V' R' sel,⟨sc.keep,fun a o e=>sc.view a o (hP a o e),fun a o e=>sc.off a o (hP a o e),sc.gens,sc.drawn,sc.os⟩,q',Ho,inR R' sel,e,o.c.into h2 h4,⟨o.d.f0,fun j y ej=>?_⟩,renQ_ok o.c h3 (o.d.sk _ (.head _))⟩
     have hj:j<H.length:=by rw [← core.wl]; exact (List.getElem?_eq_some_iff.mp ej).1
     have:=selOk_get h1 j hj
     rw [Nat.zero_add] at this
     exact inW_get this (o.d.w0 j y ej)
    have h1:=Mine.Internal.an h
    have h2:=Mine.Internal.an h1.2
    have o':Op C2 [] (H'.take n) [(q,v)] s' (R'.cut (H'.take n).length) V' m:=Op.pre (ρ:=[]) ⟨o.f,o.c,fun zz zz e=>by (injection e),o.d.sk,o.d.f0,o.d.w0,o.d.ce,o.d.c0⟩ (preH_take n H') h2.2 (by show R.w.length≤_; rw [core.wl]; exact Nat.le_of_ble_eq_true h1.1) (fun zz zz e=>by injection e) fun p hp=>by
     cases hp with
     | head=>exact h2.1
     | tail _ hp=>cases hp
    exact ⟨V',o'.f.toSC,q,_,_,e,o'.c,⟨o'.d.f0,o'.d.w0⟩,o'.d.sk _ (.head _)⟩
   rcases h with ⟨ρ,H,h,st⟩|⟨ρ,H,q,v,h,st⟩
   ·refine cp fun kk=>?_
    obtain ⟨V',a,b⟩:=go h (st.con (x:=.none) fun zz=>rfl)
    refine kk ?_
    exact ⟨.none,V',.inr ⟨rfl,rfl⟩,a,b⟩
   ·refine cp fun kk=>?_
    obtain ⟨V',a,b⟩:=go h st
    refine kk ?_
    exact ⟨v,V',.inl rfl,a,b⟩
  ·rw [core.wl]; unfold cOf
   rcases (cellNames (scopeOf (fSt f)).names).isEmpty with _|_
   ·show _=(2*H.length+1) / 2; rw [Nat.mul_add_div (by decide)]; rfl
   ·show _=(2*H.length+0) / 2; rw [Nat.mul_add_div (by decide)]; rfl
  ·intro h x a e
   unfold cOf at h
   rcases z:cellNames (scopeOf (fSt f)).names with _|⟨y,r⟩
   ·have e:cl x=some a:=e
    rw [I.old x (by rw [z]; intro q; cases q)] at e; injection e
   ·rw [z] at h; have h:(2*H.length+1) % 2=0:=h; rw [Nat.mul_add_mod] at h; exact absurd h (by decide)
 refine wpAny_mono (fin _ fun v s' m V' xf hr hl=>?_) (fun fl s' hz=>?_) fun zz zz z=>z
 ·exact leave_F hfr eF (fun b hb=>(ok.fsn b hb).2) xf fun s'' xs=>hE v s'' V' stk hs1 xs ⟨hr,hl⟩
 ·obtain ⟨v,V',hfl,sc,q,Ho,R',hr,hc,hle,hq'⟩:=hz
  rcases hfl with rfl|⟨rfl,rfl⟩
  ·exact ⟨V',sc,q,Ho,R',hr,hc,hle,hq'⟩
  ·exact ⟨V',sc,q,Ho,R',hr,hc,hle,hq'⟩
section
variable {W:Wo} {A:Around} {fs:List Addr} {O:Heap} {s:Shared} {V:View}
theorem SC.add (h:SC W fs O V s){h':Heap}{a:Addr}{ob:Obj}{o:AO}(k:∀ b o,s.heap.get? b=some o→h'.get? b=some o)(ha:s.heap.get? a=none)(hob:h'.get? a=some ob)(hr:RO ob o) :
  SC W fs O (put V a o) { s with heap:=h' } :=
 {keep:=fun b o e=>(by obtain ⟨sl,h1,h2⟩:=h.keep b o e; exact ⟨sl,k b _ h1,h2⟩)
  view:=fun b o' e=>by
   by_cases hb:b=a
   ·subst hb; rw [put_self] at e; obtain rfl:=Option.some.inj e; exact ⟨ob,hob,hr⟩
   ·rw [put_ne _ _ hb] at e; obtain ⟨o1,h1,h2⟩:=h.view b o' e; exact ⟨o1,k _ _ h1,h2⟩
  off:=fun b o' e=>by
   by_cases hb:b=a
   ·subst hb; exact keep_none h ha
   ·rw [put_ne _ _ hb] at e; exact h.off b o' e
  gens:=h.gens,drawn:=h.drawn,os:=h.os }
end
theorem cls_call {W:Wo}{C fI:Addr}(hm:mkOk W.K C fI=true){n:Nat}{args:List AV}{V:View}{Q:AV→View→Prop}{X:View→Prop}
  (h:∀ d x,V d=none→V x=none→d≠x→Call W n (.ref fI) (.ref x::args) (put (put V d (.dict [])) x (.inst C d)) (fun r V'=>r=.none∧Q (.ref x) V') X):Call W (n+1) (.ref C) args V Q X:=by
 unfold mkOk at hm
 simp only [Bool.and_eq_true,beq_iff_eq] at hm
 refine cp fun kk=>?_
 obtain ⟨⟨⟨m1,m2⟩,m3⟩,m4⟩:=hm
 refine kk ?_
 refine ⟨fun a e=>by (injection e with e; subst e); exact m4,fun A fs O s fv vs E ok st hf ha hE=>?_⟩
 obtain rfl:=er_ref hf
 have kin:=ok.ok.kin.keeps (ok.base st)
 obtain ⟨hh,g,dr,t,os⟩:=s
 have k1:hh.get? hh.objs.size=none:=get_size hh
 have hd:=Heap.get?_push_size hh (o:=emptyDict) rfl
 have k2:(hh.push emptyDict).get? (hh.objs.size+1)=none:=Heap.get?_none_of_le (by rw [Heap.size_push]; exact Nat.le_refl _)
 have hi:((hh.push emptyDict).push (instObj C hh.objs.size)).get? (hh.objs.size+1)=some (instObj C hh.objs.size):=by
  have:=Heap.get?_push_size (hh.push emptyDict) (o:=instObj C hh.objs.size) rfl
  rwa [Heap.size_push] at this
 have st1:SC W fs O (put V hh.objs.size (.dict [])) ⟨hh.push emptyDict,g,dr,t,os⟩:=st.add (fun b o e=>Heap.get?_push_of_some _ e) k1 hd ⟨[],0,rfl,.nil⟩
 have st2:SC W fs O (put (put V hh.objs.size (.dict [])) (hh.objs.size+1) (.inst C hh.objs.size)) ⟨(hh.push emptyDict).push (instObj C hh.objs.size),g,dr,t,os⟩:=st1.add (fun b o e=>Heap.get?_push_of_some _ e) k2 hi rfl
 refine make_core (makes_of kin m1) (looks_findIn kin m2) (fun self=>bind_fn kin self m3) (.inl rfl) ?_
 have vn:V (hh.objs.size+1)=none:=view_none st (Heap.get?_none_of_le (Nat.le_succ _))
 have ok':Cok W (A.under (.builtin "type.__call__" ⟨.ref C::vs,[]⟩)) fs O n:=⟨ok.ok,ok.stays,ok.frames,ok.fsn,ok.hnd,Nat.lt_of_le_of_lt (Nat.le_of_eq (Nat.add_right_comm _ 1 _)) ok.depth,by
  have hu:(A.under (.builtin "type.__call__" ⟨.ref C::vs,[]⟩)).units≤A.units+8:=by
   first
    | exact Nat.add_le_add_left (Nat.le_trans (Nat.le_of_eq (show _=1 from rfl)) (by decide)) _
    | exact Nat.add_le_add_left (Nat.le_trans (Nat.le_of_eq (show _=4 from rfl)) (by decide)) _
  exact Nat.lt_of_le_of_lt (Nat.add_le_add_right (Nat.add_le_add_right hu (8*n)) 64) (un_le ok.units (Nat.le_refl 8))⟩
 refine codeAny_mono ((h hh.objs.size (hh.objs.size+1) (view_none st k1) vn (Nat.ne_of_lt (Nat.lt_succ_self _))).run _ fs O _ (.ref fI) (.ref (hh.objs.size+1)::vs) E ok' st2 rfl (by rw [List.map_cons,ha]; rfl) (fun v s' V' stk e xs hx=>hE v s' V' stk e xs hx)) fun r s' x=>?_
 rcases r with e|(v|_|_|_) <;> first|exact x|exact x.elim|skip
 obtain ⟨V',a,b,c⟩:=x
 exact ⟨er_none b,V',a,c⟩
theorem zpn (l:List Nat):zp l []=[]:=by cases l <;> rfl
theorem mkT_facts {W:Wo}{C j:Nat}(h:(C,j)∈mkT):fAd W (C*100+j)=W.am C j∧fAd W C=W.ad C:=by
 have key:∀ p∈mkT,(p.1*100+p.2).blt 1000=false∧p.1.blt 1000=true∧(p.1*100+p.2) / 100=p.1∧(p.1*100+p.2) % 100=p.2:=by decide +kernel
 refine cp fun kk=>?_
 obtain ⟨h1,h2,h3,h4⟩:=key _ h
 refine kk ?_
 exact ⟨by unfold fAd; rw [h1]; show W.am ((C*100+j) / 100) ((C*100+j) % 100)=_; rw [h3,h4],fAd_fn h2⟩
noncomputable def mkR (i:Nat):Rs→Rs
 | .ovf=>.ovf
 | .ok z1 H=>.ok (.own i) H
theorem sound_cls {W:Wo}(F:PF W){n C j:Nat}(hm:(C,j)∈mkT){H:List OB}{qs:List QV}{r:Rs}(h:Sm W n (C*100+j) (H++[.obj C []]) (.own H.length::qs) r)(hr:∀ q Ho,r=.ok q Ho→q=.fr .none):Sm W (n+1) C H qs (mkR H.length r):=fun V R as core dom hq=>by
 obtain ⟨f1,f2⟩:=mkT_facts (W:=W) hm
 rw [f2]
 refine cls_call (F.cl _ hm) fun d x hd hx hne=>?_
 have hV:Le V (put (put V d (.dict [])) x (.inst (W.ad C) d)):=(Le.put' hd).trans (Le.put' ((put_ne _ _ hne.symm).trans hx))
 have vx:=put_self (put V d (.dict [])) x (.inst (W.ad C) d)
 have vd:put (put V d (.dict [])) x (.inst (W.ad C) d) d=some (.dict []):=(put_ne _ _ hne).trans (put_self _ _ _)
 have newc:∀ b o,V b=none→put (put V d (.dict [])) x (.inst (W.ad C) d) b=some o→o=.dict []∨o=.inst (W.ad C) d:=fun b o e g=>by
  by_cases q:b=x
  ·rw [q,vx] at g; obtain rfl:=Option.some.inj g; exact .inr rfl
  ·rw [put_ne _ _ q] at g
   by_cases q2:b=d
   ·rw [q2,put_self] at g; obtain rfl:=Option.some.inj g; exact .inl rfl
   ·rw [put_ne _ _ q2,e] at g; injection g
 generalize hV':put (put V d (.dict [])) x (.inst (W.ad C) d)=V' at hV vx vd newc
 have wl:=core.wl
 obtain ⟨c,l⟩:=core.new (x:=x) (o:=.obj C []) hV (fun b v e g=>by rcases newc b _ e g with q|q <;> injection q) fun l=>⟨d,[],vx,by rw [new_new hx vx,wl],by rw [zpn]; exact vd,by rw [new_new hd vd,wl],rfl⟩
 have hw:(R.new V V' x).w[H.length]?=some x:=by
  rw [← wl]; exact List.getElem?_concat_length
 have hsm:=h V' (R.new V V' x) (.ref x::as) c (fun b o e=>by
  cases q:V b with
  | some o' =>
   have:=hV b o' q
   rw [e] at this; obtain rfl:=Option.some.inj this
   rcases dom b o q with z|⟨i,z⟩
   ·exact .inl (l.f b o z)
   ·exact .inr ⟨i,(new_old q).trans z⟩
  | none=>exact .inr ⟨_,new_new q e⟩) ⟨.ref x,as,rfl,⟨x,hw,rfl⟩,QRs.mono l qs as hq⟩
 rw [f1] at hsm
 refine hsm.mono (fun a V2 hz=>?_) fun V2 hz=>?_
 ·obtain ⟨q,Ho,R',e,c2,l2,rq⟩:=hz
  subst e
  have:=hr q Ho rfl
  subst this
  exact ⟨rq,.own H.length,Ho,R',rfl,c2,l.trans l2,x,l2.w _ _ hw,rfl⟩
 ·obtain ⟨e,g⟩:=hz
  subst e
  exact ⟨rfl,l.f.trans g⟩
set_option tactic.hygienic true
set_option maxRecDepth 100000
noncomputable def b14:XT:=.seq (.ret (.boo true (.cons (.isi 0 (.v 91)) (.cons (.not (.isi 1 (.v 91))) (.cons (.cmp2 .le .le (.v 44) (.v 91) (.v 32)) .nil))))) .nil
noncomputable def b15_1:XT:=.seq .bad .nil
noncomputable def b15_2:XT:=.seq (.ret (.v 91)) .nil
noncomputable def b15:XT:=.seq (.ife (.boo false (.cons (.not (.isi 0 (.v 91))) (.cons (.isi 1 (.v 91)) .nil))) b15_1 .nil) b15_2
noncomputable def b16_1:XT:=.seq (.raise) .nil
noncomputable def b16_2:XT:=.seq (.ret (.v 91)) .nil
noncomputable def b16:XT:=.seq (.ife (.not (.cmp2 .le .le (.neg (.g 1)) (.call 15 (.cons (.v 91) .nil)) (.g 1))) b16_1 .nil) b16_2
noncomputable def b17_1:XT:=.seq (.raise) .nil
noncomputable def b17_2:XT:=.seq (.ret (.v 91)) .nil
noncomputable def b17:XT:=.seq (.ife (.not (.cmp2 .le .le (.neg (.g 0)) (.call 15 (.cons (.v 91) .nil)) (.g 0))) b17_1 .nil) b17_2
noncomputable def b18_1:XT:=.seq .bad .nil
noncomputable def b18_2:XT:=.seq (.ret (.neg (.bin .fdv (.bin .sub (.v 7) (.bin .mul (.k (.int 2)) (.v 52))) (.bin .mul (.k (.int 2)) (.v 7))))) .nil
noncomputable def b18_3:XT:=.seq (.ret (.bin .fdv (.bin .add (.bin .mul (.k (.int 2)) (.v 52)) (.v 7)) (.bin .mul (.k (.int 2)) (.v 7)))) .nil
noncomputable def b18_4:XT:=.seq (.ife (.cmp .lt (.v 52) (.k (.int 0))) b18_2 .nil) b18_3
noncomputable def b18:XT:=.seq (.ife (.cmp .le (.v 7) (.k (.int 0))) b18_1 .nil) b18_4
noncomputable def b25_1:XT:=.seq .bad .nil
noncomputable def b25_2:XT:=.seq (.ret (.k (.int 0))) .nil
noncomputable def b25_3:XT:=.seq (.ret (.g 2)) .nil
noncomputable def b25_4:XT:=.seq (.asg 63 (.bin .fdv (.bin .mul (.v 21) (.k (.int 297))) (.v 84))) .nil
noncomputable def b25_5:XT:=.seq (.asg 63 (.bin .fdv (.v 21) (.bin .fdv (.v 84) (.k (.int 297))))) .nil
noncomputable def b25_6:XT:=.seq (.asg 63 (.v 21)) .nil
noncomputable def b25_7:XT:=.seq (.ife (.cmp .ge (.v 84) (.k (.int 1663497))) b25_5 b25_6) .nil
noncomputable def b25_8:XT:=.seq (.ret (.g 2)) .nil
noncomputable def b25_9:XT:=.seq (.ret (.bin .fdv (.bin .add (.bin .mul (.bin .mul (.v 63) (.v 63)) (.v 63)) (.k (.int 131072))) (.k (.int 262144)))) .nil
noncomputable def b25_10:XT:=.seq (.ife (.cmp .gt (.v 63) (.k (.int 1290))) b25_8 .nil) b25_9
noncomputable def b25_11:XT:=.seq (.ife (.cmp .le (.v 21) (.k (.int 7230584))) b25_4 b25_7) b25_10
noncomputable def b25_12:XT:=.seq (.ife (.cmp .le (.v 84) (.k (.int 0))) b25_3 .nil) b25_11
noncomputable def b25_13:XT:=.seq (.ife (.cmp .eq (.v 21) (.k (.int 0))) b25_2 .nil) b25_12
noncomputable def b25:XT:=.seq (.ife (.cmp .lt (.v 21) (.k (.int 0))) b25_1 .nil) b25_13
noncomputable def b29_1:XT:=.seq (.ret (.v 54)) .nil
noncomputable def b29_2:XT:=.seq (.ife (.cmp .ne (.sub (.v 81) (.v 54)) (.k (.int 0))) b29_1 .nil) .nil
noncomputable def b29_3:XT:=.seq (.ret (.g 3)) .nil
noncomputable def b29:XT:=.seq (.loop [54] 0 (.tup (.cons (.g 6) (.cons (.g 5) (.cons (.g 4) .nil)))) b29_2) b29_3
noncomputable def b45_1:XT:=.seq .bad .nil
noncomputable def b45:XT:=.seq (.ife (.cmp .gt (.v 14) (.g 32)) b45_1 .nil) .nil
noncomputable def b47_1:XT:=.seq .bad .nil
noncomputable def b47_2:XT:=.seq .bad .nil
noncomputable def b47_3:XT:=.seq (.ret (.tup (.cons (.g 18) (.cons (.call 49 (.cons (.att (.v 51) 3) (.cons (.bin .add (.v 14) (.k (.int 1))) .nil))) .nil)))) .nil
noncomputable def b47_4:XT:=.seq .bad .nil
noncomputable def b47_5:XT:=.seq (.ret (.bin .add (.bin .add (.bin .add (.tup (.cons (.g 21) .nil)) (.v 74)) (.v 81)) (.tup (.cons (.call 49 (.cons (.att (.v 51) 3) (.cons (.bin .add (.v 14) (.k (.int 1))) .nil))) .nil)))) .nil
noncomputable def b47_6:XT:=.seq (.asg 74 (.tup (.cons (.att (.v 51) 0) (.cons (.att (.v 51) 1) (.cons (.att (.v 51) 2) (.cons (.att (.v 51) 17) (.cons (.ife (.att (.v 51) 19) (.k (.int 1)) (.k (.int 0))) .nil))))))) b47_5
noncomputable def b47_7:XT:=.seq (.asg 81 (.tup (.cons (.att (.att (.v 51) 18) 16) (.cons (.blt 6 (.cons (.att (.att (.v 51) 18) 12) .nil)) (.cons (.blt 6 (.cons (.att (.att (.v 51) 18) 14) .nil)) .nil))))) b47_6
noncomputable def b47_8:XT:=.seq .bad .nil
noncomputable def b47_9:XT:=.seq (.ife (.cmp .eq (.v 37) (.g 21)) b47_7 .nil) b47_8
noncomputable def b47_10:XT:=.seq (.ife (.cmp .eq (.v 37) (.g 20)) b47_4 .nil) b47_9
noncomputable def b47_11:XT:=.seq (.ife (.cmp .eq (.v 37) (.g 18)) b47_3 .nil) b47_10
noncomputable def b47_12:XT:=.seq (.ife (.cmp .eq (.v 37) (.g 17)) b47_2 .nil) b47_11
noncomputable def b47_13:XT:=.seq (.ife (.cmp .eq (.v 37) (.g 15)) b47_1 .nil) b47_12
noncomputable def b47:XT:=.seq (.asg 37 (.att (.v 51) 8)) b47_13
noncomputable def b48_1:XT:=.seq .bad .nil
noncomputable def b48_2:XT:=.seq .bad .nil
noncomputable def b48_3:XT:=.seq (.ret (.bin .add (.bin .add (.tup (.cons (.v 37) .nil)) (.v 74)) (.tup (.cons (.call 49 (.cons (.att (.v 51) 3) (.cons (.bin .add (.v 14) (.k (.int 1))) .nil))) .nil)))) .nil
noncomputable def b48_4:XT:=.seq (.asg 74 (.tup (.cons (.att (.v 51) 0) (.cons (.att (.v 51) 1) (.cons (.att (.v 51) 2) (.cons (.att (.v 51) 4) (.cons (.att (.v 51) 5) (.cons (.att (.v 51) 6) (.cons (.att (.v 51) 7) .nil))))))))) b48_3
noncomputable def b48_5:XT:=.seq (.ret (.bin .add (.tup (.cons (.g 11) .nil)) (.blt 6 (.cons (.comp [(".0",.local),(nmG 73,.local)] [] [73] 0 (.tup (.cons (.att (.v 51) 0) (.cons (.att (.v 51) 1) (.cons (.att (.v 51) 2) .nil)))) .nil (.ife (.cmp .isn (.v 73) (.k .none)) (.tup .nil) (.tup (.cons (.v 73) .nil)))) .nil)))) .nil
noncomputable def b48_6:XT:=.seq (.ret (.tup (.cons (.g 12) (.cons (.att (.v 51) 0) (.cons (.att (.v 51) 10) .nil))))) .nil
noncomputable def b48_7:XT:=.seq (.ret (.tup (.cons (.g 13) (.cons (.meth 28 1 (.att (.v 51) 9) .nil) (.cons (.att (.v 51) 10) (.cons (.ife (.cmp .isn (.att (.v 51) 11) (.k .none)) (.tup .nil) (.call 48 (.cons (.att (.v 51) 11) (.cons (.bin .add (.v 14) (.k (.int 1))) .nil)))) .nil)))))) .nil
noncomputable def b48_8:XT:=.seq (.ret (.tup (.cons (.g 14) (.cons (.att (.v 51) 20) .nil)))) .nil
noncomputable def b48_9:XT:=.seq .bad .nil
noncomputable def b48_10:XT:=.seq .bad .nil
noncomputable def b48_11:XT:=.seq (.ret (.fz (.call 47 (.cons (.v 51) (.cons (.v 14) .nil))))) .nil
noncomputable def b48_12:XT:=.seq (.ife (.cmp .eq (.v 37) (.g 19)) b48_10 .nil) b48_11
noncomputable def b48_13:XT:=.seq (.ife (.cmp .eq (.v 37) (.g 16)) b48_9 .nil) b48_12
noncomputable def b48_14:XT:=.seq (.ife (.cmp .eq (.v 37) (.g 14)) b48_8 .nil) b48_13
noncomputable def b48_15:XT:=.seq (.ife (.cmp .eq (.v 37) (.g 13)) b48_7 .nil) b48_14
noncomputable def b48_16:XT:=.seq (.ife (.cmp .eq (.v 37) (.g 12)) b48_6 .nil) b48_15
noncomputable def b48_17:XT:=.seq (.ife (.cmp .eq (.v 37) (.g 11)) b48_5 .nil) b48_16
noncomputable def b48_18:XT:=.seq (.ife (.boo false (.cons (.cmp .eq (.v 37) (.g 9)) (.cons (.cmp .eq (.v 37) (.g 10)) .nil))) b48_4 .nil) b48_17
noncomputable def b48_19:XT:=.seq (.ife (.cmp .eq (.v 37) (.g 8)) b48_2 .nil) b48_18
noncomputable def b48_20:XT:=.seq (.ife (.cmp .eq (.v 37) (.g 7)) b48_1 .nil) b48_19
noncomputable def b48_21:XT:=.seq (.asg 37 (.att (.v 51) 8)) b48_20
noncomputable def b48:XT:=.seq (.ex (.call 45 (.cons (.v 14) .nil))) b48_21
noncomputable def b49:XT:=.seq (.ret (.blt 6 (.cons (.comp [(".0",.local),(nmG 51,.local),("described",.globalImplicit),(nmG 14,.free)] [14] [51] 0 (.v 34) .nil (.call 48 (.cons (.v 51) (.cons (.v 14) .nil)))) .nil))) .nil
noncomputable def b50_1:XT:=.seq .bad .nil
noncomputable def b50_2:XT:=.seq (.ret (.att (.v 51) 0)) .nil
noncomputable def b50_3:XT:=.seq (.ret (.ife (.cmp .isn (.att (.v 51) 0) (.k .none)) (.k (.int 0)) (.att (.v 51) 0))) .nil
noncomputable def b50_4:XT:=.seq (.ret (.att (.att (.v 51) 9) 0)) .nil
noncomputable def b50_5:XT:=.seq .bad .nil
noncomputable def b50_6:XT:=.seq (.ret (.k (.int 0))) .nil
noncomputable def b50_7:XT:=.seq (.ife (.cmp .eq (.v 37) (.g 15)) b50_5 .nil) b50_6
noncomputable def b50_8:XT:=.seq (.ife (.cmp .eq (.v 37) (.g 13)) b50_4 .nil) b50_7
noncomputable def b50_9:XT:=.seq (.ife (.cmp .eq (.v 37) (.g 11)) b50_3 .nil) b50_8
noncomputable def b50_10:XT:=.seq (.ife (.boo false (.cons (.cmp .eq (.v 37) (.g 9)) (.cons (.cmp .eq (.v 37) (.g 10)) (.cons (.cmp .eq (.v 37) (.g 12)) (.cons (.cmp .eq (.v 37) (.g 19)) (.cons (.cmp .eq (.v 37) (.g 21)) .nil)))))) b50_2 .nil) b50_9
noncomputable def b50_11:XT:=.seq (.ife (.boo false (.cons (.cmp .eq (.v 37) (.g 7)) (.cons (.cmp .eq (.v 37) (.g 8)) .nil))) b50_1 .nil) b50_10
noncomputable def b50:XT:=.seq (.asg 37 (.att (.v 51) 8)) b50_11
noncomputable def b51_1:XT:=.seq .bad .nil
noncomputable def b51_2:XT:=.seq (.ret (.att (.v 51) 1)) .nil
noncomputable def b51_3:XT:=.seq (.ret (.ife (.cmp .isn (.att (.v 51) 1) (.k .none)) (.k (.int 0)) (.att (.v 51) 1))) .nil
noncomputable def b51_4:XT:=.seq (.ret (.fz (.call 51 (.cons (.att (.v 51) 11) .nil)))) .nil
noncomputable def b51_5:XT:=.seq .bad .nil
noncomputable def b51_6:XT:=.seq (.ret (.k (.int 0))) .nil
noncomputable def b51_7:XT:=.seq (.ife (.cmp .eq (.v 37) (.g 15)) b51_5 .nil) b51_6
noncomputable def b51_8:XT:=.seq (.ife (.boo true (.cons (.cmp .eq (.v 37) (.g 13)) (.cons (.cmp .nin (.att (.v 51) 11) (.k .none)) .nil))) b51_4 .nil) b51_7
noncomputable def b51_9:XT:=.seq (.ife (.cmp .eq (.v 37) (.g 11)) b51_3 .nil) b51_8
noncomputable def b51_10:XT:=.seq (.ife (.boo false (.cons (.cmp .eq (.v 37) (.g 9)) (.cons (.cmp .eq (.v 37) (.g 10)) (.cons (.cmp .eq (.v 37) (.g 21)) .nil)))) b51_2 .nil) b51_9
noncomputable def b51_11:XT:=.seq (.ife (.boo false (.cons (.cmp .eq (.v 37) (.g 7)) (.cons (.cmp .eq (.v 37) (.g 8)) .nil))) b51_1 .nil) b51_10
noncomputable def b51:XT:=.seq (.asg 37 (.att (.v 51) 8)) b51_11
noncomputable def b52_1:XT:=.seq .bad .nil
noncomputable def b52_2:XT:=.seq (.ret (.att (.v 51) 2)) .nil
noncomputable def b52_3:XT:=.seq (.ret (.ife (.cmp .isn (.att (.v 51) 2) (.k .none)) (.k (.int 0)) (.att (.v 51) 2))) .nil
noncomputable def b52_4:XT:=.seq (.ret (.fz (.call 52 (.cons (.att (.v 51) 11) .nil)))) .nil
noncomputable def b52_5:XT:=.seq .bad .nil
noncomputable def b52_6:XT:=.seq (.ret (.k (.int 0))) .nil
noncomputable def b52_7:XT:=.seq (.ife (.cmp .eq (.v 37) (.g 15)) b52_5 .nil) b52_6
noncomputable def b52_8:XT:=.seq (.ife (.boo true (.cons (.cmp .eq (.v 37) (.g 13)) (.cons (.cmp .nin (.att (.v 51) 11) (.k .none)) .nil))) b52_4 .nil) b52_7
noncomputable def b52_9:XT:=.seq (.ife (.cmp .eq (.v 37) (.g 11)) b52_3 .nil) b52_8
noncomputable def b52_10:XT:=.seq (.ife (.boo false (.cons (.cmp .eq (.v 37) (.g 9)) (.cons (.cmp .eq (.v 37) (.g 10)) (.cons (.cmp .eq (.v 37) (.g 21)) .nil)))) b52_2 .nil) b52_9
noncomputable def b52_11:XT:=.seq (.ife (.boo false (.cons (.cmp .eq (.v 37) (.g 7)) (.cons (.cmp .eq (.v 37) (.g 8)) .nil))) b52_1 .nil) b52_10
noncomputable def b52:XT:=.seq (.asg 37 (.att (.v 51) 8)) b52_11
noncomputable def b53_1:XT:=.seq (.ret (.bin .sub (.att (.v 51) 1) (.att (.v 51) 4))) .nil
noncomputable def b53_2:XT:=.seq (.ret (.fz (.call 51 (.cons (.v 51) .nil)))) .nil
noncomputable def b53:XT:=.seq (.ife (.boo false (.cons (.cmp .eq (.att (.v 51) 8) (.g 9)) (.cons (.cmp .eq (.att (.v 51) 8) (.g 10)) .nil))) b53_1 .nil) b53_2
noncomputable def b54_1:XT:=.seq (.ret (.bin .add (.att (.v 51) 2) (.att (.v 51) 4))) .nil
noncomputable def b54_2:XT:=.seq (.ret (.fz (.call 52 (.cons (.v 51) .nil)))) .nil
noncomputable def b54:XT:=.seq (.ife (.boo false (.cons (.cmp .eq (.att (.v 51) 8) (.g 9)) (.cons (.cmp .eq (.att (.v 51) 8) (.g 10)) .nil))) b54_1 .nil) b54_2
noncomputable def b58_1:XT:=.seq (.ex (.meth 30 1 (.v 85) (.cons (.att (.v 51) 9) .nil))) .nil
noncomputable def b58_2:XT:=.seq (.ex (.meth 30 2 (.v 85) (.cons (.fz (.call 50 (.cons (.v 51) .nil))) .nil))) .nil
noncomputable def b58_3:XT:=.seq (.asg 14 (.blt 1 (.cons (.v 14) (.cons (.call 54 (.cons (.v 51) .nil)) .nil)))) .nil
noncomputable def b58_4:XT:=.seq (.asg 31 (.blt 1 (.cons (.v 31) (.cons (.call 53 (.cons (.v 51) .nil)) .nil)))) b58_3
noncomputable def b58_5:XT:=.seq (.ife (.cmp .eq (.att (.v 51) 8) (.g 13)) b58_1 b58_2) b58_4
noncomputable def b58_6:XT:=.seq (.ret (.tup (.cons (.v 85) (.cons (.v 31) (.cons (.v 14) .nil))))) .nil
noncomputable def b58_7:XT:=.seq (.loop [51] 0 (.v 34) b58_5) b58_6
noncomputable def b58_8:XT:=.seq (.unp [.n 31,.n 14] (.tup (.cons (.k (.int 0)) (.cons (.k (.int 0)) .nil)))) b58_7
noncomputable def b58:XT:=.seq (.asg 85 (.call 30 .nil)) b58_8
noncomputable def b59_1:XT:=.seq (.ret (.bin .add (.att (.v 51) 0) (.att (.v 51) 4))) .nil
noncomputable def b59_2:XT:=.seq (.ret (.fz (.ife (.cmp .isn (.att (.v 51) 11) (.k .none)) (.k (.int 0)) (.call 50 (.cons (.att (.v 51) 11) .nil))))) .nil
noncomputable def b59_3:XT:=.seq (.ret (.fz (.ife (.cmp .eq (.att (.v 51) 8) (.g 12)) (.k (.int 0)) (.call 50 (.cons (.v 51) .nil))))) .nil
noncomputable def b59_4:XT:=.seq (.ife (.cmp .eq (.att (.v 51) 8) (.g 13)) b59_2 .nil) b59_3
noncomputable def b59:XT:=.seq (.ife (.boo false (.cons (.cmp .eq (.att (.v 51) 8) (.g 9)) (.cons (.cmp .eq (.att (.v 51) 8) (.g 10)) .nil))) b59_1 .nil) b59_4
noncomputable def b60_1:XT:=.seq .bad .nil
noncomputable def b60_2:XT:=.seq (.ife (.boo false (.cons (.cmp .eq (.att (.v 51) 8) (.g 7)) (.cons (.cmp .eq (.att (.v 51) 8) (.g 8)) (.cons (.cmp .eq (.att (.v 51) 8) (.g 15)) (.cons (.cmp .eq (.att (.v 51) 8) (.g 19)) .nil))))) b60_1 .nil) .nil
noncomputable def b60:XT:=.seq (.loop [51] 0 (.v 34) b60_2) .nil
noncomputable def b61_1:XT:=.seq (.asg 14 (.k (.int 0))) .nil
noncomputable def b61_2:XT:=.seq (.ex (.meth 30 1 (.v 85) (.cons (.att (.v 51) 9) .nil))) b61_1
noncomputable def b61_3:XT:=.seq (.ex (.meth 30 2 (.v 85) (.cons (.v 14) .nil))) b61_2
noncomputable def b61_4:XT:=.seq (.asg 14 (.k (.int 0))) .nil
noncomputable def b61_5:XT:=.seq (.ex (.meth 30 2 (.v 85) (.cons (.bin .add (.v 14) (.att (.v 51) 0)) .nil))) b61_4
noncomputable def b61_6:XT:=.seq (.asg 14 (.call 52 (.cons (.v 51) .nil))) .nil
noncomputable def b61_7:XT:=.seq (.ex (.meth 30 2 (.v 85) (.cons (.bin .add (.v 14) (.call 51 (.cons (.v 51) .nil))) .nil))) b61_6
noncomputable def b61_8:XT:=.seq (.ife (.boo false (.cons (.cmp .eq (.att (.v 51) 8) (.g 9)) (.cons (.cmp .eq (.att (.v 51) 8) (.g 10)) (.cons (.cmp .eq (.att (.v 51) 8) (.g 11)) (.cons (.cmp .eq (.att (.v 51) 8) (.g 21)) .nil))))) b61_7 .nil) .nil
noncomputable def b61_9:XT:=.seq (.ife (.cmp .eq (.att (.v 51) 8) (.g 12)) b61_5 b61_8) .nil
noncomputable def b61_10:XT:=.seq (.ife (.cmp .eq (.att (.v 51) 8) (.g 13)) b61_3 b61_9) .nil
noncomputable def b61_11:XT:=.seq (.asg 97 (.blt 1 (.cons (.v 97) (.cons (.call 59 (.cons (.v 51) .nil)) .nil)))) b61_10
noncomputable def b61_12:XT:=.seq (.ret (.tupo (.cons (.v 85) (.cons (.v 97) (.cons (.v 14) .nil))))) .nil
noncomputable def b61_13:XT:=.seq (.loop [51] 0 (.v 34) b61_11) b61_12
noncomputable def b61_14:XT:=.seq (.unp [.n 97,.n 14] (.tup (.cons (.k (.int 0)) (.cons (.k (.int 0)) .nil)))) b61_13
noncomputable def b61_15:XT:=.seq (.asg 85 (.call 30 .nil)) b61_14
noncomputable def b61:XT:=.seq (.ex (.call 60 (.cons (.fz (.v 34)) .nil))) b61_15
noncomputable def b62:XT:=.seq (.ret (.ife (.cmp .gt (.v 16) (.k (.int 0))) (.tup (.cons (.v 89) (.cons (.v 16) .nil))) (.tup (.cons (.neg (.v 89)) (.cons (.neg (.v 16)) .nil))))) .nil
noncomputable def b63_1:XT:=.seq (.ret (.tup (.cons (.g 22) (.cons (.g 3) (.cons (.tup (.cons (.k (.int 0)) (.cons (.k (.int 1)) .nil))) (.cons (.tup (.cons (.g 35) (.cons (.k (.int 0)) .nil))) .nil)))))) .nil
noncomputable def b63_2:XT:=.seq (.asg 65 (.tup (.cons (.ife (.cmp .gt (.v 21) (.k (.int 0))) (.g 36) (.g 37)) (.cons (.call 25 (.cons (.blt 3 (.cons (.v 21) .nil)) (.cons (.v 84) .nil))) .nil)))) .nil
noncomputable def b63_3:XT:=.seq (.asg 65 (.tup (.cons (.g 38) (.cons (.bin .sub (.neg (.v 21)) (.v 84)) .nil)))) .nil
noncomputable def b63_4:XT:=.seq (.ret (.tup (.cons (.g 22) (.cons (.g 3) (.cons (.tup (.cons (.k (.int 0)) (.cons (.k (.int 1)) .nil))) (.cons (.v 65) .nil)))))) .nil
noncomputable def b63_5:XT:=.seq (.ret (.tup (.cons (.g 24) (.cons (.v 54) (.cons (.tup (.cons (.k (.int 1)) (.cons (.k (.int 1)) .nil))) (.cons (.v 65) .nil)))))) .nil
noncomputable def b63_6:XT:=.seq (.ret (.tup (.cons (.ife (.cmp .gt (.v 21) (.k (.int 0))) (.g 23) (.g 24)) (.cons (.v 54) (.cons (.call 62 (.cons (.blt 3 (.cons (.v 21) .nil)) (.cons (.v 84) .nil))) (.cons (.v 65) .nil)))))) .nil
noncomputable def b63_7:XT:=.seq (.ife (.cmp .eq (.sub (.v 65) (.k (.int 0))) (.g 38)) b63_5 .nil) b63_6
noncomputable def b63_8:XT:=.seq (.ife (.cmp .eq (.v 84) (.k (.int 0))) b63_4 .nil) b63_7
noncomputable def b63_9:XT:=.seq (.ife (.boo true (.cons (.cmp .eq (.v 54) (.g 3)) (.cons (.cmp .lt (.v 21) (.k (.int 0))) (.cons (.cmp .lt (.v 84) (.neg (.v 21))) .nil)))) b63_3 .nil) b63_8
noncomputable def b63_10:XT:=.seq (.ife (.cmp .eq (.v 54) (.g 3)) b63_2 .nil) b63_9
noncomputable def b63_11:XT:=.seq (.asg 65 (.tup (.cons (.g 35) (.cons (.k (.int 0)) .nil)))) b63_10
noncomputable def b63_12:XT:=.seq (.asg 84 (.ife (.cmp .gt (.v 21) (.k (.int 0))) (.sub (.att (.v 85) 12) (.v 54)) (.sub (.att (.v 85) 14) (.v 54)))) b63_11
noncomputable def b63_13:XT:=.seq (.asg 54 (.ife (.cmp .gt (.v 21) (.k (.int 0))) (.meth 30 3 (.v 85) .nil) (.meth 30 4 (.v 85) .nil))) b63_12
noncomputable def b63:XT:=.seq (.ife (.cmp .eq (.v 21) (.k (.int 0))) b63_1 .nil) b63_13
noncomputable def b64_1:XT:=.seq (.ret (.att (.v 29) 12)) .nil
noncomputable def b64_2:XT:=.seq (.ret (.neg (.att (.v 29) 14))) .nil
noncomputable def b64_3:XT:=.seq (.ret (.k (.int 0))) .nil
noncomputable def b64_4:XT:=.seq (.ife (.boo true (.cons (.cmp .eq (.att (.v 3) 5) (.g 24)) (.cons (.cmp .eq (.att (.v 29) 15) (.att (.v 3) 6)) .nil))) b64_2 .nil) b64_3
noncomputable def b64:XT:=.seq (.ife (.boo true (.cons (.cmp .eq (.att (.v 3) 5) (.g 23)) (.cons (.cmp .eq (.att (.v 29) 13) (.att (.v 3) 6)) .nil))) b64_1 .nil) b64_4
noncomputable def b65:XT:=.seq (.ret (.fz (.call 18 (.cons (.bin .mul (.sub (.att (.v 3) 7) (.k (.int 0))) (.v 24)) (.cons (.sub (.att (.v 3) 7) (.k (.int 1))) .nil))))) .nil
noncomputable def b66_1:XT:=.seq (.ret (.fz (.call 50 (.cons (.v 51) .nil)))) .nil
noncomputable def b66_2:XT:=.seq (.ret (.ife (.cmp .eq (.att (.v 51) 8) (.g 12)) (.att (.v 51) 0) (.bin .add (.call 51 (.cons (.v 51) .nil)) (.call 52 (.cons (.v 51) .nil))))) .nil
noncomputable def b66:XT:=.seq (.ife (.cmp .eq (.att (.v 3) 8) (.g 9)) b66_1 .nil) b66_2
noncomputable def b67_1:XT:=.seq (.ex (.call 60 (.cons (.att (.v 3) 3) .nil))) .nil
noncomputable def b67_2:XT:=.seq (.asg 24 (.bin .add (.v 24) (.call 64 (.cons (.v 3) (.cons (.att (.v 51) 9) .nil))))) .nil
noncomputable def b67_3:XT:=.seq (.asg 23 (.bin .add (.v 23) (.att (.att (.v 51) 9) 0))) b67_2
noncomputable def b67_4:XT:=.seq (.asg 23 (.bin .add (.v 23) (.call 66 (.cons (.v 3) (.cons (.v 51) .nil))))) .nil
noncomputable def b67_5:XT:=.seq (.app (.v 27) (.bin .add (.v 23) (.call 65 (.cons (.v 3) (.cons (.v 24) .nil))))) .nil
noncomputable def b67_6:XT:=.seq (.ife (.cmp .eq (.att (.v 51) 8) (.g 13)) b67_3 b67_4) b67_5
noncomputable def b67_7:XT:=.seq (.ret (.fz (.v 27))) .nil
noncomputable def b67_8:XT:=.seq (.loop [51] 0 (.att (.v 3) 3) b67_6) b67_7
noncomputable def b67_9:XT:=.seq (.unp [.n 23,.n 24] (.tup (.cons (.k (.int 0)) (.cons (.k (.int 0)) .nil)))) b67_8
noncomputable def b67_10:XT:=.seq (.asg 27 (.lst (.cons (.k (.int 0)) .nil))) b67_9
noncomputable def b67:XT:=.seq (.ife (.cmp .eq (.att (.v 3) 8) (.g 10)) b67_1 .nil) b67_10
noncomputable def b69_1:XT:=.seq .bad .nil
noncomputable def b69_2:XT:=.seq (.ret (.ife (.cmp .eq (.v 47) (.g 33)) (.v 0) (.bin .add (.v 60) (.v 0)))) .nil
noncomputable def b69_3:XT:=.seq (.ex (.call 17 (.cons (.v 0) .nil))) b69_2
noncomputable def b69:XT:=.seq (.ife (.boo true (.cons (.cmp .ne (.v 47) (.g 33)) (.cons (.cmp .ne (.v 47) (.g 34)) .nil))) b69_1 .nil) b69_3
noncomputable def b70_1:XT:=.seq (.ret (.ife (.cmp .ne (.att (.v 3) 3) (.lst .nil)) (.v 65) (.tup (.cons (.g 35) (.cons (.k (.int 0)) .nil))))) .nil
noncomputable def b70:XT:=.seq (.unp [.a 3 5,.a 3 6,.a 3 7,.n 65] (.call 63 (.cons (.fz (.v 85)) (.cons (.v 21) .nil)))) b70_1
noncomputable def b71_1:XT:=.seq (.ext (.v 59) (.v 58)) .nil
noncomputable def b71_2:XT:=.seq (.ret (.tup (.cons (.v 3) (.cons (.call 70 (.cons (.v 3) (.cons (.fz (.v 85)) (.cons (.bin .sub (.v 97) (.att (.v 85) 16)) .nil)))) .nil)))) .nil
noncomputable def b71_3:XT:=.seq (.ife (.cmp .nin (.v 59) (.k .none)) b71_1 .nil) b71_2
noncomputable def b71_4:XT:=.seq (.asg 3 (.call 39 (.cons (.g 9) (.cons (.v 97) (.cons (.v 31) (.cons (.v 14) (.cons (.v 36) .nil))))))) b71_3
noncomputable def b71_5:XT:=.seq (.asg 97 (.call 69 (.cons (.att (.v 85) 16) (.cons (.v 47) (.cons (.v 0) .nil))))) b71_4
noncomputable def b71_6:XT:=.seq (.unp [.n 85,.n 31,.n 14] (.call 58 (.cons (.v 36) .nil))) b71_5
noncomputable def b71:XT:=.seq (.unp [.n 36,.n 58] (.ife (.cmp .isn (.v 59) (.k .none)) (.tup (.cons (.v 34) (.cons (.lst .nil) .nil))) (.call 68 (.cons (.fz (.v 34)) .nil)))) b71_6
noncomputable def b72_1:XT:=.seq (.asg 14 (.v 50)) .nil
noncomputable def b72_2:XT:=.seq (.ex (.meth 30 2 (.v 85) (.cons (.bin .sub (.v 14) (.v 50)) .nil))) b72_1
noncomputable def b72_3:XT:=.seq (.ret (.tup (.cons (.v 3) (.cons (.call 70 (.cons (.v 3) (.cons (.fz (.v 85)) (.cons (.bin .sub (.v 31) (.att (.v 85) 16)) .nil)))) .nil)))) .nil
noncomputable def b72_4:XT:=.seq (.asg 3 (.call 39 (.cons (.g 10) (.cons (.v 97) (.cons (.v 31) (.cons (.v 14) (.cons (.fz (.v 34)) .nil))))))) b72_3
noncomputable def b72_5:XT:=.seq (.asg 31 (.call 69 (.cons (.att (.v 85) 16) (.cons (.v 47) (.cons (.v 0) .nil))))) b72_4
noncomputable def b72_6:XT:=.seq (.ife (.cmp .gt (.v 14) (.v 50)) b72_2 .nil) b72_5
noncomputable def b72_7:XT:=.seq (.unp [.n 85,.n 97,.n 14] (.call 61 (.cons (.fz (.v 34)) .nil))) b72_6
noncomputable def b72:XT:=.seq (.ex (.call 17 (.cons (.v 50) .nil))) b72_7
noncomputable def b75:XT:=.seq (.ret (.ife (.att (.v 8) 19) (.att (.v 8) 1) (.att (.v 8) 0))) .nil
noncomputable def b76_1:XT:=.seq .bad .nil
noncomputable def b76_2:XT:=.seq .bad .nil
noncomputable def b76_3:XT:=.seq (.ife (.not (.isi 3 (.v 75))) b76_2 .nil) .nil
noncomputable def b76_4:XT:=.seq (.loop [75] 0 (.v 76) b76_3) .nil
noncomputable def b76:XT:=.seq (.ife (.boo false (.cons (.not (.call 14 (.cons (.v 11) (.cons (.k (.int 1)) (.cons (.g 1) .nil))))) (.cons (.cmp .ne (.blt 0 (.cons (.v 76) .nil)) (.bin .add (.v 11) (.k (.int 1)))) .nil))) b76_1 .nil) b76_4
noncomputable def b77_1:XT:=.seq .bad .nil
noncomputable def b77_2:XT:=.seq (.asg 10 (.bin .add (.v 10) (.att (.v 8) 17))) .nil
noncomputable def b77_3:XT:=.seq (.app (.v 27) (.tup (.cons (.v 10) (.cons (.v 8) .nil)))) b77_2
noncomputable def b77_4:XT:=.seq (.ife (.cmp .ne (.att (.v 8) 8) (.g 21)) b77_1 .nil) b77_3
noncomputable def b77_5:XT:=.seq .bad .nil
noncomputable def b77_6:XT:=.seq (.ret (.fz (.v 27))) .nil
noncomputable def b77_7:XT:=.seq (.ife (.cmp .gt (.v 10) (.v 11)) b77_5 .nil) b77_6
noncomputable def b77_8:XT:=.seq (.loop [8] 0 (.v 66) b77_4) b77_7
noncomputable def b77:XT:=.seq (.unp [.n 27,.n 10] (.tupo (.cons (.lst .nil) (.cons (.k (.int 0)) .nil)))) b77_8
noncomputable def b78_1:XT:=.seq (.app (.sub (.v 20) (.bin .sub (.bin .add (.v 22) (.att (.v 8) 17)) (.k (.int 1)))) (.tup (.cons (.v 22) (.cons (.call 75 (.cons (.v 8) .nil)) .nil)))) .nil
noncomputable def b78_2:XT:=.seq (.loop [22,8] 0 (.call 77 (.cons (.fz (.v 66)) (.cons (.v 11) .nil))) b78_1) .nil
noncomputable def b78_3:XT:=.seq (.ife (.isi 2 (.v 66)) b78_2 .nil) .nil
noncomputable def b78_4:XT:=.seq (.app (.v 2) (.bin .add (.sub (.v 2) (.v 10)) (.ife (.cmp .isn (.v 97) (.k .none)) (.k (.int 0)) (.bin .add (.v 97) (.att (.sub (.v 76) (.bin .add (.v 10) (.k (.int 1)))) 0))))) .nil
noncomputable def b78_5:XT:=.seq (.app (.v 27) (.v 97)) b78_4
noncomputable def b78_6:XT:=.seq (.asg 97 (.ife (.cmp .ne (.v 93) (.lst .nil)) (.call 17 (.cons (.blt 1 (.cons (.v 93) .nil)) .nil)) (.k .none))) b78_5
noncomputable def b78_7:XT:=.seq (.asg 93 (.comp [(".0",.local),(nmG 22,.local),(nmG 73,.local),(nmG 2,.free),(nmG 10,.free)] [2,10] [22,73] 0 (.sub (.v 20) (.v 10)) .nil (.bin .sub (.v 73) (.bin .sub (.sub (.v 2) (.v 10)) (.sub (.v 2) (.v 22)))))) b78_6
noncomputable def b78_8:XT:=.seq (.ret (.fz (.v 27))) .nil
noncomputable def b78_9:XT:=.seq (.loop [10] 1 (.cons (.v 11) .nil) b78_7) b78_8
noncomputable def b78_10:XT:=.seq (.asg 27 (.lst .nil)) b78_9
noncomputable def b78_11:XT:=.seq (.asg 2 (.lst (.cons (.k (.int 0)) .nil))) b78_10
noncomputable def b78_12:XT:=.seq (.loop [66] 0 (.v 67) b78_3) b78_11
noncomputable def b78_13:XT:=.seq (.asg 20 (.rows [(".0",.local),(nmG 10,.local)] 10 (.v 11))) b78_12
noncomputable def b78:XT:=.seq (.ex (.call 76 (.cons (.v 11) (.cons (.fz (.v 76)) .nil)))) b78_13
noncomputable def b79_1:XT:=.seq (.ret (.fz (.ife (.v 33) (.call 39 (.cons (.g 10) (.cons (.k (.int 0)) (.cons (.v 73) (.cons (.k (.int 0)) (.cons (.fz (.lst .nil)) .nil)))))) (.call 39 (.cons (.g 9) (.cons (.v 73) (.cons (.k (.int 0)) (.cons (.k (.int 0)) (.cons (.fz (.lst .nil)) .nil))))))))) .nil
noncomputable def b79:XT:=.seq (.asg 73 (.ife (.cmp .isn (.v 97) (.k .none)) (.k (.int 0)) (.v 97))) b79_1
noncomputable def b80:XT:=.seq (.ret (.fz (.call 42 (.cons (.fz (.ife (.cmp .isn (.sub (.v 74) (.v 10)) (.k .none)) (.call 28 .nil) (.sub (.v 76) (.bin .add (.v 10) (.k (.int 1)))))) (.cons (.g 39) .nil))))) .nil
noncomputable def b81_1:XT:=.seq (.app (.v 34) (.call 80 (.cons (.fz (.v 74)) (.cons (.fz (.v 76)) (.cons (.v 10) .nil))))) .nil
noncomputable def b81_2:XT:=.seq (.app (.v 34) (.call 79 (.cons (.sub (.v 74) (.v 10)) (.cons (.v 33) .nil)))) b81_1
noncomputable def b81_3:XT:=.seq (.ret (.fz (.ife (.v 33) (.call 72 (.cons (.fz (.v 34)) (.cons (.v 47) (.cons (.v 0) .nil)))) (.call 71 (.cons (.fz (.v 34)) (.cons (.v 47) (.cons (.v 0) .nil))))))) .nil
noncomputable def b81_4:XT:=.seq (.loop [10] 1 (.cons (.blt 0 (.cons (.v 74) .nil)) .nil) b81_2) b81_3
noncomputable def b81_5:XT:=.seq (.asg 34 (.lst (.cons (.call 42 (.cons (.sub (.v 76) (.k (.int 0))) (.cons (.g 39) .nil))) .nil))) b81_4
noncomputable def b81:XT:=.seq (.ex (.call 76 (.cons (.blt 0 (.cons (.v 74) .nil)) (.cons (.fz (.v 76)) .nil)))) b81_5
noncomputable def b82_1:XT:=.seq (.asg 66 (.call 39 (.cons (.g 10) (.cons (.blt 1 (.cons (.bin .add (.lst (.cons (.k (.int 0)) .nil)) (.comp [(".0",.local),(nmG 10,.local),(nmG 8,.local)] [] [10,8] 0 (.v 9) .nil (.att (.v 8) 0))) .nil)) (.cons (.att (.v 48) 1) (.cons (.att (.v 48) 2) (.cons (.lst .nil) .nil))))))) .nil
noncomputable def b82_2:XT:=.seq (.asg 66 (.call 39 (.cons (.g 9) (.cons (.att (.v 48) 0) (.cons (.v 31) (.cons (.v 14) (.cons (.lst .nil) .nil))))))) .nil
noncomputable def b82_3:XT:=.seq (.asg 14 (.blt 1 (.cons (.bin .add (.lst (.cons (.k (.int 0)) .nil)) (.comp [(".0",.local),(nmG 10,.local),(nmG 8,.local)] [] [10,8] 0 (.v 9) .nil (.att (.v 8) 2))) .nil))) b82_2
noncomputable def b82_4:XT:=.seq (.asg 31 (.blt 1 (.cons (.bin .add (.lst (.cons (.k (.int 0)) .nil)) (.comp [(".0",.local),(nmG 10,.local),(nmG 8,.local)] [] [10,8] 0 (.v 9) .nil (.att (.v 8) 1))) .nil))) b82_3
noncomputable def b82_5:XT:=.seq (.ret (.v 66)) .nil
noncomputable def b82_6:XT:=.seq (.setA (.v 66) 7 (.att (.v 48) 7)) b82_5
noncomputable def b82_7:XT:=.seq (.setA (.v 66) 6 (.att (.v 48) 6)) b82_6
noncomputable def b82_8:XT:=.seq (.setA (.v 66) 5 (.att (.v 48) 5)) b82_7
noncomputable def b82:XT:=.seq (.ife (.v 33) b82_1 b82_4) b82_8
noncomputable def b83_1:XT:=.seq (.asg 3 (.call 39 (.cons (.g 10) (.cons (.att (.v 66) 0) (.cons (.v 60) (.cons (.att (.v 8) 2) (.cons (.att (.v 8) 3) .nil))))))) .nil
noncomputable def b83_2:XT:=.seq (.asg 3 (.call 39 (.cons (.g 9) (.cons (.v 60) (.cons (.att (.v 66) 1) (.cons (.att (.v 66) 2) (.cons (.att (.v 8) 3) .nil))))))) .nil
noncomputable def b83_3:XT:=.seq (.ret (.fz (.v 3))) .nil
noncomputable def b83_4:XT:=.seq (.unp [.a 3 5,.a 3 6,.a 3 7,.n 65] (.call 63 (.cons (.att (.v 8) 18) (.cons (.bin .sub (.v 73) (.call 75 (.cons (.v 8) .nil))) .nil)))) b83_3
noncomputable def b83_5:XT:=.seq (.ife (.att (.v 8) 19) b83_1 b83_2) b83_4
noncomputable def b83:XT:=.seq (.asg 60 (.ife (.cmp .isn (.v 97) (.k .none)) (.k (.int 0)) (.v 97))) b83_5
noncomputable def b84_1:XT:=.seq (.app (.att (.v 66) 3) (.call 80 (.cons (.v 74) (.cons (.v 76) (.cons (.v 56) .nil))))) .nil
noncomputable def b84_2:XT:=.seq (.app (.att (.v 66) 3) (.call 79 (.cons (.sub (.v 74) (.v 56)) (.cons (.v 33) .nil)))) b84_1
noncomputable def b84_3:XT:=.seq (.loop [56] 1 (.cons (.bin .add (.v 10) (.k (.int 1))) (.cons (.bin .add (.v 39) (.k (.int 1))) .nil)) b84_2) .nil
noncomputable def b84_4:XT:=.seq (.app (.att (.v 66) 3) (.call 80 (.cons (.v 74) (.cons (.v 76) (.cons (.v 10) .nil))))) b84_3
noncomputable def b84_5:XT:=.seq (.app (.att (.v 66) 3) (.call 83 (.cons (.v 8) (.cons (.sub (.v 74) (.v 10)) (.cons (.bin .sub (.sub (.v 19) (.bin .add (.bin .mul (.k (.int 2)) (.v 39)) (.k (.int 2)))) (.sub (.v 19) (.bin .add (.bin .mul (.k (.int 2)) (.v 10)) (.k (.int 1))))) (.cons (.v 66) .nil)))))) b84_4
noncomputable def b84_6:XT:=.seq (.asg 39 (.bin .sub (.bin .add (.v 10) (.att (.v 8) 17)) (.k (.int 1)))) b84_5
noncomputable def b84_7:XT:=.seq (.ret (.fz (.v 66))) .nil
noncomputable def b84_8:XT:=.seq (.loop [10,8] 0 (.v 9) b84_6) b84_7
noncomputable def b84_9:XT:=.seq (.app (.att (.v 66) 3) (.call 42 (.cons (.sub (.v 76) (.k (.int 0))) (.cons (.g 39) .nil)))) b84_8
noncomputable def b84:XT:=.seq (.asg 66 (.call 82 (.cons (.v 9) (.cons (.v 48) (.cons (.v 33) .nil))))) b84_9
noncomputable def b85_1:XT:=.seq (.ret (.fz (.call 40 (.cons (.v 97) (.cons (.v 31) (.cons (.ife (.cmp .isn (.att (.v 68) 2) (.k .none)) (.att (.v 48) 2) (.att (.v 68) 2)) .nil)))))) .nil
noncomputable def b85_2:XT:=.seq (.asg 31 (.ife (.cmp .isn (.att (.v 68) 1) (.k .none)) (.att (.v 48) 1) (.att (.v 68) 1))) b85_1
noncomputable def b85:XT:=.seq (.asg 97 (.ife (.cmp .isn (.att (.v 68) 0) (.k .none)) (.att (.v 48) 0) (.att (.v 68) 0))) b85_2
noncomputable def b86_1:XT:=.seq .bad .nil
noncomputable def b86_2:XT:=.seq (.ife (.cmp .ne (.att (.v 8) 19) (.v 33)) b86_1 .nil) .nil
noncomputable def b86_3:XT:=.seq (.app (.v 27) (.call 84 (.cons (.v 9) (.cons (.fz (.v 74)) (.cons (.fz (.v 76)) (.cons (.v 48) (.cons (.v 19) (.cons (.v 33) .nil)))))))) .nil
noncomputable def b86_4:XT:=.seq (.loop [10,8] 0 (.v 9) b86_2) b86_3
noncomputable def b86_5:XT:=.seq (.asg 9 (.call 77 (.cons (.fz (.v 66)) (.cons (.blt 0 (.cons (.v 74) .nil)) .nil)))) b86_4
noncomputable def b86_6:XT:=.seq (.app (.v 27) (.call 85 (.cons (.fz (.v 66)) (.cons (.v 48) .nil)))) .nil
noncomputable def b86_7:XT:=.seq (.app (.v 27) (.v 66)) .nil
noncomputable def b86_8:XT:=.seq (.ife (.cmp .eq (.att (.v 66) 8) (.g 11)) b86_6 b86_7) .nil
noncomputable def b86_9:XT:=.seq (.ife (.isi 2 (.v 66)) b86_5 b86_8) .nil
noncomputable def b86_10:XT:=.seq (.ret (.tup (.cons (.v 27) (.cons (.v 65) .nil)))) .nil
noncomputable def b86_11:XT:=.seq (.loop [66] 0 (.v 67) b86_9) b86_10
noncomputable def b86_12:XT:=.seq (.asg 27 (.lst .nil)) b86_11
noncomputable def b86_13:XT:=.seq (.asg 19 (.call 67 (.cons (.v 48) .nil))) b86_12
noncomputable def b86:XT:=.seq (.unp [.n 48,.n 65] (.call 81 (.cons (.fz (.v 74)) (.cons (.fz (.v 76)) (.cons (.v 47) (.cons (.v 0) (.cons (.v 33) .nil))))))) b86_13
noncomputable def b89_1:XT:=.seq (.ret (.v 15)) .nil
noncomputable def b89_2:XT:=.seq (.setI (.v 3) (.k (.int 0)) (.bin .fdv (.sub (.v 3) (.k (.int 0))) (.v 46))) b89_1
noncomputable def b89_3:XT:=.seq (.asg 15 (.bin .mod (.sub (.v 3) (.k (.int 0))) (.v 46))) b89_2
noncomputable def b89_4:XT:=.seq (.ret (.bin .mod (.bin .fdv (.sub (.v 3) (.k (.int 1))) (.k (.int 16))) (.v 46))) .nil
noncomputable def b89_5:XT:=.seq (.setI (.v 3) (.k (.int 1)) (.bin .mod (.bin .add (.bin .mul (.sub (.v 3) (.k (.int 1))) (.k (.int 48271))) (.k (.int 11))) (.k (.int 2147483647)))) b89_4
noncomputable def b89:XT:=.seq (.ife (.cmp .gt (.sub (.v 3) (.k (.int 0))) (.k (.int 0))) b89_3 .nil) b89_5
noncomputable def b90_1:XT:=.seq (.ret (.k (.int 0))) .nil
noncomputable def b90_2:XT:=.seq (.ret (.bin .sub (.neg (.k (.int 1))) (.call 89 (.cons (.v 3) (.cons (.k (.int 12)) .nil))))) .nil
noncomputable def b90_3:XT:=.seq (.ret (.ife (.cmp .lt (.v 94) (.k (.int 7))) (.bin .add (.k (.int 1)) (.call 89 (.cons (.v 3) (.cons (.k (.int 40)) .nil)))) (.bin .add (.bin .mul (.k (.int 65536)) (.call 89 (.cons (.v 3) (.cons (.k (.int 60)) .nil)))) (.call 89 (.cons (.v 3) (.cons (.k (.int 9)) .nil)))))) .nil
noncomputable def b90_4:XT:=.seq (.ife (.cmp .eq (.v 94) (.k (.int 1))) b90_2 .nil) b90_3
noncomputable def b90_5:XT:=.seq (.ife (.cmp .eq (.v 94) (.k (.int 0))) b90_1 .nil) b90_4
noncomputable def b90:XT:=.seq (.asg 94 (.call 89 (.cons (.v 3) (.cons (.k (.int 8)) .nil)))) b90_5
noncomputable def b91_1:XT:=.seq (.ret (.fz (.call 28 (.cons (.v 5) (.cons (.v 49) (.cons (.v 22) (.cons (.sub (.v 74) (.call 89 (.cons (.v 3) (.cons (.k (.int 8)) .nil)))) (.cons (.sub (.v 55) (.call 89 (.cons (.v 3) (.cons (.k (.int 6)) .nil)))) .nil)))))))) .nil
noncomputable def b91_2:XT:=.seq (.unp [.n 5,.n 49,.n 22] (.tup (.cons (.call 90 (.cons (.v 3) .nil)) (.cons (.sub (.v 74) (.call 89 (.cons (.v 3) (.cons (.k (.int 8)) .nil)))) (.cons (.sub (.v 55) (.call 89 (.cons (.v 3) (.cons (.k (.int 6)) .nil)))) .nil))))) b91_1
noncomputable def b91:XT:=.seq (.unp [.n 74,.n 55] (.tup (.cons (.lst (.cons (.k (.int 0)) (.cons (.k (.int 1)) (.cons (.k (.int 2)) (.cons (.k (.int 3)) (.cons (.k (.int 7)) (.cons (.k (.int 20)) (.cons (.neg (.k (.int 1))) (.cons (.neg (.k (.int 2))) .nil))))))))) (.cons (.lst (.cons (.k (.int 0)) (.cons (.k (.int 0)) (.cons (.k (.int 0)) (.cons (.k (.int 1)) (.cons (.k (.int 2)) (.cons (.k (.int 3)) .nil))))))) .nil)))) b91_2
noncomputable def b92_1:XT:=.seq (.asg 51 (.call 42 (.cons (.fz (.call 91 (.cons (.v 3) .nil))) (.cons (.k (.int 0)) .nil)))) .nil
noncomputable def b92_2:XT:=.seq (.asg 51 (.call 41 (.cons (.fz (.call 90 (.cons (.v 3) .nil))) (.cons (.k (.int 1)) .nil)))) .nil
noncomputable def b92_3:XT:=.seq (.asg 51 (.call 40 (.cons (.fz (.call 90 (.cons (.v 3) .nil))) (.cons (.sub (.lst (.cons (.k .none) (.cons (.k (.int 6)) .nil))) (.call 89 (.cons (.v 3) (.cons (.k (.int 2)) .nil)))) (.cons (.sub (.lst (.cons (.k .none) (.cons (.k (.int 2)) .nil))) (.call 89 (.cons (.v 3) (.cons (.k (.int 2)) .nil)))) .nil))))) .nil
noncomputable def b92_4:XT:=.seq (.setA (.v 51) 4 (.call 90 (.cons (.v 3) .nil))) .nil
noncomputable def b92_5:XT:=.seq (.asg 51 (.call 39 (.cons (.bin .add (.k (.int 2)) (.call 89 (.cons (.v 3) (.cons (.k (.int 2)) .nil)))) (.cons (.fz (.call 90 (.cons (.v 3) .nil))) (.cons (.fz (.call 90 (.cons (.v 3) .nil))) (.cons (.fz (.call 89 (.cons (.v 3) (.cons (.k (.int 9)) .nil)))) (.cons (.fz (.lst .nil)) .nil))))))) b92_4
noncomputable def b92_6:XT:=.seq (.ife (.cmp .eq (.v 94) (.k (.int 5))) b92_3 b92_5) .nil
noncomputable def b92_7:XT:=.seq (.ife (.cmp .lt (.v 94) (.k (.int 5))) b92_2 b92_6) .nil
noncomputable def b92_8:XT:=.seq (.app (.v 34) (.v 51)) .nil
noncomputable def b92_9:XT:=.seq (.ife (.cmp .lt (.v 94) (.k (.int 3))) b92_1 b92_7) b92_8
noncomputable def b92_10:XT:=.seq (.asg 94 (.call 89 (.cons (.v 3) (.cons (.k (.int 8)) .nil)))) b92_9
noncomputable def b92_11:XT:=.seq (.ret (.fz (.v 34))) .nil
noncomputable def b92_12:XT:=.seq (.loop [38] 1 (.cons (.call 89 (.cons (.v 3) (.cons (.k (.int 4)) .nil))) .nil) b92_10) b92_11
noncomputable def b92:XT:=.seq (.asg 34 (.lst .nil)) b92_12
noncomputable def b93_1:XT:=.seq (.ret (.fz (.call 44 (.cons (.v 6) (.cons (.att (.v 81) 16) (.cons (.k (.int 0)) (.cons (.fz (.v 34)) (.cons (.v 46) (.cons (.fz (.v 81)) (.cons (.k (.bool true)) .nil)))))))))) .nil
noncomputable def b93_2:XT:=.seq (.ex (.meth 30 2 (.v 81) (.cons (.v 13) .nil))) b93_1
noncomputable def b93_3:XT:=.seq (.unp [.n 81,.n 6,.n 13] (.call 61 (.cons (.fz (.v 34)) .nil))) b93_2
noncomputable def b93_4:XT:=.seq (.ret (.fz (.call 44 (.cons (.att (.v 81) 16) (.cons (.v 32) (.cons (.v 13) (.cons (.fz (.v 34)) (.cons (.v 46) (.cons (.fz (.v 81)) .nil))))))))) .nil
noncomputable def b93_5:XT:=.seq (.unp [.n 81,.n 32,.n 13] (.call 58 (.cons (.fz (.v 34)) .nil))) b93_4
noncomputable def b93_6:XT:=.seq (.ife (.v 90) b93_3 .nil) b93_5
noncomputable def b93:XT:=.seq (.asg 34 (.call 92 (.cons (.v 3) .nil))) b93_6
noncomputable def b94_1:XT:=.seq (.ret (.fz (.lst (.cons (.call 40 (.cons (.sub (.v 74) (.k (.int 0))) (.cons (.sub (.v 74) (.k (.int 1))) (.cons (.sub (.v 74) (.k (.int 2))) .nil)))) .nil)))) .nil
noncomputable def b94_2:XT:=.seq (.asg 74 (.comp [(".0",.local),(nmG 35,.local),("_law_take",.globalImplicit),(nmG 3,.free)] [3] [35] 1 (.cons (.k (.int 3)) .nil) .nil (.ife (.cmp .eq (.call 89 (.cons (.v 3) (.cons (.k (.int 2)) .nil))) (.k (.int 0))) (.k .none) (.bin .add (.k (.int 1)) (.call 89 (.cons (.v 3) (.cons (.k (.int 9)) .nil))))))) b94_1
noncomputable def b94_3:XT:=.seq (.ret (.fz (.lst (.cons (.call 41 (.cons (.fz (.call 90 (.cons (.v 3) .nil))) (.cons (.k (.int 1)) .nil))) .nil)))) .nil
noncomputable def b94_4:XT:=.seq (.ret (.fz (.ife (.cmp .eq (.v 94) (.k (.int 2))) (.lst (.cons (.call 43 (.cons (.fz (.call 89 (.cons (.v 3) (.cons (.k (.int 100)) .nil)))) .nil)) .nil)) (.lst .nil)))) .nil
noncomputable def b94_5:XT:=.seq (.ife (.cmp .eq (.v 94) (.k (.int 1))) b94_3 .nil) b94_4
noncomputable def b94_6:XT:=.seq (.ife (.cmp .eq (.v 94) (.k (.int 0))) b94_2 .nil) b94_5
noncomputable def b94:XT:=.seq (.asg 94 (.call 89 (.cons (.v 3) (.cons (.k (.int 5)) .nil)))) b94_6
noncomputable def b95_1:XT:=.seq (.asg 51 (.call 40 (.cons (.ife (.cmp .isn (.att (.v 51) 0) (.k .none)) (.v 6) (.att (.v 51) 0)) (.cons (.ife (.cmp .isn (.att (.v 51) 1) (.k .none)) (.v 32) (.att (.v 51) 1)) (.cons (.v 13) .nil))))) .nil
noncomputable def b95_2:XT:=.seq (.asg 13 (.ife (.cmp .isn (.att (.v 51) 2) (.k .none)) (.k (.int 0)) (.att (.v 51) 2))) b95_1
noncomputable def b95_3:XT:=.seq (.app (.v 27) (.call 48 (.cons (.fz (.v 51)) .nil))) .nil
noncomputable def b95_4:XT:=.seq (.ife (.cmp .eq (.att (.v 51) 8) (.k (.int 4))) b95_2 .nil) b95_3
noncomputable def b95_5:XT:=.seq (.ret (.fz (.v 27))) .nil
noncomputable def b95_6:XT:=.seq (.loop [51] 0 (.v 56) b95_4) b95_5
noncomputable def b95_7:XT:=.seq (.asg 27 (.lst .nil)) b95_6
noncomputable def b95:XT:=.seq (.unp [.n 6,.n 32] (.ife (.v 90) (.tup (.cons (.k (.int 0)) (.cons (.v 30) .nil))) (.tup (.cons (.v 30) (.cons (.k (.int 0)) .nil))))) b95_7
noncomputable def b96_1:XT:=.seq (.ret (.ife (.v 90) (.sub (.call 72 (.cons (.fz (.v 34)) (.cons (.k (.int 1)) (.cons (.k (.int 0)) (.cons (.k (.int 0)) .nil))))) (.k (.int 0))) (.sub (.call 71 (.cons (.fz (.v 34)) .nil)) (.k (.int 0))))) .nil
noncomputable def b96_2:XT:=.seq (.ret (.ife (.v 90) (.sub (.call 72 (.cons (.fz (.v 34)) (.cons (.k (.int 0)) (.cons (.v 73) (.cons (.k (.int 0)) .nil))))) (.k (.int 0))) (.sub (.call 71 (.cons (.fz (.v 34)) (.cons (.k (.int 0)) (.cons (.v 73) .nil)))) (.k (.int 0))))) .nil
noncomputable def b96_3:XT:=.seq (.ife (.cmp .isn (.v 73) (.k .none)) b96_1 .nil) b96_2
noncomputable def b96:XT:=.seq (.asg 34 (.blt 7 (.cons (.att (.v 8) 3) .nil))) b96_3
noncomputable def b97_1:XT:=.seq (.app (.v 62) (.call 42 (.cons (.sub (.v 26) (.bin .add (.v 35) (.k (.int 1)))) (.cons (.k (.int 109)) .nil)))) .nil
noncomputable def b97_2:XT:=.seq (.app (.v 62) (.v 53)) b97_1
noncomputable def b97_3:XT:=.seq (.ret (.fz (.ife (.v 90) (.call 72 (.cons (.fz (.v 62)) .nil)) (.call 71 (.cons (.fz (.v 62)) .nil))))) .nil
noncomputable def b97_4:XT:=.seq (.ret (.fz (.ife (.v 90) (.call 72 (.cons (.fz (.v 62)) (.cons (.v 94) (.cons (.v 0) .nil)))) (.call 71 (.cons (.fz (.v 62)) (.cons (.v 94) (.cons (.v 0) .nil))))))) .nil
noncomputable def b97_5:XT:=.seq (.ife (.cmp .eq (.v 94) (.k (.int 2))) b97_3 .nil) b97_4
noncomputable def b97_6:XT:=.seq (.tryN b97_5) .nil
noncomputable def b97_7:XT:=.seq (.loop [35,53] 2 (.cons (.v 4) .nil) b97_2) b97_6
noncomputable def b97:XT:=.seq (.asg 62 (.lst (.cons (.call 42 (.cons (.sub (.v 26) (.k (.int 0))) (.cons (.k (.int 109)) .nil))) .nil))) b97_7
noncomputable def b98_1:XT:=.seq (.ret (.fz (.call 86 (.cons (.v 67) (.cons (.fz (.v 74)) (.cons (.fz (.v 76)) (.cons (.blt 2 (.cons (.v 94) (.cons (.k (.int 1)) .nil))) (.cons (.v 0) (.cons (.v 90) .nil))))))))) .nil
noncomputable def b98:XT:=.seq (.tryN b98_1) .nil
noncomputable def b99:XT:=.seq (.ret (.tup (.cons (.comp [(".0",.local),(nmG 53,.local),("described_list",.globalImplicit),("isinstance",.globalImplicit),("list",.globalImplicit)] [] [53] 0 (.v 95) .nil (.call 49 (.cons (.fz (.ife (.isi 2 (.v 53)) (.v 53) (.lst (.cons (.v 53) .nil)))) .nil))) (.cons (.comp [(".0",.local),(nmG 25,.local)] [] [25] 0 (.v 76) .nil (.meth 28 1 (.v 25) .nil)) .nil)))) .nil
noncomputable def b100_1:XT:=.seq (.app (.v 27) (.bin .add (.ife (.v 90) (.tup (.cons (.k (.int 3)) (.cons (.sub (.v 83) (.k (.int 1))) (.cons (.v 73) (.cons (.sub (.v 53) (.k (.int 3))) .nil))))) (.tup (.cons (.k (.int 2)) (.cons (.v 73) (.cons (.sub (.v 83) (.k (.int 2))) (.cons (.sub (.v 83) (.k (.int 3))) .nil)))))) (.cut (.v 53) (.k (.int 4)) .nil))) .nil
noncomputable def b100_2:XT:=.seq (.app (.v 27) (.bin .add (.ife (.v 90) (.tup (.cons (.k (.int 3)) (.cons (.k (.int 0)) (.cons (.v 73) (.cons (.k (.int 0)) .nil))))) (.tup (.cons (.k (.int 2)) (.cons (.v 73) (.cons (.k (.int 0)) (.cons (.k (.int 0)) .nil)))))) (.tup (.cons (.k (.int 0)) (.cons (.k (.int 0)) (.cons (.k (.int 0)) (.cons (.tup (.cons (.k (.int 0)) (.cons (.k (.int 1)) .nil))) (.cons (.tup .nil) .nil)))))))) .nil
noncomputable def b100_3:XT:=.seq (.app (.v 27) (.ife (.cmp .eq (.bin .add (.v 38) (.k (.int 1))) (.v 46)) (.sub (.sub (.v 83) (.k (.int 8))) (.bin .add (.bin .mul (.k (.int 2)) (.v 35)) (.k (.int 2)))) (.tup (.cons (.k (.int 6)) (.cons (.tup (.cons (.k (.int 0)) (.cons (.k (.int 0)) (.cons (.k (.int 0)) (.cons (.k (.int 0)) (.cons (.k (.int 0)) .nil)))))) (.cons (.k (.int 109)) (.cons (.tup .nil) .nil))))))) .nil
noncomputable def b100_4:XT:=.seq (.ife (.cmp .eq (.v 38) (.k (.int 0))) b100_1 b100_2) b100_3
noncomputable def b100_5:XT:=.seq (.asg 73 (.ife (.cmp .lt (.bin .add (.v 38) (.k (.int 1))) (.v 46)) (.k (.int 0)) (.ife (.v 90) (.sub (.v 53) (.k (.int 2))) (.sub (.v 53) (.k (.int 1)))))) b100_4
noncomputable def b100_6:XT:=.seq (.loop [38] 1 (.cons (.v 46) .nil) b100_5) .nil
noncomputable def b100_7:XT:=.seq (.asg 53 (.sub (.sub (.v 83) (.k (.int 8))) (.bin .add (.bin .mul (.k (.int 2)) (.v 35)) (.k (.int 1))))) b100_6
noncomputable def b100_8:XT:=.seq (.ret (.bin .add (.cut (.v 83) .nil (.k (.int 8))) (.tup (.cons (.blt 6 (.cons (.v 27) .nil)) .nil)))) .nil
noncomputable def b100_9:XT:=.seq (.loop [35,46] 2 (.cons (.v 78) .nil) b100_7) b100_8
noncomputable def b100:XT:=.seq (.asg 27 (.lst (.cons (.sub (.sub (.v 83) (.k (.int 8))) (.k (.int 0))) .nil))) b100_9
noncomputable def b101_1:XT:=.seq (.ext (.v 27) (.cut (.v 2) (.bin .mul (.k (.int 2)) (.v 22)) (.bin .add (.bin .mul (.k (.int 2)) (.v 22)) (.k (.int 2))))) .nil
noncomputable def b101_2:XT:=.seq (.asg 22 (.bin .add (.v 22) (.v 46))) b101_1
noncomputable def b101_3:XT:=.seq (.ret (.fz (.v 27))) .nil
noncomputable def b101_4:XT:=.seq (.loop [46] 0 (.v 78) b101_2) b101_3
noncomputable def b101:XT:=.seq (.unp [.n 27,.n 22] (.tupo (.cons (.cut (.v 2) .nil (.k (.int 2))) (.cons (.k (.int 0)) .nil)))) b101_4
noncomputable def b102_1:XT:=.seq (.ret (.bin .mul (.bin .sub (.k (.int 1)) (.bin .mul (.k (.int 2)) (.call 89 (.cons (.v 3) (.cons (.k (.int 2)) .nil))))) (.bin .add (.bin .sub (.bin .pow (.k (.int 2)) (.k (.int 30))) (.k (.int 40))) (.call 89 (.cons (.v 3) (.cons (.k (.int 64)) .nil)))))) .nil
noncomputable def b102_2:XT:=.seq (.asg 28 (.bin .add (.k (.int 1)) (.call 89 (.cons (.v 3) (.cons (.k (.int 60)) .nil))))) .nil
noncomputable def b102_3:XT:=.seq (.asg 28 (.bin .sub (.neg (.k (.int 1))) (.call 89 (.cons (.v 3) (.cons (.k (.int 30)) .nil))))) .nil
noncomputable def b102_4:XT:=.seq (.asg 28 (.ife (.cmp .eq (.v 18) (.k (.int 4))) (.neg (.v 41)) (.bin .sub (.bin .sub (.neg (.v 41)) (.k (.int 1))) (.call 89 (.cons (.v 3) (.cons (.k (.int 3)) .nil)))))) .nil
noncomputable def b102_5:XT:=.seq (.asg 28 (.bin .mul (.k (.int 65536)) (.bin .sub (.call 89 (.cons (.v 3) (.cons (.k (.int 200)) .nil))) (.k (.int 60))))) .nil
noncomputable def b102_6:XT:=.seq (.ife (.cmp .lt (.v 18) (.k (.int 6))) b102_4 b102_5) .nil
noncomputable def b102_7:XT:=.seq (.ife (.cmp .eq (.v 18) (.k (.int 3))) b102_3 b102_6) .nil
noncomputable def b102_8:XT:=.seq (.ret (.ife (.cmp .eq (.v 94) (.k (.int 1))) (.v 28) (.bin .add (.v 60) (.v 28)))) .nil
noncomputable def b102_9:XT:=.seq (.ife (.cmp .lt (.v 18) (.k (.int 3))) b102_2 b102_7) b102_8
noncomputable def b102_10:XT:=.seq (.ife (.cmp .eq (.v 18) (.k (.int 7))) b102_1 .nil) b102_9
noncomputable def b102:XT:=.seq (.asg 18 (.call 89 (.cons (.v 3) (.cons (.k (.int 8)) .nil)))) b102_10
noncomputable def x103_1:XE:=.bin .add (.k (.int 1)) (.blt 5 (.cons (.cmp .eq (.call 89 (.cons (.v 3) (.cons (.k (.int 3)) .nil))) (.k (.int 0))) .nil))
noncomputable def x103_2:XE:=.call 93 (.cons (.v 3) (.cons (.v 46) (.cons (.v 90) .nil)))
noncomputable def x103_3:XE:=.comp [(".0",.local),(nmG 46,.local),("_law_cell",.globalImplicit),(nmG 3,.free),(nmG 90,.free)] [3,90] [46] 0 (.v 78) .nil x103_2
noncomputable def x103_4:XE:=.call 94 (.cons (.v 3) .nil)
noncomputable def x103_5:XE:=.call 91 (.cons (.v 3) .nil)
noncomputable def x103_6:XE:=.sub (.v 76) (.blt 4 (.cons (.cut (.v 78) .nil (.bin .add (.v 35) (.k (.int 1)))) .nil))
noncomputable def x103_7:XE:=.ife (.v 90) (.att (.sub (.v 66) (.v 35)) 1) (.att (.sub (.v 66) (.v 35)) 0)
noncomputable def x103_8:XE:=.blt 1 (.cons (.comp [(".0",.local),(nmG 66,.local),(nmG 35,.free),(nmG 90,.free)] [35,90] [66] 0 (.v 67) .nil x103_7) .nil)
noncomputable def x103_9:XE:=.att (.v 25) 0
noncomputable def x103_10:XE:=.att (.v 25) 14
noncomputable def x103_11:XE:=.call 96 (.cons (.v 8) (.cons (.ife (.cmp .eq (.v 87) (.k (.int 1))) (.k .none) (.sub (.v 96) (.v 35))) (.cons (.v 90) .nil)))
noncomputable def x103_12:XE:=.call 97 (.cons (.fz (.comp [(".0",.local),(nmG 35,.local),(nmG 8,.local),("_law_own",.globalImplicit),(nmG 87,.free),(nmG 90,.free),(nmG 96,.free)] [87,90,96] [35,8] 2 (.cons (.v 66) .nil) .nil x103_11)) (.cons (.fz (.v 26)) (.cons (.v 94) (.cons (.v 0) (.cons (.v 90) .nil)))))
noncomputable def x103_13:XE:=.v 42
noncomputable def x103_14:XE:=.sub (.v 42) (.k (.int 1))
noncomputable def x103_15:XE:=.v 51
noncomputable def x103_16:XE:=.call 101 (.cons (.fz (.call 67 (.cons (.v 51) .nil))) (.cons (.fz (.v 78)) .nil))
noncomputable def x103_17:XE:=.call 67 (.cons (.sub (.v 42) (.k (.int 0))) .nil)
noncomputable def b103_1:XT:=.seq (.asg 49 (.blt 5 (.cons (.cmp .eq (.call 89 (.cons (.v 3) (.cons (.k (.int 4)) .nil))) (.k (.int 0))) .nil))) .nil
noncomputable def b103_2:XT:=.seq (.asg 78 (.comp [(".0",.local),(nmG 35,.local),("int",.globalImplicit),("_law_take",.globalImplicit),(nmG 3,.free)] [3] [35] 1 (.cons (.bin .add (.k (.int 1)) (.call 89 (.cons (.v 3) (.cons (.k (.int 4)) .nil)))) .nil) .nil x103_1)) b103_1
noncomputable def b103_3:XT:=.seq (.unp [.n 78,.n 87] (.tup (.cons (.bin .mul (.lst (.cons (.k (.int 1)) .nil)) (.bin .add (.k (.int 1)) (.call 89 (.cons (.v 3) (.cons (.k (.int 2)) .nil))))) (.cons (.bin .add (.k (.int 1)) (.call 89 (.cons (.v 3) (.cons (.k (.int 3)) .nil)))) .nil)))) .nil
noncomputable def b103_4:XT:=.seq (.ext (.v 17) (.bin .add (.bin .mul (.lst (.cons (.k .none) .nil)) (.bin .sub (.v 46) (.k (.int 1)))) (.lst (.cons (.sub (.v 96) (.v 35)) .nil)))) .nil
noncomputable def b103_5:XT:=.seq (.ext (.v 95) (.bin .add (.lst (.cons (.v 66) .nil)) (.sub (.v 57) (.v 35)))) .nil
noncomputable def b103_6:XT:=.seq (.ret (.k (.bool false))) .nil
noncomputable def b103_7:XT:=.seq (.ret (.k (.bool false))) .nil
noncomputable def b103_8:XT:=.seq (.ret (.boo true (.cons (.cmp .isn (.v 82) (.k .none)) (.cons (.cmp .eq (.blt 0 (.cons (.v 64) .nil)) (.v 87)) .nil)))) .nil
noncomputable def b103_9:XT:=.seq (.ret (.k (.bool false))) .nil
noncomputable def b103_10:XT:=.seq (.ext (.v 92) (.call 95 (.cons (.sub (.v 57) (.v 35)) (.cons (.v 30) (.cons (.v 90) .nil))))) .nil
noncomputable def b103_11:XT:=.seq (.app (.v 92) (.call 100 (.cons (.fz (.call 48 (.cons (.sub (.v 42) (.k (.int 0))) .nil))) (.cons (.fz (.v 78)) (.cons (.v 90) .nil))))) b103_10
noncomputable def b103_12:XT:=.seq (.ret (.k (.bool false))) .nil
noncomputable def b103_13:XT:=.seq (.ret (.cmp .eq (.comp [(".0",.local),(nmG 51,.local),("_law_picked",.globalImplicit),("places",.globalImplicit),(nmG 78,.free)] [78] [51] 0 (.v 45) .nil x103_16) (.comp [(".0",.local),(nmG 42,.local),("places",.globalImplicit)] [] [42] 0 (.v 43) .nil x103_17))) .nil
noncomputable def b103_14:XT:=.gc [45] 1 b103_13
noncomputable def b103_15:XT:=.seq (.asg 45 (.comp [(".0",.local),(nmG 51,.local)] [] [51] 0 (.sub (.v 82) (.k (.int 0))) (.cons (.boo false (.cons (.cmp .eq (.att (.v 51) 8) (.k (.int 2))) (.cons (.cmp .eq (.att (.v 51) 8) (.k (.int 3))) .nil))) .nil) x103_15)) b103_14
noncomputable def b103_16:XT:=.gc [] 1 b103_15
noncomputable def b103_17:XT:=.seq (.ife (.boo false (.cons (.cmp .ne (.call 49 (.cons (.sub (.v 82) (.k (.int 0))) .nil)) (.blt 6 (.cons (.v 92) .nil))) (.cons (.cmp .ne (.comp [(".0",.local),(nmG 42,.local)] [] [42] 0 (.v 43) .nil x103_14) (.bin .mul (.lst (.cons (.sub (.v 82) (.k (.int 1))) .nil)) (.v 87))) .nil))) b103_12 .nil) b103_16
noncomputable def b103_18:XT:=.gc [92] 1 b103_17
noncomputable def b103_19:XT:=.seq (.loop [35,42] 2 (.cons (.v 43) .nil) b103_11) b103_18
noncomputable def b103_20:XT:=.seq (.asg 92 (.lst .nil)) b103_19
noncomputable def b103_21:XT:=.seq (.ife (.boo false (.cons (.cmp .isn (.v 82) (.k .none)) (.cons (.cmp .ne (.v 64) (.lst .nil)) .nil))) b103_9 .nil) b103_20
noncomputable def b103_22:XT:=.seq (.ife (.cmp .ge (.blt 1 (.cons (.blt 3 (.cons (.v 30) .nil)) (.cons (.blt 3 (.cons (.v 0) .nil)) .nil))) (.bin .pow (.k (.int 2)) (.k (.int 30)))) b103_8 .nil) b103_21
noncomputable def b103_23:XT:=.gc [64] 1 b103_22
noncomputable def b103_24:XT:=.seq (.asg 64 (.comp [(".0",.local),(nmG 42,.local)] [] [42] 0 (.v 43) (.cons (.cmp .isn (.v 42) (.k .none)) .nil) x103_13)) b103_23
noncomputable def b103_25:XT:=.gc [] 1 b103_24
noncomputable def b103_26:XT:=.seq (.ife (.boo false (.cons (.cmp .ne (.call 99 (.cons (.fz (.v 95)) (.cons (.fz (.v 76)) .nil))) (.v 1)) (.cons (.cmp .ne (.v 74) (.v 17)) .nil))) b103_7 .nil) b103_25
noncomputable def b103_27:XT:=.gc [] 1 b103_26
noncomputable def b103_28:XT:=.seq (.asg 82 (.call 98 (.cons (.fz (.v 95)) (.cons (.fz (.v 74)) (.cons (.fz (.v 76)) (.cons (.v 94) (.cons (.v 0) (.cons (.v 90) .nil)))))))) b103_27
noncomputable def b103_29:XT:=.gc [43] 1 b103_28
noncomputable def b103_30:XT:=.seq (.asg 43 (.comp [(".0",.local),(nmG 66,.local),("_law_line",.globalImplicit),("enumerate",.globalImplicit),(nmG 0,.free),(nmG 26,.free),(nmG 87,.free),(nmG 90,.free),(nmG 94,.free),(nmG 96,.free)] [0,26,87,90,94,96] [66] 0 (.v 67) .nil x103_12)) b103_29
noncomputable def b103_31:XT:=.gc [] 1 b103_30
noncomputable def b103_32:XT:=.seq (.asg 30 (.sub (.lst (.cons (.v 0) (.cons (.bin .add (.v 60) (.v 0)) (.cons (.v 60) .nil)))) (.v 94))) b103_31
noncomputable def b103_33:XT:=.seq (.asg 0 (.ife (.cmp .eq (.v 94) (.k (.int 2))) (.k (.int 0)) (.call 102 (.cons (.v 3) (.cons (.v 94) (.cons (.v 60) (.cons (.blt 4 (.cons (.comp [(".0",.local),(nmG 25,.local)] [] [25] 0 (.v 26) (.cons (.cmp .eq (.att (.v 25) 15) (.k (.int 0))) .nil) x103_10) .nil)) .nil))))))) b103_32
noncomputable def b103_34:XT:=.seq (.asg 94 (.call 89 (.cons (.v 3) (.cons (.k (.int 3)) .nil)))) b103_33
noncomputable def b103_35:XT:=.gc [] 1 b103_34
noncomputable def b103_36:XT:=.seq (.asg 60 (.bin .add (.blt 4 (.cons (.v 96) .nil)) (.blt 4 (.cons (.comp [(".0",.local),(nmG 25,.local)] [] [25] 0 (.v 26) .nil x103_9) .nil)))) b103_35
noncomputable def b103_37:XT:=.gc [] 1 b103_36
noncomputable def b103_38:XT:=.seq (.ife (.cmp .ne (.v 74) (.v 17)) b103_6 .nil) b103_37
noncomputable def b103_39:XT:=.seq (.asg 74 (.call 78 (.cons (.fz (.v 95)) (.cons (.bin .sub (.blt 0 (.cons (.v 76) .nil)) (.k (.int 1))) (.cons (.fz (.v 76)) .nil))))) b103_38
noncomputable def b103_40:XT:=.seq (.asg 1 (.call 99 (.cons (.fz (.v 95)) (.cons (.fz (.v 76)) .nil)))) b103_39
noncomputable def b103_41:XT:=.gc [95] 1 b103_40
noncomputable def b103_42:XT:=.seq (.loop [35,66] 2 (.cons (.v 67) .nil) b103_5) b103_41
noncomputable def b103_43:XT:=.seq (.asg 95 (.lst .nil)) b103_42
noncomputable def b103_44:XT:=.gc [17] 1 b103_43
noncomputable def b103_45:XT:=.seq (.ext (.v 17) (.bin .mul (.lst (.cons (.k .none) .nil)) (.v 49))) b103_44
noncomputable def b103_46:XT:=.seq (.loop [35,46] 2 (.cons (.v 78) .nil) b103_4) b103_45
noncomputable def b103_47:XT:=.seq (.asg 17 (.lst .nil)) b103_46
noncomputable def b103_48:XT:=.gc [96] 1 b103_47
noncomputable def b103_49:XT:=.seq (.asg 96 (.comp [(".0",.local),(nmG 35,.cell),("max",.globalImplicit),(nmG 67,.free),(nmG 90,.free)] [67,90] [35] 1 (.cons (.blt 0 (.cons (.v 78) .nil)) .nil) .nil x103_8)) b103_48
noncomputable def b103_50:XT:=.gc [26] 1 b103_49
noncomputable def b103_51:XT:=.seq (.asg 26 (.bin .add (.lst (.cons (.sub (.v 76) (.k (.int 0))) .nil)) (.comp [(".0",.local),(nmG 35,.local),("sum",.globalImplicit),(nmG 76,.free),(nmG 78,.free)] [76,78] [35] 1 (.cons (.blt 0 (.cons (.v 78) .nil)) .nil) .nil x103_6))) b103_50
noncomputable def b103_52:XT:=.gc [76] 1 b103_51
noncomputable def b103_53:XT:=.seq (.asg 76 (.comp [(".0",.local),(nmG 35,.local),("_law_flow",.globalImplicit),(nmG 3,.free)] [3] [35] 1 (.cons (.bin .add (.bin .add (.blt 4 (.cons (.v 78) .nil)) (.k (.int 1))) (.v 49)) .nil) .nil x103_5)) b103_52
noncomputable def b103_54:XT:=.gc [57] 1 b103_53
noncomputable def b103_55:XT:=.seq (.asg 57 (.comp [(".0",.local),(nmG 86,.local),("_law_other",.globalImplicit),(nmG 3,.free)] [3] [86] 1 (.cons (.v 87) .nil) .nil x103_4)) b103_54
noncomputable def b103_56:XT:=.gc [67] 1 b103_55
noncomputable def b103_57:XT:=.seq (.asg 67 (.comp [(".0",.local),(nmG 86,.local),(nmG 3,.free),(nmG 78,.free),(nmG 90,.free)] [3,78,90] [86] 1 (.cons (.v 87) .nil) .nil x103_3)) b103_56
noncomputable def b103_58:XT:=.gc [78] 1 b103_57
noncomputable def b103_59:XT:=.seq (.ife (.cmp .eq (.call 89 (.cons (.v 3) (.cons (.k (.int 2)) .nil))) (.k (.int 0))) b103_2 b103_3) b103_58
noncomputable def b103:XT:=.seq (.unp [.n 90,.n 78,.n 49,.n 87] (.tup (.cons (.cmp .eq (.call 89 (.cons (.v 3) (.cons (.k (.int 2)) .nil))) (.k (.int 1))) (.cons (.lst .nil) (.cons (.k (.int 0)) (.cons (.k (.int 1)) .nil)))))) b103_59
noncomputable def b2800_1:XT:=.seq .bad .nil
noncomputable def b2800_2:XT:=.seq (.setA (.v 70) 15 (.ife (.cmp .ne (.v 71) (.k (.int 0))) (.v 72) (.g 3))) .nil
noncomputable def b2800_3:XT:=.seq (.setA (.v 70) 14 (.call 17 (.cons (.v 71) .nil))) b2800_2
noncomputable def b2800_4:XT:=.seq (.setA (.v 70) 13 (.ife (.cmp .ne (.v 79) (.k (.int 0))) (.v 80) (.g 3))) b2800_3
noncomputable def b2800_5:XT:=.seq (.setA (.v 70) 12 (.call 17 (.cons (.v 79) .nil))) b2800_4
noncomputable def b2800_6:XT:=.seq (.setA (.v 70) 0 (.call 17 (.cons (.v 97) .nil))) b2800_5
noncomputable def b2800:XT:=.seq (.ife (.boo false (.cons (.not (.call 14 (.cons (.v 80) (.cons (.g 3) (.cons (.g 6) .nil))))) (.cons (.not (.call 14 (.cons (.v 72) (.cons (.g 3) (.cons (.g 6) .nil))))) .nil))) b2800_1 .nil) b2800_6
noncomputable def b2801:XT:=.seq (.ret (.tup (.cons (.att (.v 70) 0) (.cons (.att (.v 70) 12) (.cons (.att (.v 70) 13) (.cons (.att (.v 70) 14) (.cons (.att (.v 70) 15) .nil))))))) .nil
noncomputable def b3000_1:XT:=.seq (.setA (.v 70) 14 (.lst (.cons (.k (.int 0)) (.cons (.k (.int 0)) (.cons (.k (.int 0)) (.cons (.k (.int 0)) .nil)))))) .nil
noncomputable def b3000_2:XT:=.seq (.setA (.v 70) 12 (.lst (.cons (.k (.int 0)) (.cons (.k (.int 0)) (.cons (.k (.int 0)) (.cons (.k (.int 0)) .nil)))))) b3000_1
noncomputable def b3000:XT:=.seq (.setA (.v 70) 16 (.k (.int 0))) b3000_2
noncomputable def b3001_1:XT:=.seq (.augI (.att (.v 70) 14) (.att (.v 29) 15) (.att (.v 29) 14)) .nil
noncomputable def b3001_2:XT:=.seq (.augI (.att (.v 70) 12) (.att (.v 29) 13) (.att (.v 29) 12)) b3001_1
noncomputable def b3001:XT:=.seq (.augA (.v 70) 16 (.att (.v 29) 0)) b3001_2
noncomputable def b3002:XT:=.seq (.augA (.v 70) 16 (.v 97)) .nil
noncomputable def b3003:XT:=.seq (.ret (.fz (.call 29 (.cons (.att (.v 70) 12) .nil)))) .nil
noncomputable def b3004:XT:=.seq (.ret (.fz (.call 29 (.cons (.att (.v 70) 14) .nil)))) .nil
noncomputable def b3900_1:XT:=.seq .bad .nil
noncomputable def b3900_2:XT:=.seq (.setA (.v 70) 7 (.tup (.cons (.k (.int 0)) (.cons (.k (.int 1)) .nil)))) .nil
noncomputable def b3900_3:XT:=.seq (.setA (.v 70) 6 (.k (.int 0))) b3900_2
noncomputable def b3900_4:XT:=.seq (.setA (.v 70) 5 (.g 22)) b3900_3
noncomputable def b3900_5:XT:=.seq (.setA (.v 70) 4 (.k (.int 0))) b3900_4
noncomputable def b3900_6:XT:=.seq (.setA (.v 70) 3 (.v 34)) b3900_5
noncomputable def b3900_7:XT:=.seq (.setA (.v 70) 2 (.call 17 (.cons (.v 14) .nil))) b3900_6
noncomputable def b3900_8:XT:=.seq (.setA (.v 70) 1 (.call 17 (.cons (.v 31) .nil))) b3900_7
noncomputable def b3900_9:XT:=.seq (.setA (.v 70) 0 (.call 17 (.cons (.v 97) .nil))) b3900_8
noncomputable def b3900_10:XT:=.seq (.setA (.v 70) 8 (.v 37)) b3900_9
noncomputable def b3900:XT:=.seq (.ife (.not (.call 14 (.cons (.v 37) (.cons (.g 9) (.cons (.g 10) .nil))))) b3900_1 .nil) b3900_10
noncomputable def b4001_1:XT:=.seq (.ex (.call 17 (.cons (.v 73) .nil))) .nil
noncomputable def b4001_2:XT:=.seq (.ife (.cmp .nin (.v 73) (.k .none)) b4001_1 .nil) .nil
noncomputable def b4001_3:XT:=.seq (.setA (.v 70) 2 (.v 14)) .nil
noncomputable def b4001_4:XT:=.seq (.setA (.v 70) 1 (.v 31)) b4001_3
noncomputable def b4001_5:XT:=.seq (.setA (.v 70) 0 (.v 97)) b4001_4
noncomputable def b4001:XT:=.seq (.loop [73] 0 (.tup (.cons (.v 97) (.cons (.v 31) (.cons (.v 14) .nil)))) b4001_2) b4001_5
noncomputable def b4101_1:XT:=.seq .bad .nil
noncomputable def b4101_2:XT:=.seq (.setA (.v 70) 10 (.v 77)) .nil
noncomputable def b4101_3:XT:=.seq (.setA (.v 70) 0 (.call 17 (.cons (.v 97) .nil))) b4101_2
noncomputable def b4101:XT:=.seq (.ife (.not (.call 14 (.cons (.v 77) (.cons (.g 25) (.cons (.g 26) .nil))))) b4101_1 .nil) b4101_3
noncomputable def b4201_1:XT:=.seq .bad .nil
noncomputable def b4201_2:XT:=.seq .bad .nil
noncomputable def b4201_3:XT:=.seq .bad .nil
noncomputable def b4201_4:XT:=.seq (.setA (.v 70) 11 (.v 40)) .nil
noncomputable def b4201_5:XT:=.seq (.setA (.v 70) 10 (.v 77)) b4201_4
noncomputable def b4201_6:XT:=.seq (.setA (.v 70) 9 (.v 29)) b4201_5
noncomputable def b4201_7:XT:=.seq (.ife (.boo true (.cons (.cmp .nin (.v 40) (.k .none)) (.cons (.not (.cmp2 .le .le (.g 9) (.att (.v 40) 8) (.g 11))) .nil))) b4201_3 .nil) b4201_6
noncomputable def b4201_8:XT:=.seq (.ife (.cmp .eq (.cmp .isn (.v 40) (.k .none)) (.cmp2 .le .le (.g 28) (.v 77) (.g 29))) b4201_2 .nil) b4201_7
noncomputable def b4201:XT:=.seq (.ife (.boo true (.cons (.not (.call 14 (.cons (.v 77) (.cons (.g 27) (.cons (.g 30) .nil))))) (.cons (.not (.call 14 (.cons (.v 77) (.cons (.g 31) (.cons (.bin .add (.g 31) (.k (.int 99))) .nil))))) .nil))) b4201_1 .nil) b4201_8
noncomputable def b4301:XT:=.seq (.setA (.v 70) 20 (.call 16 (.cons (.v 91) .nil))) .nil
noncomputable def b4401_1:XT:=.seq .bad .nil
noncomputable def b4401_2:XT:=.seq (.setA (.v 70) 19 (.v 33)) .nil
noncomputable def b4401_3:XT:=.seq (.setA (.v 70) 18 (.v 85)) b4401_2
noncomputable def b4401_4:XT:=.seq (.setA (.v 70) 17 (.v 78)) b4401_3
noncomputable def b4401_5:XT:=.seq (.setA (.v 70) 3 (.v 34)) b4401_4
noncomputable def b4401_6:XT:=.seq (.setA (.v 70) 2 (.call 17 (.cons (.v 14) .nil))) b4401_5
noncomputable def b4401_7:XT:=.seq (.setA (.v 70) 1 (.call 17 (.cons (.v 31) .nil))) b4401_6
noncomputable def b4401_8:XT:=.seq (.setA (.v 70) 0 (.call 17 (.cons (.v 97) .nil))) b4401_7
noncomputable def b4401:XT:=.seq (.ife (.not (.call 14 (.cons (.fz (.v 78)) (.cons (.k (.int 1)) (.cons (.g 1) .nil))))) b4401_1 .nil) b4401_8
noncomputable def chkFn (f:Nat)(ps:List Nat)(dfl:List PV)(body:XT):Bool :=
 okSc (scopeOf (fSt f))&&(!(scopeOf (fSt f)).isCoroutine&&(!(scopeOf (fSt f)).isGenerator&&((parsOf (fSt f)).posonlyargs.isEmpty&&(decide ((parsOf (fSt f)).args.map (·.arg)=ps.map nmG)&&((parsOf (fSt f)).kwonlyargs.isEmpty&&((parsOf (fSt f)).vararg.isNone&&((parsOf (fSt f)).kwarg.isNone &&
 ((freeNames (scopeOf (fSt f)).names).isEmpty&&(nodB ps&&(ps.all (stoK (kdOf1 f))&&(lsT body&&(okT body (kdOf1 f)&&(dfl.all plainV&&decide (dfl.length≤ps.length))))))))))))))
theorem fnOk {f:Nat}{ps:List Nat}{dfl:List PV}{body:XT}(h:chkFn f ps dfl body=true)(t:toT body (bodyOf (fSt f))=bodyOf (fSt f)):FnOk f ps dfl body :=
 have h1:=an h
 have h2:=an h1.2
 have h3:=an h2.2
 have h4:=an h3.2
 have h5:=an h4.2
 have h6:=an h5.2
 have h7:=an h6.2
 have h8:=an h7.2
 have h9:=an h8.2
 have h10:=an h9.2
 have h11:=an h10.2
 have h12:=an h11.2
 have h13:=an h12.2
 have h14:=an h13.2
 ⟨h1.1,nb h2.1,nb h3.1,List.isEmpty_iff.mp h4.1,of_decide_eq_true h5.1,List.isEmpty_iff.mp h6.1,Option.isNone_iff_eq_none.mp h7.1,Option.isNone_iff_eq_none.mp h8.1,List.isEmpty_iff.mp h9.1,h10.1,h11.1,h12.1,h13.1,h14.1,of_decide_eq_true h14.2,t⟩
theorem k14:FnOk 14 [91,44,32] [] b14:=fnOk (by decide +kernel) (by kernel_rfl)
theorem k15:FnOk 15 [91] [] b15:=fnOk (by decide +kernel) (by kernel_rfl)
theorem k16:FnOk 16 [91] [] b16:=fnOk (by decide +kernel) (by kernel_rfl)
theorem k17:FnOk 17 [91] [] b17:=fnOk (by decide +kernel) (by kernel_rfl)
theorem k18:FnOk 18 [52,7] [] b18:=fnOk (by decide +kernel) (by kernel_rfl)
theorem k25:FnOk 25 [21,84] [] b25:=fnOk (by decide +kernel) (by kernel_rfl)
theorem k29:FnOk 29 [81] [] b29:=fnOk (by decide +kernel) (by kernel_rfl)
theorem k45:FnOk 45 [14] [] b45:=fnOk (by decide +kernel) (by kernel_rfl)
theorem k47:FnOk 47 [51,14] [] b47:=fnOk (by decide +kernel) (by kernel_rfl)
theorem k48:FnOk 48 [51,14] [.int 0] b48:=fnOk (by decide +kernel) (by kernel_rfl)
theorem k49:FnOk 49 [34,14] [.int 0] b49:=fnOk (by decide +kernel) (by kernel_rfl)
theorem k50:FnOk 50 [51] [] b50:=fnOk (by decide +kernel) (by kernel_rfl)
theorem k51:FnOk 51 [51] [] b51:=fnOk (by decide +kernel) (by kernel_rfl)
theorem k52:FnOk 52 [51] [] b52:=fnOk (by decide +kernel) (by kernel_rfl)
theorem k53:FnOk 53 [51] [] b53:=fnOk (by decide +kernel) (by kernel_rfl)
theorem k54:FnOk 54 [51] [] b54:=fnOk (by decide +kernel) (by kernel_rfl)
theorem k58:FnOk 58 [34] [] b58:=fnOk (by decide +kernel) (by kernel_rfl)
theorem k59:FnOk 59 [51] [] b59:=fnOk (by decide +kernel) (by kernel_rfl)
theorem k60:FnOk 60 [34] [] b60:=fnOk (by decide +kernel) (by kernel_rfl)
theorem k61:FnOk 61 [34] [] b61:=fnOk (by decide +kernel) (by kernel_rfl)
theorem k62:FnOk 62 [89,16] [] b62:=fnOk (by decide +kernel) (by kernel_rfl)
theorem k63:FnOk 63 [85,21] [] b63:=fnOk (by decide +kernel) (by kernel_rfl)
theorem k64:FnOk 64 [3,29] [] b64:=fnOk (by decide +kernel) (by kernel_rfl)
theorem k65:FnOk 65 [3,24] [] b65:=fnOk (by decide +kernel) (by kernel_rfl)
theorem k66:FnOk 66 [3,51] [] b66:=fnOk (by decide +kernel) (by kernel_rfl)
theorem k67:FnOk 67 [3] [] b67:=fnOk (by decide +kernel) (by kernel_rfl)
theorem k69:FnOk 69 [60,47,0] [] b69:=fnOk (by decide +kernel) (by kernel_rfl)
theorem k70:FnOk 70 [3,85,21] [] b70:=fnOk (by decide +kernel) (by kernel_rfl)
theorem k71:FnOk 71 [34,47,0,59] [.int 1,.int 0,.none] b71:=fnOk (by decide +kernel) (by kernel_rfl)
theorem k72:FnOk 72 [34,47,0,50] [.int 1,.int 0,.int 1073741823] b72:=fnOk (by decide +kernel) (by kernel_rfl)
theorem k75:FnOk 75 [8] [] b75:=fnOk (by decide +kernel) (by kernel_rfl)
theorem k76:FnOk 76 [11,76] [] b76:=fnOk (by decide +kernel) (by kernel_rfl)
theorem k77:FnOk 77 [66,11] [] b77:=fnOk (by decide +kernel) (by kernel_rfl)
theorem k78:FnOk 78 [67,11,76] [] b78:=fnOk (by decide +kernel) (by kernel_rfl)
theorem k79:FnOk 79 [97,33] [] b79:=fnOk (by decide +kernel) (by kernel_rfl)
theorem k80:FnOk 80 [74,76,10] [] b80:=fnOk (by decide +kernel) (by kernel_rfl)
theorem k81:FnOk 81 [74,76,47,0,33] [] b81:=fnOk (by decide +kernel) (by kernel_rfl)
theorem k82:FnOk 82 [9,48,33] [] b82:=fnOk (by decide +kernel) (by kernel_rfl)
theorem k83:FnOk 83 [8,97,73,66] [] b83:=fnOk (by decide +kernel) (by kernel_rfl)
theorem k84:FnOk 84 [9,74,76,48,19,33] [] b84:=fnOk (by decide +kernel) (by kernel_rfl)
theorem k85:FnOk 85 [68,48] [] b85:=fnOk (by decide +kernel) (by kernel_rfl)
theorem k86:FnOk 86 [67,74,76,47,0,33] [] b86:=fnOk (by decide +kernel) (by kernel_rfl)
theorem k89:FnOk 89 [3,46] [] b89:=fnOk (by decide +kernel) (by kernel_rfl)
theorem k90:FnOk 90 [3] [] b90:=fnOk (by decide +kernel) (by kernel_rfl)
theorem k91:FnOk 91 [3] [] b91:=fnOk (by decide +kernel) (by kernel_rfl)
theorem k92:FnOk 92 [3] [] b92:=fnOk (by decide +kernel) (by kernel_rfl)
theorem k93:FnOk 93 [3,46,90] [] b93:=fnOk (by decide +kernel) (by kernel_rfl)
theorem k94:FnOk 94 [3] [] b94:=fnOk (by decide +kernel) (by kernel_rfl)
theorem k95:FnOk 95 [56,30,90] [] b95:=fnOk (by decide +kernel) (by kernel_rfl)
theorem k96:FnOk 96 [8,73,90] [] b96:=fnOk (by decide +kernel) (by kernel_rfl)
theorem k97:FnOk 97 [4,26,94,0,90] [] b97:=fnOk (by decide +kernel) (by kernel_rfl)
theorem k98:FnOk 98 [67,74,76,94,0,90] [] b98:=fnOk (by decide +kernel) (by kernel_rfl)
theorem k99:FnOk 99 [95,76] [] b99:=fnOk (by decide +kernel) (by kernel_rfl)
theorem k100:FnOk 100 [83,78,90] [] b100:=fnOk (by decide +kernel) (by kernel_rfl)
theorem k101:FnOk 101 [2,78] [] b101:=fnOk (by decide +kernel) (by kernel_rfl)
theorem k102:FnOk 102 [3,94,60,41] [] b102:=fnOk (by decide +kernel) (by kernel_rfl)
theorem k103:FnOk 103 [3] [] b103:=fnOk (by decide +kernel) (by kernel_rfl)
theorem k2800:FnOk 2800 [70,97,79,80,71,72] [.int 0,.int 0,.int 0,.int 0,.int 0] b2800:=fnOk (by decide +kernel) (by kernel_rfl)
theorem k2801:FnOk 2801 [70] [] b2801:=fnOk (by decide +kernel) (by kernel_rfl)
theorem k3000:FnOk 3000 [70] [] b3000:=fnOk (by decide +kernel) (by kernel_rfl)
theorem k3001:FnOk 3001 [70,29] [] b3001:=fnOk (by decide +kernel) (by kernel_rfl)
theorem k3002:FnOk 3002 [70,97] [] b3002:=fnOk (by decide +kernel) (by kernel_rfl)
theorem k3003:FnOk 3003 [70] [] b3003:=fnOk (by decide +kernel) (by kernel_rfl)
theorem k3004:FnOk 3004 [70] [] b3004:=fnOk (by decide +kernel) (by kernel_rfl)
theorem k3900:FnOk 3900 [70,37,97,31,14,34] [] b3900:=fnOk (by decide +kernel) (by kernel_rfl)
theorem k4001:FnOk 4001 [70,97,31,14] [] b4001:=fnOk (by decide +kernel) (by kernel_rfl)
theorem k4101:FnOk 4101 [70,97,77] [] b4101:=fnOk (by decide +kernel) (by kernel_rfl)
theorem k4201:FnOk 4201 [70,29,77,40] [.none] b4201:=fnOk (by decide +kernel) (by kernel_rfl)
theorem k4301:FnOk 4301 [70,91] [] b4301:=fnOk (by decide +kernel) (by kernel_rfl)
theorem k4401:FnOk 4401 [70,97,31,14,34,78,85,33] [.bool false] b4401:=fnOk (by decide +kernel) (by kernel_rfl)
set_option tactic.hygienic false
set_option maxRecDepth 10000
inductive Step (G:Gm):Nat→List OB→List QV→Rs→Prop
 | fn {f:Nat} {dfl:List PV} {ps:List Nat} {body:XT} {H:List OB} {qs:List QV} {r:Rs} (hf:(f,dfl)∈fnT) (T:FnOk f ps dfl body) (h1:qs.length≤ps.length) (h2:ps.length≤qs.length+dfl.length)
  (hb:sT (cOf f H) body ⟨G,r=.ovf⟩ (zipE ps (qs++(dfl.drop (qs.length+dfl.length-ps.length)).map .fr)) H (retK H.length r)):Step G f H qs r
 | cls {C j:Nat} {H:List OB} {qs:List QV} {r:Rs} (hm:(C,j)∈mkT) (h:G.at (C*100+j) (H++[.obj C []]) (.own H.length::qs) r) (hr:∀ q Ho,r=.ok q Ho→q=.fr .none):Step G C H qs (mkR H.length r)
noncomputable abbrev Sp:=Nat→Nat→List OB→List QV→Option Rs
noncomputable def GG (S:Sp):Nat→Gm
 | 0=>⟨fun zz zz zz=>none,fun zz zz zz zz=>False⟩
 | k+1=>⟨S k,Step (GG S k)⟩
theorem GG_ok {W:Wo}(F:PF W)(ov:Ov W){S:Sp}(hS:∀ k f H as r,S k f H as=some r→Step (GG S k) f H as r):∀(k f:Nat)(H:List OB)(qs:List QV)(r:Rs),(GG S k).at f H qs r→Sm W (k+4) f H qs r
 | 0,_,_,_,_,h=>by
  rcases h with ⟨h⟩|⟨h⟩
  ·injection h
  ·exact h.elim
 | k+1,f,H,qs,r,h=>by
  have h:Step (GG S k) f H qs r:=by
   rcases h with ⟨h⟩|⟨h⟩
   ·exact hS k f H qs r h
   ·exact h
  cases h with
  | fn hf T h1 h2 hb=>exact sound_fn F ov (Nat.le_add_left 4 k) hf T (fun f H as r h=>GG_ok F ov hS k f H as r h) h1 h2 hb
  | cls hm hc hr=>exact sound_cls F hm (GG_ok F ov hS k _ _ _ _ hc) hr
section
variable {k:Nat} {H:List OB} {X:Prop} {K:KQ}
theorem fm {x:Nat×List PV}(n:Nat)(h:fnT[n]?=some x):x∈fnT:=List.mem_of_getElem? h
theorem brT {b:Bool}{P Q:Prop}(h:b=true)(p:P):brB b P Q:=h▸p
theorem brF {b:Bool}{P Q:Prop}(h:b=false)(q:Q):brB b P Q:=h▸q
theorem dT {p:Prop}[i:Decidable p](h:p):decide p=true:=decide_eq_true h
theorem dF {p:Prop}[i:Decidable p](h:¬p):decide p=false:=decide_eq_false h
theorem nF {b:Bool}(h:b=true):(!b)=false:=by rw [h]; rfl
theorem nT {b:Bool}(h:b=false):(!b)=true:=by rw [h]; rfl
noncomputable abbrev nS:Sp:=fun zz zz zz zz=>none
noncomputable abbrev Cl (k f:Nat)(H:List OB)(qs:List QV)(r:Rs):Prop:=Step (GG nS k) f H qs r
noncomputable abbrev Fn (k f:Nat)(qs:List QV)(v:PV):Prop:=Cl k f [] qs (.ok (.fr v) [])
noncomputable def frs:List QV→Bool
 | []=>true
 | .fr z1::r=>frs r
 | .own z1::z2=>false
theorem frs_sel:∀{qs:List QV}{acc:List Nat},frs qs=true→qs.foldl (selQ H) acc=acc
 | [],z1,z2=>rfl
 | .fr v::r,acc,h=>frs_sel (qs:=r) h
 | .own z1::z2,z3,h=>absurd h Bool.false_ne_true
theorem frs_ren:∀{qs:List QV},frs qs=true→renQs H [] qs=some qs
 | [],z1=>rfl
 | .fr v::r,h=>by
  have e:=frs_ren (qs:=r) h
  unfold renQs
  rw [e]; rfl
 | .own z1::z2,h=>absurd h Bool.false_ne_true
theorem useN {f:Nat}{qs as:List QV}{Hi Ho:List OB}{q:QV}(sel:List Nat)(c:Cl k f Hi as (.ok q Ho))(e1:qs.foldl (selQ H) []=sel)(e2:nodB sel=true)(e3:renQs H sel qs=some as)(e4:renOs H sel sel=some Hi)(h:K (mrg H sel Ho) (bkQ sel H.length q)):callQ ⟨GG nS (k+1),X⟩ f H qs K:=by
 unfold callQ
 refine (Eq.symm e1)▸?_; refine (Eq.symm e2)▸?_; refine (Eq.symm e3)▸?_; refine (Eq.symm e4)▸?_
 exact ⟨_,c,h⟩
theorem use0 {f:Nat}{qs:List QV}{v:PV}(c:Fn k f qs v)(e:frs qs=true)(h:K H (.fr v)):callQ ⟨GG nS (k+1),X⟩ f H qs K :=
 useN [] c (frs_sel e) rfl (frs_ren e) rfl (by
  have:mrg H [] []=H:=List.append_nil H
  rw [this]; exact h)
theorem useX {f:Nat}{qs:List QV}(c:Cl k f [] qs .ovf)(e:frs qs=true)(h:X):callQ ⟨GG nS (k+1),X⟩ f H qs K:=by
 unfold callQ
 refine (Eq.symm (frs_sel e))▸?_; refine (Eq.symm (frs_ren e))▸?_
 exact ⟨_,c,h⟩
theorem ret0 {r:Rs}{v:PV}(h:r=.ok (.fr v) []):retQ 0 r (.fr v) H:=by
 unfold retQ; exact .inl ⟨0,rfl,h⟩
theorem retN {r:Rs}{c:Nat}{q:QV}(n:Nat)(e:cutOk c (H.take n) q=true)(h:r=.ok q (H.take n)):retQ c r q H:=by
 unfold retQ; exact .inl ⟨n,e,h⟩
theorem retS {r:Rs}{c:Nat}{q q':QV}{Ho:List OB}(sel:List Nat)(h1:selOk 0 c sel=true)(h2:nodB sel=true)(h3:renQ H sel q=some q')(h4:renOs H sel sel=some Ho)(h:r=.ok q' Ho):retQ c r q H:=by
 unfold retQ; exact .inr ⟨sel,q',Ho,h1,h2,h3,h4,h⟩
theorem clsI {C j:Nat}{H Ho:List OB}{qs:List QV}(n:Nat)(hm:mkT[n]?=some (C,j))(h:Cl k (C*100+j) (H++[.obj C []]) (.own H.length::qs) (.ok (.fr .none) Ho)):Cl (k+1) C H qs (.ok (.own H.length) Ho) :=
 .cls (r:=.ok (.fr .none) Ho) (List.mem_of_getElem? hm) (.inr h) fun q Ho e=>by (injection e with e; subst e); rfl
theorem useO {f:Nat}{qs:List QV}{o:OB}(c:Cl k f [] qs (.ok (.own 0) [o]))(e:frs qs=true)(e2:bkO [] H.length o=o)(h:K (H++[o]) (.own H.length)):callQ ⟨GG nS (k+1),X⟩ f H qs K :=
 useN [] c (frs_sel e) rfl (frs_ren e) rfl (by
  have:mrg H [] [o]=H++[bkO [] H.length o]:=rfl
  rw [this,e2]; exact h)
end
section
variable {k:Nat}
theorem c15 {i:Int}:Fn k 15 [.fr (.int i)] (.int i):=.fn (fm 1 rfl) k15 (Nat.le_refl 1) (Nat.le_refl 1) (by
 exact ret0 rfl)
noncomputable def Dim (i:Int):Prop:=-1073741823≤i∧i≤1073741823
theorem c17 {i:Int}(h:Dim i):Fn (k+1) 17 [.fr (.int i)] (.int i):=.fn (fm 3 rfl) k17 (Nat.le_refl 1) (Nat.le_refl 1) (by
 refine use0 (c15) rfl ?_
 refine brT (dT h.1) ?_
 refine brF (nF (dT h.2)) ?_
 exact ret0 rfl)
theorem x17 {i:Int}(h:¬Dim i):Cl (k+1) 17 [] [.fr (.int i)] .ovf:=.fn (fm 3 rfl) k17 (Nat.le_refl 1) (Nat.le_refl 1) (by
 refine use0 (c15) rfl ?_
 by_cases a : -1073741823≤i
 ·refine brT (dT a) ?_
  refine brT (nT (dF fun b=>h ⟨a,b⟩)) ?_
  exact (Eq.refl Rs.ovf)
 ·refine brF (dF a) ?_
  exact (Eq.refl Rs.ovf))
theorem c16 {i:Int}(h:0≤i)(h':i≤1000):Fn (k+1) 16 [.fr (.int i)] (.int i):=.fn (fm 2 rfl) k16 (Nat.le_refl 1) (Nat.le_refl 1) (by
 refine use0 (c15) rfl ?_
 refine brT (dT (show -2147483647≤i by lia)) ?_
 refine brF (nF (dT (show i≤2147483647 by lia))) ?_
 exact ret0 rfl)
theorem c14 {v l h:Int}(h1:l≤v)(h2:v≤h):Fn k 14 [.fr (.int v),.fr (.int l),.fr (.int h)] (.bool true):=.fn (fm 0 rfl) k14 (Nat.le_refl 3) (Nat.le_refl 3) (by
 refine brT (dT h1) ?_
 exact ret0 (by rw [dT h2]))
theorem f14 {v l h:Int}(h2:h<v):Fn k 14 [.fr (.int v),.fr (.int l),.fr (.int h)] (.bool false):=.fn (fm 0 rfl) k14 (Nat.le_refl 3) (Nat.le_refl 3) (by
 by_cases a:l≤v
 ·refine brT (dT a) ?_
  exact ret0 (by rw [dF (Int.not_le.mpr h2)])
 ·refine brF (dF a) ?_
  exact ret0 rfl)
theorem i28 {w st so sh sho:Int}(h1:0≤so)(h2:so≤3)(h3:0≤sho)(h4:sho≤3)(d1:Dim w)(d2:Dim st)(d3:Dim sh) :
  Cl (k+2) 2800 [.obj 28 []] [.own 0,.fr (.int w),.fr (.int st),.fr (.int so),.fr (.int sh),.fr (.int sho)] (.ok (.fr .none) [.obj 28 [.fr (.int w),.fr (.int st),.fr (.int (if st≠0 then so else 0)),.fr (.int sh),.fr (.int (if sh≠0 then sho else 0))]]) :=
 .fn (fm 69 rfl) k2800 (Nat.le_refl 6) (Nat.le_add_right 6 5) (by
 refine use0 (c14 h1 h2) rfl ?_
 refine use0 (c14 h3 h4) rfl ?_
 refine use0 (c17 d1) rfl ?_
 refine use0 (c17 d2) rfl ?_
 by_cases z:st≠0
 ·refine brT (dT z) ?_
  refine use0 (c17 d3) rfl ?_
  by_cases y:sh≠0
  ·refine brT (dT y) ?_
   exact retN 1 rfl (by rw [if_pos z,if_pos y]; rfl)
  ·refine brF (dF y) ?_
   exact retN 1 rfl (by rw [if_pos z,if_neg y]; rfl)
 ·refine brF (dF z) ?_
  refine use0 (c17 d3) rfl ?_
  by_cases y:sh≠0
  ·refine brT (dT y) ?_
   exact retN 1 rfl (by rw [if_neg z,if_pos y]; rfl)
  ·refine brF (dF y) ?_
   exact retN 1 rfl (by rw [if_neg z,if_neg y]; rfl))
theorem c28 {w st so sh sho:Int}(h1:0≤so)(h2:so≤3)(h3:0≤sho)(h4:sho≤3)(d1:Dim w)(d2:Dim st)(d3:Dim sh) :
  Cl (k+3) 28 [] [.fr (.int w),.fr (.int st),.fr (.int so),.fr (.int sh),.fr (.int sho)] (.ok (.own 0) [.obj 28 [.fr (.int w),.fr (.int st),.fr (.int (if st≠0 then so else 0)),.fr (.int sh),.fr (.int (if sh≠0 then sho else 0))]]) :=
 clsI 0 rfl (i28 h1 h2 h3 h4 d1 d2 d3)
end
structure G where
 w:Int
 st:Int
 so:Int
 sh:Int
 sho:Int
structure T where
 nat:Int
 st:List Int
 sh:List Int
structure B where
 v:Bool
 w:Int
 h:Int
 d:Int
 shift:Int
 sign:Int
 order:Int
 r0:Int
 r1:Int
structure U where
 w:Int
 h:Int
 d:Int
 spans:Int
 t:T
 vert:Bool
inductive N where
 | skip (g:G) (sort:Int)
 | kern (w sort:Int)
 | rule (w h d:Option Int)
 | pen (v:Int)
 | box (b:B) (items:List N)
 | unset (u:U) (items:List N)
noncomputable def N.ctorIdx (x:N):Nat:=@N.casesOn (fun _=>Nat) x (fun _ _=>0) (fun _ _=>1) (fun _ _ _=>2) (fun _=>3) (fun _ _=>4) (fun _ _=>5)
noncomputable def kI:Bool→Int
 | false=>2
 | true=>3
noncomputable def oi:Option Int→PV
 | none=>.none
 | some i=>.int i
noncomputable abbrev G.p (g:G):PV:=.obj 28 [.int g.w,.int g.st,.int g.so,.int g.sh,.int g.sho]
noncomputable abbrev T.p (t:T):PV:=.obj 30 [.int t.nat,.lst (t.st.map .int),.lst (t.sh.map .int)]
noncomputable abbrev B.p (b:B)(l:PV):PV:=.obj 39 [.int (kI b.v),.int b.w,.int b.h,.int b.d,l,.int b.shift,.int b.sign,.int b.order,.tup [.int b.r0,.int b.r1]]
noncomputable abbrev U.p (u:U)(l:PV):PV:=.obj 44 [.int u.w,.int u.h,.int u.d,l,.int u.spans,u.t.p,.bool u.vert]
mutual
noncomputable def N.p:N→PV
 | .skip g s=>.obj 42 [g.p,.int s,.none]
 | .kern w s=>.obj 41 [.int w,.int s]
 | .rule w h d=>.obj 40 [oi w,oi h,oi d]
 | .pen v=>.obj 43 [.int v]
 | .box b is=>b.p (.lst (Ns.p is))
 | .unset u is=>u.p (.lst (Ns.p is))
noncomputable def Ns.p:List N→List PV
 | []=>[]
 | n::ns=>N.p n::Ns.p ns
end
theorem Ns_map:∀ ns:List N,Ns.p ns=ns.map N.p
 | []=>rfl
 | n::ns=>congrArg (N.p n::·) (Ns_map ns)
noncomputable def N.wd:N→Int
 | .skip g z1=>g.w
 | .kern w z1=>w
 | .rule w z1 z2=>w.getD 0
 | .pen z1=>0
 | .box b z1=>b.w
 | .unset u z1=>u.w
noncomputable def N.ht:N→Int
 | .skip z1 z2=>0
 | .kern z1 z2=>0
 | .rule z1 h z2=>h.getD 0
 | .pen z1=>0
 | .box b z1=>b.h
 | .unset u z1=>u.h
noncomputable def N.dp:N→Int
 | .skip z1 z2=>0
 | .kern z1 z2=>0
 | .rule z1 z2 d=>d.getD 0
 | .pen z1=>0
 | .box b z1=>b.d
 | .unset u z1=>u.d
noncomputable def N.lh:N→Int
 | .box b z1=>b.h-b.shift
 | n=>n.ht
noncomputable def N.ld:N→Int
 | .box b z1=>b.d+b.shift
 | n=>n.dp
noncomputable def N.ac:N→Int
 | .box b z1=>b.w+b.shift
 | .skip z1 z2=>0
 | .kern z1 z2=>0
 | n=>n.wd
section
variable {k:Nat}
theorem c50 (n:N):Fn k 50 [.fr n.p] (.int n.wd):=.fn (fm 9 rfl) k50 (Nat.le_refl 1) (Nat.le_refl 1) (by
 rcases n with ⟨g,s⟩|⟨w,s⟩|⟨w,h,d⟩|⟨v⟩|⟨b,is⟩|⟨u,is⟩
 ·exact ret0 rfl
 ·exact ret0 rfl
 ·cases w <;> (exact ret0 rfl)
 ·exact ret0 rfl
 ·obtain ⟨v,w⟩:=b; cases v <;> (exact ret0 rfl)
 ·exact ret0 rfl)
theorem c51 (n:N):Fn k 51 [.fr n.p] (.int n.ht):=.fn (fm 10 rfl) k51 (Nat.le_refl 1) (Nat.le_refl 1) (by
 cases n with
 | rule w h d=>cases h <;> (exact ret0 rfl)
 | box b is=>obtain ⟨v,w⟩:=b; cases v <;> (exact ret0 rfl)
 | _=>exact ret0 rfl)
theorem c52 (n:N):Fn k 52 [.fr n.p] (.int n.dp):=.fn (fm 11 rfl) k52 (Nat.le_refl 1) (Nat.le_refl 1) (by
 cases n with
 | rule w h d=>cases d <;> (exact ret0 rfl)
 | box b is=>obtain ⟨v,w⟩:=b; cases v <;> (exact ret0 rfl)
 | _=>exact ret0 rfl)
theorem c53 (n:N):Fn (k+1) 53 [.fr n.p] (.int n.lh):=.fn (fm 12 rfl) k53 (Nat.le_refl 1) (Nat.le_refl 1) (by
 have c:=c51 (k:=k) n
 cases n with
 | box b is=>obtain ⟨v,w⟩:=b; cases v <;> (exact ret0 rfl)
 | _=>refine use0 c rfl ?_; exact ret0 rfl)
theorem c54 (n:N):Fn (k+1) 54 [.fr n.p] (.int n.ld):=.fn (fm 13 rfl) k54 (Nat.le_refl 1) (Nat.le_refl 1) (by
 have c:=c52 (k:=k) n
 cases n with
 | box b is=>obtain ⟨v,w⟩:=b; cases v <;> (exact ret0 rfl)
 | _=>refine use0 c rfl ?_; exact ret0 rfl)
theorem c59 (n:N):Fn (k+1) 59 [.fr n.p] (.int n.ac):=.fn (fm 15 rfl) k59 (Nat.le_refl 1) (Nat.le_refl 1) (by
 have c:=c50 (k:=k) n
 cases n with
 | box b is=>obtain ⟨v,w⟩:=b; cases v <;> (exact ret0 rfl)
 | skip g s=>exact ret0 rfl
 | kern w s=>exact ret0 rfl
 | _=>refine use0 c rfl ?_; exact ret0 rfl)
noncomputable def quo (u d:Int):Int×Int:=if 0<d then (u,d) else (-u,-d)
theorem c62 {u d:Int}:Fn k 62 [.fr (.int u),.fr (.int d)] (.tup [.int (quo u d).1,.int (quo u d).2]):=.fn (fm 18 rfl) k62 (Nat.le_refl 2) (Nat.le_refl 2) (by
 unfold quo
 by_cases h:0<d
 ·refine brT (dT h) ?_
  refine ⟨Nat.le_of_ble_eq_true rfl,ret0 ?_⟩
  rw [if_pos h]
 ·refine brF (dF h) ?_
  refine ⟨Nat.le_of_ble_eq_true rfl,ret0 ?_⟩
  rw [if_neg h])
noncomputable def rnd (x y:Int):Int:=if x<0 then -((y-2*x).fdiv (2*y)) else (2*x+y).fdiv (2*y)
theorem two:(2:Int).natAbs<2 ^ 63:=by decide
theorem c18 {x y:Int}(h:0<y)(hb:y<2 ^ 60):Fn k 18 [.fr (.int x),.fr (.int y)] (.int (rnd x y)):=.fn (fm 4 rfl) k18 (Nat.le_refl 2) (Nat.le_refl 2) (by
 refine brF (dF (Int.not_le.mpr h)) ?_
 have ny:2*y≠0∧(2*y).natAbs<2 ^ 63:=⟨Int.ne_of_gt (Int.mul_pos (by decide) h),bd_na (bd_mul 2 (by decide) ⟨Int.le_of_lt h,Int.le_of_lt hb⟩) (by decide) (by decide)⟩
 unfold rnd
 by_cases hx:x<0
 ·refine brT (dT hx) ?_
  refine ⟨.inl two,?_⟩
  refine ⟨.inl two,?_⟩
  refine ⟨ny.1,ny.2,?_⟩
  exact ret0 (by rw [if_pos hx])
 ·refine brF (dF hx) ?_
  refine ⟨.inl two,?_⟩
  refine ⟨.inl two,?_⟩
  refine ⟨ny.1,ny.2,?_⟩
  exact ret0 (by rw [if_neg hx]))
end
section
variable {k:Nat}
noncomputable def bdr (e t:Int):Int:=if e≤7230584 then (e*297).fdiv t else if 1663497≤t then e.fdiv (t.fdiv 297) else e
noncomputable def bad (e t:Int):Int:=if e=0 then 0 else if t≤0 then 10000 else if 1290<bdr e t then 10000 else (bdr e t*bdr e t*bdr e t+131072).fdiv 262144
theorem bdr_nn {e t:Int}(h0:0≤e)(ht:0<t):0≤bdr e t:=by
 unfold bdr
 split
 ·exact Int.fdiv_nonneg (Int.mul_nonneg h0 (by decide)) (Int.le_of_lt ht)
 ·split
  ·exact Int.fdiv_nonneg h0 (Int.fdiv_nonneg (Int.le_of_lt ht) (by decide))
  ·exact h0
theorem c25 {e t:Int}(h0:0≤e)(hb:t<2 ^ 60):Fn k 25 [.fr (.int e),.fr (.int t)] (.int (bad e t)):=.fn (fm 5 rfl) k25 (Nat.le_refl 2) (Nat.le_refl 2) (by
 refine brF (dF (Int.not_lt.mpr h0)) ?_
 unfold bad
 by_cases h1:e=0
 ·refine brT (dT h1) ?_
  exact ret0 (by rw [if_pos h1])
 refine brF (dF h1) ?_
 refine (Eq.symm (if_neg h1))▸?_
 by_cases h2:t≤0
 ·refine brT (dT h2) ?_
  exact ret0 (by rw [if_pos h2])
 refine brF (dF h2) ?_
 refine (Eq.symm (if_neg h2))▸?_
 have tl:∀ q r,q=.int (bdr e t)→r=Rs.ok (.fr (.int (if 1290<bdr e t then 10000 else (bdr e t*bdr e t*bdr e t+131072).fdiv 262144))) []→sT (cOf 25 []) b25_10 ⟨GG nS k,r=.ovf⟩ [(21,.fr (.int e)),(84,.fr (.int t)),(63,.fr q)] [] (retK 0 r):=fun q r eq er=>by
  refine (Eq.symm eq)▸?_
  by_cases h:1290<bdr e t
  ·refine brT (dT h) ?_
   exact ret0 (by rw [er,if_pos h])
  ·refine brF (dF h) ?_
   have n0:=bdr_nn h0 (Int.not_le.mp h2)
   have sm:(bdr e t).natAbs<2 ^ 63:=bd_na ⟨n0,Int.not_lt.mp h⟩ (by decide) (by decide)
   refine ⟨.inl sm,?_⟩
   refine ⟨.inr sm,?_⟩
   refine ⟨by decide,by decide,?_⟩
   exact ret0 (by rw [er,if_neg h])
 have t0:t≠0:=fun z=>h2 (by rw [z]; decide)
 by_cases h3:e≤7230584
 ·refine brT (dT h3) ?_
  have e1:(e*297).fdiv t=bdr e t:=(if_pos h3).symm
  refine ⟨.inr (by decide),?_⟩
  exact ⟨t0,bd_na ⟨Int.le_of_lt (Int.not_le.mp h2),Int.le_of_lt hb⟩ (by decide) (by decide),tl (.int _) _ (congrArg PV.int e1) rfl⟩
 refine brF (dF h3) ?_
 by_cases h4:1663497≤t
 ·refine brT (dT h4) ?_
  have e1:e.fdiv (t.fdiv 297)=bdr e t:=((if_neg h3).trans (if_pos h4)).symm
  have q1:t.fdiv 297≠0∧(t.fdiv 297).natAbs<2 ^ 63:=by
   rw [Int.fdiv_eq_ediv_of_nonneg t (by decide)]
   have a1:1≤t / 297:=Int.le_ediv_of_mul_le (by decide) (Int.le_trans (by decide) h4)
   exact ⟨Int.ne_of_gt (Int.lt_of_lt_of_le (by decide) a1),bd_na ⟨a1,Int.le_trans (Int.ediv_le_self _ (Int.le_trans (by decide) h4)) (Int.le_of_lt hb)⟩ (by decide) (by decide)⟩
  refine ⟨by decide,by decide,?_⟩
  exact ⟨q1.1,q1.2,tl (.int _) _ (congrArg PV.int e1) rfl⟩
 ·refine brF (dF h4) ?_
  have e1:e=bdr e t:=((if_neg h3).trans (if_neg h4)).symm
  exact tl (.int _) _ (congrArg PV.int e1) rfl)
end
noncomputable def Itr.items:Itr→List IC
 | .seq xs=>xs.map .one
 | .rng a b=>(List.range (b-a).toNat).map fun k=>.one (.int (a+(k:Nat)))
 | .enu xs=>xs.zipIdx.map fun p=>.two (.int p.2) p.1
theorem Itr.items_len (I:Itr):I.items.length=I.len:=by
 rcases I with ⟨xs⟩|⟨a,b⟩|⟨xs⟩
 ·exact List.length_map ..
 ·exact (List.length_map ..).trans List.length_range
 ·exact (List.length_map ..).trans List.length_zipIdx
theorem Itr.all_of {I:Itr}{k:Nat}{P:IC→Prop}(h:∀ i,I.items[k]?=some i→P i):I.all P k:=by
 rcases I with ⟨xs⟩|⟨a,b⟩|⟨xs⟩
 ·exact fun v e=>h _ (by unfold Itr.items; rw [List.getElem?_map,e]; rfl)
 ·exact fun e=>h _ (by unfold Itr.items; rw [List.getElem?_map,List.getElem?_range e]; rfl)
 ·exact fun v e=>h _ (by unfold Itr.items; rw [List.getElem?_map,List.getElem?_zipIdx,e]; show some (IC.two (PV.int (((0+k:Nat)):Int)) v)=_; rw [Nat.zero_add])
theorem cOf_half (f:Nat)(H:List OB):cOf f H / 2=H.length:=by
 unfold cOf
 rcases (cellNames (scopeOf (fSt f)).names).isEmpty with _|_
 ·show (2*H.length+1) / 2=_; rw [Nat.mul_add_div (by decide)]; rfl
 ·show (2*H.length+0) / 2=_; rw [Nat.mul_add_div (by decide)]; rfl
section
variable {σ β:Type} {P:Px} {c m:Nat} {ts:List Nat} {w:WT} {ρ:En} {K:KT} {H:List OB} {I:Itr}
theorem fold_take (stp:σ→β→σ)(s0:σ)(bs:List β){k:Nat}{b:β}(e:bs[k]?=some b):(bs.take (k+1)).foldl stp s0=stp ((bs.take k).foldl stp s0) b:=by
 obtain ⟨h,rfl⟩:=List.getElem?_eq_some_iff.mp e
 rw [List.take_succ_eq_append_getElem h,List.foldl_append]; rfl
theorem loopK (enc:σ→En×List OB)(Inv:Nat→σ→Prop)(stp:σ→β→σ)(s0:σ)(bs:List β)(g:β→IC)(hI:I.items=bs.map g)(hc:c / 2=m)(i0:Inv 0 s0)(h0:preH (enc s0).2 H)(a0:agr ρ (enc s0).1)(ok:∀ s,okJ m (enc s).1 (enc s).2=true)
  (hs:∀ k s b,bs[k]?=some b→Inv k s→bindO ts (g b) (enc s).1 fun ρ=>w ρ (enc s).2 (kTurn (Inv (k+1) (stp s b)) (enc (stp s b)) K))
  (fin:Inv bs.length (bs.foldl stp s0)→K .nx (enc (bs.foldl stp s0)).1 (enc (bs.foldl stp s0)).2):kLoop c ts w ρ K H I:=by
 have hl:I.len=bs.length:=by rw [← I.items_len,hI,List.length_map]
 unfold kLoop
 refine ⟨fun k=>enc ((bs.take k).foldl stp s0),fun k=>Inv k ((bs.take k).foldl stp s0),i0,h0,a0,fun k=>by rw [hc]; exact ok _,fun k hk=>Itr.all_of fun i e=>?_,by rw [hl]; dsimp only; rw [List.take_length]; exact fin⟩
 rw [hI,List.getElem?_map] at e
 rcases eb:bs[k]? with _|⟨b⟩
 ·rw [eb] at e; injection e
 ·rw [eb] at e
  obtain rfl:=Option.some.inj e
  have:=hs k _ b eb hk
  rw [← fold_take stp s0 bs eb] at this
  exact this
theorem loopL (enc:σ→En×List OB)(Inv:σ→Prop)(stp:σ→β→σ)(s0:σ)(bs:List β)(g:β→IC)(hI:I.items=bs.map g)(hc:c / 2=m)(i0:Inv s0)(h0:preH (enc s0).2 H)(a0:agr ρ (enc s0).1)(ok:∀ s,okJ m (enc s).1 (enc s).2=true)
  (hs:∀ s b,b∈bs→Inv s→bindO ts (g b) (enc s).1 fun ρ=>w ρ (enc s).2 (kTurn (Inv (stp s b)) (enc (stp s b)) K))
  (fin:Inv (bs.foldl stp s0)→K .nx (enc (bs.foldl stp s0)).1 (enc (bs.foldl stp s0)).2):kLoop c ts w ρ K H I :=
 loopK enc (fun zz=>Inv) stp s0 bs g hI hc i0 h0 a0 ok (fun zz s b hb hi=>hs s b (List.mem_of_getElem? hb) hi) fin
theorem get_lt {b:β}{bs:List β}{k:Nat}(h:bs[k]?=some b):k<bs.length:=(List.getElem?_eq_some_iff.mp h).1
theorem preH_app:∀(J R:List OB),preH J (J++R)
 | [],z1=>trivial
 | z1::J,R=>⟨rfl,preH_app J R⟩
theorem agr_of2:∀{J:En},(J.map fun p=>lk ρ p.1)=J.map (fun p=>some p.2)→agr ρ J
 | [],z1=>trivial
 | z1::z2,e=>⟨(List.cons.inj e).1,agr_of2 (List.cons.inj e).2⟩
theorem turnI {B:Prop}{J1:En}{J2:List OB}(hB:B)(R:List OB)(e1:H=J2++R)(e2:(J1.map fun p=>lk ρ p.1)=J1.map fun p=>some p.2):B∧preH J2 H∧agr ρ J1:=⟨hB,e1▸preH_app J2 R,agr_of2 e2⟩
noncomputable def outs (stp:σ→β→σ)(val:σ→β→Option PV):σ→List β→List PV
 | z1,[]=>[]
 | s,b::r=>(val s b).toList++outs stp val (stp s b) r
theorem outs_take (stp:σ→β→σ)(val:σ→β→Option PV):∀(bs:List β)(s0:σ){k:Nat}{b:β},bs[k]?=some b→outs stp val s0 (bs.take (k+1))=outs stp val s0 (bs.take k)++(val ((bs.take k).foldl stp s0) b).toList
 | [],z1,z2,z3,e=>by injection e
 | a::r,s,0,b,e=>by obtain rfl:=Option.some.inj e; exact List.append_nil _
 | a::r,s,k+1,b,e=>by
  show _++outs stp val (stp s a) (r.take (k+1))=(_++outs stp val (stp s a) (r.take k))++_
  rw [outs_take stp val r (stp s a) (k:=k) e,List.append_assoc]; rfl
theorem compL {fv:List Nat}{wc:En→List OB→(Bool→List OB→Prop)→Prop}{we:En→WQ}{K:KQ}(enc:σ→List OB)(stp:σ→β→σ)(val:σ→β→Option PV)(s0:σ)(bs:List β)(g:β→IC)(hI:I.items=bs.map g)(hl:bs.length≤1000)(h0:enc s0=H)(ok:∀ s,okH H.length (enc s)=true)
  (hs:∀ s b A,b∈bs→bindO ts (g b) (frees fv ρ) fun ρ=>wc ρ (enc s) (kPick (we ρ) A (A++(val s b).toList) (enc (stp s b))))
  (fin:newL (enc (bs.foldl stp s0)) (outs stp val s0 bs) K):kComp fv ts wc we ρ K H I:=by
 have hL:I.len=bs.length:=by rw [← I.items_len,hI,List.length_map]
 unfold kComp
 refine ⟨hL▸hl,fun k=>enc ((bs.take k).foldl stp s0),fun k=>outs stp val s0 (bs.take k),h0,rfl,fun k=>ok _,fun k=>Itr.all_of fun i e=>?_,by rw [hL]; dsimp only; rw [List.take_length]; exact fin⟩
 rw [hI,List.getElem?_map] at e
 rcases eb:bs[k]? with _|⟨b⟩
 ·rw [eb] at e; injection e
 ·rw [eb] at e
  obtain rfl:=Option.some.inj e
  have:=hs ((bs.take k).foldl stp s0) b (outs stp val s0 (bs.take k)) (List.mem_of_getElem? eb)
  rw [← fold_take stp s0 bs eb,← outs_take stp val bs s0 eb] at this
  exact this
theorem outs_pure (v:β→Option PV):∀(bs:List β)(s:σ),outs (fun s zz=>s) (fun zz=>v) s bs=bs.filterMap v
 | [],z1=>rfl
 | b::r,s=>by
  show (v b).toList++outs _ _ s r=_
  refine (Eq.symm (outs_pure v r s))▸?_; refine (Eq.symm List.filterMap_cons)▸?_
  cases v b <;> rfl
theorem outs_map (v:β→PV)(bs:List β)(s:σ):outs (fun s zz=>s) (fun zz b=>some (v b)) s bs=bs.map v:=by
 rw [outs_pure (fun b=>some (v b)),List.filterMap_eq_map']
theorem compM {fv:List Nat}{wc:En→List OB→(Bool→List OB→Prop)→Prop}{we:En→WQ}{K:KQ}(v:β→PV)(bs:List β)(g:β→IC)(hI:I.items=bs.map g)(hl:bs.length≤1000)(ok:okH H.length H=true)
  (hs:∀ b A,b∈bs→bindO ts (g b) (frees fv ρ) fun ρ=>wc ρ H (kPick (we ρ) A (A++[v b]) H))
  (fin:newL H (bs.map v) K):kComp fv ts wc we ρ K H I :=
 compL (σ:=Unit) (fun zz=>H) (fun s zz=>s) (fun zz b=>some (v b)) () bs g hI hl rfl (fun zz=>ok) (fun zz b A hb=>hs b A hb) (by rw [outs_map]; exact fin)
theorem items_seq (f:β→PV)(bs:List β):(Itr.seq (bs.map f)).items=bs.map fun b=>.one (f b):=List.map_map
theorem items_N (ns:List N):(Itr.seq (Ns.p ns)).items=ns.map fun n=>.one n.p:=by rw [Ns_map]; exact items_seq _ _
theorem items_enu (f:β→PV)(bs:List β):(Itr.enu (bs.map f)).items=bs.zipIdx.map fun p=>.two (.int p.2) (f p.1):=by
 show ((bs.map f).zipIdx.map _)=_
 rw [List.zipIdx_map,List.map_map]; rfl
end
noncomputable def getI (l:List Int)(o:Int):Int:=l.getD o.toNat 0
noncomputable def addI (l:List Int)(o x:Int):List Int:=l.set o.toNat (getI l o+x)
noncomputable def T0:T:=⟨0,[0,0,0,0],[0,0,0,0]⟩
noncomputable def T.add (t:T)(g:G):T:=⟨t.nat+g.w,addI t.st g.so g.st,addI t.sh g.sho g.sh⟩
noncomputable def T.wide (t:T)(x:Int):T:=⟨t.nat+x,t.st,t.sh⟩
noncomputable def top (l:List Int):Int:=if getI l 3≠0 then 3 else if getI l 2≠0 then 2 else if getI l 1≠0 then 1 else 0
theorem top_lo (l:List Int):0≤top l:=by unfold top; (repeat' split) <;> decide
theorem top_hi (l:List Int):top l<4:=by unfold top; (repeat' split) <;> decide
noncomputable def T.ok (t:T):Prop:=t.st.length=4∧t.sh.length=4
theorem T.ok_add {t:T}{g:G}(h:t.ok):(t.add g).ok:=⟨by show (List.set _ _ _).length=4; rw [List.length_set]; exact h.1,by show (List.set _ _ _).length=4; rw [List.length_set]; exact h.2⟩
theorem T.ok_wide {t:T}{x:Int}(h:t.ok):(t.wide x).ok:=h
theorem T0_ok:T0.ok:=⟨rfl,rfl⟩
noncomputable def G.ok (g:G):Prop:=0≤g.so∧g.so<4∧0≤g.sho∧g.sho<4
theorem atP_ints {l:List Int}{i:Int}(h0:0≤i)(h1:i<l.length):atP (l.map .int) (.int i)=some (.int (getI l i)):=by
 obtain ⟨n,rfl⟩:=Int.eq_ofNat_of_zero_le h0
 have h1:n<l.length:=Int.ofNat_lt.mp h1
 show (l.map PV.int)[n]?=some (.int (l.getD n 0))
 rw [List.getElem?_map,List.getD_eq_getElem?_getD,List.getElem?_eq_getElem h1]; rfl
theorem set_ints (l:List Int)(i:Nat)(x:Int):(l.map PV.int).set i (.int x)=(l.set i x).map .int:=List.map_set.symm
section
variable {k:Nat}
theorem c29 {l:List Int}(h4:l.length=4):Fn k 29 [.fr (.lst (l.map .int))] (.int (top l)):=.fn (fm 6 rfl) k29 (Nat.le_refl 1) (Nat.le_refl 1) (by
 obtain ⟨a,b,c,d,rfl⟩:∃ a b c d,l=[a,b,c,d]:=by
  rcases l with _|⟨a,_|⟨b,_|⟨c,_|⟨d,_|⟨e,r⟩⟩⟩⟩⟩ <;> first|exact ⟨_,_,_,_,rfl⟩|exact absurd h4 (by simp)
 have e:top [a,b,c,d]=if d≠0 then 3 else if c≠0 then 2 else if b≠0 then 1 else 0:=rfl
 refine (Eq.symm e)▸?_
 refine ⟨Nat.le_of_ble_eq_true rfl,?_⟩
 unfold kLoop
 refine ⟨fun zz=>([(81,.fr (.lst [.int a,.int b,.int c,.int d]))],[]),fun n=>(0<n→d=0)∧(1<n→c=0)∧(2<n→b=0),⟨fun h=>absurd h (Nat.lt_irrefl 0),fun h=>absurd h (Nat.not_lt_zero _),fun h=>absurd h (Nat.not_lt_zero _)⟩,trivial,⟨rfl,trivial⟩,fun zz=>by rw [cOf_half]; rfl,fun n hB v hv=>?_,fun hB=>?_⟩
 ·match n,hv,hB with
  | 0,hv,_ =>
   (injection hv with hv; subst hv)
   by_cases h:d≠0
   ·refine brT (dT h) ?_
    exact ret0 (by rw [if_pos h])
   ·refine brF (dF h) ?_
    exact turnI ⟨fun zz=>Decidable.not_not.mp h,fun h=>absurd h (by decide),fun h=>absurd h (by decide)⟩ [] rfl rfl
  | 1,hv,hB =>
   (injection hv with hv; subst hv)
   have h0:=hB.1 (by decide)
   by_cases h:c≠0
   ·refine brT (dT h) ?_
    exact ret0 (by rw [if_neg (not_not_intro h0),if_pos h])
   ·refine brF (dF h) ?_
    exact turnI ⟨fun zz=>h0,fun zz=>Decidable.not_not.mp h,fun h=>absurd h (by decide)⟩ [] rfl rfl
  | 2,hv,hB =>
   (injection hv with hv; subst hv)
   have h0:=hB.1 (by decide)
   have h1:=hB.2.1 (by decide)
   by_cases h:b≠0
   ·refine brT (dT h) ?_
    exact ret0 (by rw [if_neg (not_not_intro h0),if_neg (not_not_intro h1),if_pos h])
   ·refine brF (dF h) ?_
    exact turnI ⟨fun zz=>h0,fun zz=>h1,fun zz=>Decidable.not_not.mp h⟩ [] rfl rfl
  | _+3,hv,_=>injection hv
 ·have h0:=hB.1 (show 0<3 by decide)
  have h1:=hB.2.1 (show 1<3 by decide)
  have h2:=hB.2.2 (show 2<3 by decide)
  exact ret0 (by rw [if_neg (not_not_intro h0),if_neg (not_not_intro h1),if_neg (not_not_intro h2)]))
noncomputable def TO (t:T):List OB:=[.obj 30 [.fr (.int t.nat),.own 1,.own 2],.lst (t.st.map .int),.lst (t.sh.map .int)]
theorem c30:Cl (k+1) 30 [] [] (.ok (.own 0) (TO T0)):=clsI (H:=[]) (qs:=[]) 1 rfl (.fn (fm 56 rfl) k3000 (Nat.le_refl 1) (Nat.le_refl 1) (by
 refine ⟨Nat.le_of_ble_eq_true rfl,?_⟩
 refine ⟨Nat.le_of_ble_eq_true rfl,?_⟩
 exact retN 3 rfl rfl))
theorem c3002 {t:T}{w:Int}:Cl k 3002 (TO t) [.own 0,.fr (.int w)] (.ok (.fr .none) (TO (t.wide w))):=.fn (fm 58 rfl) k3002 (Nat.le_refl 2) (Nat.le_refl 2) (by
 exact retN 3 rfl rfl)
theorem c3001 {t:T}{g:G}(ht:t.ok)(hg:g.ok):Cl k 3001 (TO t) [.own 0,.fr g.p] (.ok (.fr .none) (TO (t.add g))):=.fn (fm 57 rfl) k3001 (Nat.le_refl 2) (Nat.le_refl 2) (by
 (conv=>whnf)
 rw [atP_ints hg.1 (by rw [ht.1]; exact hg.2.1)]
 refine ⟨hg.1,(by rw [List.length_map,ht.1]; exact (Int.toNat_lt hg.1).mpr hg.2.1),?_⟩
 (conv=>whnf)
 rw [atP_ints hg.2.2.1 (by rw [ht.2]; exact hg.2.2.2)]
 refine ⟨hg.2.2.1,(by rw [List.length_map,ht.2]; exact (Int.toNat_lt hg.2.2.1).mpr hg.2.2.2),?_⟩
 rw [set_ints,set_ints]
 exact retN 3 rfl rfl)
theorem c3003 {t:T}(ht:t.ok):Fn (k+1) 3003 [.fr t.p] (.int (top t.st)):=.fn (fm 59 rfl) k3003 (Nat.le_refl 1) (Nat.le_refl 1) (by
 refine use0 (c29 ht.1) rfl ?_
 exact ret0 rfl)
theorem c3004 {t:T}(ht:t.ok):Fn (k+1) 3004 [.fr t.p] (.int (top t.sh)):=.fn (fm 60 rfl) k3004 (Nat.le_refl 1) (Nat.le_refl 1) (by
 refine use0 (c29 ht.2) rfl ?_
 exact ret0 rfl)
theorem useT {f:Nat}{t t':T}{R:List OB}{H:List OB}{X:Prop}{K:KQ}{qs:List QV}{v:PV}(c:Cl k f (TO t) (.own 0::qs) (.ok (.fr v) (TO t')))(e:frs qs=true)(hH:H=TO t++R)(h:K (TO t'++R) (.fr v)):callQ ⟨GG nS (k+1),X⟩ f H (.own 0::qs) K:=by
 subst hH
 have e1:(QV.own 0::qs).foldl (selQ (TO t++R)) []=[0,1,2]:=frs_sel e
 have e3:renQs (TO t++R) [0,1,2] (.own 0::qs)=some (.own 0::qs):=by
  have:∀(H:List OB)(sel:List Nat)(qs:List QV),frs qs=true→renQs H sel qs=some qs:=by
   intro H sel qs
   induction qs with
   | nil=>intro _; rfl
   | cons q r ih=>cases q with
    | fr v =>
     intro h
     unfold renQs
     rw [ih h]; rfl
    | own i=>intro h; exact absurd h Bool.false_ne_true
  unfold renQs
  rw [this _ _ _ e]; rfl
 have e4:mrg (TO t++R) [0,1,2] (TO t')=(TO t'++R)++[]:=rfl
 refine useN [0,1,2] c e1 rfl e3 rfl ?_
 rw [e4,List.append_nil]; exact h
end
set_option tactic.hygienic true
structure S where
 sign:Int
 order:Int
 r0:Int
 r1:Int
noncomputable def T.tot (t:T)(x:Int):Int:=if 0<x then getI t.st (top t.st) else getI t.sh (top t.sh)
noncomputable def T.ord (t:T)(x:Int):Int:=if 0<x then top t.st else top t.sh
noncomputable def repO (o tt x:Int):Int×Int:=if o=0∧x<0∧tt < -x then (3,-x-tt) else if o=0 then (if 0<x then 1 else 2,bad x.natAbs tt) else (0,0)
noncomputable def setO (o tt x:Int):S:=if tt=0 then ⟨0,0,0,1⟩ else if (repO o tt x).1=3 then ⟨2,o,1,1⟩ else ⟨if 0<x then 1 else 2,o,(quo x.natAbs tt).1,(quo x.natAbs tt).2⟩
noncomputable def rep (t:T)(x:Int):Int×Int:=if x=0 then (0,0) else repO (t.ord x) (t.tot x) x
noncomputable def setG (t:T)(x:Int):S:=if x=0 then ⟨0,0,0,1⟩ else setO (t.ord x) (t.tot x) x
noncomputable abbrev pr (p:Int×Int):PV:=.tup [.int p.1,.int p.2]
noncomputable def sgP (s:S)(p:Int×Int):PV:=.tup [.int s.sign,.int s.order,.tup [.int s.r0,.int s.r1],pr p]
theorem le4 {α:Type}{xs:List α}(h:Nat.ble xs.length 1000=true):xs.length≤1000:=Nat.le_of_ble_eq_true h
section
variable {k:Nat}
theorem t63 {v:PV}{o tt x:Int}{p:Int×Int}(hp:p=repO o tt x){r:Rs}(hr:r=.ok (.fr (sgP (setO o tt x) p)) []):sT (cOf 63 []) b63_8 ⟨GG nS (k+1),r=.ovf⟩ [(85,.fr v),(21,.fr (.int x)),(54,.fr (.int o)),(84,.fr (.int tt)),(65,.fr (pr p))] [] (retK 0 r):=by
 unfold setO at hr
 rw [← hp] at hr
 by_cases h0:tt=0
 ·refine brT (dT h0) ?_
  rw [if_pos h0] at hr
  refine ⟨le4 rfl,?_⟩
  exact ⟨le4 rfl,ret0 hr⟩
 refine brF (dF h0) ?_
 rw [if_neg h0] at hr
 by_cases h3:p.1=3
 ·refine brT (dT h3) ?_
  rw [if_pos h3] at hr
  refine ⟨le4 rfl,?_⟩
  exact ⟨le4 rfl,ret0 hr⟩
 refine brF (dF h3) ?_
 rw [if_neg h3] at hr
 by_cases hx:0<x
 ·refine brT (dT hx) ?_
  rw [if_pos hx] at hr
  refine use0 (c62) rfl ?_
  exact ⟨le4 rfl,ret0 hr⟩
 ·refine brF (dF hx) ?_
  rw [if_neg hx] at hr
  refine use0 (c62) rfl ?_
  exact ⟨le4 rfl,ret0 hr⟩
theorem u63 {v:PV}{o tt x:Int}(h0:x≠0)(hb:tt<2 ^ 60){r:Rs}(hr:r=.ok (.fr (sgP (setO o tt x) (repO o tt x))) []):sT (cOf 63 []) b63_11 ⟨GG nS (k+1),r=.ovf⟩ [(85,.fr v),(21,.fr (.int x)),(54,.fr (.int o)),(84,.fr (.int tt))] [] (retK 0 r):=by
 refine ⟨le4 rfl,?_⟩
 by_cases h1:o=0
 ·refine brT (dT h1) ?_
  have fin:∀ a:Int,(if 0<x then (1:Int) else 2)=a→sT (cOf 63 []) b63_9 ⟨GG nS (k+1),r=.ovf⟩ [(85,.fr v),(21,.fr (.int x)),(54,.fr (.int o)),(84,.fr (.int tt)),(65,.fr (pr (a,bad x.natAbs tt)))] [] (retK 0 r):=fun a ha=>by
   refine brT (dT h1) ?_
   by_cases h2:x<0
   ·refine brT (dT h2) ?_
    by_cases h3:tt < -x
    ·refine brT (dT h3) ?_
     refine ⟨le4 rfl,?_⟩
     exact t63 (p:=(3,-x-tt)) (by unfold repO; rw [if_pos ⟨h1,h2,h3⟩]) (by rw [hr]; unfold repO; rw [if_pos ⟨h1,h2,h3⟩])
    ·refine brF (dF h3) ?_
     have e:repO o tt x=(a,bad x.natAbs tt):=by unfold repO; rw [if_neg (fun h=>h3 h.2.2),if_pos h1,ha]
     exact t63 e.symm (by rw [hr,e])
   ·refine brF (dF h2) ?_
    have e:repO o tt x=(a,bad x.natAbs tt):=by unfold repO; rw [if_neg (fun h=>h2 h.2.1),if_pos h1,ha]
    exact t63 e.symm (by rw [hr,e])
  by_cases hx:0<x
  ·refine brT (dT hx) ?_
   refine use0 (c25 (Int.natCast_nonneg _) hb) rfl ?_
   exact ⟨le4 rfl,fin 1 (if_pos hx)⟩
  ·refine brF (dF hx) ?_
   refine use0 (c25 (Int.natCast_nonneg _) hb) rfl ?_
   exact ⟨le4 rfl,fin 2 (if_neg hx)⟩
 ·refine brF (dF h1) ?_
  refine brF (dF h1) ?_
  have e:repO o tt x=(0,0):=by unfold repO; rw [if_neg (fun h=>h1 h.1),if_neg h1]
  exact t63 (p:=(0,0)) e.symm (by rw [hr,e])
theorem c63 {t:T}{x:Int}(ht:t.ok)(hb:t.tot x<2 ^ 60):Fn (k+3) 63 [.fr t.p,.fr (.int x)] (sgP (setG t x) (rep t x)):=.fn (fm 19 rfl) k63 (Nat.le_refl 2) (Nat.le_refl 2) (by
 delta setG rep
 by_cases h0:x=0
 ·refine brT (dT h0) ?_
  rw [if_pos h0,if_pos h0]
  refine ⟨le4 rfl,?_⟩
  refine ⟨le4 rfl,?_⟩
  exact ⟨le4 rfl,ret0 rfl⟩
 refine brF (dF h0) ?_
 rw [if_neg h0,if_neg h0]
 delta T.tot at hb
 by_cases hx:0<x
 ·refine brT (dT hx) ?_
  refine use0 (c3003 ht) rfl ?_
  refine brT (dT hx) ?_
  (conv=>whnf)
  rw [atP_ints (top_lo _) (by rw [ht.1]; exact top_hi _)]
  rw [if_pos hx] at hb
  refine u63 h0 hb ?_
  delta T.tot T.ord
  rw [if_pos hx,if_pos hx]
 ·refine brF (dF hx) ?_
  refine use0 (c3004 ht) rfl ?_
  refine brF (dF hx) ?_
  (conv=>whnf)
  rw [atP_ints (top_lo _) (by rw [ht.2]; exact top_hi _)]
  rw [if_neg hx] at hb
  refine u63 h0 hb ?_
  delta T.tot T.ord
  rw [if_neg hx,if_neg hx])
end
set_option tactic.hygienic false
noncomputable def lineT (t:T):N→T
 | .skip g z1=>t.add g
 | n=>t.wide n.wd
noncomputable def lineStep (s:T×Int×Int)(n:N):T×Int×Int:=(lineT s.1 n,max s.2.1 n.lh,max s.2.2 n.ld)
noncomputable def natLine (ns:List N):T×Int×Int:=ns.foldl lineStep (T0,0,0)
noncomputable def colStep (s:T×Int×Int)(n:N):T×Int×Int:=match n with
 | .skip g z1=>((s.1.wide s.2.2).add g,max s.2.1 n.ac,0)
 | .kern k z1=>(s.1.wide (s.2.2+k),max s.2.1 n.ac,0)
 | .pen z1=>(s.1,max s.2.1 n.ac,s.2.2)
 | n=>(s.1.wide (s.2.2+n.ht),max s.2.1 n.ac,n.dp)
noncomputable def natCol (ns:List N):T×Int×Int:=ns.foldl colStep (T0,0,0)
noncomputable def N.gok:N→Prop
 | .skip g z1=>g.ok
 | z1=>True
theorem lineT_ok {t:T}{n:N}(h:t.ok):(lineT t n).ok:=by cases n <;> first|exact T.ok_add h|exact T.ok_wide h
theorem colStep_ok {s:T×Int×Int}{n:N}(h:s.1.ok):(colStep s n).1.ok:=by cases n <;> first|exact T.ok_add (T.ok_wide h)|exact T.ok_wide h|exact h
section
variable {k:Nat}
theorem c60 (ns:List N):Fn k 60 [.fr (.lst (Ns.p ns))] .none:=.fn (fm 16 rfl) k60 (Nat.le_refl 1) (Nat.le_refl 1) (by
 refine loopL (σ:=Unit) (fun zz=>([],[])) (fun zz=>True) (fun s zz=>s) () ns _ (items_N ns) (cOf_half _ _) trivial trivial trivial (fun zz=>rfl) (fun s n zz zz=>?_) fun zz=>?_
 ·rcases n with _|_|_|_|⟨b,is⟩|_
  ·exact ⟨trivial,trivial,trivial⟩
  ·exact ⟨trivial,trivial,trivial⟩
  ·exact ⟨trivial,trivial,trivial⟩
  ·exact ⟨trivial,trivial,trivial⟩
  ·obtain ⟨v,w⟩:=b; cases v <;> (exact ⟨trivial,trivial,trivial⟩)
  ·exact ⟨trivial,trivial,trivial⟩
 ·exact ret0 rfl)
noncomputable abbrev e58 (s:T×Int×Int):En×List OB:=([(85,.own 0),(31,.fr (.int s.2.1)),(14,.fr (.int s.2.2))],TO s.1)
theorem t58 {X:Prop}{K:KT}(s:T×Int×Int)(n:N)(hg:n.gok)(hk:s.1.ok):sT (cOf 58 []) b58_5 (Px.calm ⟨GG nS (k+3),X⟩) (st (e58 s).1 51 (.fr n.p)) (TO s.1) (kTurn (lineStep s n).1.ok (e58 (lineStep s n)) K):=by
 have tl:∀ R,sT (cOf 58 []) b58_4 (Px.calm ⟨GG nS (k+3),X⟩) (st (e58 s).1 51 (.fr n.p)) (TO (lineT s.1 n)++R) (kTurn (lineStep s n).1.ok (e58 (lineStep s n)) K):=fun R=>by
  refine use0 (c53 n) rfl ?_
  refine use0 (c54 n) rfl ?_
  exact turnI (lineT_ok hk) R rfl rfl
 have ot:(∀ g so,n≠.skip g so)→lineT s.1 n=s.1.wide n.wd:=fun h=>by cases n <;> first|rfl|exact absurd rfl (h _ _)
 cases n with
 | skip g so =>
  exact useT (R:=[]) (c3001 hk hg) rfl rfl (tl [])
 | box b is =>
  have c:=c50 (k:=k+2) (.box b is)
  obtain ⟨v,w⟩:=b; cases v <;> (refine use0 c rfl ?_; exact useT (R:=[]) c3002 rfl rfl (tl []))
 | rule w h d =>
  refine use0 (c50 (.rule w h d)) rfl ?_
  exact useT (R:=[]) c3002 rfl rfl (tl [])
 | kern w h =>
  refine use0 (c50 (.kern w h)) rfl ?_
  exact useT (R:=[]) c3002 rfl rfl (tl [])
 | pen w =>
  refine use0 (c50 (.pen w)) rfl ?_
  exact useT (R:=[]) c3002 rfl rfl (tl [])
 | unset u is =>
  refine use0 (c50 (.unset u is)) rfl ?_
  exact useT (R:=[]) c3002 rfl rfl (tl [])
theorem c58 (ns:List N)(hg:∀ n∈ns,n.gok):Fn (k+3) 58 [.fr (.lst (Ns.p ns))] (.tup [(natLine ns).1.p,.int (natLine ns).2.1,.int (natLine ns).2.2]):=.fn (fm 14 rfl) k58 (Nat.le_refl 1) (Nat.le_refl 1) (by
 refine useN [] c30 rfl rfl rfl rfl ?_
 refine ⟨le4 rfl,?_⟩
 refine loopL e58 (fun s=>s.1.ok) lineStep (T0,0,0) ns _ (items_N ns) (cOf_half _ _) T0_ok (preH_app (TO T0) []) ⟨rfl,rfl,rfl,trivial⟩ (fun zz=>rfl) (fun s n hn hk=>t58 s n (hg n hn) hk) fun hk=>?_
 exact ⟨le4 rfl,ret0 rfl⟩)
theorem t61 {X:Prop}{K:KT}(s:T×Int×Int)(n:N)(hg:n.gok)(hk:s.1.ok):sT (cOf 61 []) b61_11 (Px.calm ⟨GG nS (k+3),X⟩) (st [(85,.own 0),(97,.fr (.int s.2.1)),(14,.fr (.int s.2.2))] 51 (.fr n.p)) (TO s.1) (kTurn (colStep s n).1.ok ([(85,.own 0),(97,.fr (.int (colStep s n).2.1)),(14,.fr (.int (colStep s n).2.2))],TO (colStep s n).1) K):=by
 refine use0 (c59 n) rfl ?_
 rcases n with ⟨g,so⟩|⟨w,h⟩|⟨w,h,d⟩|⟨w⟩|⟨b,is⟩|⟨u,is⟩
 ·refine useT (R:=[]) c3002 rfl rfl ?_
  refine useT (R:=[]) (c3001 (T.ok_wide hk) hg) rfl rfl ?_
  exact turnI (T.ok_add (T.ok_wide hk)) [] rfl rfl
 ·refine useT (R:=[]) c3002 rfl rfl ?_
  exact turnI (T.ok_wide hk) [] rfl rfl
 ·refine use0 (c51 (.rule w h d)) rfl ?_
  refine useT (R:=[]) c3002 rfl rfl ?_
  refine use0 (c52 (.rule w h d)) rfl ?_
  exact turnI (T.ok_wide hk) [] rfl rfl
 ·exact turnI hk [] (List.append_nil _).symm rfl
 ·have e1:=c51 (k:=k+2) (.box b is)
  have e2:=c52 (k:=k+2) (.box b is)
  obtain ⟨v,w⟩:=b; cases v <;> (refine use0 e1 rfl ?_; refine useT (R:=[]) c3002 rfl rfl ?_; refine use0 e2 rfl ?_; exact turnI (T.ok_wide hk) [] rfl rfl)
 ·refine use0 (c51 (.unset u is)) rfl ?_
  refine useT (R:=[]) c3002 rfl rfl ?_
  refine use0 (c52 (.unset u is)) rfl ?_
  exact turnI (T.ok_wide hk) [] rfl rfl
theorem c61 (ns:List N)(hg:∀ n∈ns,n.gok):Cl (k+3) 61 [] [.fr (.lst (Ns.p ns))] (.ok (.own 3) (TO (natCol ns).1++[.tup [.own 0,.fr (.int (natCol ns).2.1),.fr (.int (natCol ns).2.2)]])):=.fn (fm 17 rfl) k61 (Nat.le_refl 1) (Nat.le_refl 1) (by
 refine use0 (c60 ns) rfl ?_
 refine useN [] c30 rfl rfl rfl rfl ?_
 refine ⟨le4 rfl,?_⟩
 refine loopL (fun s:T×Int×Int=>([(85,.own 0),(97,.fr (.int s.2.1)),(14,.fr (.int s.2.2))],TO s.1)) (fun s=>s.1.ok) colStep (T0,0,0) ns _ (items_N ns) (cOf_half _ _) T0_ok (preH_app (TO T0) []) ⟨rfl,rfl,rfl,trivial⟩ (fun zz=>rfl) (fun s n hn hk=>t61 s n (hg n hn) hk) fun hk=>?_
 exact ⟨le4 rfl,retN 4 rfl rfl⟩)
theorem colT_foldl_ok:∀(ns:List N)(s:T×Int×Int),s.1.ok→(ns.foldl colStep s).1.ok
 | [],z1,h=>h
 | n::r,s,h=>colT_foldl_ok r _ (colStep_ok h)
theorem natCol_ok (ns:List N):(natCol ns).1.ok:=colT_foldl_ok ns _ T0_ok
theorem lineT_foldl_ok:∀(ns:List N)(s:T×Int×Int),s.1.ok→(ns.foldl lineStep s).1.ok
 | [],z1,h=>h
 | n::r,s,h=>lineT_foldl_ok r _ (lineT_ok h)
theorem natLine_ok (ns:List N):(natLine ns).1.ok:=lineT_foldl_ok ns _ T0_ok
end
noncomputable def mkB (v:Bool)(w h d:Int):B:=⟨v,w,h,d,0,0,0,0,1⟩
noncomputable def B.put (b:B)(s:S):B:={ b with sign:=s.sign,order:=s.order,r0:=s.r0,r1:=s.r1 }
noncomputable def BX (b:B)(q:QV):OB:=.obj 39 [.fr (.int (kI b.v)),.fr (.int b.w),.fr (.int b.h),.fr (.int b.d),q,.fr (.int b.shift),.fr (.int b.sign),.fr (.int b.order),.fr (.tup [.int b.r0,.int b.r1])]
noncomputable def oDim (o:Option Int):Prop:=∀ i,o=some i→Dim i
section
variable {k:Nat}
theorem c39 {v:Bool}{w h d:Int}{l:PV}(h1:Dim w)(h2:Dim h)(h3:Dim d):Cl (k+3) 39 [] [.fr (.int (kI v)),.fr (.int w),.fr (.int h),.fr (.int d),.fr l] (.ok (.own 0) [BX (mkB v w h d) (.fr l)]):=clsI (H:=[]) 2 rfl (.fn (fm 61 rfl) k3900 (Nat.le_refl 6) (Nat.le_refl 6) (by
 refine use0 (c14 (by cases v <;> decide) (by cases v <;> decide)) rfl ?_
 refine use0 (c17 h1) rfl ?_
 refine use0 (c17 h2) rfl ?_
 refine use0 (c17 h3) rfl ?_
 exact ⟨le4 rfl,retN 1 rfl rfl⟩))
theorem c39o {v:Bool}{w h d:Int}(h1:Dim w)(h2:Dim h)(h3:Dim d):Cl (k+3) 39 [.lst []] [.fr (.int (kI v)),.fr (.int w),.fr (.int h),.fr (.int d),.own 0] (.ok (.own 1) [.lst [],BX (mkB v w h d) (.own 0)]):=clsI (H:=[.lst []]) 2 rfl (.fn (fm 61 rfl) k3900 (Nat.le_refl 6) (Nat.le_refl 6) (by
 refine use0 (c14 (by cases v <;> decide) (by cases v <;> decide)) rfl ?_
 refine use0 (c17 h1) rfl ?_
 refine use0 (c17 h2) rfl ?_
 refine use0 (c17 h3) rfl ?_
 exact ⟨le4 rfl,retN 2 rfl rfl⟩))
theorem x39 {v:Bool}{w h d:Int}{l:PV}(hx:¬Dim w∨Dim w∧¬Dim h):Cl (k+3) 39 [] [.fr (.int (kI v)),.fr (.int w),.fr (.int h),.fr (.int d),.fr l] .ovf:=.cls (r:=.ovf) (List.mem_of_getElem? (show mkT[2]?=some (39,0) from rfl)) (.inr (.fn (fm 61 rfl) k3900 (Nat.le_refl 6) (Nat.le_refl 6) (by
 refine use0 (c14 (by cases v <;> decide) (by cases v <;> decide)) rfl ?_
 rcases hx with h1|⟨h1,h2⟩
 ·exact useX (x17 h1) rfl rfl
 ·refine use0 (c17 h1) rfl ?_
  exact useX (x17 h2) rfl rfl))) fun q Ho e=>by injection e
theorem c40 {w h d:Option Int}(h1:oDim w)(h2:oDim h)(h3:oDim d):Cl (k+3) 40 [] [.fr (oi w),.fr (oi h),.fr (oi d)] (.ok (.own 0) [.obj 40 [.fr (oi w),.fr (oi h),.fr (oi d)]]):=clsI (H:=[]) 3 rfl (.fn (fm 62 rfl) k4001 (Nat.le_refl 4) (Nat.le_refl 4) (by
 refine ⟨le4 rfl,?_⟩
 refine loopL (σ:=Unit) (fun zz=>([(70,.own 0),(97,.fr (oi w)),(31,.fr (oi h)),(14,.fr (oi d))],[.obj 40 []])) (fun zz=>True) (fun s zz=>s) () [w,h,d] (fun o=>.one (oi o)) rfl (cOf_half _ _) trivial ⟨rfl,trivial⟩ ⟨rfl,rfl,rfl,rfl,trivial⟩ (fun zz=>rfl) (fun s o ho zz=>?_) fun zz=>?_
 ·have hd:oDim o:=by
   rcases List.mem_cons.mp ho with rfl|ho
   ·exact h1
   ·rcases List.mem_cons.mp ho with rfl|ho
    ·exact h2
    ·rcases List.mem_cons.mp ho with rfl|ho
     ·exact h3
     ·cases ho
  rcases o with _|⟨i⟩
  ·exact turnI trivial [] rfl rfl
  ·refine use0 (c17 (hd i rfl)) rfl ?_
   exact turnI trivial [] rfl rfl
 ·exact retN 1 rfl rfl))
theorem c41 {w:Int}(h:Dim w):Cl (k+3) 41 [] [.fr (.int w),.fr (.int 1)] (.ok (.own 0) [.obj 41 [.fr (.int w),.fr (.int 1)]]):=clsI (H:=[]) 4 rfl (.fn (fm 63 rfl) k4101 (Nat.le_refl 3) (Nat.le_refl 3) (by
 refine use0 (c14 (by decide) (by decide)) rfl ?_
 refine use0 (c17 h) rfl ?_
 exact retN 1 rfl rfl))
theorem c42 {g:PV}{s:Int}(h:s=0∨s=109):Cl (k+3) 42 [] [.fr g,.fr (.int s)] (.ok (.own 0) [.obj 42 [.fr g,.fr (.int s),.fr .none]]):=clsI (H:=[]) 5 rfl (.fn (fm 70 rfl) k4201 (by show 3≤4; decide) (Nat.le_refl 4) (by
 rcases h with rfl|rfl
 ·refine use0 (c14 (by decide) (by decide)) rfl ?_
  exact retN 1 rfl rfl
 ·refine use0 (f14 (by decide)) rfl ?_
  refine use0 (c14 (by decide) (by decide)) rfl ?_
  exact retN 1 rfl rfl))
theorem c43 {w:Int}(h:0≤w)(h':w≤1000):Cl (k+3) 43 [] [.fr (.int w)] (.ok (.own 0) [.obj 43 [.fr (.int w)]]):=clsI (H:=[]) 6 rfl (.fn (fm 64 rfl) k4301 (Nat.le_refl 2) (Nat.le_refl 2) (by
 refine use0 (c16 h h') rfl ?_
 exact retN 1 rfl rfl))
theorem c44 {w h d m:Int}{l t:PV}{b:Bool}(h1:Dim w)(h2:Dim h)(h3:Dim d)(h4:1≤m)(h5:m≤2):Cl (k+3) 44 [] [.fr (.int w),.fr (.int h),.fr (.int d),.fr l,.fr (.int m),.fr t,.fr (.bool b)] (.ok (.own 0) [.obj 44 [.fr (.int w),.fr (.int h),.fr (.int d),.fr l,.fr (.int m),.fr t,.fr (.bool b)]]):=clsI (H:=[]) 7 rfl (.fn (fm 71 rfl) k4401 (Nat.le_refl 8) (Nat.le_add_right 8 1) (by
 refine use0 (c14 h4 (show m≤2147483647 by lia)) rfl ?_
 refine use0 (c17 h1) rfl ?_
 refine use0 (c17 h2) rfl ?_
 refine use0 (c17 h3) rfl ?_
 exact retN 1 rfl rfl))
theorem c2801 {g:G}:Fn k 2801 [.fr g.p] (.tup [.int g.w,.int g.st,.int g.so,.int g.sh,.int g.sho]):=.fn (fm 55 rfl) k2801 (Nat.le_refl 1) (Nat.le_refl 1) (by
 exact ⟨le4 rfl,ret0 rfl⟩)
theorem c69 {own amount mode:Int}(hm:mode=0∨mode=1)(hd:Dim amount):Fn (k+2) 69 [.fr (.int own),.fr (.int mode),.fr (.int amount)] (.int (if mode=0 then amount else own+amount)):=.fn (fm 24 rfl) k69 (Nat.le_refl 3) (Nat.le_refl 3) (by
 rcases hm with rfl|rfl
 ·refine use0 (c17 hd) rfl ?_
  exact ret0 rfl
 ·refine use0 (c17 hd) rfl ?_
  exact ret0 rfl)
theorem x69 {own amount mode:Int}(hm:mode=0∨mode=1)(hd:¬Dim amount):Cl (k+2) 69 [] [.fr (.int own),.fr (.int mode),.fr (.int amount)] .ovf:=.fn (fm 24 rfl) k69 (Nat.le_refl 3) (Nat.le_refl 3) (by
 rcases hm with rfl|rfl
 ·exact useX (x17 hd) rfl rfl
 ·exact useX (x17 hd) rfl rfl)
noncomputable def repI {α:Type}(ns:List α)(p:Int×Int):Int×Int:=match ns with
 | []=>(0,0)
 | z1::z2=>p
theorem c70 {b:B}{ns:List N}{t:T}{x:Int}(ht:t.ok)(hb:t.tot x<2 ^ 60):Cl (k+4) 70 [BX b (.fr (.lst (Ns.p ns)))] [.own 0,.fr t.p,.fr (.int x)] (.ok (.fr (pr (repI ns (rep t x)))) [BX (b.put (setG t x)) (.fr (.lst (Ns.p ns)))]):=.fn (fm 25 rfl) k70 (Nat.le_refl 3) (Nat.le_refl 3) (by
 refine use0 (c63 ht hb) rfl ?_
 rcases ns with _|⟨n,r⟩
 ·refine ⟨le4 rfl,?_⟩
  refine ⟨le4 rfl,retN 1 rfl rfl⟩
 ·refine ⟨le4 rfl,?_⟩
  exact retN 1 rfl rfl)
end
noncomputable def hW (ns:List N)(mode amount:Int):Int:=if mode=0 then amount else (natLine ns).1.nat+amount
noncomputable def hB (ns:List N)(w:Int):B:=(mkB false w (natLine ns).2.1 (natLine ns).2.2).put (setG (natLine ns).1 (w-(natLine ns).1.nat))
noncomputable def hR (ns:List N)(w:Int):Int×Int:=repI ns (rep (natLine ns).1 (w-(natLine ns).1.nat))
noncomputable def vT (ns:List N)(md:Int):T×Int×Int:=if md<(natCol ns).2.2 then ((natCol ns).1.wide ((natCol ns).2.2-md),(natCol ns).2.1,md) else natCol ns
noncomputable def vH (ns:List N)(md mode amount:Int):Int:=if mode=0 then amount else (vT ns md).1.nat+amount
noncomputable def vB (ns:List N)(md h:Int):B:=(mkB true (vT ns md).2.1 h (vT ns md).2.2).put (setG (vT ns md).1 (h-(vT ns md).1.nat))
noncomputable def vR (ns:List N)(md h:Int):Int×Int:=repI ns (rep (vT ns md).1 (h-(vT ns md).1.nat))
noncomputable def pkP (b:B)(ns:List N)(p:Int×Int):PV:=.tup [b.p (.lst (Ns.p ns)),pr p]
structure HOk (ns:List N)(w:Int):Prop where
 dw:Dim w
 dh:Dim (natLine ns).2.1
 dd:Dim (natLine ns).2.2
 tt:(natLine ns).1.tot (w-(natLine ns).1.nat)<2 ^ 60
structure VOk (ns:List N)(md h:Int):Prop where
 dh:Dim h
 dw:Dim (vT ns md).2.1
 dd:Dim (vT ns md).2.2
 tt:(vT ns md).1.tot (h-(vT ns md).1.nat)<2 ^ 60
section
variable {k:Nat}
theorem h71 {ns:List N}{mode amount:Int}{r:Rs}(hg:∀ n∈ns,n.gok)(hm:mode=0∨mode=1)(ha:Dim amount)(ok:HOk ns (hW ns mode amount))(hr:r=.ok (.fr (pkP (hB ns (hW ns mode amount)) ns (hR ns (hW ns mode amount)))) []) :
  sT (cOf 71 []) b71 ⟨GG nS (k+6),r=.ovf⟩ [(34,.fr (.lst (Ns.p ns))),(47,.fr (.int mode)),(0,.fr (.int amount)),(59,.fr .none)] [] (retK 0 r):=by
 refine ⟨le4 rfl,?_⟩
 refine ⟨le4 rfl,?_⟩
 refine use0 (c58 ns hg) rfl ?_
 refine use0 (c69 hm ha) rfl ?_
 refine useO (c39 (v:=false) ok.dw ok.dh ok.dd) rfl rfl ?_
 refine useN [1] (c70 (natLine_ok ns) ok.tt) rfl rfl rfl rfl ?_
 exact ⟨le4 rfl,ret0 hr⟩
theorem g71 {ns:List N}{mode amount:Int}{r:Rs}(hg:∀ n∈ns,n.gok)(hm:mode=0∨mode=1)(ha:¬Dim amount∨Dim amount∧¬Dim (hW ns mode amount))(hr:r=.ovf) :
  sT (cOf 71 []) b71 ⟨GG nS (k+6),r=.ovf⟩ [(34,.fr (.lst (Ns.p ns))),(47,.fr (.int mode)),(0,.fr (.int amount)),(59,.fr .none)] [] (retK 0 r):=by
 refine ⟨le4 rfl,?_⟩
 refine ⟨le4 rfl,?_⟩
 refine use0 (c58 ns hg) rfl ?_
 rcases ha with ha|⟨ha,hb⟩
 ·exact useX (x69 hm ha) rfl hr
 ·refine use0 (c69 hm ha) rfl ?_
  exact useX (x39 (v:=false) (.inl hb)) rfl hr
noncomputable abbrev VR (ns:List N):List OB:=[.tup [.own 0,.fr (.int (natCol ns).2.1),.fr (.int (natCol ns).2.2)]]
noncomputable abbrev r72 (ns:List N)(mode amount md:Int):En:=[(34,.fr (.lst (Ns.p ns))),(47,.fr (.int mode)),(0,.fr (.int amount)),(50,.fr (.int md)),(85,.own 0),(97,.fr (.int (vT ns md).2.1)),(14,.fr (.int (vT ns md).2.2))]
theorem t72 {ns:List N}{mode amount md:Int}{X:Prop}{K:KT}(hg:∀ n∈ns,n.gok)(hmd:Dim md)
  (h:sT (cOf 72 []) b72_5 ⟨GG nS (k+6),X⟩ (r72 ns mode amount md) (TO (vT ns md).1++VR ns) K) :
  sT (cOf 72 []) b72 ⟨GG nS (k+6),X⟩ [(34,.fr (.lst (Ns.p ns))),(47,.fr (.int mode)),(0,.fr (.int amount)),(50,.fr (.int md))] [] K:=by
 refine use0 (c17 hmd) rfl ?_
 refine useN [] (c61 ns hg) rfl rfl rfl rfl ?_
 unfold r72 vT at h
 by_cases c:md<(natCol ns).2.2
 ·refine brT (dT c) ?_
  rw [if_pos c] at h
  exact useT (R:=VR ns) c3002 rfl rfl h
 ·refine brF (dF c) ?_
  rw [if_neg c] at h
  exact h
theorem vT_ok (ns:List N)(md:Int):(vT ns md).1.ok:=by
 unfold vT
 split
 ·exact T.ok_wide (natCol_ok ns)
 ·exact natCol_ok ns
theorem h72 {ns:List N}{mode amount md:Int}{r:Rs}(hg:∀ n∈ns,n.gok)(hmd:Dim md)(hm:mode=0∨mode=1)(ha:Dim amount)(ok:VOk ns md (vH ns md mode amount))(hr:r=.ok (.fr (pkP (vB ns md (vH ns md mode amount)) ns (vR ns md (vH ns md mode amount)))) []) :
  sT (cOf 72 []) b72 ⟨GG nS (k+6),r=.ovf⟩ [(34,.fr (.lst (Ns.p ns))),(47,.fr (.int mode)),(0,.fr (.int amount)),(50,.fr (.int md))] [] (retK 0 r):=t72 hg hmd (by
 refine use0 (c69 hm ha) rfl ?_
 refine useO (c39 (v:=true) ok.dw ok.dh ok.dd) rfl rfl ?_
 refine useN [4] (c70 (vT_ok ns md) ok.tt) rfl rfl rfl rfl ?_
 exact ⟨le4 rfl,ret0 hr⟩)
theorem g72 {ns:List N}{mode amount md:Int}{r:Rs}(hg:∀ n∈ns,n.gok)(hmd:Dim md)(hm:mode=0∨mode=1)(hw:Dim (vT ns md).2.1)(ha:¬Dim amount∨Dim amount∧¬Dim (vH ns md mode amount))(hr:r=.ovf) :
  sT (cOf 72 []) b72 ⟨GG nS (k+6),r=.ovf⟩ [(34,.fr (.lst (Ns.p ns))),(47,.fr (.int mode)),(0,.fr (.int amount)),(50,.fr (.int md))] [] (retK 0 r):=t72 hg hmd (by
 rcases ha with ha|⟨ha,hb⟩
 ·exact useX (x69 hm ha) rfl hr
 ·refine use0 (c69 hm ha) rfl ?_
  exact useX (x39 (v:=true) (.inr ⟨hw,hb⟩)) rfl hr)
end
noncomputable def packT (v:Bool)(ns:List N)(md:Int):T×Int×Int:=if v then vT ns md else natLine ns
noncomputable def packB (v:Bool)(ns:List N)(md g:Int):B:=if v then vB ns md g else hB ns g
noncomputable def packR (v:Bool)(ns:List N)(md g:Int):Int×Int:=if v then vR ns md g else hR ns g
noncomputable def goalOf (v:Bool)(ns:List N)(md mode amount:Int):Int:=if v then vH ns md mode amount else hW ns mode amount
noncomputable def mdD (v:Bool):Int:=if v then 1073741823 else 0
theorem dMax:Dim 1073741823:=⟨by decide,by decide⟩
theorem d0:Dim 0:=⟨by decide,by decide⟩
section
variable {k:Nat} {ns:List N} {mode amount md:Int}
theorem c71 (hg:∀ n∈ns,n.gok)(hm:mode=0∨mode=1)(ha:Dim amount)(ok:HOk ns (hW ns mode amount)):Fn (k+6) 71 [.fr (.lst (Ns.p ns)),.fr (.int mode),.fr (.int amount)] (pkP (hB ns (hW ns mode amount)) ns (hR ns (hW ns mode amount))) :=
 .fn (fm 67 rfl) k71 (Nat.le_succ 3) (Nat.le_add_right 4 2) (h71 hg hm ha ok rfl)
theorem c71a (hg:∀ n∈ns,n.gok)(ok:HOk ns (hW ns 1 0)):Fn (k+6) 71 [.fr (.lst (Ns.p ns))] (pkP (hB ns (hW ns 1 0)) ns (hR ns (hW ns 1 0))) :=
 .fn (fm 67 rfl) k71 (Nat.le_add_left 1 3) (Nat.le_refl 4) (h71 hg (.inr rfl) d0 ok rfl)
theorem x71 (hg:∀ n∈ns,n.gok)(hm:mode=0∨mode=1)(ha:¬Dim amount∨Dim amount∧¬Dim (hW ns mode amount)):Cl (k+6) 71 [] [.fr (.lst (Ns.p ns)),.fr (.int mode),.fr (.int amount)] .ovf :=
 .fn (fm 67 rfl) k71 (Nat.le_succ 3) (Nat.le_add_right 4 2) (g71 hg hm ha rfl)
theorem c72 (hg:∀ n∈ns,n.gok)(hm:mode=0∨mode=1)(ha:Dim amount)(ok:VOk ns 1073741823 (vH ns 1073741823 mode amount)):Fn (k+6) 72 [.fr (.lst (Ns.p ns)),.fr (.int mode),.fr (.int amount)] (pkP (vB ns 1073741823 (vH ns 1073741823 mode amount)) ns (vR ns 1073741823 (vH ns 1073741823 mode amount))) :=
 .fn (fm 68 rfl) k72 (Nat.le_succ 3) (Nat.le_add_right 4 2) (h72 hg dMax hm ha ok rfl)
theorem c72a (hg:∀ n∈ns,n.gok)(ok:VOk ns 1073741823 (vH ns 1073741823 1 0)):Fn (k+6) 72 [.fr (.lst (Ns.p ns))] (pkP (vB ns 1073741823 (vH ns 1073741823 1 0)) ns (vR ns 1073741823 (vH ns 1073741823 1 0))) :=
 .fn (fm 68 rfl) k72 (Nat.le_add_left 1 3) (Nat.le_refl 4) (h72 hg dMax (.inr rfl) d0 ok rfl)
theorem c72m (hg:∀ n∈ns,n.gok)(hmd:Dim md)(hm:mode=0∨mode=1)(ha:Dim amount)(ok:VOk ns md (vH ns md mode amount)):Fn (k+6) 72 [.fr (.lst (Ns.p ns)),.fr (.int mode),.fr (.int amount),.fr (.int md)] (pkP (vB ns md (vH ns md mode amount)) ns (vR ns md (vH ns md mode amount))) :=
 .fn (fm 68 rfl) k72 (Nat.le_refl 4) (Nat.le_add_right 4 3) (h72 hg hmd hm ha ok rfl)
theorem x72 (hg:∀ n∈ns,n.gok)(hm:mode=0∨mode=1)(hw:Dim (vT ns 1073741823).2.1)(ha:¬Dim amount∨Dim amount∧¬Dim (vH ns 1073741823 mode amount)):Cl (k+6) 72 [] [.fr (.lst (Ns.p ns)),.fr (.int mode),.fr (.int amount)] .ovf :=
 .fn (fm 68 rfl) k72 (Nat.le_succ 3) (Nat.le_add_right 4 2) (g72 hg dMax hm hw ha rfl)
end
noncomputable def flx (b:B)(g:G):Int:=if b.sign=1∧g.so=b.order then g.st else if b.sign=2∧g.sho=b.order then -g.sh else 0
noncomputable def setPart (b:B)(f:Int):Int:=rnd (b.r0*f) b.r1
noncomputable def partSize (b:B)(n:N):Int:=if b.v=false then n.wd else match n with
 | .kern w z1=>w
 | n=>n.ht+n.dp
noncomputable def plStep (b:B)(s:Int×Int):N→Int×Int
 | .skip g z1=>(s.1+g.w,s.2+flx b g)
 | n=>(s.1+partSize b n,s.2)
noncomputable def plc (b:B):List N→Int×Int→List Int
 | [],z1=>[]
 | n::r,s=>((plStep b s n).1+setPart b (plStep b s n).2)::plc b r (plStep b s n)
noncomputable def plcs (b:B)(ns:List N):List Int:=0::plc b ns (0,0)
theorem plc_len (b:B):∀(ns:List N)(s:Int×Int),(plc b ns s).length=ns.length
 | [],z1=>rfl
 | n::r,s=>congrArg (·+1) (plc_len b r _)
structure B.rok (b:B):Prop where
 r1:0<b.r1
 r2:b.r1<2 ^ 60
 r3:b.r0.natAbs<2 ^ 60
section
variable {k:Nat}
theorem c64 {b:B}{g:G}{l:PV}:Fn k 64 [.fr (b.p l),.fr g.p] (.int (flx b g)):=.fn (fm 20 rfl) k64 (Nat.le_refl 2) (Nat.le_refl 2) (by
 unfold flx
 have second:∀{r:Rs},r=.ok (.fr (.int (if b.sign=2∧g.sho=b.order then -g.sh else 0))) []→sT (cOf 64 []) b64_4 ⟨GG nS k,r=.ovf⟩ [(3,.fr (b.p l)),(29,.fr g.p)] [] (retK 0 r):=fun {r} hr=>by
  by_cases h:b.sign=2
  ·refine brT (dT h) ?_
   by_cases h2:g.sho=b.order
   ·refine brT (dT h2) ?_
    exact ret0 (by rw [hr,if_pos ⟨h,h2⟩])
   ·refine brF (dF h2) ?_
    exact ret0 (by rw [hr,if_neg (fun e=>h2 e.2)])
  ·refine brF (dF h) ?_
   exact ret0 (by rw [hr,if_neg (fun e=>h e.1)])
 by_cases h:b.sign=1
 ·refine brT (dT h) ?_
  by_cases h2:g.so=b.order
  ·refine brT (dT h2) ?_
   exact ret0 (by rw [if_pos ⟨h,h2⟩])
  ·refine brF (dF h2) ?_
   exact second (by rw [if_neg (fun e=>h2 e.2)])
 ·refine brF (dF h) ?_
  exact second (by rw [if_neg (fun e=>h e.1)]))
theorem c65 {b:B}{f:Int}{l:PV}(h:b.rok):Fn (k+1) 65 [.fr (b.p l),.fr (.int f)] (.int (setPart b f)):=.fn (fm 21 rfl) k65 (Nat.le_refl 2) (Nat.le_refl 2) (by
 refine ⟨.inl (Nat.lt_trans h.r3 (by decide)),?_⟩
 refine use0 (c18 h.r1 h.r2) rfl ?_
 exact ret0 rfl)
theorem c66 {b:B}{n:N}{l:PV}:Fn (k+1) 66 [.fr (b.p l),.fr n.p] (.int (partSize b n)):=.fn (fm 22 rfl) k66 (Nat.le_refl 2) (Nat.le_refl 2) (by
 have e0:=c50 (k:=k) n
 have e1:=c51 (k:=k) n
 have e2:=c52 (k:=k) n
 obtain ⟨v,b⟩:=b
 cases v with
 | false =>
  refine use0 (e0) rfl ?_
  exact ret0 rfl
 | true =>
  cases n with
  | kern w s =>
   exact ret0 rfl
  | box c is =>
   obtain ⟨v,c⟩:=c
   cases v <;> (refine use0 e1 rfl ?_; refine use0 e2 rfl ?_; exact ret0 rfl)
  | _=>refine use0 e1 rfl ?_; refine use0 e2 rfl ?_; exact ret0 rfl)
noncomputable def stepF (b:B)(s:List Int×Int×Int)(n:N):List Int×Int×Int:=(s.1++[(plStep b s.2 n).1+setPart b (plStep b s.2 n).2],plStep b s.2 n)
theorem stepF_fold (b:B):∀(ns:List N)(s:List Int×Int×Int),(ns.foldl (stepF b) s).1=s.1++plc b ns s.2
 | [],s=>(List.append_nil _).symm
 | n::r,s=>by
  rw [List.foldl_cons,stepF_fold b r]
  show (s.1++[_])++_=_
  rw [List.append_assoc]; rfl
theorem stepF_len (b:B)(s:List Int×Int×Int)(n:N):(stepF b s n).1.length=s.1.length+1:=List.length_append
noncomputable abbrev e67 (bp:PV)(s:List Int×Int×Int):En×List OB:=([(3,.fr bp),(27,.own 0),(23,.fr (.int s.2.1)),(24,.fr (.int s.2.2))],[.lst (s.1.map .int)])
theorem t67 {X:Prop}{K:KT}{b:B}{l:PV}(h:b.rok)(s:List Int×Int×Int)(n:N)(hl:s.1.length<1000){B':Prop}(hB:B'):sT (cOf 67 []) b67_6 (Px.calm ⟨GG nS (k+2),X⟩) (st (e67 (b.p l) s).1 51 (.fr n.p)) (e67 (b.p l) s).2 (kTurn B' (e67 (b.p l) (stepF b s n)) K):=by
 have tl:sT (cOf 67 []) b67_5 (Px.calm ⟨GG nS (k+2),X⟩) [(3,.fr (b.p l)),(27,.own 0),(23,.fr (.int (plStep b s.2 n).1)),(24,.fr (.int (plStep b s.2 n).2)),(51,.fr n.p)] (e67 (b.p l) s).2 (kTurn B' (e67 (b.p l) (stepF b s n)) K):=by
  refine use0 (c65 h) rfl ?_
  refine ⟨(by unfold small; rw [List.length_append,List.length_map]; exact hl),?_⟩
  refine turnI hB [] ?_ rfl
  show _=[OB.lst ((s.1++[_]).map .int)]
  rw [List.map_append]; rfl
 rcases n with ⟨g,so⟩|⟨_,_⟩|⟨_,_,_⟩|⟨_⟩|⟨c,is⟩|⟨_,_⟩
 ·refine use0 c64 rfl ?_
  exact tl
 ·refine use0 c66 rfl ?_; exact tl
 ·refine use0 c66 rfl ?_; exact tl
 ·refine use0 c66 rfl ?_; exact tl
 ·have c6:=c66 (k:=k) (b:=b) (n:=.box c is) (l:=l)
  obtain ⟨v,c⟩:=c
  cases v <;> (refine use0 c6 rfl ?_; exact tl)
 ·refine use0 c66 rfl ?_; exact tl
theorem c67 {b:B}{ns:List N}(h:b.rok)(hl:ns.length<900):Fn (k+2) 67 [.fr (b.p (.lst (Ns.p ns)))] (.lst ((plcs b ns).map .int)):=.fn (fm 23 rfl) k67 (Nat.le_refl 1) (Nat.le_refl 1) (by
 have tl:∀ r,r=.ok (.fr (.lst ((plcs b ns).map .int))) []→sT (cOf 67 []) b67_10 ⟨GG nS (k+2),r=.ovf⟩ [(3,.fr (b.p (.lst (Ns.p ns))))] [] (retK 0 r):=fun r hr=>by
  refine ⟨le4 rfl,?_⟩
  refine ⟨le4 rfl,?_⟩
  refine loopK (e67 (b.p (.lst (Ns.p ns)))) (fun k s=>s.1.length=k+1) (stepF b) ([0],0,0) ns _ (items_N ns) (cOf_half _ _) rfl ⟨rfl,trivial⟩ ⟨rfl,rfl,rfl,rfl,trivial⟩ (fun zz=>rfl) (fun k s n hn hk=>?_) fun hk=>?_
  ·exact t67 h s n (by rw [hk]; exact Nat.lt_of_le_of_lt (get_lt hn) (Nat.lt_trans hl (by decide))) (by rw [stepF_len,hk])
  ·refine ret0 ?_
   rw [hr,stepF_fold]; rfl
 rcases hv:b.v with _|_
 ·obtain ⟨v,b⟩:=b
  subst hv
  exact tl _ rfl
 ·obtain ⟨v,b⟩:=b
  subst hv
  refine use0 (c60 ns) rfl ?_
  exact tl _ rfl)
end
noncomputable def oD:Option Int→PV
 | none=>.tup []
 | some i=>.tup [.int i]
noncomputable def bI:Bool→Int
 | false=>0
 | true=>1
noncomputable def gD (g:G):PV:=.tup [.int g.w,.int g.st,.int g.so,.int g.sh,.int g.sho]
noncomputable abbrev B.D (b:B)(l:PV):PV:=.tup [.int (kI b.v),.int b.w,.int b.h,.int b.d,.int b.shift,.int b.sign,.int b.order,.tup [.int b.r0,.int b.r1],l]
mutual
noncomputable def N.D:N→PV
 | .skip g s=>.tup [.int 6,gD g,.int s,.tup []]
 | .kern w s=>.tup [.int 5,.int w,.int s]
 | .rule w h d=>.tup [.int 4,oD w,oD h,oD d]
 | .pen v=>.tup [.int 7,.int v]
 | .box b is=>b.D (.tup (Ns.D is))
 | .unset u is=>.tup [.int 14,.int u.w,.int u.h,.int u.d,.int u.spans,.int (bI u.vert),.int u.t.nat,.tup (u.t.st.map .int),.tup (u.t.sh.map .int),.tup (Ns.D is)]
noncomputable def Ns.D:List N→List PV
 | []=>[]
 | n::ns=>N.D n::Ns.D ns
end
theorem NsD_map:∀ ns:List N,Ns.D ns=ns.map N.D
 | []=>rfl
 | n::ns=>congrArg (N.D n::·) (NsD_map ns)
mutual
noncomputable def N.lev:N→Nat
 | .box z1 is=>Ns.lev is+1
 | .unset z1 is=>Ns.lev is+1
 | z1=>0
noncomputable def Ns.lev:List N→Nat
 | []=>0
 | n::ns=>max (N.lev n) (Ns.lev ns)
end
mutual
noncomputable def N.fit:N→Prop
 | .box z1 is=>is.length≤900∧Ns.fit is
 | .unset z1 is=>is.length≤900∧Ns.fit is
 | z1=>True
noncomputable def Ns.fit:List N→Prop
 | []=>True
 | n::ns=>N.fit n∧Ns.fit ns
end
section
theorem c45 {k:Nat}{d:Int}(h:d≤60):Fn k 45 [.fr (.int d)] .none:=.fn (fm 7 rfl) k45 (Nat.le_refl 1) (Nat.le_refl 1) (by
 refine brF (dF (Int.not_lt.mpr h)) ?_
 exact ret0 rfl)
theorem t49 {k:Nat}{ns:List N}{d:Int}{r:Rs}(hl:ns.length≤900)(h:∀ n∈ns,Fn k 48 [.fr n.p,.fr (.int d)] n.D)(hr:r=.ok (.fr (.tup (Ns.D ns))) []):sT (cOf 49 []) b49 ⟨GG nS (k+1),r=.ovf⟩ [(34,.fr (.lst (Ns.p ns))),(14,.fr (.int d))] [] (retK 0 r):=by
 refine compM N.D ns _ (items_N ns) (Nat.le_trans hl (by decide)) rfl (fun n A hn=>?_) ?_
 ·refine use0 (h n hn) rfl ?_
  exact ⟨rfl,trivial⟩
 ·exact ret0 (by rw [hr,NsD_map])
theorem c49 {k:Nat}{ns:List N}{d:Int}(hl:ns.length≤900)(h:∀ n∈ns,Fn k 48 [.fr n.p,.fr (.int d)] n.D):Fn (k+1) 49 [.fr (.lst (Ns.p ns)),.fr (.int d)] (.tup (Ns.D ns)) :=
 .fn (fm 66 rfl) k49 (Nat.le_refl 2) (Nat.le_add_right 2 1) (t49 hl h rfl)
theorem c49a {k:Nat}{ns:List N}(hl:ns.length≤900)(h:∀ n∈ns,Fn k 48 [.fr n.p,.fr (.int 0)] n.D):Fn (k+1) 49 [.fr (.lst (Ns.p ns))] (.tup (Ns.D ns)) :=
 .fn (fm 66 rfl) k49 (Nat.le_succ 1) (Nat.le_refl 2) (t49 hl h rfl)
theorem e48r {k:Nat}{d:Int}{r:Rs}{w h dd:Option Int}(hr:r=.ok (.fr (.tup [.int 4,oD w,oD h,oD dd])) []):sT (cOf 48 []) b48_5 ⟨GG nS (k+1),r=.ovf⟩ [(51,.fr (.obj 40 [oi w,oi h,oi dd])),(14,.fr (.int d)),(37,.fr (.int 4))] [] (retK 0 r):=by
 refine ⟨le4 rfl,?_⟩
 refine ⟨le4 rfl,?_⟩
 refine compM oD [w,h,dd] (fun o=>.one (oi o)) rfl (le4 rfl) rfl (fun o A ho=>?_) ?_
 ·rcases o with _|⟨i⟩
  ·exact ⟨le4 rfl,rfl,trivial⟩
  ·exact ⟨le4 rfl,rfl,trivial⟩
 ·refine ⟨List.cons_ne_nil _ _,List.cons_ne_nil _ _,le4 rfl,?_⟩
  exact ret0 hr
theorem t48 {k:Nat}(n:N)(d:Int)(hd:d≤60)(hf:n.fit)(ih:∀ is:List N,(∃ b,n=.box b is)∨(∃ u,n=.unset u is)→∀ j,∀ m∈is,Fn (k+j) 48 [.fr m.p,.fr (.int (d+1))] m.D){r:Rs}(hr:r=.ok (.fr n.D) []) :
  sT (cOf 48 []) b48 ⟨GG nS (k+3),r=.ovf⟩ [(51,.fr n.p),(14,.fr (.int d))] [] (retK 0 r):=by
 rcases n with ⟨g,s⟩|⟨w,s⟩|⟨w,h,dd⟩|⟨v⟩|⟨b,is⟩|⟨u,is⟩
 ·refine use0 (c45 hd) rfl ?_
  refine use0 (c2801) rfl ?_
  refine ⟨le4 rfl,?_⟩
  exact ⟨le4 rfl,ret0 hr⟩
 ·refine use0 (c45 hd) rfl ?_
  exact ⟨le4 rfl,ret0 hr⟩
 ·refine use0 (c45 hd) rfl ?_
  exact e48r hr
 ·refine use0 (c45 hd) rfl ?_
  exact ⟨le4 rfl,ret0 hr⟩
 ·obtain ⟨h1,h2⟩:=hf
  have c:=c49 (d:=d+1) h1 (ih is (.inl ⟨b,rfl⟩) 1)
  have lp:(pr (b.r0,b.r1))=.tup [.int b.r0,.int b.r1]:=rfl
  obtain ⟨v,b⟩:=b
  cases v <;> (
   refine use0 (c45 hd) rfl ?_
   refine ⟨le4 rfl,?_⟩
   refine ⟨le4 rfl,?_⟩
   refine ⟨List.cons_ne_nil _ _,List.cons_ne_nil _ _,le4 rfl,?_⟩
   refine use0 c rfl ?_
   refine ⟨le4 rfl,?_⟩
   refine ⟨List.cons_ne_nil _ _,List.cons_ne_nil _ _,le4 rfl,?_⟩
   exact ret0 hr)
 ·obtain ⟨h1,h2⟩:=hf
  have c:=c49 (d:=d+1) h1 (ih is (.inr ⟨u,rfl⟩) 0)
  have c47:Fn (k+2) 47 [.fr (N.unset u is).p,.fr (.int d)] (N.unset u is).D:=.fn (fm 8 rfl) k47 (Nat.le_refl 2) (Nat.le_refl 2) (by
   refine ⟨le4 rfl,?_⟩
   have tl:∀{r:Rs},r=.ok (.fr (N.unset u is).D) []→sT (cOf 47 []) b47_5 ⟨GG nS (k+2),r=.ovf⟩ [(51,.fr (N.unset u is).p),(14,.fr (.int d)),(37,.fr (.int 14)),(81,.fr (.tup [.int u.t.nat,.tup (u.t.st.map .int),.tup (u.t.sh.map .int)])),(74,.fr (.tup [.int u.w,.int u.h,.int u.d,.int u.spans,.int (bI u.vert)]))] [] (retK 0 r):=fun {r} hr=>by
    refine ⟨le4 rfl,?_⟩
    refine ⟨List.cons_ne_nil _ _,List.cons_ne_nil _ _,le4 rfl,?_⟩
    refine ⟨List.cons_ne_nil _ _,List.cons_ne_nil _ _,le4 rfl,?_⟩
    refine use0 c rfl ?_
    refine ⟨le4 rfl,?_⟩
    refine ⟨List.cons_ne_nil _ _,List.cons_ne_nil _ _,le4 rfl,?_⟩
    exact ret0 hr
   obtain ⟨uw,uh,ud,us,ut,uv⟩:=u
   rcases uv with _|_
   ·exact ⟨le4 rfl,tl rfl⟩
   ·exact ⟨le4 rfl,tl rfl⟩)
  refine use0 (c45 hd) rfl ?_
  refine use0 (c47) rfl ?_
  exact ret0 hr
theorem lev_mem:∀{is:List N}{m:N},m∈is→m.lev≤Ns.lev is
 | n::r,m,h=>by
  rcases List.mem_cons.mp h with rfl|h
  ·exact Nat.le_max_left _ _
  ·exact Nat.le_trans (lev_mem h) (Nat.le_max_right _ _)
theorem fit_mem:∀{is:List N}{m:N},m∈is→Ns.fit is→m.fit
 | n::r,m,h,f=>by
  rcases List.mem_cons.mp h with rfl|h
  ·exact f.1
  ·exact fit_mem h f.2
theorem c48L:∀(L:Nat)(n:N)(d:Int)(k:Nat),n.lev≤L→d+L≤60→n.fit→Fn (k+3*L+3) 48 [.fr n.p,.fr (.int d)] n.D
 | 0,n,d,k,hl,hd,hf=>.fn (fm 65 rfl) k48 (Nat.le_refl 2) (Nat.le_add_right 2 1) (t48 n d (by lia) hf (fun is h j=>by
   rcases h with ⟨b,rfl⟩|⟨u,rfl⟩
   ·exact absurd hl (Nat.not_succ_le_zero _)
   ·exact absurd hl (Nat.not_succ_le_zero _)) rfl)
 | L+1,n,d,k,hl,hd,hf=>.fn (fm 65 rfl) k48 (Nat.le_refl 2) (Nat.le_add_right 2 1) (t48 n d (by lia) hf (fun is h j m hm=>by
   have e:k+3*(L+1)+j=(k+j)+3*L+3:=by lia
   rw [e]
   refine c48L L m (d+1) (k+j) ?_ (by lia) ?_
   ·rcases h with ⟨b,rfl⟩|⟨u,rfl⟩
    ·exact Nat.le_trans (lev_mem hm) (Nat.le_of_succ_le_succ hl)
    ·exact Nat.le_trans (lev_mem hm) (Nat.le_of_succ_le_succ hl)
   ·rcases h with ⟨b,rfl⟩|⟨u,rfl⟩
    ·exact fit_mem hm hf.2
    ·exact fit_mem hm hf.2) rfl)
theorem c48 {k:Nat}{n:N}{d:Int}(hl:n.lev≤3)(hd:d≤57)(hf:n.fit):Fn (k+12) 48 [.fr n.p,.fr (.int d)] n.D:=c48L 3 n d k hl (by lia) hf
theorem c48a {k:Nat}{n:N}(hl:n.lev≤3)(hf:n.fit):Fn (k+12) 48 [.fr n.p] n.D:=.fn (fm 65 rfl) k48 (Nat.le_succ 1) (Nat.le_refl 2) (t48 (k:=k+9) n 0 (by decide) hf (fun is h j m hm=>by
 have e:k+9+j=(k+j)+3*2+3:=by lia
 rw [e]
 refine c48L 2 m 1 (k+j) ?_ (by decide) ?_
 ·rcases h with ⟨b,rfl⟩|⟨u,rfl⟩
  ·exact Nat.le_trans (lev_mem hm) (Nat.le_of_succ_le_succ hl)
  ·exact Nat.le_trans (lev_mem hm) (Nat.le_of_succ_le_succ hl)
 ·rcases h with ⟨b,rfl⟩|⟨u,rfl⟩
  ·exact fit_mem hm hf.2
  ·exact fit_mem hm hf.2) rfl)
theorem c49t {k:Nat}{ns:List N}(hl:ns.length≤900)(h:∀ n∈ns,n.lev≤3)(hf:Ns.fit ns):Fn (k+13) 49 [.fr (.lst (Ns.p ns))] (.tup (Ns.D ns)):=c49a hl fun n hn=>c48 (h n hn) (by decide) (fit_mem hn hf)
end
noncomputable abbrev Cell:=U×List N
noncomputable def Cell.n (c:Cell):N:=.unset c.1 c.2
noncomputable def Cell.al (c:Cell):Int:=if c.1.vert then c.1.h else c.1.w
noncomputable def pl:Int→List Cell→List (Int×Cell)
 | _,[]=>[]
 | c,x::r=>(c,x)::pl (c+x.1.spans) r
noncomputable def spsum:List Cell→Int
 | []=>0
 | x::r=>x.1.spans+spsum r
noncomputable def plP (c:Int×Cell):PV:=.tup [.int c.1,c.2.n.p]
noncomputable def G0:G:=⟨0,0,0,0,0⟩
noncomputable def ebox (v:Bool)(w:Option Int):N:=.box (if v then mkB true 0 (w.getD 0) 0 else mkB false (w.getD 0) 0 0) []
noncomputable def tabN (w:Option Int)(g:G):N:=.skip (if w=none then G0 else g) 109
noncomputable def getW (ws:List (Option Int))(c:Int):Option Int:=(ws[c.toNat]?).getD none
noncomputable def getG (gs:List G)(c:Int):G:=(gs[c.toNat]?).getD G0
theorem atP_map {α:Type}{f:α→PV}{l:List α}{i:Int}{a:α}(h0:0≤i)(h:l[i.toNat]?=some a):atP (l.map f) (.int i)=some (f a):=by
 obtain ⟨n,rfl⟩:=Int.eq_ofNat_of_zero_le h0
 show (l.map f)[n]?=some (f a)
 rw [List.getElem?_map,show l[n]?=some a from h]; rfl
theorem getW_nat {ws:List (Option Int)}{c:Int}(h0:0≤c)(h1:c<ws.length):ws[c.toNat]?=some (getW ws c):=by
 have h2:c.toNat<ws.length:=(Int.toNat_lt h0).mpr h1
 unfold getW; rw [List.getElem?_eq_getElem h2]; rfl
theorem getG_nat {gs:List G}{c:Int}(h0:0≤c)(h1:c<gs.length):gs[c.toNat]?=some (getG gs c):=by
 have h2:c.toNat<gs.length:=(Int.toNat_lt h0).mpr h1
 unfold getG; rw [List.getElem?_eq_getElem h2]; rfl
section
variable {k:Nat}
theorem c75 {c:Cell}:Fn k 75 [.fr c.n.p] (.int c.al):=.fn (fm 26 rfl) k75 (Nat.le_refl 1) (Nat.le_refl 1) (by
 obtain ⟨⟨uw,uh,ud,us,ut,uv⟩,is⟩:=c
 rcases uv with _|_
 ·exact ret0 rfl
 ·exact ret0 rfl)
theorem c76 {m:Int}{gs:List G}(hl:(gs.length:Int)=m+1)(h1:1≤m)(h2:m≤1000):Fn (k+1) 76 [.fr (.int m),.fr (.lst (gs.map G.p))] .none:=.fn (fm 27 rfl) k76 (Nat.le_refl 2) (Nat.le_refl 2) (by
 refine use0 (c14 h1 (show m≤2147483647 by lia)) rfl ?_
 refine brF (dF (show ¬(((gs.map G.p).length:Nat):Int)≠m+1 by rw [List.length_map]; exact not_not_intro hl)) ?_
 refine loopL (σ:=Unit) (fun zz=>([],[])) (fun zz=>True) (fun s zz=>s) () gs _ (items_seq G.p gs) (cOf_half _ _) trivial trivial trivial (fun zz=>rfl) (fun s g zz zz=>?_) fun zz=>?_
 ·exact ⟨trivial,trivial,trivial⟩
 ·exact ret0 rfl)
noncomputable def plStp (s:List (Int×Cell)×Int)(x:Cell):List (Int×Cell)×Int:=(s.1++[(s.2,x)],s.2+x.1.spans)
theorem plStp_fold:∀(cs:List Cell)(s:List (Int×Cell)×Int),cs.foldl plStp s=(s.1++pl s.2 cs,s.2+spsum cs)
 | [],s=>Prod.ext (List.append_nil _).symm (Int.add_zero _).symm
 | x::r,s=>by
  rw [List.foldl_cons,plStp_fold r]
  refine Prod.ext ?_ ?_
  ·show (s.1++[_])++_=_
   rw [List.append_assoc]; rfl
  ·show s.2+x.1.spans+spsum r=s.2+(x.1.spans+spsum r)
   rw [Int.add_assoc]
theorem c77 {m:Int}{cs:List Cell}(hs:spsum cs≤m)(hl:cs.length≤900):Fn k 77 [.fr (.lst (cs.map fun c=>c.n.p)),.fr (.int m)] (.lst ((pl 0 cs).map plP)):=.fn (fm 28 rfl) k77 (Nat.le_refl 2) (Nat.le_refl 2) (by
 refine ⟨le4 rfl,?_⟩
 refine ⟨le4 rfl,?_⟩
 refine loopK (fun s:List (Int×Cell)×Int=>([(11,.fr (.int m)),(27,.own 0),(10,.fr (.int s.2))],[.lst (s.1.map plP)])) (fun k s=>s.1.length=k) plStp ([],0) cs _ (items_seq (fun c:Cell=>c.n.p) cs) (cOf_half _ _) rfl ⟨rfl,trivial⟩ ⟨rfl,rfl,rfl,trivial⟩ (fun zz=>rfl) (fun j s x hx hk=>?_) fun hk=>?_
 ·have:=get_lt hx
  refine ⟨le4 rfl,?_⟩
  refine ⟨(by unfold small; rw [List.length_append,List.length_map,hk]; exact Nat.le_trans this (Nat.le_trans hl (by decide))),?_⟩
  refine turnI (by unfold plStp; rw [List.length_append,hk]; rfl) [] ?_ rfl
  show _=[OB.lst ((s.1++[_]).map plP)]
  rw [List.map_append]; rfl
 ·rw [plStp_fold]
  refine brF (dF (show ¬ m<0+spsum cs by lia)) ?_
  exact ret0 rfl)
theorem c79 {w:Option Int}{v:Bool}(h:oDim w):Fn (k+4) 79 [.fr (oi w),.fr (.bool v)] (ebox v w).p:=.fn (fm 30 rfl) k79 (Nat.le_refl 2) (Nat.le_refl 2) (by
 have h2:Dim (w.getD 0):=by
  rcases w with _|⟨i⟩
  ·exact d0
  ·exact h i rfl
 have tl:∀{r:Rs},r=.ok (.fr (ebox v w).p) []→sT (cOf 79 []) b79_1 ⟨GG nS (k+4),r=.ovf⟩ [(97,.fr (oi w)),(33,.fr (.bool v)),(73,.fr (.int (w.getD 0)))] [] (retK 0 r):=fun {r} hr=>by
  rcases v with _|_
  ·refine ⟨le4 rfl,?_⟩
   refine useO (c39 (v:=false) h2 d0 d0) rfl rfl ?_
   exact ret0 hr
  ·refine ⟨le4 rfl,?_⟩
   refine useO (c39 (v:=true) d0 h2 d0) rfl rfl ?_
   exact ret0 hr
 rcases w with _|⟨i⟩
 ·exact tl rfl
 ·exact tl rfl)
theorem c28z:Cl (k+3) 28 [] [] (.ok (.own 0) [.obj 28 [.fr (.int 0),.fr (.int 0),.fr (.int 0),.fr (.int 0),.fr (.int 0)]]) :=
 clsI (H:=[]) 0 rfl (.fn (fm 69 rfl) k2800 (Nat.le_add_left 1 5) (Nat.le_refl 6) (by
 refine use0 (c14 (by decide) (by decide)) rfl ?_
 refine use0 (c14 (by decide) (by decide)) rfl ?_
 refine use0 (c17 d0) rfl ?_
 refine use0 (c17 d0) rfl ?_
 refine use0 (c17 d0) rfl ?_
 exact retN 1 rfl rfl))
theorem c80 {ws:List (Option Int)}{gs:List G}{c:Int}(h0:0≤c)(h1:c<ws.length)(hl:gs.length=ws.length+1):Fn (k+4) 80 [.fr (.lst (ws.map oi)),.fr (.lst (gs.map G.p)),.fr (.int c)] (tabN (getW ws c) (getG gs (c+1))).p:=.fn (fm 31 rfl) k80 (Nat.le_refl 3) (Nat.le_refl 3) (by
 (conv=>whnf)
 rw [atP_map h0 (getW_nat h0 h1)]
 unfold tabN
 rcases hw:getW ws c with _|⟨i⟩
 ·refine useO c28z rfl rfl ?_
  refine useO (c42 (.inr rfl)) rfl rfl ?_
  exact ret0 rfl
 ·(conv=>whnf)
  rw [atP_map (by lia) (getG_nat (c:=c+1) (by lia) (by rw [hl]; lia))]
  refine useO (c42 (.inr rfl)) rfl rfl ?_
  exact ret0 rfl)
end
noncomputable def protoR (v:Bool):List (Option Int)→List G→List N
 | w::ws,g::gs=>ebox v w::tabN w g::protoR v ws gs
 | z1,z2=>[]
noncomputable def proto (v:Bool)(ws:List (Option Int)):List G→List N
 | []=>[]
 | g::gs=>.skip g 109::protoR v ws gs
theorem Ns_app:∀(a b:List N),Ns.p (a++b)=Ns.p a++Ns.p b:=fun a b=>by rw [Ns_map,Ns_map,Ns_map,List.map_append]
theorem Ns_len (a:List N):(Ns.p a).length=a.length:=by rw [Ns_map,List.length_map]
theorem items_zip {α:Type}(l:List α){m:Int}(h:m=(l.length:Int)):(Itr.rng 0 m).items=l.zipIdx.map fun p=>.one (.int (p.2:Nat)):=by
 subst h
 have e1:l.zipIdx.map (fun p=>IC.one (.int ((p.2:Nat):Int)))=(l.zipIdx.map Prod.snd).map fun k:Nat=>IC.one (.int (k:Int)):=by rw [List.map_map]; rfl
 rw [e1,List.zipIdx_map_snd]
 show (List.range ((l.length:Int)-0).toNat).map _=_
 rw [Int.sub_zero,Int.toNat_natCast,List.range_eq_range']
 exact List.map_congr_left fun k zz=>by rw [Int.zero_add]
theorem zip_fold {α σ:Type}(f:σ→α→σ):∀(l:List α)(n:Nat)(s:σ),(l.zipIdx n).foldl (fun s p=>f s p.1) s=l.foldl f s
 | [],z1,z2=>rfl
 | a::r,n,s=>zip_fold f r (n+1) (f s a)
theorem zip_get {α:Type}{l:List α}{k:Nat}{p:α×Nat}(h:l.zipIdx[k]?=some p):p.2=k∧l[k]?=some p.1:=by
 rw [List.getElem?_zipIdx] at h
 rcases e:l[k]? with _|⟨a⟩
 ·rw [e] at h; injection h
 ·rw [e] at h; obtain rfl:=Option.some.inj h; exact ⟨Nat.zero_add _,rfl⟩
theorem zip2_get {α β:Type}{l:List α}{r:List β}{k:Nat}{p:α×β}(h:(l.zip r)[k]?=some p):l[k]?=some p.1∧r[k]?=some p.2:=by
 rw [List.getElem?_zip_eq_some] at h; exact h
theorem getW_of {ws:List (Option Int)}{c:Nat}{w:Option Int}(h:ws[c]?=some w):getW ws (c:Int)=w:=by
 unfold getW
 rw [show ((c:Int)).toNat=c from rfl,h]; rfl
theorem getG_of {gs:List G}{c:Nat}{g:G}(h:gs[c]?=some g):getG gs (c:Int)=g:=by
 unfold getG
 rw [show ((c:Int)).toNat=c from rfl,h]; rfl
noncomputable def prStp (v:Bool)(s:List N)(p:Option Int×G):List N:=s++[ebox v p.1,tabN p.1 p.2]
theorem prStp_fold (v:Bool):∀(ws:List (Option Int))(gs:List G)(s:List N),(ws.zip gs).foldl (prStp v) s=s++protoR v ws gs
 | [],gs,s=>(List.append_nil _).symm
 | w::ws,[],s=>(List.append_nil _).symm
 | w::ws,g::gs,s=>by
  rw [List.zip_cons_cons,List.foldl_cons,prStp_fold v ws gs]
  show (s++[_,_])++_=_
  rw [List.append_assoc]; rfl
structure POk (v:Bool)(ns:List N)(g:Int):Prop where
 vv:v=true→VOk ns 1073741823 g
 hh:v=false→HOk ns g
section
variable {k:Nat}
noncomputable abbrev r81 (ws:List (Option Int))(gs:List G)(mode amount:Int)(v:Bool):En:=[(74,.fr (.lst (ws.map oi))),(76,.fr (.lst (gs.map G.p))),(47,.fr (.int mode)),(0,.fr (.int amount)),(33,.fr (.bool v)),(34,.own 1)]
theorem t81 {ws:List (Option Int)}{g:G}{gs:List G}{mode amount:Int}{v:Bool}{X:Prop}{K:KT}(hl:gs.length=ws.length)(h1:1≤ws.length)(h2:ws.length≤100)(ho:∀ w∈ws,oDim w)
  (h:sT (cOf 81 []) b81_3 ⟨GG nS (k+7),X⟩ (r81 ws (g::gs) mode amount v) [.fz (N.skip g 109).p,.lst (Ns.p (proto v ws (g::gs)))] K) :
  sT (cOf 81 []) b81 ⟨GG nS (k+7),X⟩ [(74,.fr (.lst (ws.map oi))),(76,.fr (.lst ((g::gs).map G.p))),(47,.fr (.int mode)),(0,.fr (.int amount)),(33,.fr (.bool v))] [] K:=by
 refine use0 (c76 (m:=(((ws.map oi).length:Nat):Int)) (gs:=g::gs) (by rw [List.length_cons,List.length_map,hl]; rfl) (by rw [List.length_map]; lia) (by rw [List.length_map]; lia)) rfl ?_
 refine useO (c42 (.inr rfl)) rfl rfl ?_
 refine ⟨le4 rfl,?_⟩
 refine ⟨(by decide),(by rw [List.length_map]; exact Nat.lt_of_le_of_lt h2 (by decide)),?_⟩
 refine loopK (fun s:List N=>(r81 ws (g::gs) mode amount v,[.fz (N.skip g 109).p,.lst (Ns.p s)])) (fun j s=>s.length=2*j+1) (fun s p=>prStp v s p.1) [.skip g 109] (ws.zip gs).zipIdx _
  (items_zip (ws.zip gs) (by rw [List.length_map,List.length_zip,hl,Nat.min_self])) (cOf_half _ _) rfl ⟨rfl,rfl,trivial⟩ ⟨rfl,rfl,rfl,rfl,rfl,rfl,trivial⟩ (fun zz=>rfl) (fun j s p hp hk=>?_) fun hk=>?_
 ·obtain ⟨⟨w,g'⟩,i⟩:=p
  obtain ⟨e1,e2⟩:=zip_get hp
  obtain ⟨e3,e4⟩:=zip2_get e2
  have e1:i=j:=e1
  subst e1
  have hj:=get_lt e3
  have e3:ws[i]?=some w:=e3
  have e4:gs[i]?=some g':=e4
  have e5:(g::gs)[i+1]?=some g':=e4
  (conv=>whnf)
  rw [atP_map (Int.natCast_nonneg i) (show ws[((i:Int)).toNat]?=some w from e3)]
  refine use0 (c79 (ho w (List.mem_of_getElem? e3))) rfl ?_
  refine ⟨(by unfold small; rw [List.length_append,Ns_len,hk]; exact Nat.le_trans (Nat.add_le_add_right (Nat.mul_le_mul_left 2 (Nat.le_trans (Nat.le_of_lt hj) h2)) 2) (by decide)),?_⟩
  refine use0 (c80 (ws:=ws) (gs:=g::gs) (Int.natCast_nonneg i) (by lia) (by rw [List.length_cons,hl])) rfl ?_
  rw [getW_of e3,show ((i:Int)+1)=((i+1:Nat):Int) from rfl,getG_of e5]
  refine ⟨(by unfold small; rw [List.length_append,List.length_append,Ns_len,hk]; exact Nat.le_trans (Nat.add_le_add_right (Nat.mul_le_mul_left 2 (Nat.le_trans (Nat.le_of_lt hj) h2)) 3) (by decide)),?_⟩
  refine turnI (by unfold prStp; rw [List.length_append,hk]; rfl) [] ?_ rfl
  show _=[_,OB.lst (Ns.p (s++[_,_]))]
  rw [Ns_app,List.append_assoc]; rfl
 ·rw [zip_fold (prStp v),prStp_fold]
  exact h
section
variable {ws:List (Option Int)} {g:G} {gs:List G} {mode amount:Int} {v:Bool}
theorem protoR_gok (v:Bool):∀(ws:List (Option Int))(gs:List G),(∀ g∈gs,g.ok)→∀ n∈protoR v ws gs,n.gok
 | w::ws,g::gs,h,n,hn=>by
  rcases List.mem_cons.mp hn with rfl|hn
  ·exact trivial
  ·rcases List.mem_cons.mp hn with rfl|hn
   ·show (if w=none then G0 else g).ok
    split
    ·exact ⟨by decide,by decide,by decide,by decide⟩
    ·exact h g (.head _)
   ·exact protoR_gok v ws gs (fun g hg=>h g (.tail _ hg)) n hn
 | [],z1,z2,z3,hn=>by cases hn
 | z1::z2,[],z3,z4,hn=>by cases hn
theorem proto_gok (h:∀ x∈g::gs,x.ok):∀ n∈proto v ws (g::gs),n.gok:=fun n hn=>by
 rcases List.mem_cons.mp hn with rfl|hn
 ·exact h g (.head _)
 ·exact protoR_gok v ws gs (fun x hx=>h x (.tail _ hx)) n hn
theorem c81 (hl:gs.length=ws.length)(h1:1≤ws.length)(h2:ws.length≤100)(ho:∀ w∈ws,oDim w)(hg:∀ x∈g::gs,x.ok)(hm:mode=0∨mode=1)(ha:Dim amount)(ok:POk v (proto v ws (g::gs)) (goalOf v (proto v ws (g::gs)) (mdD v) mode amount)) :
  Fn (k+7) 81 [.fr (.lst (ws.map oi)),.fr (.lst ((g::gs).map G.p)),.fr (.int mode),.fr (.int amount),.fr (.bool v)] (pkP (packB v (proto v ws (g::gs)) (mdD v) (goalOf v (proto v ws (g::gs)) (mdD v) mode amount)) (proto v ws (g::gs)) (packR v (proto v ws (g::gs)) (mdD v) (goalOf v (proto v ws (g::gs)) (mdD v) mode amount))) :=
 .fn (fm 32 rfl) k81 (Nat.le_refl 5) (Nat.le_refl 5) (t81 hl h1 h2 ho (by
  cases v with
  | true =>
   refine use0 (c72 (proto_gok hg) hm ha (ok.vv rfl)) rfl ?_
   exact ret0 rfl
  | false =>
   refine use0 (c71 (proto_gok hg) hm ha (ok.hh rfl)) rfl ?_
   exact ret0 rfl))
theorem x81 (hl:gs.length=ws.length)(h1:1≤ws.length)(h2:ws.length≤100)(ho:∀ w∈ws,oDim w)(hg:∀ x∈g::gs,x.ok)(hm:mode=0∨mode=1)(hw:v=true→Dim (vT (proto v ws (g::gs)) 1073741823).2.1)(ha:¬Dim amount∨Dim amount∧¬Dim (goalOf v (proto v ws (g::gs)) (mdD v) mode amount)) :
  Cl (k+7) 81 [] [.fr (.lst (ws.map oi)),.fr (.lst ((g::gs).map G.p)),.fr (.int mode),.fr (.int amount),.fr (.bool v)] .ovf :=
 .fn (fm 32 rfl) k81 (Nat.le_refl 5) (Nat.le_refl 5) (t81 hl h1 h2 ho (by
  cases v with
  | true =>
   exact useX (x72 (proto_gok hg) hm (hw rfl) ha) rfl rfl
  | false =>
   exact useX (x71 (proto_gok hg) hm ha) rfl rfl))
end
end
noncomputable def mx (l:List Int):Int:=l.foldl max 0
noncomputable def rowB (v:Bool)(cs:List (Int×Cell))(b:B):B :=
 {(if v then mkB true (mx (cs.map fun c=>c.2.1.w)) b.h b.d else mkB false b.w (mx (cs.map fun c=>c.2.1.h)) (mx (cs.map fun c=>c.2.1.d))) with sign:=b.sign,order:=b.order,r0:=b.r0,r1:=b.r1 }
theorem mx_dim:∀(l:List Int)(a:Int),Dim a→(∀ x∈l,Dim x)→Dim (l.foldl max a)
 | [],_,h,_=>h
 | x::l,a,h,hl=>mx_dim l _ (by
   have hx:=hl x (.head _)
   exact ⟨Int.le_trans h.1 (Int.le_max_left _ _),Int.max_le.mpr ⟨h.2,hx.2⟩⟩) fun y hy=>hl y (.tail _ hy)
noncomputable def setC (c:Cell)(w:Option Int)(size:Int)(rb:B):N:=.box ((if c.1.vert then mkB true rb.w (w.getD 0) c.1.d else mkB false (w.getD 0) rb.h rb.d).put (setG c.1.t (size-c.al))) c.2
section
variable {k:Nat}
theorem mxQ {H:List OB}{K:KQ}(cs:List (Int×Cell))(f:U→Int)(h:conI H (mx (cs.map fun c=>f c.2.1)) K):bltL H K ((.int 0)::cs.map fun c=>.int (f c.2.1)) 1:=by
 refine ⟨0,cs.map (fun c:Int×Cell=>f c.2.1),?_,h⟩
 rw [List.map_cons,List.map_map]; rfl
theorem c82 {cs:List (Int×Cell)}{b:B}{l:PV}{v:Bool}(hl:cs.length≤900)(hb:Dim b.w∧Dim b.h∧Dim b.d)(hc:∀ c∈cs,Dim c.2.1.w∧Dim c.2.1.h∧Dim c.2.1.d):Cl (k+4) 82 [] [.fr (.lst (cs.map plP)),.fr (b.p l),.fr (.bool v)] (.ok (.own 1) [.lst [],BX (rowB v cs b) (.own 0)]):=.fn (fm 33 rfl) k82 (Nat.le_refl 3) (Nat.le_refl 3) (by
 have sm:∀ f:U→Int,small (PV.int 0::cs.map fun c=>PV.int (f c.2.1)):=fun f=>by unfold small; rw [List.length_cons,List.length_map]; exact Nat.le_trans (Nat.succ_le_succ hl) (by decide)
 cases v with
 | true =>
  have dm:Dim (mx (cs.map fun c=>c.2.1.w)):=mx_dim _ _ d0 fun x hx=>by
   obtain ⟨c,h,rfl⟩:=List.mem_map.mp hx
   exact (hc c h).1
  refine ⟨le4 rfl,?_⟩
  refine compM (fun c:Int×Cell=>.int c.2.1.w) cs _ (items_seq plP cs) (Nat.le_trans hl (by decide)) rfl (fun c A hc=>?_) ?_
  ·exact ⟨rfl,rfl,trivial⟩
  ·refine ⟨sm _,?_⟩
   refine mxQ cs U.w ?_
   refine ⟨le4 rfl,?_⟩
   refine useN [3] (c39o (v:=true) dm hb.2.1 hb.2.2) rfl rfl rfl rfl ?_
   exact retS [3,4] rfl rfl rfl rfl rfl
 | false =>
  have dm:∀ f:U→Int,(∀ c∈cs,Dim (f c.2.1))→Dim (mx (cs.map fun c=>f c.2.1)):=fun f hf=>mx_dim _ _ d0 fun x hx=>by
   obtain ⟨c,h,rfl⟩:=List.mem_map.mp hx
   exact hf c h
  have dh:=dm U.h fun c h=>(hc c h).2.1
  have dd:=dm U.d fun c h=>(hc c h).2.2
  refine ⟨le4 rfl,?_⟩
  refine compM (fun c:Int×Cell=>.int c.2.1.h) cs _ (items_seq plP cs) (Nat.le_trans hl (by decide)) rfl (fun c A hc=>?_) ?_
  ·exact ⟨rfl,rfl,trivial⟩
  ·refine ⟨sm _,?_⟩
   refine mxQ cs U.h ?_
   refine ⟨le4 rfl,?_⟩
   dsimp only [List.set,List.cons_append,List.nil_append,List.length_cons,List.length_nil,Nat.reduceAdd]
   refine compM (fun c:Int×Cell=>.int c.2.1.d) cs _ (items_seq plP cs) (Nat.le_trans hl (by decide)) rfl (fun c A hc=>?_) ?_
   ·exact ⟨rfl,rfl,rfl,rfl,rfl,trivial⟩
   ·refine ⟨sm _,?_⟩
    refine mxQ cs U.d ?_
    refine ⟨le4 rfl,?_⟩
    refine useN [6] (c39o (v:=false) hb.1 dh dd) rfl rfl rfl rfl ?_
    dsimp only [List.set,List.cons_append,List.nil_append,List.length_cons,List.length_nil,Nat.reduceAdd]
    exact retS [6,7] rfl rfl rfl rfl rfl)
end
section
variable {k:Nat}
theorem c83 {c:Cell}{w:Option Int}{size:Int}{rb:B}{xs:List PV}(hw:oDim w)(hb:Dim rb.w∧Dim rb.h∧Dim rb.d)(hc:Dim c.1.d)(ht:c.1.t.ok)(hx:c.1.t.tot (size-c.al)<2 ^ 60) :
  Cl (k+4) 83 [BX rb (.own 1),.lst xs] [.fr c.n.p,.fr (oi w),.fr (.int size),.own 0] (.ok (.fr (setC c w size rb).p) [BX rb (.own 1),.lst xs]):=.fn (fm 34 rfl) k83 (Nat.le_refl 4) (Nat.le_refl 4) (by
 have h2:Dim (w.getD 0):=by
  rcases w with _|⟨i⟩
  ·exact d0
  ·exact hw i rfl
 have ca:=c75 (k:=k+3) (c:=c)
 have tl:∀{r:Rs},r=.ok (.fr (setC c w size rb).p) [BX rb (.own 1),.lst xs]→sT (cOf 83 [BX rb (.own 1),.lst xs]) b83_5 ⟨GG nS (k+4),r=.ovf⟩ [(8,.fr c.n.p),(97,.fr (oi w)),(73,.fr (.int size)),(66,.own 0),(60,.fr (.int (w.getD 0)))] [BX rb (.own 1),.lst xs] (retK 2 r):=fun {r} hr=>by
  obtain ⟨⟨uw,uh,ud,us,ut,uv⟩,is⟩:=c
  rcases uv with _|_
  ·refine useO (c39 (v:=false) h2 hb.2.1 hb.2.2) rfl rfl ?_
   refine use0 (ca) rfl ?_
   refine use0 (c63 ht hx) rfl ?_
   exact retN 2 rfl hr
  ·refine useO (c39 (v:=true) hb.1 h2 hc) rfl rfl ?_
   refine use0 (ca) rfl ?_
   refine use0 (c63 ht hx) rfl ?_
   exact retN 2 rfl hr
 rcases w with _|⟨i⟩
 ·exact tl rfl
 ·exact tl rfl)
noncomputable def orD:Option Int→Int→Option Int
 | some i,_=>some i
 | none,w=>some w
theorem orD_dim {o:Option Int}{w:Int}(h:oDim o)(hw:Dim w):oDim (orD o w):=fun i e=>by
 rcases o with _|⟨j⟩
 ·obtain rfl:=Option.some.inj e; exact hw
 ·obtain rfl:=Option.some.inj e; exact h _ rfl
theorem c85 {w h d:Option Int}{b:B}{l:PV}(h1:oDim w)(h2:oDim h)(h3:oDim d)(hb:Dim b.w∧Dim b.h∧Dim b.d):Fn (k+4) 85 [.fr (N.rule w h d).p,.fr (b.p l)] (N.rule (orD w b.w) (orD h b.h) (orD d b.d)).p:=.fn (fm 36 rfl) k85 (Nat.le_refl 2) (Nat.le_refl 2) (by
 have c:=c40 (k:=k) (orD_dim h1 hb.1) (orD_dim h2 hb.2.1) (orD_dim h3 hb.2.2)
 have third:∀{r:Rs},r=.ok (.fr (N.rule (orD w b.w) (orD h b.h) (orD d b.d)).p) []→sT (cOf 85 []) b85_1 ⟨GG nS (k+4),r=.ovf⟩ [(68,.fr (N.rule w h d).p),(48,.fr (b.p l)),(97,.fr (oi (orD w b.w))),(31,.fr (oi (orD h b.h)))] [] (retK 0 r):=fun {r} hr=>by
  rcases d with _|⟨i⟩
  ·(conv=>whnf)
   refine useO c rfl rfl ?_
   exact ret0 hr
  ·(conv=>whnf)
   refine useO c rfl rfl ?_
   exact ret0 hr
 have second:sT (cOf 85 []) b85_2 ⟨GG nS (k+4),Rs.ok (.fr (N.rule (orD w b.w) (orD h b.h) (orD d b.d)).p) []=.ovf⟩ [(68,.fr (N.rule w h d).p),(48,.fr (b.p l)),(97,.fr (oi (orD w b.w)))] [] (retK 0 (Rs.ok (.fr (N.rule (orD w b.w) (orD h b.h) (orD d b.d)).p) [])):=by
  rcases h with _|⟨i⟩
  ·(conv=>whnf)
   exact third rfl
  ·(conv=>whnf)
   exact third rfl
 rcases w with _|⟨i⟩
 ·(conv=>whnf)
  exact second
 ·(conv=>whnf)
  exact second)
end
noncomputable def innR (v:Bool)(ws:List (Option Int))(gs:List G):List Int→List N
 | []=>[]
 | i::r=>ebox v (getW ws i)::tabN (getW ws i) (getG gs (i+1))::innR v ws gs r
noncomputable def upto (a b:Int):List Int:=(List.range (b-a).toNat).map fun (i:Nat)=>a+i
noncomputable def cellR (v:Bool)(ws:List (Option Int))(gs:List G)(es:List Int)(rb:B)(c:Int×Cell):List N :=
 setC c.2 (getW ws c.1) (getI es (2*(c.1+c.2.1.spans-1)+2)-getI es (2*c.1+1)) rb::tabN (getW ws c.1) (getG gs (c.1+1))::innR v ws gs (upto (c.1+1) (c.1+c.2.1.spans-1+1))
noncomputable def rowR (v:Bool)(ws:List (Option Int))(gs:List G)(es:List Int)(rb:B):List (Int×Cell)→List N
 | []=>[]
 | c::r=>cellR v ws gs es rb c++rowR v ws gs es rb r
structure CellOk (ws:List (Option Int))(es:List Int)(c:Int×Cell):Prop where
 c0:0≤c.1
 sp:1≤c.2.1.spans
 sp2:c.2.1.spans≤2
 hi:c.1+c.2.1.spans≤ws.length
 tok:c.2.1.t.ok
 hb:c.2.1.t.tot (getI es (2*(c.1+c.2.1.spans-1)+2)-getI es (2*c.1+1)-c.2.al)<2 ^ 60
 d1:Dim c.2.1.d
structure RowIn (v:Bool)(ws:List (Option Int))(gs:List G)(es:List Int)(rb:B):Prop where
 lg:gs.length=ws.length+1
 le:es.length=2*ws.length+2
 wo:∀ w∈ws,oDim w
 db:Dim rb.w∧Dim rb.h∧Dim rb.d
 lw:ws.length≤100
theorem items_upto (a b:Int):(Itr.rng a b).items=(upto a b).map fun i=>.one (.int i):=by unfold upto; rw [List.map_map]; rfl
theorem upto_mem {a b i:Int}(h:i∈upto a b):a≤i∧i<b:=by
 obtain ⟨k,hk,rfl⟩:=List.mem_map.mp h
 have:=List.mem_range.mp hk
 exact ⟨Int.le_add_of_nonneg_right (Int.natCast_nonneg k),Int.add_lt_of_lt_sub_left (Int.lt_toNat.mp this)⟩
theorem lin_le {x i n k d c:Nat}(h:x≤d+k*i)(h2:i≤n)(h3:d+k*n≤c):x≤c:=Nat.le_trans h (Nat.le_trans (Nat.add_le_add_left (Nat.mul_le_mul_left k h2) d) h3)
theorem lin_le2 {x y i n k d e c:Nat}(h:x≤d+k*i)(h2:i≤n)(hy:y≤e)(h3:d+k*n+e≤c):x+y≤c:=Nat.le_trans (Nat.add_le_add (Nat.le_trans h (Nat.add_le_add_left (Nat.mul_le_mul_left k h2) d)) hy) h3
theorem lin0_le2 {x y i n k e c:Nat}(h:x≤k*i)(h2:i≤n)(hy:y≤e)(h3:k*n+e≤c):x+y≤c:=Nat.le_trans (Nat.add_le_add (Nat.le_trans h (Nat.mul_le_mul_left k h2)) hy) h3
theorem lt_le {i m n:Nat}(h:i<m)(h2:m≤n):i≤n:=Nat.le_trans (Nat.le_of_lt h) h2
theorem bd_3 {d:Int}(h:0≤d∧d<3):d=0∨d=1∨d=2:=by omega
theorem one_tn {d:Int}(h:0≤d):1≤(1+d).toNat:=by
 obtain ⟨k,rfl⟩:=Int.eq_ofNat_of_zero_le h
 exact Nat.le_add_right 1 k
theorem mn1 {w:Int}(h:0≤w∧w<3):min w 1=0∨min w 1=1:=by
 rcases bd_3 h with rfl|rfl|rfl <;> decide
theorem sp1 {c p:Int}(h:p≤2):(c+p-1+1-(c+1)).toNat≤1:=by
 rw [Int.sub_add_cancel,Int.add_sub_add_left]
 exact Int.toNat_le.mpr (Int.sub_le_sub_right h 1)
theorem upto_len (a b:Int):(upto a b).length=(b-a).toNat:=by unfold upto; rw [List.length_map,List.length_range]
noncomputable def inStp (v:Bool)(ws:List (Option Int))(gs:List G)(s:List N)(i:Int):List N:=s++[ebox v (getW ws i),tabN (getW ws i) (getG gs (i+1))]
theorem inStp_fold (v:Bool)(ws:List (Option Int))(gs:List G):∀(l:List Int)(s:List N),l.foldl (inStp v ws gs) s=s++innR v ws gs l
 | [],s=>(List.append_nil _).symm
 | i::r,s=>by
  rw [List.foldl_cons,inStp_fold v ws gs r]
  show (s++[_,_])++_=_
  rw [List.append_assoc]; rfl
noncomputable def roStp (v:Bool)(ws:List (Option Int))(gs:List G)(es:List Int)(rb:B)(s:List N)(c:Int×Cell):List N:=s++cellR v ws gs es rb c
theorem roStp_fold (v:Bool)(ws:List (Option Int))(gs:List G)(es:List Int)(rb:B):∀(l:List (Int×Cell))(s:List N),l.foldl (roStp v ws gs es rb) s=s++rowR v ws gs es rb l
 | [],s=>(List.append_nil _).symm
 | i::r,s=>by
  rw [List.foldl_cons,roStp_fold v ws gs es rb r]
  show (s++_)++_=_
  rw [List.append_assoc]; rfl
theorem getW_mem {ws:List (Option Int)}{c:Int}(h0:0≤c)(h1:c<ws.length):getW ws c∈ws:=List.mem_of_getElem? (getW_nat h0 h1)
section
variable {k:Nat}
noncomputable abbrev r84 (ws:List (Option Int))(gs:List G)(es:List Int)(v:Bool):En:=[(74,.fr (.lst (ws.map oi))),(76,.fr (.lst (gs.map G.p))),(19,.fr (.lst (es.map .int))),(33,.fr (.bool v)),(66,.own 1)]
noncomputable abbrev H84 (rb:B)(s:List N):List OB:=[.lst (Ns.p s),BX rb (.own 0)]
theorem i84 {X:Prop}{K:KT}{v:Bool}{ws:List (Option Int)}{gs:List G}{es:List Int}{rb:B}(h:RowIn v ws gs es rb){B':Prop}(hB:B')(s:List N)(i:Int)(h0:0≤i)(h1:i<ws.length)(hl:s.length≤900) :
  sT (cOf 84 []) b84_2 (Px.calm (Px.calm ⟨GG nS (k+5),X⟩)) (st (r84 ws gs es v) 56 (.fr (.int i))) (H84 rb s) (kTurn B' (r84 ws gs es v,H84 rb (inStp v ws gs s i)) K):=by
 (conv=>whnf)
 rw [atP_map h0 (getW_nat h0 h1)]
 refine use0 (c79 (h.wo _ (getW_mem h0 h1))) rfl ?_
 refine ⟨(by unfold small; rw [List.length_append,Ns_len]; exact Nat.le_trans (Nat.add_le_add_right hl 1) (by decide)),?_⟩
 refine use0 (c80 h0 h1 h.lg) rfl ?_
 refine ⟨(by unfold small; rw [List.length_append,List.length_append,Ns_len]; exact Nat.le_trans (Nat.add_le_add_right hl 2) (by decide)),?_⟩
 refine turnI hB [] ?_ rfl
 show _=[OB.lst (Ns.p (s++[_,_])),_]
 rw [Ns_app,List.append_assoc]; rfl
theorem t84 {X:Prop}{K:KT}{v:Bool}{ws:List (Option Int)}{gs:List G}{es:List Int}{rb:B}(h:RowIn v ws gs es rb)(s:List N)(c:Int×Cell)(hc:CellOk ws es c)(hl:s.length≤890){B':Prop}(hB:B') :
  sT (cOf 84 []) b84_6 (Px.calm ⟨GG nS (k+5),X⟩) (st (st (r84 ws gs es v) 10 (.fr (.int c.1))) 8 (.fr c.2.n.p)) (H84 rb s) (kTurn B' (r84 ws gs es v,H84 rb (roStp v ws gs es rb s c)) K):=by
 refine cp fun kk=>?_
 obtain ⟨c0,sp,sp2,hi,tok,hb,d1⟩:=hc
 have q0:0≤c.1+c.2.1.spans-1:=Int.sub_nonneg_of_le (Int.le_trans sp (Int.le_add_of_nonneg_left c0))
 have i5:c.1<ws.length:=Int.lt_of_lt_of_le (Int.lt_add_of_pos_right c.1 (Int.lt_of_lt_of_le (by decide) sp)) hi
 have i1:0≤2*(c.1+c.2.1.spans-1)+2:=Int.add_nonneg (Int.mul_nonneg (by decide) q0) (by decide)
 have i2:2*(c.1+c.2.1.spans-1)+2<es.length:=by rw [h.le]; exact Int.add_lt_add_right (Int.mul_lt_mul_of_pos_left (Int.sub_one_lt_of_le hi) (by decide)) 2
 have i3:0≤2*c.1+1:=Int.add_nonneg (Int.mul_nonneg (by decide) c0) (by decide)
 have i4:2*c.1+1<es.length:=by rw [h.le]; show 2*c.1+1<2*(ws.length:Int)+2; exact Int.add_lt_add_of_le_of_lt (Int.mul_le_mul_of_nonneg_left (Int.le_of_lt i5) (by decide)) (by decide)
 have i6:=h.lw
 refine kk ?_
 (conv=>whnf)
 rw [atP_map c0 (getW_nat c0 i5)]
 refine ⟨.inl two,?_⟩
 (conv=>whnf)
 rw [atP_ints i1 i2]
 refine ⟨.inl two,?_⟩
 (conv=>whnf)
 rw [atP_ints i3 i4]
 refine useN [1,0] (c83 (h.wo _ (getW_mem c0 i5)) h.db d1 tok hb) rfl rfl rfl rfl ?_
 refine ⟨(by unfold small; rw [List.length_append,Ns_len]; exact Nat.le_trans (Nat.add_le_add_right hl 1) (by decide)),?_⟩
 refine use0 (c80 c0 i5 h.lg) rfl ?_
 refine ⟨(by unfold small; rw [List.length_append,List.length_append,Ns_len]; exact Nat.le_trans (Nat.add_le_add_right hl 2) (by decide)),?_⟩
 refine ⟨bd_na (bd_add ⟨c0,Int.le_trans (Int.le_of_lt i5) (Int.ofNat_le.mpr i6)⟩ (bd_c 1)) (by decide) (by decide),bd_na (bd_add ⟨q0,Int.le_trans (Int.sub_le_self _ (by decide)) (Int.le_trans hi (Int.ofNat_le.mpr i6))⟩ (bd_c 1)) (by decide) (by decide),?_⟩
 refine loopK (fun s=>(r84 ws gs es v,H84 rb s)) (fun j s'=>s'.length=s.length+2+2*j) (inStp v ws gs) (s++[setC c.2 (getW ws c.1) (getI es (2*(c.1+c.2.1.spans-1)+2)-getI es (2*c.1+1)) rb,tabN (getW ws c.1) (getG gs (c.1+1))]) _ _ (items_upto _ _) (cOf_half _ _) List.length_append ⟨?_,rfl,trivial⟩ ⟨rfl,rfl,rfl,rfl,rfl,trivial⟩ (fun zz=>rfl) (fun j s' i hi' hk=>?_) fun hk=>?_
 ·rw [List.append_assoc,show ([(setC c.2 (getW ws c.1) (getI es (2*(c.1+c.2.1.spans-1)+2)-getI es (2*c.1+1)) rb).p]++[(tabN (getW ws c.1) (getG gs (c.1+1))).p])=Ns.p [setC c.2 (getW ws c.1) (getI es (2*(c.1+c.2.1.spans-1)+2)-getI es (2*c.1+1)) rb,tabN (getW ws c.1) (getG gs (c.1+1))] from rfl,← Ns_app]
 ·have hm:=upto_mem (List.mem_of_getElem? hi')
  have hj:=get_lt hi'
  rw [upto_len] at hj
  exact i84 h (by show (s'++[_,_]).length=_; rw [List.length_append,hk]; rfl) s' i (Int.le_trans (Int.add_nonneg c0 (by decide)) hm.1) (Int.lt_of_lt_of_le hm.2 (by rw [Int.sub_add_cancel]; exact hi)) (Nat.le_trans (Nat.le_of_eq hk) (Nat.le_trans (Nat.add_le_add (Nat.add_le_add_right hl 2) (Nat.mul_le_mul_left 2 (Nat.le_trans (Nat.le_of_lt hj) (sp1 sp2)))) (by decide)))
 ·rw [inStp_fold,List.append_assoc]
  exact ⟨hB,⟨rfl,rfl,trivial⟩,agr_of2 rfl⟩
theorem cellR_len {v:Bool}{ws:List (Option Int)}{gs:List G}{es:List Int}{rb:B}{c:Int×Cell}(h:CellOk ws es c):(cellR v ws gs es rb c).length≤4:=by
 have e:∀ l:List Int,(innR v ws gs l).length=2*l.length:=by
  intro l
  induction l with
  | nil=>rfl
  | cons i r ih=>show (innR v ws gs r).length+1+1=2*(r.length+1); rw [ih]; rfl
 show (innR v ws gs _).length+1+1≤4
 rw [e,upto_len]
 exact Nat.add_le_add_right (Nat.mul_le_mul_left 2 (sp1 h.sp2)) 2
noncomputable def rowN (v:Bool)(ws:List (Option Int))(g:G)(gs:List G)(es:List Int)(b:B)(cs:List (Int×Cell)):N:=.box (rowB v cs b) (.skip g 109::rowR v ws (g::gs) es (rowB v cs b) cs)
theorem c84 {v:Bool}{ws:List (Option Int)}{g:G}{gs:List G}{es:List Int}{b:B}{l:PV}{cs:List (Int×Cell)}(h:RowIn v ws (g::gs) es (rowB v cs b))(hb:Dim b.w∧Dim b.h∧Dim b.d)(hl:cs.length≤100)(hc:∀ c∈cs,CellOk ws es c)(hd:∀ c∈cs,Dim c.2.1.w∧Dim c.2.1.h∧Dim c.2.1.d) :
  Fn (k+5) 84 [.fr (.lst (cs.map plP)),.fr (.lst (ws.map oi)),.fr (.lst ((g::gs).map G.p)),.fr (b.p l),.fr (.lst (es.map .int)),.fr (.bool v)] (rowN v ws g gs es b cs).p:=.fn (fm 35 rfl) k84 (Nat.le_refl 6) (Nat.le_refl 6) (by
 refine useN [] (c82 (Nat.le_trans hl (by decide)) hb hd) rfl rfl rfl rfl ?_
 refine useO (c42 (.inr rfl)) rfl rfl ?_
 refine ⟨le4 rfl,?_⟩
 refine loopK (fun s=>(r84 ws (g::gs) es v,H84 (rowB v cs b) s)) (fun j s=>s.length≤1+4*j) (roStp v ws (g::gs) es (rowB v cs b)) [.skip g 109] cs _ (items_seq plP cs) (cOf_half _ _) (Nat.le_refl 1) ⟨rfl,rfl,trivial⟩ ⟨rfl,rfl,rfl,rfl,rfl,trivial⟩ (fun zz=>rfl) (fun j s c hj hk=>?_) fun hk=>?_
 ·have h1:=get_lt hj
  have h2:=hc c (List.mem_of_getElem? hj)
  have h3:=cellR_len (v:=v) (gs:=g::gs) (rb:=rowB v cs b) h2
  exact t84 h s c h2 (lin_le hk (lt_le h1 hl) (by decide)) (by show (s++_).length≤_; rw [List.length_append]; exact (Nat.add_le_add hk h3 :))
 ·rw [roStp_fold]
  exact ret0 rfl)
end
inductive E where
 | row (cs:List Cell)
 | node (n:N)
noncomputable def E.ctorIdx (x:E):Nat:=@E.casesOn (fun _=>Nat) x (fun _=>0) (fun _=>1)
noncomputable def E.p:E→PV
 | .row cs=>.lst (cs.map fun c=>c.n.p)
 | .node n=>n.p
noncomputable def fin1 (v:Bool)(ws:List (Option Int))(g:G)(gs:List G)(es:List Int)(b:B):E→N
 | .row cs=>rowN v ws g gs es b (pl 0 cs)
 | .node (.rule w h d)=>.rule (orD w b.w) (orD h b.h) (orD d b.d)
 | .node n=>n
noncomputable def EOk (v:Bool)(ws:List (Option Int))(gs:List G)(es:List Int)(b:B):E→Prop
 | .row cs=>cs.length≤100∧spsum cs≤ws.length∧(∀ c∈pl 0 cs,CellOk ws es c∧c.2.1.vert=v∧Dim c.2.1.w∧Dim c.2.1.h∧Dim c.2.1.d)∧RowIn v ws gs es (rowB v (pl 0 cs) b)
 | .node (.rule w h d)=>oDim w∧oDim h∧oDim d
 | .node (.kern z1 z2)=>True
 | .node (.pen z1)=>True
 | .node z1=>False
theorem pl_len:∀(c:Int)(cs:List Cell),(pl c cs).length=cs.length
 | z1,[]=>rfl
 | c,x::r=>congrArg (·+1) (pl_len _ r)
noncomputable def fiStp (v:Bool)(ws:List (Option Int))(g:G)(gs:List G)(es:List Int)(b:B)(s:List N)(e:E):List N:=s++[fin1 v ws g gs es b e]
theorem fiStp_fold (v:Bool)(ws:List (Option Int))(g:G)(gs:List G)(es:List Int)(b:B):∀(l:List E)(s:List N),l.foldl (fiStp v ws g gs es b) s=s++l.map (fin1 v ws g gs es b)
 | [],s=>(List.append_nil _).symm
 | i::r,s=>by
  rw [List.foldl_cons,fiStp_fold v ws g gs es b r]
  show (s++[_])++_=_
  rw [List.append_assoc]; rfl
section
variable {k:Nat}
noncomputable abbrev r86 (ws:List (Option Int))(gs:List G)(es:List Int)(v:Bool)(bp rp:PV):En:=[(74,.fr (.lst (ws.map oi))),(76,.fr (.lst (gs.map G.p))),(33,.fr (.bool v)),(48,.fr bp),(65,.fr rp),(19,.fr (.lst (es.map .int))),(27,.own 0)]
theorem t86 {X:Prop}{K:KT}{v:Bool}{ws:List (Option Int)}{g:G}{gs:List G}{es:List Int}{b:B}{l rp:PV}(hb:Dim b.w∧Dim b.h∧Dim b.d)(s:List N)(e:E)(he:EOk v ws (g::gs) es b e)(hl:s.length≤900){B':Prop}(hB:B') :
  sT (cOf 86 []) b86_9 (Px.calm ⟨GG nS (k+6),X⟩) (st (r86 ws (g::gs) es v (b.p l) rp) 66 (.fr e.p)) [.lst (Ns.p s)] (kTurn B' (r86 ws (g::gs) es v (b.p l) rp,[.lst (Ns.p (fiStp v ws g gs es b s e))]) K):=by
 have sm:∀ n:N,small (Ns.p s++[n.p]):=fun n=>by unfold small; rw [List.length_append,Ns_len]; show s.length+1≤1000; lia
 have ap:∀ n:N,Ns.p s++[n.p]=Ns.p (s++[n]):=fun n=>(Ns_app s [n]).symm
 rcases e with ⟨cs⟩|⟨n⟩
 ·obtain ⟨h1,h2,h3,h4⟩:=he
  refine use0 (c77 (m:=(((ws.map oi).length:Nat):Int)) (by rw [List.length_map]; exact h2) (by lia)) rfl ?_
  refine loopL (σ:=Unit) (fun zz=>((r86 ws (g::gs) es v (b.p l) rp++[(9,QV.fr (PV.lst ((pl 0 cs).map plP)))]:En),[.lst (Ns.p s)])) (fun zz=>True) (fun s zz=>s) () (pl 0 cs) _ (items_seq plP _) (cOf_half _ _) trivial ⟨rfl,trivial⟩ (agr_of2 rfl) (fun zz=>rfl) (fun zz c hc zz=>?_) fun zz=>?_
  ·refine brF (nF (dT (h3 c hc).2.1)) ?_
   exact turnI trivial [] rfl rfl
  ·refine use0 (c84 h4 hb (by rw [pl_len]; exact h1) (fun c hc=>(h3 c hc).1) fun c hc=>(h3 c hc).2.2) rfl ?_
   refine ⟨sm _,?_⟩
   refine turnI hB [] ?_ rfl
   rw [ap]; rfl
 ·rcases n with ⟨_,_⟩|⟨w,so⟩|⟨w,h,d⟩|⟨w⟩|⟨_,_⟩|⟨_,_⟩
  ·exact he.elim
  ·refine ⟨sm _,?_⟩
   refine turnI hB [] ?_ rfl
   show [OB.lst (Ns.p s++[(N.kern w so).p])]=_
   rw [ap]; rfl
  ·obtain ⟨h1,h2,h3⟩:=he
   refine use0 (c85 h1 h2 h3 hb) rfl ?_
   refine ⟨sm _,?_⟩
   refine turnI hB [] ?_ rfl
   rw [ap]; rfl
  ·refine ⟨sm _,?_⟩
   refine turnI hB [] ?_ rfl
   show [OB.lst (Ns.p s++[(N.pen w).p])]=_
   rw [ap]; rfl
  ·exact he.elim
  ·exact he.elim
structure FinIn (v:Bool)(ws:List (Option Int))(g:G)(gs:List G)(mode:Int):Prop where
 lg:gs.length=ws.length
 w1:1≤ws.length
 w2:ws.length≤100
 wo:∀ w∈ws,oDim w
 go:∀ x∈g::gs,x.ok
 hm:mode=0∨mode=1
theorem proto_len {v:Bool}:∀{ws:List (Option Int)}{gs:List G},gs.length=ws.length→(protoR v ws gs).length=2*ws.length
 | [],z1,z2=>rfl
 | w::ws,[],h=>by injection h
 | w::ws,g::gs,h=>by
  show (protoR v ws gs).length+1+1=2*(ws.length+1)
  rw [proto_len (Nat.succ.inj h)]; lia
theorem c86 {v:Bool}{ws:List (Option Int)}{g:G}{gs:List G}{mode amount:Int}{rows:List E}{P:List N}{b:B}{rp:Int×Int}{goal:Int}(h:FinIn v ws g gs mode)(ha:Dim amount)(hP:proto v ws (g::gs)=P)(hgo:goalOf v P (mdD v) mode amount=goal)(ok:POk v P goal)(hB:packB v P (mdD v) goal=b)(hR:packR v P (mdD v) goal=rp)
  (hbd:Dim b.w∧Dim b.h∧Dim b.d) (hr:b.rok) (hl:rows.length≤100) (he:∀ e∈rows,EOk v ws (g::gs) (plcs b P) b e) :
  Fn (k+8) 86 [.fr (.lst (rows.map E.p)),.fr (.lst (ws.map oi)),.fr (.lst ((g::gs).map G.p)),.fr (.int mode),.fr (.int amount),.fr (.bool v)] (.tup [.lst (Ns.p (rows.map (fin1 v ws g gs (plcs b P) b))),pr rp]):=.fn (fm 37 rfl) k86 (Nat.le_refl 6) (Nat.le_refl 6) (by
 subst hP hgo hB hR
 have pln:(proto v ws (g::gs)).length<900:=by
  show (protoR v ws gs).length+1<900
  rw [proto_len h.lg]
  have:=h.w2
  lia
 refine use0 (c81 h.lg h.w1 h.w2 h.wo h.go h.hm ha ok) rfl ?_
 refine use0 (c67 hr pln) rfl ?_
 refine ⟨le4 rfl,?_⟩
 refine loopK (fun s=>(r86 ws (g::gs) (plcs (packB v (proto v ws (g::gs)) (mdD v) (goalOf v (proto v ws (g::gs)) (mdD v) mode amount)) (proto v ws (g::gs))) v ((packB v (proto v ws (g::gs)) (mdD v) (goalOf v (proto v ws (g::gs)) (mdD v) mode amount)).p (.lst (Ns.p (proto v ws (g::gs))))) (pr (packR v (proto v ws (g::gs)) (mdD v) (goalOf v (proto v ws (g::gs)) (mdD v) mode amount))),[.lst (Ns.p s)])) (fun j s=>s.length=j) (fiStp v ws g gs (plcs (packB v (proto v ws (g::gs)) (mdD v) (goalOf v (proto v ws (g::gs)) (mdD v) mode amount)) (proto v ws (g::gs))) (packB v (proto v ws (g::gs)) (mdD v) (goalOf v (proto v ws (g::gs)) (mdD v) mode amount))) [] rows _ (items_seq E.p rows) (cOf_half _ _) rfl ⟨rfl,trivial⟩ ⟨rfl,rfl,rfl,rfl,rfl,rfl,rfl,trivial⟩ (fun zz=>rfl) (fun j s e hj hk=>?_) fun hk=>?_
 ·have h1:=get_lt hj
  exact t86 hbd s e (he e (List.mem_of_getElem? hj)) (by lia) (by show (s++[_]).length=_; rw [List.length_append,hk]; rfl)
 ·rw [fiStp_fold]
  exact ⟨le4 rfl,ret0 rfl⟩)
theorem x86 {v:Bool}{ws:List (Option Int)}{g:G}{gs:List G}{mode amount:Int}{rows:PV}(h:FinIn v ws g gs mode)(hw:v=true→Dim (vT (proto v ws (g::gs)) 1073741823).2.1)(ha:¬Dim amount∨Dim amount∧¬Dim (goalOf v (proto v ws (g::gs)) (mdD v) mode amount)) :
  Cl (k+8) 86 [] [.fr rows,.fr (.lst (ws.map oi)),.fr (.lst ((g::gs).map G.p)),.fr (.int mode),.fr (.int amount),.fr (.bool v)] .ovf:=.fn (fm 37 rfl) k86 (Nat.le_refl 6) (Nat.le_refl 6) (by
 exact useX (x81 h.lg h.w1 h.w2 h.wo h.go h.hm hw ha) rfl rfl)
end
@[irreducible] noncomputable def ER (en:Nat→OB)(n:Nat)(R:List OB):List OB:=(List.range n).map en++R
section
variable {en:Nat→OB} {n:Nat} {R:List OB}
theorem ER_len:(ER en n R).length=n+R.length:=by unfold ER; rw [List.length_append,List.length_map,List.length_range]
theorem ER_get {j:Nat}(h:j<n):(ER en n R)[j]?=some (en j):=by
 unfold ER
 rw [List.getElem?_append_left (by rw [List.length_map,List.length_range]; exact h),List.getElem?_map,List.getElem?_range h]; rfl
theorem ER_get2 (i:Nat):(ER en n R)[n+i]?=R[i]?:=by
 unfold ER
 rw [List.getElem?_append_right (by rw [List.length_map,List.length_range]; exact Nat.le_add_right _ _),List.length_map,List.length_range,Nat.add_sub_cancel_left]
theorem ER_set {j:Nat}{o:OB}(h:j<n):(ER en n R).set j o=ER (fun i=>if i=j then o else en i) n R:=by
 refine List.ext_getElem? fun i=>?_
 rw [List.getElem?_set,ER_len]
 by_cases hi:i<n
 ·rw [ER_get hi,ER_get hi]
  by_cases e:j=i
  ·rw [if_pos e,if_pos (Nat.lt_of_lt_of_le h (Nat.le_add_right _ _)),if_pos e.symm]
  ·rw [if_neg e,if_neg fun q=>e q.symm]
 ·obtain ⟨d,rfl⟩:=Nat.exists_eq_add_of_le (Nat.le_of_not_lt hi)
  rw [if_neg (fun e:j=n+d=>Nat.not_lt_of_le (Nat.le_add_right n d) (e▸h)),ER_get2,ER_get2]
theorem ER_set2 (i:Nat){o:OB}:(ER en n R).set (n+i) o=ER en n (R.set i o):=by
 unfold ER
 rw [List.set_append_right _ _ (by rw [List.length_map,List.length_range]; exact Nat.le_add_right _ _),List.length_map,List.length_range,Nat.add_sub_cancel_left]
theorem ER_app (S:List OB):ER en n R++S=ER en n (R++S):=by unfold ER; rw [List.append_assoc]
theorem subE {i:Int}{K:QV→Prop}(h0:0≤i)(h1:i<n)(hn:n≤1000)(h:K (.own i.toNat)):subQ (ER en n (.ol ((List.range n).map .own)::R)) (.own n) (.int i) K:=by
 have e:(ER en n (.ol ((List.range n).map .own)::R))[n]?=some (.ol ((List.range n).map .own)):=ER_get2 (en:=en) (n:=n) (R:=.ol ((List.range n).map .own)::R) 0
 have hi:i.toNat<n:=(Int.toNat_lt h0).mpr h1
 delta subQ pvQ olQ
 simp only [e]
 refine ⟨h0,by rw [List.length_map,List.length_range]; exact hn,?_⟩
 rw [List.getElem?_map,List.getElem?_range hi]
 exact h
theorem ER_all {P:OB→Bool}(h:∀ j,j<n→P (en j)=true)(hR:R.all P=true):(ER en n R).all P=true:=by
 unfold ER
 rw [List.all_append,hR,Bool.and_true,List.all_eq_true]
 intro o ho
 obtain ⟨j,hj,rfl⟩:=List.mem_map.mp ho
 exact h j (List.mem_range.mp hj)
end
noncomputable abbrev En2:=Nat→List (Int×Int)
noncomputable def addRow:En2→List (Int×Cell)→En2
 | en,[]=>en
 | en,(c,x)::r=>addRow (fun j=>if j=(c+x.1.spans-1).toNat then en j++[(c,x.al)] else en j) r
noncomputable def ends:En2→List E→En2
 | en,[]=>en
 | en,.row cs::r=>ends (addRow en (pl 0 cs)) r
 | en,.node z1::r=>ends en r
noncomputable abbrev oE (en:En2)(j:Nat):OB:=.lst ((en j).map pr)
theorem addRow_mono:∀(cs:List (Int×Cell))(en:En2)(j:Nat),(en j).length≤(addRow en cs j).length∧(addRow en cs j).length≤(en j).length+cs.length
 | [],z1,z2=>⟨Nat.le_refl _,Nat.le_refl _⟩
 | (c,x)::r,en,j=>by
  have ih:=addRow_mono r (fun j=>if j=(c+x.1.spans-1).toNat then en j++[(c,x.al)] else en j) j
  have e:(en j).length≤(if j=(c+x.1.spans-1).toNat then en j++[(c,x.al)] else en j).length∧(if j=(c+x.1.spans-1).toNat then en j++[(c,x.al)] else en j).length≤(en j).length+1:=by
   split
   ·rw [List.length_append]; exact ⟨Nat.le_add_right _ _,Nat.le_refl _⟩
   ·exact ⟨Nat.le_refl _,Nat.le_succ _⟩
  exact ⟨Nat.le_trans e.1 ih.1,Nat.le_trans ih.2 (Nat.le_trans (Nat.add_le_add_right e.2 _) (Nat.le_of_eq (Nat.add_right_comm _ 1 _)))⟩
section
variable {k:Nat} {n:Nat}
noncomputable abbrev olN (n:Nat):OB:=.ol ((List.range n).map .own)
theorem ol_ok {n L:Nat}(h:n≤L):okO L (olN n)=true:=by
 show ((List.range n).map QV.own).all (okN L)=true
 rw [List.all_eq_true]
 intro q hq
 obtain ⟨j,hj,rfl⟩:=List.mem_map.mp hq
 have:=List.mem_range.mp hj
 exact Nat.blt_eq.mpr (Nat.lt_of_lt_of_le this h)
theorem t78 {X:Prop}{K:KT}{rs sp rw':PV}(hn:n≤1000)(en:En2)(c:Int×Cell)(h0:0≤c.1)(h1:1≤c.2.1.spans)(h2:c.1+c.2.1.spans≤n)(hl:(en (c.1+c.2.1.spans-1).toNat).length≤900){B':Prop}(hB:B') :
  sT (cOf 78 []) b78_1 (Px.calm (Px.calm ⟨GG nS (k+2),X⟩)) (st (st [(67,.fr rs),(11,.fr (.int n)),(76,.fr sp),(20,.own n),(66,.fr rw')] 22 (.fr (.int c.1))) 8 (.fr c.2.n.p)) (ER (oE en) n [olN n]) (kTurn B' ([(67,.fr rs),(11,.fr (.int n)),(76,.fr sp),(20,.own n),(66,.fr rw')],ER (oE fun j=>if j=(c.1+c.2.1.spans-1).toNat then en j++[(c.1,c.2.al)] else en j) n [olN n]) K):=by
 have q0:0≤c.1+c.2.1.spans-1:=Int.sub_nonneg_of_le (Int.le_trans h1 (Int.le_add_of_nonneg_left h0))
 have hj:(c.1+c.2.1.spans-1).toNat<n:=(Int.toNat_lt q0).mpr (Int.sub_one_lt_of_le h2)
 refine subE q0 (Int.sub_one_lt_of_le h2) hn ?_
 (conv=>whnf)
 rw [ER_get hj]
 refine use0 c75 rfl ?_
 refine ⟨le4 rfl,?_⟩
 (conv=>whnf)
 rw [ER_get hj]
 refine ⟨(by unfold small; rw [List.length_append,List.length_map]; exact Nat.le_trans (Nat.add_le_add_right hl 1) (by decide)),?_⟩
 rw [ER_set hj]
 refine turnI hB [] ?_ rfl
 rw [List.append_nil]
 congr 1
 funext i
 by_cases e:i=(c.1+c.2.1.spans-1).toNat
 ·subst e
  rw [if_pos rfl]
  refine congrArg OB.lst ?_
  show _=List.map pr (if _ then _ else _)
  rw [if_pos rfl,List.map_append]; rfl
 ·rw [if_neg e]
  refine congrArg OB.lst ?_
  show _=List.map pr (if _ then _ else _)
  rw [if_neg e]
end
noncomputable def stepW (gs:List G)(i:Nat):Option Int→Int
 | none=>0
 | some w=>w+(getG gs ((i:Int)+1)).w
noncomputable def beg (D:List (Option Int))(gs:List G):Nat→Int
 | 0=>0
 | i+1=>beg D gs i+stepW gs i (getW D i)
theorem beg_flat {D:List (Option Int)}{gs:List G}{f:Nat}:∀ j,f≤j→(∀ i,f≤i→i<j→D[i]?=some none)→beg D gs j=beg D gs f
 | 0,h,z1=>by rw [Nat.le_zero.mp h]
 | j+1,h,k=>by
  by_cases e:f=j+1
  ·rw [e]
  ·have hj:f≤j:=Nat.le_of_lt_succ (Nat.lt_of_le_of_ne h e)
   have:=beg_flat (gs:=gs) j hj fun i a b=>k i a (Nat.lt_succ_of_lt b)
   show beg D gs j+stepW gs j (getW D j)=_
   rw [this,getW_of (k j hj (Nat.lt_succ_self j))]
   exact Int.add_zero _
noncomputable def EnOk (en:En2)(D:List (Option Int)):Prop:=∀(j:Nat)(w:Option Int),D[j]?=some w→(match w with
 | none=>en j=[]
 | some w=>∃ (f:Nat) (n:Int) (ns:List Int),en j=(n::ns).map (fun x=>((f:Int),x))∧ns.foldl max n=w∧f≤j∧∀ i,f≤i→i<j→D[i]?=some none)
noncomputable abbrev begL (D:List (Option Int))(gs:List G)(k:Nat):List Int:=(List.range (k+1)).map (beg D gs)
theorem getI_beg {D:List (Option Int)}{gs:List G}{m i:Nat}(h:i<m+1):getI (begL D gs m) (i:Int)=beg D gs i:=by
 unfold getI
 rw [show ((i:Int)).toNat=i from rfl,List.getD_eq_getElem?_getD,List.getElem?_map,List.getElem?_range h]; rfl
theorem begL_len {D:List (Option Int)}{gs:List G}{m:Nat}:(begL D gs m).length=m+1:=by rw [List.length_map,List.length_range]
noncomputable abbrev enK (en:En2)(k:Nat)(j:Nat):OB:=if j<k then .fz (.lst ((en j).map pr)) else oE en j
noncomputable abbrev H78 (en:En2)(D:List (Option Int))(gs:List G)(n k:Nat):List OB:=ER (enK en k) n [olN n,.lst ((begL D gs k).map .int),.lst ((D.take k).map oi)]
theorem okO_ol {n L:Nat}{S:List OB}(h:n+1+S.length≤L)(hS:S.all (okO L)=true):(olN n::S).all (okO L)=true:=by
 rw [List.all_cons,hS,ol_ok (Nat.le_trans (Nat.le_trans (Nat.le_add_right n 1) (Nat.le_add_right _ _)) h)]; rfl
theorem pv_ol {en:Nat→OB}{n:Nat}{R:List OB}:pvQ (ER en n (olN n::R)) (.own n)=none:=by
 have e:(ER en n (olN n::R))[n]?=some (olN n):=ER_get2 (en:=en) (n:=n) (R:=olN n::R) 0
 unfold pvQ
 simp only [e]
theorem at_ol {en:Nat→OB}{n:Nat}{R:List OB}:(ER en n (olN n::R))[n]?=some (olN n):=ER_get2 (en:=en) (n:=n) (R:=olN n::R) 0
theorem pv_lst {en:Nat→OB}{n i:Nat}{R:List OB}{xs:List PV}(e:R[i]?=some (.lst xs)):pvQ (ER en n R) (.own (n+i))=some (.lst xs):=by
 have e1:(ER en n R)[n+i]?=some (.lst xs):=(ER_get2 i).trans e
 unfold pvQ
 simp only [e1]
theorem owns_get {n j:Nat}(h:j<n):((List.range n).map QV.own)[j]?=some (.own j):=by rw [List.getElem?_map,List.getElem?_range h]; rfl
section
variable {k:Nat} {n:Nat}
theorem er_new {en:Nat→OB}{R:List OB}{xs:List PV}{K:KQ}(h:K (ER en n (R++[.lst xs])) (.own (n+R.length))):newL (ER en n R) xs K:=by
 unfold newL
 rw [ER_app,ER_len]; exact h
theorem frz_lst {H H':List OB}{i:Nat}{xs:List PV}{K:List OB→PV→Prop}(e:H[i]?=some (.lst xs))(e2:H.set i (.fz (.lst xs))=H')(h:K H' (.lst xs)):frz H (.own i) K:=by
 show opB H[i]? _
 rw [e]; subst e2; exact h
theorem subIt {en:Nat→OB}{R H':List OB}{j:Nat}{xs:List PV}{K:List OB→Itr→Prop}(h1:j<n)(hn:n≤1000)(e:(ER en n (olN n::R))[j]?=some (.lst xs))(e2:(ER en n (olN n::R)).set j (.fz (.lst xs))=H')(h:K H' (.seq xs)) :
  subQ (ER en n (olN n::R)) (.own n) (.int j) (fun q=>frz (ER en n (olN n::R)) q fun H v=>opB (seqP v) fun xs=>K H (.seq xs)):=subE (Int.natCast_nonneg j) (Int.ofNat_lt.mpr h1) hn (frz_lst e e2 h)
theorem er_cmp {en:Nat→OB}{R:List OB}{xs:List PV}{o:CO}{w:WQ}{K:KQ}(i:Nat)(e:R[i]?=some (.lst xs))(h:w (ER en n (R.set i (.fz (.lst xs)))) (kCmp2 o (.lst xs) K)):kCmp o w K (ER en n R) (.own (n+i)):=frz_lst ((ER_get2 i).trans e) (ER_set2 i) h
theorem er_cmp2 {en:Nat→OB}{R:List OB}{xs:List PV}{o:CO}{u:PV}{K:KQ}(i:Nat)(e:R[i]?=some (.lst xs))(h:cmpQ o u (.lst xs) fun r=>conB (ER en n (R.set i (.fz (.lst xs)))) r K):kCmp2 o u K (ER en n R) (.own (n+i)):=frz_lst (K:=fun H w=>cmpQ o u w fun r=>conB H r K) ((ER_get2 i).trans e) (ER_set2 i) h
theorem er_blt {en:Nat→OB}{R:List OB}{v:PV}{f:Nat}{K:KQ}(i:Nat)(e:R[i]?=some (.fz v))(h:bltQ (ER en n R) f K [v]):kBlt f K (ER en n R) [.own (n+i)]:=by
 show opB (ER en n R)[n+i]? _
 rw [ER_get2,e]; exact h
theorem opB_in {α:Type}{o:Option α}{v:α}{Q:α→Prop}(h:o=some v)(g:Q v):opB o Q:=by
 subst h; exact g
theorem er_at {en:Nat→OB}{R:List OB}{xs:List PV}{j v:PV}{K:QV→Prop}(i:Nat)(e:R[i]?=some (.lst xs))(a:atP xs j=some v)(h:K (.fr v)):subQ (ER en n R) (.own (n+i)) j K:=by
 unfold subQ
 rw [pv_lst e]
 show opB (atP xs j) _
 rw [a]; exact h
theorem er_l {en:Nat→OB}{R:List OB}{xs:List PV}{w:WQ}{ρ:En}{K:KT}(i:Nat)(e:R[i]?=some (.lst xs))(h:w (ER en n R) (kApp2 (.own (n+i)) ρ K)):kApp w ρ K (ER en n R) (.own (n+i)):=by
 show opB (ER en n R)[n+i]? _
 rw [ER_get2,e]; exact h
theorem er_app {en:Nat→OB}{R:List OB}{xs:List PV}{v:PV}{ρ:En}{K:KT}(i:Nat)(e:R[i]?=some (.lst xs))(s:small (xs++[v]))(h:K .nx ρ (ER en n (R.set i (.lst (xs++[v]))))):kApp2 (.own (n+i)) ρ K (ER en n R) (.fr v) :=
 by
  show opB (ER en n R)[n+i]? _
  rw [ER_get2,e]
  exact ⟨s,by rw [ER_set2]; exact h⟩
theorem ite_lt {α:Type}{i j:Nat}{a b:α}(h:i≤j):(if i<j+1 then a else b)=a:=if_pos (Nat.lt_succ_of_le h)
theorem u78 {X:Prop}{K:KT}{rs:PV}{D:List (Option Int)}{gs:List G}{en:En2}(hD:D.length=n)(hn:n≤100)(hg:gs.length=n+1)(ho:∀ w∈D,oDim w)(hE:EnOk en D)(hl:∀ j,(en j).length≤900){j:Nat}{w:Option Int}(hj:D[j]?=some w){B':Prop}(hB:B') :
  sT (cOf 78 []) b78_7 (Px.calm ⟨GG nS (k+2),X⟩) (st [(67,.fr rs),(11,.fr (.int n)),(76,.fr (.lst (gs.map G.p))),(20,.own n),(2,.own (n+1)),(27,.own (n+2))] 10 (.fr (.int j))) (H78 en D gs n j) (kTurn B' ([(67,.fr rs),(11,.fr (.int n)),(76,.fr (.lst (gs.map G.p))),(20,.own n),(2,.own (n+1)),(27,.own (n+2))],H78 en D gs n (j+1)) K):=by
 have hjn:j<n:=by rw [← hD]; exact get_lt hj
 have pf:∀ p∈en j,0≤p.1∧p.1<j+1:=by
  have:=hE j w hj
  rcases w with _|⟨w⟩
  ·intro p hp; rw [show en j=[] from this] at hp; cases hp
  ·obtain ⟨f,m,ns,e,_,hf,_⟩:=this
   intro p hp
   rw [e] at hp
   obtain ⟨x,_,rfl⟩:=List.mem_map.mp hp
   exact ⟨Int.natCast_nonneg f,Int.ofNat_lt.mpr (Nat.lt_succ_of_le hf)⟩
 have gj:(H78 en D gs n j)[j]?=some (.lst ((en j).map pr)):=by
  rw [ER_get hjn]; exact congrArg some (if_neg (Nat.lt_irrefl j))
 have gs':(H78 en D gs n j).set j (.fz (.lst ((en j).map pr)))=ER (enK en (j+1)) n [olN n,.lst ((begL D gs j).map .int),.lst ((D.take j).map oi)]:=by
  rw [ER_set hjn]
  congr 1
  funext i
  by_cases e:i=j
  ·subst e; rw [if_pos rfl]; exact (if_pos (Nat.lt_succ_self i)).symm
  ·rw [if_neg e]
   by_cases e2:i<j
   ·exact (if_pos e2).trans (if_pos (Nat.lt_succ_of_lt e2)).symm
   ·exact (if_neg e2).trans (if_neg fun q=>(Nat.lt_or_eq_of_le (Nat.le_of_lt_succ q)).elim e2 e).symm
 (conv=>whnf)
 refine subIt hjn (Nat.le_trans hn (by decide)) gj gs' ?_
 refine compM (fun p:Int×Int=>.int (p.2-(beg D gs j-beg D gs p.1.toNat))) (en j) _ (items_seq pr (en j)) (Nat.le_trans (hl j) (by decide)) ?_ (fun p A hp=>?_) ?_
 ·show okH _ (ER _ _ _)=true
  unfold okH
  have e:=ER_all (en:=enK en (j+1)) (n:=n) (R:=[olN n,.lst ((begL D gs j).map .int),.lst ((D.take j).map oi)]) (P:=okO (n+3)) (fun i hi=>by
   show okO _ (if i<j+1 then _ else _)=true
   split <;> rfl) (okO_ol (S:=[.lst ((begL D gs j).map .int),.lst ((D.take j).map oi)]) (Nat.le_refl (n+3)) rfl)
  rw [ER_len]
  show (Nat.ble (n+3) (n+3)&&List.all _ (okO (n+3)))=true
  rw [e,Bool.and_true]
  exact Nat.ble_eq.mpr (Nat.le_refl _)
 ·have hp0:=pf p hp
  have e1:getI (begL D gs j) (j:Int)=beg D gs j:=getI_beg (Nat.lt_succ_self j)
  have e2:getI (begL D gs j) p.1=beg D gs p.1.toNat:=by
   have:p.1=((p.1.toNat:Nat):Int):=(Int.toNat_of_nonneg hp0.1).symm
   rw [this]
   exact getI_beg ((Int.toNat_lt hp0.1).mpr hp0.2)
  (conv=>whnf)
  refine er_at 1 rfl ((atP_ints (Int.natCast_nonneg j) (by rw [begL_len]; exact Int.ofNat_lt.mpr (Nat.lt_succ_self j))).trans (congrArg (fun x=>some (PV.int x)) e1)) ?_
  (conv=>whnf)
  refine er_at 1 rfl ((atP_ints hp0.1 (by rw [begL_len]; exact hp0.2)).trans (congrArg (fun x=>some (PV.int x)) e2)) ?_
  exact ⟨rfl,by
   have:=preH_app (ER (enK en (j+1)) n [olN n,.lst ((begL D gs j).map .int),.lst ((D.take j).map oi)]) []
   rwa [List.append_nil] at this⟩
 ·generalize hw:(en j).map (fun p:Int×Int=>PV.int (p.2-(beg D gs j-beg D gs p.1.toNat)))=wants
  refine er_new ?_
  (conv=>whnf)
  refine er_cmp 3 rfl ?_
  refine ⟨le4 rfl,er_new (er_cmp2 4 rfl ?_)⟩
  have hv:Dim (w.getD 0):=by
   rcases w with _|⟨i⟩
   ·exact d0
   ·exact ho _ (List.mem_of_getElem? hj) i rfl
  have hwc:match w with
   | none=>wants=[]
   | some i=>∃ (a:Int) (ns:List Int),wants=(a::ns).map PV.int∧ns.foldl max a=i:=by
   have:=hE j w hj
   rcases w with _|⟨i⟩
   ·rw [show en j=[] from this] at hw
    exact hw.symm
   ·obtain ⟨f,m,ns,e,hm,hf,hD'⟩:=this
    refine ⟨m,ns,?_,hm⟩
    rw [← hw,e,List.map_map]
    refine List.map_congr_left fun x zz=>?_
    show PV.int (x-(beg D gs j-beg D gs ((f:Int)).toNat))=_
    rw [beg_flat (gs:=gs) j hf hD',show ((f:Int)).toNat=f from rfl,Int.sub_self,Int.sub_zero]
  have eb:begL D gs (j+1)=begL D gs j++[beg D gs (j+1)]:=by
   show (List.range (j+1+1)).map _=_
   rw [List.range_succ,List.map_append]; rfl
  have et:D.take (j+1)=D.take j++[w]:=by
   rw [List.take_add_one,hj]; rfl
  have tk:(D.take j).length=j:=by rw [List.length_take,hD]; exact Nat.min_eq_left (Nat.le_of_lt hjn)
  have tl:sT (cOf 78 []) b78_5 (Px.calm ⟨GG nS (k+2),X⟩) (st (st (st [(67,.fr rs),(11,.fr (.int n)),(76,.fr (.lst (gs.map G.p))),(20,.own n),(2,.own (n+1)),(27,.own (n+2))] 10 (.fr (.int j))) 93 (.own (n+(0+1+1+1)))) 97 (.fr (oi w))) (ER (enK en (j+1)) n [olN n,.lst ((begL D gs j).map .int),.lst ((D.take j).map oi),.fz (.lst wants),.fz (.lst [])]) (kTurn B' ([(67,.fr rs),(11,.fr (.int n)),(76,.fr (.lst (gs.map G.p))),(20,.own n),(2,.own (n+1)),(27,.own (n+2))],H78 en D gs n (j+1)) K):=by
   have e1:getI (begL D gs j) (j:Int)=beg D gs j:=getI_beg (Nat.lt_succ_self j)
   have fin:∀ x:Int,beg D gs j+x=beg D gs (j+1)→∀ ρ:En,([(67,.fr rs),(11,.fr (.int n)),(76,.fr (.lst (gs.map G.p))),(20,.own n),(2,.own (n+1)),(27,.own (n+2))].map fun p:Nat×QV=>lk ρ p.1)=[(67,.fr rs),(11,.fr (.int n)),(76,.fr (.lst (gs.map G.p))),(20,.own n),(2,.own (n+1)),(27,.own (n+2))].map (fun p=>some p.2) →
     kTurn B' ([(67,.fr rs),(11,.fr (.int n)),(76,.fr (.lst (gs.map G.p))),(20,.own n),(2,.own (n+1)),(27,.own (n+2))],H78 en D gs n (j+1)) K .nx ρ (ER (enK en (j+1)) n [olN n,.lst ((begL D gs j).map .int++[.int (beg D gs j+x)]),.lst ((D.take j).map oi++[oi w]),.fz (.lst wants),.fz (.lst [])]):=fun x hx ρ hρ=>by
    refine turnI hB [.fz (.lst wants),.fz (.lst [])] ?_ hρ
    rw [ER_app,eb,et,List.map_append,List.map_append,hx]; rfl
   (conv=>whnf)
   refine er_l 2 rfl ?_
   (conv=>whnf)
   refine er_app 2 rfl (by unfold small; rw [List.length_append,List.length_map,tk]; exact Nat.le_trans (Nat.le_of_lt (Nat.succ_lt_succ hjn)) (Nat.le_trans (Nat.succ_le_succ hn) (by decide))) ?_
   (conv=>whnf)
   refine er_l 1 rfl ?_
   (conv=>whnf)
   refine er_at 1 rfl ((atP_ints (Int.natCast_nonneg j) (by rw [begL_len]; exact Int.ofNat_lt.mpr (Nat.lt_succ_self j))).trans (congrArg (fun x=>some (PV.int x)) e1)) ?_
   have sb:∀ v:PV,small ((begL D gs j).map .int++[v]):=fun v=>by unfold small; rw [List.length_append,List.length_map,begL_len]; exact Nat.le_trans (Nat.succ_le_succ (Nat.le_trans hjn hn)) (by decide)
   rcases w with _|⟨i⟩
   ·(conv=>whnf)
    refine er_app 1 rfl (sb _) ?_
    refine fin 0 ?_ _ rfl
    show _=beg D gs j+stepW gs j (getW D j)
    rw [getW_of hj]; rfl
   ·have hg1:gs[j+1]?=some (getG gs ((j:Int)+1)):=getG_nat (c:=(j:Int)+1) (Int.le_add_one (Int.natCast_nonneg j)) (by rw [hg]; exact Int.ofNat_lt.mpr (Nat.succ_lt_succ hjn))
    (conv=>whnf)
    refine opB_in (atP_map (Int.le_add_one (Int.natCast_nonneg j)) hg1) ?_
    (conv=>whnf)
    refine er_app 1 rfl (sb _) ?_
    refine fin (i+(getG gs ((j:Int)+1)).w) ?_ _ rfl
    show _=beg D gs j+stepW gs j (getW D j)
    rw [getW_of hj]; rfl
  rcases w with _|⟨i⟩
  ·have hwc:wants=[]:=hwc
   subst hwc
   exact tl
  ·obtain ⟨a,ns,rfl,hm⟩:=hwc
   (conv=>whnf)
   refine er_blt 3 rfl ?_
   refine ⟨a,ns,rfl,?_⟩
   rw [hm]
   refine use0 (c17 hv) rfl ?_
   exact tl
end
noncomputable def arStp (en:En2)(c:Int×Cell):En2:=fun j=>if j=(c.1+c.2.1.spans-1).toNat then en j++[(c.1,c.2.al)] else en j
theorem addRow_fold:∀(l:List (Int×Cell))(en:En2),l.foldl arStp en=addRow en l
 | [],z1=>rfl
 | z1::r,en=>addRow_fold r _
noncomputable def enStp (en:En2):E→En2
 | .row cs=>addRow en (pl 0 cs)
 | .node z1=>en
theorem ends_fold:∀(l:List E)(en:En2),l.foldl enStp en=ends en l
 | [],z1=>rfl
 | .row cs::r,en=>ends_fold r (addRow en (pl 0 cs))
 | .node z1::r,en=>ends_fold r en
noncomputable def WdOk (n:Nat):E→Prop
 | .row cs=>spsum cs≤n∧cs.length≤10∧∀ c∈pl 0 cs,0≤c.1∧1≤c.2.1.spans∧c.1+c.2.1.spans≤n
 | .node (.skip z1 z2)=>False
 | .node (.box z1 z2)=>False
 | .node (.unset z1 z2)=>False
 | .node z1=>True
section
variable {k:Nat} {n:Nat}
theorem okJ_E {en:En2}{ρ:En}(h:(ρ.all fun p=>okN (n+1) p.2)=true):okJ 0 ρ (ER (oE en) n [olN n])=true:=by
 have e:=ER_all (en:=oE en) (n:=n) (R:=[olN n]) (P:=okO (n+1)) (fun i hi=>rfl) (okO_ol (S:=[]) (Nat.le_refl (n+1)) rfl)
 unfold okJ
 rw [ER_len]
 show (Nat.ble 0 (n+1)&&(ρ.all fun p=>okN (n+1) p.2)&&List.all _ (okO (n+1)))=true
 rw [e,h]; rfl
theorem okN_self {n m:Nat}(h:n<m):okN m (.own n)=true:=Nat.blt_eq.mpr h
theorem v78 {X:Prop}{K:KT}{rs:PV}{gs:List G}(hn:n≤100)(en:En2)(e:E)(he:WdOk n e){m:Nat}(hl:∀ j,(en j).length≤m)(hm:m≤800){B':Prop}(hB:B') :
  sT (cOf 78 []) b78_3 (Px.calm ⟨GG nS (k+2),X⟩) (st [(67,.fr rs),(11,.fr (.int n)),(76,.fr (.lst (gs.map G.p))),(20,.own n)] 66 (.fr e.p)) (ER (oE en) n [olN n]) (kTurn B' ([(67,.fr rs),(11,.fr (.int n)),(76,.fr (.lst (gs.map G.p))),(20,.own n)],ER (oE (enStp en e)) n [olN n]) K):=by
 have pre:∀ en:En2,ER (oE en) n [olN n]=ER (oE en) n [olN n]++[]:=fun en=>(List.append_nil _).symm
 rcases e with ⟨cs⟩|⟨x⟩
 ·refine cp fun kk=>?_
  obtain ⟨h1,h2,h3⟩:=he
  refine kk ?_
  refine use0 (c77 h1 (Nat.le_trans h2 (by decide))) rfl ?_
  refine loopK (fun en:En2=>([(67,.fr rs),(11,.fr (.int n)),(76,.fr (.lst (gs.map G.p))),(20,.own n),(66,.fr (E.row cs).p)],ER (oE en) n [olN n])) (fun i en=>∀ j,(en j).length≤m+i) arStp en (pl 0 cs) _ (items_seq plP _) (cOf_half _ _) hl (by
   have:=preH_app (ER (oE en) n [olN n]) []
   rwa [List.append_nil] at this) (agr_of2 rfl) (fun en=>okJ_E (by
    show (true&&(true&&(true&&(okN (n+1) (.own n)&&(true&&true)))))=true
    rw [okN_self (Nat.lt_succ_self n)]; rfl)) (fun i en c hc hk=>?_) fun hk=>?_
  ·refine cp fun kk=>?_
   obtain ⟨c0,c1,c2⟩:=h3 c (List.mem_of_getElem? hc)
   have hi:=get_lt hc
   rw [pl_len] at hi
   refine kk ?_
   refine t78 (Nat.le_trans hn (by decide)) en c c0 c1 c2 (Nat.le_trans (hk _) (Nat.le_trans (Nat.add_le_add hm (Nat.le_of_lt (Nat.lt_of_lt_of_le hi h2))) (by decide))) (fun j=>?_)
   show (if _ then _ else _:List (Int×Int)).length≤_
   split
   ·rw [List.length_append]; exact Nat.succ_le_succ (hk j)
   ·exact Nat.le_succ_of_le (hk j)
  ·rw [addRow_fold]
   exact turnI hB [] (pre _) rfl
 ·rcases x with ⟨_,_⟩|⟨_,_⟩|⟨_,_,_⟩|⟨_⟩|⟨_,_⟩|⟨_,_⟩
  ·exact he.elim
  ·exact turnI hB [] (pre _) rfl
  ·exact turnI hB [] (pre _) rfl
  ·exact turnI hB [] (pre _) rfl
  ·exact he.elim
  ·exact he.elim
theorem c78 {whole:List E}{gs:List G}{D:List (Option Int)}(hD:D.length=n)(h1:1≤n)(hn:n≤100)(hg:gs.length=n+1)(ho:∀ w∈D,oDim w)(hw:whole.length≤80)(hr:∀ e∈whole,WdOk n e)(hE:EnOk (ends (fun zz=>[]) whole) D) :
  Fn (k+3) 78 [.fr (.lst (whole.map E.p)),.fr (.int n),.fr (.lst (gs.map G.p))] (.lst (D.map oi)):=.fn (fm 29 rfl) k78 (Nat.le_refl 3) (Nat.le_refl 3) (by
 have en_le:∀(l:List E)(en:En2)(m:Nat),(∀ e∈l,WdOk n e)→(∀ j,(en j).length≤m)→∀ j,(ends en l j).length≤m+10*l.length:=by
  intro l
  induction l with
  | nil=>intro en m _ h j; exact h j
  | cons e l ih =>
   intro en m he h j
   have hl:(e::l).length=l.length+1:=rfl
   rcases e with ⟨cs⟩|⟨x⟩
   ·have hc:=(he (.row cs) (.head _)).2.1
    have:=ih (addRow en (pl 0 cs)) (m+10) (fun e h=>he e (.tail _ h)) (fun j=>by
     have a:=(addRow_mono (pl 0 cs) en j).2
     have b:=h j
     rw [pl_len] at a; exact Nat.le_trans a (Nat.add_le_add b hc)) j
    exact Nat.le_trans this (Nat.le_of_eq (Nat.add_right_comm m 10 _))
   ·have:=ih en m (fun e h=>he e (.tail _ h)) h j
    exact Nat.le_trans this (Nat.add_le_add_left (Nat.mul_le_mul_left 10 (Nat.le_succ _)) m)
 refine use0 (c76 (by rw [hg]; rfl) (by lia) (by lia)) rfl ?_
 refine ⟨by decide,Nat.lt_of_le_of_lt hn (by decide),rfl,Nat.le_trans hn (by decide),?_⟩
 have e0:((n:Int)-0).toNat=n:=rfl
 have e1:([]:List OB)++List.replicate n (.lst [])++[.ol ((List.range n).map fun i=>.own (([]:List OB).length+i))]=ER (oE fun zz=>[]) n [olN n]:=by
  unfold ER
  have a1:List.replicate n (OB.lst [])=(List.range n).map (oE fun zz=>[]):=by
   have:(List.range n).map (oE fun zz=>[])=(List.range n).map (Function.const Nat (OB.lst [])):=rfl
   rw [this,List.map_const,List.length_range]
  have a2:(List.range n).map (fun i=>QV.own (([]:List OB).length+i))=(List.range n).map .own:=List.map_congr_left fun i zz=>congrArg QV.own (Nat.zero_add i)
  rw [List.nil_append,a1,a2]
 have okL:∀ k,okJ 0 [(67,.fr (.lst (whole.map E.p))),(11,.fr (.int n)),(76,.fr (.lst (gs.map G.p))),(20,.own n),(2,.own (n+1)),(27,.own (n+2))] (H78 (ends (fun zz=>[]) whole) D gs n k)=true:=fun k=>by
  have e:=ER_all (en:=enK (ends (fun zz=>[]) whole) k) (n:=n) (R:=[olN n,.lst ((begL D gs k).map .int),.lst ((D.take k).map oi)]) (P:=okO (n+3)) (fun i hi=>by
   show okO _ (if i<k then _ else _)=true
   split <;> rfl) (okO_ol (S:=[.lst ((begL D gs k).map .int),.lst ((D.take k).map oi)]) (Nat.le_refl (n+3)) rfl)
  unfold okJ
  rw [ER_len]
  show (true&&(true&&(true&&(true&&(okN (n+3) (.own n)&&(okN (n+3) (.own (n+1))&&(okN (n+3) (.own (n+2))&&true))))))&&List.all _ (okO (n+3)))=true
  rw [e,okN_self (show n<n+3 from Nat.lt_add_of_pos_right (by decide)),okN_self (show n+1<n+3 from Nat.add_lt_add_left (by decide) n),okN_self (show n+2<n+3 from Nat.lt_succ_self _)]; rfl
 have t2:sT (cOf 78 []) b78_9 ⟨GG nS (k+3),Rs.ok (.fr (.lst (D.map oi))) []=.ovf⟩ [(67,.fr (.lst (whole.map E.p))),(11,.fr (.int n)),(76,.fr (.lst (gs.map G.p))),(20,.own n),(2,.own (n+1)),(27,.own (n+2))] (H78 (ends (fun zz=>[]) whole) D gs n 0) (retK 0 (.ok (.fr (.lst (D.map oi))) [])):=by
  refine ⟨by decide,Nat.lt_of_le_of_lt hn (by decide),?_⟩
  refine loopK (fun k:Nat=>([(67,.fr (.lst (whole.map E.p))),(11,.fr (.int n)),(76,.fr (.lst (gs.map G.p))),(20,.own n),(2,.own (n+1)),(27,.own (n+2))],H78 (ends (fun zz=>[]) whole) D gs n k)) (fun i k=>k=i) (fun k zz=>k+1) 0 D.zipIdx _ (items_zip D (by rw [hD])) (cOf_half _ _) rfl (by
   have:=preH_app (H78 (ends (fun zz=>[]) whole) D gs n 0) []
   rwa [List.append_nil] at this) (agr_of2 rfl) okL (fun i s p hp hk=>?_) fun hk=>?_
  ·obtain ⟨w,j⟩:=p
   obtain ⟨a,b⟩:=zip_get hp
   subst hk
   have a:j=s:=a
   subst a
   exact u78 hD hn hg ho hE (fun j=>Nat.le_trans (en_le whole (fun zz=>[]) 0 hr (fun zz=>Nat.le_refl 0) j) (by rw [Nat.zero_add]; exact Nat.le_trans (Nat.mul_le_mul_left 10 hw) (by decide))) b rfl
  ·rw [hk,List.length_zipIdx]
   (conv=>whnf)
   rw [ER_get2]
   exact ret0 (by rw [List.take_length])
 have t1:sT (cOf 78 []) b78_12 ⟨GG nS (k+3),Rs.ok (.fr (.lst (D.map oi))) []=.ovf⟩ [(67,.fr (.lst (whole.map E.p))),(11,.fr (.int n)),(76,.fr (.lst (gs.map G.p))),(20,.own n)] (ER (oE fun zz=>[]) n [olN n]) (retK 0 (.ok (.fr (.lst (D.map oi))) [])):=by
  refine loopK (fun en:En2=>([(67,.fr (.lst (whole.map E.p))),(11,.fr (.int n)),(76,.fr (.lst (gs.map G.p))),(20,.own n)],ER (oE en) n [olN n])) (fun i en=>∀ j,(en j).length≤10*i) enStp ((fun zz=>[]):En2) whole _ (items_seq E.p whole) (cOf_half _ _) (show ∀ j,(((fun zz=>[]):En2) j).length≤10*0 from fun zz=>Nat.le_refl 0) (by
   have:=preH_app (ER (oE fun zz=>[]) n [olN n]) []
   rwa [List.append_nil] at this) (agr_of2 rfl) (fun en=>okJ_E (by
    show (true&&(true&&(true&&(okN (n+1) (.own n)&&true))))=true
    rw [okN_self (Nat.lt_succ_self n)]; rfl)) (fun i en e he hk=>?_) fun hk=>?_
  ·have hi:=get_lt he
   have hm:=List.mem_of_getElem? he
   refine v78 hn en e (hr e hm) hk (Nat.le_trans (Nat.mul_le_mul_left 10 (Nat.le_trans (Nat.le_of_lt hi) hw)) (by decide)) fun j=>?_
   have:=en_le [e] en (10*i) (fun x hx=>by rw [List.mem_singleton.mp hx]; exact hr e hm) hk j
   rcases e with ⟨cs⟩|⟨x⟩
   ·exact this
   ·exact this
  ·rw [ends_fold]
   refine ⟨le4 rfl,?_⟩
   unfold newL
   rw [ER_app,ER_len]
   refine ⟨le4 rfl,?_⟩
   unfold newL
   rw [ER_app,ER_len]
   have e3:ER (oE (ends (fun zz=>[]) whole)) n [olN n,.lst [.int 0],.lst []]=H78 (ends (fun zz=>[]) whole) D gs n 0:=by
    have:oE (ends (fun zz=>[]) whole)=enK (ends (fun zz=>[]) whole) 0:=funext fun j=>(if_neg (Nat.not_lt_zero j)).symm
    rw [this]; rfl
   rw [← e3] at t2
   exact t2
 have t3:∀ H q,H=ER (oE fun zz=>[]) n [olN n]→q=QV.own n→kAsg 20 [(67,.fr (.lst (whole.map E.p))),(11,.fr (.int n)),(76,.fr (.lst (gs.map G.p)))] (kSeq (sT (cOf 78 []) b78_12 ⟨GG nS (k+3),Rs.ok (.fr (.lst (D.map oi))) []=.ovf⟩) (retK 0 (.ok (.fr (.lst (D.map oi))) []))) H q:=by
  rintro _ _ rfl rfl
  exact t1
 refine t3 _ _ ?_ ?_
 ·rw [e0]; exact e1
 ·rw [e0]; exact congrArg QV.own (Nat.zero_add n))
end
noncomputable abbrev bx (s:Int×Int):OB:=.lst [.int s.1,.int s.2]
section
variable {k:Nat}
theorem useB {f:Nat}{s s':Int×Int}{R H:List OB}{X:Prop}{K:KQ}{qs:List QV}{v:PV}(c:Cl k f [bx s] (.own 0::qs) (.ok (.fr v) [bx s']))(e:frs qs=true)(hH:H=bx s::R)(h:K (bx s'::R) (.fr v)):callQ ⟨GG nS (k+1),X⟩ f H (.own 0::qs) K:=by
 subst hH
 have e1:(QV.own 0::qs).foldl (selQ (bx s::R)) []=[0]:=frs_sel e
 have e3:renQs (bx s::R) [0] (.own 0::qs)=some (.own 0::qs):=by
  have:∀(H:List OB)(sel:List Nat)(qs:List QV),frs qs=true→renQs H sel qs=some qs:=by
   intro H sel qs
   induction qs with
   | nil=>intro _; rfl
   | cons q r ih=>cases q with
    | fr v =>
     intro h
     unfold renQs
     rw [ih h]; rfl
    | own i=>intro h; exact absurd h Bool.false_ne_true
  unfold renQs
  rw [this _ _ _ e]; rfl
 have e4:mrg (bx s::R) [0] [bx s']=(bx s'::R)++[]:=rfl
 refine useN [0] c e1 rfl e3 rfl ?_
 rw [e4,List.append_nil]; exact h
theorem c89 (s:Int×Int)(m:Int)(h0:0<m)(h1:m<1000):∃ (d:Int) (s':Int×Int),(0≤d∧d<m)∧∀ k,Cl k 89 [bx s] [.own 0,.fr (.int m)] (.ok (.fr (.int d)) [bx s']):=by
 have hm:m≠0:=Int.ne_of_gt h0
 have hn:m.natAbs<2 ^ 63:=bd_na ⟨Int.le_of_lt h0,Int.le_of_lt h1⟩ (by decide) (by decide)
 have md:∀ x:Int,0≤x.fmod m∧x.fmod m<m:=fun x=>⟨Int.fmod_nonneg_of_pos x h0,Int.fmod_lt_of_pos x h0⟩
 by_cases h:0<s.1
 ·refine ⟨s.1.fmod m,(s.1.fdiv m,s.2),md _,fun k=>.fn (fm 39 rfl) k89 (Nat.le_refl 2) (Nat.le_refl 2) ?_⟩
  refine brT (dT h) ?_
  refine ⟨hm,?_⟩
  refine ⟨hm,hn,?_⟩
  refine ⟨Int.le_refl 0,Nat.zero_lt_succ _,?_⟩
  exact retN 1 rfl rfl
 ·refine ⟨_,(s.1,(s.2*48271+11).fmod 2147483647),md (((s.2*48271+11).fmod 2147483647).fdiv 16),fun k=>.fn (fm 39 rfl) k89 (Nat.le_refl 2) (Nat.le_refl 2) ?_⟩
  refine brF (dF h) ?_
  refine ⟨.inr (by decide),?_⟩
  refine ⟨by decide,?_⟩
  refine ⟨by decide,Nat.lt_succ_self 1,?_⟩
  refine ⟨by decide,by decide,?_⟩
  refine ⟨hm,?_⟩
  exact retN 1 rfl rfl
theorem c90 (s:Int×Int):∃ (d:Int) (s':Int×Int),(-4000000≤d∧d≤4000000)∧∀ k,Cl (k+1) 90 [bx s] [.own 0] (.ok (.fr (.int d)) [bx s']):=by
 refine cp fun kk=>?_
 obtain ⟨w,s1,hw,c1⟩:=c89 s 8 (by decide) (by decide)
 refine kk ?_
 by_cases h0:w=0
 ·refine ⟨0,s1,by decide,fun k=>.fn (fm 40 rfl) k90 (Nat.le_refl 1) (Nat.le_refl 1) ?_⟩
  refine useB (c1 _) rfl rfl ?_
  refine brT (dT h0) ?_
  exact retN 1 rfl rfl
 by_cases h1:w=1
 ·refine cp fun kk=>?_
  obtain ⟨d,s2,hd,c2⟩:=c89 s1 12 (by decide) (by decide)
  refine kk ?_
  refine ⟨-1-d,s2,bd_mono (bd_sub (bd_c (-1)) (bd_lt hd)) (by decide) (by decide),fun k=>.fn (fm 40 rfl) k90 (Nat.le_refl 1) (Nat.le_refl 1) ?_⟩
  refine useB (c1 _) rfl rfl ?_
  refine brF (dF h0) ?_
  refine brT (dT h1) ?_
  refine useB (c2 _) rfl rfl ?_
  exact retN 1 rfl rfl
 by_cases h2:w<7
 ·refine cp fun kk=>?_
  obtain ⟨d,s2,hd,c2⟩:=c89 s1 40 (by decide) (by decide)
  refine kk ?_
  refine ⟨1+d,s2,bd_mono (bd_add (bd_c 1) (bd_lt hd)) (by decide) (by decide),fun k=>.fn (fm 40 rfl) k90 (Nat.le_refl 1) (Nat.le_refl 1) ?_⟩
  refine useB (c1 _) rfl rfl ?_
  refine brF (dF h0) ?_
  refine brF (dF h1) ?_
  refine brT (dT h2) ?_
  refine useB (c2 _) rfl rfl ?_
  exact retN 1 rfl rfl
 ·refine cp fun kk=>?_
  obtain ⟨d,s2,hd,c2⟩:=c89 s1 60 (by decide) (by decide)
  obtain ⟨e,s3,he,c3⟩:=c89 s2 9 (by decide) (by decide)
  refine kk ?_
  refine ⟨65536*d+e,s3,bd_mono (bd_add (bd_mul 65536 (by decide) (bd_lt hd)) (bd_lt he)) (by decide) (by decide),fun k=>.fn (fm 40 rfl) k90 (Nat.le_refl 1) (Nat.le_refl 1) ?_⟩
  refine useB (c1 _) rfl rfl ?_
  refine brF (dF h0) ?_
  refine brF (dF h1) ?_
  refine brF (dF h2) ?_
  refine useB (c2 _) rfl rfl ?_
  refine ⟨.inl (by decide),?_⟩
  refine useB (c3 _) rfl rfl ?_
  exact retN 1 rfl rfl
end
noncomputable def ab (i:Int):Prop:=-4000000≤i∧i≤4000000
theorem ab_dim {i:Int}(h:ab i):Dim i:=bd_mono h (by decide) (by decide)
structure aG (g:G):Prop where
 ok:g.ok
 w:ab g.w
 st : -20≤g.st∧g.st≤20
 sh : -20≤g.sh∧g.sh≤20
noncomputable def aO (o:Option Int):Prop:=∀ i,o=some i→ab i
noncomputable def aN:N→Prop
 | .skip g z1=>aG g
 | .kern w z1=>ab w
 | .rule w h d=>aO w∧aO h∧aO d∧0≤d.getD 0
 | .pen z1=>True
 | .box b is=>is=[]∧ab b.w∧ab b.h∧(ab b.d∧0≤b.d)∧ab b.shift
 | .unset z1 z2=>False
theorem getI_mem {l:List Int}{i:Int}(h0:0≤i)(h1:i<l.length):getI l i∈l:=by
 obtain ⟨n,rfl⟩:=Int.eq_ofNat_of_zero_le h0
 have h1:n<l.length:=Int.ofNat_lt.mp h1
 unfold getI
 rw [show ((n:Int)).toNat=n from rfl,List.getD_eq_getElem?_getD,List.getElem?_eq_getElem h1]
 exact List.getElem_mem h1
noncomputable abbrev szL:List Int:=[0,1,2,3,7,20,-1,-2]
noncomputable abbrev orL:List Int:=[0,0,0,1,2,3]
theorem sz_at {d:Int}(h0:0≤d)(h1:d<8):atP [.int 0,.int 1,.int 2,.int 3,.int 7,.int 20,.int (-1),.int (-2)] (.int d)=some (.int (getI szL d)):=atP_ints (l:=szL) h0 h1
theorem or_at {d:Int}(h0:0≤d)(h1:d<6):atP [.int 0,.int 0,.int 0,.int 1,.int 2,.int 3] (.int d)=some (.int (getI orL d)):=atP_ints (l:=orL) h0 h1
theorem sz_ok {d:Int}(h0:0≤d)(h1:d<8) : -20≤getI szL d∧getI szL d≤20:=by
 have:∀ x∈szL,-20≤x∧x≤20:=by decide
 exact this _ (getI_mem h0 h1)
theorem or_ok {d:Int}(h0:0≤d)(h1:d<6):0≤getI orL d∧getI orL d≤3:=by
 have:∀ x∈orL,0≤x∧x≤3:=by decide
 exact this _ (getI_mem h0 h1)
theorem dim20 {i:Int}(h : -20≤i∧i≤20):Dim i:=bd_mono h (by decide) (by decide)
theorem c91 (s:Int×Int):∃ (g:G) (s':Int×Int),aG g∧∀ k,Cl (k+4) 91 [bx s] [.own 0] (.ok (.fr g.p) [bx s']):=by
 refine cp fun kk=>?_
 obtain ⟨w,s1,hw,c1⟩:=c90 s
 obtain ⟨a,s2,ha,c2⟩:=c89 s1 8 (by decide) (by decide)
 obtain ⟨o,s3,ho,c3⟩:=c89 s2 6 (by decide) (by decide)
 obtain ⟨b,s4,hb,c4⟩:=c89 s3 8 (by decide) (by decide)
 obtain ⟨p,s5,hp,c5⟩:=c89 s4 6 (by decide) (by decide)
 have oo:=or_ok ho.1 ho.2
 have op:=or_ok hp.1 hp.2
 have ort:∀(c:Prop)[Decidable c](x:Int),0≤x∧x≤3→0≤(if c then x else 0)∧(if c then x else 0)<4:=fun c zz x h=>by
  split
  ·exact ⟨h.1,Int.lt_of_le_of_lt h.2 (by decide)⟩
  ·exact ⟨Int.le_refl 0,by decide⟩
 have h1:=ort (getI szL a≠0) _ oo
 have h2:=ort (getI szL b≠0) _ op
 refine kk ?_
 refine ⟨⟨w,getI szL a,if getI szL a≠0 then getI orL o else 0,getI szL b,if getI szL b≠0 then getI orL p else 0⟩,s5,⟨⟨h1.1,h1.2,h2.1,h2.2⟩,hw,sz_ok ha.1 ha.2,sz_ok hb.1 hb.2⟩,fun k=>.fn (fm 41 rfl) k91 (Nat.le_refl 1) (Nat.le_refl 1) ?_⟩
 refine ⟨le4 rfl,?_⟩
 refine ⟨le4 rfl,?_⟩
 refine ⟨le4 rfl,?_⟩
 refine useB (c1 _) rfl rfl ?_
 refine useB (c2 _) rfl rfl ?_
 (conv=>whnf)
 rw [sz_at ha.1 ha.2]
 refine useB (c3 _) rfl rfl ?_
 (conv=>whnf)
 rw [or_at ho.1 ho.2]
 refine ⟨le4 rfl,?_⟩
 refine useB (c4 _) rfl rfl ?_
 (conv=>whnf)
 rw [sz_at hb.1 hb.2]
 refine useB (c5 _) rfl rfl ?_
 (conv=>whnf)
 rw [or_at hp.1 hp.2]
 refine useO (c28 oo.1 oo.2 op.1 op.2 (ab_dim hw) (dim20 (sz_ok ha.1 ha.2)) (dim20 (sz_ok hb.1 hb.2))) rfl rfl ?_
 exact retN 1 rfl rfl
theorem kd (d:Int)(h:0≤d∧d<2):∃ v:Bool,2+d=kI v:=by
 have:d=0∨d=1:=bd_2 h
 rcases this with rfl|rfl
 ·exact ⟨false,rfl⟩
 ·exact ⟨true,rfl⟩
noncomputable abbrev e92 (s:Int×Int)(xs:List PV):En×List OB:=([(3,.own 0),(34,.own 1)],[bx s,.lst xs])
theorem ab_d9 {d:Int}(h:0≤d∧d<9):ab d:=bd_mono (bd_lt h) (by decide) (by decide)
theorem oi_two {d a:Int}(h:0≤d∧d<2)(ha:ab a)(h0:0≤a):∃ o,atP [.none,.int a] (.int d)=some (oi o)∧aO o∧0≤o.getD 0:=by
 have:d=0∨d=1:=bd_2 h
 rcases this with rfl|rfl
 ·exact ⟨none,rfl,(fun i e=>by injection e),Int.le_refl 0⟩
 ·exact ⟨some a,rfl,(fun i e=>by (injection e with e; subst e); exact ha),h0⟩
theorem aO_dim {o:Option Int}(h:aO o):oDim o:=fun i e=>ab_dim (h i e)
theorem t92 (s:Int×Int):∃ (n:N) (s':Int×Int),aN n∧∀(c k:Nat)(X:Prop)(K:KT)(B':Prop)(i:PV)(xs:List PV),B'→xs.length≤900 →
  sT c b92_10 (Px.calm ⟨GG nS (k+5),X⟩) (st (e92 s xs).1 38 (.fr i)) (e92 s xs).2 (kTurn B' (e92 s' (xs++[n.p])) K):=by
 refine cp fun kk=>?_
 obtain ⟨w,s1,hw,c1⟩:=c89 s 8 (by decide) (by decide)
 have sm:∀(xs:List PV)(v:PV),xs.length≤900→small (xs++[v]):=fun xs v h=>by unfold small; rw [List.length_append]; exact Nat.le_trans (Nat.add_le_add_right h 1) (by decide)
 refine kk ?_
 by_cases h3:w<3
 ·refine cp fun kk=>?_
  obtain ⟨g,s2,hg,c2⟩:=c91 s1
  refine kk ?_
  refine ⟨.skip g 0,s2,hg,fun c k X K B' i xs hB hl=>?_⟩
  refine useB (c1 _) rfl rfl ?_
  refine brT (dT h3) ?_
  refine useB (c2 _) rfl rfl ?_
  refine useO (c42 (.inl rfl)) rfl rfl ?_
  refine ⟨sm _ _ hl,?_⟩
  exact turnI hB _ rfl rfl
 by_cases h5:w<5
 ·refine cp fun kk=>?_
  obtain ⟨d,s2,hd,c2⟩:=c90 s1
  refine kk ?_
  refine ⟨.kern d 1,s2,hd,fun c k X K B' i xs hB hl=>?_⟩
  refine useB (c1 _) rfl rfl ?_
  refine brF (dF h3) ?_
  refine brT (dT h5) ?_
  refine useB (c2 _) rfl rfl ?_
  refine useO (c41 (ab_dim hd)) rfl rfl ?_
  refine ⟨sm _ _ hl,?_⟩
  exact turnI hB _ rfl rfl
 by_cases h6:w=5
 ·refine cp fun kk=>?_
  obtain ⟨d,s2,hd,c2⟩:=c90 s1
  obtain ⟨a,s3,ha,c3⟩:=c89 s2 2 (by decide) (by decide)
  obtain ⟨b,s4,hb,c4⟩:=c89 s3 2 (by decide) (by decide)
  obtain ⟨oa,ea,ha',_⟩:=oi_two (a:=6) ha ⟨by decide,by decide⟩ (by decide)
  obtain ⟨ob,eb,hb',hb0⟩:=oi_two (a:=2) hb ⟨by decide,by decide⟩ (by decide)
  have hd':aO (some d):=fun i e=>by (injection e with e; subst e); exact hd
  refine kk ?_
  refine ⟨.rule (some d) oa ob,s4,⟨hd',ha',hb',hb0⟩,fun c k X K B' i xs hB hl=>?_⟩
  refine useB (c1 _) rfl rfl ?_
  refine brF (dF h3) ?_
  refine brF (dF h5) ?_
  refine brT (dT h6) ?_
  refine useB (c2 _) rfl rfl ?_
  refine ⟨le4 rfl,?_⟩
  refine useB (c3 _) rfl rfl ?_
  (conv=>whnf)
  rw [ea]
  refine ⟨le4 rfl,?_⟩
  refine useB (c4 _) rfl rfl ?_
  (conv=>whnf)
  rw [eb]
  refine useO (c40 (w:=some d) (aO_dim hd') (aO_dim ha') (aO_dim hb')) rfl rfl ?_
  refine ⟨sm _ _ hl,?_⟩
  exact turnI hB _ rfl rfl
 ·refine cp fun kk=>?_
  obtain ⟨d,s2,hd,c2⟩:=c89 s1 2 (by decide) (by decide)
  obtain ⟨v,hv⟩:=kd d hd
  obtain ⟨x,s3,hx,c3⟩:=c90 s2
  obtain ⟨y,s4,hy,c4⟩:=c90 s3
  obtain ⟨z,s5,hz,c5⟩:=c89 s4 9 (by decide) (by decide)
  obtain ⟨u,s6,hu,c6⟩:=c90 s5
  refine kk ?_
  refine ⟨.box ⟨v,x,y,z,u,0,0,0,1⟩ [],s6,⟨rfl,hx,hy,⟨ab_d9 hz,hz.1⟩,hu⟩,fun c k X K B' i xs hB hl=>?_⟩
  refine useB (c1 _) rfl rfl ?_
  refine brF (dF h3) ?_
  refine brF (dF h5) ?_
  refine brF (dF h6) ?_
  refine useB (c2 _) rfl rfl ?_
  (conv=>whnf)
  rw [hv]
  refine useB (c3 _) rfl rfl ?_
  refine useB (c4 _) rfl rfl ?_
  refine useB (c5 _) rfl rfl ?_
  refine ⟨le4 rfl,?_⟩
  refine useO (c39 (v:=v) (ab_dim hx) (ab_dim hy) (ab_dim (ab_d9 hz))) rfl rfl ?_
  refine useB (c6 _) rfl rfl ?_
  refine ⟨sm _ _ hl,?_⟩
  exact turnI hB _ rfl rfl
noncomputable abbrev Ab (m i:Int):Prop:=-m≤i∧i≤m
structure TB (a b:Int)(t:T):Prop where
 ok:t.ok
 n:Ab a t.nat
 st:∀ x∈t.st,Ab b x
 sh:∀ x∈t.sh,Ab b x
theorem ab_add {a b x y:Int}(h:Ab a x)(k:Ab b y):Ab (a+b) (x+y):=⟨by rw [Int.neg_add]; exact (bd_add h k).1,(bd_add h k).2⟩
theorem ab_mono {a b x:Int}(h:Ab a x)(q:a≤b):Ab b x:=bd_mono h (Int.neg_le_neg q) q
theorem ab0 {m:Int}(h:0≤m):Ab m 0:=⟨Int.neg_nonpos_of_nonneg h,h⟩
theorem getI_ab {l:List Int}{b o:Int}(hb:0≤b)(h:∀ x∈l,Ab b x):Ab b (getI l o):=by
 unfold getI
 rw [List.getD_eq_getElem?_getD]
 rcases e:l[o.toNat]? with _|⟨x⟩
 ·exact ab0 hb
 ·exact h x (List.mem_of_getElem? e)
theorem addI_ab {l:List Int}{b o x:Int}(hb:0≤b)(h:∀ x∈l,Ab b x)(hx:Ab 20 x):∀ y∈addI l o x,Ab (b+20) y:=fun y hy=>by
 have hg:=getI_ab (o:=o) hb h
 rcases List.mem_or_eq_of_mem_set hy with h1|h1
 ·exact ab_mono (h y h1) (Int.le_add_of_nonneg_right (by decide))
 ·subst h1
  exact ab_add hg hx
theorem TB.mono {a b a' b':Int}{t:T}(h:TB a b t)(ha:a≤a')(hb:b≤b'):TB a' b' t :=
 ⟨h.ok,ab_mono h.n ha,fun x hx=>ab_mono (h.st x hx) hb,fun x hx=>ab_mono (h.sh x hx) hb⟩
theorem TB.wide {a b m w:Int}{t:T}(h:TB a b t)(hw:Ab m w):TB (a+m) b (t.wide w) :=
 ⟨h.ok,ab_add h.n hw,h.st,h.sh⟩
theorem TB.add {a b m:Int}{t:T}{g:G}(h:TB a b t)(hb:0≤b)(hw:Ab m g.w)(hs:Ab 20 g.st)(hs':Ab 20 g.sh):TB (a+m) (b+20) (t.add g) :=
 ⟨T.ok_add h.ok,ab_add h.n hw,addI_ab hb h.st hs,addI_ab hb h.sh hs'⟩
theorem z4:∀ x∈([0,0,0,0]:List Int),Ab 0 x:=by decide
theorem TB0:TB 0 0 T0:=⟨T0_ok,⟨by decide,by decide⟩,z4,z4⟩
structure nbd (m:Int)(n:N):Prop where
 gok:n.gok
 wd:Ab m n.wd
 ht:Ab m n.ht
 dp:Ab m n.dp
 lh:Ab m n.lh
 ld:Ab m n.ld
 ac:Ab m n.ac
 sk:∀ g s,n=.skip g s→Ab 20 g.st∧Ab 20 g.sh
theorem line_b {m:Int}:∀(ns:List N)(s:T×Int×Int){a b:Int},(∀ n∈ns,nbd m n)→TB a b s.1→0≤b→0≤m→(0≤s.2.1∧s.2.1≤m)→(0≤s.2.2∧s.2.2≤m) →
  TB (a+m*ns.length) (b+20*ns.length) (ns.foldl lineStep s).1∧(0≤(ns.foldl lineStep s).2.1∧(ns.foldl lineStep s).2.1≤m)∧(0≤(ns.foldl lineStep s).2.2∧(ns.foldl lineStep s).2.2≤m)
 | [],s,a,b,z1,h,hb,hm,h1,h2=>⟨h.mono (by show a≤a+m*0; rw [Int.mul_zero,Int.add_zero]; exact Int.le_refl a) (Int.le_of_eq (Int.add_zero b).symm),h1,h2⟩
 | n::r,s,a,b,hn,h,hb,hm,h1,h2=>by
  have hh:=hn n (.head _)
  have e:TB (a+m) (b+20) (lineStep s n).1:=by
   rcases n with ⟨g,so⟩|⟨_,_⟩|⟨_,_,_⟩|⟨_⟩|⟨_,_⟩|⟨_,_⟩
   ·exact h.add hb hh.wd (hh.sk g so rfl).1 (hh.sk g so rfl).2
   ·exact (h.wide hh.wd).mono (Int.le_refl _) (Int.le_add_of_nonneg_right (by decide))
   ·exact (h.wide hh.wd).mono (Int.le_refl _) (Int.le_add_of_nonneg_right (by decide))
   ·exact (h.wide hh.wd).mono (Int.le_refl _) (Int.le_add_of_nonneg_right (by decide))
   ·exact (h.wide hh.wd).mono (Int.le_refl _) (Int.le_add_of_nonneg_right (by decide))
   ·exact (h.wide hh.wd).mono (Int.le_refl _) (Int.le_add_of_nonneg_right (by decide))
  have e1:0≤(lineStep s n).2.1∧(lineStep s n).2.1≤m:=by
   show 0≤max s.2.1 n.lh∧max s.2.1 n.lh≤m
   exact max_in h1 hh.lh.2
  have e2:0≤(lineStep s n).2.2∧(lineStep s n).2.2≤m:=by
   show 0≤max s.2.2 n.ld∧max s.2.2 n.ld≤m
   exact max_in h2 hh.ld.2
  refine cp fun kk=>?_
  obtain ⟨g1,g2,g3⟩:=line_b r (lineStep s n) (fun x hx=>hn x (.tail _ hx)) e (Int.add_nonneg hb (by decide)) hm e1 e2
  refine kk ?_
  refine ⟨g1.mono ?_ ?_,g2,g3⟩
  ·rw [List.length_cons]; show a+m+m*(r.length:Int)≤a+m*((r.length:Int)+1); rw [Int.mul_add,Int.mul_one,Int.add_assoc,Int.add_comm m]; exact Int.le_refl _
  ·rw [List.length_cons]; show b+20+20*(r.length:Int)≤b+20*((r.length:Int)+1); rw [Int.mul_add,Int.add_assoc,Int.add_comm 20]; exact Int.le_refl _
theorem col_b {m:Int}:∀(ns:List N)(s:T×Int×Int){a b:Int},(∀ n∈ns,nbd m n)→TB a b s.1→0≤b→0≤m→(0≤s.2.1∧s.2.1≤m)→Ab m s.2.2 →
  TB (a+2*m*ns.length) (b+20*ns.length) (ns.foldl colStep s).1∧(0≤(ns.foldl colStep s).2.1∧(ns.foldl colStep s).2.1≤m)∧Ab m (ns.foldl colStep s).2.2
 | [],s,a,b,z1,h,hb,hm,h1,h2=>⟨h.mono (by show a≤a+2*m*0; rw [Int.mul_zero,Int.add_zero]; exact Int.le_refl a) (Int.le_of_eq (Int.add_zero b).symm),h1,h2⟩
 | n::r,s,a,b,hn,h,hb,hm,h1,h2=>by
  have hh:=hn n (.head _)
  have z:Ab m 0:=ab0 hm
  have pl:∀{x y:Int},Ab m x→Ab m y→Ab (2*m) (x+y):=fun hx hy=>by rw [Int.two_mul]; exact ab_add hx hy
  have e1:0≤max s.2.1 n.ac∧max s.2.1 n.ac≤m:=max_in h1 hh.ac.2
  have e:TB (a+2*m) (b+20) (colStep s n).1∧(0≤(colStep s n).2.1∧(colStep s n).2.1≤m)∧Ab m (colStep s n).2.2:=by
   rcases n with ⟨g,so⟩|⟨w,_⟩|⟨_,_,_⟩|⟨_⟩|⟨_,_⟩|⟨_,_⟩
   ·exact ⟨((h.wide h2).add hb hh.wd (hh.sk g so rfl).1 (hh.sk g so rfl).2).mono (by rw [Int.two_mul,Int.add_assoc]; exact Int.le_refl _) (Int.le_refl _),e1,z⟩
   ·exact ⟨(h.wide (pl h2 hh.wd)).mono (Int.le_refl _) (Int.le_add_of_nonneg_right (by decide)),e1,z⟩
   ·exact ⟨(h.wide (pl h2 hh.ht)).mono (Int.le_refl _) (Int.le_add_of_nonneg_right (by decide)),e1,hh.dp⟩
   ·exact ⟨h.mono (Int.le_add_of_nonneg_right (Int.mul_nonneg (by decide) hm)) (Int.le_add_of_nonneg_right (by decide)),e1,h2⟩
   ·exact ⟨(h.wide (pl h2 hh.ht)).mono (Int.le_refl _) (Int.le_add_of_nonneg_right (by decide)),e1,hh.dp⟩
   ·exact ⟨(h.wide (pl h2 hh.ht)).mono (Int.le_refl _) (Int.le_add_of_nonneg_right (by decide)),e1,hh.dp⟩
  refine cp fun kk=>?_
  obtain ⟨g1,g2,g3⟩:=col_b r (colStep s n) (fun x hx=>hn x (.tail _ hx)) e.1 (Int.add_nonneg hb (by decide)) hm e.2.1 e.2.2
  refine kk ?_
  refine ⟨g1.mono ?_ ?_,g2,g3⟩
  ·rw [List.length_cons]; show a+2*m+2*m*(r.length:Int)≤a+2*m*((r.length:Int)+1); rw [Int.mul_add,Int.mul_one,Int.add_assoc,Int.add_comm (2*m)]; exact Int.le_refl _
  ·rw [List.length_cons]; show b+20+20*(r.length:Int)≤b+20*((r.length:Int)+1); rw [Int.mul_add,Int.add_assoc,Int.add_comm 20]; exact Int.le_refl _
theorem natLine_b {ns:List N}{m:Int}(hm:0≤m)(h:∀ n∈ns,nbd m n):TB (m*ns.length) (20*ns.length) (natLine ns).1∧(0≤(natLine ns).2.1∧(natLine ns).2.1≤m)∧(0≤(natLine ns).2.2∧(natLine ns).2.2≤m):=by
 have:=line_b ns (T0,0,0) h TB0 (Int.le_refl 0) hm ⟨Int.le_refl 0,hm⟩ ⟨Int.le_refl 0,hm⟩
 rwa [Int.zero_add,Int.zero_add] at this
theorem natCol_b {ns:List N}{m:Int}(hm:0≤m)(h:∀ n∈ns,nbd m n):TB (2*m*ns.length) (20*ns.length) (natCol ns).1∧(0≤(natCol ns).2.1∧(natCol ns).2.1≤m)∧Ab m (natCol ns).2.2:=by
 have:=col_b ns (T0,0,0) h TB0 (Int.le_refl 0) hm ⟨Int.le_refl 0,hm⟩ (ab0 hm)
 rwa [Int.zero_add,Int.zero_add] at this
theorem TB.tot {a b x:Int}{t:T}(h:TB a b t)(hb:0≤b):t.tot x≤b:=by
 unfold T.tot
 split
 ·exact (getI_ab hb h.st).2
 ·exact (getI_ab hb h.sh).2
theorem aN_nbd {n:N}(h:aN n):nbd 8000000 n:=by
 have z:Ab 8000000 0:=⟨by decide,by decide⟩
 have up:∀{i:Int},ab i→Ab 8000000 i:=fun h=>⟨Int.le_trans (by decide) h.1,Int.le_trans h.2 (by decide)⟩
 have oo:∀{o:Option Int},aO o→Ab 8000000 (o.getD 0):=fun {o} h=>by
  rcases o with _|⟨i⟩
  ·exact z
  ·exact up (h i rfl)
 rcases n with ⟨g,s⟩|⟨w,s⟩|⟨w,hh,d⟩|⟨v⟩|⟨b,is⟩|⟨_,_⟩
 ·exact ⟨h.ok,up h.w,z,z,z,z,z,fun g' s' e=>by (injection e with e; subst e); exact ⟨h.st,h.sh⟩⟩
 ·exact ⟨trivial,up h,z,z,z,z,z,fun g' s' e=>by cases e⟩
 ·exact ⟨trivial,oo h.1,oo h.2.1,oo h.2.2.1,oo h.2.1,oo h.2.2.1,oo h.1,fun g' s' e=>by cases e⟩
 ·exact ⟨trivial,z,z,z,z,z,z,fun g' s' e=>by cases e⟩
 ·refine cp fun kk=>?_
  obtain ⟨_,h1,h2,⟨h3,_⟩,h4⟩:=h
  have pm:∀{x y:Int},ab x→ab y→Ab 8000000 (x-y)∧Ab 8000000 (x+y):=fun hx hy=>⟨bd_mono (bd_sub hx hy) (by decide) (by decide),bd_mono (bd_add hx hy) (by decide) (by decide)⟩
  refine kk ?_
  exact ⟨trivial,up h1,up h2,up h3,(pm h2 h4).1,(pm h3 h4).2,(pm h1 h4).2,fun g' s' e=>by cases e⟩
 ·exact h.elim
theorem dep_nn:∀(ns:List N)(s:T×Int×Int),(∀ n∈ns,aN n)→0≤s.2.2→0≤(ns.foldl colStep s).2.2
 | [],z1,z2,h=>h
 | n::r,s,hn,h=>by
  refine dep_nn r _ (fun x hx=>hn x (.tail _ hx)) ?_
  have hh:=hn n (.head _)
  rcases n with ⟨_,_⟩|⟨_,_⟩|⟨_,_,_⟩|⟨_⟩|⟨_,_⟩|⟨_,_⟩
  ·exact Int.le_refl 0
  ·exact Int.le_refl 0
  ·exact hh.2.2.2
  ·exact h
  ·exact hh.2.2.2.1.2
  ·exact hh.elim
noncomputable def mkCell (v:Bool)(many:Int)(ns:List N):Cell :=
 if v then (⟨(natCol ns).2.1,(natCol ns).1.nat+(natCol ns).2.2,0,many,(natCol ns).1.wide (natCol ns).2.2,true⟩,ns)
 else (⟨(natLine ns).1.nat,(natLine ns).2.1,(natLine ns).2.2,many,(natLine ns).1,false⟩,ns)
theorem items_rng (n:Int):(Itr.rng 0 n).items=(List.range n.toNat).map fun k=>.one (.int (0+(k:Nat))):=by
 show (List.range (n-0).toNat).map _=_
 rw [Int.sub_zero]
theorem snoc_all {P:N→Prop}{V:(Int×Int)→N}{S:(Int×Int)→Int×Int}(h:∀ s,P (V s)):∀(l:List Nat)(s:(Int×Int)×List N),(∀ n∈s.2,P n)→(∀ n∈(l.foldl (fun (s:(Int×Int)×List N) zz=>(S s.1,s.2++[V s.1])) s).2,P n)∧(l.foldl (fun (s:(Int×Int)×List N) zz=>(S s.1,s.2++[V s.1])) s).2.length=s.2.length+l.length
 | [],s,hs=>⟨hs,rfl⟩
 | z1::r,s,hs=>by
  have:=snoc_all (S:=S) h r (S s.1,s.2++[V s.1]) fun n hn=>by
   rcases List.mem_append.mp hn with hn|hn
   ·exact hs n hn
   ·rw [List.mem_singleton.mp hn]; exact h _
  refine ⟨this.1,this.2.trans ?_⟩
  rw [List.length_append,List.length_cons]
  exact Nat.add_right_comm _ 1 _
theorem pick {σ β α:Type}{R:σ→β→α→σ→Prop}(h:∀ s b,∃ v s',R s b v s'):∃ (V:σ→β→α) (S:σ→β→σ),∀ s b,R s b (V s b) (S s b) :=
 ⟨fun s b=>(h s b).choose,fun s b=>(h s b).choose_spec.choose,fun s b=>(h s b).choose_spec.choose_spec⟩
theorem c92 (s:Int×Int):∃ (ns:List N) (s':Int×Int),((∀ n∈ns,aN n)∧ns.length≤3)∧∀ k,Cl (k+5) 92 [bx s] [.own 0] (.ok (.fr (.lst (Ns.p ns))) [bx s']):=by
 refine cp fun kk=>?_
 obtain ⟨n,s1,hn,c1⟩:=c89 s 4 (by decide) (by decide)
 obtain ⟨V,S,hV⟩:=pick (β:=Unit) fun s zz=>t92 s
 obtain ⟨h1,h2⟩:=snoc_all (S:=fun s=>S s ()) (fun s=>(hV s ()).1) (List.range n.toNat) (s1,[]) fun n hn=>by cases hn
 refine kk ?_
 generalize hF:(List.range n.toNat).foldl (fun (s:(Int×Int)×List N) zz=>(S s.1 (),s.2++[V s.1 ()])) (s1,[])=F at h1 h2
 refine ⟨F.2,F.1,⟨h1,by rw [h2,List.length_range]; show 0+n.toNat≤3; rw [Nat.zero_add]; exact bd_tn (bd_lt hn) (by decide)⟩,fun k=>.fn (fm 42 rfl) k92 (Nat.le_refl 1) (Nat.le_refl 1) ?_⟩
 refine ⟨le4 rfl,?_⟩
 refine useB (c1 _) rfl rfl ?_
 refine ⟨by decide,bd_na (bd_lt hn) (by decide) (by decide),?_⟩
 refine loopK (fun s:(Int×Int)×List N=>e92 s.1 (Ns.p s.2)) (fun k s=>s.2.length=k) (fun (s:(Int×Int)×List N) zz=>(S s.1 (),s.2++[V s.1 ()])) (s1,[]) _ _ (items_rng n) (cOf_half _ _) rfl ⟨rfl,rfl,trivial⟩ ⟨rfl,rfl,trivial⟩ (fun zz=>rfl) (fun j s b hj hk=>?_) fun hk=>?_
 ·have hb:=get_lt hj
  rw [List.length_range] at hb
  rw [Ns_app]
  exact (hV s.1 ()).2 _ k _ _ _ _ (Ns.p s.2) (by rw [List.length_append,hk]; rfl) (by rw [Ns_len,hk]; exact Nat.le_trans (Nat.le_of_lt hb) (bd_tn (bd_lt hn) (by decide)))
 ·rw [hF]
  exact retN 1 rfl rfl
theorem aN_all {ns:List N}(h:∀ n∈ns,aN n):∀ n∈ns,nbd 8000000 n:=fun n hn=>aN_nbd (h n hn)
theorem gok_all {ns:List N}(h:∀ n∈ns,aN n):∀ n∈ns,n.gok:=fun n hn=>(aN_nbd (h n hn)).gok
structure LsOk (ns:List N):Prop where
 all:∀ n∈ns,aN n
 len:ns.length≤3
theorem LsOk.line {ns:List N}(h:LsOk ns):TB 24000000 60 (natLine ns).1∧(0≤(natLine ns).2.1∧(natLine ns).2.1≤8000000)∧(0≤(natLine ns).2.2∧(natLine ns).2.2≤8000000):=by
 have:=natLine_b (m:=8000000) (by decide) (aN_all h.all)
 have hl:=h.len
 exact ⟨this.1.mono (Int.le_trans (bd_mul 8000000 (by decide) (bd_len hl)).2 (by decide)) (Int.le_trans (bd_mul 20 (by decide) (bd_len hl)).2 (by decide)),this.2⟩
theorem LsOk.col {ns:List N}(h:LsOk ns):TB 48000000 60 (natCol ns).1∧(0≤(natCol ns).2.1∧(natCol ns).2.1≤8000000)∧Ab 8000000 (natCol ns).2.2:=by
 have:=natCol_b (m:=8000000) (by decide) (aN_all h.all)
 have hl:=h.len
 exact ⟨this.1.mono (Int.le_trans (bd_mul (2*8000000) (by decide) (bd_len hl)).2 (by decide)) (Int.le_trans (bd_mul 20 (by decide) (bd_len hl)).2 (by decide)),this.2⟩
theorem dimA {m i:Int}(h:Ab m i)(hm:m≤1073741823):Dim i:=bd_mono h (Int.neg_le_neg hm) hm
theorem dim0 {m i:Int}(h:0≤i∧i≤m)(hm:m≤1073741823):Dim i:=bd_mono h (by decide) hm
theorem c44a {k:Nat}{w h d m:Int}{l t:PV}(h1:Dim w)(h2:Dim h)(h3:Dim d)(h4:1≤m)(h5:m≤2):Cl (k+3) 44 [] [.fr (.int w),.fr (.int h),.fr (.int d),.fr l,.fr (.int m),.fr t] (.ok (.own 0) [.obj 44 [.fr (.int w),.fr (.int h),.fr (.int d),.fr l,.fr (.int m),.fr t,.fr (.bool false)]]):=clsI (H:=[]) 7 rfl (.fn (fm 71 rfl) k4401 (Nat.le_succ 7) (Nat.le_refl 8) (by
 refine use0 (c14 h4 (show m≤2147483647 from Int.le_trans h5 (by decide))) rfl ?_
 refine use0 (c17 h1) rfl ?_
 refine use0 (c17 h2) rfl ?_
 refine use0 (c17 h3) rfl ?_
 exact retN 1 rfl rfl))
theorem c93 (s:Int×Int)(m:Int)(v:Bool)(hm:1≤m∧m≤2):∃ (ns:List N) (s':Int×Int),LsOk ns∧∀ k,Cl (k+6) 93 [bx s] [.own 0,.fr (.int m),.fr (.bool v)] (.ok (.fr (mkCell v m ns).n.p) [bx s']):=by
 refine cp fun kk=>?_
 obtain ⟨ns,s1,h,c1⟩:=c92 s
 have hl:LsOk ns:=⟨h.1,h.2⟩
 refine kk ?_
 refine ⟨ns,s1,hl,fun k=>.fn (fm 43 rfl) k93 (Nat.le_refl 3) (Nat.le_refl 3) ?_⟩
 rcases v with _|_
 ·refine cp fun kk=>?_
  obtain ⟨b1,b2,b3⟩:=hl.line
  refine kk ?_
  refine useB (c1 _) rfl rfl ?_
  refine use0 (c58 ns (gok_all h.1)) rfl ?_
  refine useO (c44a (dimA b1.n (by decide)) (dim0 b2 (by decide)) (dim0 b3 (by decide)) hm.1 hm.2) rfl rfl ?_
  exact retN 1 rfl rfl
 ·refine cp fun kk=>?_
  obtain ⟨b1,b2,b3⟩:=hl.col
  have d1:Dim ((natCol ns).1.nat+(natCol ns).2.2):=bd_mono (bd_add b1.n b3) (by decide) (by decide)
  refine kk ?_
  refine useB (c1 _) rfl rfl ?_
  refine useN [] (c61 ns (gok_all h.1)) rfl rfl rfl rfl ?_
  refine useN [1,2,3] (c3002 (t:=(natCol ns).1)) rfl rfl rfl rfl ?_
  refine useO (c44 (b:=true) (dim0 b2 (by decide)) d1 d0 hm.1 hm.2) rfl rfl ?_
  exact retN 1 rfl rfl
noncomputable def loose:N→Prop
 | .rule w h d=>aO w∧aO h∧aO d
 | .kern w z1=>ab w
 | .pen z1=>True
 | z1=>False
structure OtOk (os:List N):Prop where
 all:∀ n∈os,loose n
 len:os.length≤1
theorem e94 (s:Int×Int):∃ (o:Option Int) (s':Int×Int),aO o∧∀(k:Nat)(X:Prop)(i:PV)(A:List PV),
  sX (.ife (.cmp .eq (.call 89 (.cons (.v 3) (.cons (.k (.int 2)) .nil))) (.k (.int 0))) (.k .none) (.bin .add (.k (.int 1)) (.call 89 (.cons (.v 3) (.cons (.k (.int 9)) .nil))))) (Px.calm ⟨GG nS (k+1),X⟩) (st [(3,.own 0)] 35 (.fr i)) [bx s] (kEl A (A++[oi o]) [bx s']):=by
 refine cp fun kk=>?_
 obtain ⟨a,s1,ha,c1⟩:=c89 s 2 (by decide) (by decide)
 refine kk ?_
 by_cases h:a=0
 ·refine ⟨none,s1,(fun i e=>by injection e),fun k X i A=>?_⟩
  refine useB (c1 _) rfl rfl ?_
  refine brT (dT h) ?_
  exact ⟨rfl,rfl,trivial⟩
 ·refine cp fun kk=>?_
  obtain ⟨b,s2,hb,c2⟩:=c89 s1 9 (by decide) (by decide)
  refine kk ?_
  refine ⟨some (1+b),s2,(fun i e=>by obtain rfl:=Option.some.inj e; exact bd_mono (bd_add (bd_c 1) (bd_lt hb)) (by decide) (by decide)),fun k X i A=>?_⟩
  refine useB (c1 _) rfl rfl ?_
  refine brF (dF h) ?_
  refine useB (c2 _) rfl rfl ?_
  exact ⟨rfl,rfl,trivial⟩
theorem c94 (s:Int×Int):∃ (os:List N) (s':Int×Int),OtOk os∧∀ k,Cl (k+5) 94 [bx s] [.own 0] (.ok (.fr (.lst (Ns.p os))) [bx s']):=by
 refine cp fun kk=>?_
 obtain ⟨w,s1,hw,c1⟩:=c89 s 5 (by decide) (by decide)
 refine kk ?_
 by_cases h0:w=0
 ·refine cp fun kk=>?_
  obtain ⟨V,S,hV⟩:=pick (β:=Unit) fun s zz=>e94 s
  have g1:=(hV s1 ()).1
  have g2:=(hV (S s1 ()) ()).1
  have g3:=(hV (S (S s1 ()) ()) ()).1
  refine kk ?_
  refine ⟨[.rule (V s1 ()) (V (S s1 ()) ()) (V (S (S s1 ()) ()) ())],S (S (S s1 ()) ()) (),⟨fun n hn=>?_,Nat.le_refl 1⟩,fun k=>.fn (fm 44 rfl) k94 (Nat.le_refl 1) (Nat.le_refl 1) ?_⟩
  ·rw [List.mem_singleton.mp hn]; exact ⟨g1,g2,g3⟩
  refine useB (c1 _) rfl rfl ?_
  refine brT (dT h0) ?_
  refine ⟨by decide,by decide,?_⟩
  refine compL (fun s:Int×Int=>[bx s]) (fun s (zz:Nat)=>S s ()) (fun s zz=>some (oi (V s ()))) s1 _ _ (items_rng 3) (by decide) rfl (fun zz=>rfl) (fun s b A hb=>?_) ?_
  ·exact (hV s ()).2 (k+4) _ _ A
  ·show newL [bx (S (S (S s1 ()) ()) ())] [oi (V s1 ()),oi (V (S s1 ()) ()),oi (V (S (S s1 ()) ()) ())] _
   refine useO (c40 (aO_dim g1) (aO_dim g2) (aO_dim g3)) rfl rfl ?_
   refine ⟨le4 rfl,?_⟩
   exact retN 1 rfl rfl
 by_cases h1:w=1
 ·refine cp fun kk=>?_
  obtain ⟨d,s2,hd,c2⟩:=c90 s1
  refine kk ?_
  refine ⟨[.kern d 1],s2,⟨fun n hn=>by rw [List.mem_singleton.mp hn]; exact hd,Nat.le_refl 1⟩,fun k=>.fn (fm 44 rfl) k94 (Nat.le_refl 1) (Nat.le_refl 1) ?_⟩
  refine useB (c1 _) rfl rfl ?_
  refine brF (dF h0) ?_
  refine brT (dT h1) ?_
  refine useB (c2 _) rfl rfl ?_
  refine useO (c41 (ab_dim hd)) rfl rfl ?_
  refine ⟨le4 rfl,?_⟩
  exact retN 1 rfl rfl
 by_cases h2:w=2
 ·refine cp fun kk=>?_
  obtain ⟨d,s2,hd,c2⟩:=c89 s1 100 (by decide) (by decide)
  refine kk ?_
  refine ⟨[.pen d],s2,⟨fun n hn=>by rw [List.mem_singleton.mp hn]; exact trivial,Nat.le_refl 1⟩,fun k=>.fn (fm 44 rfl) k94 (Nat.le_refl 1) (Nat.le_refl 1) ?_⟩
  refine useB (c1 _) rfl rfl ?_
  refine brF (dF h0) ?_
  refine brF (dF h1) ?_
  refine brT (dT h2) ?_
  refine useB (c2 _) rfl rfl ?_
  refine useO (c43 hd.1 (by lia)) rfl rfl ?_
  refine ⟨le4 rfl,?_⟩
  exact retN 1 rfl rfl
 ·refine ⟨[],s1,⟨fun n hn=>by (cases hn),Nat.zero_le 1⟩,fun k=>.fn (fm 44 rfl) k94 (Nat.le_refl 1) (Nat.le_refl 1) ?_⟩
  refine useB (c1 _) rfl rfl ?_
  refine brF (dF h0) ?_
  refine brF (dF h1) ?_
  refine brF (dF h2) ?_
  refine ⟨le4 rfl,?_⟩
  exact retN 1 rfl rfl
theorem c102 (s:Int×Int)(w own less:Int):∃ (a:Int) (s':Int×Int),∀ k,Cl (k+1) 102 [bx s] [.own 0,.fr (.int w),.fr (.int own),.fr (.int less)] (.ok (.fr (.int a)) [bx s']):=by
 refine cp fun kk=>?_
 obtain ⟨e,s1,he,c1⟩:=c89 s 8 (by decide) (by decide)
 have fin:∀(x:Int)(s':Int×Int)(k:Nat),sT (cOf 102 [bx s]) b102_8 ⟨GG nS (k+1),Rs.ok (.fr (.int (if w=1 then x else own+x))) [bx s']=.ovf⟩ [(3,.own 0),(94,.fr (.int w)),(60,.fr (.int own)),(41,.fr (.int less)),(18,.fr (.int e)),(28,.fr (.int x))] [bx s'] (retK 1 (Rs.ok (.fr (.int (if w=1 then x else own+x))) [bx s'])):=fun x s' k=>by
  by_cases h:w=1
  ·refine brT (dT h) ?_
   exact retN 1 rfl (by rw [if_pos h]; rfl)
  ·refine brF (dF h) ?_
   exact retN 1 rfl (by rw [if_neg h]; rfl)
 refine kk ?_
 by_cases h7:e=7
 ·obtain ⟨a,s2,ha,c2⟩:=c89 s1 2 (by decide) (by decide)
  obtain ⟨b,s3,hb,c3⟩:=c89 s2 64 (by decide) (by decide)
  refine ⟨(1-2*a)*(2 ^ (30:Int).toNat-40+b),s3,fun k=>.fn (fm 52 rfl) k102 (Nat.le_refl 4) (Nat.le_refl 4) ?_⟩
  refine useB (c1 _) rfl rfl ?_
  refine brT (dT h7) ?_
  refine useB (c2 _) rfl rfl ?_
  refine ⟨.inl two,?_⟩
  refine ⟨.inr ⟨rfl,rfl⟩,?_⟩
  refine useB (c3 _) rfl rfl ?_
  refine ⟨by omega,?_⟩
  exact retN 1 rfl rfl
 by_cases h3:e<3
 ·obtain ⟨a,s2,ha,c2⟩:=c89 s1 60 (by decide) (by decide)
  refine ⟨(if w=1 then 1+a else own+(1+a)),s2,fun k=>.fn (fm 52 rfl) k102 (Nat.le_refl 4) (Nat.le_refl 4) ?_⟩
  refine useB (c1 _) rfl rfl ?_
  refine brF (dF h7) ?_
  refine brT (dT h3) ?_
  refine useB (c2 _) rfl rfl ?_
  exact fin (1+a) s2 k
 by_cases h4:e=3
 ·obtain ⟨a,s2,ha,c2⟩:=c89 s1 30 (by decide) (by decide)
  refine ⟨(if w=1 then -1-a else own+(-1-a)),s2,fun k=>.fn (fm 52 rfl) k102 (Nat.le_refl 4) (Nat.le_refl 4) ?_⟩
  refine useB (c1 _) rfl rfl ?_
  refine brF (dF h7) ?_
  refine brF (dF h3) ?_
  refine brT (dT h4) ?_
  refine useB (c2 _) rfl rfl ?_
  exact fin (-1-a) s2 k
 by_cases h6:e<6
 ·by_cases h5:e=4
  ·refine ⟨(if w=1 then -less else own+-less),s1,fun k=>.fn (fm 52 rfl) k102 (Nat.le_refl 4) (Nat.le_refl 4) ?_⟩
   refine useB (c1 _) rfl rfl ?_
   refine brF (dF h7) ?_
   refine brF (dF h3) ?_
   refine brF (dF h4) ?_
   refine brT (dT h6) ?_
   refine brT (dT h5) ?_
   exact fin (-less) s1 k
  ·obtain ⟨a,s2,ha,c2⟩:=c89 s1 3 (by decide) (by decide)
   refine ⟨(if w=1 then -less-1-a else own+(-less-1-a)),s2,fun k=>.fn (fm 52 rfl) k102 (Nat.le_refl 4) (Nat.le_refl 4) ?_⟩
   refine useB (c1 _) rfl rfl ?_
   refine brF (dF h7) ?_
   refine brF (dF h3) ?_
   refine brF (dF h4) ?_
   refine brT (dT h6) ?_
   refine brF (dF h5) ?_
   refine useB (c2 _) rfl rfl ?_
   exact fin (-less-1-a) s2 k
 ·obtain ⟨a,s2,ha,c2⟩:=c89 s1 200 (by decide) (by decide)
  refine ⟨(if w=1 then 65536*(a-60) else own+65536*(a-60)),s2,fun k=>.fn (fm 52 rfl) k102 (Nat.le_refl 4) (Nat.le_refl 4) ?_⟩
  refine useB (c1 _) rfl rfl ?_
  refine brF (dF h7) ?_
  refine brF (dF h3) ?_
  refine brF (dF h4) ?_
  refine brF (dF h6) ?_
  refine useB (c2 _) rfl rfl ?_
  refine ⟨.inl (by decide),?_⟩
  exact fin (65536*(a-60)) s2 k
noncomputable def ownB (v:Bool)(ns:List N)(size:Option Int):B:=match size with
 | none=>if v then vB ns 0 (vH ns 0 1 0) else hB ns (hW ns 1 0)
 | some z=>if v then vB ns 0 z else hB ns z
noncomputable def ownOk (v:Bool)(ns:List N)(size:Option Int):Prop:=match size with
 | none=>if v then VOk ns 0 (vH ns 0 1 0) else HOk ns (hW ns 1 0)
 | some z=>Dim z∧if v then VOk ns 0 z else HOk ns z
section
variable {k:Nat}
theorem c96 {c:Cell}{size:Option Int}{v:Bool}(hg:∀ n∈c.2,n.gok)(h:ownOk v c.2 size):Fn (k+7) 96 [.fr c.n.p,.fr (oi size),.fr (.bool v)] (N.box (ownB v c.2 size) c.2).p:=.fn (fm 46 rfl) k96 (Nat.le_refl 3) (Nat.le_refl 3) (by
 obtain ⟨u,ns⟩:=c
 cases size with
 | none =>
  cases v with
  | true =>
   refine use0 (c72m hg d0 (.inr rfl) d0 h) rfl ?_
   exact ret0 rfl
  | false =>
   refine use0 (c71a hg h) rfl ?_
   exact ret0 rfl
 | some z =>
  cases v with
  | true =>
   refine use0 (c72m hg d0 (.inl rfl) h.1 h.2) rfl ?_
   exact ret0 rfl
  | false =>
   refine use0 (c71 hg (.inl rfl) h.1 h.2) rfl ?_
   exact ret0 rfl)
noncomputable def stayN (v:Bool)(goal:Int):N→N
 | .rule w h d=>.rule (orD w (if v then 0 else goal)) (orD h (if v then goal else 0)) (some (d.getD 0))
 | n=>n
theorem c95 {os:List N}{goal:Int}{v:Bool}(ho:∀ n∈os,loose n)(hl:os.length≤800)(hg:Dim goal):Fn (k+13) 95 [.fr (.lst (Ns.p os)),.fr (.int goal),.fr (.bool v)] (.lst (os.map fun n=>(stayN v goal n).D)):=.fn (fm 45 rfl) k95 (Nat.le_refl 3) (Nat.le_refl 3) (by
 have tl:∀(a b:Int),Dim a→Dim b→(if v then 0 else goal)=a→(if v then goal else 0)=b→∀ R:List OB,sT (cOf 95 []) b95_7 ⟨GG nS (k+13),Rs.ok (.fr (.lst (os.map fun n=>(stayN v goal n).D))) []=.ovf⟩ [(56,.fr (.lst (Ns.p os))),(30,.fr (.int goal)),(90,.fr (.bool v)),(6,.fr (.int a)),(32,.fr (.int b))] [] (retK 0 (Rs.ok (.fr (.lst (os.map fun n=>(stayN v goal n).D))) [])):=fun a b da db ea eb R=>by
  refine ⟨le4 rfl,?_⟩
  refine loopK (fun s:List PV=>([(6,.fr (.int a)),(32,.fr (.int b)),(27,.own 0)],[.lst s])) (fun j s=>s.length=j) (fun s n=>s++[(stayN v goal n).D]) [] os _ (items_N os) (cOf_half _ _) rfl ⟨rfl,trivial⟩ ⟨rfl,rfl,rfl,trivial⟩ (fun zz=>rfl) (fun j s n hn hk=>?_) fun hk=>?_
  ·have hj:=get_lt hn
   have hln:=ho n (List.mem_of_getElem? hn)
   have sm:∀ x:PV,small (s++[x]):=fun x=>by unfold small; rw [List.length_append,hk]; show j+1≤1000; lia
   have ln:∀ x:PV,(s++[x]).length=j+1:=fun x=>by rw [List.length_append,hk]; rfl
   cases n with
   | skip _ _=>exact hln.elim
   | box _ _=>exact hln.elim
   | unset _ _=>exact hln.elim
   | kern w so =>
    refine use0 (c48a (n:=.kern w so) (show (0:Nat)≤3 by decide) trivial) rfl ?_
    refine ⟨sm _,?_⟩
    exact turnI (ln _) [] rfl rfl
   | pen w =>
    refine use0 (c48a (n:=.pen w) (show (0:Nat)≤3 by decide) trivial) rfl ?_
    refine ⟨sm _,?_⟩
    exact turnI (ln _) [] rfl rfl
   | rule w h d =>
    obtain ⟨h1,h2,h3⟩:=hln
    have h1:=orD_dim (w:=a) (aO_dim h1) da
    have h2:=orD_dim (w:=b) (aO_dim h2) db
    have h3:oDim (some (d.getD 0)):=fun i e=>by
     obtain rfl:=Option.some.inj e
     cases d with
     | none=>exact d0
     | some j=>exact aO_dim h3 j rfl
    have c:=c40 (k:=k+9) h1 h2 h3
    have cd:=c48a (k:=k) (n:=.rule (orD w a) (orD h b) (some (d.getD 0))) (show (0:Nat)≤3 by decide) trivial
    have eD:(stayN v goal (.rule w h d))=.rule (orD w a) (orD h b) (some (d.getD 0)):=by unfold stayN; rw [ea,eb]
    refine (Eq.symm eD)▸?_
    cases w <;> cases h <;> cases d <;> (
     refine useO c rfl rfl ?_
     refine use0 cd rfl ?_
     refine ⟨sm _,?_⟩
     exact turnI (ln _) _ rfl rfl)
  ·have ef:∀(l:List N)(s:List PV),l.foldl (fun s n=>s++[(stayN v goal n).D]) s=s++l.map fun n=>(stayN v goal n).D:=by
    intro l
    induction l with
    | nil=>intro s; exact (List.append_nil _).symm
    | cons n r ih=>intro s; rw [List.foldl_cons,ih,List.append_assoc]; rfl
   rw [ef]
   exact ret0 rfl
 cases v with
 | true =>
  refine ⟨le4 rfl,?_⟩
  exact tl 0 goal d0 hg rfl rfl []
 | false =>
  refine ⟨le4 rfl,?_⟩
  exact tl goal 0 hg d0 rfl rfl [])
end
noncomputable def lineR:List N→List G→List N
 | b::bs,g::gs=>b::.skip g 109::lineR bs gs
 | z1,z2=>[]
noncomputable def lineN (bs:List N):List G→List N
 | []=>[]
 | g::gs=>.skip g 109::lineR bs gs
noncomputable def liStp (s:List N)(p:N×G):List N:=s++[p.1,.skip p.2 109]
theorem liStp_fold:∀(bs:List N)(gs:List G)(s:List N),(bs.zip gs).foldl liStp s=s++lineR bs gs
 | [],gs,s=>(List.append_nil _).symm
 | b::bs,[],s=>(List.append_nil _).symm
 | b::bs,g::gs,s=>by
  rw [List.zip_cons_cons,List.foldl_cons,liStp_fold bs gs]
  show (s++[_,_])++_=_
  rw [List.append_assoc]; rfl
theorem lineR_gok:∀{bs:List N}{gs:List G},(∀ b∈bs,b.gok)→(∀ g∈gs,g.ok)→∀ n∈lineR bs gs,n.gok
 | [],z1,z2,z3,z4,hn=>by cases hn
 | z1::z2,[],z3,z4,z5,hn=>by cases hn
 | b::bs,g::gs,hb,hg,n,hn=>by
  rcases List.mem_cons.mp hn with rfl|hn
  ·exact hb _ (.head _)
  ·rcases List.mem_cons.mp hn with rfl|hn
   ·exact hg g (.head _)
   ·exact lineR_gok (fun b h=>hb b (.tail _ h)) (fun g h=>hg g (.tail _ h)) n hn
theorem lineN_gok {bs:List N}{g:G}{gs:List G}(hb:∀ b∈bs,b.gok)(hg:∀ x∈g::gs,x.ok):∀ n∈lineN bs (g::gs),n.gok:=fun n hn=>by
 rcases List.mem_cons.mp hn with rfl|hn
 ·exact hg g (.head _)
 ·exact lineR_gok hb (fun x h=>hg x (.tail _ h)) n hn
section
variable {k:Nat}
theorem t97 {bs:List N}{g:G}{gs:List G}{way amount:Int}{v:Bool}{r:Rs}(hl:gs.length=bs.length)(hb:bs.length≤100)
  (h:sT (cOf 97 []) b97_6 ⟨GG nS (k+7),r=.ovf⟩ [(26,.fr (.lst ((g::gs).map G.p))),(94,.fr (.int way)),(0,.fr (.int amount)),(90,.fr (.bool v)),(62,.own 1)] [.fz (N.skip g 109).p,.lst (Ns.p (lineN bs (g::gs)))] (retK 0 r)) :
  sT (cOf 97 []) b97 ⟨GG nS (k+7),r=.ovf⟩ [(4,.fr (.lst (Ns.p bs))),(26,.fr (.lst ((g::gs).map G.p))),(94,.fr (.int way)),(0,.fr (.int amount)),(90,.fr (.bool v))] [] (retK 0 r):=by
 have eb:Ns.p bs=(bs.zip gs).map fun p=>p.1.p:=by
  rw [Ns_map]
  have:bs=(bs.zip gs).map Prod.fst:=(List.map_fst_zip (by lia)).symm
  conv=>lhs; rw [this,List.map_map]
  rfl
 refine useO (c42 (.inr rfl)) rfl rfl ?_
 refine ⟨le4 rfl,?_⟩
 refine loopK (fun s:List N=>([(26,.fr (.lst ((g::gs).map G.p))),(94,.fr (.int way)),(0,.fr (.int amount)),(90,.fr (.bool v)),(62,.own 1)],[.fz (N.skip g 109).p,.lst (Ns.p s)])) (fun j s=>s.length=2*j+1) (fun s p=>liStp s p.1) [.skip g 109] (bs.zip gs).zipIdx _ (by rw [eb]; exact items_enu (fun p:N×G=>p.1.p) _) (cOf_half _ _) rfl ⟨rfl,rfl,trivial⟩ ⟨rfl,rfl,rfl,rfl,rfl,trivial⟩ (fun zz=>rfl) (fun j s p hp hk=>?_) fun hk=>?_
 ·obtain ⟨⟨b,g'⟩,i⟩:=p
  obtain ⟨e1,e2⟩:=zip_get hp
  obtain ⟨e3,e4⟩:=zip2_get e2
  have e1:i=j:=e1
  subst e1
  have e4:gs[i]?=some g':=e4
  have hj:=get_lt e3
  have e5:(g::gs)[((i:Int)+1).toNat]?=some g':=e4
  refine ⟨(by unfold small; rw [List.length_append,Ns_len,hk]; show 2*i+1+1≤1000; lia),?_⟩
  (conv=>whnf)
  have ea:=atP_map (f:=G.p) (show 0≤(i:Int)+1 by lia) e5
  have ea:atP (g.p::gs.map G.p) (.int ((i:Int)+1))=some g'.p:=ea
  refine (Eq.symm ea)▸?_
  refine useO (c42 (.inr rfl)) rfl rfl ?_
  refine ⟨(by unfold small; rw [List.length_append,List.length_append,Ns_len,hk]; show 2*i+1+1+1≤1000; lia),?_⟩
  refine turnI (by unfold liStp; rw [List.length_append,hk]; show 2*i+1+2=2*(i+1)+1; lia) [.fz (N.skip g' 109).p] ?_ rfl
  show _=[_,OB.lst (Ns.p (s++[_,_]))]++_
  rw [Ns_app,List.append_assoc]; rfl
 ·rw [zip_fold liStp,liStp_fold]
  exact h
theorem c97_0:cOf 97 []=0:=by decide +kernel
theorem c98_0:cOf 98 []=0:=by decide +kernel
noncomputable def lnGoal (v:Bool)(P:List N)(way amount:Int):Int:=if way=2 then goalOf v P (mdD v) 1 0 else goalOf v P (mdD v) way amount
noncomputable abbrev pkO (v:Bool)(P:List N)(goal:Int):PV:=pkP (packB v P (mdD v) goal) P (packR v P (mdD v) goal)
theorem c97 {bs:List N}{g:G}{gs:List G}{way amount:Int}{v:Bool}(hl:gs.length=bs.length)(hb:bs.length≤100)(hg:∀ b∈bs,b.gok)(hgs:∀ x∈g::gs,x.ok)(hw:way=0∨way=1∨way=2)(ha:Dim amount)(ok:POk v (lineN bs (g::gs)) (lnGoal v (lineN bs (g::gs)) way amount)) :
  Fn (k+7) 97 [.fr (.lst (Ns.p bs)),.fr (.lst ((g::gs).map G.p)),.fr (.int way),.fr (.int amount),.fr (.bool v)] (pkO v (lineN bs (g::gs)) (lnGoal v (lineN bs (g::gs)) way amount)):=.fn (fm 47 rfl) k97 (Nat.le_refl 5) (Nat.le_refl 5) (t97 hl hb (by
 have gk:=lineN_gok hg hgs
 rcases hw with rfl|rfl|rfl
 ·have hm:(0:Int)=0∨(0:Int)=1:=.inl rfl
  cases v with
  | true=>refine ⟨c97_0,?_⟩; refine use0 (c72 gk hm ha (ok.vv rfl)) rfl ?_; exact ret0 rfl
  | false=>refine ⟨c97_0,?_⟩; refine use0 (c71 gk hm ha (ok.hh rfl)) rfl ?_; exact ret0 rfl
 ·have hm:(1:Int)=0∨(1:Int)=1:=.inr rfl
  cases v with
  | true=>refine ⟨c97_0,?_⟩; refine use0 (c72 gk hm ha (ok.vv rfl)) rfl ?_; exact ret0 rfl
  | false=>refine ⟨c97_0,?_⟩; refine use0 (c71 gk hm ha (ok.hh rfl)) rfl ?_; exact ret0 rfl
 ·cases v with
  | true=>refine ⟨c97_0,?_⟩; refine use0 (c72a gk (ok.vv rfl)) rfl ?_; exact ret0 rfl
  | false=>refine ⟨c97_0,?_⟩; refine use0 (c71a gk (ok.hh rfl)) rfl ?_; exact ret0 rfl))
theorem x97 {bs:List N}{g:G}{gs:List G}{way amount:Int}{v:Bool}(hl:gs.length=bs.length)(hb:bs.length≤100)(hg:∀ b∈bs,b.gok)(hgs:∀ x∈g::gs,x.ok)(hw:way=0∨way=1)(hd:v=true→Dim (vT (lineN bs (g::gs)) 1073741823).2.1)(ha:¬Dim amount∨Dim amount∧¬Dim (goalOf v (lineN bs (g::gs)) (mdD v) way amount)) :
  Fn (k+7) 97 [.fr (.lst (Ns.p bs)),.fr (.lst ((g::gs).map G.p)),.fr (.int way),.fr (.int amount),.fr (.bool v)] .none:=.fn (fm 47 rfl) k97 (Nat.le_refl 5) (Nat.le_refl 5) (t97 hl hb (by
 have gk:=lineN_gok hg hgs
 rcases hw with rfl|rfl
 ·have hm:(0:Int)=0∨(0:Int)=1:=.inl rfl
  cases v with
  | true=>refine ⟨c97_0,?_⟩; exact useX (x72 gk hm (hd rfl) ha) rfl (ret0 rfl)
  | false=>refine ⟨c97_0,?_⟩; exact useX (x71 gk hm ha) rfl (ret0 rfl)
 ·have hm:(1:Int)=0∨(1:Int)=1:=.inr rfl
  cases v with
  | true=>refine ⟨c97_0,?_⟩; exact useX (x72 gk hm (hd rfl) ha) rfl (ret0 rfl)
  | false=>refine ⟨c97_0,?_⟩; exact useX (x71 gk hm ha) rfl (ret0 rfl)))
theorem c98 {qs:List QV}{way amount:Int}{v:Bool}{a b c d:PV}{rw':PV}(h:Fn (k+8) 86 [.fr a,.fr b,.fr c,.fr (.int (min way 1)),.fr (.int amount),.fr (.bool v)] rw'):Fn (k+9) 98 [.fr a,.fr b,.fr c,.fr (.int way),.fr (.int amount),.fr (.bool v)] rw':=.fn (fm 48 rfl) k98 (Nat.le_refl 6) (Nat.le_refl 6) (by
 refine ⟨c98_0,?_⟩
 refine use0 h rfl ?_
 exact ret0 rfl)
theorem x98 {way amount:Int}{v:Bool}{a b c:PV}(h:Cl (k+8) 86 [] [.fr a,.fr b,.fr c,.fr (.int (min way 1)),.fr (.int amount),.fr (.bool v)] .ovf):Fn (k+9) 98 [.fr a,.fr b,.fr c,.fr (.int way),.fr (.int amount),.fr (.bool v)] .none:=.fn (fm 48 rfl) k98 (Nat.le_refl 6) (Nat.le_refl 6) (by
 refine ⟨c98_0,?_⟩
 exact useX h rfl (ret0 rfl))
end
noncomputable def E.D:E→PV
 | .row cs=>.tup (Ns.D (cs.map Cell.n))
 | .node n=>.tup [n.D]
noncomputable def E.fit:E→Prop
 | .row cs=>cs.length≤900∧(∀ n∈cs.map Cell.n,n.lev≤3)∧Ns.fit (cs.map Cell.n)
 | .node n=>n.lev≤3∧n.fit∧loose n
noncomputable def flatP (whole:List E)(gs:List G):PV:=.tup [.lst (whole.map E.D),.lst (gs.map gD)]
theorem cells_p (cs:List Cell):Ns.p (cs.map Cell.n)=cs.map fun c=>c.n.p:=by rw [Ns_map,List.map_map]; rfl
section
variable {k:Nat}
theorem c99 {whole:List E}{gs:List G}(hf:∀ e∈whole,e.fit)(hl:whole.length≤900)(hg:gs.length≤900):Fn (k+14) 99 [.fr (.lst (whole.map E.p)),.fr (.lst (gs.map G.p))] (flatP whole gs):=.fn (fm 49 rfl) k99 (Nat.le_refl 2) (Nat.le_refl 2) (by
 refine compM E.D whole _ (items_seq E.p whole) (Nat.le_trans hl (by decide)) rfl (fun e A he=>?_) ?_
 ·have hfe:=hf e he
  rcases e with ⟨cs⟩|⟨n⟩
  ·have c:=c49t (k:=k) (ns:=cs.map Cell.n) (by rw [List.length_map]; exact hfe.1) hfe.2.1 hfe.2.2
   rw [cells_p] at c
   refine use0 c rfl ?_
   exact ⟨rfl,trivial⟩
  ·have c:=c49t (k:=k) (ns:=[n]) (show 1≤900 by decide) (fun m hm=>by rw [List.mem_singleton.mp hm]; exact hfe.1) ⟨hfe.2.1,trivial⟩
   have hl:=hfe.2.2
   rcases n with ⟨_,_⟩|⟨_,_⟩|⟨_,_,_⟩|⟨_⟩|⟨_,_⟩|⟨_,_⟩
   ·exact hl.elim
   ·refine ⟨le4 rfl,?_⟩
    refine use0 c rfl ?_
    exact ⟨rfl,trivial⟩
   ·refine ⟨le4 rfl,?_⟩
    refine use0 c rfl ?_
    exact ⟨rfl,trivial⟩
   ·refine ⟨le4 rfl,?_⟩
    refine use0 c rfl ?_
    exact ⟨rfl,trivial⟩
   ·exact hl.elim
   ·exact hl.elim
 ·refine compM gD gs _ (items_seq G.p gs) (Nat.le_trans hg (by decide)) rfl (fun g A hg=>?_) ?_
  ·refine use0 c2801 rfl ?_
   exact ⟨rfl,rfl,trivial⟩
  ·exact ⟨le4 rfl,ret0 rfl⟩)
noncomputable def picked (l:List Int):Int→List Int→List Int
 | _,[]=>[]
 | f,s::r=>(l.drop (2*(f+s)).toNat).take 2++picked l (f+s) r
noncomputable def pkStp (l:List Int)(s:List Int×Int)(m:Int):List Int×Int:=(s.1++(l.drop (2*(s.2+m)).toNat).take 2,s.2+m)
theorem pkStp_fold (l:List Int):∀(sp:List Int)(s:List Int×Int),(sp.foldl (pkStp l) s).1=s.1++picked l s.2 sp
 | [],s=>(List.append_nil _).symm
 | m::r,s=>by
  rw [List.foldl_cons,pkStp_fold l r]
  show (s.1++_)++_=_
  rw [List.append_assoc]; rfl
theorem cut_two (l:List Int){i:Int}(h:0≤i):cutP (l.map PV.int) (some i) (some (i+2))=((l.drop i.toNat).take 2).map PV.int:=by
 show ((l.map PV.int).take (i+2).toNat).drop i.toNat=_
 rw [List.drop_take,← List.map_drop,← List.map_take,cut2 h]
theorem c101 {l sp:List Int}(hs:∀ m∈sp,m=1∨m=2)(hn:sp.length≤100):Fn k 101 [.fr (.lst (l.map .int)),.fr (.lst (sp.map .int))] (.lst ((l.take 2++picked l 0 sp).map .int)):=.fn (fm 51 rfl) k101 (Nat.le_refl 2) (Nat.le_refl 2) (by
 refine ⟨trivial,⟨by decide,by decide⟩,?_⟩
 refine ⟨le4 rfl,?_⟩
 have e0:cutP (l.map PV.int) none (some 2)=(l.take 2).map PV.int:=(List.map_take ..).symm
 refine loopK (fun s:List Int×Int=>([(2,.fr (.lst (l.map .int))),(27,.own 0),(22,.fr (.int s.2))],[.lst (s.1.map .int)])) (fun j s=>s.1.length≤2+2*j∧0≤s.2∧s.2≤2*j) (pkStp l) (l.take 2,0) sp _ (items_seq .int sp) (cOf_half _ _) ⟨by rw [List.length_take]; exact Nat.min_le_left _ _,Int.le_refl 0,Int.le_refl 0⟩ ⟨by show OB.lst _=OB.lst _; exact congrArg OB.lst e0,trivial⟩ ⟨rfl,rfl,rfl,trivial⟩ (fun zz=>rfl) (fun j s m hm hk=>?_) fun hk=>?_
 ·have hj:=get_lt hm
  have hm2:=hs m (List.mem_of_getElem? hm)
  refine cp fun kk=>?_
  obtain ⟨k1,k2,k3⟩:=hk
  have hb:0≤s.2+m∧s.2+m≤202:=bd_mono (bd_add ⟨k2,Int.le_trans k3 (Int.mul_le_mul_of_nonneg_left (Int.ofNat_le.mpr (Nat.le_trans (Nat.le_of_lt hj) hn)) (by decide))⟩ (bd_12 hm2)) (by decide) (by decide)
  have h0:0≤2*(s.2+m):=Int.mul_nonneg (by decide) hb.1
  have h2:=bd_mul 2 (by decide) hb
  refine kk ?_
  refine ⟨.inl two,?_⟩
  refine ⟨.inl two,?_⟩
  refine ⟨⟨h0,Int.lt_of_le_of_lt h2.2 (by decide)⟩,⟨Int.add_nonneg h0 (by decide),Int.lt_of_le_of_lt (Int.add_le_add_right h2.2 2) (by decide)⟩,?_⟩
  rw [cut_two l h0]
  have tk:((l.drop (2*(s.2+m)).toNat).take 2).length≤2:=by rw [List.length_take]; exact Nat.min_le_left _ _
  refine ⟨(by unfold small; rw [List.length_append,List.length_map,List.length_map]; exact lin_le2 k1 (lt_le hj hn) tk (by decide)),?_⟩
  refine turnI ⟨by show (s.1++_).length≤_; rw [List.length_append]; exact (Nat.add_le_add k1 tk :),hb.1,Int.add_le_add k3 (bd_12 hm2).2⟩ [.fz (.lst (((l.drop (2*(s.2+m)).toNat).take 2).map .int))] ?_ rfl
  show _=[OB.lst ((s.1++_).map .int),_]
  rw [List.map_append]; rfl
 ·refine ret0 ?_
  rw [pkStp_fold])
end
noncomputable abbrev BN:=B×List N
noncomputable def BN.n (o:BN):N:=.box o.1 o.2
noncomputable def sizeL' (v:Bool)(o:BN)(many lap:Int):Int:=if lap+1<many then 0 else if v then o.1.h else o.1.w
noncomputable def dueB (v:Bool)(lb:B)(o:BN)(many lap:Int):N :=
 if lap=0 then .box ⟨v,if v then lb.w else sizeL' v o many lap,if v then sizeL' v o many lap else lb.h,if v then o.1.d else lb.d,o.1.shift,o.1.sign,o.1.order,o.1.r0,o.1.r1⟩ o.2
 else .box (if v then mkB true 0 (sizeL' v o many lap) 0 else mkB false (sizeL' v o many lap) 0 0) []
noncomputable def dueS (g:G)(many lap:Int):N:=.skip (if lap+1=many then g else G0) 109
noncomputable def dueL (v:Bool)(lb:B)(o:BN)(g:G)(many:Int):List Int→List N
 | []=>[]
 | lap::r=>dueB v lb o many lap::dueS g many lap::dueL v lb o g many r
noncomputable def dueR (v:Bool)(lb:B):List BN→List Int→List G→List N
 | o::os,s::ss,g::gs=>dueL v lb o g s (upto 0 s)++dueR v lb os ss gs
 | z1,z2,z3=>[]
theorem lineR_get:∀(bs:List N)(gs:List G)(k:Nat)(b:N)(g:G),bs[k]?=some b→gs[k]?=some g→(lineR bs gs)[2*k]?=some b∧(lineR bs gs)[2*k+1]?=some (.skip g 109)
 | z1::z2,z3::z4,0,z5,z6,e1,e2=>by obtain rfl:=Option.some.inj e1; obtain rfl:=Option.some.inj e2; exact ⟨rfl,rfl⟩
 | b'::bs,g'::gs,k+1,b,g,e1,e2=>lineR_get bs gs k b g e1 e2
 | [],z1,z2,z3,z4,e1,z5=>by injection e1
 | z1::z2,[],z3,z4,z5,z6,e2=>by injection e2
section
variable {k:Nat}
noncomputable abbrev told (lb:B)(P:List N):PV:=lb.D (.tup (Ns.D P))
noncomputable abbrev i100 (lb:B)(P:List N)(v:Bool)(i many:Int)(o:BN):En:=[(83,.fr (told lb P)),(90,.fr (.bool v)),(27,.own 0),(35,.fr (.int i)),(46,.fr (.int many)),(53,.fr o.n.D)]
theorem t100 {X:Prop}{K:KT}{lb:B}{P:List N}{v:Bool}{i many lap:Int}{o:BN}{g:G}{c:Nat}(hv:lb.v=v)(hov:o.1.v=v)(hi:0≤i)(hP:(Ns.D P)[(2*i+2).toNat]?=some (N.skip g 109).D)(h0:0≤lap)(h1:lap<many)(hm:many≤2)(s:List N)(hl:s.length≤900){B':Prop}(hB:B') :
  sT c b100_5 (Px.calm (Px.calm ⟨GG nS k,X⟩)) (st (i100 lb P v i many o) 38 (.fr (.int lap))) [.lst (Ns.D s)] (kTurn B' (i100 lb P v i many o,[.lst (Ns.D (s++[dueB v lb o many lap,dueS g many lap]))]) K):=by
 have sm:∀ x:PV,small (Ns.D s++[x]):=fun x=>by unfold small; rw [List.length_append,NsD_map,List.length_map]; show s.length+1≤1000; lia
 have sm2:∀ x y:PV,small (Ns.D s++[x]++[y]):=fun x y=>by unfold small; rw [List.length_append,List.length_append,NsD_map,List.length_map]; show s.length+1+1≤1000; lia
 have app:∀ a b:N,Ns.D s++[a.D]++[b.D]=Ns.D (s++[a,b]):=fun a b=>by rw [List.append_assoc,NsD_map,NsD_map,List.map_append]; rfl
 -- the glue behind
 have tl2:sT c b100_3 (Px.calm (Px.calm ⟨GG nS k,X⟩)) (st (st (i100 lb P v i many o) 38 (.fr (.int lap))) 73 (.fr (.int (sizeL' v o many lap)))) [.lst (Ns.D s++[(dueB v lb o many lap).D])] (kTurn B' (i100 lb P v i many o,[.lst (Ns.D (s++[dueB v lb o many lap,dueS g many lap]))]) K):=by
  rw [← app]
  by_cases he:lap+1=many
  ·have eS:dueS g many lap=.skip g 109:=by unfold dueS; rw [if_pos he]
   rw [eS]
   refine brT (dT he) ?_
   refine ⟨.inl two,?_⟩
   (conv=>whnf)
   have e2:atP (Ns.D P) (.int (2*i+2))=some (N.skip g 109).D:=by
    have:=atP_map (f:=fun x:PV=>x) (l:=Ns.D P) (show 0≤2*i+2 by lia) hP
    rwa [List.map_id'] at this
   rw [e2]
   refine ⟨sm2 _ _,?_⟩
   exact turnI hB [] rfl rfl
  ·have eS:dueS g many lap=.skip G0 109:=by unfold dueS; rw [if_neg he]
   rw [eS]
   refine brF (dF he) ?_
   refine ⟨le4 rfl,?_⟩
   refine ⟨le4 rfl,?_⟩
   refine ⟨le4 rfl,?_⟩
   refine ⟨sm2 _ _,?_⟩
   exact turnI hB [] rfl rfl
 have tl1:sT c b100_4 (Px.calm (Px.calm ⟨GG nS k,X⟩)) (st (st (i100 lb P v i many o) 38 (.fr (.int lap))) 73 (.fr (.int (sizeL' v o many lap)))) [.lst (Ns.D s)] (kTurn B' (i100 lb P v i many o,[.lst (Ns.D (s++[dueB v lb o many lap,dueS g many lap]))]) K):=by
  obtain ⟨⟨ov,ow,oh,od,os,og,oo,o0,o1⟩,ons⟩:=o
  have hov:ov=v:=hov
  subst hov
  generalize hz:sizeL' ov (⟨ov,ow,oh,od,os,og,oo,o0,o1⟩,ons) many lap=z
  rw [hz] at tl2
  by_cases h:lap=0
  ·have eB:(dueB ov lb (⟨ov,ow,oh,od,os,og,oo,o0,o1⟩,ons) many lap)=.box ⟨ov,if ov then lb.w else z,if ov then z else lb.h,if ov then od else lb.d,os,og,oo,o0,o1⟩ ons:=by unfold dueB; rw [if_pos h,hz]
   rw [eB] at tl2 ⊢
   rcases ov with _|_
   ·refine brT (dT h) ?_
    refine ⟨le4 rfl,?_⟩
    refine ⟨⟨by decide,by decide⟩,trivial,(fun e=>absurd (congrArg List.length e) (show (5:Nat)≠9 by decide)),(fun e=>absurd (congrArg List.length e) (show (5:Nat)≠0 by decide)),?_⟩
    refine ⟨List.cons_ne_nil _ _,(fun e=>absurd (congrArg List.length e) (show (5:Nat)≠0 by decide)),le4 rfl,?_⟩
    refine ⟨sm _,?_⟩
    exact tl2
   ·refine brT (dT h) ?_
    refine ⟨le4 rfl,?_⟩
    refine ⟨⟨by decide,by decide⟩,trivial,(fun e=>absurd (congrArg List.length e) (show (5:Nat)≠9 by decide)),(fun e=>absurd (congrArg List.length e) (show (5:Nat)≠0 by decide)),?_⟩
    refine ⟨List.cons_ne_nil _ _,(fun e=>absurd (congrArg List.length e) (show (5:Nat)≠0 by decide)),le4 rfl,?_⟩
    refine ⟨sm _,?_⟩
    exact tl2
  ·have eB:(dueB ov lb (⟨ov,ow,oh,od,os,og,oo,o0,o1⟩,ons) many lap)=.box (if ov then mkB true 0 z 0 else mkB false z 0 0) []:=by unfold dueB; rw [if_neg h,hz]
   rw [eB] at tl2 ⊢
   rcases ov with _|_
   ·refine brF (dF h) ?_
    refine ⟨le4 rfl,?_⟩
    refine ⟨le4 rfl,?_⟩
    refine ⟨le4 rfl,?_⟩
    refine ⟨le4 rfl,?_⟩
    refine ⟨List.cons_ne_nil _ _,List.cons_ne_nil _ _,le4 rfl,?_⟩
    refine ⟨sm _,?_⟩
    exact tl2
   ·refine brF (dF h) ?_
    refine ⟨le4 rfl,?_⟩
    refine ⟨le4 rfl,?_⟩
    refine ⟨le4 rfl,?_⟩
    refine ⟨le4 rfl,?_⟩
    refine ⟨List.cons_ne_nil _ _,List.cons_ne_nil _ _,le4 rfl,?_⟩
    refine ⟨sm _,?_⟩
    exact tl2
 by_cases h:lap+1<many
 ·have eZ:sizeL' v o many lap=0:=if_pos h
  rw [eZ] at tl1
  refine brT (dT h) ?_
  exact tl1
 ·have eZ:sizeL' v o many lap=if v then o.1.h else o.1.w:=if_neg h
  rw [eZ] at tl1
  rcases v with _|_
  ·refine brF (dF h) ?_
   exact tl1
  ·refine brF (dF h) ?_
   exact tl1
end
noncomputable def duStp (v:Bool)(lb:B)(s:List N)(p:BN×Int×G):List N:=s++dueL v lb p.1 p.2.2 p.2.1 (upto 0 p.2.1)
theorem duStp_fold (v:Bool)(lb:B):∀(os:List BN)(sp:List Int)(fl:List G)(s:List N),(os.zip (sp.zip fl)).foldl (duStp v lb) s=s++dueR v lb os sp fl
 | [],z1,z2,s=>(List.append_nil _).symm
 | z1::z2,[],z3,s=>(List.append_nil _).symm
 | z1::z2,z3::z4,[],s=>(List.append_nil _).symm
 | o::os,m::sp,g::fl,s=>by
  rw [List.zip_cons_cons,List.zip_cons_cons,List.foldl_cons,duStp_fold v lb os sp fl]
  show (s++_)++_=_
  rw [List.append_assoc]; rfl
noncomputable def lapStp (v:Bool)(lb:B)(o:BN)(g:G)(many:Int)(s:List N)(lap:Int):List N:=s++[dueB v lb o many lap,dueS g many lap]
theorem lapStp_fold (v:Bool)(lb:B)(o:BN)(g:G)(many:Int):∀(l:List Int)(s:List N),l.foldl (lapStp v lb o g many) s=s++dueL v lb o g many l
 | [],s=>(List.append_nil _).symm
 | i::r,s=>by
  rw [List.foldl_cons,lapStp_fold v lb o g many r]
  show (s++[_,_])++_=_
  rw [List.append_assoc]; rfl
theorem dueL_len (v:Bool)(lb:B)(o:BN)(g:G)(many:Int):∀ l:List Int,(dueL v lb o g many l).length=2*l.length
 | []=>rfl
 | i::r=>by
  show (dueL v lb o g many r).length+1+1=2*(r.length+1)
  rw [dueL_len v lb o g many r]; rfl
theorem NsD_get {P:List N}{i:Nat}{n:N}(h:P[i]?=some n):(Ns.D P)[i]?=some n.D:=by rw [NsD_map,List.getElem?_map,h]; rfl
section
variable {k:Nat}
theorem c100 {lb:B}{os:List BN}{sp:List Int}{g:G}{fl:List G}{v:Bool}(hv:lb.v=v)(ho:∀ o∈os,o.1.v=v)(hs:∀ m∈sp,m=1∨m=2)(l1:sp.length=os.length)(l2:fl.length=os.length)(hl:os.length≤100) :
  Fn k 100 [.fr (N.box lb (lineN (os.map BN.n) (g::fl))).D,.fr (.lst (sp.map .int)),.fr (.bool v)] (N.box lb (.skip g 109::dueR v lb os sp fl)).D:=.fn (fm 50 rfl) k100 (Nat.le_refl 3) (Nat.le_refl 3) (by
 have esp:sp.map PV.int=(os.zip (sp.zip fl)).map fun p=>.int p.2.1:=by
  have e1:(os.zip (sp.zip fl)).map Prod.snd=sp.zip fl:=List.map_snd_zip (by rw [List.length_zip]; exact Nat.le_trans (Nat.min_le_left _ _) (Nat.le_of_eq l1))
  have e2:(sp.zip fl).map Prod.fst=sp:=List.map_fst_zip (Nat.le_of_eq (l1.trans l2.symm))
  have e3:sp=((os.zip (sp.zip fl)).map Prod.snd).map Prod.fst:=by rw [e1,e2]
  conv=>lhs; rw [e3,List.map_map,List.map_map]
  rfl
 refine ⟨le4 rfl,?_⟩
 refine loopK (fun s:List N=>([(83,.fr (told lb (lineN (os.map BN.n) (g::fl)))),(90,.fr (.bool v)),(27,.own 0)],[.lst (Ns.D s)])) (fun j s=>s.length≤1+4*j) (fun s p=>duStp v lb s p.1) [.skip g 109] (os.zip (sp.zip fl)).zipIdx _ (by rw [esp]; exact items_enu (fun p:BN×Int×G=>.int p.2.1) _) (cOf_half _ _) (Nat.le_refl 1) ⟨rfl,trivial⟩ ⟨rfl,rfl,rfl,trivial⟩ (fun zz=>rfl) (fun j s p hp hk=>?_) fun hk=>?_
 ·obtain ⟨⟨o,m,gf⟩,i⟩:=p
  obtain ⟨e1,e2⟩:=zip_get hp
  obtain ⟨e3,e4⟩:=zip2_get e2
  obtain ⟨e5,e6⟩:=zip2_get e4
  have e1:i=j:=e1
  subst e1
  have e3:os[i]?=some o:=e3
  have e5:sp[i]?=some m:=e5
  have e6:fl[i]?=some gf:=e6
  have hj:=get_lt e3
  have hm:=hs m (List.mem_of_getElem? e5)
  obtain ⟨g1,g2⟩:=lineR_get (os.map BN.n) fl i o.n gf (by rw [List.getElem?_map,e3]; rfl) e6
  have a1:(lineN (os.map BN.n) (g::fl))[(2*(i:Int)+1).toNat]?=some o.n:=by
   rw [show (2*(i:Int)+1).toNat=2*i+1 from rfl]; exact g1
  have a2:(lineN (os.map BN.n) (g::fl))[(2*(i:Int)+2).toNat]?=some (.skip gf 109):=by
   rw [show (2*(i:Int)+2).toNat=2*i+1+1 from rfl]; exact g2
  have a3:atP (Ns.D (lineN (os.map BN.n) (g::fl))) (.int (2*(i:Int)+1))=some o.n.D:=by
   have:=atP_map (f:=fun x:PV=>x) (show 0≤2*(i:Int)+1 from Int.natCast_nonneg (2*i+1)) (NsD_get a1)
   rwa [List.map_id'] at this
  refine ⟨.inl two,?_⟩
  (conv=>whnf)
  rw [a3]
  have hq2:(m-0).toNat≤2:=by rw [Int.sub_zero]; exact bd_tn (bd_12 hm) (by decide)
  refine ⟨by decide,bd_na (bd_12 hm) (by decide) (by decide),?_⟩
  refine loopK (fun s:List N=>(i100 lb (lineN (os.map BN.n) (g::fl)) v i m o,[.lst (Ns.D s)])) (fun i s'=>s'.length≤s.length+2*i) (lapStp v lb o gf m) s (upto 0 m) _ (items_upto 0 m) (cOf_half _ _) (Nat.le_refl _) ⟨rfl,trivial⟩ (agr_of2 rfl) (fun zz=>rfl) (fun q s' lap hq hk'=>?_) fun hk'=>?_
  ·have hlm:=upto_mem (List.mem_of_getElem? hq)
   have hql:=get_lt hq
   rw [upto_len] at hql
   exact t100 hv (ho o (List.mem_of_getElem? e3)) (Int.natCast_nonneg i) (NsD_get a2) hlm.1 hlm.2 (by lia) s' (Nat.le_trans hk' (lin_le2 hk (lt_le hj hl) (Nat.mul_le_mul_left 2 (lt_le hql hq2)) (by decide))) (by show (s'++_).length≤_; rw [List.length_append]; exact (Nat.add_le_add_right hk' 2 :))
  ·rw [lapStp_fold]
   refine turnI ?_ [] rfl rfl
   show (s++_).length≤_
   rw [List.length_append,dueL_len,upto_len]
   exact (Nat.add_le_add hk (Nat.mul_le_mul_left 2 hq2) :)
 ·rw [zip_fold (duStp v lb),duStp_fold]
  refine ⟨trivial,⟨by decide,by decide⟩,(fun e=>absurd (congrArg List.length e) (show (8:Nat)≠9 by decide)),(fun e=>absurd (congrArg List.length e) (show (8:Nat)≠0 by decide)),?_⟩
  refine ⟨le4 rfl,?_⟩
  refine ⟨(fun e=>absurd (congrArg List.length e) (show (8:Nat)≠0 by decide)),List.cons_ne_nil _ _,le4 rfl,?_⟩
  exact ret0 rfl)
end
noncomputable def stepP (v:Bool)(s:T×Int×Int)(n:N):T×Int×Int:=if v then colStep s n else lineStep s n
noncomputable def natP (v:Bool)(ns:List N):T×Int×Int:=ns.foldl (stepP v) (T0,0,0)
theorem natP_col (ns:List N):natP true ns=natCol ns:=rfl
theorem packT_natP {v:Bool}{ns:List N}(h:v=true→(natCol ns).2.2≤1073741823):packT v ns (mdD v)=natP v ns:=by
 cases v
 ·rfl
 ·exact if_neg (Int.not_lt.mpr (h rfl))
structure WG where
 w:Int
 g:G
noncomputable def wgT (t:T)(l:List WG):T:=l.foldl (fun t x=>(t.wide x.w).add x.g) t
theorem T.wide_zero (t:T):t.wide 0=t:=by show T.mk (t.nat+0) t.st t.sh=t; rw [Int.add_zero]
theorem mx0 {a x:Int}(h:0≤a):max (max a x) 0=max a x:=Int.max_eq_left (Int.le_trans h (Int.le_max_left a x))
theorem addI_zero {l:List Int}(h:l.length=4):addI l 0 0=l:=by
 rcases l with _|⟨a,r⟩
 ·injection h
 ·show (a+0)::r=a::r
  rw [Int.add_zero]
theorem T.add_G0 {t:T}(h:t.ok):t.add G0=t:=by
 show T.mk (t.nat+0) (addI t.st 0 0) (addI t.sh 0 0)=t
 rw [addI_zero h.1,addI_zero h.2,Int.add_zero]
noncomputable def eff (ws:List (Option Int))(gs:List G):List WG:=(ws.zip gs).filterMap fun p=>p.1.map fun w=>⟨w,p.2⟩
noncomputable def eboxT (t:T)(a:Int)(g:G):Option Int→T×Int×Int
 | none=>(t,a,0)
 | some w=>((t.wide w).add g,a,0)
theorem ebox_line {v:Bool}{w:Option Int}{g:G}{t:T}{a:Int}(ht:t.ok)(ha:0≤a) :
  stepP v (stepP v (t,a,0) (ebox v w)) (tabN w g)=eboxT t a g w:=by
 have e1:max (max a 0) 0=a:=(mx0 ha).trans (Int.max_eq_left ha)
 rcases v with _|_ <;> rcases w with _|⟨w⟩
 ·show ((t.wide 0).add G0,max (max a 0) 0,(0:Int))=(t,a,0)
  rw [T.wide_zero,T.add_G0 ht,e1]
 ·show ((t.wide w).add g,max (max a 0) 0,(0:Int))=((t.wide w).add g,a,0)
  rw [e1]
 ·show (((t.wide 0).wide 0).add G0,max (max a 0) 0,(0:Int))=(t,a,0)
  rw [T.wide_zero,T.wide_zero,T.add_G0 ht,e1]
 ·show (((t.wide (0+w)).wide 0).add g,max (max a 0) 0,(0:Int))=((t.wide w).add g,a,0)
  rw [Int.zero_add,T.wide_zero,e1]
theorem protoR_T {v:Bool}:∀(ws:List (Option Int))(gs:List G)(t:T)(a:Int),t.ok→0≤a→(protoR v ws gs).foldl (stepP v) (t,a,0)=(wgT t (eff ws gs),a,0)
 | [],z2,t,a,z3,z4=>rfl
 | w::ws,[],t,a,z2,z3=>rfl
 | w::ws,g::gs,t,a,ht,ha=>by
  show (protoR v ws gs).foldl (stepP v) (stepP v (stepP v (t,a,0) (ebox v w)) (tabN w g))=_
  rw [ebox_line ht ha]
  rcases w with _|⟨w⟩
  ·exact protoR_T ws gs t a ht ha
  ·exact protoR_T ws gs _ a (T.ok_add (T.ok_wide ht)) ha
theorem skip_first {v:Bool}{g:G}:stepP v (T0,0,0) (.skip g 109)=(T0.add g,0,0):=by
 cases v
 ·rfl
 ·rfl
theorem proto_T {v:Bool}{ws:List (Option Int)}{g:G}{gs:List G}:natP v (proto v ws (g::gs))=(wgT (T0.add g) (eff ws gs),0,0):=by
 show (protoR v ws gs).foldl (stepP v) (stepP v (T0,0,0) (.skip g 109))=_
 rw [skip_first]
 exact protoR_T ws gs _ 0 (T.ok_add T0_ok) (by decide)
structure OwnB (v:Bool)(o:BN)(w:Int):Prop where
 main:(if v then o.1.h else o.1.w)=w
 sh:o.1.shift=0
 d0:v=true→o.1.d=0
 hv:o.1.v=v
noncomputable def side (v:Bool)(o:BN):Int×Int:=if v then (o.1.w,0) else (o.1.h,o.1.d)
theorem own_step {v:Bool}{o:BN}{w:Int}{g:G}{t:T}{a b:Int}(h:OwnB v o w)(ha:0≤a)(hb:0≤b)(hv:v=true→b=0) :
  stepP v (stepP v (t,a,b) (BN.n o)) (.skip g 109)=((t.wide w).add g,max a (side v o).1,if v then 0 else max b (side v o).2):=by
 obtain ⟨h1,h2,h3,h4⟩:=h
 obtain ⟨⟨bv,bw,bh,bd,bs,_,_,_,_⟩,items⟩:=o
 rcases v with _|_
 ·show ((t.wide bw).add g,max (max a (bh-bs)) 0,max (max b (bd+bs)) 0)=((t.wide w).add g,max a bh,max b bd)
  rw [show bs=0 from h2,show bw=w from h1,Int.sub_zero,Int.add_zero,mx0 ha,mx0 hb]
 ·show (((t.wide (b+bh)).wide bd).add g,max (max a (bw+bs)) 0,(0:Int))=((t.wide w).add g,max a bw,0)
  rw [show bs=0 from h2,show bh=w from h1,show bd=0 from h3 rfl,hv rfl,Int.zero_add,Int.add_zero,T.wide_zero,mx0 ha]
inductive OwnAll (v:Bool):List BN→List Int→Prop
 | nil:OwnAll v [] []
 | cons {o:BN} {w:Int} {os:List BN} {ws:List Int} (h:OwnB v o w) (t:OwnAll v os ws):OwnAll v (o::os) (w::ws)
noncomputable def wgs (ws:List Int)(gs:List G):List WG:=List.zipWith WG.mk ws gs
theorem lineR_T {v:Bool}{os:List BN}{ws:List Int}(h:OwnAll v os ws):∀(gs:List G)(t:T)(a b:Int),gs.length=os.length→0≤a→0≤b→(v=true→b=0) →
  (lineR (os.map BN.n) gs).foldl (stepP v) (t,a,b)=(wgT t (wgs ws gs),(os.map fun o=>(side v o).1).foldl max a,if v then 0 else (os.map fun o=>(side v o).2).foldl max b):=by
 induction h with
 | nil =>
  intro gs t a b _ _ _ hv
  rcases v with _|_
  ·rfl
  ·obtain rfl:=hv rfl
   rfl
 | @cons o w os ws h _ ih =>
  intro gs t a b hl ha hb hv
  rcases gs with _|⟨g,gs⟩
  ·injection hl
  ·show (lineR (os.map BN.n) gs).foldl (stepP v) (stepP v (stepP v (t,a,b) (BN.n o)) (.skip g 109))=_
   rw [own_step h ha hb hv]
   refine (ih gs _ _ _ (Nat.succ.inj hl) (Int.le_trans ha (Int.le_max_left _ _)) ?_ fun e=>by subst e; rfl).trans (by cases v <;> rfl)
   rcases v with _|_
   ·exact Int.le_trans hb (Int.le_max_left _ _)
   ·exact Int.le_refl 0
theorem lineN_T {v:Bool}{os:List BN}{ws:List Int}{g:G}{gs:List G}(h:OwnAll v os ws)(hl:gs.length=os.length) :
  natP v (lineN (os.map BN.n) (g::gs))=(wgT (T0.add g) (wgs ws gs),(os.map fun o=>(side v o).1).foldl max 0,if v then 0 else (os.map fun o=>(side v o).2).foldl max 0):=by
 show (lineR (os.map BN.n) gs).foldl (stepP v) (stepP v (T0,0,0) (.skip g 109))=_
 rw [skip_first]
 exact lineR_T h gs _ 0 0 hl (by decide) (by decide) fun _=>rfl
theorem dr0 {α:Type}{l r:List α}{n:Nat}{x:α}(h:l.drop n=x::r):l[n]?=some x:=(List.head?_drop).symm.trans (congrArg List.head? h)
theorem dr1 {α:Type}{l r:List α}{n:Nat}{x:α}(h:l.drop n=x::r):l.drop (n+1)=r:=(List.tail_drop).symm.trans (congrArg List.tail h)
theorem gW {l r:List (Option Int)}{n:Nat}{x:Option Int}(h:l.drop n=x::r):getW l (n:Int)=x:=congrArg (fun o=>o.getD none) (dr0 h)
theorem gG {l r:List G}{n:Nat}{x:G}(h:l.drop n=x::r):getG l (n:Int)=x:=congrArg (fun o=>o.getD G0) (dr0 h)
theorem gI {l r:List Int}{n:Nat}{x:Int}(h:l.drop n=x::r):getI l (n:Int)=x:=by
 show l.getD n 0=x
 rw [List.getD_eq_getElem?_getD,dr0 h]; rfl
noncomputable def colS (b:B)(s:Int×Int):Option Int→G→Int×Int
 | none,z1=>s
 | some w,g=>(s.1+w+g.w,s.2+flx b g)
theorem flx_G0 {b:B}:flx b G0=0:=by
 show (if b.sign=1∧0=b.order then (0:Int) else if b.sign=2∧0=b.order then (0:Int) else 0)=0
 rw [ite_self,ite_self]
theorem partSize_ebox {b:B}{v:Bool}{w:Option Int}(h:b.v=v):partSize b (ebox v w)=w.getD 0:=by
 subst h
 obtain ⟨v,_,_,_,_,_,_,_,_⟩:=b
 rcases v with _|_
 ·rfl
 ·exact Int.add_zero _
theorem plc_col {b:B}{v:Bool}(h:b.v=v){w:Option Int}{g:G}{r:List N}{s:Int×Int} :
  plc b (ebox v w::tabN w g::r) s=(s.1+w.getD 0+setPart b s.2)::((colS b s w g).1+setPart b (colS b s w g).2)::plc b r (colS b s w g):=by
 have e1:plStep b s (ebox v w)=(s.1+w.getD 0,s.2):=congrArg (fun x=>(s.1+x,s.2)) (partSize_ebox h)
 have e2:plStep b (s.1+w.getD 0,s.2) (tabN w g)=colS b s w g:=by
  rcases w with _|⟨w⟩
  ·show (s.1+0+0,s.2+flx b G0)=s
   rw [flx_G0,Int.add_zero,Int.add_zero,Int.add_zero]
  ·rfl
 show ((plStep b s (ebox v w)).1+setPart b (plStep b s (ebox v w)).2)::((plStep b (plStep b s (ebox v w)) (tabN w g)).1+setPart b (plStep b (plStep b s (ebox v w)) (tabN w g)).2)::plc b r (plStep b (plStep b s (ebox v w)) (tabN w g))=_
 rw [e1,e2]
noncomputable def esR (b:B)(v:Bool)(s:Int×Int)(ws:List (Option Int))(gs:List G):List Int:=(s.1+setPart b s.2)::plc b (protoR v ws gs) s
theorem esR_cons {b:B}{v:Bool}(h:b.v=v){s:Int×Int}{w:Option Int}{ws:List (Option Int)}{g:G}{gs:List G} :
  esR b v s (w::ws) (g::gs)=(s.1+setPart b s.2)::(s.1+w.getD 0+setPart b s.2)::esR b v (colS b s w g) ws gs:=congrArg (fun l=>(s.1+setPart b s.2)::l) (plc_col h)
noncomputable def dueD:List Int→List Int→List (Option Int)
 | s::sp,w::ws=>(if s=1 then [some w] else [none,some w])++dueD sp ws
 | z1,z2=>[]
noncomputable def flowsR:List Int→List G→List G
 | [],z1=>[]
 | s::sp,gs=>if s=1 then getG gs 0::flowsR sp (gs.drop 1) else getG gs 1::flowsR sp (gs.drop 2)
structure RelC (v:Bool)(lb:B)(c:Cell)(w:Int)(o:BN):Prop where
 one:setC c (some w) w lb=dueB v lb o 1 0
 two:setC c none w lb=dueB v lb o 2 0
 own:OwnB v o w
inductive RelL (v:Bool)(lb:B):List Cell→List Int→List Int→List BN→Prop
 | nil:RelL v lb [] [] [] []
 | cons {c:Cell} {s w:Int} {o:BN} {cs:List Cell} {sp ws:List Int} {os:List BN} (e:c.1.spans=s) (d:s=1∨s=2) (r:RelC v lb c w o) (t:RelL v lb cs sp ws os):RelL v lb (c::cs) (s::sp) (w::ws) (o::os)
theorem upto_nil (a:Int):upto a a=[]:=by
 show (List.range (a-a).toNat).map _=[]
 rw [Int.sub_self]; rfl
theorem upto_sing {a:Int}:upto a (a+1)=[a]:=by
 show (List.range (a+1-a).toNat).map _=[a]
 rw [Int.add_comm,Int.add_sub_cancel]
 exact congrArg (fun x=>[x]) (Int.add_zero a)
theorem ebox_due {v:Bool}{lb:B}{o:BN}{w:Int}(h:OwnB v o w):ebox v (some w)=dueB v lb o 2 1:=by
 have e:=h.main
 subst e; rfl
theorem dif3 {a w p:Int}:a+w+p-(a+p)=w:=by rw [Int.add_right_comm,Int.add_comm,Int.add_sub_cancel]
theorem rowR_due {v:Bool}{lb mb:B}(hmb:mb.v=v){W:List (Option Int)}{Gs:List G}{E:List Int}{tl:List (Option Int)}{cs:List Cell}{sp ws:List Int}{os:List BN}(h:RelL v lb cs sp ws os):∀(gs:List G)(n:Nat)(st:Int×Int),
  gs.length=(dueD sp ws++tl).length→W.drop n=dueD sp ws++tl→Gs.drop (n+1)=gs→E.drop (2*n+1)=esR mb v st (dueD sp ws++tl) gs→rowR v W Gs E lb (pl (n:Int) cs)=dueR v lb os sp (flowsR sp gs):=by
 induction h with
 | nil=>exact fun _ _ _ _ _ _ _=>rfl
 | @cons c s w o cs sp ws os e d r _ ih =>
  intro gs n st hl hW hG hE
  rcases d with rfl|rfl
  ·rcases gs with _|⟨g,gs⟩
   ·exact absurd hl (Nat.succ_ne_zero _).symm
   ·have hW:W.drop n=some w::(dueD sp ws++tl):=hW
    have hE:=hE.trans (esR_cons hmb)
    have t:=ih gs (n+1) _ (Nat.succ.inj hl) (dr1 hW) (dr1 hG) (dr1 (dr1 hE))
    have a1:getI E (2*((n:Int)+1-1)+2)=st.1+w+setPart mb st.2:=by
     rw [Int.add_sub_cancel]; exact gI (dr1 hE)
    have a0:getI E (2*(n:Int)+1)=st.1+setPart mb st.2:=gI hE
    have d0:getG Gs ((n:Int)+1)=g:=gG hG
    show setC c (getW W (n:Int)) (getI E (2*((n:Int)+c.1.spans-1)+2)-getI E (2*(n:Int)+1)) lb::tabN (getW W (n:Int)) (getG Gs ((n:Int)+1))::(innR v W Gs (upto ((n:Int)+1) ((n:Int)+c.1.spans-1+1))++rowR v W Gs E lb (pl ((n:Int)+c.1.spans) cs))=_
    rw [e,Int.sub_add_cancel,gW hW,a1,a0,d0,upto_nil,dif3,r.one]
    exact congrArg (fun l=>dueB v lb o 1 0::.skip g 109::l) t
  ·rcases gs with _|⟨g0,_|⟨g,gs⟩⟩
   ·exact absurd hl (Nat.succ_ne_zero _).symm
   ·exact absurd (Nat.succ.inj hl) (Nat.succ_ne_zero _).symm
   ·have hW:W.drop n=none::some w::(dueD sp ws++tl):=hW
    have hE:=hE.trans ((esR_cons hmb).trans (congrArg (fun l=>(st.1+setPart mb st.2)::(st.1+0+setPart mb st.2)::l) (esR_cons hmb)))
    have t:=ih gs (n+1+1) _ (Nat.succ.inj (Nat.succ.inj hl)) (dr1 (dr1 hW)) (dr1 (dr1 hG)) (dr1 (dr1 (dr1 (dr1 hE))))
    have a1:getI E (2*((n:Int)+2-1)+2)=st.1+w+setPart mb st.2:=by
     rw [show (n:Int)+2-1=n+1 from Int.add_sub_assoc _ _ _]; exact gI (dr1 (dr1 (dr1 hE)))
    have a0:getI E (2*(n:Int)+1)=st.1+setPart mb st.2:=gI hE
    have b1:getW W ((n:Int)+1)=some w:=gW (dr1 hW)
    have d1:getG Gs ((n:Int)+1+1)=g:=gG (dr1 hG)
    show setC c (getW W (n:Int)) (getI E (2*((n:Int)+c.1.spans-1)+2)-getI E (2*(n:Int)+1)) lb::tabN (getW W (n:Int)) (getG Gs ((n:Int)+1))::(innR v W Gs (upto ((n:Int)+1) ((n:Int)+c.1.spans-1+1))++rowR v W Gs E lb (pl ((n:Int)+c.1.spans) cs))=_
    rw [e,Int.sub_add_cancel,gW hW,a1,a0,show upto ((n:Int)+1) ((n:Int)+2)=[(n:Int)+1] from upto_sing,dif3,r.two]
    show dueB v lb o 2 0::.skip G0 109::ebox v (getW W ((n:Int)+1))::tabN (getW W ((n:Int)+1)) (getG Gs ((n:Int)+1+1))::rowR v W Gs E lb (pl ((n:Int)+2) cs)=_
    rw [b1,d1,ebox_due (lb:=lb) r.own]
    exact congrArg (fun l=>dueB v lb o 2 0::.skip G0 109::dueB v lb o 2 1::.skip g 109::l) t
noncomputable def ownO (v:Bool)(c:Cell)(w:Int):BN:=(packB v c.2 0 w,c.2)
theorem vT0 {ns:List N}(h:0≤(natCol ns).2.2):vT ns 0=((natCol ns).1.wide (natCol ns).2.2,(natCol ns).2.1,0):=by
 rcases Decidable.em (0<(natCol ns).2.2) with q|q
 ·exact (if_pos q:vT ns 0=_).trans (by rw [Int.sub_zero])
 ·have e:(natCol ns).2.2=0:=Int.le_antisymm (Int.not_lt.mp q) h
  refine (if_neg q:vT ns 0=_).trans ?_
  rw [e,T.wide_zero]
  exact Prod.ext rfl (Prod.ext rfl e)
noncomputable def cside (v:Bool)(c:Cell):Int×Int:=if v then (c.1.w,0) else (c.1.h,c.1.d)
theorem rel_mk {v:Bool}{lb:B}{many w:Int}{ns:List N}(h:0≤(natCol ns).2.2):RelC v lb (mkCell v many ns) w (ownO v (mkCell v many ns) w)∧side v (ownO v (mkCell v many ns) w)=cside v (mkCell v many ns):=by
 rcases v with _|_
 ·exact ⟨⟨rfl,rfl,⟨rfl,rfl,(fun h=>nomatch h),rfl⟩⟩,rfl⟩
 ·have key:∀ x:T×Int×Int,x=((natCol ns).1.wide (natCol ns).2.2,(natCol ns).2.1,0)→RelC true lb (mkCell true many ns) w ((mkB true x.2.1 w x.2.2).put (setG x.1 (w-x.1.nat)),ns)∧side true ((mkB true x.2.1 w x.2.2).put (setG x.1 (w-x.1.nat)),ns)=cside true (mkCell true many ns):=fun x hx=>by
   subst hx
   exact ⟨⟨rfl,rfl,⟨rfl,rfl,fun _=>rfl,rfl⟩⟩,rfl⟩
  exact key _ (vT0 h)
theorem eff_none:∀(m:Nat)(gs:List G),eff (List.replicate m none) gs=[]
 | 0,z1=>rfl
 | m+1,[]=>rfl
 | m+1,g::gs=>eff_none m gs
noncomputable def okSp:List Int→Prop
 | []=>True
 | s::r=>(s=1∨s=2)∧okSp r
theorem eff_due {m:Nat}:∀(sp ws:List Int)(gs:List G),okSp sp→sp.length=ws.length→gs.length=(dueD sp ws++List.replicate m none).length→eff (dueD sp ws++List.replicate m none) gs=wgs ws (flowsR sp gs)
 | [],[],gs,z1,z2,z3=>eff_none m gs
 | s::sp,w::ws,gs,h,hl,hg=>by
  obtain ⟨hs,h⟩:=h
  rcases hs with rfl|rfl
  ·rcases gs with _|⟨g,gs⟩
   ·exact absurd hg (Nat.succ_ne_zero _).symm
   ·exact congrArg (fun l=>WG.mk w g::l) (eff_due sp ws gs h (Nat.succ.inj hl) (Nat.succ.inj hg))
  ·rcases gs with _|⟨g0,_|⟨g,gs⟩⟩
   ·exact absurd hg (Nat.succ_ne_zero _).symm
   ·exact absurd (Nat.succ.inj hg) (Nat.succ_ne_zero _).symm
   ·exact congrArg (fun l=>WG.mk w g::l) (eff_due sp ws gs h (Nat.succ.inj hl) (Nat.succ.inj (Nat.succ.inj hg)))
structure RelN (v:Bool)(sp ws:List Int)(cs:List Cell)(os:List BN):Prop where
 a:cs.length=os.length
 b:sp.length=os.length
 c:ws.length=os.length
 d:okSp sp
 e:OwnAll v os ws
theorem RelL.len {v:Bool}{lb:B}{cs:List Cell}{sp ws:List Int}{os:List BN}(h:RelL v lb cs sp ws os):RelN v sp ws cs os:=by
 induction h with
 | nil=>exact ⟨rfl,rfl,rfl,trivial,.nil⟩
 | cons e d r _ h=>exact ⟨congrArg (·+1) h.a,congrArg (·+1) h.b,congrArg (·+1) h.c,⟨d,h.d⟩,.cons r.own h.e⟩
noncomputable def Sides (v:Bool):List Cell→List BN→Prop
 | [],[]=>True
 | c::cs,o::os=>side v o=cside v c∧Sides v cs os
 | z1,z2=>False
theorem flowsR_len:∀(sp:List Int)(gs:List G),(flowsR sp gs).length=sp.length
 | [],z1=>rfl
 | s::sp,gs=>by
  rcases Decidable.em (s=1) with q|q
  ·exact (congrArg List.length (if_pos q:flowsR (s::sp) gs=_)).trans (congrArg (·+1) (flowsR_len sp _))
  ·exact (congrArg List.length (if_neg q:flowsR (s::sp) gs=_)).trans (congrArg (·+1) (flowsR_len sp _))
theorem sides_map {v:Bool}:∀{cs:List Cell}{os:List BN}(c:Int),Sides v cs os→(pl c cs).map (fun x=>(cside v x.2).1)=os.map (fun o=>(side v o).1)∧(pl c cs).map (fun x=>(cside v x.2).2)=os.map (fun o=>(side v o).2)
 | [],os,z1=>fun h=>by
  rcases os with _|_
  ·exact ⟨rfl,rfl⟩
  ·exact h.elim
 | x::cs,os,c=>fun h=>by
  rcases os with _|⟨o,os⟩
  ·exact h.elim
  obtain ⟨a,b⟩:=sides_map (c+x.1.spans) h.2
  exact ⟨congr (congrArg List.cons (congrArg Prod.fst h.1.symm)) a,congr (congrArg List.cons (congrArg Prod.snd h.1.symm)) b⟩
noncomputable def pkX (v:Bool)(x:T×Int×Int)(g:Int):B:=(if v then mkB true x.2.1 g x.2.2 else mkB false g x.2.1 x.2.2).put (setG x.1 (g-x.1.nat))
theorem packB_of (v:Bool)(ns:List N)(md g:Int):packB v ns md g=pkX v (packT v ns md) g:=by cases v <;> rfl
theorem row_main {v:Bool}{cs:List Cell}{sp ws:List Int}{os:List BN}{m:Nat}{g:G}{gs:List G}{goal:Int}
  (hr:∀ lb,RelL v lb cs sp ws os) (hs:Sides v cs os) (hg:gs.length=(dueD sp ws++List.replicate m none).length) (hv:v=true→(natCol (lineN (os.map BN.n) (g::flowsR sp gs))).2.2≤1073741823) :
  rowB v (pl 0 cs) (packB v (proto v (dueD sp ws++List.replicate m none) (g::gs)) (mdD v) goal)=packB v (lineN (os.map BN.n) (g::flowsR sp gs)) (mdD v) goal ∧
  fin1 v (dueD sp ws++List.replicate m none) g gs (plcs (packB v (proto v (dueD sp ws++List.replicate m none) (g::gs)) (mdD v) goal) (proto v (dueD sp ws++List.replicate m none) (g::gs))) (packB v (proto v (dueD sp ws++List.replicate m none) (g::gs)) (mdD v) goal) (.row cs) =
   .box (packB v (lineN (os.map BN.n) (g::flowsR sp gs)) (mdD v) goal) (.skip g 109::dueR v (packB v (lineN (os.map BN.n) (g::flowsR sp gs)) (mdD v) goal) os sp (flowsR sp gs)):=by
 have L:=(hr ⟨v,0,0,0,0,0,0,0,0⟩).len
 have eT1:=proto_T (v:=v) (ws:=dueD sp ws++List.replicate m none) (g:=g) (gs:=gs)
 rw [eff_due sp ws gs L.d (L.b.trans L.c.symm) hg] at eT1
 have eP1:=(packT_natP fun e=>by
  subst e; exact (congrArg (fun x=>x.2.2) eT1:_=(0:Int))▸(by decide)).trans eT1
 have eP2:=(packT_natP hv).trans (lineN_T L.e ((flowsR_len sp gs).trans L.b))
 obtain ⟨s1,s2⟩:=sides_map 0 hs
 have hB:rowB v (pl 0 cs) (packB v (proto v (dueD sp ws++List.replicate m none) (g::gs)) (mdD v) goal)=packB v (lineN (os.map BN.n) (g::flowsR sp gs)) (mdD v) goal:=by
  rw [packB_of,packB_of,eP1,eP2]
  rcases v with _|_
  ·show B.mk false goal (mx ((pl 0 cs).map fun x=>(cside false x.2).1)) (mx ((pl 0 cs).map fun x=>(cside false x.2).2)) 0 _ _ _ _=_
   rw [s1,s2]; rfl
  ·show B.mk true (mx ((pl 0 cs).map fun x=>(cside true x.2).1)) goal 0 0 _ _ _ _=_
   rw [s1]; rfl
 refine ⟨hB,?_⟩
 show N.box (rowB v _ _) (_::rowR v _ _ _ (rowB v _ _) _)=_
 rw [hB]
 exact congrArg (fun l=>N.box _ (.skip g 109::l)) (rowR_due (mb:=packB v (proto v (dueD sp ws++List.replicate m none) (g::gs)) (mdD v) goal) (by cases v <;> rfl) (hr _) gs 0 (plStep _ (0,0) (.skip g 109)) hg rfl rfl rfl)
structure PartO (lb:B)(v:Bool)(o:BN)(w:Int):Prop where
 a:partSize lb (BN.n o)=w
 b:partSize lb (dueB v lb o 1 0)=w
 c:partSize lb (dueB v lb o 2 0)=0
 d:partSize lb (dueB v lb o 2 1)=w
theorem part_own {lb:B}{v:Bool}{o:BN}{w:Int}(hv:lb.v=v)(h:OwnB v o w):PartO lb v o w:=by
 obtain ⟨h1,h2,h3,h4⟩:=h
 subst hv
 obtain ⟨v,_,_,_,_,_,_,_,_⟩:=lb
 rcases v with _|_
 ·exact ⟨h1,h1,rfl,h1⟩
 ·have h3:o.1.d=0:=h3 rfl
  have e:o.1.h+o.1.d=w:=(congrArg (o.1.h+·) h3).trans ((Int.add_zero _).trans h1)
  exact ⟨e,e,congrArg (0+·) h3,(Int.add_zero _).trans h1⟩
theorem dueB_box {v:Bool}{lb:B}{o:BN}{a c:Int}:∃ b ns,dueB v lb o a c=.box b ns:=(Decidable.em (c=0)).elim (fun q=>⟨_,_,if_pos q⟩) fun q=>⟨_,_,if_neg q⟩
theorem plc_box {b:B}{x:N}{g:G}{w:Int}{s:Int×Int}{r:List N}(hx:∃ b ns,x=.box b ns)(h:partSize b x=w):plc b (x::.skip g 109::r) s=(s.1+w+setPart b s.2)::(s.1+w+g.w+setPart b (s.2+flx b g))::plc b r (s.1+w+g.w,s.2+flx b g):=by
 obtain ⟨b',ns,rfl⟩:=hx
 subst h; rfl
theorem picked_R {v:Bool}{lb:B}(hv:lb.v=v){A:List Int}{os:List BN}{ws:List Int}(h:OwnAll v os ws):∀(sp:List Int)(fl:List G)(f:Nat)(s:Int×Int),okSp sp→sp.length=os.length→fl.length=os.length →
  A.drop (2*f+2)=plc lb (dueR v lb os sp fl) s→picked A (f:Int) sp=plc lb (lineR (os.map BN.n) fl) s:=by
 induction h with
 | nil =>
  intro sp fl f s _ l1 _ _
  rcases sp with _|_
  ·rfl
  ·injection l1
 | @cons o w os ws h _ ih =>
  intro sp fl f s h2 l1 l2 hA
  have p:=part_own hv h
  rcases sp with _|⟨sx,sp⟩
  ·injection l1
  rcases fl with _|⟨g,fl⟩
  ·injection l2
  refine .trans ?_ (plc_box ⟨o.1,o.2,rfl⟩ p.a).symm
  obtain ⟨h2a,h2b⟩:=h2
  rcases h2a with rfl|rfl
  ·have hA:=hA.trans (plc_box dueB_box p.b)
   show (A.drop (2*f+2)).take 2++picked A ((f+1:Nat):Int) sp=_
   rw [hA]
   exact congrArg (fun l=>_::_::l) (ih sp fl (f+1) _ h2b (Nat.succ.inj l1) (Nat.succ.inj l2) (dr1 (dr1 hA)))
  ·have st:(s.1+0+G0.w,s.2+flx lb G0)=s:=by
    show (s.1+0+0,s.2+flx lb G0)=s
    rw [flx_G0,Int.add_zero,Int.add_zero,Int.add_zero]
   have e:=(plc_box (g:=G0) (s:=s) (r:=dueB v lb o 2 1::.skip g 109::dueR v lb os sp fl) dueB_box p.c).trans (congrArg (fun t=>_::_::plc lb _ t) st)
   have hA:=dr1 (dr1 (hA.trans e))
   have hA:=hA.trans (plc_box dueB_box p.d)
   show (A.drop (2*f+2+1+1)).take 2++picked A ((f+2:Nat):Int) sp=_
   rw [hA]
   exact congrArg (fun l=>_::_::l) (ih sp fl (f+2) _ h2b (Nat.succ.inj l1) (Nat.succ.inj l2) (dr1 (dr1 hA)))
theorem picked_main {v:Bool}{lb:B}{os:List BN}{ws sp:List Int}{g:G}{fl:List G}(hv:lb.v=v)(h1:OwnAll v os ws)(h2:okSp sp)(l1:sp.length=os.length)(l2:fl.length=os.length) :
  (plcs lb (.skip g 109::dueR v lb os sp fl)).take 2++picked (plcs lb (.skip g 109::dueR v lb os sp fl)) 0 sp=plcs lb (lineN (os.map BN.n) (g::fl)) :=
 congrArg (fun l=>0::((0:Int)+g.w+setPart lb (0+flx lb g))::l) (picked_R hv (A:=plcs lb (.skip g 109::dueR v lb os sp fl)) h1 sp fl 0 (0+g.w,0+flx lb g) h2 l1 l2 rfl)
noncomputable def All2 {α β:Type}(P:α→β→Prop):List α→List β→Prop
 | [],[]=>True
 | a::as,b::bs=>P a b∧All2 P as bs
 | z1,z2=>False
theorem All2.len {α β:Type}{P:α→β→Prop}:∀{as:List α}{bs:List β},All2 P as bs→as.length=bs.length
 | [],[],z1=>rfl
 | z1::z2,z3::z4,h=>congrArg (·+1) h.2.len
 | [],z1::z2,h=>h.elim
 | z1::z2,[],h=>h.elim
theorem All2.right {α β:Type}{P:α→β→Prop}{Q:β→Prop}(k:∀ a b,P a b→Q b):∀{as:List α}{bs:List β},All2 P as bs→∀ b∈bs,Q b
 | [],[],z1,z2,hb=>by cases hb
 | a::as,b::bs,h,c,hc=>by
  rcases List.mem_cons.mp hc with rfl|hc
  ·exact k _ _ h.1
  ·exact h.2.right k c hc
 | [],z1::z2,h,z3,z4=>h.elim
 | z1::z2,[],h,z3,z4=>h.elim
noncomputable def runW {σ β α:Type}(V:σ→β→α)(S:σ→β→σ):σ→List β→List α
 | z1,[]=>[]
 | s,b::r=>V s b::runW V S (S s b) r
theorem runW_all {σ β α:Type}{V:σ→β→α}{S:σ→β→σ}{P:β→α→Prop}(h:∀ s b,P b (V s b)):∀(bs:List β)(s:σ),All2 P bs (runW V S s bs)
 | [],z1=>trivial
 | b::r,s=>⟨h s b,runW_all h r (S s b)⟩
theorem outs_run {σ β α:Type}(V:σ→β→α)(S:σ→β→σ)(e:α→PV):∀(bs:List β)(s:σ),outs S (fun s b=>some (e (V s b))) s bs=(runW V S s bs).map e
 | [],z1=>rfl
 | b::r,s=>congrArg (e (V s b)::·) (outs_run V S e r (S s b))
theorem compR {σ β α:Type}(R:σ→β→α→σ→Prop)(hR:∀ s b,∃ a s',R s b a s')(enc:σ→List OB)(e:α→PV)(bs:List β)(s0:σ) :
  ∃ (as:List α) (s':σ),All2 (fun b a=>∃ s s',R s b a s') bs as∧∀{fv ts:List Nat}{wc:En→List OB→(Bool→List OB→Prop)→Prop}{we:En→WQ}{ρ:En}{K:KQ}{H:List OB}{I:Itr}(g:β→IC),I.items=bs.map g→bs.length≤1000→enc s0=H→(∀ s,okH H.length (enc s)=true) →
   (∀ s b a s' A,b∈bs→R s b a s'→bindO ts (g b) (frees fv ρ) fun ρ=>wc ρ (enc s) (kPick (we ρ) A (A++[e a]) (enc s')))→newL (enc s') (as.map e) K→kComp fv ts wc we ρ K H I:=by
 refine cp fun kk=>?_
 obtain ⟨V,S,hVS⟩:=pick hR
 refine kk ?_
 refine ⟨runW V S s0 bs,bs.foldl S s0,runW_all (fun s b=>⟨s,S s b,hVS s b⟩) bs s0,fun g hI hl h0 ok hs fin=>?_⟩
 refine compL enc S (fun s b=>some (e (V s b))) s0 bs g hI hl h0 ok (fun s b A hb=>hs s b (V s b) (S s b) A hb (hVS s b)) ?_
 rw [outs_run]
 exact fin
noncomputable def CellG (v:Bool)(m:Int)(c:Cell):Prop:=∃ ns,LsOk ns∧c=mkCell v m ns
noncomputable def spOk (sp:List Int):Prop:=∀ m∈sp,m=1∨m=2
section
variable {v:Bool} {sp:List Int}
theorem row103 (hs:spOk sp)(hn:sp.length≤10)(s:Int×Int):∃ (cs:List Cell) (s':Int×Int),All2 (CellG v) sp cs∧∀(k:Nat)(X:Prop)(i:PV)(A:List PV),
  sX x103_3 (Px.calm ⟨GG nS (k+7),X⟩) (st [(3,.own 0),(90,.fr (.bool v)),(78,.fr (.lst (sp.map .int)))] 86 (.fr i)) [bx s] (kEl A (A++[.lst (cs.map fun c=>c.n.p)]) [bx s']):=by
 refine cp fun kk=>?_
 obtain ⟨cs,s',h1,h2⟩:=compR (σ:=Int×Int) (β:=Int) (α:=Cell) (fun s m c s'=>(m=1∨m=2)→CellG v m c∧∀ k,Cl (k+6) 93 [bx s] [.own 0,.fr (.int m),.fr (.bool v)] (.ok (.fr c.n.p) [bx s'])) (fun s m=>by
  by_cases hm:m=1∨m=2
  ·refine cp fun kk=>?_
   obtain ⟨ns,s',h,c⟩:=c93 s m v (bd_12 hm)
   refine kk ?_
   exact ⟨mkCell v m ns,s',fun zz=>⟨⟨ns,h,rfl⟩,c⟩⟩
  ·exact ⟨mkCell v m [],s,fun h=>absurd h hm⟩) (fun s=>[bx s]) (fun c=>c.n.p) sp s
 refine kk ?_
 refine ⟨cs,s',?_,fun k X i A=>?_⟩
 ·have:∀{sp:List Int}{cs:List Cell},spOk sp→All2 (fun b a=>∃ s s',(b=1∨b=2)→CellG v b a∧∀ k,Cl (k+6) 93 [bx s] [.own 0,.fr (.int b),.fr (.bool v)] (.ok (.fr a.n.p) [bx s'])) sp cs→All2 (CellG v) sp cs:=by
   intro sp
   induction sp with
   | nil=>intro cs _ h; cases cs with
    | nil=>trivial
    | cons z1 z2=>exact h.elim
   | cons m sp ih=>intro cs hs h; cases cs with
    | nil=>exact h.elim
    | cons c cs =>
     refine cp fun kk=>?_
     obtain ⟨⟨_,_,h1⟩,h2⟩:=h
     refine kk ?_
     exact ⟨(h1 (hs m (.head _))).1,ih (fun m hm=>hs m (.tail _ hm)) h2⟩
  exact this hs h1
 ·refine h2 (fun m=>.one (.int m)) (items_seq .int sp) (by lia) rfl (fun zz=>rfl) (fun s m c s' A hm hR=>?_) ?_
  ·refine useB ((hR (hs m hm)).2 k) rfl rfl ?_
   exact ⟨rfl,rfl,trivial⟩
  ·exact ⟨rfl,rfl,trivial⟩
end
theorem gcI {c m n:Nat}{w:WT}{K:KT}{ρ:En}{H:List OB}(hc:c / 2=m)(h:okJ m ρ (H.take n)=true)(k:w ρ (H.take n) K):kGc c n w K ρ H:=⟨hc▸h,k⟩
noncomputable abbrev rowsP (rows:List (List Cell)):PV:=.lst (rows.map fun cs=>.lst (cs.map fun c=>c.n.p))
noncomputable abbrev othP (ots:List (List N)):PV:=.lst (ots.map fun os=>.lst (Ns.p os))
noncomputable abbrev glP (gl:List G):PV:=.lst (gl.map G.p)
noncomputable abbrev rA (v:Bool)(sp:List Int)(mo tu:Int)(rows:List (List Cell))(ots:List (List N))(gl:List G):En :=
 [(3,.own 0),(90,.fr (.bool v)),(78,.fr (.lst (sp.map .int))),(49,.fr (.int mo)),(87,.fr (.int tu)),(67,.fr (rowsP rows)),(57,.fr (othP ots)),(76,.fr (glP gl))]
structure Made (v:Bool)(sp:List Int)(mo tu:Int)(rows:List (List Cell))(ots:List (List N))(gl:List G):Prop where
 r:∀ cs∈rows,All2 (CellG v) sp cs
 rl:rows.length=tu.toNat
 o:∀ os∈ots,OtOk os
 ol:ots.length=tu.toNat
 g:∀ g∈gl,aG g
 gl:gl.length=(sp.sum+1+mo).toNat
theorem stA {v:Bool}{sp:List Int}{mo tu:Int}(s0 s:Int×Int)(hs:spOk sp)(hn:sp.length≤10)(hmo:0≤mo∧mo≤1)(htu:1≤tu∧tu≤3):∃ (rows:List (List Cell)) (ots:List (List N)) (gl:List G) (s':Int×Int),Made v sp mo tu rows ots gl∧∀(k:Nat)(X:Prop)(K:KT),
  sT (cOf 103 [bx s0]) b103_51 ⟨GG nS (k+7),X⟩ (rA v sp mo tu rows ots gl) [bx s'] K→sT (cOf 103 [bx s0]) b103_57 ⟨GG nS (k+7),X⟩ [(3,.own 0),(90,.fr (.bool v)),(78,.fr (.lst (sp.map .int))),(49,.fr (.int mo)),(87,.fr (.int tu))] [bx s] K:=by
 have sm:0≤sp.sum∧sp.sum≤20:=by
  have:∀ l:List Int,spOk l→0≤l.sum∧l.sum≤2*l.length:=by
   intro l
   induction l with
   | nil=>intro _; exact ⟨Int.le_refl 0,Int.le_refl 0⟩
   | cons a r ih =>
    intro h
    have h1:=h a (.head _)
    have h2:=ih fun m hm=>h m (.tail _ hm)
    exact bd_mono (bd_add (bd_12 h1) h2) (by decide) (Int.le_of_eq (Int.add_comm _ _))
  exact bd_mono (this sp hs) (Int.le_refl 0) (Int.le_trans (bd_mul 2 (by decide) (bd_len hn)).2 (by decide))
 refine cp fun kk=>?_
 obtain ⟨rows,s1,r1,r2⟩:=compR (β:=Nat) (fun s zz cs s'=>All2 (CellG v) sp cs∧∀(k:Nat)(X:Prop)(i:PV)(A:List PV),sX x103_3 (Px.calm ⟨GG nS (k+7),X⟩) (st [(3,.own 0),(90,.fr (.bool v)),(78,.fr (.lst (sp.map .int)))] 86 (.fr i)) [bx s] (kEl A (A++[.lst (cs.map fun c=>c.n.p)]) [bx s'])) (fun s zz=>row103 hs hn s) (fun s=>[bx s]) (fun cs=>.lst (cs.map fun c=>c.n.p)) (List.range tu.toNat) s
 obtain ⟨ots,s2,o1,o2⟩:=compR (β:=Nat) (fun s zz os s'=>OtOk os∧∀ k,Cl (k+5) 94 [bx s] [.own 0] (.ok (.fr (.lst (Ns.p os))) [bx s'])) (fun s zz=>c94 s) (fun s=>[bx s]) (fun os=>.lst (Ns.p os)) (List.range tu.toNat) s1
 obtain ⟨gl,s3,g1,g2⟩:=compR (β:=Nat) (fun s zz g s'=>aG g∧∀ k,Cl (k+4) 91 [bx s] [.own 0] (.ok (.fr g.p) [bx s'])) (fun s zz=>c91 s) (fun s=>[bx s]) G.p (List.range (sp.sum+1+mo).toNat) s2
 refine kk ?_
 refine ⟨rows,ots,gl,s3,⟨r1.right fun _ _ ⟨_,_,h⟩=>h.1,by rw [← r1.len,List.length_range],o1.right fun _ _ ⟨_,_,h⟩=>h.1,by rw [← o1.len,List.length_range],g1.right fun _ _ ⟨_,_,h⟩=>h.1,by rw [← g1.len,List.length_range]⟩,fun k X K h=>?_⟩
 refine ⟨by decide,bd_na htu (by decide) (by decide),?_⟩
 refine r2 _ (items_rng tu) (by rw [List.length_range]; exact bd_tn htu (by decide)) rfl (fun zz=>rfl) (fun s b cs s' A zz hR=>hR.2 k X _ A) ?_
 refine gcI (cOf_half _ _) rfl ?_
 refine ⟨by decide,bd_na htu (by decide) (by decide),?_⟩
 refine o2 _ (items_rng tu) (by rw [List.length_range]; exact bd_tn htu (by decide)) rfl (fun zz=>rfl) (fun s b os s' A zz hR=>?_) ?_
 ·refine useB (hR.2 (k+1)) rfl rfl ?_
  exact ⟨rfl,rfl,trivial⟩
 refine gcI (cOf_half _ _) rfl ?_
 refine ⟨sp,rfl,?_⟩
 refine ⟨by decide,bd_na (bd_add (bd_add sm (bd_c 1)) hmo) (by decide) (by decide),?_⟩
 refine g2 _ (items_rng _) (by rw [List.length_range]; exact bd_tn (bd_add (bd_add sm (bd_c 1)) hmo) (by decide)) rfl (fun zz=>rfl) (fun s b os s' A zz hR=>?_) ?_
 ·refine useB (hR.2 (k+2)) rfl rfl ?_
  exact ⟨rfl,rfl,trivial⟩
 refine gcI (cOf_half _ _) rfl ?_
 exact h
noncomputable def flF (l:List G):Int→List Int→List G
 | _,[]=>[]
 | a,m::r=>getG l (a+m)::flF l (a+m) r
theorem flF_zip (l:List G):∀(r pre:List Int),(r.zipIdx pre.length).map (fun p=>getG l (((pre++r).take (p.2+1)).sum))=flF l pre.sum r
 | [],_=>rfl
 | m::r,pre=>by
  have ih:=flF_zip l r (pre++[m])
  rw [List.length_append,List.append_assoc] at ih
  rw [List.zipIdx_cons,List.map_cons]
  show getG l (((pre++m::r).take (pre.length+1)).sum)::(r.zipIdx (pre.length+1)).map _=getG l (pre.sum+m)::flF l (pre.sum+m) r
  have e1:(pre++m::r).take (pre.length+1)=pre++[m]:=by
   rw [List.take_append,List.take_of_length_le (by lia),show pre.length+1-pre.length=1 from Nat.add_sub_cancel_left _ _]; rfl
  have e2:(pre++[m]).sum=pre.sum+m:=by rw [List.sum_append,List.sum_cons,List.sum_nil,Int.add_zero]
  rw [e1,e2]
  rw [e2] at ih
  exact congrArg (getG l (pre.sum+m)::·) ih
theorem flF_flows:∀(sp:List Int)(l:List G)(a:Nat),spOk sp→flF l (a:Int) sp=flowsR sp (l.drop (a+1))
 | [],_,_,_=>rfl
 | m::r,l,a,h=>by
  have g:∀ i:Nat,getG (l.drop (a+1)) (i:Int)=getG l ((a+1+i:Nat):Int):=fun i=>by
   unfold getG
   show ((l.drop (a+1))[i]?).getD G0=(l[a+1+i]?).getD G0
   rw [List.getElem?_drop]
  have ih:=fun b=>flF_flows r l b fun m hm=>h m (.tail _ hm)
  rcases h m (.head _) with rfl|rfl
  ·show getG l ((a:Int)+1)::flF l ((a:Int)+1) r=_
   rw [flowsR,if_pos rfl,List.drop_drop,show (0:Int)=((0:Nat):Int) from rfl,g 0]
   exact congrArg (getG l ((a:Int)+1)::·) (ih (a+1))
  ·show getG l ((a:Int)+2)::flF l ((a:Int)+2) r=_
   rw [flowsR,if_neg (by decide),List.drop_drop,show (1:Int)=((1:Nat):Int) from rfl,g 1]
   exact congrArg (getG l ((a:Int)+2)::·) (ih (a+2))
theorem flows_eq {sp:List Int}{g:G}{gs:List G}(h:spOk sp):(sp.zipIdx).map (fun p=>getG (g::gs) ((sp.take (p.2+1)).sum))=flowsR sp gs:=by
 have:=flF_zip (g::gs) sp []
 rw [show ([]:List Int).sum=((0:Nat):Int) from rfl,flF_flows sp (g::gs) 0 h] at this
 exact this
theorem sum_take:∀(sp:List Int)(k:Nat),spOk sp→0≤(sp.take k).sum∧(sp.take k).sum≤sp.sum
 | [],k,_=>by rw [List.take_nil]; exact ⟨Int.le_refl 0,Int.le_refl 0⟩
 | m::r,0,h=>by
  have:=sum_take r r.length fun m hm=>h m (.tail _ hm)
  have hm:=h m (.head _)
  rw [List.take_length] at this
  exact ⟨Int.le_refl 0,Int.add_nonneg (Int.le_trans (by decide) (bd_12 hm).1) this.1⟩
 | m::r,k+1,h=>by
  have:=sum_take r k fun m hm=>h m (.tail _ hm)
  have hm:=h m (.head _)
  exact ⟨Int.add_nonneg (Int.le_trans (by decide) (bd_12 hm).1) this.1,Int.add_le_add_left this.2 m⟩
theorem stB1 {v:Bool}{sp:List Int}{mo tu:Int}{rows:List (List Cell)}{ots:List (List N)}{g:G}{gs:List G}(s0 s:Int×Int)(hs:spOk sp)(hn:sp.length≤10)(hmo:0≤mo∧mo≤1)(M:Made v sp mo tu rows ots (g::gs)){k:Nat}{X:Prop}{K:KT}
  (h:sT (cOf 103 [bx s0]) b103_49 ⟨GG nS k,X⟩ (rA v sp mo tu rows ots (g::gs)++[(26,.fr (glP (g::flowsR sp gs)))]) [bx s] K):sT (cOf 103 [bx s0]) b103_51 ⟨GG nS k,X⟩ (rA v sp mo tu rows ots (g::gs)) [bx s] K:=by
 have hsum:=(sum_take sp sp.length hs)
 rw [List.take_length] at hsum
 have hgl:=M.gl
 refine ⟨le4 rfl,?_⟩
 refine ⟨by decide,by rw [List.length_map]; exact Nat.lt_of_le_of_lt hn (by decide),?_⟩
 refine compM (fun p:Int×Nat=>(getG (g::gs) ((sp.take (p.2+1)).sum)).p) sp.zipIdx _ (items_zip sp (by rw [List.length_map])) (by rw [List.length_zipIdx]; exact Nat.le_trans hn (by decide)) rfl (fun p A hp=>?_) ?_
 ·have hs2:=sum_take sp (p.2+1) hs
  have ec:cutP (sp.map PV.int) none (some ((p.2:Int)+1))=(sp.take (p.2+1)).map PV.int:=(List.map_take ..).symm
  have eg:(g::gs)[((sp.take (p.2+1)).sum).toNat]?=some (getG (g::gs) ((sp.take (p.2+1)).sum)):=getG_nat hs2.1 (by rw [hgl]; exact Int.lt_of_lt_of_le (Int.lt_add_one_of_le hs2.2) (Int.le_trans (Int.le_add_of_nonneg_right hmo.1) (Int.self_le_toNat _)))
  have hp2:p.2<sp.length:=by
   obtain ⟨i,hi⟩:=List.mem_iff_getElem?.mp hp
   have:=zip_get hi
   rw [this.1]; exact get_lt this.2
  refine ⟨trivial,⟨Int.natCast_nonneg (p.2+1),Int.lt_of_le_of_lt (bd_len (Nat.le_trans hp2 hn)).2 (by decide)⟩,?_⟩
  refine (Eq.symm ec)▸?_
  refine ⟨_,rfl,?_⟩
  (conv=>whnf)
  have ea:=atP_map (f:=G.p) hs2.1 eg
  have ea:atP (g.p::gs.map G.p) (.int ((sp.take (p.2+1)).sum))=some (getG (g::gs) ((sp.take (p.2+1)).sum)).p:=ea
  refine (Eq.symm ea)▸?_
  exact ⟨rfl,rfl,rfl,trivial⟩
 ·have ef:sp.zipIdx.map (fun p:Int×Nat=>(getG (g::gs) ((sp.take (p.2+1)).sum)).p)=(flowsR sp gs).map G.p:=by
   rw [← flows_eq (g:=g) hs,List.map_map]; rfl
  refine (Eq.symm ef)▸?_
  refine ⟨(by unfold small; rw [List.length_append,List.length_map,flowsR_len]; exact Nat.le_trans (Nat.add_le_add_left hn 1) (by decide)),?_⟩
  refine gcI (cOf_half _ _) rfl ?_
  exact h
noncomputable def alAt (cs:List Cell)(k:Nat):Int:=match cs[k]? with
 | some c=>c.al
 | none=>0
noncomputable def maxL:List Int→Int
 | []=>0
 | a::r=>r.foldl max a
noncomputable def wk (rows:List (List Cell))(k:Nat):Int:=maxL (rows.map fun cs=>alAt cs k)
noncomputable def wdL (rows:List (List Cell))(n:Nat):List Int:=(List.range n).map (wk rows)
theorem wdL_get {rows:List (List Cell)}{n k:Nat}(h:k<n):(wdL rows n)[k]?=some (wk rows k):=by unfold wdL; rw [List.getElem?_map,List.getElem?_range h]; rfl
theorem CellG.vert {v:Bool}{m:Int}{c:Cell}(h:CellG v m c):c.1.vert=v∧c.1.spans=m:=by
 obtain ⟨ns,_,rfl⟩:=h
 cases v <;> exact ⟨rfl,rfl⟩
theorem All2.get {α β:Type}{P:α→β→Prop}:∀{as:List α}{bs:List β}{k:Nat}{b:β},All2 P as bs→bs[k]?=some b→∃ a,as[k]?=some a∧P a b
 | [],[],z1,z2,z3,e=>by injection e
 | a::as,b::bs,0,z1,h,e=>by obtain rfl:=Option.some.inj e; exact ⟨a,rfl,h.1⟩
 | a::as,b::bs,k+1,z1,h,e=>All2.get (k:=k) h.2 e
 | [],z1::z2,z3,z4,h,z5=>h.elim
 | z1::z2,[],z3,z4,h,z5=>h.elim
noncomputable abbrev rB (v:Bool)(sp:List Int)(mo tu:Int)(rows:List (List Cell))(ots:List (List N))(g:G)(gs:List G):En:=rA v sp mo tu rows ots (g::gs)++[(26,.fr (glP (g::flowsR sp gs)))]
noncomputable abbrev iL (l:List Int):PV:=.lst (l.map .int)
section
variable {v:Bool} {sp:List Int} {mo tu:Int} {rows:List (List Cell)} {ots:List (List N)} {g:G} {gs:List G}
theorem stB2 (s0 s:Int×Int)(hn:sp.length≤10)(htu:1≤tu∧tu≤3)(M:Made v sp mo tu rows ots (g::gs)){k:Nat}{X:Prop}{K:KT}
  (h:sT (cOf 103 [bx s0]) b103_47 ⟨GG nS k,X⟩ (rB v sp mo tu rows ots g gs++[(96,.fr (iL (wdL rows sp.length)))]) [bx s] K):sT (cOf 103 [bx s0]) b103_49 ⟨GG nS k,X⟩ (rB v sp mo tu rows ots g gs) [bx s] K:=by
 have hrl:=M.rl
 refine ⟨by decide,by rw [List.length_map]; exact Nat.lt_of_le_of_lt hn (by decide),?_⟩
 refine compM (fun p:Int×Nat=>.int (wk rows p.2)) sp.zipIdx _ (items_zip sp (by rw [List.length_map])) (by rw [List.length_zipIdx]; exact Nat.le_trans hn (by decide)) rfl (fun p A hp=>?_) ?_
 ·have hp2:p.2<sp.length:=by
   obtain ⟨i,hi⟩:=List.mem_iff_getElem?.mp hp
   have:=zip_get hi
   rw [this.1]; exact get_lt this.2
  refine compM (fun cs:List Cell=>.int (alAt cs p.2)) rows _ (items_seq (fun cs:List Cell=>PV.lst (cs.map fun c=>c.n.p)) rows) (by rw [hrl]; exact bd_tn htu (by decide)) rfl (fun cs A hcs=>?_) ?_
  ·have hcl:=(M.r cs hcs).len
   have hpc:p.2<cs.length:=hcl▸hp2
   have hk:cs[p.2]?=some (cs[p.2]'hpc):=List.getElem?_eq_getElem hpc
   generalize cs[p.2]'hpc=c at hk
   obtain ⟨m,_,hG⟩:=(M.r cs hcs).get hk
   have hv:=hG.vert.1
   have ea:atP (cs.map fun c=>c.n.p) (.int (p.2:Nat))=some c.n.p:=atP_map (Int.natCast_nonneg _) hk
   have el:alAt cs p.2=if v then c.1.h else c.1.w:=by unfold alAt; rw [hk]; show (if c.1.vert then _ else _)=_; rw [hv]
   rcases v with _|_
   ·rw [el]
    (conv=>whnf)
    rw [ea]
    exact ⟨rfl,rfl,trivial⟩
   ·rw [el]
    (conv=>whnf)
    rw [ea]
    exact ⟨rfl,rfl,trivial⟩
  ·obtain ⟨r0,rs,er⟩:∃ a r,rows=a::r:=by
    rcases rows with _|⟨a,r⟩
    ·exact absurd (Int.toNat_eq_zero.mp hrl.symm) (Int.not_le.mpr (Int.lt_of_lt_of_le (by decide) htu.1))
    ·exact ⟨a,r,rfl⟩
   have em:rows.map (fun cs=>PV.int (alAt cs p.2))=(alAt r0 p.2::rs.map fun cs=>alAt cs p.2).map .int:=by
    rw [er,List.map_cons,List.map_cons,List.map_map]; rfl
   refine ⟨alAt r0 p.2,rs.map fun cs=>alAt cs p.2,em,?_⟩
   have ew:(rs.map fun cs=>alAt cs p.2).foldl max (alAt r0 p.2)=wk rows p.2:=by rw [er]; rfl
   rw [ew]
   exact ⟨rfl,rfl,trivial⟩
 ·have ef:sp.zipIdx.map (fun p:Int×Nat=>PV.int (wk rows p.2))=(wdL rows sp.length).map .int:=by
   have e1:sp.zipIdx.map (fun p:Int×Nat=>PV.int (wk rows p.2))=(sp.zipIdx.map Prod.snd).map fun k=>PV.int (wk rows k):=by rw [List.map_map]; rfl
   rw [e1,List.zipIdx_map_snd,← List.range_eq_range']
   unfold wdL
   rw [List.map_map]; rfl
  rw [ef]
  refine gcI (cOf_half _ _) rfl ?_
  exact h
noncomputable abbrev rC (v:Bool)(sp:List Int)(mo tu:Int)(rows:List (List Cell))(ots:List (List N))(g:G)(gs:List G):En:=rB v sp mo tu rows ots g gs++[(96,.fr (iL (wdL rows sp.length)))]
noncomputable abbrev oiL (D:List (Option Int)):PV:=.lst (D.map oi)
noncomputable def duD1 (m:Int)(w:Int):List (Option Int):=if m=1 then [some w] else [none,some w]
theorem dueD_fold (rows:List (List Cell)):∀(r pre:List Int)(s:List (Option Int)),(r.zipIdx pre.length).foldl (fun s p=>s++duD1 p.1 (wk rows p.2)) s=s++dueD r ((List.range' pre.length r.length).map (wk rows))
 | [],z1,s=>(List.append_nil _).symm
 | m::r,pre,s=>by
  have ih:=dueD_fold rows r (pre++[m]) (s++duD1 m (wk rows pre.length))
  rw [List.length_append] at ih
  rw [List.zipIdx_cons,List.foldl_cons]
  refine ih.trans ?_
  rw [List.append_assoc]; rfl
theorem stB3 (s0 s:Int×Int)(hs:spOk sp)(hn:sp.length≤10)(hmo:0≤mo∧mo≤1){k:Nat}{X:Prop}{K:KT}
  (h:sT (cOf 103 [bx s0]) b103_43 ⟨GG nS k,X⟩ (rC v sp mo tu rows ots g gs++[(17,.fr (oiL (dueD sp (wdL rows sp.length)++List.replicate mo.toNat none)))]) [bx s] K):sT (cOf 103 [bx s0]) b103_47 ⟨GG nS k,X⟩ (rC v sp mo tu rows ots g gs) [bx s] K:=by
 refine ⟨le4 rfl,?_⟩
 refine loopK (fun s1:List (Option Int)=>(rC v sp mo tu rows ots g gs++[(17,.own 1)],[bx s,.lst (s1.map oi)])) (fun j s1=>s1.length≤2*j) (fun s p=>s++duD1 p.1 (wk rows p.2)) [] sp.zipIdx _ (items_enu .int sp) (cOf_half _ _) (Nat.le_refl 0) ⟨rfl,rfl,trivial⟩ (agr_of2 rfl) (fun zz=>rfl) (fun j s1 p hp hk=>?_) fun hk=>?_
 ·obtain ⟨m,i⟩:=p
  obtain ⟨e1,e2⟩:=zip_get hp
  have e1:i=j:=e1
  subst e1
  have e2:sp[i]?=some m:=e2
  have hj:=get_lt e2
  have hm:=hs m (List.mem_of_getElem? e2)
  have ew:atP ((wdL rows sp.length).map PV.int) (.int (i:Nat))=some (.int (wk rows i)):=atP_map (Int.natCast_nonneg _) (wdL_get hj)
  have er:(List.replicate (m-1).toNat [PV.none]).flatten++[PV.int (wk rows i)]=(duD1 m (wk rows i)).map oi:=by
   rcases hm with rfl|rfl <;> rfl
  have el:(duD1 m (wk rows i)).length≤2:=by
   unfold duD1
   split
   ·exact Nat.le_succ 1
   ·exact Nat.le_refl 2
  refine ⟨le4 rfl,?_⟩
  refine ⟨by show (m-1).natAbs≤1000; rcases hm with rfl|rfl <;> decide,by show 1*(m-1).toNat≤256; rcases hm with rfl|rfl <;> decide,?_⟩
  (conv=>whnf)
  rw [ew]
  refine ⟨le4 rfl,?_⟩
  refine ⟨(by unfold small; rw [er,List.length_map]; lia),?_⟩
  rw [er]
  refine ⟨(by unfold small; rw [List.length_append,List.length_map,List.length_map]; exact lin0_le2 hk (lt_le hj hn) el (by decide)),?_⟩
  exact ⟨by show (s1++_).length≤_; rw [List.length_append]; exact (Nat.add_le_add hk el :),⟨rfl,congrArg OB.lst List.map_append.symm,trivial⟩,agr_of2 rfl⟩
 ·have ef:=dueD_fold rows sp [] []
  have ef:sp.zipIdx.foldl (fun s p=>s++duD1 p.1 (wk rows p.2)) []=dueD sp (wdL rows sp.length):=by
   rw [show wdL rows sp.length=(List.range' ([]:List Int).length sp.length).map (wk rows) by unfold wdL; rw [List.range_eq_range']; rfl]
   exact ef
  rw [ef] at hk ⊢
  rw [List.length_zipIdx] at hk
  refine ⟨le4 rfl,?_⟩
  refine ⟨Nat.le_of_lt (bd_na hmo (by decide) (by decide)),by show 1*mo.toNat≤256; rw [Nat.one_mul]; exact bd_tn hmo (by decide),?_⟩
  have er:(List.replicate mo.toNat [PV.none]).flatten=(List.replicate mo.toNat none).map oi:=by
   have:mo=0∨mo=1:=bd_2 ⟨hmo.1,Int.lt_of_le_of_lt hmo.2 (by decide)⟩
   rcases this with rfl|rfl <;> rfl
  rw [er]
  refine ⟨(by unfold small; rw [List.length_append,List.length_map,List.length_map,List.length_replicate]; exact lin0_le2 hk hn (bd_tn hmo (Int.le_refl 1)) (by decide)),?_⟩
  rw [← List.map_append]
  refine gcI (cOf_half _ _) rfl ?_
  exact h
end
noncomputable def whE:List (List Cell×List N)→List E
 | []=>[]
 | p::r=>.row p.1::p.2.map .node++whE r
noncomputable def whStp (s:List E)(p:List Cell×List N):List E:=s++(.row p.1::p.2.map .node)
theorem whStp_fold:∀(l:List (List Cell×List N))(s:List E),l.foldl whStp s=s++whE l
 | [],s=>(List.append_nil _).symm
 | p::r,s=>by
  rw [List.foldl_cons,whStp_fold r]
  show (s++_)++_=_
  rw [List.append_assoc]; rfl
noncomputable abbrev whL (rows:List (List Cell))(ots:List (List N)):List E:=whE (rows.zip ots)
noncomputable abbrev whP (rows:List (List Cell))(ots:List (List N)):PV:=.lst ((whL rows ots).map E.p)
noncomputable abbrev duL (sp:List Int)(mo:Int)(rows:List (List Cell)):List (Option Int):=dueD sp (wdL rows sp.length)++List.replicate mo.toNat none
noncomputable abbrev rD (v:Bool)(sp:List Int)(mo tu:Int)(rows:List (List Cell))(ots:List (List N))(g:G)(gs:List G):En:=rC v sp mo tu rows ots g gs++[(17,.fr (oiL (duL sp mo rows)))]
section
variable {v:Bool} {sp:List Int} {mo tu:Int} {rows:List (List Cell)} {ots:List (List N)} {g:G} {gs:List G}
theorem node_p (os:List N):(os.map E.node).map E.p=Ns.p os:=by rw [Ns_map,List.map_map]; rfl
theorem stB4 (s0 s:Int×Int)(htu:1≤tu∧tu≤3)(M:Made v sp mo tu rows ots (g::gs)){k:Nat}{X:Prop}{K:KT}
  (h:sT (cOf 103 [bx s0]) b103_40 ⟨GG nS k,X⟩ (rD v sp mo tu rows ots g gs++[(95,.fr (whP rows ots))]) [bx s] K):sT (cOf 103 [bx s0]) b103_43 ⟨GG nS k,X⟩ (rD v sp mo tu rows ots g gs) [bx s] K:=by
 have hrl:=M.rl
 have hol:=M.ol
 have er:rows.map (fun cs:List Cell=>PV.lst (cs.map fun c=>c.n.p))=(rows.zip ots).map fun p=>.lst (p.1.map fun c=>c.n.p):=by
  have e1:(rows.zip ots).map Prod.fst=rows:=List.map_fst_zip (Nat.le_of_eq (hrl.trans hol.symm))
  conv=>lhs; rw [← e1,List.map_map]
  rfl
 refine ⟨le4 rfl,?_⟩
 refine loopK (fun s1:List E=>(rD v sp mo tu rows ots g gs++[(95,.own 1)],[bx s,.lst (s1.map E.p)])) (fun j s1=>s1.length≤2*j) (fun s p=>whStp s p.1) [] (rows.zip ots).zipIdx _ (by rw [er]; exact items_enu (fun p:List Cell×List N=>PV.lst (p.1.map fun c=>c.n.p)) _) (cOf_half _ _) (Nat.le_refl 0) ⟨rfl,rfl,trivial⟩ (agr_of2 rfl) (fun zz=>rfl) (fun j s1 p hp hk=>?_) fun hk=>?_
 ·obtain ⟨⟨cs,os⟩,i⟩:=p
  obtain ⟨e1,e2⟩:=zip_get hp
  obtain ⟨e3,e4⟩:=zip2_get e2
  have e1:i=j:=e1
  subst e1
  have e4:ots[i]?=some os:=e4
  have hj:=get_lt e3
  have ho:=(M.o os (List.mem_of_getElem? e4)).len
  have eo:atP (ots.map fun os=>PV.lst (Ns.p os)) (.int (i:Nat))=some (.lst (Ns.p os)):=atP_map (f:=fun os:List N=>PV.lst (Ns.p os)) (Int.natCast_nonneg _) e4
  have ep:PV.lst (cs.map fun c=>c.n.p)::Ns.p os=(E.row cs::os.map E.node).map E.p:=by
   rw [List.map_cons,node_p]; rfl
  have el:(E.row cs::os.map E.node).length≤2:=by rw [List.length_cons,List.length_map]; lia
  refine ⟨le4 rfl,?_⟩
  (conv=>whnf)
  rw [eo]
  ((conv=>whnf); try dsimp only [mrg,bkQ,bkO,zipE,setL,mu,List.set,List.cons_append,List.nil_append,List.map,List.foldl,List.take,List.drop,List.length_cons,List.length_nil,List.getElem?_cons_zero,List.getElem?_cons_succ,List.getElem?_nil])
  refine ⟨(by unfold small; rw [ep,List.length_map]; lia),?_⟩
  rw [ep]
  refine ⟨(by unfold small; rw [List.length_append,List.length_map,List.length_map]; exact lin0_le2 hk (lt_le hj (Nat.le_trans (Nat.le_of_eq hrl) (bd_tn htu (Int.le_refl 3)))) el (by decide)),?_⟩
  exact ⟨by show (s1++(E.row cs::os.map E.node)).length≤_; rw [List.length_append]; exact (Nat.add_le_add hk el :),⟨rfl,congrArg OB.lst List.map_append.symm,trivial⟩,agr_of2 rfl⟩
 ·rw [zip_fold whStp,whStp_fold]
  refine gcI (cOf_half _ _) rfl ?_
  exact h
theorem dat_oi (D:List (Option Int)):Dat 8 (oiL D):=fun x hx=>by
 obtain ⟨o,_,rfl⟩:=List.mem_map.mp hx
 cases o <;> exact trivial
noncomputable abbrev sumW (l:List G):Int:=(l.map G.w).sum
noncomputable abbrev ownW (sp:List Int)(rows:List (List Cell))(g:G)(gs:List G):Int:=(wdL rows sp.length).sum+sumW (g::flowsR sp gs)
noncomputable abbrev rE (v:Bool)(sp:List Int)(mo tu:Int)(rows:List (List Cell))(ots:List (List N))(g:G)(gs:List G):En:=rD v sp mo tu rows ots g gs++[(95,.fr (whP rows ots)),(1,.fr (flatP (whL rows ots) (g::gs))),(74,.fr (oiL (duL sp mo rows))),(60,.fr (.int (ownW sp rows g gs)))]
theorem cmp_ne {v:PV}{K:Bool→Prop}{xs:List PV}(h:v=.lst xs)(hx:xs≠[])(d:Dat 8 (.lst xs))(k:K false):cmpQ .ne (.lst xs) (.lst xs) K:=by
 rcases xs with _|⟨x,r⟩
 ·exact absurd rfl hx
 ·refine ⟨d,d,fun b hb=>?_⟩
  have:b=true:=hb.mpr rfl
  rw [this]; exact k
theorem stB5 (s0 s:Int×Int)(hn:sp.length≤10)(h1:1≤sp.length)(hD:(duL sp mo rows).length=gs.length)(hg1:1≤gs.length)(hgn:gs.length≤100)(ho:∀ w∈duL sp mo rows,oDim w)(hw:(whL rows ots).length≤80)(hr:∀ e∈whL rows ots,WdOk gs.length e)(hE:EnOk (ends (fun zz=>[]) (whL rows ots)) (duL sp mo rows))(hf:∀ e∈whL rows ots,e.fit){k:Nat}{X:Prop}{K:KT}
  (h:sT (cOf 103 [bx s0]) b103_34 ⟨GG nS (k+15),X⟩ (rE v sp mo tu rows ots g gs) [bx s] K):sT (cOf 103 [bx s0]) b103_40 ⟨GG nS (k+15),X⟩ (rD v sp mo tu rows ots g gs++[(95,.fr (whP rows ots))]) [bx s] K:=by
 have hne:duL sp mo rows≠[]:=fun e=>by rw [e] at hD; rw [← hD] at hg1; exact absurd hg1 (by decide)
 refine use0 (c99 hf (by lia) (by rw [List.length_cons]; lia)) rfl ?_
 ((conv=>whnf); try dsimp only [mrg,bkQ,bkO,zipE,setL,mu,List.set,List.cons_append,List.nil_append,List.map,List.foldl,List.take,List.drop,List.length_cons,List.length_nil,List.getElem?_cons_zero,List.getElem?_cons_succ,List.getElem?_nil])
 have el:((((gs.map G.p).length+1:Nat)):Int)-1=(gs.length:Nat):=by rw [List.length_map]; lia
 rw [el]
 refine use0 (c78 (n:=gs.length) hD hg1 hgn List.length_cons ho hw hr hE) rfl ?_
 refine cmp_ne rfl (fun e=>hne (List.map_eq_nil_iff.mp e)) (dat_oi _) ?_
 refine gcI (cOf_half _ _) rfl ?_
 refine ⟨wdL rows sp.length,rfl,?_⟩
 refine compM (fun x:G=>.int x.w) (g::flowsR sp gs) _ (items_seq G.p _) (by rw [List.length_cons,flowsR_len]; lia) rfl (fun x A hx=>⟨rfl,rfl,trivial⟩) ?_
 refine ⟨(g::flowsR sp gs).map G.w,by rw [List.map_map]; rfl,?_⟩
 refine gcI (cOf_half _ _) rfl ?_
 exact h
end
noncomputable def goalV (w own a:Int):Int:=if w=0 then a else if w=1 then own+a else own
noncomputable def lessL (l:List G):List Int:=(l.filter fun x=>decide (x.sho=0)).map G.sh
noncomputable abbrev rF (v:Bool)(sp:List Int)(mo tu:Int)(rows:List (List Cell))(ots:List (List N))(g:G)(gs:List G)(w a:Int):En:=rE v sp mo tu rows ots g gs++[(94,.fr (.int w)),(0,.fr (.int a)),(30,.fr (.int (goalV w (ownW sp rows g gs) a)))]
section
variable {v:Bool} {sp:List Int} {mo tu:Int} {rows:List (List Cell)} {ots:List (List N)} {g:G} {gs:List G}
theorem less_eq:∀ l:List G,l.filterMap (fun x=>if x.sho=0 then some (PV.int x.sh) else none)=(lessL l).map .int
 | []=>rfl
 | x::r=>by
  have ih:=less_eq r
  unfold lessL at ih ⊢
  by_cases h:x.sho=0
  ·rw [List.filterMap_cons,if_pos h,List.filter_cons,if_pos (decide_eq_true h),ih]; rfl
  ·rw [List.filterMap_cons,if_neg h,List.filter_cons,if_neg (by rw [decide_eq_true_eq]; exact h),ih]
theorem goal_at {w own a:Int}(h:0≤w∧w<3):atP [.int a,.int (own+a),.int own] (.int w)=some (.int (goalV w own a)):=by
 have:w=0∨w=1∨w=2:=bd_3 h
 rcases this with rfl|rfl|rfl <;> rfl
theorem stC1 (s0 s:Int×Int)(hn:sp.length≤10):∃ (w a:Int) (s':Int×Int),(0≤w∧w<3)∧(w=2→a=0)∧∀(k:Nat)(X:Prop)(K:KT),
  sT (cOf 103 [bx s0]) b103_30 ⟨GG nS (k+2),X⟩ (rF v sp mo tu rows ots g gs w a) [bx s'] K→sT (cOf 103 [bx s0]) b103_34 ⟨GG nS (k+2),X⟩ (rE v sp mo tu rows ots g gs) [bx s] K:=by
 refine cp fun kk=>?_
 obtain ⟨w,s1,hw,c1⟩:=c89 s 3 (by decide) (by decide)
 refine kk ?_
 by_cases h2:w=2
 ·refine ⟨w,0,s1,hw,fun zz=>rfl,fun k X K h=>?_⟩
  refine useB (c1 _) rfl rfl ?_
  refine brT (dT h2) ?_
  refine ⟨le4 rfl,?_⟩
  (conv=>whnf)
  rw [goal_at hw]
  refine gcI (cOf_half _ _) rfl ?_
  exact h
 ·refine cp fun kk=>?_
  obtain ⟨a,s2,c2⟩:=c102 s1 w (ownW sp rows g gs) (lessL (g::flowsR sp gs)).sum
  refine kk ?_
  refine ⟨w,a,s2,hw,fun e=>absurd e h2,fun k X K h=>?_⟩
  refine useB (c1 _) rfl rfl ?_
  refine brF (dF h2) ?_
  refine compL (σ:=Unit) (fun zz=>[bx s1]) (fun s zz=>s) (fun zz x=>if x.sho=0 then some (PV.int x.sh) else none) () (g::flowsR sp gs) _ (items_seq G.p _) (by rw [List.length_cons,flowsR_len]; lia) rfl (fun zz=>rfl) (fun zz x A hx=>?_) ?_
  ·by_cases hx0:x.sho=0
   ·rw [if_pos hx0]
    (conv=>whnf)
    rw [dT hx0]
    exact ⟨rfl,rfl,trivial⟩
   ·rw [if_neg hx0]
    (conv=>whnf)
    rw [dF hx0]
    exact ⟨(List.append_nil A),rfl,trivial⟩
  ·rw [outs_pure,less_eq]
   refine ⟨_,rfl,?_⟩
   refine useB (c2 _) rfl rfl ?_
   refine ⟨le4 rfl,?_⟩
   (conv=>whnf)
   rw [goal_at hw]
   refine gcI (cOf_half _ _) rfl ?_
   exact h
end
theorem dat_succ:∀(n:Nat)(v:PV),Dat n v→Dat (n+1) v
 | z1,.none,z2=>trivial
 | z1,.int z2,z3=>trivial
 | n+1,.lst xs,h=>fun x hx=>dat_succ n x (h x hx)
 | n+1,.tup xs,h=>fun x hx=>dat_succ n x (h x hx)
 | 0,.lst z1,h=>h.elim
 | 0,.tup z1,h=>h.elim
 | 0,.bool z1,h=>h.elim
 | z1+1,.bool z2,h=>h.elim
 | 0,.obj z1 z2,h=>h.elim
 | z1+1,.obj z2 z3,h=>h.elim
theorem dat_le {n m:Nat}(h:n≤m){v:PV}(d:Dat n v):Dat m v:=by
 induction h with
 | refl=>exact d
 | step z1 ih=>exact dat_succ _ _ ih
theorem dat_ints (n:Nat)(l:List Int):∀ x∈l.map PV.int,Dat n x:=fun x hx=>by
 obtain ⟨i,_,rfl⟩:=List.mem_map.mp hx
 cases n <;> exact trivial
theorem dat_i (n:Nat)(i:Int):Dat n (.int i):=by cases n <;> exact trivial
theorem allC {P:PV→Prop}{a:PV}{r:List PV}(h:P a)(t:∀ x∈r,P x):∀ x∈a::r,P x:=fun x hx=>by
 rcases List.mem_cons.mp hx with rfl|hx
 ·exact h
 ·exact t x hx
theorem allZ {P:PV→Prop}:∀ x∈([]:List PV),P x:=fun x hx=>by cases hx
theorem dat_o (o:Option Int):Dat 1 (oD o):=by
 rcases o with _|⟨i⟩
 ·exact allZ
 ·exact allC (dat_i 0 i) allZ
theorem dat_box {n:Nat}{b:B}{is:List N}(h:∀ m∈is,Dat n m.D):Dat (n+2) (N.box b is).D :=
 have ih:∀ x∈Ns.D is,Dat n x:=fun x hx=>by
  rw [NsD_map] at hx
  obtain ⟨m,hm,rfl⟩:=List.mem_map.mp hx
  exact h m hm
 allC (dat_i _ _) (allC (dat_i _ _) (allC (dat_i _ _) (allC (dat_i _ _) (allC (dat_i _ _) (allC (dat_i _ _) (allC (dat_i _ _) (allC (show Dat (n+1) (.tup [.int b.r0,.int b.r1]) from dat_ints _ [b.r0,b.r1]) (allC (show Dat (n+1) (.tup (Ns.D is)) from ih) allZ))))))))
theorem dat_uns {n:Nat}{u:U}{is:List N}(h:∀ m∈is,Dat n m.D):Dat (n+2) (N.unset u is).D :=
 have ih:∀ x∈Ns.D is,Dat n x:=fun x hx=>by
  rw [NsD_map] at hx
  obtain ⟨m,hm,rfl⟩:=List.mem_map.mp hx
  exact h m hm
 allC (dat_i _ _) (allC (dat_i _ _) (allC (dat_i _ _) (allC (dat_i _ _) (allC (dat_i _ _) (allC (dat_i _ _) (allC (dat_i _ _) (allC (show Dat (n+1) (.tup (u.t.st.map .int)) from dat_ints _ _) (allC (show Dat (n+1) (.tup (u.t.sh.map .int)) from dat_ints _ _) (allC (show Dat (n+1) (.tup (Ns.D is)) from ih) allZ)))))))))
theorem dat_skip {g:G}{s:Int}:Dat 2 (N.skip g s).D:=allC (dat_i 1 6) (allC (show Dat 1 (gD g) from dat_ints 0 [g.w,g.st,g.so,g.sh,g.sho]) (allC (dat_i 1 s) (allC (show Dat 1 (.tup []) from allZ) allZ)))
theorem dat_a {n:N}(h:aN n):Dat 2 n.D:=by
 rcases n with ⟨_,_⟩|⟨w,s⟩|⟨w,x,d⟩|⟨v⟩|⟨b,is⟩|⟨_,_⟩
 ·exact dat_skip
 ·exact (show Dat 2 _ from dat_ints 1 [5,w,s])
 ·exact allC (dat_i 1 4) (allC (dat_o w) (allC (dat_o x) (allC (dat_o d) allZ)))
 ·exact (show Dat 2 _ from dat_ints 1 [7,v])
 ·obtain ⟨rfl,_⟩:=h
  exact dat_box (n:=0) fun m hm=>by cases hm
 ·exact h.elim
theorem dat_lo {n:N}(h:loose n):Dat 2 n.D:=by
 rcases n with ⟨_,_⟩|⟨w,s⟩|⟨w,x,d⟩|⟨v⟩|⟨_,_⟩|⟨_,_⟩
 ·exact h.elim
 ·exact (show Dat 2 _ from dat_ints 1 [5,w,s])
 ·exact allC (dat_i 1 4) (allC (dat_o w) (allC (dat_o x) (allC (dat_o d) allZ)))
 ·exact (show Dat 2 _ from dat_ints 1 [7,v])
 ·exact h.elim
 ·exact h.elim
theorem dat_Ns {m:Nat}{ns:List N}(h:∀ n∈ns,Dat m n.D):∀ x∈Ns.D ns,Dat m x:=fun x hx=>by
 rw [NsD_map] at hx
 obtain ⟨n,hn,rfl⟩:=List.mem_map.mp hx
 exact h n hn
theorem dat_flat {whole:List E}{gs:List G}(h:∀ e∈whole,match e with|.row cs=>∀ c∈cs,Dat 5 c.n.D|.node n=>Dat 5 n.D):Dat 8 (flatP whole gs):=by
 refine allC (show Dat 7 (.lst (whole.map E.D)) from fun x hx=>?_) (allC (show Dat 7 (.lst (gs.map gD)) from fun x hx=>?_) allZ)
 ·obtain ⟨e,he,rfl⟩:=List.mem_map.mp hx
  have:=h e he
  rcases e with ⟨cs⟩|⟨n⟩
  ·exact (show Dat 6 (.tup (Ns.D (cs.map Cell.n))) from dat_Ns (m:=5) fun n hn=>by
    obtain ⟨c,hc,rfl⟩:=List.mem_map.mp hn
    exact this c hc)
  ·exact (show Dat 6 (.tup [n.D]) from allC this allZ)
 ·obtain ⟨g,_,rfl⟩:=List.mem_map.mp hx
  exact (show Dat 6 (.tup _) from dat_ints 5 [g.w,g.st,g.so,g.sh,g.sho])
theorem cmp_neT {K:Bool→Prop}{xs:List PV}(d:Dat 8 (.tup xs))(k:K false):cmpQ .ne (.tup xs) (.tup xs) K:=⟨d,d,fun b hb=>by
 have:b=true:=hb.mpr rfl
 rw [this]; exact k⟩
theorem cmp_eqL {K:Bool→Prop}{xs:List PV}(hx:xs≠[])(d:Dat 8 (.lst xs))(k:K true):cmpQ .eq (.lst xs) (.lst xs) K:=by
 rcases xs with _|⟨x,r⟩
 ·exact absurd rfl hx
 ·refine ⟨d,d,fun b hb=>?_⟩
  have:b=true:=hb.mpr rfl
  rw [this]; exact k
noncomputable def szK (tu:Int)(rows:List (List Cell))(k:Nat):Option Int:=if tu=1 then none else some (wk rows k)
noncomputable def owL (v:Bool)(tu:Int)(rows:List (List Cell))(cs:List Cell):List N:=cs.zipIdx.map fun p=>.box (ownB v p.1.2 (szK tu rows p.2)) p.1.2
section
variable {v:Bool} {sp:List Int} {mo tu:Int} {rows:List (List Cell)} {ots:List (List N)} {g:G} {gs:List G} {w a:Int}
noncomputable abbrev rG (v:Bool)(sp:List Int)(mo tu:Int)(rows:List (List Cell))(ots:List (List N))(g:G)(gs:List G)(w a:Int)(lv:List Cell→PV):En:=rF v sp mo tu rows ots g gs w a++[(43,.fr (.lst (rows.map lv)))]
theorem stC2 (s0 s:Int×Int)(lv:List Cell→PV)(hrl:rows.length≤10)(hcl:∀ cs∈rows,cs.length=sp.length)(hn:sp.length≤10){k:Nat}
  (hown:∀ cs∈rows,∀ p∈cs.zipIdx,(∀ n∈p.1.2,n.gok)∧ownOk v p.1.2 (szK tu rows p.2)) (hline:∀ cs∈rows,Fn (k+7) 97 [.fr (.lst (Ns.p (owL v tu rows cs))),.fr (glP (g::flowsR sp gs)),.fr (.int w),.fr (.int a),.fr (.bool v)] (lv cs)) {X:Prop} {K:KT}
  (h:sT (cOf 103 [bx s0]) b103_28 ⟨GG nS (k+8),X⟩ (rG v sp mo tu rows ots g gs w a lv) [bx s] K):sT (cOf 103 [bx s0]) b103_30 ⟨GG nS (k+8),X⟩ (rF v sp mo tu rows ots g gs w a) [bx s] K:=by
 refine compM lv rows _ (items_seq (fun cs:List Cell=>PV.lst (cs.map fun c=>c.n.p)) rows) (by lia) rfl (fun cs A hcs=>?_) ?_
 ·have hcl:=hcl cs hcs
  refine compM (fun p:Cell×Nat=>(N.box (ownB v p.1.2 (szK tu rows p.2)) p.1.2).p) cs.zipIdx _ (items_enu (fun c:Cell=>c.n.p) cs) (by rw [List.length_zipIdx]; lia) rfl (fun p A hp=>?_) ?_
  ·obtain ⟨hg,ho⟩:=hown cs hcs p hp
   have c:=c96 (k:=k) (c:=p.1) (size:=szK tu rows p.2) (v:=v) hg ho
   have hp2:p.2<sp.length:=by
    obtain ⟨i,hi⟩:=List.mem_iff_getElem?.mp hp
    have:=zip_get hi
    rw [this.1,← hcl]; exact get_lt this.2
   have ew:atP ((wdL rows sp.length).map PV.int) (.int (p.2:Nat))=some (.int (wk rows p.2)):=atP_map (Int.natCast_nonneg _) (wdL_get hp2)
   by_cases h1:tu=1
   ·have es:szK tu rows p.2=none:=if_pos h1
    rw [es] at c ⊢
    refine brT (dT h1) ?_
    refine use0 c rfl ?_
    exact ⟨rfl,rfl,trivial⟩
   ·have es:szK tu rows p.2=some (wk rows p.2):=if_neg h1
    rw [es] at c ⊢
    refine brF (dF h1) ?_
    (conv=>whnf)
    rw [ew]
    refine use0 c rfl ?_
    exact ⟨rfl,rfl,trivial⟩
  ·have eo:cs.zipIdx.map (fun p:Cell×Nat=>(N.box (ownB v p.1.2 (szK tu rows p.2)) p.1.2).p)=Ns.p (owL v tu rows cs):=by
    rw [Ns_map]; unfold owL; rw [List.map_map]; rfl
   rw [eo]
   refine use0 (hline cs hcs) rfl ?_
   exact ⟨rfl,rfl,trivial⟩
 ·refine gcI (cOf_half _ _) rfl ?_
  exact h
end
noncomputable def noL (l:List PV):List PV:=l.filter isNone
theorem noL_eq:∀ l:List PV,l.filterMap (fun x=>if isNone x=true then some x else none)=noL l
 | []=>rfl
 | x::r=>by
  have ih:=noL_eq r
  unfold noL at ih ⊢
  by_cases h:isNone x=true
  ·rw [List.filterMap_cons,if_pos h,List.filter_cons,if_pos h,ih]
  ·rw [List.filterMap_cons,if_neg h,List.filter_cons,if_neg h,ih]
noncomputable abbrev rH (v:Bool)(sp:List Int)(mo tu:Int)(rows:List (List Cell))(ots:List (List N))(g:G)(gs:List G)(w a:Int)(lv:List Cell→PV)(tv:PV):En:=rG v sp mo tu rows ots g gs w a lv++[(82,.fr tv),(64,.fr (.lst (noL (rows.map lv))))]
section
variable {v:Bool} {sp:List Int} {mo tu:Int} {rows:List (List Cell)} {ots:List (List N)} {g:G} {gs:List G} {w a:Int} {lv:List Cell→PV} {tv:PV}
theorem stD (s0 s:Int×Int)(hne:duL sp mo rows≠[])(hrl:rows.length≤10)(hf:∀ e∈whL rows ots,e.fit)(hw:(whL rows ots).length≤80)(hgn:gs.length≤100)(hd:Dat 8 (flatP (whL rows ots) (g::gs))){k:Nat}
  (ht:Fn (k+14) 98 [.fr (whP rows ots),.fr (oiL (duL sp mo rows)),.fr (glP (g::gs)),.fr (.int w),.fr (.int a),.fr (.bool v)] tv) {X:Prop} {K:KT}
  (h:sT (cOf 103 [bx s0]) b103_22 ⟨GG nS (k+15),X⟩ (rH v sp mo tu rows ots g gs w a lv tv) [bx s] K):sT (cOf 103 [bx s0]) b103_28 ⟨GG nS (k+15),X⟩ (rG v sp mo tu rows ots g gs w a lv) [bx s] K:=by
 refine use0 ht rfl ?_
 refine gcI (cOf_half _ _) rfl ?_
 refine use0 (c99 (k:=k) hf (by lia) (by rw [List.length_cons]; lia)) rfl ?_
 refine cmp_neT hd ?_
 refine cmp_ne rfl (fun e=>hne (List.map_eq_nil_iff.mp e)) (dat_oi _) ?_
 refine gcI (cOf_half _ _) rfl ?_
 refine compL (σ:=Unit) (fun zz=>[bx s]) (fun s zz=>s) (fun zz x=>if isNone x=true then some x else none) () (rows.map lv) _ (show (Itr.seq (rows.map lv)).items=(rows.map lv).map IC.one from rfl) (by rw [List.length_map]; lia) rfl (fun zz=>rfl) (fun zz x A hx=>?_) ?_
 ·by_cases hx0:isNone x=true
  ·rw [if_pos hx0]
   (conv=>whnf)
   rw [hx0]
   exact ⟨rfl,rfl,trivial⟩
  ·rw [if_neg hx0]
   (conv=>whnf)
   rw [Bool.eq_false_iff.mpr hx0]
   exact ⟨(List.append_nil A),rfl,trivial⟩
 ·rw [outs_pure,noL_eq]
  refine gcI (cOf_half _ _) rfl ?_
  exact h
theorem stRef (s0 s:Int×Int)(hbig:(2:Int) ^ (30:Int).toNat≤max ((goalV w (ownW sp rows g gs) a).natAbs:Int) (a.natAbs:Int))(hlv:lv=fun zz=>.none)(htv:tv=.none)(hrl:(rows.length:Int)=tu){k:Nat}{r:Rs}(hr:r=.ok (.fr (.bool true)) [bx s]) :
  sT (cOf 103 [bx s0]) b103_22 ⟨GG nS k,r=.ovf⟩ (rH v sp mo tu rows ots g gs w a lv tv) [bx s] (retK 1 r):=by
 subst hlv htv
 have el:((noL (rows.map fun zz=>PV.none)).length:Int)=tu:=by
  have:noL (rows.map fun zz=>PV.none)=rows.map fun zz=>PV.none:=by
   unfold noL
   rw [List.filter_eq_self]
   intro x hx
   obtain ⟨_,_,rfl⟩:=List.mem_map.mp hx
   rfl
  rw [this,List.length_map,hrl]
 refine ⟨.inr ⟨rfl,rfl⟩,?_⟩
 refine brT (dT hbig) ?_
 exact retN 1 rfl (by rw [dT el,hr]; rfl)
end
structure RwD where
 lb:B
 os:List BN
noncomputable abbrev RwD.P (d:RwD)(g:G)(fl:List G):List N:=lineN (d.os.map BN.n) (g::fl)
noncomputable def RwD.due (d:RwD)(v:Bool)(sp:List Int)(g:G)(fl:List G):N:=.box d.lb (.skip g 109::dueR v d.lb d.os sp fl)
structure RwOk (v:Bool)(sp:List Int)(g:G)(fl:List G)(d:RwD):Prop where
 hv:d.lb.v=v
 ov:∀ o∈d.os,o.1.v=v
 l1:sp.length=d.os.length
 l2:fl.length=d.os.length
 rok:d.lb.rok
 lev:(N.box d.lb (d.P g fl)).lev≤3
 fit:(N.box d.lb (d.P g fl)).fit
 pk:(plcs d.lb (.skip g 109::dueR v d.lb d.os sp fl)).take 2++picked (plcs d.lb (.skip g 109::dueR v d.lb d.os sp fl)) 0 sp=plcs d.lb (d.P g fl)
 pl:(d.P g fl).length<900
 dl:(.skip g 109::dueR v d.lb d.os sp fl).length<900
noncomputable def wnE (v:Bool)(sp:List Int)(g:G)(fl:List G)(goal:Int)(D:List Cell→RwD):List (List Cell×List N)→List N
 | []=>[]
 | p::r=>(D p.1).due v sp g fl::p.2.map (stayN v goal)++wnE v sp g fl goal D r
noncomputable def wnStp (v:Bool)(sp:List Int)(g:G)(fl:List G)(goal:Int)(D:List Cell→RwD)(s:List N)(p:List Cell×List N):List N:=s++((D p.1).due v sp g fl::p.2.map (stayN v goal))
theorem wnStp_fold (v:Bool)(sp:List Int)(g:G)(fl:List G)(goal:Int)(D:List Cell→RwD):∀(l:List (List Cell×List N))(s:List N),l.foldl (wnStp v sp g fl goal D) s=s++wnE v sp g fl goal D l
 | [],s=>(List.append_nil _).symm
 | p::r,s=>by
  rw [List.foldl_cons,wnStp_fold v sp g fl goal D r]
  show (s++_)++_=_
  rw [List.append_assoc]; rfl
noncomputable def isBx:N→Option PV
 | .box b is=>some (N.box b is).p
 | z1=>none
theorem stay_no {v:Bool}{goal:Int}:∀(os:List N),(∀ n∈os,loose n)→(os.map (stayN v goal)).filterMap isBx=[]
 | [],z1=>rfl
 | n::r,h=>by
  have ih:=stay_no (v:=v) (goal:=goal) r fun m hm=>h m (.tail _ hm)
  have hn:=h n (.head _)
  rw [List.map_cons,List.filterMap_cons]
  have:isBx (stayN v goal n)=none:=by
   rcases n with ⟨_,_⟩|⟨_,_⟩|⟨_,_,_⟩|⟨_⟩|⟨_,_⟩|⟨_,_⟩
   ·exact hn.elim
   ·rfl
   ·rfl
   ·rfl
   ·exact hn.elim
   ·exact hn.elim
  rw [this]; exact ih
theorem wn_boxes (v:Bool)(sp:List Int)(g:G)(fl:List G)(goal:Int)(D:List Cell→RwD):∀(l:List (List Cell×List N)),(∀ p∈l,∀ n∈p.2,loose n)→(wnE v sp g fl goal D l).filterMap isBx=l.map fun p=>((D p.1).due v sp g fl).p
 | [],z1=>rfl
 | p::r,h=>by
  have ih:=wn_boxes v sp g fl goal D r fun q hq=>h q (.tail _ hq)
  show ((D p.1).due v sp g fl::(p.2.map (stayN v goal)++wnE v sp g fl goal D r)).filterMap isBx=_
  rw [List.filterMap_cons,List.filterMap_append,stay_no p.2 (h p (.head _)),ih]; rfl
noncomputable def noBx:N→Prop
 | .skip z1 z2=>False
 | .unset z1 z2=>False
 | z1=>True
section
variable {v:Bool} {sp:List Int} {mo tu:Int} {rows:List (List Cell)} {ots:List (List N)} {g:G} {gs:List G} {w a:Int} {D:List Cell→RwD} {rep:Int×Int}
noncomputable abbrev lvD (D:List Cell→RwD)(g:G)(fl:List G)(rep:Int×Int)(cs:List Cell):PV:=pkP (D cs).lb ((D cs).P g fl) rep
noncomputable abbrev tvD (tbl:List N)(rep:Int×Int):PV:=.tup [.lst (Ns.p tbl),pr rep]
noncomputable abbrev rI (v:Bool)(sp:List Int)(mo tu:Int)(rows:List (List Cell))(ots:List (List N))(g:G)(gs:List G)(w a:Int)(D:List Cell→RwD)(rep:Int×Int)(tbl:List N):En:=rH v sp mo tu rows ots g gs w a (lvD D g (flowsR sp gs) rep) (tvD tbl rep)
theorem stE1 (s0 s:Int×Int)(hsm:¬(2:Int) ^ (30:Int).toNat≤max ((goalV w (ownW sp rows g gs) a).natAbs:Int) (a.natAbs:Int))(hno:noL (rows.map (lvD D g (flowsR sp gs) rep))=[])(hs:spOk sp)(hn:sp.length≤10)(hrl:rows.length≤10)(hro:rows.length=ots.length)(ho:∀ os∈ots,OtOk os)(hD:∀ cs∈rows,RwOk v sp g (flowsR sp gs) (D cs))(hgo:Dim (goalV w (ownW sp rows g gs) a)){tbl:List N}{k:Nat}{X:Prop}{K:KT}
  (h:sT (cOf 103 [bx s0]) b103_17 ⟨GG nS (k+15),X⟩ (rI v sp mo tu rows ots g gs w a D rep tbl++[(92,.fr (.lst (Ns.D (wnE v sp g (flowsR sp gs) (goalV w (ownW sp rows g gs) a) D (rows.zip ots)))))]) [bx s] K):sT (cOf 103 [bx s0]) b103_22 ⟨GG nS (k+15),X⟩ (rI v sp mo tu rows ots g gs w a D rep tbl) [bx s] K:=by
 refine ⟨.inr ⟨rfl,rfl⟩,?_⟩
 refine brF (dF hsm) ?_
 refine ⟨le4 rfl,?_⟩
 rw [hno]
 refine ⟨le4 rfl,?_⟩
 have er:rows.map (lvD D g (flowsR sp gs) rep)=(rows.zip ots).map fun p=>lvD D g (flowsR sp gs) rep p.1:=by
  have e1:(rows.zip ots).map Prod.fst=rows:=List.map_fst_zip (by lia)
  conv=>lhs; rw [← e1,List.map_map]
  rfl
 refine loopK (fun s1:List N=>(rI v sp mo tu rows ots g gs w a D rep tbl++[(92,.own 2)],[bx s,.fz (.lst []),.lst (Ns.D s1)])) (fun j s1=>s1.length≤2*j) (fun s p=>wnStp v sp g (flowsR sp gs) (goalV w (ownW sp rows g gs) a) D s p.1) [] (rows.zip ots).zipIdx _ (by rw [er]; exact items_enu (fun p:List Cell×List N=>lvD D g (flowsR sp gs) rep p.1) _) (cOf_half _ _) (Nat.le_refl 0) ⟨rfl,rfl,rfl,trivial⟩ (agr_of2 rfl) (fun zz=>rfl) (fun j s1 p hp hk=>?_) fun hk=>?_
 ·obtain ⟨⟨cs,os⟩,i⟩:=p
  obtain ⟨e1,e2⟩:=zip_get hp
  obtain ⟨e3,e4⟩:=zip2_get e2
  have e1:i=j:=e1
  subst e1
  have e4:ots[i]?=some os:=e4
  have hj:=get_lt e3
  obtain ⟨r1,r2,r3,r4,r5,r6,r7,r8,r9,r10⟩:=hD cs (List.mem_of_getElem? e3)
  have hos:=ho os (List.mem_of_getElem? e4)
  have hol:=hos.len
  have eo:atP (ots.map fun os=>PV.lst (Ns.p os)) (.int (i:Nat))=some (.lst (Ns.p os)):=atP_map (f:=fun os:List N=>PV.lst (Ns.p os)) (Int.natCast_nonneg _) e4
  refine use0 (c48a (k:=k+2) r6 r7) rfl ?_
  refine use0 (c100 (k:=k+14) r1 r2 hs r3 r4 (by lia)) rfl ?_
  refine ⟨(by unfold small; rw [List.length_append,NsD_map,List.length_map]; exact lin0_le2 hk (lt_le hj hrl) (Nat.le_refl 1) (by decide)),?_⟩
  (conv=>whnf)
  rw [eo]
  have c:=c95 (k:=k+1) (v:=v) hos.all (by lia) hgo
  refine use0 c rfl ?_
  have ed:Ns.D s1++[(N.box (D cs).lb (.skip g 109::dueR v (D cs).lb (D cs).os sp (flowsR sp gs))).D]++os.map (fun n=>(stayN v (goalV w (ownW sp rows g gs) a) n).D)=Ns.D (wnStp v sp g (flowsR sp gs) (goalV w (ownW sp rows g gs) a) D s1 (cs,os)):=by
   rw [NsD_map,NsD_map,List.append_assoc]
   show _=(s1++_).map N.D
   rw [List.map_append,List.map_cons,List.map_map]; rfl
  refine ⟨(by unfold small; rw [ed,NsD_map,List.length_map]; show (s1++(_::os.map (stayN v (goalV w (ownW sp rows g gs) a)))).length≤_; rw [List.length_append,List.length_cons,List.length_map]; exact lin0_le2 hk (lt_le hj hrl) (Nat.succ_le_succ hol) (by decide)),?_⟩
  rw [ed]
  exact ⟨by show (s1++(_::os.map (stayN v (goalV w (ownW sp rows g gs) a)))).length≤_; rw [List.length_append,List.length_cons,List.length_map]; exact (Nat.add_le_add hk (Nat.succ_le_succ hol) :),⟨rfl,rfl,rfl,trivial⟩,agr_of2 rfl⟩
 ·rw [zip_fold (wnStp v sp g (flowsR sp gs) (goalV w (ownW sp rows g gs) a) D),wnStp_fold]
  refine gcI (cOf_half _ _) rfl ?_
  exact h
end
section
variable {v:Bool} {sp:List Int} {mo tu:Int} {rows:List (List Cell)} {ots:List (List N)} {g:G} {gs:List G} {w a:Int} {D:List Cell→RwD} {rep:Int×Int}
noncomputable abbrev rJ (v:Bool)(sp:List Int)(mo tu:Int)(rows:List (List Cell))(ots:List (List N))(g:G)(gs:List G)(w a:Int)(D:List Cell→RwD)(rep:Int×Int)(tbl:List N):En:=rI v sp mo tu rows ots g gs w a D rep tbl++[(92,.fr (.lst (Ns.D tbl)))]
theorem stE3 (s0 s:Int×Int)(hs:spOk sp)(hn:sp.length≤10)(hrl:rows.length≤10)(hr1:rows≠[])(hD:∀ cs∈rows,RwOk v sp g (flowsR sp gs) (D cs)){tbl:List N}(hb:tbl.filterMap isBx=rows.map fun cs=>((D cs).due v sp g (flowsR sp gs)).p)(hk:∀ n∈tbl,noBx n)(htl:tbl.length≤900){k:Nat}{r:Rs}(hr:r=.ok (.fr (.bool true)) [bx s]) :
  sT (cOf 103 [bx s0]) b103_15 ⟨GG nS (k+15),r=.ovf⟩ (rJ v sp mo tu rows ots g gs w a D rep tbl) [bx s] (retK 1 r):=by
 refine compL (σ:=Unit) (fun zz=>[bx s]) (fun s zz=>s) (fun zz n=>isBx n) () tbl _ (items_N tbl) (by lia) rfl (fun zz=>rfl) (fun zz n A hn=>?_) ?_
 ·have hkn:=hk n hn
  rcases n with ⟨_,_⟩|⟨_,_⟩|⟨_,_,_⟩|⟨_⟩|⟨b,is⟩|⟨_,_⟩
  ·exact hkn.elim
  ·exact ⟨List.append_nil A,rfl,trivial⟩
  ·exact ⟨List.append_nil A,rfl,trivial⟩
  ·exact ⟨List.append_nil A,rfl,trivial⟩
  ·obtain ⟨bv,b⟩:=b
   cases bv <;> exact ⟨rfl,rfl,trivial⟩
  ·exact hkn.elim
 ·rw [outs_pure,hb]
  refine gcI (cOf_half _ _) rfl ?_
  refine compM (fun cs:List Cell=>iL (plcs (D cs).lb ((D cs).P g (flowsR sp gs)))) rows _ (items_seq (fun cs:List Cell=>((D cs).due v sp g (flowsR sp gs)).p) rows) (by lia) rfl (fun cs A hcs=>?_) ?_
  ·obtain ⟨r1,r2,r3,r4,r5,r6,r7,r8,r9,r10⟩:=hD cs hcs
   refine use0 (c67 (k:=k+12) r5 r10) rfl ?_
   have c:=c101 (k:=k+14) (l:=plcs (D cs).lb (.skip g 109::dueR v (D cs).lb (D cs).os sp (flowsR sp gs))) hs (by lia)
   rw [r8] at c
   refine use0 c rfl ?_
   exact ⟨rfl,rfl,trivial⟩
  ·refine compM (fun cs:List Cell=>iL (plcs (D cs).lb ((D cs).P g (flowsR sp gs)))) rows _ (items_seq (lvD D g (flowsR sp gs) rep) rows) (by lia) rfl (fun cs A hcs=>?_) ?_
   ·obtain ⟨r1,r2,r3,r4,r5,r6,r7,r8,r9,r10⟩:=hD cs hcs
    refine use0 (c67 (k:=k+12) r5 r9) rfl ?_
    exact ⟨rfl,rfl,rfl,trivial⟩
   ·refine cmp_eqL (fun e=>hr1 (List.map_eq_nil_iff.mp e)) (fun x hx=>?_) ?_
    ·obtain ⟨cs,_,rfl⟩:=List.mem_map.mp hx
     exact (show Dat 7 (.lst _) from dat_ints 6 _)
    ·exact retN 1 rfl hr
theorem stE2 (s0 s:Int×Int)(hs:spOk sp)(hn:sp.length≤10)(hrl:rows.length≤10)(hr1:rows≠[])(htu:(rows.length:Int)=tu)(hD:∀ cs∈rows,RwOk v sp g (flowsR sp gs) (D cs)){tbl:List N}(hb:tbl.filterMap isBx=rows.map fun cs=>((D cs).due v sp g (flowsR sp gs)).p)(hk:∀ n∈tbl,noBx n)(htl:tbl.length≤900)(hlv:∀ n∈tbl,n.lev≤3)(hda:∀ n∈tbl,Dat 7 n.D)(hft:Ns.fit tbl){k:Nat}{r:Rs}(hr:r=.ok (.fr (.bool true)) [bx s]) :
  sT (cOf 103 [bx s0]) b103_17 ⟨GG nS (k+15),r=.ovf⟩ (rJ v sp mo tu rows ots g gs w a D rep tbl) [bx s] (retK 1 r):=by
 refine use0 (c49t (k:=k+1) htl hlv hft) rfl ?_
 refine cmp_neT (dat_Ns hda) ?_
 refine compM (fun zz:List Cell=>pr rep) rows _ (items_seq (lvD D g (flowsR sp gs) rep) rows) (by lia) rfl (fun cs A hcs=>⟨rfl,rfl,trivial⟩) ?_
 refine ⟨le4 rfl,?_⟩
 have et:tu.toNat=rows.length:=by rw [← htu]; rfl
 have e:(List.replicate tu.toNat [pr rep]).flatten=rows.map fun zz=>pr rep:=by
  rw [et,List.flatten_replicate_singleton,List.map_const']
 refine ⟨by rw [← htu]; exact Nat.le_trans hrl (by decide),by show 1*tu.toNat≤256; rw [Nat.one_mul,et]; exact Nat.le_trans hrl (by decide),?_⟩
 rw [e]
 refine cmp_ne rfl (fun e=>hr1 (List.map_eq_nil_iff.mp e)) (fun x hx=>?_) ?_
 ·obtain ⟨cs,_,rfl⟩:=List.mem_map.mp hx
  exact (show Dat 7 (pr rep) from dat_ints 6 [rep.1,rep.2])
 ·refine gcI (cOf_half _ _) rfl ?_
  exact stE3 s0 s hs hn hrl hr1 hD hb hk htl hr
end
noncomputable def hit:Nat→List Int→List Cell→Nat→List (Int×Int)
 | c,m::sp,x::cs,j=>(if j=c+m.toNat-1 then [((c:Int),x.al)] else [])++hit (c+m.toNat) sp cs j
 | z1,[],z2,z3=>[]
 | z1,z2::z3,[],z4=>[]
theorem addRow_hit {v:Bool}:∀(sp:List Int)(cs:List Cell)(c:Nat)(en:En2)(j:Nat),spOk sp→All2 (CellG v) sp cs→addRow en (pl (c:Int) cs) j=en j++hit c sp cs j
 | [],[],z1,z2,z3,z4,z5=>(List.append_nil _).symm
 | m::sp,x::cs,c,en,j,hs,h=>by
  have hm:=hs m (.head _)
  have hx:=h.1.vert.2
  have e1:((c:Int)+x.1.spans-1).toNat=c+m.toNat-1:=by rw [hx]; exact m12 hm
  have e2:(c:Int)+x.1.spans=((c+m.toNat:Nat):Int):=by rw [hx]; rcases hm with rfl|rfl <;> rfl
  have ih:=addRow_hit sp cs (c+m.toNat) (fun j=>if j=((c:Int)+x.1.spans-1).toNat then en j++[((c:Int),x.al)] else en j) j (fun m hm=>hs m (.tail _ hm)) h.2
  have e3:addRow en (pl (c:Int) (x::cs)) j=addRow (fun j=>if j=((c:Int)+x.1.spans-1).toNat then en j++[((c:Int),x.al)] else en j) (pl ((c:Int)+x.1.spans) cs) j:=rfl
  rw [e3,show pl ((c:Int)+x.1.spans) cs=pl ((c+m.toNat:Nat):Int) cs by rw [e2],ih]
  show (if j=((c:Int)+x.1.spans-1).toNat then en j++[((c:Int),x.al)] else en j)++_=en j++((if j=c+m.toNat-1 then [((c:Int),x.al)] else [])++_)
  rw [e1]
  by_cases q:j=c+m.toNat-1
  ·rw [if_pos q,if_pos q,List.append_assoc]
  ·rw [if_neg q,if_neg q]; rfl
 | [],z1::z2,z3,z4,z5,z6,h=>h.elim
 | z1::z2,[],z3,z4,z5,z6,h=>h.elim
theorem ends_nodes (en:En2):∀(os:List N)(r:List E),ends en (os.map E.node++r)=ends en r
 | [],z1=>rfl
 | z1::os,r=>ends_nodes en os r
noncomputable def hits (c:Nat)(sp:List Int)(rows:List (List Cell))(j:Nat):List (Int×Int):=(rows.map fun cs=>hit c sp cs j).flatten
theorem ends_hit {v:Bool}{sp:List Int}(hs:spOk sp):∀(l:List (List Cell×List N))(en:En2)(j:Nat),(∀ p∈l,All2 (CellG v) sp p.1)→ends en (whE l) j=en j++hits 0 sp (l.map Prod.fst) j
 | [],z1,z2,z3=>(List.append_nil _).symm
 | p::r,en,j,h=>by
  show ends (addRow en (pl ((0:Nat):Int) p.1)) (p.2.map E.node++whE r) j=_
  rw [ends_nodes,ends_hit hs r _ j fun q hq=>h q (.tail _ hq),addRow_hit sp p.1 0 en j hs (h p (.head _)),List.append_assoc]; rfl
theorem hit_low:∀(sp:List Int)(cs:List Cell)(c j:Nat),spOk sp→j<c→hit c sp cs j=[]
 | [],z1,z2,z3,z4,z5=>rfl
 | z1::z2,[],z3,z4,z5,z6=>rfl
 | m::sp,x::cs,c,j,hs,hj=>by
  have hm:=hs m (.head _)
  show (if _ then _ else _)++hit (c+m.toNat) sp cs j=[]
  rw [if_neg (hl_ar hj hm),hit_low sp cs (c+m.toNat) j (fun m hm=>hs m (.tail _ hm)) (Nat.lt_of_lt_of_le hj (Nat.le_add_right _ _))]; rfl
theorem hits_nil {c:Nat}{sp:List Int}{rows:List (List Cell)}{j:Nat}(h:∀ cs∈rows,hit c sp cs j=[]):hits c sp rows j=[]:=by
 unfold hits
 induction rows with
 | nil=>rfl
 | cons a r ih=>rw [List.map_cons,List.flatten_cons,h a (.head _),ih fun cs hc=>h cs (.tail _ hc)]; rfl
theorem wk_tail (rows:List (List Cell))(k:Nat):wk rows (k+1)=wk (rows.map List.tail) k:=by
 unfold wk
 rw [List.map_map]
 refine congrArg maxL (List.map_congr_left fun cs zz=>?_)
 cases cs <;> rfl
theorem wdL_cons (rows:List (List Cell))(n:Nat):wdL rows (n+1)=wk rows 0::wdL (rows.map List.tail) n:=by
 unfold wdL
 rw [List.range_succ_eq_map,List.map_cons,List.map_map]
 exact congrArg (wk rows 0::·) (List.map_congr_left fun k zz=>wk_tail rows k)
theorem hits_head {v:Bool}{m:Int}{sp:List Int}(hs:spOk (m::sp))(c:Nat):∀(rows:List (List Cell)),(∀ cs∈rows,All2 (CellG v) (m::sp) cs)→hits c (m::sp) rows (c+m.toNat-1)=(rows.map fun cs=>alAt cs 0).map fun x=>((c:Int),x)
 | [],z1=>rfl
 | []::z1,h=>(h _ (.head _)).elim
 | (x::cs)::r,h=>by
  have hm:=hs m (.head _)
  have ih:=hits_head hs c r fun q hq=>h q (.tail _ hq)
  show ((if c+m.toNat-1=c+m.toNat-1 then _ else _)++hit (c+m.toNat) sp cs (c+m.toNat-1))++hits c (m::sp) r _=_
  rw [if_pos rfl,hit_low sp cs (c+m.toNat) _ (fun m hm=>hs m (.tail _ hm)) (by rcases hm with rfl|rfl <;> exact Nat.lt_succ_self _),ih]; rfl
theorem hits_tail {v:Bool}{m:Int}{sp:List Int}(c:Nat){j:Nat}(hj:j≠c+m.toNat-1):∀(rows:List (List Cell)),(∀ cs∈rows,All2 (CellG v) (m::sp) cs)→hits c (m::sp) rows j=hits (c+m.toNat) sp (rows.map List.tail) j
 | [],z1=>rfl
 | []::z1,h=>(h _ (.head _)).elim
 | (x::cs)::r,h=>by
  have ih:=hits_tail c hj r fun q hq=>h q (.tail _ hq)
  show ((if _ then _ else _)++hit (c+m.toNat) sp cs j)++hits c (m::sp) r j=_
  rw [if_neg hj,ih]; rfl
noncomputable def EnD (D:List (Option Int))(c:Nat)(sp:List Int)(rows:List (List Cell))(j:Nat):Option Int→Prop
 | none=>hits c sp rows (c+j)=[]
 | some w=>∃ (f:Nat) (n:Int) (ns:List Int),hits c sp rows (c+j)=(n::ns).map (fun x=>((f:Int),x))∧ns.foldl max n=w∧c≤f∧f≤c+j∧∀ i,f≤c+i→i<j→D[i]?=some none
theorem asw (c k x:Nat):c+(x+k)=c+k+x:=by rw [Nat.add_comm x,Nat.add_assoc]
theorem en_head {D:List (Option Int)}{c:Nat}{sp:List Int}{rows:List (List Cell)}{j:Nat}(hr:rows≠[])(first:hits c sp rows (c+j)=(rows.map fun cs=>alAt cs 0).map fun x=>((c:Int),x))(hi:∀ i,i<j→D[i]?=some none):EnD D c sp rows j (some (wk rows 0)):=by
 rcases rows with _|⟨r0,rs⟩
 ·exact absurd rfl hr
 ·exact ⟨c,alAt r0 0,rs.map fun cs=>alAt cs 0,first,rfl,Nat.le_refl c,Nat.le_add_right c j,fun i _ hij=>hi i hij⟩
theorem en_tail {D D':List (Option Int)}{c k:Nat}{sp sp':List Int}{rows rows':List (List Cell)}{j:Nat}(hD:∀ i,D'[i+k]?=D[i]?)(eh:hits c sp' rows' (c+(j+k))=hits (c+k) sp rows (c+(j+k))):∀{w:Option Int},EnD D (c+k) sp rows j w→EnD D' c sp' rows' (j+k) w
 | none,ih=>(eh.trans (congrArg _ (asw c k j))).trans ih
 | some w,⟨f,n,ns,h1,h2,h3,h4,h5⟩=>⟨f,n,ns,(eh.trans (congrArg _ (asw c k j))).trans h1,h2,Nat.le_trans (Nat.le_add_right c k) h3,Nat.le_trans h4 (Nat.le_of_eq (asw c k j).symm),fun i hi hij=>by
  obtain ⟨i,rfl⟩:=Nat.exists_eq_add_of_le' (Nat.le_of_add_le_add_left (Nat.le_trans h3 hi))
  exact (hD i).trans (h5 i (Nat.le_trans hi (Nat.le_of_eq (asw c k i))) (Nat.lt_of_add_lt_add_right hij))⟩
theorem en_due {v:Bool}:∀(sp:List Int)(rows:List (List Cell))(c:Nat),spOk sp→rows≠[]→(∀ cs∈rows,All2 (CellG v) sp cs)→∀(j:Nat)(w:Option Int),(dueD sp (wdL rows sp.length))[j]?=some w→EnD (dueD sp (wdL rows sp.length)) c sp rows j w
 | [],z1,z2,z3,z4,z5,z6,z7,e=>by injection e
 | m::sp,rows,c,hs,hr,h,j,w,e=>by
  have ht:∀ cs∈rows.map List.tail,All2 (CellG v) sp cs:=fun cs hcs=>by
   obtain ⟨d,hd,rfl⟩:=List.mem_map.mp hcs
   have:=h d hd
   rcases d with _|⟨x,r⟩
   ·exact this.elim
   ·exact this.2
  have hs':spOk sp:=fun m hm=>hs m (.tail _ hm)
  have first:=hits_head hs c rows h
  rw [show wdL rows (m::sp).length=wk rows 0::wdL (rows.map List.tail) sp.length from wdL_cons rows sp.length] at e ⊢
  rcases hs m (.head _) with rfl|rfl
  ·rcases j with _|⟨j⟩
   ·obtain rfl:=Option.some.inj e
    exact en_head hr first fun i hi=>absurd hi (Nat.not_lt_zero i)
   ·exact en_tail (k:=1) (fun i=>rfl) (hits_tail c (Nat.ne_of_gt (Nat.lt_add_of_pos_right (Nat.succ_pos j))) rows h) (en_due sp (rows.map List.tail) (c+1) hs' (fun q=>hr (List.map_eq_nil_iff.mp q)) ht j w e)
  ·rcases j with _|_|⟨j⟩
   ·obtain rfl:=Option.some.inj e
    exact (hits_tail c (Nat.ne_of_lt (Nat.lt_succ_self c)) rows h).trans (hits_nil fun cs zz=>hit_low sp cs _ _ hs' (Nat.lt_add_of_pos_right (Nat.succ_pos 1)))
   ·obtain rfl:=Option.some.inj e
    exact en_head hr first fun i hi=>by obtain rfl:=Nat.lt_one_iff.mp hi; rfl
   ·exact en_tail (k:=2) (fun i=>rfl) (hits_tail c (fun q=>Nat.succ_ne_zero _ (Nat.succ.inj (Nat.add_left_cancel (q:c+(j+2)=c+1)))) rows h) (en_due sp (rows.map List.tail) (c+2) hs' (fun q=>hr (List.map_eq_nil_iff.mp q)) ht j w e)
noncomputable def osL (v:Bool):List Cell→List Int→List BN
 | c::cs,w::ws=>ownO v c w::osL v cs ws
 | z1,z2=>[]
theorem rel_row {v:Bool}:∀{sp:List Int}{cs:List Cell}{ws:List Int},spOk sp→All2 (CellG v) sp cs→ws.length=sp.length→(∀ lb,RelL v lb cs sp ws (osL v cs ws))∧Sides v cs (osL v cs ws)
 | [],[],[],z1,z2,z3=>⟨fun zz=>.nil,trivial⟩
 | m::sp,c::cs,w::ws,hs,h,hl=>by
  have ih:=rel_row (fun m hm=>hs m (.tail _ hm)) h.2 (Nat.succ.inj hl)
  obtain ⟨ns,hn,rfl⟩:=h.1
  have d:=dep_nn ns (T0,0,0) hn.all (Int.le_refl 0)
  have k:=fun lb=>rel_mk (v:=v) (lb:=lb) (many:=m) (w:=w) (ns:=ns) d
  have hv:(mkCell v m ns).1.spans=m:=by cases v <;> rfl
  exact ⟨fun lb=>.cons hv (hs m (.head _)) (k lb).1 (ih.1 lb),⟨(k ⟨v,0,0,0,0,0,0,0,0⟩).2,ih.2⟩⟩
 | [],z1::z2,z3,z4,h,z5=>h.elim
 | z1::z2,[],z3,z4,h,z5=>h.elim
 | [],[],z1::z2,z3,z4,h=>by injection h
 | z1::z2,z3::z4,[],z5,z6,h=>by injection h
theorem okSp_of:∀{sp:List Int},spOk sp→okSp sp
 | [],z1=>trivial
 | m::r,h=>⟨h m (.head _),okSp_of fun m hm=>h m (.tail _ hm)⟩
theorem mkCell_b {v:Bool}{m:Int}{ns:List N}(h:LsOk ns):Ab 56000000 (mkCell v m ns).al∧Dim (mkCell v m ns).1.w∧Dim (mkCell v m ns).1.h∧Dim (mkCell v m ns).1.d∧TB 56000000 60 (mkCell v m ns).1.t∧Dim (cside v (mkCell v m ns)).1∧Dim (cside v (mkCell v m ns)).2:=by
 rcases v with _|_
 ·refine cp fun kk=>?_
  obtain ⟨b1,b2,b3⟩:=h.line
  refine kk ?_
  exact ⟨bd_mono b1.n (by decide) (by decide),dimA b1.n (by decide),dim0 b2 (by decide),dim0 b3 (by decide),b1.mono (by decide) (by decide),dim0 b2 (by decide),dim0 b3 (by decide)⟩
 ·refine cp fun kk=>?_
  obtain ⟨b1,b2,b3⟩:=h.col
  have hb:TB 56000000 60 ((natCol ns).1.wide (natCol ns).2.2):=b1.wide b3
  refine kk ?_
  exact ⟨hb.n,dim0 b2 (by decide),dimA hb.n (by decide),d0,hb,dim0 b2 (by decide),d0⟩
theorem CellG.b {v:Bool}{m:Int}{c:Cell}(h:CellG v m c):Ab 56000000 c.al∧Dim c.1.w∧Dim c.1.h∧Dim c.1.d∧TB 56000000 60 c.1.t∧Dim (cside v c).1∧Dim (cside v c).2:=by
 refine cp fun kk=>?_
 obtain ⟨ns,hn,rfl⟩:=h
 refine kk ?_
 exact mkCell_b hn
theorem maxL_b {b:Int}(hb:0≤b):∀(l:List Int),(∀ x∈l,Ab b x)→Ab b (maxL l)
 | [],z1=>ab0 hb
 | a::r,h=>by
  have:∀(r:List Int)(a:Int),Ab b a→(∀ x∈r,Ab b x)→Ab b (r.foldl max a):=by
   intro r
   induction r with
   | nil=>intro a ha _; exact ha
   | cons x r ih =>
    intro a ha h
    refine ih _ ?_ fun y hy=>h y (.tail _ hy)
    have hx:=h x (.head _)
    exact bd_max ha hx.2
  exact this r a (h a (.head _)) fun x hx=>h x (.tail _ hx)
theorem wk_b {v:Bool}{sp:List Int}{rows:List (List Cell)}(h:∀ cs∈rows,All2 (CellG v) sp cs)(k:Nat):Ab 56000000 (wk rows k):=maxL_b (by decide) _ fun x hx=>by
 obtain ⟨cs,hcs,rfl⟩:=List.mem_map.mp hx
 unfold alAt
 rcases e:cs[k]? with _|⟨c⟩
 ·exact ⟨by decide,by decide⟩
 ·obtain ⟨m,_,hc⟩:=(h cs hcs).get e
  exact hc.b.1
theorem wgT_b {m:Int}:∀(l:List WG)(t:T){a b:Int},TB a b t→0≤b→0≤m→(∀ x∈l,Ab m x.w∧aG x.g)→TB (a+(m+4000000)*l.length) (b+20*l.length) (wgT t l)
 | [],t,a,b,h,z1,z2,z3=>h.mono (by show a≤a+(m+4000000)*0; rw [Int.mul_zero,Int.add_zero]; exact Int.le_refl a) (Int.le_of_eq (Int.add_zero b).symm)
 | x::r,t,a,b,h,hb,hm,hl=>by
  have hx:=hl x (.head _)
  have:=wgT_b r ((t.wide x.w).add x.g) ((h.wide hx.1).add hb hx.2.w hx.2.st hx.2.sh) (Int.add_nonneg hb (by decide)) hm fun y hy=>hl y (.tail _ hy)
  refine this.mono ?_ ?_
  ·rw [List.length_cons]; show a+m+4000000+(m+4000000)*(r.length:Int)≤a+(m+4000000)*((r.length:Int)+1); rw [Int.mul_add,Int.mul_one,Int.add_assoc a m,Int.add_assoc a,Int.add_comm (m+4000000)]; exact Int.le_refl _
  ·rw [List.length_cons]; show b+20+20*(r.length:Int)≤b+20*((r.length:Int)+1); rw [Int.mul_add,Int.add_assoc,Int.add_comm 20]; exact Int.le_refl _
theorem wgs_mem:∀{ws:List Int}{gs:List G}{x:WG},x∈wgs ws gs→x.w∈ws∧x.g∈gs
 | w::ws,g::gs,x,h=>by
  rcases List.mem_cons.mp h with rfl|h
  ·exact ⟨.head _,.head _⟩
  ·have:=wgs_mem h
   exact ⟨.tail _ this.1,.tail _ this.2⟩
 | [],z1,z2,h=>by cases h
 | z1::z2,[],z3,h=>by cases h
theorem wgs_len:∀(ws:List Int)(gs:List G),(wgs ws gs).length≤ws.length
 | w::ws,g::gs=>Nat.succ_le_succ (wgs_len ws gs)
 | [],z1=>Nat.le_refl 0
 | z1::z2,[]=>Nat.zero_le _
theorem wgT_nat:∀(ws:List Int)(gs:List G)(t:T),ws.length=gs.length→(wgT t (wgs ws gs)).nat=t.nat+(ws.sum+(gs.map G.w).sum)
 | [],[],t,z1=>(Int.add_zero _).symm
 | w::ws,g::gs,t,h=>by
  show (wgT ((t.wide w).add g) (wgs ws gs)).nat=_
  rw [wgT_nat ws gs _ (Nat.succ.inj h),List.map_cons,List.sum_cons,List.sum_cons]
  show t.nat+w+g.w+_=_
  lia
 | [],z1::z2,z3,h=>by injection h
 | z1::z2,[],z3,h=>by injection h
theorem flowsR_mem:∀{sp:List Int}{gs:List G}{x:G},x∈flowsR sp gs→x∈gs∨x=G0
 | [],z1,z2,h=>by cases h
 | m::sp,gs,x,h=>by
  have get:∀(gs:List G)(i:Int),getG gs i∈gs∨getG gs i=G0:=fun gs i=>by
   unfold getG
   rcases e:gs[i.toNat]? with _|⟨y⟩
   ·exact .inr rfl
   ·exact .inl (List.mem_of_getElem? e)
  unfold flowsR at h
  split at h
  ·rcases List.mem_cons.mp h with rfl|h
   ·exact get _ _
   ·exact (flowsR_mem h).imp (fun h=>List.mem_of_mem_drop h) id
  ·rcases List.mem_cons.mp h with rfl|h
   ·exact get _ _
   ·exact (flowsR_mem h).imp (fun h=>List.mem_of_mem_drop h) id
theorem aG0:aG G0:=⟨⟨by decide,by decide,by decide,by decide⟩,⟨by decide,by decide⟩,⟨by decide,by decide⟩,⟨by decide,by decide⟩⟩
theorem goalOf_eq (v:Bool)(P:List N)(mode a:Int):goalOf v P (mdD v) mode a=if mode=0 then a else (packT v P (mdD v)).1.nat+a:=by cases v <;> rfl
theorem POk_of {v:Bool}{P:List N}{G:Int}(h:Dim G)(h1:Dim (packT v P (mdD v)).2.1)(h2:Dim (packT v P (mdD v)).2.2)(ht:(packT v P (mdD v)).1.tot (G-(packT v P (mdD v)).1.nat)<2 ^ 60):POk v P G:=by
 rcases v with _|_
 ·exact ⟨(fun e=>by injection e),fun zz=>⟨h,h1,h2,ht⟩⟩
 ·exact ⟨fun zz=>⟨h,h1,h2,ht⟩,fun e=>by cases e⟩
theorem packB_dims (v:Bool)(P:List N)(G:Int)(h:Dim G)(h1:Dim (packT v P (mdD v)).2.1)(h2:Dim (packT v P (mdD v)).2.2):Dim (packB v P (mdD v) G).w∧Dim (packB v P (mdD v) G).h∧Dim (packB v P (mdD v) G).d:=by
 rcases v with _|_
 ·exact ⟨h,h1,h2⟩
 ·exact ⟨h1,h,h2⟩
theorem setG_rok {t:T}{x:Int}{b:Int}(hb:0≤b)(hb2:b<2 ^ 59)(h:TB b b t)(hx:x.natAbs<2 ^ 59)(bx:B):(bx.put (setG t x)).rok:=by
 have ht:Ab b (t.tot x):=by
  unfold T.tot
  split
  ·exact getI_ab hb h.st
  ·exact getI_ab hb h.sh
 have one:∀ s o:Int,(bx.put ⟨s,o,1,1⟩).rok:=fun s o=>⟨by show (0:Int)<1; decide,by show (1:Int)<2 ^ 60; decide,by show (1:Int).natAbs<2 ^ 60; decide⟩
 have zero:(bx.put ⟨0,0,0,1⟩).rok:=⟨by show (0:Int)<1; decide,by show (1:Int)<2 ^ 60; decide,by show (0:Int).natAbs<2 ^ 60; decide⟩
 unfold setG
 split
 ·exact zero
 ·unfold setO
  split
  ·exact zero
  ·split
   ·exact one _ _
   ·rename_i h0 _
    have hq:0<(quo x.natAbs (t.tot x)).2∧(quo x.natAbs (t.tot x)).2<2 ^ 60∧((quo x.natAbs (t.tot x)).1).natAbs<2 ^ 60:=by
     unfold Ab at ht
     unfold quo
     split
     ·exact ⟨by assumption,Int.lt_of_le_of_lt ht.2 (Int.lt_trans hb2 (by decide)),Nat.lt_trans hx (by decide)⟩
     ·exact ⟨Int.neg_pos_of_neg ((Int.lt_or_gt_of_ne h0).resolve_right (by assumption)),Int.lt_of_le_of_lt (Int.neg_le_of_neg_le ht.1) (Int.lt_trans hb2 (by decide)),by show (-(x.natAbs:Int)).natAbs<_; rw [Int.natAbs_neg]; exact Nat.lt_trans hx (by decide)⟩
    exact ⟨hq.1,hq.2.1,hq.2.2⟩
theorem packB_rok {v:Bool}{P:List N}{G:Int}{b:Int}(hb:0≤b)(hb2:b<2 ^ 58)(h:TB b b (packT v P (mdD v)).1)(hG:Dim G):(packB v P (mdD v) G).rok:=by
 have hn:=h.n
 have hx:(G-(packT v P (mdD v)).1.nat).natAbs<2 ^ 59:=bd_na (bd_sub hG (ab_mono hn (Int.le_of_lt hb2))) (by decide) (by decide)
 rcases v with _|_
 ·exact setG_rok hb (Int.lt_trans hb2 (by decide)) h hx _
 ·exact setG_rok hb (Int.lt_trans hb2 (by decide)) h hx _
section
variable {v:Bool} {sp:List Int} {mo tu:Int} {rows:List (List Cell)} {ots:List (List N)} {g:G} {gs:List G}
noncomputable abbrev TT (sp:List Int)(rows:List (List Cell))(g:G)(gs:List G):T:=wgT (T0.add g) (wgs (wdL rows sp.length) (flowsR sp gs))
noncomputable abbrev osR (v:Bool)(sp:List Int)(rows:List (List Cell))(cs:List Cell):List BN:=osL v cs (wdL rows sp.length)
noncomputable abbrev PJ (v:Bool)(sp:List Int)(rows:List (List Cell))(g:G)(gs:List G)(cs:List Cell):List N:=lineN ((osR v sp rows cs).map BN.n) (g::flowsR sp gs)
noncomputable abbrev P0 (v:Bool)(sp:List Int)(mo:Int)(rows:List (List Cell))(g:G)(gs:List G):List N:=proto v (duL sp mo rows) (g::gs)
theorem wdL_len:(wdL rows sp.length).length=sp.length:=by unfold wdL; rw [List.length_map,List.length_range]
theorem dueD_len:∀(sp ws:List Int),spOk sp→ws.length=sp.length→((dueD sp ws).length:Int)=sp.sum
 | [],[],z1,z2=>rfl
 | m::sp,w::ws,h,hl=>by
  have ih:=dueD_len sp ws (fun m hm=>h m (.tail _ hm)) (Nat.succ.inj hl)
  show ((duD1 m w++dueD sp ws).length:Int)=_
  rw [List.length_append,List.sum_cons]
  rcases h m (.head _) with rfl|rfl
  ·exact congrArg (fun x:Int=>1+x) ih
  ·exact congrArg (fun x:Int=>2+x) ih
 | [],z1::z2,z3,h=>by injection h
 | z1::z2,[],z3,h=>by injection h
theorem spOk_sum:∀{sp:List Int},spOk sp→(sp.length:Int)≤sp.sum∧sp.sum≤2*sp.length
 | [],z1=>⟨Int.le_refl 0,Int.le_refl 0⟩
 | m::sp,h=>by
  have ih:=spOk_sum (sp:=sp) fun m hm=>h m (.tail _ hm)
  have hm:=h m (.head _)
  rw [List.length_cons,List.sum_cons]
  exact bd_mono (bd_add (bd_12 hm) ih) (Int.le_of_eq (Int.add_comm (sp.length:Int) 1 :)) (Int.le_of_eq (Int.add_comm 2 (2*(sp.length:Int)) :))
structure Rnd (v:Bool)(sp:List Int)(mo tu:Int)(rows:List (List Cell))(ots:List (List N))(g:G)(gs:List G):Prop where
 hs:spOk sp
 h1:1≤sp.length
 hn:sp.length≤10
 hmo:0≤mo∧mo≤1
 htu:1≤tu∧tu≤3
 M:Made v sp mo tu rows ots (g::gs)
variable (Z:Rnd v sp mo tu rows ots g gs)
include Z
theorem Rnd.gl:(gs.length:Int)=sp.sum+mo:=by
 have e:=Z.M.gl
 have h0:=Int.add_nonneg (Int.add_nonneg (Int.le_trans (Int.natCast_nonneg _) (spOk_sum Z.hs).1) (show (0:Int)≤1 by decide)) Z.hmo.1
 have e:((gs.length+1:Nat):Int)=sp.sum+1+mo:=(congrArg (fun n:Nat=>(n:Int)) e).trans (Int.toNat_of_nonneg h0)
 rw [Int.add_right_comm] at e
 exact (Int.add_sub_cancel (gs.length:Int) 1).symm.trans ((congrArg (fun x:Int=>x-1) e).trans (Int.add_sub_cancel _ 1))
theorem Rnd.dl:(duL sp mo rows).length=gs.length:=by
 have a:=dueD_len sp (wdL rows sp.length) Z.hs wdL_len
 have b:=Z.gl
 have:=Z.hmo
 rw [List.length_append,List.length_replicate]
 refine Int.ofNat.inj ?_
 show ((dueD sp (wdL rows sp.length)).length:Int)+(mo.toNat:Int)=gs.length
 rw [a,b,Int.toNat_of_nonneg this.1]
theorem Rnd.hg:gs.length=(dueD sp (wdL rows sp.length)++List.replicate mo.toNat none).length:=Z.dl.symm
theorem Rnd.gn:1≤gs.length∧gs.length≤30:=by
 have b:=Z.gl
 have h:=bd_add (spOk_sum Z.hs) Z.hmo
 rw [← b,Int.add_zero] at h
 exact ⟨Nat.le_trans Z.h1 (Int.ofNat_le.mp h.1),Int.ofNat_le.mp (Int.le_trans h.2 (Int.le_trans (Int.add_le_add_right (bd_mul 2 (by decide) (bd_len Z.hn)).2 1) (by decide)))⟩
theorem Rnd.ag:∀ x∈g::flowsR sp gs,aG x:=fun x hx=>by
 rcases List.mem_cons.mp hx with rfl|hx
 ·exact Z.M.g _ (.head _)
 ·rcases flowsR_mem hx with h|rfl
  ·exact Z.M.g _ (.tail _ h)
  ·exact aG0
theorem Rnd.tb:TB 700000000 300 (TT sp rows g gs):=by
 have hg:=Z.M.g g (.head _)
 have t0:TB 4000000 20 (T0.add g):=TB0.add (Int.le_refl 0) hg.w hg.st hg.sh
 have:=wgT_b (m:=56000000) (wgs (wdL rows sp.length) (flowsR sp gs)) _ t0 (by decide) (by decide) fun x hx=>by
  have hm:=wgs_mem hx
  refine ⟨?_,Z.ag x.g (.tail _ hm.2)⟩
  obtain ⟨k,_,e⟩:=List.mem_map.mp hm.1
  rw [← e]; exact wk_b Z.M.r k
 have hl:=wgs_len (wdL rows sp.length) (flowsR sp gs)
 rw [wdL_len] at hl
 have hn:=Z.hn
 exact this.mono (by lia) (by lia)
theorem Rnd.nat:(TT sp rows g gs).nat=ownW sp rows g gs:=by
 have:=wgT_nat (wdL rows sp.length) (flowsR sp gs) (T0.add g) (by rw [wdL_len,flowsR_len])
 rw [this]
 show (0+g.w)+_=_+((g::flowsR sp gs).map G.w).sum
 rw [List.map_cons,List.sum_cons]
 lia
structure RowF (v:Bool)(sp:List Int)(mo:Int)(rows:List (List Cell))(g:G)(gs:List G)(cs:List Cell):Prop where
 rel:∀ lb,RelL v lb cs sp (wdL rows sp.length) (osR v sp rows cs)
 sd:Sides v cs (osR v sp rows cs)
 pT:(packT v (PJ v sp rows g gs cs) (mdD v)).1=TT sp rows g gs
 h:Dim (packT v (PJ v sp rows g gs cs) (mdD v)).2.1
 d:Dim (packT v (PJ v sp rows g gs cs) (mdD v)).2.2
 main:∀ goal,rowB v (pl 0 cs) (packB v (P0 v sp mo rows g gs) (mdD v) goal)=packB v (PJ v sp rows g gs cs) (mdD v) goal ∧
  fin1 v (duL sp mo rows) g gs (plcs (packB v (P0 v sp mo rows g gs) (mdD v) goal) (P0 v sp mo rows g gs)) (packB v (P0 v sp mo rows g gs) (mdD v) goal) (.row cs) =
   .box (packB v (PJ v sp rows g gs cs) (mdD v) goal) (.skip g 109::dueR v (packB v (PJ v sp rows g gs cs) (mdD v) goal) (osR v sp rows cs) sp (flowsR sp gs))
theorem side_all:∀{cs:List Cell}{os:List BN}{sp:List Int},All2 (CellG v) sp cs→Sides v cs os→∀ o∈os,Dim (side v o).1∧Dim (side v o).2
 | [],[],z1,z2,z3,z4,ho=>by cases ho
 | c::cs,o::os,m::sp,h,hs,x,hx=>by
  rcases List.mem_cons.mp hx with rfl|hx
  ·rw [hs.1]; exact ⟨h.1.b.2.2.2.2.2.1,h.1.b.2.2.2.2.2.2⟩
  ·exact side_all h.2 hs.2 x hx
 | [],z1::z2,z3,z4,h,z5,z6=>h.elim
 | z1::z2,[],z3,z4,h,z5,z6=>h.elim
 | z1::z2,z3::z4,[],h,z5,z6,z7=>h.elim
theorem Rnd.pack0:packT v (P0 v sp mo rows g gs) (mdD v)=(TT sp rows g gs,0,0):=by
 have e:=proto_T (v:=v) (ws:=duL sp mo rows) (g:=g) (gs:=gs)
 rw [eff_due sp (wdL rows sp.length) gs (okSp_of Z.hs) wdL_len.symm Z.hg] at e
 refine (packT_natP fun h=>?_).trans e
 subst h
 have:(natCol (P0 true sp mo rows g gs)).2.2=0:=congrArg (fun x=>x.2.2) e
 rw [this]; decide
theorem Rnd.row {cs:List Cell}(hc:cs∈rows):RowF v sp mo rows g gs cs:=by
 have hA:=Z.M.r cs hc
 obtain ⟨hr,hsd⟩:=rel_row Z.hs hA (wdL_len (rows:=rows))
 have L:=(hr ⟨v,0,0,0,0,0,0,0,0⟩).len
 have eL:=lineN_T (g:=g) (gs:=flowsR sp gs) L.e ((flowsR_len sp gs).trans L.b)
 have hv:v=true→(natCol (PJ v sp rows g gs cs)).2.2≤1073741823:=fun h=>by
  subst h
  have:(natCol (PJ true sp rows g gs cs)).2.2=0:=congrArg (fun x=>x.2.2) eL
  rw [this]; decide
 have eP:=(packT_natP hv).trans eL
 have hd:=side_all Z hA hsd
 refine ⟨hr,hsd,congrArg (fun x=>x.1) eP,?_,?_,fun goal=>?_⟩
 ·rw [eP]
  exact mx_dim _ _ d0 fun x hx=>by
   obtain ⟨o,ho,rfl⟩:=List.mem_map.mp hx
   exact (hd o ho).1
 ·rw [eP]
  show Dim (if v then 0 else _)
  split
  ·exact d0
  ·exact mx_dim _ _ d0 fun x hx=>by
    obtain ⟨o,ho,rfl⟩:=List.mem_map.mp hx
    exact (hd o ho).2
 ·exact row_main (goal:=goal) hr hsd Z.hg hv
end
theorem osL_zip (v:Bool)(rows:List (List Cell)):∀(cs:List Cell)(k:Nat),osL v cs ((List.range' k cs.length).map (wk rows))=(cs.zipIdx k).map fun p=>(packB v p.1.2 0 (wk rows p.2),p.1.2)
 | [],_=>rfl
 | c::cs,k=>congrArg (ownO v c (wk rows k)::·) (osL_zip v rows cs (k+1))
theorem pack_cell {v:Bool}{ns:List N}(h:LsOk ns){z:Int}(hz:Dim z):if v then VOk ns 0 z else HOk ns z:=by
 rcases v with _|_
 ·obtain ⟨b1,b2,b3⟩:=h.line
  exact (show HOk ns z from ⟨hz,dim0 b2 (by decide),dim0 b3 (by decide),Int.lt_of_le_of_lt (b1.tot (by decide)) (by decide)⟩)
 ·obtain ⟨b1,b2,b3⟩:=h.col
  have e:=vT0 (dep_nn ns (T0,0,0) h.all (Int.le_refl 0))
  have tb:TB 56000000 60 ((natCol ns).1.wide (natCol ns).2.2):=b1.wide b3
  refine (show VOk ns 0 z from ⟨hz,?_,?_,?_⟩)
  ·rw [e]; exact dim0 b2 (by decide)
  ·rw [e]; exact d0
  ·rw [e]; exact Int.lt_of_le_of_lt (tb.tot (by decide)) (by decide)
theorem own_none {v:Bool}{m:Int}{ns:List N}(h:LsOk ns):ownOk v ns none∧ownB v ns none=packB v ns 0 (mkCell v m ns).al:=by
 rcases v with _|_
 ·have eh:hW ns 1 0=(mkCell false m ns).al:=Int.add_zero _
  have hd:=dimA (mkCell_b (v:=false) (m:=m) h).1 (by decide)
  refine ⟨?_,?_⟩
  ·show HOk ns (hW ns 1 0)
   rw [eh]; exact pack_cell (v:=false) h hd
  ·show hB ns (hW ns 1 0)=_
   rw [eh]; rfl
 ·have e:=vT0 (dep_nn ns (T0,0,0) h.all (Int.le_refl 0))
  have eh:vH ns 0 1 0=(mkCell true m ns).al:=by
   show (vT ns 0).1.nat+0=(natCol ns).1.nat+(natCol ns).2.2
   refine (Eq.symm e)▸?_
   exact Int.add_zero _
  have hd:=dimA (mkCell_b (v:=true) (m:=m) h).1 (by decide)
  refine ⟨?_,?_⟩
  ·show VOk ns 0 (vH ns 0 1 0)
   rw [eh]; exact pack_cell (v:=true) h hd
  ·show vB ns 0 (vH ns 0 1 0)=_
   rw [eh]; rfl
section
variable {v:Bool} {sp:List Int} {mo tu:Int} {rows:List (List Cell)} {ots:List (List N)} {g:G} {gs:List G} {w a:Int}
variable (Z:Rnd v sp mo tu rows ots g gs)
include Z
theorem Rnd.rn:(rows.length:Int)=tu∧rows.length=ots.length∧rows≠[]∧rows.length≤3:=by
 have a:=Z.M.rl
 have b:=Z.M.ol
 have c:=Z.htu
 refine ⟨by rw [a]; exact Int.toNat_of_nonneg (Int.le_trans (by decide) c.1),a.trans b.symm,fun e=>?_,Nat.le_trans (Nat.le_of_eq a) (bd_tn c (by decide))⟩
 rw [e] at a
 exact absurd (Int.toNat_eq_zero.mp a.symm) (Int.not_le.mpr (Int.lt_of_lt_of_le (by decide) c.1))
theorem Rnd.own {cs:List Cell}(hc:cs∈rows):∀ p∈cs.zipIdx,(∀ n∈p.1.2,n.gok)∧ownOk v p.1.2 (szK tu rows p.2)∧ownB v p.1.2 (szK tu rows p.2)=packB v p.1.2 0 (wk rows p.2):=fun p hp=>by
 obtain ⟨i,hi⟩:=List.mem_iff_getElem?.mp hp
 obtain ⟨e1,e2⟩:=zip_get hi
 obtain ⟨m,_,ns,hn,ec⟩:=(Z.M.r cs hc).get e2
 have e3:p.1.2=ns:=by rw [ec]; cases v <;> rfl
 have hk:Dim (wk rows p.2):=dimA (wk_b Z.M.r p.2) (by decide)
 rw [e3]
 refine ⟨gok_all hn.all,?_⟩
 unfold szK
 by_cases h1:tu=1
 ·rw [if_pos h1]
  have hw:wk rows p.2=(mkCell v m ns).al:=by
   have hr:=Z.rn.1
   rw [h1] at hr
   rcases rows with _|⟨r0,rs⟩
   ·cases hc
   ·rcases rs with _|⟨_,_⟩
    ·rw [List.mem_singleton.mp hc] at e2
     show alAt r0 p.2=_
     unfold alAt
     rw [e1,e2,← ec]
    ·rw [List.length_cons,List.length_cons] at hr; lia
  rw [hw]
  exact own_none hn
 ·rw [if_neg h1]
  refine ⟨?_,by cases v <;> rfl⟩
  exact ⟨hk,pack_cell hn hk⟩
theorem Rnd.ow {cs:List Cell}(hc:cs∈rows):owL v tu rows cs=(osR v sp rows cs).map BN.n:=by
 have hl:=(Z.M.r cs hc).len
 have e:osR v sp rows cs=cs.zipIdx.map fun p=>(packB v p.1.2 0 (wk rows p.2),p.1.2):=by
  have:=osL_zip v rows cs 0
  rw [← List.range_eq_range',← hl] at this
  exact this
 refine (Eq.symm e)▸?_; refine (Eq.symm List.map_map)▸?_
 exact List.map_congr_left fun p hp=>congrArg (fun b=>N.box b p.1.2) (Z.own hc p hp).2.2
theorem Rnd.gok {cs:List Cell}(hc:cs∈rows):(∀ b∈(osR v sp rows cs).map BN.n,b.gok)∧∀ x∈g::flowsR sp gs,x.ok:=⟨fun b hb=>by
 obtain ⟨o,_,rfl⟩:=List.mem_map.mp hb
 exact trivial,fun x hx=>(Z.ag x hx).ok⟩
theorem Rnd.osn {cs:List Cell}(hc:cs∈rows):(osR v sp rows cs).length=sp.length:=(((Z.row hc).rel ⟨v,0,0,0,0,0,0,0,0⟩).len.b).symm
theorem Rnd.gP0 (hw:0≤w∧w<3)(ha:w=2→a=0):goalOf v (P0 v sp mo rows g gs) (mdD v) (min w 1) a=goalV w (ownW sp rows g gs) a:=by
 rw [goalOf_eq,Z.pack0]
 refine (Eq.symm Z.nat)▸?_
 have:w=0∨w=1∨w=2:=by lia
 rcases this with rfl|rfl|rfl
 ·rfl
 ·rfl
 ·(refine (Eq.symm (ha rfl))▸?_)
  exact Int.add_zero _
theorem Rnd.gPJ {cs:List Cell}(hc:cs∈rows)(hw:0≤w∧w<3):lnGoal v (PJ v sp rows g gs cs) w a=goalV w (ownW sp rows g gs) a:=by
 have e:=(Z.row hc).pT
 unfold lnGoal
 rw [goalOf_eq,goalOf_eq,e,Z.nat]
 have:w=0∨w=1∨w=2:=by lia
 rcases this with rfl|rfl|rfl
 ·rfl
 ·rfl
 ·exact Int.add_zero _
theorem Rnd.pk0 {G:Int}(hG:Dim G):POk v (P0 v sp mo rows g gs) G:=by
 have e:=Z.pack0
 refine POk_of hG ?_ ?_ ?_
 ·rw [e]; exact d0
 ·rw [e]; exact d0
 ·rw [e]; exact Int.lt_of_le_of_lt (Z.tb.tot (by decide)) (by decide)
theorem Rnd.pkJ {cs:List Cell}(hc:cs∈rows){G:Int}(hG:Dim G):POk v (PJ v sp rows g gs cs) G:=by
 have R:=Z.row hc
 refine POk_of hG R.h R.d ?_
 rw [R.pT]; exact Int.lt_of_le_of_lt (Z.tb.tot (by decide)) (by decide)
noncomputable abbrev rpt (sp:List Int)(rows:List (List Cell))(g:G)(gs:List G)(G:Int):Int×Int:=rep (TT sp rows g gs) (G-(TT sp rows g gs).nat)
theorem Rnd.rp0 (G:Int):packR v (P0 v sp mo rows g gs) (mdD v) G=rpt sp rows g gs G:=by
 have e:(packT v (P0 v sp mo rows g gs) (mdD v)).1=TT sp rows g gs:=by rw [Z.pack0]
 rcases v with _|_
 ·exact congrArg (fun t:T=>rep t (G-t.nat)) e
 ·exact congrArg (fun t:T=>rep t (G-t.nat)) e
theorem Rnd.rpJ {cs:List Cell}(hc:cs∈rows)(G:Int):packR v (PJ v sp rows g gs cs) (mdD v) G=rpt sp rows g gs G:=by
 have e:=(Z.row hc).pT
 rcases v with _|_
 ·exact congrArg (fun t:T=>rep t (G-t.nat)) e
 ·exact congrArg (fun t:T=>rep t (G-t.nat)) e
noncomputable abbrev RD (v:Bool)(sp:List Int)(rows:List (List Cell))(g:G)(gs:List G)(G:Int)(cs:List Cell):RwD:=⟨packB v (PJ v sp rows g gs cs) (mdD v) G,osR v sp rows cs⟩
theorem Rnd.line {cs:List Cell}(hc:cs∈rows)(hw:0≤w∧w<3)(ha:Dim a)(hG:Dim (goalV w (ownW sp rows g gs) a))(k:Nat) :
  Fn (k+7) 97 [.fr (.lst (Ns.p (owL v tu rows cs))),.fr (glP (g::flowsR sp gs)),.fr (.int w),.fr (.int a),.fr (.bool v)] (lvD (RD v sp rows g gs (goalV w (ownW sp rows g gs) a)) g (flowsR sp gs) (rpt sp rows g gs (goalV w (ownW sp rows g gs) a)) cs):=by
 refine (Eq.symm (Z.ow hc))▸?_
 have e:=Z.gPJ hc (a:=a) hw
 have c:=c97 (k:=k) (bs:=(osR v sp rows cs).map BN.n) (g:=g) (gs:=flowsR sp gs) (way:=w) (amount:=a) (v:=v) (by rw [flowsR_len,List.length_map,Z.osn hc]) (by rw [List.length_map,Z.osn hc]; have:=Z.hn; lia) (Z.gok hc).1 (Z.gok hc).2 (by lia) ha (by rw [e]; exact Z.pkJ hc hG)
 unfold pkO at c
 rw [e,Z.rpJ hc] at c
 exact c
theorem Rnd.line_x {cs:List Cell}(hc:cs∈rows)(hw:w=0∨w=1)(ha:¬Dim a∨Dim a∧¬Dim (goalV w (ownW sp rows g gs) a))(k:Nat) :
  Fn (k+7) 97 [.fr (.lst (Ns.p (owL v tu rows cs))),.fr (glP (g::flowsR sp gs)),.fr (.int w),.fr (.int a),.fr (.bool v)] .none:=by
 refine (Eq.symm (Z.ow hc))▸?_
 have R:=Z.row hc
 refine x97 (by rw [flowsR_len,List.length_map,Z.osn hc]) (by rw [List.length_map,Z.osn hc]; have:=Z.hn; lia) (Z.gok hc).1 (Z.gok hc).2 hw (fun h=>?_) (ha.imp id fun h=>⟨h.1,?_⟩)
 ·subst h; exact R.h
 ·have e:goalOf v (PJ v sp rows g gs cs) (mdD v) w a=goalV w (ownW sp rows g gs) a:=by
   rw [goalOf_eq,R.pT,Z.nat]
   rcases hw with rfl|rfl <;> rfl
  exact fun q=>h.2 (e▸q)
end
theorem pl_all {v:Bool}:∀{sp:List Int}{cs:List Cell}(c0:Int),spOk sp→All2 (CellG v) sp cs→spsum cs=sp.sum∧∀ c∈pl c0 cs,c0≤c.1∧c.1+c.2.1.spans≤c0+sp.sum∧∃ m∈sp,CellG v m c.2
 | [],[],z1,z2,z3=>⟨rfl,fun c hc=>by cases hc⟩
 | m::sp,x::cs,c0,hs,h=>by
  have hx:=h.1.vert.2
  have hm:=hs m (.head _)
  have ss:=spOk_sum (sp:=sp) fun m hm=>hs m (.tail _ hm)
  obtain ⟨a,b⟩:=pl_all (c0+x.1.spans) (fun m hm=>hs m (.tail _ hm)) h.2
  rw [List.sum_cons]
  refine ⟨?_,fun c hc=>?_⟩
  ·show x.1.spans+spsum cs=_
   rw [hx,a]
  ·rcases List.mem_cons.mp hc with rfl|hc
   ·exact ⟨Int.le_refl _,by show c0+x.1.spans≤_; rw [hx]; exact Int.add_le_add_left (Int.le_add_of_nonneg_right (Int.le_trans (Int.natCast_nonneg _) ss.1)) c0,m,.head _,h.1⟩
   ·refine cp fun kk=>?_
    obtain ⟨b1,b2,m',b3,b4⟩:=b c hc
    refine kk ?_
    exact ⟨Int.le_trans (Int.le_add_of_nonneg_right (by rw [hx]; exact Int.le_trans (by decide) (bd_12 hm).1)) b1,by rw [← Int.add_assoc,← hx]; exact b2,m',.tail _ b3,b4⟩
 | [],z1::z2,z3,z4,h=>h.elim
 | z1::z2,[],z3,z4,h=>h.elim
theorem whE_mem:∀{l:List (List Cell×List N)}{e:E},e∈whE l→∃ p∈l,e=.row p.1∨∃ n∈p.2,e=.node n
 | p::r,e,h=>by
  rcases List.mem_cons.mp h with rfl|h
  ·exact ⟨p,.head _,.inl rfl⟩
  ·rcases List.mem_append.mp h with h|h
   ·obtain ⟨n,hn,rfl⟩:=List.mem_map.mp h
    exact ⟨p,.head _,.inr ⟨n,hn,rfl⟩⟩
   ·obtain ⟨q,hq,x⟩:=whE_mem h
    exact ⟨q,.tail _ hq,x⟩
theorem whE_len:∀{l:List (List Cell×List N)},(∀ p∈l,p.2.length≤1)→(whE l).length≤2*l.length
 | [],z1=>Nat.le_refl 0
 | p::r,h=>by
  have h1:=h p (.head _)
  have h2:=whE_len fun q hq=>h q (.tail _ hq)
  show ((_::(p.2.map E.node++whE r)).length)≤2*(r.length+1)
  rw [List.length_cons,List.length_append,List.length_map]
  exact Nat.le_trans (Nat.succ_le_succ (Nat.add_le_add h1 h2)) (Nat.le_of_eq (congrArg Nat.succ (Nat.add_comm 1 _)))
section
variable {v:Bool} {sp:List Int} {mo tu:Int} {rows:List (List Cell)} {ots:List (List N)} {g:G} {gs:List G} {w a:Int}
variable (Z:Rnd v sp mo tu rows ots g gs)
include Z
theorem Rnd.zip {p:List Cell×List N}(h:p∈rows.zip ots):p.1∈rows∧p.2∈ots:=by
 refine cp fun kk=>?_
 obtain ⟨i,hi⟩:=List.mem_iff_getElem?.mp h
 obtain ⟨a,b⟩:=zip2_get hi
 refine kk ?_
 exact ⟨List.mem_of_getElem? a,List.mem_of_getElem? b⟩
theorem Rnd.wl:(whL rows ots).length≤6:=by
 have h:=whE_len (l:=rows.zip ots) fun p hp=>(Z.M.o p.2 (Z.zip hp).2).len
 have hr:=Z.rn
 rw [List.length_zip] at h
 exact Nat.le_trans h (Nat.mul_le_mul_left 2 (Nat.le_trans (Nat.min_le_left _ _) hr.2.2.2))
theorem Rnd.wo:∀ o∈duL sp mo rows,oDim o:=by
 have key:∀(sp ws:List Int),(∀ x∈ws,Dim x)→∀ o∈dueD sp ws,oDim o:=by
  intro sp
  induction sp with
  | nil=>intro ws _ o ho; cases ho
  | cons m sp ih=>intro ws hw o ho; cases ws with
   | nil=>cases ho
   | cons x ws =>
    have hx:=hw x (.head _)
    have ho:o∈duD1 m x++dueD sp ws:=ho
    rcases List.mem_append.mp ho with ho|ho
    ·unfold duD1 at ho
     split at ho
     ·rw [List.mem_singleton.mp ho]; intro i e; obtain rfl:=Option.some.inj e; exact hx
     ·rcases List.mem_cons.mp ho with rfl|ho
      ·intro i e; injection e
      ·rw [List.mem_singleton.mp ho]; intro i e; obtain rfl:=Option.some.inj e; exact hx
    ·exact ih ws (fun y hy=>hw y (.tail _ hy)) o ho
 intro o ho
 rcases List.mem_append.mp ho with ho|ho
 ·refine key _ _ (fun x hx=>?_) o ho
  obtain ⟨k,_,rfl⟩:=List.mem_map.mp hx
  exact dimA (wk_b Z.M.r k) (by decide)
 ·rw [(List.mem_replicate.mp ho).2]; intro i e; injection e
theorem Rnd.fi {mode:Int}(hm:mode=0∨mode=1):FinIn v (duL sp mo rows) g gs mode:=by
 have hg:=Z.gn
 have hd:=Z.dl
 exact ⟨hd.symm,by lia,by lia,Z.wo,fun x hx=>(Z.M.g x hx).ok,hm⟩
theorem Rnd.sumLe:sp.sum≤((duL sp mo rows).length:Int):=by
 rw [Z.dl,Z.gl]
 have:=Z.hmo
 lia
theorem Rnd.eok {G:Int}(hG:Dim G):∀ e∈whL rows ots,EOk v (duL sp mo rows) (g::gs) (plcs (packB v (P0 v sp mo rows g gs) (mdD v) G) (P0 v sp mo rows g gs)) (packB v (P0 v sp mo rows g gs) (mdD v) G) e:=fun e he=>by
 obtain ⟨p,hp,h⟩:=whE_mem he
 obtain ⟨hc,ho⟩:=Z.zip hp
 have hgn:=Z.gn
 have hd:=Z.dl
 have hsl:=Z.sumLe
 rcases h with rfl|⟨n,hn,rfl⟩
 ·have hA:=Z.M.r p.1 hc
  have hl:=hA.len
  have hnn:=Z.hn
  obtain ⟨a1,a2⟩:=pl_all 0 Z.hs hA
  have R:=Z.row hc
  refine ⟨by lia,by rw [a1]; exact hsl,fun c hcm=>?_,?_⟩
  ·obtain ⟨b1,b2,m,hm,b4⟩:=a2 c hcm
   have hv:=b4.vert
   have bb:=b4.b
   have hm2:=Z.hs m hm
   exact ⟨⟨b1,by rw [hv.2]; exact (bd_12 hm2).1,by rw [hv.2]; exact (bd_12 hm2).2,by lia,bb.2.2.2.2.1.ok,Int.lt_of_le_of_lt (bb.2.2.2.2.1.tot (by decide)) (by decide),bb.2.2.2.1⟩,hv.1,bb.2.1,bb.2.2.1,bb.2.2.2.1⟩
  ·refine ⟨by rw [List.length_cons,hd],?_,Z.wo,?_,by lia⟩
   ·show (plc _ _ _).length+1=_
    rw [plc_len]
    show (protoR v (duL sp mo rows) gs).length+1+1=_
    rw [proto_len hd.symm]
   ·rw [(R.main G).1]
    exact packB_dims v _ G hG R.h R.d
 ·have hln:=(Z.M.o p.2 ho).all n hn
  rcases n with ⟨_,_⟩|⟨_,_⟩|⟨w,h,d⟩|⟨_⟩|⟨_,_⟩|⟨_,_⟩
  ·exact hln.elim
  ·exact trivial
  ·exact ⟨aO_dim hln.1,aO_dim hln.2.1,aO_dim hln.2.2⟩
  ·exact trivial
  ·exact hln.elim
  ·exact hln.elim
noncomputable abbrev tblE (v:Bool)(sp:List Int)(mo:Int)(rows:List (List Cell))(ots:List (List N))(g:G)(gs:List G)(G:Int):List N:=(whL rows ots).map (fin1 v (duL sp mo rows) g gs (plcs (packB v (P0 v sp mo rows g gs) (mdD v) G) (P0 v sp mo rows g gs)) (packB v (P0 v sp mo rows g gs) (mdD v) G))
theorem Rnd.rok0 {G:Int}(hG:Dim G):(packB v (P0 v sp mo rows g gs) (mdD v) G).rok:=packB_rok (b:=700000000) (by decide) (by decide) (by rw [Z.pack0]; exact Z.tb.mono (Int.le_refl _) (by decide)) hG
theorem Rnd.tab (hw:0≤w∧w<3)(haw:w=2→a=0)(ha:Dim a)(hG:Dim (goalV w (ownW sp rows g gs) a))(k:Nat) :
  Fn (k+9) 98 [.fr (whP rows ots),.fr (oiL (duL sp mo rows)),.fr (glP (g::gs)),.fr (.int w),.fr (.int a),.fr (.bool v)] (tvD (tblE v sp mo rows ots g gs (goalV w (ownW sp rows g gs) a)) (rpt sp rows g gs (goalV w (ownW sp rows g gs) a))):=by
 have e:=Z.gP0 hw haw
 have hd:Dim (packT v (P0 v sp mo rows g gs) (mdD v)).2.1∧Dim (packT v (P0 v sp mo rows g gs) (mdD v)).2.2:=by rw [Z.pack0]; exact ⟨d0,d0⟩
 have hwl:=Z.wl
 exact c98 (qs:=[]) (d:=.none) (c86 (Z.fi (mn1 hw)) ha rfl e (Z.pk0 hG) rfl (Z.rp0 _) (packB_dims v _ _ hG hd.1 hd.2) (Z.rok0 hG) (by lia) (Z.eok hG))
theorem Rnd.tab_x (hw:w=0∨w=1)(ha:¬Dim a∨Dim a∧¬Dim (goalV w (ownW sp rows g gs) a))(k:Nat) :
  Fn (k+9) 98 [.fr (whP rows ots),.fr (oiL (duL sp mo rows)),.fr (glP (g::gs)),.fr (.int w),.fr (.int a),.fr (.bool v)] .none:=by
 have e:=Z.gP0 (w:=w) (a:=a) (by lia) (by lia)
 refine x98 (x86 (Z.fi (by lia)) (fun h=>?_) (ha.imp id fun h=>⟨h.1,fun q=>h.2 (e▸q)⟩))
 subst h
 have:(packT true (P0 true sp mo rows g gs) (mdD true)).2.1=0:=by rw [Z.pack0]
 have:(vT (P0 true sp mo rows g gs) 1073741823).2.1=0:=this
 rw [this]; exact d0
end
theorem lev_of {L:Nat}:∀{ns:List N},(∀ n∈ns,n.lev≤L)→Ns.lev ns≤L
 | [],z1=>Nat.zero_le L
 | n::r,h=>Nat.max_le.mpr ⟨h n (.head _),lev_of fun m hm=>h m (.tail _ hm)⟩
theorem fit_of:∀{ns:List N},(∀ n∈ns,n.fit)→Ns.fit ns
 | [],z1=>trivial
 | n::r,h=>⟨h n (.head _),fit_of fun m hm=>h m (.tail _ hm)⟩
theorem aN_lev {n:N}(h:aN n):n.lev≤1∧n.fit:=by
 rcases n with ⟨_,_⟩|⟨_,_⟩|⟨_,_,_⟩|⟨_⟩|⟨b,is⟩|⟨_,_⟩
 ·exact ⟨Nat.zero_le 1,trivial⟩
 ·exact ⟨Nat.zero_le 1,trivial⟩
 ·exact ⟨Nat.zero_le 1,trivial⟩
 ·exact ⟨Nat.zero_le 1,trivial⟩
 ·obtain ⟨rfl,_⟩:=h
  exact ⟨Nat.le_refl 1,Nat.zero_le 900,trivial⟩
 ·exact h.elim
theorem loose_lev {n:N}(h:loose n):n.lev≤1∧n.fit:=by
 rcases n with ⟨_,_⟩|⟨_,_⟩|⟨_,_,_⟩|⟨_⟩|⟨b,is⟩|⟨_,_⟩
 ·exact h.elim
 ·exact ⟨Nat.zero_le 1,trivial⟩
 ·exact ⟨Nat.zero_le 1,trivial⟩
 ·exact ⟨Nat.zero_le 1,trivial⟩
 ·exact h.elim
 ·exact h.elim
theorem LsOk.lf {ns:List N}(h:LsOk ns):Ns.lev ns≤1∧Ns.fit ns∧ns.length≤900:=⟨lev_of fun n hn=>(aN_lev (h.all n hn)).1,fit_of fun n hn=>(aN_lev (h.all n hn)).2,Nat.le_trans h.len (by decide)⟩
noncomputable def OkO (v:Bool)(o:BN):Prop:=o.1.v=v∧LsOk o.2
theorem osL_ok {v:Bool}:∀{sp:List Int}{cs:List Cell}{ws:List Int},All2 (CellG v) sp cs→∀ o∈osL v cs ws,OkO v o
 | m::sp,c::cs,w::ws,h,o,ho=>by
  rcases List.mem_cons.mp ho with rfl|ho
  ·obtain ⟨ns,hn,rfl⟩:=h.1
   cases v <;> exact ⟨rfl,hn⟩
  ·exact osL_ok h.2 o ho
 | z1,[],z2,z3,z4,ho=>by cases ho
 | z1,z2::z3,[],z4,z5,ho=>by cases ho
 | [],z1::z2,z3::z4,h,z5,z6=>h.elim
theorem lineR_mem:∀{bs:List N}{gs:List G}{n:N},n∈lineR bs gs→n∈bs∨∃ g,n=.skip g 109
 | b::bs,g::gs,n,h=>by
  rcases List.mem_cons.mp h with rfl|h
  ·exact .inl (.head _)
  ·rcases List.mem_cons.mp h with rfl|h
   ·exact .inr ⟨g,rfl⟩
   ·exact (lineR_mem h).imp (.tail _) id
 | [],z1,z2,h=>by cases h
 | z1::z2,[],z3,h=>by cases h
theorem lineR_len:∀(bs:List N)(gs:List G),(lineR bs gs).length≤2*bs.length
 | b::bs,g::gs=>by
  have:=lineR_len bs gs
  show (lineR bs gs).length+1+1≤2*(bs.length+1)
  exact Nat.add_le_add_right this 2
 | [],z1=>Nat.le_refl 0
 | z1::z2,[]=>Nat.zero_le _
theorem dueL_mem {v:Bool}{lb:B}{o:BN}{g:G}{m:Int}:∀{l:List Int}{n:N},n∈dueL v lb o g m l→(∃ i,n=dueB v lb o m i)∨∃ i,n=dueS g m i
 | i::r,n,h=>by
  rcases List.mem_cons.mp h with rfl|h
  ·exact .inl ⟨i,rfl⟩
  ·rcases List.mem_cons.mp h with rfl|h
   ·exact .inr ⟨i,rfl⟩
   ·exact dueL_mem h
 | [],z1,h=>by cases h
theorem dueR_mem {v:Bool}{lb:B}:∀{os:List BN}{sp:List Int}{gs:List G}{n:N},n∈dueR v lb os sp gs→(∃ o∈os,∃ m i,n=dueB v lb o m i)∨∃ g m i,n=dueS g m i
 | o::os,m::sp,g::gs,n,h=>by
  rcases List.mem_append.mp h with h|h
  ·rcases dueL_mem h with ⟨i,rfl⟩|⟨i,rfl⟩
   ·exact .inl ⟨o,.head _,m,i,rfl⟩
   ·exact .inr ⟨g,m,i,rfl⟩
  ·rcases dueR_mem h with ⟨o',ho,x⟩|x
   ·exact .inl ⟨o',.tail _ ho,x⟩
   ·exact .inr x
 | [],z1,z2,z3,h=>by cases h
 | z1::z2,[],z3,z4,h=>by cases h
 | z1::z2,z3::z4,[],z5,h=>by cases h
theorem dueR_len {v:Bool}{lb:B}:∀(os:List BN)(sp:List Int)(gs:List G),spOk sp→(dueR v lb os sp gs).length≤4*os.length
 | o::os,m::sp,g::gs,h=>by
  have ih:=dueR_len (v:=v) (lb:=lb) os sp gs fun m hm=>h m (.tail _ hm)
  have hm:=h m (.head _)
  show (dueL v lb o g m (upto 0 m)++dueR v lb os sp gs).length≤4*(os.length+1)
  rw [List.length_append,dueL_len,upto_len]
  exact Nat.le_trans (Nat.add_le_add (Nat.mul_le_mul_left 2 (by rw [Int.sub_zero]; exact bd_tn (bd_12 hm) (Int.le_refl 2))) ih) (Nat.le_of_eq (Nat.add_comm 4 _))
 | [],z1,z2,z3=>Nat.zero_le _
 | z1::z2,[],z3,z4=>Nat.zero_le _
 | z1::z2,z3::z4,[],z5=>Nat.zero_le _
theorem dueB_lf {v:Bool}{lb:B}{o:BN}{m i:Int}(h:OkO v o):((dueB v lb o m i).lev≤2∧(dueB v lb o m i).fit)∧Dat 4 (dueB v lb o m i).D:=by
 refine cp fun kk=>?_
 obtain ⟨a,b,c⟩:=h.2.lf
 refine kk ?_
 unfold dueB
 split
 ·exact ⟨⟨Nat.succ_le_succ a,c,b⟩,dat_box fun n hn=>dat_a (h.2.all n hn)⟩
 ·exact ⟨⟨Nat.succ_le_succ (Nat.zero_le 1),Nat.zero_le 900,trivial⟩,dat_box fun n hn=>by cases hn⟩
section
variable {v:Bool} {sp:List Int} {mo tu:Int} {rows:List (List Cell)} {ots:List (List N)} {g:G} {gs:List G} {w a:Int}
variable (Z:Rnd v sp mo tu rows ots g gs)
include Z
theorem Rnd.due_lf {cs:List Cell}(hc:cs∈rows)(G:Int):((RD v sp rows g gs G cs).due v sp g (flowsR sp gs)).lev≤3∧((RD v sp rows g gs G cs).due v sp g (flowsR sp gs)).fit∧Dat 7 ((RD v sp rows g gs G cs).due v sp g (flowsR sp gs)).D:=by
 have hO:=osL_ok (ws:=wdL rows sp.length) (Z.M.r cs hc)
 have all:∀ n∈(.skip g 109::dueR v (RD v sp rows g gs G cs).lb (RD v sp rows g gs G cs).os sp (flowsR sp gs):List N),(n.lev≤2∧n.fit)∧Dat 4 n.D:=fun n hn=>by
  rcases List.mem_cons.mp hn with rfl|hn
  ·exact ⟨⟨Nat.zero_le 2,trivial⟩,dat_le (by decide) dat_skip⟩
  ·rcases dueR_mem hn with ⟨o,ho,m,i,rfl⟩|⟨g',m,i,rfl⟩
   ·exact dueB_lf (hO o ho)
   ·exact ⟨⟨Nat.zero_le 2,trivial⟩,dat_le (by decide) dat_skip⟩
 have hl:=dueR_len (v:=v) (lb:=(RD v sp rows g gs G cs).lb) (osR v sp rows cs) sp (flowsR sp gs) Z.hs
 have hn:=Z.hn
 have ho:=Z.osn hc
 refine ⟨Nat.succ_le_succ (lev_of fun n hn=>(all n hn).1.1),⟨?_,fit_of fun n hn=>(all n hn).1.2⟩,dat_le (by decide) (dat_box fun n hn=>(all n hn).2)⟩
 rw [List.length_cons]
 lia
theorem Rnd.rw {cs:List Cell}(hc:cs∈rows){G:Int}(hG:Dim G):RwOk v sp g (flowsR sp gs) (RD v sp rows g gs G cs):=by
 have R:=Z.row hc
 have hO:=osL_ok (ws:=wdL rows sp.length) (Z.M.r cs hc)
 have L:=(R.rel ⟨v,0,0,0,0,0,0,0,0⟩).len
 have n2:=L.b
 have hv:(packB v (PJ v sp rows g gs cs) (mdD v) G).v=v:=by cases v <;> rfl
 have l2:(flowsR sp gs).length=(osR v sp rows cs).length:=(flowsR_len sp gs).trans L.b
 have hnn:=Z.hn
 have pm:∀ n∈PJ v sp rows g gs cs,n.lev≤2∧n.fit:=fun n hn=>by
  rcases List.mem_cons.mp hn with rfl|hn
  ·exact ⟨Nat.zero_le 2,trivial⟩
  ·rcases lineR_mem hn with hn|⟨g',rfl⟩
   ·obtain ⟨o,ho,rfl⟩:=List.mem_map.mp hn
    obtain ⟨a,b,c⟩:=(hO o ho).2.lf
    exact ⟨Nat.succ_le_succ a,c,b⟩
   ·exact ⟨Nat.zero_le 2,trivial⟩
 have pl:(PJ v sp rows g gs cs).length≤2*sp.length+1:=by
  have:=lineR_len ((osR v sp rows cs).map BN.n) (flowsR sp gs)
  rw [List.length_map,← L.b] at this
  exact Nat.succ_le_succ this
 have dl:=dueR_len (v:=v) (lb:=packB v (PJ v sp rows g gs cs) (mdD v) G) (osR v sp rows cs) sp (flowsR sp gs) Z.hs
 refine ⟨hv,fun o ho=>(hO o ho).1,L.b,l2,packB_rok (b:=700000000) (by decide) (by decide) (by rw [R.pT]; exact Z.tb.mono (Int.le_refl _) (by decide)) hG,Nat.succ_le_succ (lev_of fun n hn=>(pm n hn).1),⟨by show (PJ v sp rows g gs cs).length≤900; lia,fit_of fun n hn=>(pm n hn).2⟩,picked_main hv L.e L.d L.b l2,by show (PJ v sp rows g gs cs).length<900; lia,?_⟩
 rw [List.length_cons]
 show (dueR v (packB v (PJ v sp rows g gs cs) (mdD v) G) (osR v sp rows cs) sp (flowsR sp gs)).length+1<900
 lia
theorem Rnd.b0 (G:Int):(packB v (P0 v sp mo rows g gs) (mdD v) G).w=(if v then 0 else G)∧(packB v (P0 v sp mo rows g gs) (mdD v) G).h=(if v then G else 0)∧(packB v (P0 v sp mo rows g gs) (mdD v) G).d=0:=by
 have e1:(packT v (P0 v sp mo rows g gs) (mdD v)).2.1=0:=by rw [Z.pack0]
 have e2:(packT v (P0 v sp mo rows g gs) (mdD v)).2.2=0:=by rw [Z.pack0]
 rcases v with _|_
 ·exact ⟨rfl,e1,e2⟩
 ·exact ⟨e1,rfl,e2⟩
theorem Rnd.tbl (G:Int):∀(l:List (List Cell×List N)),(∀ p∈l,p.1∈rows∧p.2∈ots)→(whE l).map (fin1 v (duL sp mo rows) g gs (plcs (packB v (P0 v sp mo rows g gs) (mdD v) G) (P0 v sp mo rows g gs)) (packB v (P0 v sp mo rows g gs) (mdD v) G))=wnE v sp g (flowsR sp gs) G (RD v sp rows g gs G) l
 | [],z1=>rfl
 | p::r,h=>by
  refine cp fun kk=>?_
  obtain ⟨hc,ho⟩:=h p (.head _)
  have ih:=Rnd.tbl G r fun q hq=>h q (.tail _ hq)
  have eR:=((Z.row hc).main G).2
  obtain ⟨b1,b2,b3⟩:=Z.b0 G
  have eN:(p.2.map E.node).map (fin1 v (duL sp mo rows) g gs (plcs (packB v (P0 v sp mo rows g gs) (mdD v) G) (P0 v sp mo rows g gs)) (packB v (P0 v sp mo rows g gs) (mdD v) G))=p.2.map (stayN v G):=by
   refine (Eq.symm List.map_map)▸?_
   refine List.map_congr_left fun n hn=>?_
   have hln:=(Z.M.o p.2 ho).all n hn
   rcases n with ⟨_,_⟩|⟨_,_⟩|⟨x,y,d⟩|⟨_⟩|⟨_,_⟩|⟨_,_⟩
   ·exact hln.elim
   ·rfl
   ·show N.rule (orD x _) (orD y _) (orD d _)=N.rule (orD x _) (orD y _) (some (d.getD 0))
    refine (Eq.symm b1)▸?_; refine (Eq.symm b2)▸?_; refine (Eq.symm b3)▸?_
    cases d <;> rfl
   ·rfl
   ·exact hln.elim
   ·exact hln.elim
  refine kk ?_
  show fin1 _ _ _ _ _ _ (.row p.1)::((p.2.map E.node++whE r).map _)=_
  rw [List.map_append,eR,eN,ih]; rfl
end
theorem hit_high:∀(sp:List Int)(cs:List Cell)(c j:Nat),spOk sp→(c:Int)+sp.sum≤j→hit c sp cs j=[]
 | [],z1,z2,z3,z4,z5=>rfl
 | z1::z2,[],z3,z4,z5,z6=>rfl
 | m::sp,x::cs,c,j,hs,hj=>by
  have hm:=hs m (.head _)
  have ss:=(spOk_sum (sp:=sp) fun m hm=>hs m (.tail _ hm)).1
  rw [List.sum_cons] at hj
  show (if _ then _ else _)++hit (c+m.toNat) sp cs j=[]
  rw [if_neg (hh_ar hj hm (Int.le_trans (Int.natCast_nonneg _) ss)),hit_high sp cs (c+m.toNat) j (fun m hm=>hs m (.tail _ hm)) (by show (c:Int)+(m.toNat:Int)+sp.sum≤j; rw [Int.toNat_of_nonneg (Int.le_trans (by decide) (bd_12 hm).1),Int.add_assoc]; exact hj)]; rfl
theorem aN_of {ns:List N}(h:LsOk ns)(v:Bool)(m:Int):(mkCell v m ns).n.lev≤2∧(mkCell v m ns).n.fit∧Dat 4 (mkCell v m ns).n.D:=by
 obtain ⟨a,b,c⟩:=h.lf
 cases v <;> exact ⟨Nat.succ_le_succ a,⟨c,b⟩,dat_uns fun n hn=>dat_a (h.all n hn)⟩
section
variable {v:Bool} {sp:List Int} {mo tu:Int} {rows:List (List Cell)} {ots:List (List N)} {g:G} {gs:List G} {w a:Int}
variable (Z:Rnd v sp mo tu rows ots g gs)
include Z
theorem Rnd.zf:(rows.zip ots).map Prod.fst=rows:=List.map_fst_zip (by have:=Z.rn; lia)
theorem Rnd.wdok:∀ e∈whL rows ots,WdOk gs.length e:=fun e he=>by
 obtain ⟨p,hp,h⟩:=whE_mem he
 obtain ⟨hc,ho⟩:=Z.zip hp
 have hsl:=Z.sumLe
 rw [Z.dl] at hsl
 rcases h with rfl|⟨n,hn,rfl⟩
 ·have hA:=Z.M.r p.1 hc
  have hl:=hA.len
  have hnn:=Z.hn
  obtain ⟨a1,a2⟩:=pl_all 0 Z.hs hA
  refine ⟨by rw [a1]; exact hsl,by lia,fun c hcm=>?_⟩
  obtain ⟨b1,b2,m,hm,b4⟩:=a2 c hcm
  have hv:=b4.vert
  have hm2:=Z.hs m hm
  exact ⟨b1,by rw [hv.2]; lia,by lia⟩
 ·have hln:=(Z.M.o p.2 ho).all n hn
  rcases n with ⟨_,_⟩|⟨_,_⟩|⟨w,h,d⟩|⟨_⟩|⟨_,_⟩|⟨_,_⟩
  ·exact hln.elim
  ·exact trivial
  ·exact trivial
  ·exact trivial
  ·exact hln.elim
  ·exact hln.elim
theorem Rnd.efit:∀ e∈whL rows ots,e.fit:=fun e he=>by
 obtain ⟨p,hp,h⟩:=whE_mem he
 obtain ⟨hc,ho⟩:=Z.zip hp
 rcases h with rfl|⟨n,hn,rfl⟩
 ·have hA:=Z.M.r p.1 hc
  have hl:=hA.len
  have hnn:=Z.hn
  have all:∀ n∈p.1.map Cell.n,n.lev≤3∧n.fit:=fun n hn=>by
   obtain ⟨c,hcc,rfl⟩:=List.mem_map.mp hn
   obtain ⟨i,hi⟩:=List.mem_iff_getElem?.mp hcc
   obtain ⟨m,_,ns,h1,rfl⟩:=hA.get hi
   have q:=aN_of h1 v m
   exact ⟨Nat.le_succ_of_le q.1,q.2.1⟩
  exact ⟨by lia,fun n hn=>(all n hn).1,fit_of fun n hn=>(all n hn).2⟩
 ·have hln:=(Z.M.o p.2 ho).all n hn
  have q:=loose_lev hln
  exact ⟨Nat.le_trans q.1 (by decide),q.2,hln⟩
theorem Rnd.edat:Dat 8 (flatP (whL rows ots) (g::gs)):=dat_flat fun e he=>by
 obtain ⟨p,hp,h⟩:=whE_mem he
 obtain ⟨hc,ho⟩:=Z.zip hp
 rcases h with rfl|⟨n,hn,rfl⟩
 ·exact fun c hcc=>by
   obtain ⟨i,hi⟩:=List.mem_iff_getElem?.mp hcc
   obtain ⟨m,_,ns,h1,rfl⟩:=(Z.M.r p.1 hc).get hi
   exact dat_succ _ _ (aN_of h1 v m).2.2
 ·exact dat_le (by decide) (dat_lo ((Z.M.o p.2 ho).all n hn))
theorem Rnd.en:EnOk (ends (fun zz=>[]) (whL rows ots)) (duL sp mo rows):=fun j w e=>by
 have eh:ends (fun zz=>[]) (whL rows ots) j=hits 0 sp rows j:=by
  have:=ends_hit Z.hs (rows.zip ots) (fun zz=>[]) j fun p hp=>Z.M.r p.1 (Z.zip hp).1
  rw [Z.zf] at this
  exact this
 have dl:=dueD_len sp (wdL rows sp.length) Z.hs wdL_len
 by_cases hj:j<(dueD sp (wdL rows sp.length)).length
 ·have e1:(dueD sp (wdL rows sp.length))[j]?=some w:=by
   rw [← e]; exact (List.getElem?_append_left hj).symm
  have ih:=en_due sp rows 0 Z.hs Z.rn.2.2.1 Z.M.r j w e1
  rcases w with _|⟨w⟩
  ·exact eh.trans ((congrArg (hits 0 sp rows) (Nat.zero_add j).symm).trans ih)
  ·refine cp fun kk=>?_
   obtain ⟨f,n,ns,h1,h2,_,h4,h5⟩:=ih
   refine kk ?_
   refine ⟨f,n,ns,eh.trans ((congrArg (hits 0 sp rows) (Nat.zero_add j).symm).trans h1),h2,Nat.le_trans h4 (Nat.le_of_eq (Nat.zero_add j)),fun i a b=>?_⟩
   exact (List.getElem?_append_left (Nat.lt_trans b hj)).trans (h5 i (Nat.le_trans a (Nat.le_of_eq (Nat.zero_add i).symm)) b)
 ·have e1:(List.replicate mo.toNat none)[j-(dueD sp (wdL rows sp.length)).length]?=some w:=by
   rw [← e]; exact (List.getElem?_append_right (Nat.le_of_not_lt hj)).symm
  have:w=none:=(List.mem_replicate.mp (List.mem_of_getElem? e1)).2
  subst this
  exact eh.trans (hits_nil fun cs zz=>hit_high sp cs 0 j Z.hs (by lia))
theorem Rnd.ownD:Dim (ownW sp rows g gs):=by
 rw [← Z.nat]
 exact dimA Z.tb.n (by decide)
theorem Rnd.twn (G:Int):tblE v sp mo rows ots g gs G=wnE v sp g (flowsR sp gs) G (RD v sp rows g gs G) (rows.zip ots):=Z.tbl G _ fun p hp=>Z.zip hp
omit Z in
theorem wnE_mem {fl:List G}{goal:Int}{D:List Cell→RwD}:∀{l:List (List Cell×List N)}{n:N},n∈wnE v sp g fl goal D l→∃ p∈l,n=(D p.1).due v sp g fl∨∃ m∈p.2,n=stayN v goal m
 | p::r,n,h=>by
  rcases List.mem_cons.mp h with rfl|h
  ·exact ⟨p,.head _,.inl rfl⟩
  ·rcases List.mem_append.mp h with h|h
   ·obtain ⟨m,hm,rfl⟩:=List.mem_map.mp h
    exact ⟨p,.head _,.inr ⟨m,hm,rfl⟩⟩
   ·obtain ⟨q,hq,x⟩:=wnE_mem h
    exact ⟨q,.tail _ hq,x⟩
end
section
variable {v:Bool} {sp:List Int} {mo tu:Int} {rows:List (List Cell)} {ots:List (List N)} {g:G} {gs:List G} {w a:Int}
variable (Z:Rnd v sp mo tu rows ots g gs)
include Z
theorem Rnd.tmem {G:Int}(hG:Dim G):∀ n∈wnE v sp g (flowsR sp gs) G (RD v sp rows g gs G) (rows.zip ots),(n.lev≤3∧n.fit∧Dat 7 n.D)∧noBx n:=fun n hn=>by
 obtain ⟨p,hp,h⟩:=wnE_mem hn
 obtain ⟨hc,ho⟩:=Z.zip hp
 rcases h with rfl|⟨m,hm,rfl⟩
 ·exact ⟨Z.due_lf hc G,trivial⟩
 ·have hln:=(Z.M.o p.2 ho).all m hm
  rcases m with ⟨_,_⟩|⟨x,y⟩|⟨x,y,d⟩|⟨x⟩|⟨_,_⟩|⟨_,_⟩
  ·exact hln.elim
  ·exact ⟨⟨Nat.zero_le 3,trivial,dat_le (by decide) (dat_lo (n:=.kern x y) hln)⟩,trivial⟩
  ·exact ⟨⟨Nat.zero_le 3,trivial,dat_le (n:=2) (by decide) (allC (dat_i 1 4) (allC (dat_o _) (allC (dat_o _) (allC (dat_o _) allZ))))⟩,trivial⟩
  ·exact ⟨⟨Nat.zero_le 3,trivial,dat_le (by decide) (dat_lo (n:=.pen x) hln)⟩,trivial⟩
  ·exact hln.elim
  ·exact hln.elim
theorem Rnd.tlen (G:Int):(wnE v sp g (flowsR sp gs) G (RD v sp rows g gs G) (rows.zip ots)).length≤900:=by
 rw [← Z.twn,List.length_map]
 have:=Z.wl
 lia
theorem Rnd.tbx (G:Int):(wnE v sp g (flowsR sp gs) G (RD v sp rows g gs G) (rows.zip ots)).filterMap isBx=rows.map fun cs=>((RD v sp rows g gs G cs).due v sp g (flowsR sp gs)).p:=by
 rw [wn_boxes v sp g (flowsR sp gs) G _ _ fun p hp=>(Z.M.o p.2 (Z.zip hp).2).all]
 have key:∀ f:List Cell→PV,((rows.zip ots).map fun p=>f p.1)=rows.map f:=fun f=>by
  conv=>rhs; rw [← Z.zf,List.map_map]
  rfl
 exact key fun cs=>((RD v sp rows g gs G cs).due v sp g (flowsR sp gs)).p
omit Z in
theorem noL_some {fl:List G}{D:List Cell→RwD}{rep:Int×Int}:∀ l:List (List Cell),noL (l.map (lvD D g fl rep))=[]
 | []=>rfl
 | c::r=>noL_some (rep:=rep) r
omit Z in
theorem dim_of {x:Int}(h:(x.natAbs:Int)<2 ^ (30:Int).toNat):Dim x:=by
 have e:(2:Int) ^ (30:Int).toNat=1073741824:=rfl
 rw [e] at h
 exact na_bd (Nat.le_of_lt_succ (Int.ofNat_lt.mp h))
theorem Rnd.fin (s0 s:Int×Int)(hw:0≤w∧w<3)(haw:w=2→a=0){k:Nat}{r:Rs}(hr:r=.ok (.fr (.bool true)) [bx s]) :
  sT (cOf 103 [bx s0]) b103_30 ⟨GG nS (k+15),r=.ovf⟩ (rF v sp mo tu rows ots g gs w a) [bx s] (retK 1 r):=by
 obtain ⟨r1,r2,r3,r4⟩:=Z.rn
 have hn:=Z.hn
 have hcl:∀ cs∈rows,cs.length=sp.length:=fun cs hc=>(Z.M.r cs hc).len.symm
 have hown:∀ cs∈rows,∀ p∈cs.zipIdx,(∀ n∈p.1.2,n.gok)∧ownOk v p.1.2 (szK tu rows p.2):=fun cs hc p hp=>⟨(Z.own hc p hp).1,(Z.own hc p hp).2.1⟩
 have hgn:=Z.gn
 have hne:duL sp mo rows≠[]:=fun e=>by
  have:=Z.dl
  rw [e,List.length_nil] at this
  lia
 have hwl:=Z.wl
 by_cases hbig:(2:Int) ^ (30:Int).toNat≤max ((goalV w (ownW sp rows g gs) a).natAbs:Int) (a.natAbs:Int)
 ·have e:(2:Int) ^ (30:Int).toNat=1073741824:=rfl
  have hD:=Z.ownD
  have h2:w≠2:=fun h=>by
   subst h
   rw [haw rfl,e] at hbig
   have:goalV 2 (ownW sp rows g gs) 0=ownW sp rows g gs:=rfl
   rw [this] at hbig
   exact no_big hbig hD ⟨by decide,by decide⟩
  have hw2:w=0∨w=1:=by lia
  have hx:¬Dim a∨Dim a∧¬Dim (goalV w (ownW sp rows g gs) a):=by
   by_cases h1:Dim a
   ·refine .inr ⟨h1,fun h3=>?_⟩
    rw [e] at hbig
    exact no_big hbig h3 h1
   ·exact .inl h1
  refine stC2 (k:=k+7) s0 s (fun zz=>PV.none) (by lia) hcl hn hown (fun cs hc=>Z.line_x hc hw2 hx _) ?_
  refine stD s0 s hne (by lia) Z.efit (by lia) (by lia) Z.edat (Z.tab_x hw2 hx _) ?_
  exact stRef s0 s hbig rfl rfl r1 hr
 ·have hmx:=Int.not_le.mp hbig
  have ha:Dim a:=dim_of (Int.lt_of_le_of_lt (Int.le_max_right _ _) hmx)
  have hG:Dim (goalV w (ownW sp rows g gs) a):=dim_of (Int.lt_of_le_of_lt (Int.le_max_left _ _) hmx)
  have hrw:∀ cs∈rows,RwOk v sp g (flowsR sp gs) (RD v sp rows g gs (goalV w (ownW sp rows g gs) a) cs):=fun cs hc=>Z.rw hc hG
  refine stC2 (k:=k+7) s0 s (lvD (RD v sp rows g gs (goalV w (ownW sp rows g gs) a)) g (flowsR sp gs) (rpt sp rows g gs (goalV w (ownW sp rows g gs) a))) (by lia) hcl hn hown (fun cs hc=>Z.line hc hw ha hG _) ?_
  have ht:=Z.tab hw haw ha hG (k+5)
  rw [Z.twn] at ht
  refine stD s0 s hne (by lia) Z.efit (by lia) (by lia) Z.edat ht ?_
  refine stE1 s0 s hbig (noL_some _) Z.hs hn (by lia) r2 Z.M.o hrw hG ?_
  have hm:=Z.tmem hG
  exact stE2 s0 s Z.hs hn (by lia) r3 r1 hrw (Z.tbx _) (fun n h=>(hm n h).2) (Z.tlen _) (fun n h=>(hm n h).1.1) (fun n h=>(hm n h).1.2.2) (fit_of fun n h=>(hm n h).1.2.1) hr
theorem Rnd.mid (s0 s:Int×Int):∃ s':Int×Int,∀(k:Nat)(r:Rs),r=.ok (.fr (.bool true)) [bx s']→sT (cOf 103 [bx s0]) b103_51 ⟨GG nS (k+15),r=.ovf⟩ (rA v sp mo tu rows ots (g::gs)) [bx s] (retK 1 r):=by
 refine cp fun kk=>?_
 obtain ⟨w,a,s',hw,haw,c⟩:=stC1 (v:=v) (sp:=sp) (mo:=mo) (tu:=tu) (rows:=rows) (ots:=ots) (g:=g) (gs:=gs) s0 s Z.hn
 have hgn:=Z.gn
 have hwl:=Z.wl
 refine kk ?_
 refine ⟨s',fun k r hr=>?_⟩
 refine stB1 s0 s Z.hs Z.hn Z.hmo Z.M ?_
 refine stB2 s0 s Z.hn Z.htu Z.M ?_
 refine stB3 s0 s Z.hs Z.hn Z.hmo ?_
 refine stB4 s0 s Z.htu Z.M ?_
 refine stB5 s0 s Z.hn Z.h1 Z.dl hgn.1 (by lia) Z.wo (by lia) Z.wdok Z.en Z.efit ?_
 exact c (k+13) _ _ (Z.fin s0 s' hw haw hr)
end
theorem rest103 {v:Bool}{sp:List Int}{mo tu:Int}(s0 s:Int×Int)(hs:spOk sp)(h1:1≤sp.length)(hn:sp.length≤10)(hmo:0≤mo∧mo≤1)(htu:1≤tu∧tu≤3):∃ s':Int×Int,∀(k:Nat)(r:Rs),r=.ok (.fr (.bool true)) [bx s']→sT (cOf 103 [bx s0]) b103_57 ⟨GG nS (k+15),r=.ovf⟩ [(3,.own 0),(90,.fr (.bool v)),(78,.fr (.lst (sp.map .int))),(49,.fr (.int mo)),(87,.fr (.int tu))] [bx s] (retK 1 r):=by
 refine cp fun kk=>?_
 obtain ⟨rows,ots,gl,s1,M,h⟩:=stA (v:=v) s0 s hs hn hmo htu
 have hl:=M.gl
 have ss:=spOk_sum hs
 refine kk ?_
 rcases gl with _|⟨g,gs⟩
 ·exact absurd (Int.toNat_eq_zero.mp hl.symm) (Int.not_le.mpr (Int.lt_of_lt_of_le (by decide) (Int.add_le_add (Int.add_le_add_right (Int.le_trans (Int.natCast_nonneg _) ss.1) 1) hmo.1)))
 ·obtain ⟨s',h'⟩:=Rnd.mid ⟨hs,h1,hn,hmo,htu,M⟩ s0 s1
  exact ⟨s',fun k r hr=>h (k+8) _ _ (h' k r hr)⟩
noncomputable def RSp (s:Int×Int)(m:Int)(s':Int×Int):Prop:=(m=1∨m=2)∧∀(k:Nat)(X:Prop)(i:PV)(A:List PV),sX x103_1 (Px.calm ⟨GG nS (k+1),X⟩) (st [(3,.own 0)] 35 (.fr i)) [bx s,.fz (.lst [])] (kEl A (A++[.int m]) [bx s',.fz (.lst [])])
theorem one103 (s:Int×Int):∃ (m:Int) (s':Int×Int),RSp s m s':=by
 refine cp fun kk=>?_
 obtain ⟨d,s',hd,c⟩:=c89 s 3 (by decide) (by decide)
 refine kk ?_
 by_cases h:d=0
 ·refine ⟨2,s',.inr rfl,fun k X i A=>?_⟩
  refine useB (c _) rfl rfl ?_
  (conv=>whnf)
  rw [dT h]
  exact ⟨rfl,rfl,rfl,trivial⟩
 ·refine ⟨1,s',.inl rfl,fun k X i A=>?_⟩
  refine useB (c _) rfl rfl ?_
  (conv=>whnf)
  rw [dF h]
  exact ⟨rfl,rfl,rfl,trivial⟩
theorem c103 (s:Int×Int):∃ s':Int×Int,∀ k,Cl (k+15) 103 [bx s] [.own 0] (.ok (.fr (.bool true)) [bx s']):=by
 refine cp fun kk=>?_
 obtain ⟨d1,s1,hd1,c1⟩:=c89 s 2 (by decide) (by decide)
 obtain ⟨d2,s2,hd2,c2⟩:=c89 s1 2 (by decide) (by decide)
 refine kk ?_
 by_cases h2:d2=0
 ·refine cp fun kk=>?_
  obtain ⟨d3,s3,hd3,c3⟩:=c89 s2 4 (by decide) (by decide)
  obtain ⟨sp,s4,r1,r2⟩:=compR (σ:=Int×Int) (β:=Nat) (α:=Int) (fun s zz m s'=>RSp s m s') (fun s zz=>one103 s) (fun s=>[bx s,.fz (.lst [])]) .int (List.range (1+d3).toNat) s3
  have hl:=r1.len
  rw [List.length_range] at hl
  have hs:spOk sp:=r1.right fun _ _ ⟨_,_,h⟩=>h.1
  obtain ⟨d5,s5,hd5,c5⟩:=c89 s4 4 (by decide) (by decide)
  obtain ⟨s',h'⟩:=rest103 (v:=decide (d1=1)) (mo:=if decide (d5=0)=true then 1 else 0) (tu:=1) s s5 hs (hl▸one_tn hd3.1) (hl▸bd_tn (bd_add (bd_c 1) (bd_lt hd3)) (by decide)) (by split <;> decide) (by decide)
  refine kk ?_
  refine ⟨s',fun k=>.fn (fm 53 rfl) k103 (Nat.le_refl 1) (Nat.le_refl 1) ?_⟩
  refine useB (c1 _) rfl rfl ?_
  refine ⟨le4 rfl,?_⟩
  refine ⟨le4 rfl,?_⟩
  refine useB (c2 _) rfl rfl ?_
  refine brT (dT h2) ?_
  refine useB (c3 _) rfl rfl ?_
  refine ⟨by decide,bd_na (bd_add (bd_c 1) (bd_lt hd3)) (by decide) (by decide),?_⟩
  refine r2 _ (items_rng (1+d3)) (by rw [List.length_range]; exact bd_tn (bd_add (bd_c 1) (bd_lt hd3)) (by decide)) rfl (fun zz=>rfl) (fun s b m s' A zz hR=>hR.2 (k+14) _ _ A) ?_
  refine useB (c5 _) rfl rfl ?_
  refine gcI (cOf_half _ _) rfl ?_
  exact h' k _ rfl
 ·refine cp fun kk=>?_
  obtain ⟨d3,s3,hd3,c3⟩:=c89 s2 2 (by decide) (by decide)
  obtain ⟨d4,s4,hd4,c4⟩:=c89 s3 3 (by decide) (by decide)
  obtain ⟨s',h'⟩:=rest103 (v:=decide (d1=1)) (sp:=List.replicate (1+d3).toNat 1) (mo:=0) (tu:=1+d4) s s4 (fun m hm=>.inl (List.mem_replicate.mp hm).2) (by rw [List.length_replicate]; exact one_tn hd3.1) (by rw [List.length_replicate]; exact bd_tn (bd_add (bd_c 1) (bd_lt hd3)) (by decide)) (by decide) (bd_mono (bd_add (bd_c 1) (bd_lt hd4)) (by decide) (by decide))
  refine kk ?_
  refine ⟨s',fun k=>.fn (fm 53 rfl) k103 (Nat.le_refl 1) (Nat.le_refl 1) ?_⟩
  refine useB (c1 _) rfl rfl ?_
  refine ⟨le4 rfl,?_⟩
  refine ⟨le4 rfl,?_⟩
  refine useB (c2 _) rfl rfl ?_
  refine brF (dF h2) ?_
  refine ⟨le4 rfl,?_⟩
  refine useB (c3 _) rfl rfl ?_
  refine ⟨Nat.le_of_lt (bd_na (bd_add (bd_c 1) (bd_lt hd3)) (by decide) (by decide)),by show 1*(1+d3).toNat≤256; rw [Nat.one_mul]; exact bd_tn (bd_add (bd_c 1) (bd_lt hd3)) (by decide),?_⟩
  rw [List.flatten_replicate_singleton,← List.map_replicate]
  refine useB (c4 _) rfl rfl ?_
  refine ⟨le4 rfl,?_⟩
  refine gcI (cOf_half _ _) rfl ?_
  exact h' k _ rfl
noncomputable abbrev eTop:List Value:=[.type "ValueError",.type "Exception",.type "BaseException",.type "object"]
theorem refV (self:Value):refuseLoop self "__setattr__" eTop=pure ():=by kernel_rfl
inductive ClsE (K:Frag)(C:Addr):Prop
 | mk (nm q:Str) (N b:Addr) (bs:List Value) (sn:List Str) (sub:List Value) (ab:Bool) (col:Option Bool) (dd:Option Addr) (k0 k1 k2 k3 k5:Option Value) (h:K.lookup C=some (excClassObj nm q C N bs (.ref b::eTop) true sn sub ab col dd k0 k1 k2 k3 k5 "ValueError.__new__"))
section
variable {prog:Program} {w:World} {A:Around} {E:Value→Shared→Prop} {K:Frag} {C e:Addr} {s:Shared} {oe:Obj} {v:Value}
theorem exc_set {tk:Tok}{R:Result→Shared→Prop}(X:K.In s.heap)(hC:ClsE K C)(hr:findIn K (.ref C) "reason" = some none)(he:s.heap.get? e=some oe)(hc:oe.cls=.ref C)(hd:oe.dict=none){vs:Array Value}(hv:oe.data=.fields vs)
  (hq:∀ h' t d,h'.get? e=some { oe with dict:=some d }→(∀ b o,b≠e→s.heap.get? b=some o→h'.get? b=some o)→R (.ok (.ret .none)) { s with heap:=h',toks:=t }) :
  codeAny (model prog w) A (.call (.builtin "object.__setattr__") ⟨[.ref e,.str "reason" tk,v],[]⟩) R s:=by
 refine cp fun kk=>?_
 obtain ⟨nm,q,N,b,bs,sn,sub,ab,col,dd,k0,k1,k2,k3,k5,hC⟩:=hC
 obtain ⟨cd,hcl,hmr,hhd⟩:∃ cd,clsIn K C=some cd∧cd.mro=.ref C::.ref b::eTop∧cd.hasDict=true:=by
  delta clsIn; rw [hC]; exact ⟨_,rfl,rfl,rfl⟩
 have hK:=X _ _ hC
 have T:∀ M:Model,Looks M s.heap (typeOf (.ref e)) (.ref C):=fun M=>(Looks.ld he).andThen (by rw [hc]; exact .now)
 have SF:=PySem.F.store_object
 have sub:Looks (model prog w) s.heap (isInstance (.ref e) (.type "object")) true:=(T _).andThen (looks_subIn X (by
  show mroIn K C _=_
  delta mroIn; rw [hcl,Option.bind_some,hmr]; rfl))
 have hcd:=looks_clsIn (M:=model prog w) X hcl
 have hm:Looks (model prog w) s.heap (mroOf (.ref C)) (.ref C::.ref b::eTop):=hcd.andThen (by rw [hmr]; exact .now)
 refine kk ?_
 refine codeAny_call_builtin SF.slot.plain SF.entry (@check_slot (model prog w) _ _ s "object.__setattr__" "object" "__setattr__" (.ref e) [.str "reason" tk,v] [] _ SF.kind SF.split sub (SF.args (.ref e) (.str "reason" tk) v) ?_)
 show wpAny _ _ (Builtin.«object.__setattr__» ⟨[.ref e,.str "reason" tk,v],[]⟩) _ _ _
 rw [osa_eq,refuse_eq]
 refine wpAny_bind (wpAny_bind ((T _).here (wpAny_bind (hm.here ?_))))
 rw [refuseLoop_ref,refuseLoop_ref,refV]
 refine wpAny_pure (wpAny_bind ((T _).here (wpAny_bind ((looks_findIn X hr).here (wpAny_bind (wpAny_pure ?_))))))
 show wpAny _ _ (Builtin.ObjectAttr.storeInOwnDict _ _ _ _ _ _) _ _ _
 obtain ⟨hh,g,dr,t,os⟩:=s
 refine wpAny_bind (wpAny_pure (wpAny_bind (wpAny_bind (wpAny_loadPart_at he ?_))))
 refine (Eq.symm hc)▸?_
 refine wpAny_bind (hcd _ _ _ _ (fun zz zz e=>e) ?_)
 refine (Eq.symm hhd)▸?_; refine (Eq.symm hd)▸?_; refine (Eq.symm hv)▸?_
 obtain ⟨oc,odi,oda,osl⟩:=oe
 dsimp only at hc hd hv he hq
 subst hc hd hv
 show wpAny _ _ (do
  let d ← alloc { cls:=Value.type "dict",data:=Data.dict #[] }
  update e fun o=>{ cls:=o.cls,dict:=some d,data:=o.data,slots:=o.slots }
  dictMade (Value.ref C) e d) _ _ _
 have hx₁:(hh.push { cls:=.type "dict",data:=.dict #[] }).get? e=some ⟨.ref C,none,.fields vs,osl⟩:=Heap.get?_push_of_some _ he
 have hxs:e≠hh.objs.size:=Nat.ne_of_lt (Heap.lt_size he)
 refine wpAny_bind (wpAny_alloc' (wpAny_bind (wpAny_update' hx₁ (wpAny_pure ?_))))
 have hgd:((hh.push { cls:=.type "dict",data:=.dict #[] }).update e fun o=>{ cls:=o.cls,dict:=some hh.objs.size,data:=o.data,slots:=o.slots }).get? hh.objs.size=some { cls:=.type "dict",data:=.dict #[] } :=
  (Heap.get?_update_ne _ _ _ _ hxs.symm).trans (Heap.get?_push_at rfl rfl)
 have hge:((hh.push { cls:=.type "dict",data:=.dict #[] }).update e fun o=>{ cls:=o.cls,dict:=some hh.objs.size,data:=o.data,slots:=o.slots }).get? e=some ⟨.ref C,some hh.objs.size,.fields vs,osl⟩ :=
  Heap.get?_update_self _ hx₁ rfl
 have hgb:∀ b o,b≠e→hh.get? b=some o→((hh.push { cls:=.type "dict",data:=.dict #[] }).update e fun o=>{ cls:=o.cls,dict:=some hh.objs.size,data:=o.data,slots:=o.slots }).get? b=some o:=fun b o hb e=>(Heap.get?_update_ne _ _ _ _ hb).trans (Heap.get?_push_of_some _ e)
 generalize (hh.push { cls:=.type "dict",data:=.dict #[] }).update e (fun o=>{ cls:=o.cls,dict:=some hh.objs.size,data:=o.data,slots:=o.slots })=h2 at hgd hge hgb
 have hnd:h2.Ns hh.objs.size (fun zz=>none):=⟨_,#[],_,hgd,rfl,fun e he=>absurd he (by simp),fun zz=>rfl⟩
 show wpAny _ _ (Builtin.ObjectAttr.storeInDict hh.objs.size (.str "reason" tk) "reason" v) _ _ _
 delta Builtin.ObjectAttr.storeInDict Builtin.ObjectAttr.newKeyGuard
 refine wpAny_bind (wpAny_pure (wpAny_bind (wpAny_nsSet1 (Heap.Ns1.of_empty hnd) fun h' hn' hs=>?_)))
 obtain ⟨oD,esD,epD,hoD,hdD,hcD⟩:=hn'.count (Within.cons "reason" v Within.nil)
 refine wpAny_bind (wpAny_lookBehind hoD (by rw [hdD]; exact pastItsLine_dict (Nat.le_trans hcD (by rw [List.length_cons,List.length_nil,sizeLine_eq]; lia))) ?_)
 exact wpAny_pure (hq h' _ hh.objs.size ((hs.2 e hxs).trans hge) fun b o hb eb=>(hs.2 b (Nat.ne_of_lt (Heap.lt_size eb))).trans (hgb b o hb eb))
theorem exc_store (X:K.In s.heap)(hC:ClsE K C)(hs:findIn K (.ref C) "__setattr__" = some (some (.builtin "object.__setattr__")))(hr:findIn K (.ref C) "reason" = some none)(he:s.heap.get? e=some oe)(hc:oe.cls=.ref C)(hd:oe.dict=none){vs:Array Value}(hv:oe.data=.fields vs)
  {Q:Unit→Shared→Prop} (hq:∀ h' t d,h'.get? e=some { oe with dict:=some d }→(∀ b o,b≠e→s.heap.get? b=some o→h'.get? b=some o)→Q () { s with heap:=h',toks:=t }) :
  wpAny (model prog w) A (setAttr (.ref e) "reason" v) Q E s:=by
 have T:∀ M:Model,Looks M s.heap (typeOf (.ref e)) (.ref C):=fun M=>(Looks.ld he).andThen (by rw [hc]; exact .now)
 have SF:=PySem.F.store_object
 refine wpAny_bind (wpAny_mkText (wpAny_bind (wpAny_bind (wpAny_bind (T _ _ _ _ _ (fun zz zz e=>e) (looks_findIn X hs _ _ _ _ (fun zz zz e=>e) (wpAny_holding ?_)))))))
 rw [SF.slot.bind]
 refine wpAny_bind (wpAny_pure (wpAny_bind (wpAny_call ?_)))
 exact exc_set (s:={ s with toks:=s.toks+1 }) X hC hr he hc hd hv fun h' t d a b=>wpAny_pure (wpAny_pure (hq h' t d a b))
end
inductive InitE (K:Frag)(C:Addr):Prop
 | mk (I:Addr) (c:Value) (d:Option Addr) (sl:Array (Option Value)) (fd:FuncData) (p1 p2 p3 p4:Pos) (T:Addr) (o:Obj) (items:Array Value) (k:Nat) (h0:findIn K (.ref C) "__init__" = some (some (.ref I))) (h1:typeIn K (.ref I)=some (.type "function")) (h2:K.lookup I=some ⟨c,d,.func fd,sl⟩) (h3:fd.body=.stmts [.Assign [.Attribute (.Name "self" p1) "reason" p2] (.Name "reason" p3) p4]) (h4:fd.scope={ kind:=.function,names:=[("self",.local),("reason",.local)],isGenerator:=false,isCoroutine:=false }) (h5:fd.params.posonlyargs=[]) (h6:fd.params.args.map (·.arg)=(["self","reason"]:List Str)) (h7:fd.params.kwonlyargs=[]) (h8:fd.params.vararg=none) (h9:fd.params.kwarg=none) (h10:codeIn K fd.code fd.qualname=true) (h11:fd.defaults=.ref T) (h12:K.lookup T=some o) (h13:o.data=.seq items k) (h14:items.size≤2) (h15:fd.closure=[])
section
variable {prog:Program} {w:World} {A:Around} {E:Value→Shared→Prop} {K:Frag} {C e I:Addr} {s:Shared} {oe:Obj} {v:Value}
theorem init_call {R:Result→Shared→Prop}(X:K.In s.heap)(hC:ClsE K C)(hI:InitE K C)(hs:findIn K (.ref C) "__setattr__" = some (some (.builtin "object.__setattr__")))(hr:findIn K (.ref C) "reason" = some none)(he:s.heap.get? e=some oe)(hc:oe.cls=.ref C)(hd:oe.dict=none){vs:Array Value}(hv:oe.data=.fields vs)
  (hroom:A.depth<recursionLimit) (hlim:s.heap.NoLimit) (hf:findIn K (.ref C) "__init__" = some (some (.ref I)))
  (hq:∀ h' t d,h'.get? e=some { oe with dict:=some d }→(∀ b o,b≠e→s.heap.get? b=some o→h'.get? b=some o)→R (.ok (.ret .none)) { s with heap:=h',toks:=t }) :
  codeAny (model prog w) A (.call (.ref I) ⟨[.ref e,v],[]⟩) R s:=by
 refine cp fun kk=>?_
 obtain ⟨I',c,d,sl,fd,p1,p2,p3,p4,T,o,items,k,hi,_,ho,hb,hsc,a1,a2,a3,a4,a5,hcd,hdf,hT,hdat,hsz,hcl⟩:=hI
 rw [hi] at hf; cases hf
 have bd:BindsTo s fd ⟨[.ref e,v],[]⟩ [("self",.ref e),("reason",v)]:=fun M A E Q q=>by
  refine bind_gen (vs:=[.ref e,v]) (ns:=["self","reason"]) (ds:=items.toList) a1 a2 a3 a4 a5 (Nat.le_refl 2) (by rw [Array.length_toList]; exact hsz) (Nat.le_add_right 2 _) (by decide) (fun R hR=>?_) ?_
  ·rw [hdf]
   exact wpAny_seqItems (X _ _ hT) hdat (hR _ rfl)
  ·rw [List.drop_of_length_le (by show items.toList.length≤2+items.toList.length-2; lia)]; exact q
 refine kk ?_
 refine codeAny_call_def hroom (X _ _ ho) rfl hlim (codeRec_of X hcd) hb bd (by rw [hsc]; decide) (by rw [hsc]; intro x hx; rcases List.mem_cons.mp hx with rfl|hx; rfl; rw [List.mem_singleton.mp hx]; rfl) (fun h₀ hns keep=>?_) (by rw [hsc]) (by rw [hsc]) (by rw [hsc])
 have kd:∀ x,(callEnv fd s.heap.objs.size I).kindOf x=([("self",.local),("reason",.local)]:List (Str×NameKind)).lookup x:=fun x=>by
  show fd.scope.names.lookup x=_
  rw [hsc]
 refine wpAny_execs_cons (plainObj_wpAny_Assign_Attribute (ldc (by rw [hsc]) (kd _) hns rfl (ldc (by rw [hsc]) (kd _) hns rfl ?_)))
 refine exc_store (s:={ s with heap:=h₀,toks:=_ }) (X.keeps keep) hC hs hr (keep _ _ he) hc hd hv fun h' t d h1 h2=>?_
 exact wpAny_execs_nil (hq h' t d h1 fun b o hb e=>h2 b o hb (keep _ _ e))
end
set_option maxRecDepth 100000
section
variable {prog:Program} {w:World} {A:Around} {E:Value→Shared→Prop} {R:Result→Shared→Prop} {h:Heap} {g:Array GenState} {d:Drawn} {t:Nat} {os:OsState}
variable {nm q:Str} {C N b:Addr} {bs:List Value} {sn:List Str} {sub:List Value} {ab:Bool} {col:Option Bool} {dd:Option Addr} {k0 k1 k2 k3 k5:Option Value} {rest:List Value}
theorem exc_check {M:Model}{Q:Unit→Shared→Prop}(hC:h.get? C=some (excClassObj nm q C N bs (.ref b::eTop) true sn sub ab col dd k0 k1 k2 k3 k5 "ValueError.__new__"))(hq:Q () ⟨h,g,d,t,os⟩):wpAny M A (checkBuiltinCall "ValueError.__new__" ⟨.ref C::rest,[]⟩) Q E ⟨h,g,d,t,os⟩ :=
 wpAny_check_new_subU PySem.F.excBase_ValueError rfl .base hC hq
theorem exc_new (hC:h.get? C=some (excClassObj nm q C N bs (.ref b::eTop) true sn sub ab col dd k0 k1 k2 k3 k5 "ValueError.__new__"))
  (hq:R (.ok (.ret (.ref (h.objs.size+1)))) ⟨(h.push { cls:=.type "tuple",data:=.seq rest.toArray }).push { cls:=.ref C,data:=.fields #[.ref h.objs.size,.none,.none,.none,.bool false,.none] },g,d,t,os⟩) (hrest:rest.length≤sizeLine) :
  codeAny (model prog w) A (.builtin "ValueError.__new__" ⟨.ref C::rest,[]⟩) R ⟨h,g,d,t,os⟩:=by
 have Fn:=PySem.F.excBase_ValueError
 have hends:=Fn.ends
 have hcB:(Value.ref C::.ref b::eTop).contains (.type "ValueError")=true:=rfl
 have hcA:(Value.ref C::.ref b::eTop).contains (.type "AttributeError")=false:=rfl
 have hcN:(Value.ref C::.ref b::eTop).contains (.type "NameError")=false:=rfl
 refine codeAny_builtinAt Fn.entry ?_
 unfold Builtin.«BaseException.__new__»
 refine PySem.wpAt_bind ?_
 show PySem.wpAt _ _ _ (stack >>= _) _ _ _
 refine PySem.wpAt_bind (PySem.wpAt_stack fun p below=>PySem.wpAt_of_wpAny ?_)
 wp_walk
 refine PySem.wpAt_of_wpAny ?_
 refine (Eq.symm Fn.owner)▸?_
 repeat (first|with_reducible refine wpAny_madeHere_exc Fn.canon hC ?_|with_reducible refine wpAny_loadPart_at hC ?_|(with_reducible refine wpAny_isSubtype_exc hC ?_; first|rw [hcB]|rw [hcA]|rw [hcN])|wp_step)
 show R _ _
 rw [Heap.size_push]
 exact hq
structure EF (K:Frag)(C:Addr):Prop where
 cls:ClsE K C
 init:InitE K C
 set:findIn K (.ref C) "__setattr__" = some (some (.builtin "object.__setattr__"))
 rsn:findIn K (.ref C) "reason" = some none
variable {K:Frag} {v:Value} {Q:Value→Shared→Prop}
theorem exc_type (F:EF K C)(X:K.In h)(hroom:A.depth<recursionLimit)(hlim:h.NoLimit){Q:Fin→Shared→Prop}{d':Drawn}
  (hq:∀ h' t e tt d,h'.get? e=some { cls:=.ref C,dict:=some d,data:=.fields #[.ref tt,.none,.none,.none,.bool false,.none] }→h.get? e=none→(∀ b o,h.get? b=some o→h'.get? b=some o)→Q (.done (.ret (.ref e))) ⟨h',g,d',t,os⟩) :
  wpAny (model prog w) A (Builtin.«type.__call__» ⟨[.ref C,v],[]⟩) Q E ⟨h,g,d',t,os⟩:=by
 refine cp fun kk=>?_
 obtain ⟨nm,q,N,b,bs,sn,sub,ab,col,dd,k0,k1,k2,k3,k5,hK⟩:=F.cls
 obtain ⟨I,hI,hfn⟩:∃ I,findIn K (.ref C) "__init__" = some (some (.ref I))∧typeIn K (.ref I)=some (.type "function"):=by
  refine cp fun kk=>?_
  obtain ⟨I,_,_,_,_,_,_,_,_,_,_,_,_,a,b,_⟩:=F.init
  refine kk ?_
  exact ⟨I,a,b⟩
 have hC:=X _ _ hK
 refine kk ?_
 repeat (first|with_reducible refine wpAny_loadPart_at hC ?_|with_reducible refine wpAny_madeBy_exc hC ?_|wp_step)
 refine codeAny_call_builtin_code (Code.quiet_builtin _ PySem.F.excBase_ValueError.quiet) (exc_check hC (exc_new hC ?_ (Nat.le_of_ble_eq_true rfl)))
 have hget:((h.push { cls:=.type "tuple",data:=.seq #[v] }).push { cls:=.ref C,data:=.fields #[.ref h.objs.size,.none,.none,.none,.bool false,.none] }).get? (h.objs.size+1)=some { cls:=.ref C,data:=.fields #[.ref h.objs.size,.none,.none,.none,.bool false,.none] }:=by heap_get
 have keep:∀ b o,h.get? b=some o→((h.push { cls:=.type "tuple",data:=.seq #[v] }).push { cls:=.ref C,data:=.fields #[.ref h.objs.size,.none,.none,.none,.bool false,.none] }).get? b=some o:=fun b o e=>Heap.get?_push_of_some _ (Heap.get?_push_of_some _ e)
 have lim:((h.push { cls:=.type "tuple",data:=.seq #[v] }).push { cls:=.ref C,data:=.fields #[.ref h.objs.size,.none,.none,.none,.bool false,.none] }).NoLimit:=hlim.keeps keep
 have new:h.get? (h.objs.size+1)=none:=Heap.get?_none_of_le (Nat.le_succ _)
 generalize (h.push { cls:=.type "tuple",data:=.seq #[v] }).push { cls:=.ref C,data:=.fields #[.ref h.objs.size,.none,.none,.none,.bool false,.none] }=h1 at hget keep lim
 generalize h.objs.size+1=e at hget new
 have X1:=X.keeps keep
 have T:∀ M:Model,Looks M h1 (typeOf (.ref e)) (.ref C):=fun M=>(Looks.ld hget).andThen .now
 refine cp fun kk=>?_
 obtain ⟨cd,hcl,hmr⟩:∃ cd,clsIn K C=some cd∧cd.mro=.ref C::.ref b::eTop:=by
  unfold clsIn; rw [hK]; exact ⟨_,rfl,rfl⟩
 have sub:Looks (model prog w) h1 (isInstance (.ref e) (.ref C)) true:=(T _).andThen (looks_subIn X1 (by
  show mroIn K C _=_
  unfold mroIn; rw [hcl,Option.bind_some,hmr]; simp))
 refine kk ?_
 refine wpAny_bind (sub _ _ _ _ (fun zz zz e=>e) ?_)
 refine wpAny_bind (wpAny_holding (wpAny_bind (wpAny_bind (T _ _ _ _ _ (fun zz zz e=>e) (looks_findIn X1 hI _ _ _ _ (fun zz zz e=>e) (wpAny_holding (wpAny_bind (bind_fn X1 _ hfn _ _ _ _ (fun zz zz e=>e) (wpAny_bind (wpAny_call ?_))))))))))
 refine init_call X1 F.cls F.init F.set F.rsn hget rfl rfl rfl hroom lim hI fun h' t' d k1 k2=>?_
 exact wpAny_pure (wpAny_pure (hq h' t' e _ d k1 new fun b o eb=>k2 b o (fun z=>by rw [z,new] at eb; injection eb) (keep b o eb)))
theorem exc_call (F:EF K C)(X:K.In h)(hroom:A.depth+1<recursionLimit)(hlim:h.NoLimit){d':Drawn}
  (hq:∀ h' t e tt d,h'.get? e=some { cls:=.ref C,dict:=some d,data:=.fields #[.ref tt,.none,.none,.none,.bool false,.none] }→h.get? e=none→(∀ b o,h.get? b=some o→h'.get? b=some o)→Q (.ref e) ⟨h',g,d',t,os⟩) :
  wpAny (model prog w) A (call (.ref C) [v]) Q E ⟨h,g,d',t,os⟩:=by
 refine cp fun kk=>?_
 obtain ⟨nm,q,N,b,bs,sn,sub,ab,col,dd,k0,k1,k2,k3,k5,hK⟩:=F.cls
 have hC:=X _ _ hK
 have f1:=tc_lookup
 have f2:=tc_bind (.ref C)
 have hT:(⟨h,g,d',t,os⟩:Shared).TypeIs (.ref C) "type":=⟨_,hC,rfl⟩
 refine kk ?_
 refine wpAny_call (codeAny_of_tree ?_)
 show wpAny _ _ (callAny (.ref C) _) _ _ _
 repeat (any_goals (first|assumption|with_reducible refine wpAny_loadPart_at hC ?_|wp_step))
 refine ⟨rfl,codeAny_call_builtin_at (Code.quiet_builtin _ (by decide +kernel)) entry_typeCall (wpAny_check_type_call_sub hC (exc_type F X ?_ hlim fun h' t e tt d a b c=>hq h' t e tt d a b c))⟩
 exact hroom
end
set_option maxRecDepth 10000
section
variable {M:Model} {A:Around} {E:Value→Shared→Prop} {env:Env} {K:Frag} {C:Addr}
theorem exc_raise (F:EF K C)(hh:A.handled=none){s:Shared}{x:Sem Value}{Q:Flow→Shared→Prop}
  (h:wpAny M A x (fun v s₁=>∃ e t d,v=.ref e∧K.In s₁.heap∧s₁.heap.get? e=some { cls:=.ref C,dict:=some d,data:=.fields #[.ref t,.none,.none,.none,.bool false,.none] }∧E (.ref e) s₁) E s) :
  wpAny M A (raiseStmt env (some x) none) Q E s:=by
 refine cp fun kk=>?_
 obtain ⟨nm,q,N,b,bs,sn,sub,ab,col,dd,k0,k1,k2,k3,k5,hK⟩:=F.cls
 have hcB:(Value.ref C::.ref b::eTop).contains (.type "BaseException")=true:=rfl
 refine kk ?_
 unfold raiseStmt
 refine wpAny_bind (wpAny_mono h (fun v s₁ h₁=>?_) fun zz zz x=>x)
 refine cp fun kk=>?_
 obtain ⟨e,t,d,rfl,X,he,hE⟩:=h₁
 have hC:=X _ _ hK
 obtain ⟨hp,g,dr,tk,os⟩:=s₁
 refine kk ?_
 repeat (first|with_reducible refine wpAny_loadPart_at he ?_|with_reducible refine wpAny_loadPart_at hC ?_|(with_reducible refine wpAny_isSubtype_exc hC ?_; rw [hcB])|wp_step)
 exact wpAny_raiseNew_none hh hE
end
noncomputable def frV (L:Addr)(fs:List Addr):View:=fun a=>if a=L∨a∈fs then some (.cell none) else none
theorem frV_in {L:Addr}{fs:List Addr}{a:Addr}(h:a=L∨a∈fs):frV L fs a=some (.cell none):=if_pos h
theorem frV_out {L:Addr}{fs:List Addr}{a:Addr}(h:¬(a=L∨a∈fs)):frV L fs a=none:=if_neg h
theorem fly_new {W:Wo}{A:Around}{fs:List Addr}{O:Heap}{env:Env}{n:Nat}{m:Mp}{V:View}{s:Shared}(b:Bok W A fs O env n)(f:SF W fs O env.locals m V s){h':Heap}{t:Nat}{e:Addr}{tt d:Addr}{stk:List Env}(hs:A.frames=some stk)
  (he:h'.get? e=some { cls:=.ref W.exc,dict:=some d,data:=.fields #[.ref tt,.none,.none,.none,.bool false,.none] }) (hn:s.heap.get? e=none) (keep:∀ b o,s.heap.get? b=some o→h'.get? b=some o):XF W stk fs O env.locals m V (.ref e) { s with heap:=h',toks:=t }:=by
 have hB:∀ a o,(hideV s.heap (frV env.locals fs)).get? a=some o→s.heap.get? a=some o:=fun a o e=>(hideV_some e).1
 have hin:∀ a o,s.heap.get? a=some o→¬(a=env.locals∨a∈fs)→(hideV s.heap (frV env.locals fs)).get? a=some o:=fun a o e h=>hideV_of e (frV_out h)
 have hno:∀ a,(a=env.locals∨a∈fs)→(hideV s.heap (frV env.locals fs)).get? a=none:=fun a h=>by rw [hideV_get,frV_in h]; rfl
 refine ⟨f.grown keep,e,hideV s.heap (frV env.locals fs),rfl,⟨fun a o ea=>keep _ _ (hB a o ea),?_,funFrames_of fun x hx=>?_,_,_,_,he,rfl,rfl,rfl,.inl rfl⟩,fun a o ea ha=>hin a o (f.keep.exact ea ha) fun q=>?_,fun a o ea=>?_⟩
 ·rcases q:(hideV s.heap (frV env.locals fs)).get? e with _|⟨o⟩
  ·rfl
  ·have:=hB e o q; rw [hn] at this; injection this
 ·refine cp fun kk=>?_
  obtain ⟨stk',hs',hk⟩:=b.frames
  rw [hs] at hs'; obtain rfl:=Option.some.inj hs'
  obtain ⟨h1,L,h2,h3,h4⟩:=hk x hx
  refine kk ?_
  refine ⟨h1,L,h2,hno L h4,?_⟩
  rcases h4 with rfl|h4
  ·refine cp fun kk=>?_
   obtain ⟨mr,⟨o,es,ep,ho,hd,_⟩,_⟩:=f.ns
   refine kk ?_
   exact ⟨o,keep _ _ ho,fun vs q=>by rw [hd] at q; cases q⟩
  ·refine cp fun kk=>?_
   obtain ⟨_,o,h5,h6⟩:=b.fsn L h4
   obtain ⟨sl,h7,_⟩:=f.keep L o h5
   refine kk ?_
   exact ⟨_,keep _ _ h7,h6⟩
 ·rcases q with rfl|q
  ·rw [f.offO] at ea; injection ea
  ·exact ha q
 ·refine cp fun kk=>?_
  obtain ⟨ob,h1,h2⟩:=f.view a o ea
  refine kk ?_
  refine ⟨ob,hin a ob h1 fun q=>?_,h2⟩
  rcases q with rfl|q
  ·rw [f.offL] at ea; injection ea
  ·obtain ⟨_,o',h5,_⟩:=b.fsn a q
   rw [f.off a o ea] at h5; injection h5
structure EW (W:Wo):Prop extends EF W.K W.exc where
 glob:nsIn W.K mainGlobals "Overflow" = some (some (.ref W.exc))
 keep:keepIn W.K (.ref W.exc)=true
theorem EW.gv {W:Wo}(F:EW W):Mine.Internal.gv W.K "Overflow" = some (.ref W.exc):=by
 unfold Mine.Internal.gv
 rw [if_neg (by decide),F.glob]; rfl
theorem ov_raise {W:Wo}(F:EW W)(C:Fx)(m:Mp)(V:View)(s:Shared)(S:Stmt)(Q:Flow→Shared→Prop)(hW:C.W=W)(hg:isGl C.kd "Overflow" = true)(hn:4≤C.n)(f:SF C.W C.fs C.O C.env.locals m V s)
  (hE:∀ v s' stk,C.A.frames=some stk→XF C.W stk C.fs C.O C.env.locals m V v s'→C.E v s'):Wp C (exec (toS .raise S) C.env) Q s:=by
 subst hW
 show wpAny _ _ (exec (.Raise (some (.Call (.Name "Overflow" _) [.Constant (.str _) _ _] [] _)) none _) _) _ _ _
 rw [arm_exec_Raise]
 refine wpAny_bind (wpAny_standAt ?_)
 refine exc_raise F.toEF C.bok.hnd (wpAny_bind (wpAny_mono (wpAny_Call_ofName (wpAny_mono (s_name (c:={ W:=C.W,n:=C.n,kd:=C.kd,cl:=C.cl }) (x:="Overflow") (Q:=fun v=>v=.ref C.W.exc) ?_ C.env C.A C.fs C.O s C.E C.eok C.bok f fun zz zz zz zz zz zz h=>h.elim) (fun fv s₁ h₁=>?_) fun zz zz x=>x)) (fun v s₃ h₃=>wpAny_bind (wpAny_standAt (wpAny_pure h₃))) fun zz zz x=>x))
 ·unfold nameV
  have:C.kd "Overflow" = some .globalImplicit:=by
   unfold isGl at hg
   split at hg
   ·assumption
   ·injection hg
  dsimp only
  refine (Eq.symm this)▸?_
  exact ⟨_,F.gv,rfl⟩
 ·refine cp fun kk=>?_
  obtain ⟨_,f₁,rfl,hv⟩:=h₁
  obtain rfl:=er_ref hv
  refine kk ?_
  refine callWith_w (K:=C.W.K) rfl (spliced_cons (wpAny_Constant_str (k:=numE (k1 (valS S))) (pos:=(k1 (valS S)).pos) (spliced_nil ?_)))
  have f₂:=f₁.tok (s₁.toks+1)
  have X:=C.bok.kin f₂.toSC
  refine ⟨⟨X,.inl F.keep⟩,?_⟩
  refine exc_call F.toEF X (by have:=C.bok.depth; lia) ((C.bok.ok.top.nolimit).keeps (C.bok.base f₂.toSC)) fun h' t e tt d a b c=>?_
  refine cp fun kk=>?_
  obtain ⟨stk,hs,_⟩:=C.bok.frames
  refine kk ?_
  exact ⟨e,tt,d,rfl,X.keeps c,a,hE _ _ stk hs (fly_new C.bok f₂ hs a b c)⟩
section
variable {M:Model} {A:Around} {E:Value→Shared→Prop} {s:Shared}
theorem note_F {B:Heap}{env:Env}{outer:List Env}{e:Addr}{cls:Value}(hfr:A.frames=some (env::outer))(hf:env.frame=some env.locals)(fl:FlyF B (env::outer) e cls s.heap){Q:Unit→Shared→Prop}
  (hQ:∀ h' a0,Heap.HeldW B (env::outer) e cls a0 env.locals h'→s.heap.UpToSlots h'→Q () { s with heap:=h' }):wpAny M A (noteFrame (.ref e) env) Q E s:=by
 refine cp fun kk=>?_
 obtain ⟨b1,b2,b3,oe,vs,a0,he,hc,hd,h0,hT⟩:=fl
 have fin:∀ h',Heap.NotedW B (env::outer) e oe.cls a0 (rawInt env.locals) s.heap h'→Q () { s with heap:=h' }:=fun h' ⟨k1,k2,k3,k4⟩=>hQ h' a0 ⟨k1,b2,k2,by rw [hc] at k3; exact k3⟩ k4
 refine kk ?_
 rcases hT with hT|hT
 ·unfold noteFrame
  rw [hf]
  refine wpAny_bind (wpAny_field he hd hT ?_)
  rw [if_neg (by decide)]
  exact wpAny_entryW hfr b3 hf he b1 b2 hd (Array.getElem?_eq_some_iff.mp hT).1 h0 fin
 ·exact wpAny_noteFrame_onW hfr b3 hf hT b1 b2 fun h' k=>fin h' (by rw [hc]; exact k)
end
theorem land_F {W:Wo}{fs:List Addr}{O B:Heap}{L:Addr}{m:Mp}{V:View}{s:Shared}{h':Heap}{t:Nat}(fsn:∀ b∈fs,∃ o,O.get? b=some o∧∀ vs,o.data≠.fields vs)(sf:SF W fs O L m V s)(bO:∀ b o,O.get? b=some o→b ∉ fs→B.get? b=some o)(bV:∀ a o,V a=some o→∃ ob,B.get? a=some ob∧RO ob o)
  (st:B.StaysIn h') (up:s.heap.UpToSlots h'):SF W fs O L m V { s with heap:=h',toks:=t }:=by
 refine ⟨⟨fun b o eo=>?_,fun a o ea=>?_,sf.off,sf.gens,sf.drawn,sf.os⟩,?_,sf.offL,sf.offO⟩
 ·by_cases hb:b∈fs
  ·refine cp fun kk=>?_
   obtain ⟨sl,k1,k2⟩:=sf.keep b o eo
   obtain ⟨o',q1,q2⟩:=fsn b hb
   rw [eo] at q1; obtain rfl:=Option.some.inj q1
   obtain ⟨sl',k3⟩:=up b _ k1 q2
   refine kk ?_
   exact ⟨sl',k3,fun q=>absurd hb q⟩
  ·exact ⟨o.slots,st _ _ (bO b o eo hb),fun zz=>rfl⟩
 ·refine cp fun kk=>?_
  obtain ⟨ob,q1,q2⟩:=bV a o ea
  refine kk ?_
  exact ⟨ob,st _ _ q1,q2⟩
 ·refine cp fun kk=>?_
  obtain ⟨mr,hn,hm⟩:=sf.ns
  refine kk ?_
  exact ⟨mr,up.ns hn,hm⟩
theorem ov_catch {W:Wo}(F:EW W)(C:Fx)(m:Mp)(V:View)(s:Shared)(v:Value)(outer:List Env)(b:Stmt)(p hp:Pos)(Q:Flow→Shared→Prop)(hW:C.W=W)(hg:isGl C.kd "Overflow" = true)(hfr:C.A.frames=some (C.env::outer))(hf:C.env.frame=some C.env.locals)
  (xf:XF C.W (C.env::outer) C.fs C.O C.env.locals m V v s) (hb:∀ s' E',SF C.W C.fs C.O C.env.locals m V s'→wpAny (model C.W.prog C.W.w) (C.A.mark (some v)) (execs [b] C.env) Q E' s') :
  wpAny (model C.W.prog C.W.w) C.A (noteFrame v C.env) (fun zz s₂=>wpAny (model C.W.prog C.W.w) C.A (setFlight v none) (fun zz s₃=>wpAny (model C.W.prog C.W.w) C.A (handleBy v C.env [.ExceptHandler (some (.Name "Overflow" p)) none [b] hp]) Q C.E s₃) C.E s₂) C.E s:=by
 subst hW
 refine cp fun kk=>?_
 obtain ⟨sf,e,B,rfl,fl,bO,bV⟩:=xf
 have fsn:∀ b∈C.fs,∃ o,C.O.get? b=some o∧∀ vs,o.data≠.fields vs:=fun b hb=>(C.bok.fsn b hb).2
 refine kk ?_
 refine note_F hfr hf fl fun h2 a0 held u2=>?_
 refine wpAny_landsW held fun h3 fly u3=>?_
 have u:s.heap.UpToSlots h3:=u2.trans u3
 have f3:=land_F (t:=s.toks) fsn sf bO bV fly.1 u
 have X:=C.bok.kin f3.toSC
 have T:=C.bok.top f3.toSC
 refine cp fun kk=>?_
 obtain ⟨nm,q,N,b',bs,sn,sub,ab,col,dd,k0,k1,k2,k3,k5,hK⟩:=F.cls
 have hC:=X _ _ hK
 obtain ⟨oe,he,hcls⟩:=fly.there
 refine kk ?_
 refine wpAny_handleBy_cons (codeAny_handlers_test ?_) (by intro q; injection q)
 have hk:C.env.kindOf "Overflow" = some .globalImplicit:=by
  rw [← C.eok.kd]
  show C.kd "Overflow" = _
  unfold isGl at hg
  split at hg
  ·assumption
  ·injection hg
 refine Name_function_global C.bok.kind hk (loadGlobal_global (by rw [C.bok.glob]; exact T.g) (mg_of X T.g F.glob) ?_) (by decide)
 refine wpAny_excMatches_sub_self hC he hcls rfl (codeAny_handlers_suite ?_)
 refine lands_againW (s:={ s with heap:=h3 }) fly fun h4 fly4 u4=>?_
 exact hb _ _ (land_F (s:=s) (h':=h4) (t:=s.toks) fsn sf bO bV fly4.1 (u.trans u4))
theorem ov_of {W:Wo}(F:EW W):Ov W:=⟨ov_raise F,ov_catch F⟩
theorem round_sm {W:Wo}(P:PF W)(E:EW W)(s:Int×Int):∃ s':Int×Int,Sm W 20 103 [bx s] [.own 0] (.ok (.fr (.bool true)) [bx s']):=by
 obtain ⟨s',h⟩:=c103 s
 exact ⟨s',GG_ok P (ov_of E) (S:=nS) (fun zz zz zz zz zz h=>by injection h) 16 103 _ _ _ (.inr (h 0))⟩
theorem round_rule {W:Wo}(P:PF W)(X:EW W)(ok:WOk W){A:Around}{env:Env}{s:Shared}{L l:Addr}{m:Str→Option Value}{news:List (Addr×Obj)}{a b:Int}{ta tb:Tok}{n:Nat}{E:Value→Shared→Prop}{Q:Value→Shared→Prop}
  (hA:A.frames=some [env]) (hf:env.frame=some L) (hk:env.scope.kind≠.module) (hh:A.handled=none) (hd:A.depth+20<recursionLimit) (hu:A.units+8*20+64<cLine) (hg:s.gens=W.gens) (hdr:s.drawn=W.drawn) (hos:s.os=W.os)
  (F:Fr W.base L s.heap m) (N:News W.base L s.heap ((l,{ cls:=.type "list",data:=.seq #[.int a ta,.int b tb] n })::news)) (hne:∀ p∈news,p.1≠l)
  (hq:∀ s' a' b' ta' tb' n',s'.gens=W.gens→s'.drawn=W.drawn→s'.os=W.os→Fr W.base L s'.heap m→News W.base L s'.heap ((l,{ cls:=.type "list",data:=.seq #[.int a' ta',.int b' tb'] n' })::news)→Q (.bool true) s') :
  wpAny (model W.prog W.w) A (call (.ref (W.ad 103)) [.ref l]) Q E s:=by
 refine cp fun kk=>?_
 obtain ⟨s',hS⟩:=round_sm P X (a,b)
 obtain ⟨hl,hlL,hl0⟩:=N _ (.head _)
 refine kk ?_
 generalize hV:put (fun zz=>none) l (AO.list [.int a,.int b])=V
 have vl:V l=some (.list [.int a,.int b]):=by rw [← hV]; exact put_self _ _ _
 have vn:∀ x,x≠l→V x=none:=fun x hx=>by rw [← hV]; exact put_ne _ _ hx
 have vs:∀ x o,V x=some o→x=l:=fun x o e=>by
  by_cases q:x=l
  ·exact q
  ·rw [vn x q] at e; cases e
 obtain ⟨o,es,ep,ho,hd0,hr0⟩:=F.ns
 have hO:∀ x o,x≠l→s.heap.get? x=some o→(hideV s.heap V).get? x=some o:=fun x o hx e=>hideV_of e (vn x hx)
 have hL:(hideV s.heap V).get? L=some o:=hO L o (Ne.symm hlL) ho
 have bL:W.base.get? L=none:=Heap.get?_none_of_le F.above
 have nf:∀ vs,o.data≠.fields vs:=fun vs q=>by rw [hd0] at q; cases q
 have cok:Cok W A [L] (hideV s.heap V) 20:=⟨ok,fun x ox e=>hO x ox (fun q=>by rw [q,hl0] at e; cases e) (F.keep x ox e),⟨[env],hA,funFrames_of fun e he=>by
  rw [List.mem_singleton.mp he]
  exact ⟨hk,L,hf,bL,o,hL,nf⟩,fun x hx=>by
  obtain ⟨e,he,h⟩:=List.mem_filterMap.mp hx
  rw [List.mem_singleton.mp he,hf] at h
  obtain rfl:=Option.some.inj h; exact .head _⟩,fun x hx=>by
  rw [List.mem_singleton.mp hx]
  exact ⟨bL,o,hL,nf⟩,hh,hd,hu⟩
 have sc:SC W [L] (hideV s.heap V) V s:=⟨.of_keeps fun zz zz e=>(hideV_some e).1,fun x ox e=>by
  refine cp fun kk=>?_
  obtain rfl:=vs x ox e
  rw [vl] at e; obtain rfl:=Option.some.inj e
  refine kk ?_
  exact ⟨_,hl,_,_,rfl,rfl⟩,fun x ox e=>by rw [hideV_get,e]; rfl,hg,hdr,hos⟩
 let R:Rt:=⟨fun zz=>none,[l],fun x=>if x=l then some 0 else none⟩
 have core:Core W V R [bx (a,b)]:=by
  refine ⟨fun x e=>if_neg fun q=>?_,fun zz zz e=>?_,fun zz zz e=>?_,fun zz zz e=>?_,fun x i v e g=>?_,fun x i e=>?_,rfl,fun i x o e1 e2=>?_⟩
  ·rw [q,vl] at e; cases e
  ·cases e
  ·cases e
  ·cases e
  ·have q:=vs x _ g
   subst q
   rw [vl] at g; cases g
  ·have e:(if x=l then some 0 else none)=some i:=e
   split at e
   ·obtain rfl:=Option.some.inj e; exact Nat.zero_lt_one
   ·cases e
  ·rcases i with _|⟨i⟩
   ·obtain rfl:=Option.some.inj e1; obtain rfl:=Option.some.inj e2; exact .mk _ vl (if_pos rfl) (Nat.le_of_ble_eq_true rfl) ⟨_,_,rfl,rfl,_,_,rfl,rfl,rfl⟩
   ·cases e1
 have cl:=hS V R [.ref l] core (fun x o e=>.inr ⟨0,if_pos (vs x o e)⟩) ⟨_,_,rfl,⟨l,rfl,rfl⟩,rfl⟩
 rw [fAd_fn rfl] at cl
 refine wpAny_call (codeAny_mono (cl.run A [L] _ s (.ref (W.ad 103)) [.ref l] E cok sc rfl rfl fun v s' V' stk zz zz h=>by cases h.1) fun r s2 h=>?_)
 rcases r with e|(v|_|_|_) <;> first|exact h|exact h.elim|skip
 refine cp fun kk=>?_
 obtain ⟨V',sc',q,Ho,R',e,core',le,hq'⟩:=h
 cases e
 obtain rfl:=er_bool hq'
 have hw:R'.w[0]?=some l:=le.w 0 l rfl
 refine kk ?_
 show Q (.bool true) s2
 refine cp fun kk=>?_
 obtain ⟨as,hva,_,_,hr⟩:=core'.rt 0 l _ hw rfl
 obtain ⟨x1,t1,rfl,hx1,x2,t2,rfl,hx2,ht2⟩:=hr
 obtain rfl:t2=[]:=ht2
 obtain rfl:x1=.int s'.1:=hx1
 obtain rfl:x2=.int s'.2:=hx2
 obtain ⟨ob,hob,vs',n',rfl,he⟩:=sc'.view l _ hva
 obtain ⟨u1,r1,rfl,h1,he⟩:=List.map_eq_cons_iff.mp he
 obtain ⟨u2,r2,rfl,h2,he⟩:=List.map_eq_cons_iff.mp he
 obtain rfl:=List.map_eq_nil_iff.mp he
 obtain ⟨ta',rfl⟩:=er_int h1
 obtain ⟨tb',rfl⟩:=er_int h2
 refine kk ?_
 refine hq s2 s'.1 s'.2 ta' tb' n' sc'.gens sc'.drawn sc'.os ⟨sc'.keep.ns ⟨o,es,ep,hL,hd0,hr0⟩,fun x ox e=>cok.base sc' x ox e,F.above⟩ fun p hp=>?_
 rcases List.mem_cons.mp hp with rfl|hp
 ·exact ⟨hob,hlL,hl0⟩
 ·refine cp fun kk=>?_
  obtain ⟨h1,h2,h3⟩:=N p (.tail _ hp)
  refine kk ?_
  exact ⟨sc'.keep.exact (hO p.1 p.2 (hne p hp) h1) (fun q=>h2 (List.mem_singleton.mp q)),h2,h3⟩
set_option maxRecDepth 100000
noncomputable def adN (i:Nat):Nat:=(([(14,105),(15,112),(16,119),(17,126),(18,133),(25,168),(28,250),(29,261),(30,313),(39,358),(40,379),(41,400),(42,422),(43,443),(44,465),(45,476),(47,488),(48,494),(49,500),(50,505),(51,510),(52,515),(53,522),(54,529),(58,544),(59,551),(60,558),(61,565),(62,572),(63,579),(64,586),(65,593),(66,600),(67,607),(68,614),(69,621),(70,628),(71,636),(72,644),(75,651),(76,658),(77,665),(78,670),(79,677),(80,684),(81,691),(82,696),(83,703),(84,710),(85,717),(86,724),(88,731),(89,738),(90,745),(91,752),(92,759),(93,766),(94,771),(95,778),(96,785),(97,792),(98,799),(99,804),(100,811),(101,818),(102,825),(103,830),(104,837)]:List (Nat×Nat)).lookup i).getD 0
noncomputable def amN (C j:Nat):Nat:=(([(2800,197),(2801,204),(3000,275),(3001,282),(3002,289),(3003,296),(3004,303),(3900,355),(4001,376),(4101,397),(4201,419),(4301,440),(4401,462)]:List (Nat×Nat)).lookup (C*100+j)).getD 0
noncomputable def Wc (K:Frag)(p:Program)(w:World)(loose:List Str)(mean:ExcName→Option Value)(mg mb:Str→Option Value)(base:Heap)(gens:Array GenState)(drawn:Drawn)(os:OsState):Wo :=
 {prog:=PySem.Challenge.rw_tu0010_01.row.prog,w:=w,K:=K,p:=p,loose:=loose,mean:=mean,mg:=mg,mb:=mb,base:=base,gens:=gens,drawn:=drawn,os:=os,exc:=68,ad:=adN,am:=amN }
section
variable {K:Frag} {p:Program} {w:World} {loose:List Str} {mean:ExcName→Option Value} {mg mb:Str→Option Value} {base:Heap} {gens:Array GenState} {drawn:Drawn} {os:OsState}
theorem all_of {α:Type}{l:List α}{p:α→Bool}(h:l.all p=true):∀ x∈l,p x=true:=List.all_eq_true.mp h
noncomputable def oAt (K:Frag)(a:Addr):Obj:=(K.lookup a).getD default
noncomputable def cAt (K:Frag)(a:Addr):ClassData:=match (oAt K a).data with|.cls c=>c|_=>default
noncomputable def fAt (K:Frag)(a:Addr):FuncData:=match (oAt K a).data with|.func f=>f|_=>default
noncomputable def slAt (K:Frag)(a:Addr)(i:Nat):Option Value:=((oAt K a).slots[i]?).getD none
noncomputable def fnO (K:Frag)(st:Stmt)(a:Addr):Option Obj:=some ⟨(oAt K a).cls,(oAt K a).dict,.func (fnOf (nameOf st) (fAt K a).qualname (parsOf st) (bodyOf st) (scopeOf st) (fAt K a).defaults (fAt K a).kwdefaults (fAt K a).doc (fAt K a).pyModule (fAt K a).annotations (fAt K a).code (fAt K a).closureTuple),(oAt K a).slots⟩
noncomputable def clT:List Nat:=[28,30,39,40,41,42,43,44]
theorem flds_in {C f:Nat}:f∈flds C→C∈clT:=by
 delta flds
 iterate 8 refine cl_ite (P:=fun l=>f∈l→C∈clT) (fun e _=>by subst e; exact List.mem_of_elem_eq_true rfl) ?_
 exact fun h=>(List.not_mem_nil h).elim
theorem catK_in {C:Nat}{i:Int}:catK C=some i→C∈clT:=by
 delta catK
 iterate 5 refine cl_ite (P:=fun l=>l=some i→C∈clT) (fun e _=>by subst e; exact List.mem_of_elem_eq_true rfl) ?_
 exact fun h=>(Option.some_ne_none _ h.symm).elim
theorem fl_of {p:Nat→Nat→Bool}(h:(clT.all fun C=>(flds C).all fun f=>p C f)=true)(C f:Nat)(hf:f∈flds C):p C f=true:=List.all_eq_true.mp (List.all_eq_true.mp h C (flds_in hf)) f hf
theorem map_eq {α β:Type}{f g:α→β}{l:List α}(h:l.map f=l.map g):∀ x∈l,f x=g x:=List.map_inj_left.mp h
theorem some_of {α:Type}{o:Option α}(h:o.isSome=true):∃ x,o=some x:=Option.isSome_iff_exists.mp h
noncomputable def dflS:Data→Option (List AV)
 | .seq xs _=>(match xs.toList.map er with
  | []=>none
  | l=>some l)
 | _=>none
noncomputable def dflV (K:Frag):Value→Option (List AV)
 | .none=>some []
 | .ref T=>(K.lookup T).bind fun o=>dflS o.data
 | _=>none
theorem dflS_of {o:Data}{ds:List AV}(h:dflS o=some ds):∃ d r items n,ds=d::r∧o=.seq (List.toArray items) n∧items.map er=d::r:=by
 cases o with
 | seq xs n =>
  rcases z:xs.toList.map er with _|⟨d,l⟩
  ·have h:(match xs.toList.map er with
    | []=>none
    | l=>some l)=some ds:=h
   rw [z] at h; injection h
  ·have h:(match xs.toList.map er with
    | []=>none
    | l=>some l)=some ds:=h
   rw [z] at h
   exact ⟨d,l,xs.toList,n,(Option.some.inj h).symm,rfl,z⟩
 | _=>injection h
theorem dfl_of {K:Frag}{dV:Value}{ds:List AV}(h:dflV K dV=some ds):Dfl K dV ds:=by
 cases dV with
 | none=>obtain rfl:=Option.some.inj h; rfl
 | ref T =>
  rcases e:K.lookup T with _|⟨o⟩
  ·have h:(K.lookup T).bind (fun o=>dflS o.data)=some ds:=h
   rw [e] at h; injection h
  ·have h:(K.lookup T).bind (fun o=>dflS o.data)=some ds:=h
   rw [e] at h
   obtain ⟨d,r,items,n,rfl,q,z⟩:=dflS_of h
   exact ⟨T,o,items,n,rfl,e,q,z⟩
 | _=>injection h
theorem pf (p1:(globT.map fun x=>gv K x.1)=globT.map fun x=>some (x.2.av (Wc K p w loose mean mg mb base gens drawn os)))
  (p2:(fnT.map fun x:Nat×List PV=>K.lookup (fAd (Wc K p w loose mean mg mb base gens drawn os) x.1))=fnT.map fun x=>fnO K (fSt x.1) (fAd (Wc K p w loose mean mg mb base gens drawn os) x.1))
  (p3:(fnT.all fun x=>codeIn K (fAt K (fAd (Wc K p w loose mean mg mb base gens drawn os) x.1)).code (fAt K (fAd (Wc K p w loose mean mg mb base gens drawn os) x.1)).qualname)=true)
  (p4:(fnT.map fun x=>dflV K (fAt K (fAd (Wc K p w loose mean mg mb base gens drawn os) x.1)).defaults)=fnT.map fun x=>some (x.2.map avP))
  (p5:(clT.all fun C=>(flds C).all fun f=>(ca K (adN C) (fnm f)).isSome)=true)
  (p6:(clT.map fun C=>(catK C).bind fun _=>ca K (adN C) (fnm 8))=clT.map fun C=>(catK C).map fun i=>some (.int i))
  (p7:(clT.all fun C=>(flds C).all fun f=>sa K (adN C) (fnm f))=true)
  (p8:(meT.map fun x=>me K (adN x.1) x.2.1)=meT.map fun x=>some (amN x.1 x.2.2))
  (p9:(mkT.all fun x=>mkOk K (adN x.1) (amN x.1 x.2))=true)
  (p10:(clT.all fun C=>noIsi K (adN C))=true)
  (p11:isIn K (.ref (adN 28)) (adN 28)=true):PF (Wc K p w loose mean mg mb base gens drawn os) where
 gl:=map_eq p1
 fn:=fun x hx=>⟨(oAt K (fAd (Wc K p w loose mean mg mb base gens drawn os) x.1)).cls,_,_,_,_,_,_,_,_,_,_,map_eq p2 x hx,List.all_eq_true.mp p3 x hx,dfl_of (map_eq p4 x hx)⟩
 pa:=fun C f hf=>some_of (fl_of (p:=fun C f=>(ca K (adN C) (fnm f)).isSome) p5 C f hf)
 pk:=fun C i h=>by
  have q:=map_eq p6 C (catK_in h)
  rw [h] at q; exact q
 ps:=fl_of (p:=fun C f=>sa K (adN C) (fnm f)) p7
 pm:=map_eq p8
 cl:=List.all_eq_true.mp p9
 ni:=fun C h=>List.all_eq_true.mp p10 C (by
  rcases z:flds C with _|⟨f,r⟩
  ·rw [z] at h; injection h
  ·exact flds_in (f:=f) (by rw [z]; exact .head _))
 is:=p11
theorem ew (e1:K.lookup 68=some (excClassObj (cAt K 68).name (cAt K 68).qualname 68 67 (cAt K 68).bases (.ref 43::eTop) true (cAt K 68).slotNames (cAt K 68).subclasses false none none (slAt K 68 0) (slAt K 68 1) (slAt K 68 2) (slAt K 68 3) (slAt K 68 5) "ValueError.__new__"))
  (e2:findIn K (.ref 68) "__init__" = some (some (.ref 40))) (e3:typeIn K (.ref 40)=some (.type "function")) (e4:K.lookup 40=some ⟨(oAt K 40).cls,(oAt K 40).dict,.func (fAt K 40),(oAt K 40).slots⟩)
  (e5:(fAt K 40).body=.stmts [.Assign [.Attribute (.Name "self" ⟨9,8,9,12⟩) "reason" ⟨9,8,9,19⟩] (.Name "reason" ⟨9,22,9,28⟩) ⟨9,8,9,28⟩])
  (e6:(fAt K 40).scope={ kind:=.function,names:=[("self",.local),("reason",.local)],isGenerator:=false,isCoroutine:=false })
  (e7:((fAt K 40).params.posonlyargs,(fAt K 40).params.args.map (·.arg),(fAt K 40).params.kwonlyargs,(fAt K 40).params.vararg,(fAt K 40).params.kwarg)=([],(["self","reason"]:List Str),[],none,none))
  (e8:codeIn K (fAt K 40).code (fAt K 40).qualname=true) (e9:(fAt K 40).defaults=.ref 33) (e10:K.lookup 33=some { cls:=.type "tuple",data:=.seq #[.str "" 220] }) (e11:(fAt K 40).closure=[])
  (e12:findIn K (.ref 68) "__setattr__" = some (some (.builtin "object.__setattr__"))) (e13:findIn K (.ref 68) "reason" = some none) (e14:nsIn K mainGlobals "Overflow" = some (some (.ref 68))) (e15:keepIn K (.ref 68)=true):EW (Wc K p w loose mean mg mb base gens drawn os) where
 cls:=⟨_,_,_,_,_,_,_,_,_,_,_,_,_,_,_,e1⟩
 init:=⟨40,_,_,_,_,_,_,_,_,33,_,#[.str "" 220],0,e2,e3,e4,e5,e6,congrArg (·.1) e7,congrArg (·.2.1) e7,congrArg (·.2.2.1) e7,congrArg (·.2.2.2.1) e7,congrArg (·.2.2.2.2) e7,e8,e9,e10,rfl,Nat.le_succ 1,e11⟩
 set:=e12
 rsn:=e13
 glob:=e14
 keep:=e15
end
theorem two_ints {h₀ h:Heap}{L l:Addr}{a b:Int}{t t':Tok}{n:Nat}{r:List (Addr×Obj)}(_N:News h₀ L h ((l,PySem.W.listOf #[.int a t,.int b t'] n)::r)):IntsAre [.int a t,.int b t'] [a,b]:=.cons a t (.cons b t' .nil)
theorem round_K {Kf:PySem.Params→Frag}{p:Program}{w:World}{loose:List Str}{mean:ExcName→Option Value}{mg mb:Str→Option Value}{h₀:Heap}{A:Around}{env:Env}{s:Shared}{L l:Addr}{m:Str→Option Value}{news:List (Addr×Obj)}{a b:Int}{ta tb:Tok}{n:Nat}{E:Value→Shared→Prop}{Q:Value→Shared→Prop}
  (T:Top p loose mean mg mb h₀) (X:(Kf w.params).In h₀) (F:Fr h₀ L s.heap m) (N:News h₀ L s.heap ((l,{ cls:=.type "list",data:=.seq #[.int a ta,.int b tb] n })::news)) (hne:∀ p∈news,p.1≠l)
  (hA:A.frames=some [env]) (hf:env.frame=some L) (hk:env.scope.kind≠.module) (hh:A.handled=none) (hd:A.depth+20<recursionLimit) (hu:A.units+8*20+64<cLine)
  (P:PF (Wc (Kf w.params) p w loose mean mg mb h₀ s.gens s.drawn s.os)) (Q':EW (Wc (Kf w.params) p w loose mean mg mb h₀ s.gens s.drawn s.os))
  (hq:∀ h' t a' b' ta' tb' n',Fr h₀ L h' m→News h₀ L h' ((l,{ cls:=.type "list",data:=.seq #[.int a' ta',.int b' tb'] n' })::news)→Q (.bool true) { s with heap:=h',toks:=t }) :
  wpAny (model PySem.Challenge.rw_tu0010_01.row.prog w) A (call (.ref 830) [.ref l]) Q E s :=
 round_rule (W:=Wc (Kf w.params) p w loose mean mg mb h₀ s.gens s.drawn s.os) P Q' ⟨X,T⟩ hA hf hk hh hd hu rfl rfl rfl F N hne fun s' a' b' ta' tb' n' g1 g2 g3 F' N'=>by
  have:=hq s'.heap s'.toks a' b' ta' tb' n' F' N'
  have e:s'={ s with heap:=s'.heap,toks:=s'.toks }:=by
   obtain ⟨h',g,d,t,o⟩:=s'
   cases g1; cases g2; cases g3; rfl
  rw [e]; exact this
end Mine.Internal
set_option tactic.hygienic true
set_option maxRecDepth 10000
set_option genInjectivity true
set_option autoImplicit true
set_option backward.match.sparseCases true
set_option maxRecDepth 100000
set_option maxHeartbeats 0
local macro_rules | `(tactic| k_qdec) => `(tactic| decide +kernel)
namespace Mine.Internal
noncomputable def nmLoose:List Str:=[⟨⟨[84,79,80,95,83,75,73,80]⟩⟩,⟨⟨[83,80,76,73,84,95,84,79,80,95,83,75,73,80]⟩⟩,⟨⟨[84,65,66,95,83,75,73,80]⟩⟩,⟨⟨[83,80,65,67,69,95,83,75,73,80]⟩⟩,⟨⟨[88,83,80,65,67,69,95,83,75,73,80]⟩⟩,⟨⟨[80,65,82,95,70,73,76,76,95,83,75,73,80]⟩⟩,⟨⟨[80,97,103,101,69,114,114,111,114]⟩⟩,⟨⟨[77,65,88,95,68,73,77,69,78]⟩⟩,⟨⟨[77,65,88,95,78,85,77,66,69,82]⟩⟩,⟨⟨[78,79,82,77,65,76]⟩⟩,⟨⟨[70,73,76]⟩⟩,⟨⟨[70,73,76,76]⟩⟩,⟨⟨[70,73,76,76,76]⟩⟩,⟨⟨[116,105,109,101,115,95,115,99,97,108,101,100]⟩⟩,⟨⟨[111,118,101,114,95,115,99,97,108,101,100]⟩⟩,⟨⟨[67,72,65,82]⟩⟩,⟨⟨[76,73,71,65,84,85,82,69]⟩⟩,⟨⟨[72,66,79,88]⟩⟩,⟨⟨[86,66,79,88]⟩⟩,⟨⟨[82,85,76,69]⟩⟩,⟨⟨[75,69,82,78]⟩⟩,⟨⟨[71,76,85,69]⟩⟩,⟨⟨[80,69,78,65,76,84,89]⟩⟩,⟨⟨[68,73,83,67]⟩⟩,⟨⟨[77,65,82,75]⟩⟩,⟨⟨[73,78,83,69,82,84]⟩⟩,⟨⟨[65,68,74,85,83,84]⟩⟩,⟨⟨[77,65,84,72]⟩⟩,⟨⟨[83,80,69,67,73,65,76]⟩⟩,⟨⟨[85,78,83,69,84]⟩⟩,⟨⟨[78,65,84,85,82,65,76]⟩⟩,⟨⟨[83,84,82,69,84,67,72,69,68]⟩⟩,⟨⟨[83,72,82,85,78,75]⟩⟩,⟨⟨[70,79,78,84,95,75,69,82,78]⟩⟩,⟨⟨[69,88,80,76,73,67,73,84]⟩⟩,⟨⟨[65,67,67,69,78,84,95,75,69,82,78]⟩⟩,⟨⟨[77,85,95,75,69,82,78]⟩⟩,⟨⟨[80,76,65,73,78]⟩⟩,⟨⟨[65,76,69,65,68,69,82,83]⟩⟩,⟨⟨[67,76,69,65,68,69,82,83]⟩⟩,⟨⟨[88,76,69,65,68,69,82,83]⟩⟩,⟨⟨[77,85,95,83,75,73,80]⟩⟩,⟨⟨[78,79,78,83,67,82,73,80,84]⟩⟩,⟨⟨[78,65,77,69,68]⟩⟩,⟨⟨[70,79,82,95,68,69,86,73,67,69]⟩⟩,⟨⟨[87,82,73,84,73,78,71]⟩⟩,⟨⟨[79,80,69,78,73,78,71]⟩⟩,⟨⟨[67,76,79,83,73,78,71]⟩⟩,⟨⟨[82,117,108,101]⟩⟩,⟨⟨[75,101,114,110]⟩⟩,⟨⟨[83,107,105,112]⟩⟩,⟨⟨[80,101,110,97,108,116,121]⟩⟩,⟨⟨[85,110,115,101,116]⟩⟩,⟨⟨[100,101,115,99,114,105,98,101,100]⟩⟩,⟨⟨[100,101,115,99,114,105,98,101,100,95,108,105,115,116]⟩⟩,⟨⟨[69,88,65,67,84,76,89]⟩⟩,⟨⟨[83,80,82,69,65,68]⟩⟩,⟨⟨[70,73,78,69]⟩⟩,⟨⟨[76,79,79,83,69]⟩⟩,⟨⟨[84,73,71,72,84]⟩⟩,⟨⟨[79,86,69,82,70,85,76,76]⟩⟩,⟨⟨[104,112,97,99,107]⟩⟩,⟨⟨[118,112,97,99,107]⟩⟩,⟨⟨[84,65,66,95,83,79,82,84]⟩⟩]
noncomputable def nmValues:List (Str×WData):=[(⟨⟨[84,79,80,95,83,75,73,80]⟩⟩,.int 7),(⟨⟨[83,80,76,73,84,95,84,79,80,95,83,75,73,80]⟩⟩,.int 8),(⟨⟨[84,65,66,95,83,75,73,80]⟩⟩,.int 9),(⟨⟨[83,80,65,67,69,95,83,75,73,80]⟩⟩,.int 10),(⟨⟨[88,83,80,65,67,69,95,83,75,73,80]⟩⟩,.int 11),(⟨⟨[80,65,82,95,70,73,76,76,95,83,75,73,80]⟩⟩,.int 12),(⟨⟨[77,65,88,95,68,73,77,69,78]⟩⟩,.int 1073741823),(⟨⟨[77,65,88,95,78,85,77,66,69,82]⟩⟩,.int 2147483647),(⟨⟨[78,79,82,77,65,76]⟩⟩,.int 0),(⟨⟨[70,73,76]⟩⟩,.int 1),(⟨⟨[70,73,76,76]⟩⟩,.int 2),(⟨⟨[70,73,76,76,76]⟩⟩,.int 3),(⟨⟨[67,72,65,82]⟩⟩,.int 0),(⟨⟨[76,73,71,65,84,85,82,69]⟩⟩,.int 1),(⟨⟨[72,66,79,88]⟩⟩,.int 2),(⟨⟨[86,66,79,88]⟩⟩,.int 3),(⟨⟨[82,85,76,69]⟩⟩,.int 4),(⟨⟨[75,69,82,78]⟩⟩,.int 5),(⟨⟨[71,76,85,69]⟩⟩,.int 6),(⟨⟨[80,69,78,65,76,84,89]⟩⟩,.int 7),(⟨⟨[68,73,83,67]⟩⟩,.int 8),(⟨⟨[77,65,82,75]⟩⟩,.int 9),(⟨⟨[73,78,83,69,82,84]⟩⟩,.int 10),(⟨⟨[65,68,74,85,83,84]⟩⟩,.int 11),(⟨⟨[77,65,84,72]⟩⟩,.int 12),(⟨⟨[83,80,69,67,73,65,76]⟩⟩,.int 13),(⟨⟨[85,78,83,69,84]⟩⟩,.int 14),(⟨⟨[78,65,84,85,82,65,76]⟩⟩,.int 0),(⟨⟨[83,84,82,69,84,67,72,69,68]⟩⟩,.int 1),(⟨⟨[83,72,82,85,78,75]⟩⟩,.int 2),(⟨⟨[70,79,78,84,95,75,69,82,78]⟩⟩,.int 0),(⟨⟨[69,88,80,76,73,67,73,84]⟩⟩,.int 1),(⟨⟨[65,67,67,69,78,84,95,75,69,82,78]⟩⟩,.int 2),(⟨⟨[77,85,95,75,69,82,78]⟩⟩,.int 3),(⟨⟨[80,76,65,73,78]⟩⟩,.int 0),(⟨⟨[65,76,69,65,68,69,82,83]⟩⟩,.int 1),(⟨⟨[67,76,69,65,68,69,82,83]⟩⟩,.int 2),(⟨⟨[88,76,69,65,68,69,82,83]⟩⟩,.int 3),(⟨⟨[77,85,95,83,75,73,80]⟩⟩,.int 4),(⟨⟨[78,79,78,83,67,82,73,80,84]⟩⟩,.int 5),(⟨⟨[78,65,77,69,68]⟩⟩,.int 100),(⟨⟨[70,79,82,95,68,69,86,73,67,69]⟩⟩,.int 0),(⟨⟨[87,82,73,84,73,78,71]⟩⟩,.int 1),(⟨⟨[79,80,69,78,73,78,71]⟩⟩,.int 2),(⟨⟨[67,76,79,83,73,78,71]⟩⟩,.int 3),(⟨⟨[69,88,65,67,84,76,89]⟩⟩,.int 0),(⟨⟨[83,80,82,69,65,68]⟩⟩,.int 1),(⟨⟨[70,73,78,69]⟩⟩,.int 0),(⟨⟨[76,79,79,83,69]⟩⟩,.int 1),(⟨⟨[84,73,71,72,84]⟩⟩,.int 2),(⟨⟨[79,86,69,82,70,85,76,76]⟩⟩,.int 3),(⟨⟨[84,65,66,95,83,79,82,84]⟩⟩,.int 109)]
theorem PySem.W.holds_open {r:OpenRow}{q:Program}{loose:List Str}{Xt:Shared→Bool}{XP:(Str→Option Value)→Heap→Prop}{α:Type}{Yf:Shared→α}{Ya:World→α}{YP:World→Heap→Prop}{d:DefRec}{kwd:List (Str×PySem.Expr)}{N:Nat}
  (left:LeftO r.prog q nmLoose (fun s=>xlAt q nmValues s&&recOk r.toRowW.records s) Yf Ya N) (hY:∀ w s,Yf s=Ya w→YP w s.heap) (hYk:∀ w h h',YP w h→(∀ b o,h.get? b=some o→h'.get? b=some o)→YP w h')
  (hX:∀ s,Xt s=true→XP (s.heap.nsMap mainGlobals) s.heap) (hXk:∀ mg h h',XP mg h→(∀ b o,h.get? b=some o→h'.get? b=some o)→XP mg h')
  (hdef:defOf q r.name=some (d,kwd)) (hp:r.prog.theDef r.name=some (d.params,d.body,d.scope)) (hk:kwWritten? d.params.kwonlyargs d.params.kw_defaults=some kwd) (hRf:∀ s,Xt s=true→RecFacts r.records s.heap) (hwr:(!r.writes || r.records.isEmpty)=true)
  (k1:r.wellSaid=true) (ok:(chainsOk q&&opensWell r.prog&&(PySem.W.frees r.toRowW&&r.within.isEmpty))=true) (hb:r.prog.bare) (hw:r.toRowW.promised)
  (call:WalkO q loose XP YP r.toRowW d kwd fun f vs=>PySem.call f vs) (e1:nmLoose=loose:=by kernel_rfl) (e2:(fun s=>xlAt q nmValues s&&recOk r.toRowW.records s)=Xt:=by kernel_rfl):r.Holds :=
 _root_.PySem.W.holds_open (Xt:=Xt) (e1▸e2▸left) hY hYk hX hXk hdef hp hk hRf hwr k1 ok hb hw call
namespace theTop
theorem tw31534861572685174:True:=⟨⟩
theorem tw31545443846256930:True:=⟨⟩
theorem tw36862611050802137:True:=⟨⟩
theorem tw50089128317609170:True:=⟨⟩
theorem tw55317477767391257:True:=⟨⟩
theorem tw101483680598801993:True:=⟨⟩
theorem tw102413515767825404:True:=⟨⟩
theorem tw117983135185748165:True:=⟨⟩
theorem tw120289259935778701:True:=⟨⟩
theorem tw143034232088389356:True:=⟨⟩
theorem tw161210439229330073:True:=⟨⟩
theorem tw177956219482722992:True:=⟨⟩
theorem tw214612917391956642:True:=⟨⟩
theorem tw236547867055456359:True:=⟨⟩
theorem tw270804260149244523:True:=⟨⟩
theorem tw301925198456486292:True:=⟨⟩
theorem tw301941561008495646:True:=⟨⟩
theorem tw312143796445881344:True:=⟨⟩
theorem tw368218018084794266:True:=⟨⟩
theorem tw371208739242236617:True:=⟨⟩
theorem tw374792264206937659:True:=⟨⟩
theorem tw423620313482032975:True:=⟨⟩
theorem tw424546970115209190:True:=⟨⟩
theorem tw445052852715798173:True:=⟨⟩
theorem tw448314742990624942:True:=⟨⟩
theorem tw454600938619031254:True:=⟨⟩
theorem tw497922545332548912:True:=⟨⟩
theorem tw532885784565499930:True:=⟨⟩
theorem tw539309306408815855:True:=⟨⟩
theorem tw545971733423189878:True:=⟨⟩
theorem tw552778797029513756:True:=⟨⟩
theorem tw567977226176399667:True:=⟨⟩
theorem tw650686080860856645:True:=⟨⟩
theorem tw668059385589730262:True:=⟨⟩
theorem tw685388001189949684:True:=⟨⟩
theorem tw696331487978914553:True:=⟨⟩
theorem tw699984574587956895:True:=⟨⟩
theorem tw702108830921377273:True:=⟨⟩
theorem tw776041240982273712:True:=⟨⟩
theorem tw788867157065756391:True:=⟨⟩
theorem tw816359174703363266:True:=⟨⟩
theorem tw838176677700134099:True:=⟨⟩
theorem tw845047076793644445:True:=⟨⟩
theorem tw878359724687678738:True:=⟨⟩
theorem tw882309680499327114:True:=⟨⟩
theorem tw921895188941052050:True:=⟨⟩
theorem tw924488464771677909:True:=⟨⟩
theorem tw939086373677014561:True:=⟨⟩
theorem tw978034348013995784:True:=⟨⟩
theorem tw992159305029900610:True:=⟨⟩
theorem tw996744679051787166:True:=⟨⟩
theorem tw997678527826823199:True:=⟨⟩
theorem tw1002561218094689537:True:=⟨⟩
theorem tw1004428749671848980:True:=⟨⟩
theorem tw1011008343307705820:True:=⟨⟩
theorem tw1015111846099517182:True:=⟨⟩
theorem tw1022608710225369955:True:=⟨⟩
theorem tw1041591303272818750:True:=⟨⟩
theorem tw1114699766805532698:True:=⟨⟩
theorem tw1118523058134102439:True:=⟨⟩
theorem tw1163621114208894942:True:=⟨⟩
theorem tw1166719608620419409:True:=⟨⟩
theorem tw1179557310450802507:True:=⟨⟩
theorem tw1201909347300817604:True:=⟨⟩
theorem tw1209098039594550081:True:=⟨⟩
theorem tw1241638266372561294:True:=⟨⟩
theorem tw1247480233266772026:True:=⟨⟩
theorem tw1248377267061124529:True:=⟨⟩
theorem tw1250329860589286487:True:=⟨⟩
theorem tw1267399230014658416:True:=⟨⟩
theorem tw1306191861734769893:True:=⟨⟩
theorem tw1336410256222915552:True:=⟨⟩
theorem tw1353014601609994201:True:=⟨⟩
theorem tw1378288418418982849:True:=⟨⟩
theorem tw1384999935082334040:True:=⟨⟩
theorem tw1405229917192863372:True:=⟨⟩
theorem tw1411892818540621351:True:=⟨⟩
theorem tw1446614421477503736:True:=⟨⟩
theorem tw1467733933680040681:True:=⟨⟩
theorem tw1492370098323806173:True:=⟨⟩
theorem tw1568643608739283532:True:=⟨⟩
theorem tw1610327347051899505:True:=⟨⟩
theorem tw1641194195259627765:True:=⟨⟩
theorem tw1657808675099661023:True:=⟨⟩
theorem tw1668246675346358355:True:=⟨⟩
theorem tw1674537685262292005:True:=⟨⟩
theorem tw1684018668200230309:True:=⟨⟩
theorem tw1694367083086148557:True:=⟨⟩
theorem tw1717435041088218542:True:=⟨⟩
theorem tw1739876598921912169:True:=⟨⟩
theorem tw1751428345745512292:True:=⟨⟩
theorem tw1761543817757206307:True:=⟨⟩
theorem tw1789069184515382785:True:=⟨⟩
theorem tw1809268185736438963:True:=⟨⟩
theorem tw1810435414981939065:True:=⟨⟩
theorem tw1844086801595907466:True:=⟨⟩
theorem tw1911445030948393958:True:=⟨⟩
theorem tw1932919183320154795:True:=⟨⟩
theorem tw1940549522720374836:True:=⟨⟩
theorem tw1946374031879973892:True:=⟨⟩
theorem tw1968819685864571935:True:=⟨⟩
theorem tw1990118685037404932:True:=⟨⟩
theorem tw2010735926003798479:True:=⟨⟩
theorem tw2033665261854483793:True:=⟨⟩
theorem tw2063990870938233028:True:=⟨⟩
theorem tw2083813170874923657:True:=⟨⟩
theorem tw2084534494186374241:True:=⟨⟩
theorem tw2097643431150696686:True:=⟨⟩
theorem tw2108263277382015111:True:=⟨⟩
theorem tw2143721751268368691:True:=⟨⟩
theorem tw2198118637036442929:True:=⟨⟩
theorem tw2207175233648769624:True:=⟨⟩
theorem tw2229061532047190242:True:=⟨⟩
theorem tw2244631183712466292:True:=⟨⟩
theorem tw2245448122220520813:True:=⟨⟩
theorem tw2253797855658990646:True:=⟨⟩
theorem tw2261474511033783947:True:=⟨⟩
theorem tw2278528957870819001:True:=⟨⟩
theorem tw2291821700734032703:True:=⟨⟩
theorem tw2292189510149240171:True:=⟨⟩
theorem tw2303353024317095326:True:=⟨⟩
theorem tw2312779537453608408:True:=⟨⟩
theorem tw2359428679003771759:True:=⟨⟩
theorem tw2374960379107820277:True:=⟨⟩
theorem tw2375399017274009386:True:=⟨⟩
theorem tw2376058146836951188:True:=⟨⟩
theorem tw2420337502199659511:True:=⟨⟩
theorem tw2511922963200848351:True:=⟨⟩
theorem tw2521061621755085540:True:=⟨⟩
theorem tw2532250687777724977:True:=⟨⟩
theorem tw2552002261875316380:True:=⟨⟩
theorem tw2573717406939489894:True:=⟨⟩
theorem tw2574242211459461076:True:=⟨⟩
theorem tw2575549721994500367:True:=⟨⟩
theorem tw2577703117504417863:True:=⟨⟩
theorem tw2582245416888217685:True:=⟨⟩
theorem tw2588157490831288671:True:=⟨⟩
theorem tw2607270571681717436:True:=⟨⟩
theorem tw2633899230717134147:True:=⟨⟩
theorem tw2640839476930269078:True:=⟨⟩
theorem tw2647606017658090268:True:=⟨⟩
theorem tw2655104320902543462:True:=⟨⟩
theorem tw2673473229972275157:True:=⟨⟩
theorem tw2679933216455534719:True:=⟨⟩
theorem tw2686671644023504597:True:=⟨⟩
theorem tw2736659962939618473:True:=⟨⟩
theorem tw2745306954959639173:True:=⟨⟩
theorem tw2747041586796603528:True:=⟨⟩
theorem tw2751182105560457180:True:=⟨⟩
theorem tw2771946299621937223:True:=⟨⟩
theorem tw2806381356946255566:True:=⟨⟩
theorem tw2852813928274889916:True:=⟨⟩
theorem tw2875977499065331032:True:=⟨⟩
theorem tw2879708465819689881:True:=⟨⟩
theorem tw2889869339256269879:True:=⟨⟩
theorem tw2942469908778024335:True:=⟨⟩
theorem tw2943592336009907408:True:=⟨⟩
theorem tw2964492175652852675:True:=⟨⟩
theorem tw2970480567456448874:True:=⟨⟩
theorem tw2972919936596615230:True:=⟨⟩
theorem tw2990503317290560438:True:=⟨⟩
theorem tw2992433632380969433:True:=⟨⟩
theorem tw2992895841545994893:True:=⟨⟩
theorem tw3035060140447266727:True:=⟨⟩
theorem tw3043291481989413233:True:=⟨⟩
theorem tw3052980158524542859:True:=⟨⟩
theorem tw3106380204930901363:True:=⟨⟩
theorem tw3108106563113319896:True:=⟨⟩
theorem tw3127524996794327981:True:=⟨⟩
theorem tw3153440960178286003:True:=⟨⟩
theorem tw3183673825124386290:True:=⟨⟩
theorem tw3183836114485666132:True:=⟨⟩
theorem tw3214005648391132582:True:=⟨⟩
theorem tw3228130350371827618:True:=⟨⟩
theorem tw3235905209801966556:True:=⟨⟩
theorem tw3264580739762946428:True:=⟨⟩
theorem tw3279530506104130048:True:=⟨⟩
theorem tw3318807689313790830:True:=⟨⟩
theorem tw3337602595665696287:True:=⟨⟩
theorem tw3374281928550897671:True:=⟨⟩
theorem tw3410123659888691034:True:=⟨⟩
theorem tw3428321418382544973:True:=⟨⟩
theorem tw3437635211666056227:True:=⟨⟩
theorem tw3455455268235905116:True:=⟨⟩
theorem tw3457167572076788705:True:=⟨⟩
theorem tw3459467784304798862:True:=⟨⟩
theorem tw3463825452997467920:True:=⟨⟩
theorem tw3490431649603220255:True:=⟨⟩
theorem tw3515093405255059438:True:=⟨⟩
theorem tw3517473324157415894:True:=⟨⟩
theorem tw3527161971257874183:True:=⟨⟩
theorem tw3544602965614424436:True:=⟨⟩
theorem tw3558574883126750731:True:=⟨⟩
theorem tw3565548688206263905:True:=⟨⟩
theorem tw3587448106851478542:True:=⟨⟩
theorem tw3601439555110071742:True:=⟨⟩
theorem tw3641612149825133777:True:=⟨⟩
theorem tw3676534564587151607:True:=⟨⟩
theorem tw3692587546573827583:True:=⟨⟩
theorem tw3708408945648906019:True:=⟨⟩
theorem tw3732391470508552809:True:=⟨⟩
theorem tw3772249724215384348:True:=⟨⟩
theorem tw3779187009332287711:True:=⟨⟩
theorem tw3791076687336802043:True:=⟨⟩
theorem tw3797028464872850647:True:=⟨⟩
theorem tw3850666733004983536:True:=⟨⟩
theorem tw3864250073405206665:True:=⟨⟩
theorem tw3873460306626063651:True:=⟨⟩
theorem tw3894710745306609054:True:=⟨⟩
theorem tw3905040045626731834:True:=⟨⟩
theorem tw3912840423983078077:True:=⟨⟩
theorem tw3920313834039149745:True:=⟨⟩
theorem tw3923812828109373802:True:=⟨⟩
theorem tw3931948602723099214:True:=⟨⟩
theorem tw3939105233053151917:True:=⟨⟩
theorem tw3940747521428715607:True:=⟨⟩
theorem tw3949611875943813048:True:=⟨⟩
theorem tw3980233055398138772:True:=⟨⟩
theorem tw3996769179448367316:True:=⟨⟩
theorem tw4030743026073743032:True:=⟨⟩
theorem tw4035158634804779367:True:=⟨⟩
theorem tw4054486423604905289:True:=⟨⟩
theorem tw4077075460436133870:True:=⟨⟩
theorem tw4115735274143162039:True:=⟨⟩
theorem tw4118209226322395356:True:=⟨⟩
theorem tw4128949149474990365:True:=⟨⟩
theorem tw4152880630795522321:True:=⟨⟩
theorem tw4202954290362840073:True:=⟨⟩
theorem tw4205983141386420779:True:=⟨⟩
theorem tw4219081048085077372:True:=⟨⟩
theorem tw4220320525802281769:True:=⟨⟩
theorem tw4253671953590599314:True:=⟨⟩
theorem tw4266060239301641992:True:=⟨⟩
theorem tw4296018311600741574:True:=⟨⟩
theorem tw4312989095905530695:True:=⟨⟩
theorem tw4319217411519800809:True:=⟨⟩
theorem tw4362260730863188119:True:=⟨⟩
theorem tw4371293515224177572:True:=⟨⟩
theorem tw4424933976985978511:True:=⟨⟩
theorem tw4456769090006404954:True:=⟨⟩
theorem tw4464462744152088574:True:=⟨⟩
theorem tw4516649939690193051:True:=⟨⟩
theorem tw4537124156355203507:True:=⟨⟩
theorem tw4541644955732922624:True:=⟨⟩
theorem tw4552395430145896912:True:=⟨⟩
theorem tw4554952221493679155:True:=⟨⟩
theorem tw4556329804256101239:True:=⟨⟩
theorem tw4583077857659529760:True:=⟨⟩
theorem tw4630911582616951134:True:=⟨⟩
theorem tw4651523967398716057:True:=⟨⟩
theorem tw4700930535603393302:True:=⟨⟩
theorem tw4721716225816247449:True:=⟨⟩
theorem tw4734268771327404986:True:=⟨⟩
theorem tw4757023832046170722:True:=⟨⟩
theorem tw4762276386212113421:True:=⟨⟩
theorem tw4772904124852806037:True:=⟨⟩
theorem tw4801970575956899682:True:=⟨⟩
theorem tw4808437948935640354:True:=⟨⟩
theorem tw4818529360748366585:True:=⟨⟩
theorem tw4825307009933948384:True:=⟨⟩
theorem tw4850662727704276209:True:=⟨⟩
theorem tw4853201335370614849:True:=⟨⟩
theorem tw4859715605443811382:True:=⟨⟩
theorem tw4866328087112202597:True:=⟨⟩
theorem tw4877575577092943284:True:=⟨⟩
theorem tw4890076499497753381:True:=⟨⟩
theorem tw4897410562438671235:True:=⟨⟩
theorem tw4919333569728789206:True:=⟨⟩
theorem tw4929208646595945608:True:=⟨⟩
theorem tw4938487816413266225:True:=⟨⟩
theorem tw4944694213606387539:True:=⟨⟩
theorem tw4945365677662883755:True:=⟨⟩
theorem tw4976236897030631633:True:=⟨⟩
theorem tw4996168971960604683:True:=⟨⟩
theorem tw5037217359432811505:True:=⟨⟩
theorem tw5059460992354635008:True:=⟨⟩
theorem tw5067145374598476568:True:=⟨⟩
theorem tw5083377569337244505:True:=⟨⟩
theorem tw5089763575988310105:True:=⟨⟩
theorem tw5090001486201544150:True:=⟨⟩
theorem tw5115046378872490797:True:=⟨⟩
theorem tw5122565238430989627:True:=⟨⟩
theorem tw5122829279925258352:True:=⟨⟩
theorem tw5138322668618519415:True:=⟨⟩
theorem tw5153158184182565946:True:=⟨⟩
theorem tw5165003947663793523:True:=⟨⟩
theorem tw5170895082769567142:True:=⟨⟩
theorem tw5181100029229859260:True:=⟨⟩
theorem tw5202070983200668282:True:=⟨⟩
theorem tw5213411085787516693:True:=⟨⟩
theorem tw5258345704576667477:True:=⟨⟩
theorem tw5264594010625819595:True:=⟨⟩
theorem tw5287383833890764245:True:=⟨⟩
theorem tw5291752054368615652:True:=⟨⟩
theorem tw5302745405619488706:True:=⟨⟩
theorem tw5304450799378946344:True:=⟨⟩
theorem tw5318184627972930803:True:=⟨⟩
theorem tw5321085438405729540:True:=⟨⟩
theorem tw5323624399297942877:True:=⟨⟩
theorem tw5326352705072004673:True:=⟨⟩
theorem tw5351708182999630553:True:=⟨⟩
theorem tw5371760004945993169:True:=⟨⟩
theorem tw5414198416859384674:True:=⟨⟩
theorem tw5415825647571351485:True:=⟨⟩
theorem tw5431188107242534255:True:=⟨⟩
theorem tw5447223854357513281:True:=⟨⟩
theorem tw5465532736223297926:True:=⟨⟩
theorem tw5483642075512186858:True:=⟨⟩
theorem tw5490544063652784136:True:=⟨⟩
theorem tw5518196864380689203:True:=⟨⟩
theorem tw5519594774602295204:True:=⟨⟩
theorem tw5531221587461518274:True:=⟨⟩
theorem tw5539712691523586319:True:=⟨⟩
theorem tw5547948787909755402:True:=⟨⟩
theorem tw5650819840625458670:True:=⟨⟩
theorem tw5679123514618026470:True:=⟨⟩
theorem tw5692127102169203529:True:=⟨⟩
theorem tw5740944552937021618:True:=⟨⟩
theorem tw5769204941104829245:True:=⟨⟩
theorem tw5772235502928307481:True:=⟨⟩
theorem tw5792546258868326695:True:=⟨⟩
theorem tw5798632025699668799:True:=⟨⟩
theorem tw5801000050273297567:True:=⟨⟩
theorem tw5856164293217652557:True:=⟨⟩
theorem tw5869827354731061163:True:=⟨⟩
theorem tw5939707273115737160:True:=⟨⟩
theorem tw5945297010968313330:True:=⟨⟩
theorem tw5991759034230981493:True:=⟨⟩
theorem tw5992274681270891128:True:=⟨⟩
theorem tw6005500603051246171:True:=⟨⟩
theorem tw6012143169089434766:True:=⟨⟩
theorem tw6029346481126760562:True:=⟨⟩
theorem tw6037305897651757241:True:=⟨⟩
theorem tw6052470982932997524:True:=⟨⟩
theorem tw6070302852306775036:True:=⟨⟩
theorem tw6105511276334783834:True:=⟨⟩
theorem tw6105757184984456061:True:=⟨⟩
theorem tw6117176880217267269:True:=⟨⟩
theorem tw6125191995145855032:True:=⟨⟩
theorem tw6138738592605765925:True:=⟨⟩
theorem tw6163889961853707382:True:=⟨⟩
theorem tw6197873494935667016:True:=⟨⟩
theorem tw6214487375788060965:True:=⟨⟩
theorem tw6215343414880635077:True:=⟨⟩
theorem tw6225447842969657550:True:=⟨⟩
theorem tw6246360586598050298:True:=⟨⟩
theorem tw6250887139133374954:True:=⟨⟩
theorem tw6273231585821893805:True:=⟨⟩
theorem tw6315036808894159521:True:=⟨⟩
theorem tw6325707060951497643:True:=⟨⟩
theorem tw6327572253350043250:True:=⟨⟩
theorem tw6352130480152012672:True:=⟨⟩
theorem tw6375448628509682175:True:=⟨⟩
theorem tw6404465749966243612:True:=⟨⟩
theorem tw6426168619112454736:True:=⟨⟩
theorem tw6426717687805137448:True:=⟨⟩
theorem tw6433921961963082578:True:=⟨⟩
theorem tw6479343168294627868:True:=⟨⟩
theorem tw6494243331995684252:True:=⟨⟩
theorem tw6500510137814858869:True:=⟨⟩
theorem tw6525611060951960577:True:=⟨⟩
theorem tw6584255265845853707:True:=⟨⟩
theorem tw6597067559338615358:True:=⟨⟩
theorem tw6651243662630238278:True:=⟨⟩
theorem tw6668192629240373632:True:=⟨⟩
theorem tw6678728370886516483:True:=⟨⟩
theorem tw6710813779405031673:True:=⟨⟩
theorem tw6800557144144018511:True:=⟨⟩
theorem tw6840164851229805134:True:=⟨⟩
theorem tw6866739756692218101:True:=⟨⟩
theorem tw6874979552408818118:True:=⟨⟩
theorem tw6956219090603690222:True:=⟨⟩
theorem tw6984449378724662709:True:=⟨⟩
theorem tw6990011921331127527:True:=⟨⟩
theorem tw7005817310289973098:True:=⟨⟩
theorem tw7012844523359471542:True:=⟨⟩
theorem tw7016681122415762861:True:=⟨⟩
theorem tw7019437363735411549:True:=⟨⟩
theorem tw7033651704159396069:True:=⟨⟩
theorem tw7048118876570497226:True:=⟨⟩
theorem tw7066933016307798707:True:=⟨⟩
theorem tw7098373536406783629:True:=⟨⟩
theorem tw7242459958503192846:True:=⟨⟩
theorem tw7260222368276859401:True:=⟨⟩
theorem tw7272854583665678623:True:=⟨⟩
theorem tw7282875988719088044:True:=⟨⟩
theorem tw7328470010682639912:True:=⟨⟩
theorem tw7378410725432478757:True:=⟨⟩
theorem tw7405958356168544264:True:=⟨⟩
theorem tw7441843757008424343:True:=⟨⟩
theorem tw7454640885771370263:True:=⟨⟩
theorem tw7493891114607091773:True:=⟨⟩
theorem tw7497268364666395245:True:=⟨⟩
theorem tw7545726467380309113:True:=⟨⟩
theorem tw7564328734289656452:True:=⟨⟩
theorem tw7578481526495366750:True:=⟨⟩
theorem tw7579765745181763265:True:=⟨⟩
theorem tw7584885035607938001:True:=⟨⟩
theorem tw7586648560742384324:True:=⟨⟩
theorem tw7631941379891131370:True:=⟨⟩
theorem tw7635505880554906610:True:=⟨⟩
theorem tw7642626117285696973:True:=⟨⟩
theorem tw7650298571279011647:True:=⟨⟩
theorem tw7657849039365696975:True:=⟨⟩
theorem tw7662188594575092057:True:=⟨⟩
theorem tw7683451857623162890:True:=⟨⟩
theorem tw7713505078998553036:True:=⟨⟩
theorem tw7733392865855670075:True:=⟨⟩
theorem tw7799739724563768563:True:=⟨⟩
theorem tw7823626364899005744:True:=⟨⟩
theorem tw7915314860851710693:True:=⟨⟩
theorem tw7917826448397067759:True:=⟨⟩
theorem tw7928361233340114032:True:=⟨⟩
theorem tw7930640023025303046:True:=⟨⟩
theorem tw7949671482684337665:True:=⟨⟩
theorem tw7960434109456016403:True:=⟨⟩
theorem tw7978180301410778906:True:=⟨⟩
theorem tw7997319682847006991:True:=⟨⟩
theorem tw8011209970864236970:True:=⟨⟩
theorem tw8019016241208741512:True:=⟨⟩
theorem tw8022083170850758838:True:=⟨⟩
theorem tw8025053471694071037:True:=⟨⟩
theorem tw8025704284968381489:True:=⟨⟩
theorem tw8028618007416304056:True:=⟨⟩
theorem tw8061106898200484822:True:=⟨⟩
theorem tw8062830914481856152:True:=⟨⟩
theorem tw8070793027426627044:True:=⟨⟩
theorem tw8078957466066354609:True:=⟨⟩
theorem tw8080469821188270892:True:=⟨⟩
theorem tw8080641179813196289:True:=⟨⟩
theorem tw8087807977749342656:True:=⟨⟩
theorem tw8090362662721757867:True:=⟨⟩
theorem tw8099671715033880208:True:=⟨⟩
theorem tw8109202046722456177:True:=⟨⟩
theorem tw8110372135092212680:True:=⟨⟩
theorem tw8113873016674937529:True:=⟨⟩
theorem tw8130968845407532826:True:=⟨⟩
theorem tw8148711839017436521:True:=⟨⟩
theorem tw8169565285653311187:True:=⟨⟩
theorem tw8187363813541371306:True:=⟨⟩
theorem tw8189312117550341783:True:=⟨⟩
theorem tw8200821807021498569:True:=⟨⟩
theorem tw8254357838976265181:True:=⟨⟩
theorem tw8272864677382275662:True:=⟨⟩
theorem tw8298150619649073419:True:=⟨⟩
theorem tw8323251976303550447:True:=⟨⟩
theorem tw8357032503676289634:True:=⟨⟩
theorem tw8359840534178755534:True:=⟨⟩
theorem tw8383620602661683740:True:=⟨⟩
theorem tw8421238812910315055:True:=⟨⟩
theorem tw8450365168422016858:True:=⟨⟩
theorem tw8471140543380598570:True:=⟨⟩
theorem tw8493880522952777277:True:=⟨⟩
theorem tw8506030534333470324:True:=⟨⟩
theorem tw8520360216159621976:True:=⟨⟩
theorem tw8524261173873656354:True:=⟨⟩
theorem tw8591931676879271027:True:=⟨⟩
theorem tw8595853987855663284:True:=⟨⟩
theorem tw8598590050956024168:True:=⟨⟩
theorem tw8610240051027011584:True:=⟨⟩
theorem tw8613036281220070165:True:=⟨⟩
theorem tw8674046291009364721:True:=⟨⟩
theorem tw8689079652547289139:True:=⟨⟩
theorem tw8702850563660159581:True:=⟨⟩
theorem tw8705964325910572186:True:=⟨⟩
theorem tw8758917044185825266:True:=⟨⟩
theorem tw8760760994709794295:True:=⟨⟩
theorem tw8798764440485479897:True:=⟨⟩
theorem tw8800148561695475222:True:=⟨⟩
theorem tw8800998866852095636:True:=⟨⟩
theorem tw8837096583682325983:True:=⟨⟩
theorem tw8837841499310340622:True:=⟨⟩
theorem tw8842413787082542496:True:=⟨⟩
theorem tw8848138011141750759:True:=⟨⟩
theorem tw8849562340202437502:True:=⟨⟩
theorem tw8861595745675622016:True:=⟨⟩
theorem tw8906798297952856523:True:=⟨⟩
theorem tw8918227451768246422:True:=⟨⟩
theorem tw8956108730080150587:True:=⟨⟩
theorem tw8957331181207535384:True:=⟨⟩
theorem tw9031072881569021484:True:=⟨⟩
theorem tw9047428940201849675:True:=⟨⟩
theorem tw9175700407489183859:True:=⟨⟩
theorem tw9215046290824720800:True:=⟨⟩
theorem tw9239952845690492103:True:=⟨⟩
theorem tw9263736398631814474:True:=⟨⟩
theorem tw9278263112304347117:True:=⟨⟩
theorem tw9285364161975813224:True:=⟨⟩
theorem tw9301786022333567015:True:=⟨⟩
theorem tw9368668972921830795:True:=⟨⟩
theorem tw9369262503573733430:True:=⟨⟩
theorem tw9372569408293833681:True:=⟨⟩
theorem tw9386581874273612700:True:=⟨⟩
theorem tw9437188886923633271:True:=⟨⟩
theorem tw9443001842235349785:True:=⟨⟩
theorem tw9504461251536016496:True:=⟨⟩
theorem tw9509595267078737317:True:=⟨⟩
theorem tw9545445108131610054:True:=⟨⟩
theorem tw9546633277878545554:True:=⟨⟩
theorem tw9626250076376486500:True:=⟨⟩
theorem tw9645455573386013172:True:=⟨⟩
theorem tw9646661582791250106:True:=⟨⟩
theorem tw9695648807125791014:True:=⟨⟩
theorem tw9766432479319401235:True:=⟨⟩
theorem tw9778437540776132329:True:=⟨⟩
theorem tw9784989235868617102:True:=⟨⟩
theorem tw9845758314237435963:True:=⟨⟩
theorem tw9857207268606404336:True:=⟨⟩
theorem tw9875382901019636881:True:=⟨⟩
theorem tw9884103196072376339:True:=⟨⟩
theorem tw9906916153566238205:True:=⟨⟩
theorem tw9921066716289928329:True:=⟨⟩
theorem tw9923997270216408094:True:=⟨⟩
theorem tw9929530961791381617:True:=⟨⟩
theorem tw9936018252817014102:True:=⟨⟩
theorem tw9951303533760097614:True:=⟨⟩
theorem tw9961092343721910272:True:=⟨⟩
theorem tw9971997305524620675:True:=⟨⟩
theorem tw9975807285282594933:True:=⟨⟩
theorem tw9982219436206566781:True:=⟨⟩
theorem tw9999427847948402294:True:=⟨⟩
theorem tw10057607500856410530:True:=⟨⟩
theorem tw10063585870915458054:True:=⟨⟩
theorem tw10068348166144936303:True:=⟨⟩
theorem tw10082035999983029346:True:=⟨⟩
theorem tw10095360323964861792:True:=⟨⟩
theorem tw10099425632013694199:True:=⟨⟩
theorem tw10109685645573190445:True:=⟨⟩
theorem tw10116307703403257036:True:=⟨⟩
theorem tw10118720722344617282:True:=⟨⟩
theorem tw10138618932417256871:True:=⟨⟩
theorem tw10143567606137432560:True:=⟨⟩
theorem tw10162507822117945656:True:=⟨⟩
theorem tw10201430261610862968:True:=⟨⟩
theorem tw10210764633202374970:True:=⟨⟩
theorem tw10219354842051022850:True:=⟨⟩
theorem tw10226470927219307728:True:=⟨⟩
theorem tw10242482925650608225:True:=⟨⟩
theorem tw10282981537821624435:True:=⟨⟩
theorem tw10310328281517005405:True:=⟨⟩
theorem tw10330045216315860155:True:=⟨⟩
theorem tw10333114166136587622:True:=⟨⟩
theorem tw10347454492635416788:True:=⟨⟩
theorem tw10424425319970596981:True:=⟨⟩
theorem tw10448973595958388740:True:=⟨⟩
theorem tw10478643846103374060:True:=⟨⟩
theorem tw10523016402377011287:True:=⟨⟩
theorem tw10539676505968940222:True:=⟨⟩
theorem tw10578020862971458659:True:=⟨⟩
theorem tw10579680217311790483:True:=⟨⟩
theorem tw10581995924803217867:True:=⟨⟩
theorem tw10608063190861204807:True:=⟨⟩
theorem tw10629186472826524222:True:=⟨⟩
theorem tw10667241721886315429:True:=⟨⟩
theorem tw10680581634623077167:True:=⟨⟩
theorem tw10688205215609650412:True:=⟨⟩
theorem tw10688394331210060787:True:=⟨⟩
theorem tw10705860745878179472:True:=⟨⟩
theorem tw10741946995210320007:True:=⟨⟩
theorem tw10742716261397786789:True:=⟨⟩
theorem tw10748792627389939559:True:=⟨⟩
theorem tw10761846658470025097:True:=⟨⟩
theorem tw10774931608938516437:True:=⟨⟩
theorem tw10784197759404835413:True:=⟨⟩
theorem tw10802147688487730689:True:=⟨⟩
theorem tw10813411939739110994:True:=⟨⟩
theorem tw10872688985645482858:True:=⟨⟩
theorem tw10887013924152656757:True:=⟨⟩
theorem tw10931574557075706866:True:=⟨⟩
theorem tw10942097713718957937:True:=⟨⟩
theorem tw10979446681090870763:True:=⟨⟩
theorem tw11049015808683183555:True:=⟨⟩
theorem tw11055892687001537014:True:=⟨⟩
theorem tw11057688251607266284:True:=⟨⟩
theorem tw11123011823661381992:True:=⟨⟩
theorem tw11123692414088588444:True:=⟨⟩
theorem tw11124279515133887430:True:=⟨⟩
theorem tw11139326826183293179:True:=⟨⟩
theorem tw11199761641267435375:True:=⟨⟩
theorem tw11219015687136197195:True:=⟨⟩
theorem tw11249380592909913035:True:=⟨⟩
theorem tw11258063556102935757:True:=⟨⟩
theorem tw11266220184282845435:True:=⟨⟩
theorem tw11281757601809138443:True:=⟨⟩
theorem tw11284846431141820383:True:=⟨⟩
theorem tw11293935528107254630:True:=⟨⟩
theorem tw11324952024330466716:True:=⟨⟩
theorem tw11364362443913022846:True:=⟨⟩
theorem tw11372169565164485844:True:=⟨⟩
theorem tw11376502991516171887:True:=⟨⟩
theorem tw11406839943981346025:True:=⟨⟩
theorem tw11446373001870777755:True:=⟨⟩
theorem tw11468213006362172498:True:=⟨⟩
theorem tw11469450870435929509:True:=⟨⟩
theorem tw11515343984985051218:True:=⟨⟩
theorem tw11556154708203785100:True:=⟨⟩
theorem tw11561552007103288585:True:=⟨⟩
theorem tw11579690212623266153:True:=⟨⟩
theorem tw11666789759039159807:True:=⟨⟩
theorem tw11673300559436753466:True:=⟨⟩
theorem tw11729456231933343662:True:=⟨⟩
theorem tw11733441192106073681:True:=⟨⟩
theorem tw11757626677821388660:True:=⟨⟩
theorem tw11766842188899865396:True:=⟨⟩
theorem tw11770266844944066690:True:=⟨⟩
theorem tw11777073382358391721:True:=⟨⟩
theorem tw11785983629990683352:True:=⟨⟩
theorem tw11806384067567595405:True:=⟨⟩
theorem tw11810638120833215290:True:=⟨⟩
theorem tw11818408252280232545:True:=⟨⟩
theorem tw11825200004735600563:True:=⟨⟩
theorem tw11877146013538834160:True:=⟨⟩
theorem tw11902595003533628116:True:=⟨⟩
theorem tw11959941624686038012:True:=⟨⟩
theorem tw12006699041332623732:True:=⟨⟩
theorem tw12059088307168789023:True:=⟨⟩
theorem tw12090372521596886226:True:=⟨⟩
theorem tw12176503446953120409:True:=⟨⟩
theorem tw12198085414011370935:True:=⟨⟩
theorem tw12216801593202641046:True:=⟨⟩
theorem tw12219354944520514549:True:=⟨⟩
theorem tw12227838660372707231:True:=⟨⟩
theorem tw12232960160036252331:True:=⟨⟩
theorem tw12244238992877839290:True:=⟨⟩
theorem tw12281232432832098341:True:=⟨⟩
theorem tw12320165966023576395:True:=⟨⟩
theorem tw12358527897461801944:True:=⟨⟩
theorem tw12360394532573701350:True:=⟨⟩
theorem tw12363444112154031732:True:=⟨⟩
theorem tw12371436189571277228:True:=⟨⟩
theorem tw12416721843953356686:True:=⟨⟩
theorem tw12462966125985441830:True:=⟨⟩
theorem tw12572517973823727625:True:=⟨⟩
theorem tw12582593748169371719:True:=⟨⟩
theorem tw12591063338053399217:True:=⟨⟩
theorem tw12619701897926178837:True:=⟨⟩
theorem tw12624417467260056608:True:=⟨⟩
theorem tw12695021937991011980:True:=⟨⟩
theorem tw12703141084258008975:True:=⟨⟩
theorem tw12711641069086099862:True:=⟨⟩
theorem tw12712637945492617187:True:=⟨⟩
theorem tw12718377934321704333:True:=⟨⟩
theorem tw12778964504355433087:True:=⟨⟩
theorem tw12841023288757417351:True:=⟨⟩
theorem tw12845917724560235354:True:=⟨⟩
theorem tw12945319616790111250:True:=⟨⟩
theorem tw12956553996427556366:True:=⟨⟩
theorem tw12983813793032119672:True:=⟨⟩
theorem tw12997755006181993994:True:=⟨⟩
theorem tw13049311061698869911:True:=⟨⟩
theorem tw13100421189355672787:True:=⟨⟩
theorem tw13105333390497861222:True:=⟨⟩
theorem tw13113156474530071599:True:=⟨⟩
theorem tw13150988466283590502:True:=⟨⟩
theorem tw13194609317996469691:True:=⟨⟩
theorem tw13242014259902087075:True:=⟨⟩
theorem tw13244829241001095396:True:=⟨⟩
theorem tw13290255460757250595:True:=⟨⟩
theorem tw13330361120164350208:True:=⟨⟩
theorem tw13340669708936281047:True:=⟨⟩
theorem tw13355991316237534126:True:=⟨⟩
theorem tw13361372623699992666:True:=⟨⟩
theorem tw13387834412152478025:True:=⟨⟩
theorem tw13397846538220820287:True:=⟨⟩
theorem tw13404943130541736446:True:=⟨⟩
theorem tw13445886217890836873:True:=⟨⟩
theorem tw13476040466563508100:True:=⟨⟩
theorem tw13476086442413658172:True:=⟨⟩
theorem tw13488854065326499542:True:=⟨⟩
theorem tw13493671384219100589:True:=⟨⟩
theorem tw13504497394542756695:True:=⟨⟩
theorem tw13530761858586062465:True:=⟨⟩
theorem tw13537628985957191104:True:=⟨⟩
theorem tw13541495689926477063:True:=⟨⟩
theorem tw13544008763666667435:True:=⟨⟩
theorem tw13550029513236951890:True:=⟨⟩
theorem tw13551516108603271873:True:=⟨⟩
theorem tw13569713931724910340:True:=⟨⟩
theorem tw13637309237288315968:True:=⟨⟩
theorem tw13649418672469503479:True:=⟨⟩
theorem tw13662981634457626857:True:=⟨⟩
theorem tw13705417241348454897:True:=⟨⟩
theorem tw13718810398050682988:True:=⟨⟩
theorem tw13723314262651776947:True:=⟨⟩
theorem tw13732538650259146640:True:=⟨⟩
theorem tw13741791237343551836:True:=⟨⟩
theorem tw13808080160940846196:True:=⟨⟩
theorem tw13810333187569180550:True:=⟨⟩
theorem tw13819901394670307058:True:=⟨⟩
theorem tw13823367328241435625:True:=⟨⟩
theorem tw13828714891807311579:True:=⟨⟩
theorem tw13830708906368049744:True:=⟨⟩
theorem tw13859812913079247753:True:=⟨⟩
theorem tw13877861281834323599:True:=⟨⟩
theorem tw13900870207795237962:True:=⟨⟩
theorem tw13924960026306751418:True:=⟨⟩
theorem tw13955367820801231636:True:=⟨⟩
theorem tw13965886464766068128:True:=⟨⟩
theorem tw13975575989327412435:True:=⟨⟩
theorem tw13994521279028877406:True:=⟨⟩
theorem tw14025357188711868409:True:=⟨⟩
theorem tw14027914364841024967:True:=⟨⟩
theorem tw14056780664487153907:True:=⟨⟩
theorem tw14137042261113757442:True:=⟨⟩
theorem tw14159665134745998137:True:=⟨⟩
theorem tw14164379463777541523:True:=⟨⟩
theorem tw14201194874397981063:True:=⟨⟩
theorem tw14223828218261822129:True:=⟨⟩
theorem tw14232198112219389212:True:=⟨⟩
theorem tw14270770296766100067:True:=⟨⟩
theorem tw14358522297913032249:True:=⟨⟩
theorem tw14369609760182269832:True:=⟨⟩
theorem tw14373498503667004036:True:=⟨⟩
theorem tw14386028993736554683:True:=⟨⟩
theorem tw14402137398244878623:True:=⟨⟩
theorem tw14406451208662312142:True:=⟨⟩
theorem tw14409145325016285865:True:=⟨⟩
theorem tw14456285436266129685:True:=⟨⟩
theorem tw14463471769286875510:True:=⟨⟩
theorem tw14499302823731871539:True:=⟨⟩
theorem tw14505456475521737565:True:=⟨⟩
theorem tw14505921229309735513:True:=⟨⟩
theorem tw14521042321513035399:True:=⟨⟩
theorem tw14521389155404495015:True:=⟨⟩
theorem tw14532650511428983440:True:=⟨⟩
theorem tw14547959223350503685:True:=⟨⟩
theorem tw14549135335043844055:True:=⟨⟩
theorem tw14557583950767444720:True:=⟨⟩
theorem tw14566693010364013713:True:=⟨⟩
theorem tw14573350716997389428:True:=⟨⟩
theorem tw14632107409921056873:True:=⟨⟩
theorem tw14639544065508274345:True:=⟨⟩
theorem tw14672084610623674924:True:=⟨⟩
theorem tw14713083384561654727:True:=⟨⟩
theorem tw14749066282740617380:True:=⟨⟩
theorem tw14786533893028851596:True:=⟨⟩
theorem tw14798242367855238665:True:=⟨⟩
theorem tw14804497472947351133:True:=⟨⟩
theorem tw14804920047375277890:True:=⟨⟩
theorem tw14855543846712869643:True:=⟨⟩
theorem tw14856563950722062826:True:=⟨⟩
theorem tw14883999357221612063:True:=⟨⟩
theorem tw14889511632529703843:True:=⟨⟩
theorem tw14894246343161137409:True:=⟨⟩
theorem tw14935015350080103194:True:=⟨⟩
theorem tw14935928697699225805:True:=⟨⟩
theorem tw14950607094978818666:True:=⟨⟩
theorem tw14968695994465840847:True:=⟨⟩
theorem tw14988147038421060050:True:=⟨⟩
theorem tw14989292580518242870:True:=⟨⟩
theorem tw15008948249998030489:True:=⟨⟩
theorem tw15019691355503572082:True:=⟨⟩
theorem tw15027159413320921143:True:=⟨⟩
theorem tw15044435977260753884:True:=⟨⟩
theorem tw15075170959175818786:True:=⟨⟩
theorem tw15087065666246547244:True:=⟨⟩
theorem tw15100094434790457729:True:=⟨⟩
theorem tw15121614532493777631:True:=⟨⟩
theorem tw15124877432000301006:True:=⟨⟩
theorem tw15134425957509067981:True:=⟨⟩
theorem tw15147230651991751547:True:=⟨⟩
theorem tw15155419298581852617:True:=⟨⟩
theorem tw15159656778558982978:True:=⟨⟩
theorem tw15209887892231678256:True:=⟨⟩
theorem tw15226679648055803352:True:=⟨⟩
theorem tw15230895595399353098:True:=⟨⟩
theorem tw15239337613925553427:True:=⟨⟩
theorem tw15241014753224930446:True:=⟨⟩
theorem tw15259449365970087854:True:=⟨⟩
theorem tw15266864358571147702:True:=⟨⟩
theorem tw15273376126416662441:True:=⟨⟩
theorem tw15275769035195885117:True:=⟨⟩
theorem tw15276355426295937250:True:=⟨⟩
theorem tw15314441091750640308:True:=⟨⟩
theorem tw15364673160731643230:True:=⟨⟩
theorem tw15383963612016418916:True:=⟨⟩
theorem tw15392676279073568371:True:=⟨⟩
theorem tw15437255309638544174:True:=⟨⟩
theorem tw15460498418034775423:True:=⟨⟩
theorem tw15504098025026515397:True:=⟨⟩
theorem tw15509122856164939104:True:=⟨⟩
theorem tw15535758315258777722:True:=⟨⟩
theorem tw15576166160791844457:True:=⟨⟩
theorem tw15583692550322892771:True:=⟨⟩
theorem tw15600402783475690870:True:=⟨⟩
theorem tw15607391657085283557:True:=⟨⟩
theorem tw15614599914054096401:True:=⟨⟩
theorem tw15642860808594857052:True:=⟨⟩
theorem tw15688474957310793431:True:=⟨⟩
theorem tw15696618831192365202:True:=⟨⟩
theorem tw15733481832220942290:True:=⟨⟩
theorem tw15757890248604460653:True:=⟨⟩
theorem tw15822935976789309449:True:=⟨⟩
theorem tw15866545991364055214:True:=⟨⟩
theorem tw15889012818465758621:True:=⟨⟩
theorem tw15891728474915208484:True:=⟨⟩
theorem tw15946472870835758430:True:=⟨⟩
theorem tw15948409571593831403:True:=⟨⟩
theorem tw15969862011003814633:True:=⟨⟩
theorem tw15987390779103897900:True:=⟨⟩
theorem tw15990988098712357275:True:=⟨⟩
theorem tw16056503016137921586:True:=⟨⟩
theorem tw16091667422906245572:True:=⟨⟩
theorem tw16093251286479537511:True:=⟨⟩
theorem tw16097897244353320948:True:=⟨⟩
theorem tw16108972423602570303:True:=⟨⟩
theorem tw16111035668015950006:True:=⟨⟩
theorem tw16113118869550699129:True:=⟨⟩
theorem tw16121107144722274085:True:=⟨⟩
theorem tw16144575990375202963:True:=⟨⟩
theorem tw16175516800911910061:True:=⟨⟩
theorem tw16178371364056291014:True:=⟨⟩
theorem tw16182922582056658060:True:=⟨⟩
theorem tw16214972093994583885:True:=⟨⟩
theorem tw16221373347713189844:True:=⟨⟩
theorem tw16272490057698340978:True:=⟨⟩
theorem tw16282203082065026450:True:=⟨⟩
theorem tw16304723027132673128:True:=⟨⟩
theorem tw16325293009105312417:True:=⟨⟩
theorem tw16333793259869406672:True:=⟨⟩
theorem tw16366105306774883011:True:=⟨⟩
theorem tw16366553540909624819:True:=⟨⟩
theorem tw16368287264784685870:True:=⟨⟩
theorem tw16435797176286975654:True:=⟨⟩
theorem tw16447518231626686878:True:=⟨⟩
theorem tw16463326564408840081:True:=⟨⟩
theorem tw16476823175438145736:True:=⟨⟩
theorem tw16484631727631646021:True:=⟨⟩
theorem tw16489256497885398600:True:=⟨⟩
theorem tw16493193306048872762:True:=⟨⟩
theorem tw16565852685240709939:True:=⟨⟩
theorem tw16568253292386849825:True:=⟨⟩
theorem tw16583907557624849388:True:=⟨⟩
theorem tw16591794743349524388:True:=⟨⟩
theorem tw16602145020804290834:True:=⟨⟩
theorem tw16606971885264130929:True:=⟨⟩
theorem tw16618322352677852786:True:=⟨⟩
theorem tw16641764769793023784:True:=⟨⟩
theorem tw16655983466515975392:True:=⟨⟩
theorem tw16670815166002216193:True:=⟨⟩
theorem tw16673652136144037797:True:=⟨⟩
theorem tw16698943224489520418:True:=⟨⟩
theorem tw16735169154066614227:True:=⟨⟩
theorem tw16758096295404435811:True:=⟨⟩
theorem tw16787722134960793597:True:=⟨⟩
theorem tw16787936990586685295:True:=⟨⟩
theorem tw16789364275749511481:True:=⟨⟩
theorem tw16809634238974382944:True:=⟨⟩
theorem tw16814000294553100538:True:=⟨⟩
theorem tw16830958313348957190:True:=⟨⟩
theorem tw16846391601635324070:True:=⟨⟩
theorem tw16873689074648939608:True:=⟨⟩
theorem tw16892932456757895364:True:=⟨⟩
theorem tw16930875523074307418:True:=⟨⟩
theorem tw16933318218448684097:True:=⟨⟩
theorem tw16942954726759375025:True:=⟨⟩
theorem tw16948354381464987797:True:=⟨⟩
theorem tw16955550068022892816:True:=⟨⟩
theorem tw16971253572553700030:True:=⟨⟩
theorem tw17089386225974366589:True:=⟨⟩
theorem tw17108402374992498555:True:=⟨⟩
theorem tw17118204600661273515:True:=⟨⟩
theorem tw17151352744329677661:True:=⟨⟩
theorem tw17178834519702262561:True:=⟨⟩
theorem tw17181728479628052154:True:=⟨⟩
theorem tw17214971038090843766:True:=⟨⟩
theorem tw17238523539898843776:True:=⟨⟩
theorem tw17242124406084109845:True:=⟨⟩
theorem tw17270644646174223555:True:=⟨⟩
theorem tw17294714667419200285:True:=⟨⟩
theorem tw17363331073648958708:True:=⟨⟩
theorem tw17363399137117137464:True:=⟨⟩
theorem tw17368957837107167329:True:=⟨⟩
theorem tw17380313131321003475:True:=⟨⟩
theorem tw17393152930492602801:True:=⟨⟩
theorem tw17394861288165584704:True:=⟨⟩
theorem tw17441463827042382558:True:=⟨⟩
theorem tw17444528914236148497:True:=⟨⟩
theorem tw17456288044926245072:True:=⟨⟩
theorem tw17482821697048074965:True:=⟨⟩
theorem tw17491111681326353798:True:=⟨⟩
theorem tw17513159234515687443:True:=⟨⟩
theorem tw17516662522342130446:True:=⟨⟩
theorem tw17582207411179771904:True:=⟨⟩
theorem tw17647403488463725352:True:=⟨⟩
theorem tw17653456225217350754:True:=⟨⟩
theorem tw17694641414570836364:True:=⟨⟩
theorem tw17723378882559042860:True:=⟨⟩
theorem tw17737178933617779252:True:=⟨⟩
theorem tw17748125834862034540:True:=⟨⟩
theorem tw17772049947650037589:True:=⟨⟩
theorem tw17808490568378791940:True:=⟨⟩
theorem tw17819901425256299128:True:=⟨⟩
theorem tw17858406534139612809:True:=⟨⟩
theorem tw17858642564951239541:True:=⟨⟩
theorem tw17886469361458713851:True:=⟨⟩
theorem tw17917023122706850543:True:=⟨⟩
theorem tw17935581005057128754:True:=⟨⟩
theorem tw17989761332657403362:True:=⟨⟩
theorem tw18006000860503523265:True:=⟨⟩
theorem tw18008033335825038580:True:=⟨⟩
theorem tw18023299780670269194:True:=⟨⟩
theorem tw18068982370225014660:True:=⟨⟩
theorem tw18077751191339011389:True:=⟨⟩
theorem tw18085360659573032238:True:=⟨⟩
theorem tw18091476569884034879:True:=⟨⟩
theorem tw18148713277752693841:True:=⟨⟩
theorem tw18171516219257678476:True:=⟨⟩
theorem tw18214536068918832762:True:=⟨⟩
theorem tw18240249211174700059:True:=⟨⟩
theorem tw18244888305510860926:True:=⟨⟩
theorem tw18250957324196825871:True:=⟨⟩
theorem tw18256154454104224306:True:=⟨⟩
theorem tw18277396246870749686:True:=⟨⟩
theorem tw18293355123699999462:True:=⟨⟩
theorem tw18296018138868417992:True:=⟨⟩
theorem tw18301978895437680790:True:=⟨⟩
theorem tw18317384953526817137:True:=⟨⟩
theorem tw18334871532686403734:True:=⟨⟩
theorem tw18371299414491844300:True:=⟨⟩
theorem tw18371852176233051870:True:=⟨⟩
theorem tw18390749079104426665:True:=⟨⟩
theorem tw18400381843410245476:True:=⟨⟩
theorem tw18429363971407620588:True:=⟨⟩
end theTop
set_option Elab.async true in
theorem theTop:PySem.Challenge.rw_tu0010_01.Holds:=by
 w_on
 o_law
 k_head
 (case hw=>w_witness2)
 w_strict (
  (k_with "pyIter ref"=>first|k_search (fun pre=>True)|(have hIw:=Mine.Internal.two_ints (by assumption); k_search (fun pre=>True)))
  (k_with "call ref"=>(k_here; refine' Mine.Internal.round_K ?r1 ?r2 ?r3 ?r4 ?r5 rfl rfl ?r6 rfl ?r7 ?r8 (Mine.Internal.pf ?p1 ?p2 ?p3 ?p4 ?p5 ?p6 ?p7 ?p8 ?p9 ?p10 ?p11) (Mine.Internal.ew ?e1 ?e2 ?e3 ?e4 ?e5 ?e6 ?e7 ?e8 ?e9 ?e10 ?e11 ?e12 ?e13 ?e14 ?e15) ?_; (case r3=>k_asm); (case r4=>k_asm); (case r2=>k_asm); (case r1=>k_asm); (case r5=>k_all); (case r6=>intro q; cases q); (case r7=>k_units); (case r8=>k_units); k_whole; (case p1=>kernel_rfl); (case p2=>kernel_rfl); (case p3=>kernel_rfl); (case p4=>kernel_rfl); (case p5=>kernel_rfl); (case p6=>kernel_rfl); (case p7=>kernel_rfl); (case p8=>kernel_rfl); (case p9=>kernel_rfl); (case p10=>kernel_rfl); (case p11=>kernel_rfl); (case e1=>kernel_rfl); (case e2=>kernel_rfl); (case e3=>kernel_rfl); (case e4=>kernel_rfl); (case e5=>kernel_rfl); (case e6=>kernel_rfl); (case e7=>kernel_rfl); (case e8=>kernel_rfl); (case e9=>kernel_rfl); (case e10=>kernel_rfl); (case e11=>kernel_rfl); (case e12=>kernel_rfl); (case e13=>kernel_rfl); (case e14=>kernel_rfl); (case e15=>kernel_rfl); intro h' t' a' b' ta' tb' n' F' N'))
  k_go0
  all_goals (try k_fold)
  k_steps)
end Mine.Internal
theorem PySem.Challenge.cw_tu0010_01_holds : PySem.Challenge.rw_tu0010_01.Holds :=
 Mine.Internal.theTop
